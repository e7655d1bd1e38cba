import PyProof.Rows.All
import Wide.All
import OpenK.AllK
import Wide.FinOn
import HandS.ForMost
import HandS.TupAny
import HandS.Conv
import HandS.Zip
import HandS.IsInst
import HandS.Style
import HandS.Wide
import HandS.SortInts
import HandS.DictComp
import HandS.DictTup
import HandS.TupLen
import HandS.ListItems
import HandS.Walk
import KE.GoesEnum
import KE.GoesMore
import HandS.DictSubView
import PySem.Challenge.RW_anycritical_k95_whole_fair_or_breach
set_option Elab.async false
set_option linter.all false
set_option autoImplicit false
set_option maxRecDepth 100000
set_option maxHeartbeats 4000000
/-! K95, the plain law, part 1: the mirror of the closing of a brief. -/
namespace K95
structure Br where
  tasks : List (Int × Int)
  arrows : List (Int × Int)
  limits : List (Int × Int × Int)
  dl : Int
/-- why a line stands -/
inductive Rs where
  | bound (k : Nat) | high (i : Nat) | sum (k l : Nat) | delay (k l : Nat) | early (k : Nat) | ahead (k : Nat) | floor (k : Nat)
  deriving DecidableEq
structure Ln where
  wt : Bool
  a : Int
  b : Int
  w : Int
  r : Rs
section
variable {κ β : Type} [DecidableEq κ]
def look (l : List (κ × β)) (k : κ) : Option β := (l.find? fun p => decide (p.1 = k)).map (·.2)
def put (l : List (κ × β)) (k : κ) (v : β) : List (κ × β) :=
  if (l.any fun p => decide (p.1 = k)) = true then l.map (fun p => if p.1 = k then (p.1, v) else p) else l ++ [(k, v)]
theorem look_nil {k : κ} : look ([] : List (κ × β)) k = none := rfl
theorem look_cons {p : κ × β} {l : List (κ × β)} {k : κ} : look (p :: l) k = if p.1 = k then some p.2 else look l k := by
  unfold look
  rw [List.find?_cons]
  by_cases e : p.1 = k <;> simp [e]
theorem look_mem {l : List (κ × β)} {k : κ} {v : β} (h : look l k = some v) : (k, v) ∈ l := by
  induction l with
  | nil => simp [look] at h
  | cons p l ih =>
    rw [look_cons] at h
    by_cases e : p.1 = k
    · rw [if_pos e] at h
      have h2 : p.2 = v := Option.some.inj h
      rw [← e, ← h2]; exact List.mem_cons_self
    · rw [if_neg e] at h
      exact List.mem_cons_of_mem _ (ih h)
theorem look_none {l : List (κ × β)} {k : κ} (h : look l k = none) : ∀ p ∈ l, p.1 ≠ k := by
  induction l with
  | nil => intro p hp; cases hp
  | cons p l ih =>
    rw [look_cons] at h
    by_cases e : p.1 = k
    · rw [if_pos e] at h; cases h
    · rw [if_neg e] at h
      intro q hq
      rcases List.mem_cons.mp hq with rfl | hq
      · exact e
      · exact ih h q hq
theorem look_of_mem {l : List (κ × β)} {k : κ} {v : β} (hn : (l.map (·.1)).Nodup) (h : (k, v) ∈ l) : look l k = some v := by
  induction l with
  | nil => cases h
  | cons p l ih =>
    rw [List.map_cons, List.nodup_cons] at hn
    rw [look_cons]
    rcases List.mem_cons.mp h with e | h
    · rw [← e]; simp
    · have : p.1 ≠ k := fun e => hn.1 (List.mem_map.mpr ⟨_, h, e.symm⟩)
      rw [if_neg this]; exact ih hn.2 h
theorem look_some_of_key {l : List (κ × β)} {k : κ} (h : k ∈ l.map (·.1)) : ∃ v, look l k = some v := by
  cases e : look l k with
  | some v => exact ⟨v, rfl⟩
  | none =>
    obtain ⟨p, hp, rfl⟩ := List.mem_map.mp h
    exact absurd rfl (look_none e p hp)
theorem any_key (l : List (κ × β)) (k : κ) : (l.any fun p => decide (p.1 = k)) = (look l k).isSome := by
  induction l with
  | nil => rfl
  | cons p l ih =>
    rw [List.any_cons, look_cons, ih]
    by_cases e : p.1 = k <;> simp [e]
theorem look_map (k j : κ) (v : β) : ∀ l : List (κ × β), look (l.map (fun p => if p.1 = k then (p.1, v) else p)) j = if j = k then (look l k).map (fun _ => v) else look l j
  | [] => by by_cases h : j = k <;> simp [look, h]
  | p :: l => by
    rw [List.map_cons, look_cons, look_cons, look_cons, look_map k j v l]
    by_cases h1 : p.1 = k
    · by_cases h2 : j = k
      · subst h2; simp [h1]
      · have h4 : ¬ p.1 = j := fun e => h2 (e.symm.trans h1)
        have h3 : ¬ k = j := fun e => h2 e.symm
        simp [h1, h2, h3]
    · by_cases h2 : j = k
      · subst h2; simp [h1]
      · by_cases h3 : p.1 = j <;> simp [h1, h2, h3]
theorem look_snoc (k j : κ) (v : β) : ∀ l : List (κ × β), look l k = none → look (l ++ [(k, v)]) j = if j = k then some v else look l j
  | [], _ => by
    rw [List.nil_append, look_cons]
    by_cases h : j = k
    · subst h; simp
    · have h3 : ¬ k = j := fun e => h e.symm
      simp [h, h3]
  | p :: l, h => by
    rw [look_cons] at h
    by_cases h1 : p.1 = k
    · rw [if_pos h1] at h; cases h
    · rw [if_neg h1] at h
      rw [List.cons_append, look_cons, look_cons, look_snoc k j v l h]
      by_cases h2 : j = k
      · subst h2; simp [h1]
      · by_cases h3 : p.1 = j <;> simp [h1, h2, h3]
theorem look_put (l : List (κ × β)) (k j : κ) (v : β) : look (put l k v) j = if j = k then some v else look l j := by
  unfold put
  rw [any_key]
  cases e : look l k with
  | some u => simp only [Option.isSome_some, if_true]; rw [look_map, e]; rfl
  | none => simp only [Option.isSome_none]; exact look_snoc k j v l e
theorem keys_put (l : List (κ × β)) (k : κ) (v : β) : (put l k v).map (·.1) = if (look l k).isSome = true then l.map (·.1) else l.map (·.1) ++ [k] := by
  unfold put
  rw [any_key]
  cases e : look l k with
  | some u =>
    simp only [Option.isSome_some, if_true, List.map_map]
    apply List.map_congr_left
    intro p _
    show (if p.1 = k then (p.1, v) else p).1 = p.1
    by_cases h : p.1 = k <;> simp [h]
  | none => simp
theorem nodup_put {l : List (κ × β)} (k : κ) (v : β) (h : (l.map (·.1)).Nodup) : ((put l k v).map (·.1)).Nodup := by
  rw [keys_put]
  cases e : look l k with
  | some u => simpa using h
  | none =>
    simp only [Option.isSome_none]
    show (l.map (·.1) ++ [k]).Nodup
    rw [List.nodup_append]
    refine ⟨h, by simp, ?_⟩
    intro a ha b hb
    rw [List.mem_singleton] at hb
    subst hb
    rintro rfl
    obtain ⟨p, hp, e2⟩ := List.mem_map.mp ha
    exact look_none e p hp e2
theorem mem_keys_put {l : List (κ × β)} {k j : κ} {v : β} : j ∈ (put l k v).map (·.1) ↔ j = k ∨ j ∈ l.map (·.1) := by
  rw [keys_put]
  cases e : look l k with
  | some u =>
    simp only [Option.isSome_some, if_true]
    refine ⟨Or.inr, fun h => ?_⟩
    rcases h with rfl | h
    · exact List.mem_map.mpr ⟨_, look_mem e, rfl⟩
    · exact h
  | none =>
    simp only [Option.isSome_none]
    show j ∈ l.map (·.1) ++ [k] ↔ _
    rw [List.mem_append, List.mem_singleton]
    exact Or.comm
theorem look_key {l : List (κ × β)} {k : κ} : k ∈ l.map (·.1) ↔ ∃ v, look l k = some v := by
  refine ⟨look_some_of_key, fun ⟨v, h⟩ => List.mem_map.mpr ⟨_, look_mem h, rfl⟩⟩
end
/-! ### the bounds, the closing's state -/
def Br.m (B : Br) : Nat := B.tasks.length
def Br.lo (B : Br) (i : Int) : Int := (B.tasks[i.toNat]?.getD (0, 0)).1
def Br.hi (B : Br) (i : Int) : Int := (B.tasks[i.toNat]?.getD (0, 0)).2
def itsL (n : Nat) : List Int := (List.range n).map fun (k : Nat) => (k : Int)
def Br.every (B : Br) : List Int := itsL (2 * B.m + 1)
def bounds (B : Br) : List (Int × Int × Int) :=
  B.limits ++ B.arrows.map (fun p => (2 * p.2 + 1, 2 * p.1 + 2, 0)) ++ (itsL B.m).map (fun i => (0, 2 * i + 2, B.dl)) ++ (itsL B.m).map (fun i => (2 * i + 1, 0, 0))
    ++ ((itsL B.m).map fun i => [(2 * i + 1, 2 * i + 2, B.hi i), (2 * i + 2, 2 * i + 1, -B.lo i)]).flatten
def Br.Ev (B : Br) (a : Int) : Prop := 0 ≤ a ∧ a ≤ 2 * (B.m : Int)
def Br.Tk (B : Br) (i : Int) : Prop := 0 ≤ i ∧ i < (B.m : Int)
def own (a : Int) : Int := (a - 1) / 2
def isE (a : Int) : Bool := decide (0 < a) && decide (a % 2 = 0)
structure Cl where
  lines : List Ln
  mosts : List ((Int × Int) × Nat)
  waits : List ((Int × Int) × Nat)
  fault : Option Nat
def Cl.wOf (s : Cl) (k : Nat) : Int := (s.lines[k]?.map (·.w)).getD 0
def Cl.mo (s : Cl) (a b : Int) : Option Int := (look s.mosts (a, b)).map s.wOf
def Cl.wa (s : Cl) (i y : Int) : Option Int := (look s.waits (i, y)).map s.wOf
def knows (o : Option Int) (p : Int → Bool) : Bool := match o with
  | some v => p v
  | none => false
def offM (s : Cl) (a b w : Int) (r : Rs) : Cl × Bool :=
  if ((decide (a = b) && decide (0 ≤ w)) || knows (s.mo a b) fun v => decide (v ≤ w)) = true then (s, false)
  else (⟨s.lines ++ [⟨false, a, b, w, r⟩], put s.mosts (a, b) s.lines.length, s.waits, if a = b then some s.lines.length else s.fault⟩, true)
def offW (s : Cl) (i y w : Int) (r : Rs) : Cl × Bool :=
  if knows (s.wa i y) (fun v => decide (w ≤ v)) = true then (s, false)
  else (⟨s.lines ++ [⟨true, i, y, w, r⟩], s.mosts, put s.waits (i, y) s.lines.length, s.fault⟩, true)
/-- one thing after the other; whether one of them did something -/
def runL {α : Type} (f : Cl → α → Cl × Bool) : Cl → List α → Cl × Bool
  | s, [] => (s, false)
  | s, x :: r => ((runL f (f s x).1 r).1, (f s x).2 || (runL f (f s x).1 r).2)
def addUp (s : Cl) (a b c : Int) : Cl × Bool :=
  if s.fault.isSome = true then (s, false) else
  match look s.mosts (a, b), look s.mosts (b, c) with
  | some k, some l => offM s a c (s.wOf k + s.wOf l) (.sum k l)
  | _, _ => (s, false)
def useMost (B : Br) (s : Cl) (a b : Int) : Cl × Bool :=
  match look s.mosts (a, b) with
  | some k => if (s.fault.isSome || !isE a || decide (a = b)) = true then (s, false)
    else if s.wOf k < 0 then offM s (2 * own a + 1) b (B.lo (own a) + s.wOf k) (.early k) else (s, false)
  | none => (s, false)
def ahead (B : Br) (s : Cl) (i y w : Int) (k : Nat) : Cl × Bool :=
  if (isE y && decide (own y ≠ i) && decide (0 < w)) = true then offW s i (2 * own y + 1) (w - B.lo (own y)) (.ahead k) else (s, false)
def delay (B : Br) (i y w : Int) (k : Nat) (s : Cl) (x : Int) : Cl × Bool :=
  if x = 2 * i + 2 ∨ x = y then (s, false) else
  match look s.mosts (x, y) with
  | some l => offW s i x (min (B.hi i) (w - s.wOf l)) (.delay k l)
  | none => (s, false)
def useWait (B : Br) (s : Cl) (i y : Int) : Cl × Bool :=
  match look s.waits (i, y) with
  | some k =>
    ((runL (delay B i y (s.wOf k) k) (ahead B (offM s y (2 * i + 1) (-(min (s.wOf k) (B.lo i))) (.floor k)).1 i y (s.wOf k) k).1 B.every).1,
      (offM s y (2 * i + 1) (-(min (s.wOf k) (B.lo i))) (.floor k)).2 || (ahead B (offM s y (2 * i + 1) (-(min (s.wOf k) (B.lo i))) (.floor k)).1 i y (s.wOf k) k).2
      || (runL (delay B i y (s.wOf k) k) (ahead B (offM s y (2 * i + 1) (-(min (s.wOf k) (B.lo i))) (.floor k)).1 i y (s.wOf k) k).1 B.every).2)
  | none => (s, false)
def adds (B : Br) (s : Cl) : Cl × Bool :=
  runL (fun s b => runL (fun s a => runL (fun s c => addUp s a b c) s B.every) s B.every) s B.every
def waitsPass (B : Br) (s : Cl) : Cl × Bool := runL (fun s p => useWait B s p.1 p.2) s (s.waits.map (·.1))
def mostsPass (B : Br) (s : Cl) : Cl × Bool := runL (fun s p => useMost B s p.1 p.2) s (s.mosts.map (·.1))
def round (B : Br) (s : Cl) : Cl × Bool :=
  ((adds B (mostsPass B (waitsPass B s).1).1).1, (waitsPass B s).2 || (mostsPass B (waitsPass B s).1).2 || (adds B (mostsPass B (waitsPass B s).1).1).2)
/-- the bounds are offered, from the k-th on -/
def offBounds (B : Br) (s : Cl) : List (Nat × Int × Int × Int) → Cl
  | [] => s
  | (k, a, b, w) :: r => offBounds B (offM s a b w (.bound k)).1 r
def enumF {α : Type} : Nat → List α → List (Nat × α)
  | _, [] => []
  | n, x :: r => (n, x) :: enumF (n + 1) r
def offHighs (B : Br) (s : Cl) : List Nat → Cl
  | [] => s
  | i :: r => offHighs B (offW s i (2 * (i : Int) + 2) (B.hi i) (.high i)).1 r
def init (B : Br) : Cl := offHighs B (offBounds B ⟨[], [], [], none⟩ (enumF 0 (bounds B))) (List.range B.m)
/-- so many rounds are still to go, and how it ends -/
inductive Run (B : Br) : Nat → Cl → Cl → Prop
  | fault {s : Cl} : s.fault.isSome = true → Run B 0 s s
  | last {s : Cl} : s.fault = none → round B s = (s, false) → Run B 1 s s
  | turn {s s' t : Cl} {n : Nat} : s.fault = none → round B s = (s', true) → Run B n s' t → Run B (n + 1) s t
/-- what a reason gives, from earlier lines -/
def gives (B : Br) (l : List Ln) : Rs → Option (Bool × Int × Int × Int)
  | .bound k => (bounds B)[k]?.map fun p => (false, p)
  | .high i => if i < B.m then some (true, (i : Int), 2 * (i : Int) + 2, B.hi i) else none
  | .sum k j => match l[k]?, l[j]? with
    | some x, some y => if x.wt = false ∧ y.wt = false ∧ y.a = x.b then some (false, x.a, y.b, x.w + y.w) else none
    | _, _ => none
  | .delay k j => match l[k]?, l[j]? with
    | some x, some y => if x.wt = true ∧ y.wt = false ∧ y.b = x.b ∧ y.a ≠ 2 * x.a + 2 then some (true, x.a, y.a, min (B.hi x.a) (x.w - y.w)) else none
    | _, _ => none
  | .early k => match l[k]? with
    | some x => if x.wt = false ∧ isE x.a = true ∧ x.w < 0 then some (false, x.a - 1, x.b, B.lo (own x.a) + x.w) else none
    | none => none
  | .ahead k => match l[k]? with
    | some x => if x.wt = true ∧ isE x.b = true ∧ own x.b ≠ x.a ∧ 0 < x.w then some (true, x.a, x.b - 1, x.w - B.lo (own x.b)) else none
    | none => none
  | .floor k => match l[k]? with
    | some x => if x.wt = true then some (false, x.b, 2 * x.a + 1, -(min x.w (B.lo x.a))) else none
    | none => none
def Ln.four (x : Ln) : Bool × Int × Int × Int := (x.wt, x.a, x.b, x.w)
end K95
/-! K95, the plain law, part 2: what the closing keeps. -/
namespace K95
structure Br.WF (B : Br) : Prop where
  m1 : 1 ≤ B.m
  m4 : B.m ≤ 4
  dur : ∀ i, B.Tk i → 1 ≤ B.lo i ∧ B.lo i ≤ B.hi i ∧ B.hi i ≤ 20
  arr : ∀ p ∈ B.arrows, B.Tk p.1 ∧ B.Tk p.2 ∧ p.1 < p.2
  arl : B.arrows.length ≤ 16
  lim : ∀ p ∈ B.limits, B.Ev p.1 ∧ B.Ev p.2.1 ∧ p.1 ≠ p.2.1 ∧ -100 ≤ p.2.2 ∧ p.2.2 ≤ 100
  lil : B.limits.length ≤ 20
  dl0 : 0 ≤ B.dl
  dl1 : B.dl ≤ 60
def RefM (s : Cl) (a b w : Int) : Prop := (a = b ∧ 0 ≤ w) ∨ ∃ v, s.mo a b = some v ∧ v ≤ w
def RefW (s : Cl) (i y w : Int) : Prop := ∃ v, s.wa i y = some v ∧ w ≤ v
def addM (s : Cl) (a b w : Int) (r : Rs) : Cl := ⟨s.lines ++ [⟨false, a, b, w, r⟩], put s.mosts (a, b) s.lines.length, s.waits, if a = b then some s.lines.length else s.fault⟩
def addW (s : Cl) (i y w : Int) (r : Rs) : Cl := ⟨s.lines ++ [⟨true, i, y, w, r⟩], s.mosts, put s.waits (i, y) s.lines.length, s.fault⟩
theorem knows_iff {o : Option Int} {p : Int → Bool} : knows o p = true ↔ ∃ v, o = some v ∧ p v = true := by
  cases o with
  | none => simp [knows]
  | some v => simp [knows]
theorem offM_eq (s : Cl) (a b w : Int) (r : Rs) : (RefM s a b w ∧ offM s a b w r = (s, false)) ∨ (¬ RefM s a b w ∧ offM s a b w r = (addM s a b w r, true)) := by
  have key : (((decide (a = b) && decide (0 ≤ w)) || knows (s.mo a b) fun v => decide (v ≤ w)) = true) ↔ RefM s a b w := by
    rw [Bool.or_eq_true, Bool.and_eq_true, knows_iff]
    unfold RefM
    simp only [decide_eq_true_eq]
  unfold offM addM
  by_cases h : RefM s a b w
  · left; refine ⟨h, ?_⟩; rw [if_pos (key.mpr h)]
  · right; refine ⟨h, ?_⟩; rw [if_neg (fun e => h (key.mp e))]
theorem offW_eq (s : Cl) (i y w : Int) (r : Rs) : (RefW s i y w ∧ offW s i y w r = (s, false)) ∨ (¬ RefW s i y w ∧ offW s i y w r = (addW s i y w r, true)) := by
  have key : (knows (s.wa i y) (fun v => decide (w ≤ v)) = true) ↔ RefW s i y w := by
    rw [knows_iff]
    unfold RefW
    simp only [decide_eq_true_eq]
  unfold offW addW
  by_cases h : RefW s i y w
  · left; refine ⟨h, ?_⟩; rw [if_pos (key.mpr h)]
  · right; refine ⟨h, ?_⟩; rw [if_neg (fun e => h (key.mp e))]
/-! ### what holds of a state -/
structure Good (B : Br) (s : Cl) : Prop where
  just : ∀ (k : Nat) (x : Ln), s.lines[k]? = some x → gives B (s.lines.take k) x.r = some x.four
  rng : ∀ (k : Nat) (x : Ln), s.lines[k]? = some x → (x.wt = false → B.Ev x.a) ∧ (x.wt = true → B.Tk x.a ∧ x.w ≤ B.hi x.a) ∧ B.Ev x.b
  mo : ∀ a b k, look s.mosts (a, b) = some k → ∃ x, s.lines[k]? = some x ∧ x.wt = false ∧ x.a = a ∧ x.b = b
  wa : ∀ i y k, look s.waits (i, y) = some k → ∃ x, s.lines[k]? = some x ∧ x.wt = true ∧ x.a = i ∧ x.b = y
  mnd : (s.mosts.map (·.1)).Nodup
  wnd : (s.waits.map (·.1)).Nodup
  flt : ∀ k, s.fault = some k → ∃ x, s.lines[k]? = some x ∧ x.wt = false ∧ x.a = x.b ∧ x.w < 0
  nof : s.fault = none → ∀ a, look s.mosts (a, a) = none
inductive Acc (B : Br) (s s' : Cl) : Prop
  | most (a b w : Int) (r : Rs) : B.Ev a → B.Ev b → gives B s.lines r = some (false, a, b, w) → ¬ RefM s a b w → s' = addM s a b w r → Acc B s s'
  | wait (i y w : Int) (r : Rs) : B.Tk i → B.Ev y → w ≤ B.hi i → gives B s.lines r = some (true, i, y, w) → ¬ RefW s i y w → s' = addW s i y w r → Acc B s s'
inductive Rch (B : Br) : Cl → Cl → Nat → Prop
  | refl (s : Cl) : Rch B s s 0
  | step {s s1 s2 : Cl} {n : Nat} : Rch B s s1 n → Acc B s1 s2 → Rch B s s2 (n + 1)
theorem Rch.trans {B : Br} {s s1 s2 : Cl} {n k : Nat} (a : Rch B s s1 n) (b : Rch B s1 s2 k) : Rch B s s2 (n + k) := by
  induction b with
  | refl => exact a
  | step _ h ih => exact .step ih h
theorem Rch.zero {B : Br} {s s1 : Cl} (a : Rch B s s1 0) : s1 = s := by cases a; rfl
theorem Rch.one {B : Br} {s s1 : Cl} (a : Acc B s s1) : Rch B s s1 1 := .step (.refl s) a
theorem take_snoc {α : Type} {l : List α} {x : α} {k : Nat} (h : k ≤ l.length) : (l ++ [x]).take k = l.take k := by
  rw [List.take_append_of_le_length h]
theorem get_snoc {α : Type} {l : List α} {x y : α} {k : Nat} (h : (l ++ [x])[k]? = some y) : l[k]? = some y ∨ (k = l.length ∧ y = x) := by
  rw [List.getElem?_append] at h
  by_cases e : k < l.length
  · rw [if_pos e] at h; exact .inl h
  · rw [if_neg e] at h
    right
    have : k - l.length = 0 := by
      cases hk : k - l.length with
      | zero => rfl
      | succ n => rw [hk] at h; simp at h
    rw [this] at h
    exact ⟨by omega, (Option.some.inj h).symm⟩
theorem get_old {α : Type} {l : List α} {x y : α} {k : Nat} (h : l[k]? = some y) : (l ++ [x])[k]? = some y := by
  have : k < l.length := (List.getElem?_eq_some_iff.mp h).1
  rw [List.getElem?_append_left this]; exact h
theorem get_new {α : Type} {l : List α} {x : α} : (l ++ [x])[l.length]? = some x := by simp
theorem lt_of_get {α : Type} {l : List α} {y : α} {k : Nat} (h : l[k]? = some y) : k < l.length := (List.getElem?_eq_some_iff.mp h).1
section
variable {B : Br} {s s' : Cl}
theorem Good.k_lt (g : Good B s) {a b : Int} {k : Nat} (h : look s.mosts (a, b) = some k) : k < s.lines.length := by
  obtain ⟨x, hx, _⟩ := g.mo a b k h; exact lt_of_get hx
theorem Good.kw_lt (g : Good B s) {a b : Int} {k : Nat} (h : look s.waits (a, b) = some k) : k < s.lines.length := by
  obtain ⟨x, hx, _⟩ := g.wa a b k h; exact lt_of_get hx
theorem wOf_of {k : Nat} {x : Ln} (h : s.lines[k]? = some x) : s.wOf k = x.w := by unfold Cl.wOf; rw [h]; rfl
theorem wOf_addM {a b w : Int} {r : Rs} {k : Nat} (h : k < s.lines.length) : (addM s a b w r).wOf k = s.wOf k := by
  unfold Cl.wOf addM; rw [List.getElem?_append_left h]
theorem wOf_addW {a b w : Int} {r : Rs} {k : Nat} (h : k < s.lines.length) : (addW s a b w r).wOf k = s.wOf k := by
  unfold Cl.wOf addW; rw [List.getElem?_append_left h]
theorem pair_eq {a b c d : Int} : ((a, b) = (c, d)) ↔ (a = c ∧ b = d) := by
  constructor
  · intro h; cases h; exact ⟨rfl, rfl⟩
  · rintro ⟨rfl, rfl⟩; rfl
theorem mo_addM (g : Good B s) {a b w : Int} {r : Rs} (c d : Int) : (addM s a b w r).mo c d = if c = a ∧ d = b then some w else s.mo c d := by
  unfold Cl.mo
  show (look (put s.mosts (a, b) s.lines.length) (c, d)).map _ = _
  rw [look_put]
  by_cases e : c = a ∧ d = b
  · obtain ⟨rfl, rfl⟩ := e
    rw [if_pos rfl, if_pos ⟨rfl, rfl⟩]
    show some ((addM s c d w r).wOf s.lines.length) = some w
    rw [wOf_of (s := addM s c d w r) (x := ⟨false, c, d, w, r⟩) get_new]
  · rw [if_neg e, if_neg (fun q => e (pair_eq.mp q))]
    cases h : look s.mosts (c, d) with
    | none => rfl
    | some k => show some _ = some _; rw [wOf_addM (g.k_lt h)]
theorem wa_addM (g : Good B s) {a b w : Int} {r : Rs} (c d : Int) : (addM s a b w r).wa c d = s.wa c d := by
  unfold Cl.wa
  show (look s.waits (c, d)).map _ = _
  cases h : look s.waits (c, d) with
  | none => rfl
  | some k => show some _ = some _; rw [wOf_addM (g.kw_lt h)]
theorem wa_addW (g : Good B s) {a b w : Int} {r : Rs} (c d : Int) : (addW s a b w r).wa c d = if c = a ∧ d = b then some w else s.wa c d := by
  unfold Cl.wa
  show (look (put s.waits (a, b) s.lines.length) (c, d)).map _ = _
  rw [look_put]
  by_cases e : c = a ∧ d = b
  · obtain ⟨rfl, rfl⟩ := e
    rw [if_pos rfl, if_pos ⟨rfl, rfl⟩]
    show some ((addW s c d w r).wOf s.lines.length) = some w
    rw [wOf_of (s := addW s c d w r) (x := ⟨true, c, d, w, r⟩) get_new]
  · rw [if_neg e, if_neg (fun q => e (pair_eq.mp q))]
    cases h : look s.waits (c, d) with
    | none => rfl
    | some k => show some _ = some _; rw [wOf_addW (g.kw_lt h)]
theorem mo_addW (g : Good B s) {a b w : Int} {r : Rs} (c d : Int) : (addW s a b w r).mo c d = s.mo c d := by
  unfold Cl.mo
  show (look s.mosts (c, d)).map _ = _
  cases h : look s.mosts (c, d) with
  | none => rfl
  | some k => show some _ = some _; rw [wOf_addW (g.k_lt h)]
/-- a mosts' entry, read -/
theorem Good.mo_line (g : Good B s) {a b : Int} {k : Nat} (h : look s.mosts (a, b) = some k) : ∃ x, s.lines[k]? = some x ∧ x.wt = false ∧ x.a = a ∧ x.b = b ∧ x.w = s.wOf k := by
  obtain ⟨x, hx, h1, h2, h3⟩ := g.mo a b k h
  exact ⟨x, hx, h1, h2, h3, (wOf_of hx).symm⟩
theorem Good.wa_line (g : Good B s) {a b : Int} {k : Nat} (h : look s.waits (a, b) = some k) : ∃ x, s.lines[k]? = some x ∧ x.wt = true ∧ x.a = a ∧ x.b = b ∧ x.w = s.wOf k := by
  obtain ⟨x, hx, h1, h2, h3⟩ := g.wa a b k h
  exact ⟨x, hx, h1, h2, h3, (wOf_of hx).symm⟩
theorem Good.mo_ev (g : Good B s) {a b : Int} {k : Nat} (h : look s.mosts (a, b) = some k) : B.Ev a ∧ B.Ev b := by
  obtain ⟨x, hx, h1, rfl, rfl⟩ := g.mo a b k h
  exact ⟨(g.rng k x hx).1 h1, (g.rng k x hx).2.2⟩
theorem Good.wa_ev (g : Good B s) {a b : Int} {k : Nat} (h : look s.waits (a, b) = some k) : B.Tk a ∧ s.wOf k ≤ B.hi a ∧ B.Ev b := by
  obtain ⟨x, hx, h1, rfl, rfl, e⟩ := g.wa_line h
  rw [← e]
  exact ⟨((g.rng k x hx).2.1 h1).1, ((g.rng k x hx).2.1 h1).2, (g.rng k x hx).2.2⟩
/-- what a reason gives does not change by further lines -/
theorem gives_more {l : List Ln} {x : Ln} {r : Rs} {q : Bool × Int × Int × Int} (h : gives B l r = some q) : gives B (l ++ [x]) r = some q := by
  have old : ∀ {k : Nat} {y : Ln}, l[k]? = some y → (l ++ [x])[k]? = some y := fun h => get_old h
  cases r with
  | bound k => exact h
  | high i => exact h
  | sum k j =>
    simp only [gives] at h ⊢
    cases e1 : l[k]? with
    | none => rw [e1] at h; simp at h
    | some y =>
      cases e2 : l[j]? with
      | none => rw [e1, e2] at h; simp at h
      | some z => rw [e1, e2] at h; rw [old e1, old e2]; exact h
  | delay k j =>
    simp only [gives] at h ⊢
    cases e1 : l[k]? with
    | none => rw [e1] at h; simp at h
    | some y =>
      cases e2 : l[j]? with
      | none => rw [e1, e2] at h; simp at h
      | some z => rw [e1, e2] at h; rw [old e1, old e2]; exact h
  | early k =>
    simp only [gives] at h ⊢
    cases e1 : l[k]? with
    | none => rw [e1] at h; simp at h
    | some y => rw [e1] at h; rw [old e1]; exact h
  | ahead k =>
    simp only [gives] at h ⊢
    cases e1 : l[k]? with
    | none => rw [e1] at h; simp at h
    | some y => rw [e1] at h; rw [old e1]; exact h
  | floor k =>
    simp only [gives] at h ⊢
    cases e1 : l[k]? with
    | none => rw [e1] at h; simp at h
    | some y => rw [e1] at h; rw [old e1]; exact h
theorem Good.acc (g : Good B s) (h : Acc B s s') : Good B s' := by
  have fromjust : ∀ (y : Ln) (q : gives B s.lines y.r = some y.four) (k : Nat) (x : Ln), (s.lines ++ [y])[k]? = some x → gives B ((s.lines ++ [y]).take k) x.r = some x.four := by
    intro y q k x hx
    rcases get_snoc hx with h | ⟨rfl, rfl⟩
    · rw [take_snoc (Nat.le_of_lt (lt_of_get h))]; exact g.just k x h
    · rw [take_snoc (Nat.le_refl _), List.take_length]; exact q
  cases h with
  | most a b w r ha hb hg hr e =>
    subst e
    refine ⟨fromjust ⟨false, a, b, w, r⟩ hg, ?_, ?_, ?_, nodup_put _ _ g.mnd, g.wnd, ?_, ?_⟩
    · intro k x hx
      rcases get_snoc hx with h | ⟨rfl, rfl⟩
      · exact g.rng k x h
      · exact ⟨fun _ => ha, fun h => (nomatch h), hb⟩
    · intro c d k hk
      have hk' : look (put s.mosts (a, b) s.lines.length) (c, d) = some k := hk
      rw [look_put] at hk'
      by_cases e : (c, d) = (a, b)
      · rw [if_pos e] at hk'
        have : s.lines.length = k := Option.some.inj hk'
        cases e
        exact ⟨_, by rw [← this]; exact get_new, rfl, rfl, rfl⟩
      · rw [if_neg e] at hk'
        obtain ⟨x, hx, r⟩ := g.mo c d k hk'
        exact ⟨x, get_old hx, r⟩
    · intro c d k hk
      obtain ⟨x, hx, r⟩ := g.wa c d k hk
      exact ⟨x, get_old hx, r⟩
    · intro k hk
      have hk' : (if a = b then some s.lines.length else s.fault) = some k := hk
      by_cases e : a = b
      · rw [if_pos e] at hk'
        have : s.lines.length = k := Option.some.inj hk'
        refine ⟨_, by rw [← this]; exact get_new, rfl, e, ?_⟩
        show w < 0
        have : ¬ (0 ≤ w) := fun q => hr (.inl ⟨e, q⟩)
        omega
      · rw [if_neg e] at hk'
        obtain ⟨x, hx, r⟩ := g.flt k hk'
        exact ⟨x, get_old hx, r⟩
    · intro hn c
      have hn' : (if a = b then some s.lines.length else s.fault) = none := hn
      by_cases e : a = b
      · rw [if_pos e] at hn'; cases hn'
      · rw [if_neg e] at hn'
        show look (put s.mosts (a, b) s.lines.length) (c, c) = none
        rw [look_put, if_neg]
        · exact g.nof hn' c
        · intro q; cases q; exact e rfl
  | wait i y w r hi hy hw hg hr e =>
    subst e
    refine ⟨fromjust ⟨true, i, y, w, r⟩ hg, ?_, ?_, ?_, g.mnd, nodup_put _ _ g.wnd, ?_, g.nof⟩
    · intro k x hx
      rcases get_snoc hx with h | ⟨rfl, rfl⟩
      · exact g.rng k x h
      · exact ⟨fun h => (nomatch h), fun _ => ⟨hi, hw⟩, hy⟩
    · intro c d k hk
      obtain ⟨x, hx, r⟩ := g.mo c d k hk
      exact ⟨x, get_old hx, r⟩
    · intro c d k hk
      have hk' : look (put s.waits (i, y) s.lines.length) (c, d) = some k := hk
      rw [look_put] at hk'
      by_cases e : (c, d) = (i, y)
      · rw [if_pos e] at hk'
        have : s.lines.length = k := Option.some.inj hk'
        cases e
        exact ⟨_, by rw [← this]; exact get_new, rfl, rfl, rfl⟩
      · rw [if_neg e] at hk'
        obtain ⟨x, hx, r⟩ := g.wa c d k hk'
        exact ⟨x, get_old hx, r⟩
    · intro k hk
      obtain ⟨x, hx, r⟩ := g.flt k hk
      exact ⟨x, get_old hx, r⟩
theorem Good.rch {n : Nat} (g : Good B s) (h : Rch B s s' n) : Good B s' := by
  induction h with
  | refl => exact g
  | step _ a ih => exact ih.acc a
/-! ### entries only say more -/
theorem Acc.mo_le (g : Good B s) (h : Acc B s s') {a b v : Int} (e : s.mo a b = some v) : ∃ v', s'.mo a b = some v' ∧ v' ≤ v := by
  cases h with
  | most c d w r _ _ _ hr q =>
    subst q
    rw [mo_addM g]
    by_cases h : a = c ∧ b = d
    · obtain ⟨rfl, rfl⟩ := h
      rw [if_pos ⟨rfl, rfl⟩]
      refine ⟨w, rfl, ?_⟩
      have : ¬ v ≤ w := fun q => hr (.inr ⟨v, e, q⟩)
      omega
    · rw [if_neg h]; exact ⟨v, e, Int.le_refl _⟩
  | wait c d w r _ _ _ _ _ q =>
    subst q
    rw [mo_addW g]; exact ⟨v, e, Int.le_refl _⟩
theorem Acc.wa_ge (g : Good B s) (h : Acc B s s') {a b v : Int} (e : s.wa a b = some v) : ∃ v', s'.wa a b = some v' ∧ v ≤ v' := by
  cases h with
  | most c d w r _ _ _ _ q =>
    subst q
    rw [wa_addM g]; exact ⟨v, e, Int.le_refl _⟩
  | wait c d w r _ _ _ _ hr q =>
    subst q
    rw [wa_addW g]
    by_cases h : a = c ∧ b = d
    · obtain ⟨rfl, rfl⟩ := h
      rw [if_pos ⟨rfl, rfl⟩]
      refine ⟨w, rfl, ?_⟩
      have : ¬ w ≤ v := fun q => hr ⟨v, e, q⟩
      omega
    · rw [if_neg h]; exact ⟨v, e, Int.le_refl _⟩
theorem Rch.mo_le {n : Nat} (g : Good B s) (h : Rch B s s' n) : ∀ {a b v : Int}, s.mo a b = some v → ∃ v', s'.mo a b = some v' ∧ v' ≤ v := by
  induction h with
  | refl => exact fun e => ⟨_, e, Int.le_refl _⟩
  | step h1 a ih =>
    intro c d v e
    obtain ⟨v1, e1, l1⟩ := ih e
    obtain ⟨v2, e2, l2⟩ := a.mo_le (g.rch h1) e1
    exact ⟨v2, e2, by omega⟩
theorem Rch.wa_ge {n : Nat} (g : Good B s) (h : Rch B s s' n) : ∀ {a b v : Int}, s.wa a b = some v → ∃ v', s'.wa a b = some v' ∧ v ≤ v' := by
  induction h with
  | refl => exact fun e => ⟨_, e, Int.le_refl _⟩
  | step h1 a ih =>
    intro c d v e
    obtain ⟨v1, e1, l1⟩ := ih e
    obtain ⟨v2, e2, l2⟩ := a.wa_ge (g.rch h1) e1
    exact ⟨v2, e2, by omega⟩
theorem Acc.fault (h : Acc B s s') (e : s.fault.isSome = true) : s'.fault.isSome = true := by
  cases h with
  | most c d w r _ _ _ hr q =>
    subst q
    show (if c = d then some s.lines.length else s.fault).isSome = true
    by_cases h : c = d
    · rw [if_pos h]; rfl
    · rw [if_neg h]; exact e
  | wait c d w r _ _ _ _ _ q => subst q; exact e
theorem Rch.fault {n : Nat} (h : Rch B s s' n) (e : s.fault.isSome = true) : s'.fault.isSome = true := by
  induction h with
  | refl => exact e
  | step _ a ih => exact a.fault ih
theorem none_of {o : Option Nat} (h : ¬ o.isSome = true) : o = none := by cases o with
  | none => rfl
  | some _ => exact absurd rfl h
theorem Rch.nofault {n : Nat} (h : Rch B s s' n) (e : s'.fault = none) : s.fault = none :=
  none_of fun q => by have := h.fault q; rw [e] at this; cases this
theorem Acc.len (h : Acc B s s') : s'.lines.length = s.lines.length + 1 := by
  cases h with
  | most _ _ _ _ _ _ _ _ q => subst q; simp [addM]
  | wait _ _ _ _ _ _ _ _ _ q => subst q; simp [addW]
theorem Rch.len {n : Nat} (h : Rch B s s' n) : s'.lines.length = s.lines.length + n := by
  induction h with
  | refl => rfl
  | step _ a ih => rw [a.len, ih]; omega
theorem mo_some {a b : Int} {k : Nat} (h : look s.mosts (a, b) = some k) : s.mo a b = some (s.wOf k) := by unfold Cl.mo; rw [h]; rfl
theorem wa_some {a b : Int} {k : Nat} (h : look s.waits (a, b) = some k) : s.wa a b = some (s.wOf k) := by unfold Cl.wa; rw [h]; rfl
theorem mo_look {a b v : Int} (h : s.mo a b = some v) : ∃ k, look s.mosts (a, b) = some k ∧ s.wOf k = v := by
  unfold Cl.mo at h
  cases e : look s.mosts (a, b) with
  | none => rw [e] at h; cases h
  | some k => rw [e] at h; exact ⟨k, rfl, Option.some.inj h⟩
theorem wa_look {a b v : Int} (h : s.wa a b = some v) : ∃ k, look s.waits (a, b) = some k ∧ s.wOf k = v := by
  unfold Cl.wa at h
  cases e : look s.waits (a, b) with
  | none => rw [e] at h; cases h
  | some k => rw [e] at h; exact ⟨k, rfl, Option.some.inj h⟩
end
end K95
/-! K95, the plain law, part 3: what one round does. -/
namespace K95
variable {B : Br}
def Does (B : Br) (s : Cl) (p : Cl × Bool) (N : Nat) : Prop := ∃ n, n ≤ N ∧ Rch B s p.1 n ∧ (p.2 = false → n = 0) ∧ (p.2 = true → n ≠ 0)
theorem Does.no {s : Cl} {p : Cl × Bool} {N : Nat} (h : Does B s p N) (e : p.2 = false) : p.1 = s := by
  obtain ⟨n, _, r, h1, _⟩ := h
  have := h1 e
  subst this
  exact r.zero
theorem Does.eq {s : Cl} {p : Cl × Bool} {N : Nat} (h : Does B s p N) (e : p.2 = false) : p = (s, false) := by
  have := h.no e
  obtain ⟨a, b⟩ := p
  simp only at this e
  rw [this, e]
theorem Does.same {s : Cl} {N : Nat} : Does B s (s, false) N := ⟨0, Nat.zero_le _, .refl s, fun _ => rfl, fun h => nomatch h⟩
theorem Does.mono {s : Cl} {p : Cl × Bool} {N M : Nat} (h : Does B s p N) (l : N ≤ M) : Does B s p M := by
  obtain ⟨n, a, b⟩ := h
  exact ⟨n, by omega, b⟩
theorem Does.seq {s : Cl} {p q : Cl × Bool} {N M : Nat} (h1 : Does B s p N) (h2 : Does B p.1 q M) : Does B s (q.1, p.2 || q.2) (N + M) := by
  obtain ⟨n, a, r, b, c⟩ := h1
  obtain ⟨k, a', r', b', c'⟩ := h2
  refine ⟨n + k, by omega, r.trans r', fun e => ?_, fun e => ?_⟩
  · have e' : (p.2 || q.2) = false := e
    rw [Bool.or_eq_false_iff] at e'
    rw [b e'.1, b' e'.2]
  · have e' : (p.2 || q.2) = true := e
    rw [Bool.or_eq_true] at e'
    rcases e' with e' | e'
    · have := c e'; omega
    · have := c' e'; omega
theorem does_offM {s : Cl} {a b w : Int} {r : Rs} (ha : B.Ev a) (hb : B.Ev b) (hg : gives B s.lines r = some (false, a, b, w)) : Does B s (offM s a b w r) 1 := by
  rcases offM_eq s a b w r with ⟨_, e⟩ | ⟨h, e⟩
  · rw [e]; exact .same
  · rw [e]
    exact ⟨1, Nat.le_refl _, .one (.most a b w r ha hb hg h rfl), fun h => (nomatch h), fun _ => by decide⟩
theorem does_offW {s : Cl} {i y w : Int} {r : Rs} (hi : B.Tk i) (hy : B.Ev y) (hw : w ≤ B.hi i) (hg : gives B s.lines r = some (true, i, y, w)) : Does B s (offW s i y w r) 1 := by
  rcases offW_eq s i y w r with ⟨_, e⟩ | ⟨h, e⟩
  · rw [e]; exact .same
  · rw [e]
    exact ⟨1, Nat.le_refl _, .one (.wait i y w r hi hy hw hg h rfl), fun h => (nomatch h), fun _ => by decide⟩
section
variable {α : Type} {f : Cl → α → Cl × Bool} {l : List α} {N : Nat} {Inv : Cl → Prop}
theorem does_runL (hI : ∀ (s s' : Cl) (n : Nat), Inv s → Rch B s s' n → Inv s') : ∀ (l : List α), (∀ (s : Cl) (x : α), Inv s → x ∈ l → Does B s (f s x) N) → ∀ s, Inv s → Does B s (runL f s l) (N * l.length)
  | [], _, s, _ => .same
  | x :: r, hf, s, h => by
    have d1 := hf s x h List.mem_cons_self
    have h1 : Inv (f s x).1 := by obtain ⟨n, _, q, _⟩ := d1; exact hI _ _ _ h q
    have d2 := does_runL hI r (fun s y hs hy => hf s y hs (List.mem_cons_of_mem _ hy)) _ h1
    have := d1.seq d2
    refine this.mono ?_
    rw [List.length_cons, Nat.mul_succ]
    omega
theorem runL_no (hI : ∀ (s s' : Cl) (n : Nat), Inv s → Rch B s s' n → Inv s') : ∀ (l : List α), (∀ (s : Cl) (x : α), Inv s → x ∈ l → Does B s (f s x) N) → ∀ s, Inv s → (runL f s l).2 = false → ∀ x ∈ l, f s x = (s, false)
  | [], _, s, _, _ => fun x h => nomatch h
  | x :: r, hf, s, h, e => by
    have d1 := hf s x h List.mem_cons_self
    have e' : ((f s x).2 || (runL f (f s x).1 r).2) = false := e
    rw [Bool.or_eq_false_iff] at e'
    have e1 := d1.eq e'.1
    intro y hy
    rcases List.mem_cons.mp hy with rfl | hy
    · exact e1
    · have e2 := e'.2
      rw [e1] at e2
      exact runL_no hI r (fun s y hs hy => hf s y hs (List.mem_cons_of_mem _ hy)) s h e2 y hy
theorem runL_mid (hI : ∀ (s s' : Cl) (n : Nat), Inv s → Rch B s s' n → Inv s') : ∀ (l : List α), (∀ (s : Cl) (x : α), Inv s → x ∈ l → Does B s (f s x) N) → ∀ s, Inv s → ∀ x ∈ l, ∃ s1 n1 n2, Rch B s s1 n1 ∧ Inv s1 ∧ Rch B (f s1 x).1 (runL f s l).1 n2
  | [], _, s, _ => fun x h => nomatch h
  | x :: r, hf, s, h => by
    have d1 := hf s x h List.mem_cons_self
    obtain ⟨n, _, q, _⟩ := d1
    have h1 : Inv (f s x).1 := hI _ _ _ h q
    have hf' : ∀ (s : Cl) (y : α), Inv s → y ∈ r → Does B s (f s y) N := fun s y hs hy => hf s y hs (List.mem_cons_of_mem _ hy)
    intro y hy
    rcases List.mem_cons.mp hy with rfl | hy
    · obtain ⟨k, _, q2, _⟩ := does_runL hI r hf' _ h1
      exact ⟨s, 0, k, .refl s, h, q2⟩
    · obtain ⟨s1, n1, n2, a, b, c⟩ := runL_mid hI r hf' _ h1 y hy
      exact ⟨s1, _, n2, q.trans a, b, c⟩
end
/-! ### small facts -/
theorem mem_ints {n : Nat} {a : Int} : a ∈ itsL n ↔ 0 ≤ a ∧ a < (n : Int) := by
  unfold itsL
  rw [List.mem_map]
  constructor
  · rintro ⟨k, hk, rfl⟩
    rw [List.mem_range] at hk
    omega
  · rintro ⟨h1, h2⟩
    exact ⟨a.toNat, by rw [List.mem_range]; omega, by omega⟩
theorem ints_len (n : Nat) : (itsL n).length = n := by unfold itsL; simp
theorem mem_every {a : Int} : a ∈ B.every ↔ B.Ev a := by
  unfold Br.every Br.Ev
  rw [mem_ints]
  constructor <;> rintro ⟨h1, h2⟩ <;> refine ⟨h1, ?_⟩ <;> omega
theorem every_len : B.every.length = 2 * B.m + 1 := ints_len _
theorem isE_iff {a : Int} : isE a = true ↔ 0 < a ∧ a % 2 = 0 := by unfold isE; rw [Bool.and_eq_true, decide_eq_true_eq, decide_eq_true_eq]
theorem isE_own {a : Int} (h : isE a = true) : a = 2 * own a + 2 := by
  rw [isE_iff] at h
  unfold own; omega
theorem own_tk {a : Int} (h : isE a = true) (ha : B.Ev a) : B.Tk (own a) := by
  have e := isE_own h
  rw [isE_iff] at h
  unfold Br.Ev at ha
  unfold Br.Tk
  omega
theorem ev_beg {i : Int} (h : B.Tk i) : B.Ev (2 * i + 1) := by unfold Br.Tk at h; unfold Br.Ev; omega
theorem ev_end {i : Int} (h : B.Tk i) : B.Ev (2 * i + 2) := by unfold Br.Tk at h; unfold Br.Ev; omega
theorem ev_0 : B.Ev 0 := by unfold Br.Ev; omega
theorem isE_end {i : Int} (h : B.Tk i) : isE (2 * i + 2) = true := by rw [isE_iff]; unfold Br.Tk at h; omega
theorem own_end (i : Int) : own (2 * i + 2) = i := by unfold own; omega
theorem own_beg (i : Int) : own (2 * i + 1) = i := by unfold own; omega
/-- what an event can be -/
theorem ev_cases {a : Int} (h : B.Ev a) : a = 0 ∨ (∃ i, B.Tk i ∧ a = 2 * i + 1) ∨ ∃ i, B.Tk i ∧ a = 2 * i + 2 := by
  unfold Br.Ev at h
  by_cases h0 : a = 0
  · exact .inl h0
  · right
    by_cases h1 : a % 2 = 1
    · left; exact ⟨(a - 1) / 2, by unfold Br.Tk; omega, by omega⟩
    · right; exact ⟨(a - 1) / 2, by unfold Br.Tk; omega, by omega⟩
theorem Acc.line {s s' : Cl} (h : Acc B s s') {k : Nat} {x : Ln} (e : s.lines[k]? = some x) : s'.lines[k]? = some x := by
  cases h with
  | most _ _ _ _ _ _ _ _ q => subst q; exact get_old e
  | wait _ _ _ _ _ _ _ _ _ q => subst q; exact get_old e
theorem Rch.line {s s' : Cl} {n : Nat} (h : Rch B s s' n) {k : Nat} {x : Ln} (e : s.lines[k]? = some x) : s'.lines[k]? = some x := by
  induction h with
  | refl => exact e
  | step _ a ih => exact a.line ih
/-! ### each thing that is done -/
theorem does_addUp {s : Cl} (g : Good B s) (a b c : Int) : Does B s (addUp s a b c) 1 := by
  unfold addUp
  by_cases hf : s.fault.isSome = true
  · rw [if_pos hf]; exact .same
  · rw [if_neg hf]
    cases e1 : look s.mosts (a, b) with
    | none => exact .same
    | some k =>
      cases e2 : look s.mosts (b, c) with
      | none => exact .same
      | some l =>
        obtain ⟨x, hx, x1, x2, x3, x4⟩ := g.mo_line e1
        obtain ⟨y, hy, y1, y2, y3, y4⟩ := g.mo_line e2
        refine does_offM (g.mo_ev e1).1 (g.mo_ev e2).2 ?_
        simp only [gives, hx, hy]
        rw [if_pos ⟨x1, y1, by rw [y2, x3]⟩, x2, y3, x4, y4]
theorem does_useMost {s : Cl} (g : Good B s) (a b : Int) : Does B s (useMost B s a b) 1 := by
  unfold useMost
  cases e1 : look s.mosts (a, b) with
  | none => exact .same
  | some k =>
    show Does B s (if (s.fault.isSome || !isE a || decide (a = b)) = true then (s, false) else _) 1
    by_cases hc : (s.fault.isSome || !isE a || decide (a = b)) = true
    · rw [if_pos hc]; exact .same
    · rw [if_neg hc]
      by_cases hw : s.wOf k < 0
      · rw [if_pos hw]
        have hE : isE a = true := by
          cases h : isE a with
          | true => rfl
          | false => exact absurd (by simp [h]) hc
        obtain ⟨x, hx, x1, x2, x3, x4⟩ := g.mo_line e1
        have ev := g.mo_ev e1
        refine does_offM (ev_beg (own_tk hE ev.1)) ev.2 ?_
        simp only [gives, hx]
        rw [if_pos ⟨x1, by rw [x2]; exact hE, by rw [x4]; exact hw⟩, x2, x3, x4]
        have := isE_own hE
        rw [show a - 1 = 2 * own a + 1 by omega]
      · rw [if_neg hw]; exact .same
theorem does_ahead (W : B.WF) {s : Cl} (g : Good B s) {i y w : Int} {k : Nat} {x : Ln} (hx : s.lines[k]? = some x) (e : x.four = (true, i, y, w)) : Does B s (ahead B s i y w k) 1 := by
  have e1 : x.wt = true := congrArg (·.1) e
  have e2 : x.a = i := congrArg (·.2.1) e
  have e3 : x.b = y := congrArg (·.2.2.1) e
  have e4 : x.w = w := congrArg (·.2.2.2) e
  unfold ahead
  by_cases hc : (isE y && decide (own y ≠ i) && decide (0 < w)) = true
  · rw [if_pos hc]
    rw [Bool.and_eq_true, Bool.and_eq_true, decide_eq_true_eq, decide_eq_true_eq] at hc
    obtain ⟨⟨h1, h2⟩, h3⟩ := hc
    have r := g.rng k x hx
    have t := r.2.1 e1
    rw [e2, e4] at t
    have ey : B.Ev y := by rw [← e3]; exact r.2.2
    have d := W.dur _ (own_tk h1 ey)
    refine does_offW t.1 (ev_beg (own_tk h1 ey)) (by omega) ?_
    simp only [gives, hx]
    rw [if_pos ⟨e1, by rw [e3]; exact h1, by rw [e3, e2]; exact h2, by rw [e4]; exact h3⟩, e2, e3, e4]
    have := isE_own h1
    rw [show y - 1 = 2 * own y + 1 by omega]
  · rw [if_neg hc]; exact .same
theorem does_delay {s : Cl} (g : Good B s) {i y w : Int} {k : Nat} {x : Ln} (hx : s.lines[k]? = some x) (e : x.four = (true, i, y, w)) (z : Int) : Does B s (delay B i y w k s z) 1 := by
  have e1 : x.wt = true := congrArg (·.1) e
  have e2 : x.a = i := congrArg (·.2.1) e
  have e3 : x.b = y := congrArg (·.2.2.1) e
  have e4 : x.w = w := congrArg (·.2.2.2) e
  unfold delay
  by_cases hc : z = 2 * i + 2 ∨ z = y
  · rw [if_pos hc]; exact .same
  · rw [if_neg hc]
    cases e5 : look s.mosts (z, y) with
    | none => exact .same
    | some l =>
      obtain ⟨u, hu, u1, u2, u3, u4⟩ := g.mo_line e5
      have r := g.rng k x hx
      have t := r.2.1 e1
      rw [e2, e4] at t
      refine does_offW t.1 (g.mo_ev e5).1 (by omega) ?_
      simp only [gives, hx, hu]
      rw [if_pos ⟨e1, u1, by rw [u3, e3], by rw [u2, e2]; exact fun h => hc (.inl h)⟩, e2, u2, e4, u4]
def WInv (B : Br) (k : Nat) (x : Ln) (s : Cl) : Prop := Good B s ∧ s.lines[k]? = some x
theorem winv (k : Nat) (x : Ln) : ∀ (s s' : Cl) (n : Nat), WInv B k x s → Rch B s s' n → WInv B k x s' := fun _ _ _ h r => ⟨h.1.rch r, r.line h.2⟩
theorem does_useWait (W : B.WF) {s : Cl} (g : Good B s) (i y : Int) : Does B s (useWait B s i y) (2 + (2 * B.m + 1)) := by
  unfold useWait
  cases e1 : look s.waits (i, y) with
  | none => exact .same
  | some k =>
    obtain ⟨x, hx, x1, x2, x3, x4⟩ := g.wa_line e1
    have ev := g.wa_ev e1
    have four : x.four = (true, i, y, s.wOf k) := by unfold Ln.four; rw [x1, x2, x3, x4]
    have d1 : Does B s (offM s y (2 * i + 1) (-(min (s.wOf k) (B.lo i))) (.floor k)) 1 := by
      refine does_offM ev.2.2 (ev_beg ev.1) ?_
      simp only [gives, hx]
      rw [if_pos x1, x2, x3, x4]
    obtain ⟨n1, _, r1, _⟩ := id d1
    have i1 := winv k x s _ _ ⟨g, hx⟩ r1
    have d2 := does_ahead W i1.1 i1.2 four
    obtain ⟨n2, _, r2, _⟩ := id d2
    have i2 := winv k x _ _ _ i1 r2
    have d3 := does_runL (f := delay B i y (s.wOf k) k) (N := 1) (winv (B := B) k x) B.every (fun s' z h _ => does_delay h.1 h.2 four z) _ i2
    have := (d1.seq d2).seq d3
    refine this.mono ?_
    rw [every_len]
    omega
def GInv (B : Br) (s : Cl) : Prop := Good B s
theorem ginv : ∀ (s s' : Cl) (n : Nat), Good B s → Rch B s s' n → Good B s' := fun _ _ _ h r => h.rch r
theorem does_adds {s : Cl} (g : Good B s) : Does B s (adds B s) (1 * (2 * B.m + 1) * (2 * B.m + 1) * (2 * B.m + 1)) := by
  have := does_runL (f := fun s b => runL (fun s a => runL (fun s c => addUp s a b c) s B.every) s B.every) (ginv (B := B)) B.every
    (fun s b h _ => does_runL (ginv (B := B)) B.every (fun s a h _ => does_runL (ginv (B := B)) B.every (fun s c h _ => does_addUp h a b c) s h) s h) s g
  rw [every_len] at this
  exact this
theorem does_waitsPass (W : B.WF) {s : Cl} (g : Good B s) : Does B s (waitsPass B s) ((2 + (2 * B.m + 1)) * s.waits.length) := by
  have := does_runL (f := fun s (p : Int × Int) => useWait B s p.1 p.2) (ginv (B := B)) (s.waits.map (·.1)) (fun s p h _ => does_useWait W h p.1 p.2) s g
  rw [List.length_map] at this
  exact this
theorem does_mostsPass {s : Cl} (g : Good B s) : Does B s (mostsPass B s) (1 * s.mosts.length) := by
  have := does_runL (f := fun s (p : Int × Int) => useMost B s p.1 p.2) (ginv (B := B)) (s.mosts.map (·.1)) (fun s p h _ => does_useMost h p.1 p.2) s g
  rw [List.length_map] at this
  exact this
def grid (n k : Nat) : List (Int × Int) := ((itsL n).map fun a => (itsL k).map fun b => (a, b)).flatten
theorem mem_grid {n k : Nat} {p : Int × Int} : p ∈ grid n k ↔ (0 ≤ p.1 ∧ p.1 < (n : Int)) ∧ 0 ≤ p.2 ∧ p.2 < (k : Int) := by
  unfold grid
  rw [List.mem_flatten]
  constructor
  · rintro ⟨l, hl, hp⟩
    obtain ⟨a, ha, rfl⟩ := List.mem_map.mp hl
    obtain ⟨b, hb, rfl⟩ := List.mem_map.mp hp
    exact ⟨mem_ints.mp ha, mem_ints.mp hb⟩
  · rintro ⟨h1, h2⟩
    exact ⟨_, List.mem_map.mpr ⟨p.1, mem_ints.mpr h1, rfl⟩, List.mem_map.mpr ⟨p.2, mem_ints.mpr h2, rfl⟩⟩
theorem mosts_len (W : B.WF) {s : Cl} (g : Good B s) : s.mosts.length ≤ 81 := by
  rw [← List.length_map (f := (·.1)) (as := s.mosts)]
  refine Nat.le_trans (List.Nodup.length_le_of_subset g.mnd (l₂ := grid 9 9) fun p hp => ?_) (by decide)
  obtain ⟨k, hk⟩ := look_key.mp hp
  have ev := g.mo_ev (a := p.1) (b := p.2) hk
  have := W.m4
  unfold Br.Ev at ev
  rw [mem_grid]
  omega
theorem waits_len (W : B.WF) {s : Cl} (g : Good B s) : s.waits.length ≤ 36 := by
  rw [← List.length_map (f := (·.1)) (as := s.waits)]
  refine Nat.le_trans (List.Nodup.length_le_of_subset g.wnd (l₂ := grid 4 9) fun p hp => ?_) (by decide)
  obtain ⟨k, hk⟩ := look_key.mp hp
  have ev := g.wa_ev (a := p.1) (b := p.2) hk
  have := W.m4
  unfold Br.Ev Br.Tk at ev
  rw [mem_grid]
  omega
theorem does_round (W : B.WF) {s : Cl} (g : Good B s) : Does B s (round B s) 1206 := by
  have d1 := does_waitsPass W g
  obtain ⟨n1, _, r1, _⟩ := id d1
  have g1 := g.rch r1
  have d2 := does_mostsPass g1
  obtain ⟨n2, _, r2, _⟩ := id d2
  have g2 := g1.rch r2
  have d3 := does_adds g2
  have := (d1.seq d2).seq d3
  refine this.mono ?_
  have h1 := waits_len W g
  have h2 := mosts_len W g1
  have h4 := W.m4
  have a1 : (2 + (2 * B.m + 1)) * s.waits.length ≤ 11 * 36 := Nat.mul_le_mul (by omega) h1
  have a3 : 1 * (2 * B.m + 1) * (2 * B.m + 1) * (2 * B.m + 1) ≤ 1 * 9 * 9 * 9 := Nat.mul_le_mul (Nat.mul_le_mul (Nat.mul_le_mul (Nat.le_refl _) (by omega)) (by omega)) (by omega)
  omega
end K95
/-! K95, the plain law, part 4: the closing comes to an end, and how large it grows. -/
namespace K95
variable {B : Br}
theorem ref_of_no {s : Cl} {a b w : Int} {r : Rs} (e : (offM s a b w r).2 = false) : RefM s a b w := by
  rcases offM_eq s a b w r with ⟨h, _⟩ | ⟨_, e2⟩
  · exact h
  · rw [e2] at e; cases e
theorem refW_of_no {s : Cl} {a b w : Int} {r : Rs} (e : (offW s a b w r).2 = false) : RefW s a b w := by
  rcases offW_eq s a b w r with ⟨h, _⟩ | ⟨_, e2⟩
  · exact h
  · rw [e2] at e; cases e
structure Fix (B : Br) (s : Cl) : Prop where
  sum : ∀ a b c x y, s.mo a b = some x → s.mo b c = some y → RefM s a c (x + y)
  early : ∀ a b x, isE a = true → a ≠ b → s.mo a b = some x → x < 0 → RefM s (a - 1) b (B.lo (own a) + x)
  floor : ∀ i y w, s.wa i y = some w → RefM s y (2 * i + 1) (-(min w (B.lo i)))
  ahead : ∀ i y w, s.wa i y = some w → isE y = true → own y ≠ i → 0 < w → RefW s i (y - 1) (w - B.lo (own y))
  delay : ∀ i y w z v, s.wa i y = some w → z ≠ 2 * i + 2 → z ≠ y → s.mo z y = some v → RefW s i z (min (B.hi i) (w - v))
theorem fix_of (W : B.WF) {s : Cl} (g : Good B s) (hf : s.fault = none) (e : (round B s).2 = false) : round B s = (s, false) ∧ Fix B s := by
  have d := does_round W g
  have e0 := d.eq e
  refine ⟨e0, ?_⟩
  have e' : ((waitsPass B s).2 || (mostsPass B (waitsPass B s).1).2 || (adds B (mostsPass B (waitsPass B s).1).1).2) = false := e
  rw [Bool.or_eq_false_iff, Bool.or_eq_false_iff] at e'
  obtain ⟨⟨e1, e2⟩, e3⟩ := e'
  have q1 := (does_waitsPass W g).eq e1
  rw [q1] at e2 e3
  have q2 := (does_mostsPass g).eq e2
  rw [q2] at e3
  have e1' : (runL (fun s (p : Int × Int) => useWait B s p.1 p.2) s (s.waits.map fun (q : (Int × Int) × Nat) => q.1)).2 = false := e1
  have e2' : (runL (fun s (p : Int × Int) => useMost B s p.1 p.2) s (s.mosts.map fun (q : (Int × Int) × Nat) => q.1)).2 = false := e2
  have hw := runL_no (ginv (B := B)) _ (fun s p h _ => does_useWait W h p.1 p.2) s g e1'
  have hm := runL_no (ginv (B := B)) _ (fun s p h _ => does_useMost h p.1 p.2) s g e2'
  have use : ∀ i y w, s.wa i y = some w → ∃ k x, look s.waits (i, y) = some k ∧ s.wOf k = w ∧ s.lines[k]? = some x ∧ x.four = (true, i, y, w) ∧ useWait B s i y = (s, false) := by
    intro i y w h
    obtain ⟨k, hk, hkw⟩ := wa_look h
    obtain ⟨x, hx, x1, x2, x3, x4⟩ := g.wa_line hk
    exact ⟨k, x, hk, hkw, hx, by unfold Ln.four; rw [x1, x2, x3, x4, hkw], hw (i, y) (look_key.mpr ⟨k, hk⟩)⟩
  have parts : ∀ i y w, s.wa i y = some w → ∃ k x, s.lines[k]? = some x ∧ x.four = (true, i, y, w) ∧ (offM s y (2 * i + 1) (-(min w (B.lo i))) (.floor k)).2 = false
      ∧ (ahead B s i y w k).2 = false ∧ (runL (delay B i y w k) s B.every).2 = false := by
    intro i y w h
    obtain ⟨k, x, hk, hkw, hx, four, hu⟩ := use i y w h
    refine ⟨k, x, hx, four, ?_⟩
    have ev := g.wa_ev hk
    have h2 := congrArg (·.2) hu
    unfold useWait at h2
    rw [hk] at h2
    simp only at h2
    rw [hkw] at h2
    rw [Bool.or_eq_false_iff, Bool.or_eq_false_iff] at h2
    obtain ⟨⟨f1, f2⟩, f3⟩ := h2
    have d1 : Does B s (offM s y (2 * i + 1) (-(min w (B.lo i))) (.floor k)) 1 := by
      refine does_offM ev.2.2 (ev_beg ev.1) ?_
      simp only [gives, hx]
      have x1 : x.wt = true := congrArg (·.1) four
      have x2 : x.a = i := congrArg (·.2.1) four
      have x3 : x.b = y := congrArg (·.2.2.1) four
      have x4 : x.w = w := congrArg (·.2.2.2) four
      rw [if_pos x1, x2, x3, x4]
    have q := d1.no f1
    rw [q] at f2 f3
    have q2 := (does_ahead W g hx four).no f2
    rw [q2] at f3
    exact ⟨f1, f2, f3⟩
  refine ⟨?_, ?_, ?_, ?_, ?_⟩
  · intro a b c x y h1 h2
    obtain ⟨k, hk, kx⟩ := mo_look h1
    obtain ⟨l, hl, ly⟩ := mo_look h2
    have ev1 := g.mo_ev hk
    have ev2 := g.mo_ev hl
    have f1 := runL_no (f := fun s b => runL (fun s a => runL (fun s c => addUp s a b c) s B.every) s B.every) (ginv (B := B)) B.every
      (fun s b h _ => does_runL (ginv (B := B)) B.every (fun s a h _ => does_runL (ginv (B := B)) B.every (fun s c h _ => does_addUp h a b c) s h) s h) s g e3 b (mem_every.mpr ev1.2)
    have f2 := runL_no (f := fun s a => runL (fun s c => addUp s a b c) s B.every) (ginv (B := B)) B.every
      (fun s a h _ => does_runL (ginv (B := B)) B.every (fun s c h _ => does_addUp h a b c) s h) s g (congrArg (·.2) f1) a (mem_every.mpr ev1.1)
    have f3 := runL_no (f := fun s c => addUp s a b c) (ginv (B := B)) B.every (fun s c h _ => does_addUp h a b c) s g (congrArg (·.2) f2) c (mem_every.mpr ev2.2)
    have f4 : addUp s a b c = (s, false) := f3
    unfold addUp at f4
    rw [hf, hk, hl] at f4
    simp only [Option.isSome_none] at f4
    rw [← kx, ← ly]
    exact ref_of_no (congrArg (·.2) f4)
  · intro a b x hE hab h1 hx
    obtain ⟨k, hk, kx⟩ := mo_look h1
    have f := hm (a, b) (look_key.mpr ⟨k, hk⟩)
    have f' : useMost B s a b = (s, false) := f
    unfold useMost at f'
    rw [hk] at f'
    simp only [hf, Option.isSome_none, hE, Bool.not_true, Bool.false_or, decide_eq_true_eq, if_neg hab, kx, if_pos hx] at f'
    have e1 := isE_own hE
    rw [show a - 1 = 2 * own a + 1 by omega]
    exact ref_of_no (congrArg (·.2) f')
  · intro i y w h
    obtain ⟨k, x, _, _, f1, _⟩ := parts i y w h
    exact ref_of_no f1
  · intro i y w h hE ho hw0
    obtain ⟨k, x, _, _, _, f2, _⟩ := parts i y w h
    unfold ahead at f2
    rw [if_pos (by rw [hE, decide_eq_true ho, decide_eq_true hw0]; rfl)] at f2
    have e1 := isE_own hE
    rw [show y - 1 = 2 * own y + 1 by omega]
    exact refW_of_no f2
  · intro i y w z v h hz1 hz2 hv
    obtain ⟨k, x, hx, four, _, _, f3⟩ := parts i y w h
    obtain ⟨l, hl, lv⟩ := mo_look hv
    have f := runL_no (f := delay B i y w k) (N := 1) (winv (B := B) k x) B.every (fun s' z h _ => does_delay h.1 h.2 four z) s ⟨g, hx⟩ f3 z (mem_every.mpr (g.mo_ev hl).1)
    unfold delay at f
    rw [if_neg (fun q => q.elim hz1 hz2), hl] at f
    simp only [lv] at f
    exact refW_of_no (congrArg (·.2) f)
/-! ### what a round reaches -/
theorem round_parts (W : B.WF) {s : Cl} (g : Good B s) : ∃ s1 s2 n1 n2 n3, Rch B s s1 n1 ∧ s1 = (waitsPass B s).1 ∧ Rch B s1 s2 n2 ∧ s2 = (mostsPass B s1).1 ∧ Rch B s2 (round B s).1 n3 ∧ (round B s).1 = (adds B s2).1 := by
  obtain ⟨n1, _, r1, _⟩ := does_waitsPass W g
  have g1 := g.rch r1
  obtain ⟨n2, _, r2, _⟩ := does_mostsPass g1
  obtain ⟨n3, _, r3, _⟩ := does_adds (g1.rch r2)
  exact ⟨_, _, n1, n2, n3, r1, rfl, r2, rfl, r3, rfl⟩
theorem offM_after {s : Cl} (g : Good B s) {a c w : Int} {r : Rs} {t : Cl} {n : Nat} (ha : B.Ev a) (hc : B.Ev c) (hg : gives B s.lines r = some (false, a, c, w)) (q : Rch B (offM s a c w r).1 t n) (ht : t.fault = none) :
    (a = c → 0 ≤ w) ∧ (a ≠ c → ∃ v, t.mo a c = some v ∧ v ≤ w) := by
  rcases offM_eq s a c w r with ⟨h, e⟩ | ⟨h, e⟩
  · rw [e] at q
    have hs : s.fault = none := q.nofault ht
    rcases h with ⟨h1, h2⟩ | ⟨v, h1, h2⟩
    · exact ⟨fun _ => h2, fun h => absurd h1 h⟩
    · refine ⟨fun e => ?_, fun _ => ?_⟩
      · subst e
        obtain ⟨k, hk, _⟩ := mo_look h1
        rw [g.nof hs a] at hk; cases hk
      · obtain ⟨v', e1, e2⟩ := q.mo_le g h1
        exact ⟨v', e1, by omega⟩
  · rw [e] at q
    have acc : Acc B s (addM s a c w r) := .most a c w r ha hc hg h rfl
    refine ⟨fun e1 => ?_, fun ne => ?_⟩
    · have : (addM s a c w r).fault.isSome = true := by
        show (if a = c then some s.lines.length else s.fault).isSome = true
        rw [if_pos e1]; rfl
      have := q.fault this
      rw [ht] at this; cases this
    · have e1 : (addM s a c w r).mo a c = some w := by rw [mo_addM g, if_pos ⟨rfl, rfl⟩]
      exact q.mo_le (g.acc acc) e1
theorem round_sum (W : B.WF) {s : Cl} (g : Good B s) (hf : (round B s).1.fault = none) {a b c x y : Int} (h1 : s.mo a b = some x) (h2 : s.mo b c = some y) :
    (a = c → 0 ≤ x + y) ∧ (a ≠ c → ∃ v, (round B s).1.mo a c = some v ∧ v ≤ x + y) := by
  obtain ⟨s1, s2, n1, n2, n3, r1, e1, r2, e2, r3, e3⟩ := round_parts W g
  have g2 := (g.rch r1).rch r2
  obtain ⟨k, hk, _⟩ := mo_look h1
  obtain ⟨l, hl, _⟩ := mo_look h2
  have ev1 := g.mo_ev hk
  have ev2 := g.mo_ev hl
  have Dc : ∀ (a b : Int) (s : Cl), Good B s → Does B s (runL (fun s c => addUp s a b c) s B.every) _ := fun a b s h => does_runL (ginv (B := B)) B.every (fun s c h _ => does_addUp h a b c) s h
  have Da : ∀ (b : Int) (s : Cl), Good B s → Does B s (runL (fun s a => runL (fun s c => addUp s a b c) s B.every) s B.every) _ := fun b s h => does_runL (ginv (B := B)) B.every (fun s a h _ => Dc a b s h) s h
  obtain ⟨u1, k1, k2, p1, gu1, p2⟩ := runL_mid (f := fun s b => runL (fun s a => runL (fun s c => addUp s a b c) s B.every) s B.every) (ginv (B := B)) B.every (fun s b h _ => Da b s h) s2 g2 b (mem_every.mpr ev1.2)
  obtain ⟨u2, k3, k4, p3, gu2, p4⟩ := runL_mid (f := fun s a => runL (fun s c => addUp s a b c) s B.every) (ginv (B := B)) B.every (fun s a h _ => Dc a b s h) u1 gu1 a (mem_every.mpr ev1.1)
  obtain ⟨u3, k5, k6, p5, gu3, p6⟩ := runL_mid (f := fun s c => addUp s a b c) (ginv (B := B)) B.every (fun s c h _ => does_addUp h a b c) u2 gu2 c (mem_every.mpr ev2.2)
  have toU := (((r1.trans r2).trans p1).trans p3).trans p5
  obtain ⟨NE, toE⟩ : ∃ N, Rch B (addUp u3 a b c).1 (round B s).1 N := by
    rw [e3]
    exact ⟨_, (p6.trans p4).trans p2⟩
  obtain ⟨x', hx', lx⟩ := toU.mo_le g h1
  obtain ⟨y', hy', ly⟩ := toU.mo_le g h2
  have fu : u3.fault = none := by
    obtain ⟨n, _, q, _⟩ := does_addUp gu3 a b c
    exact q.nofault (toE.nofault hf)
  obtain ⟨k', hk', kx⟩ := mo_look hx'
  obtain ⟨l', hl', ly'⟩ := mo_look hy'
  have ea : addUp u3 a b c = offM u3 a c (x' + y') (.sum k' l') := by
    unfold addUp
    rw [fu, hk', hl', ← kx, ← ly']
    rfl
  rw [ea] at toE
  have hg : gives B u3.lines (.sum k' l') = some (false, a, c, x' + y') := by
    obtain ⟨x, hx, x1, x2, x3, x4⟩ := gu3.mo_line hk'
    obtain ⟨y, hy, y1, y2, y3, y4⟩ := gu3.mo_line hl'
    simp only [gives, hx, hy]
    rw [if_pos ⟨x1, y1, by rw [y2, x3]⟩, x2, y3, x4, y4, kx, ly']
  obtain ⟨q1, q2⟩ := offM_after gu3 ev1.1 ev2.2 hg toE hf
  refine ⟨fun e => ?_, fun ne => ?_⟩
  · have := q1 e; omega
  · obtain ⟨v, hv, lv⟩ := q2 ne
    exact ⟨v, hv, by omega⟩
theorem round_keep (W : B.WF) {s : Cl} (g : Good B s) {a b x : Int} (h : s.mo a b = some x) : ∃ v, (round B s).1.mo a b = some v ∧ v ≤ x := by
  obtain ⟨n, _, r, _⟩ := does_round W g
  exact r.mo_le g h
theorem round_keepW (W : B.WF) {s : Cl} (g : Good B s) {a b x : Int} (h : s.wa a b = some x) : ∃ v, (round B s).1.wa a b = some v ∧ x ≤ v := by
  obtain ⟨n, _, r, _⟩ := does_round W g
  exact r.wa_ge g h
theorem round_delay (W : B.WF) {s : Cl} (g : Good B s) {i z v : Int} (h1 : s.wa i (2 * i + 2) = some (B.hi i)) (hz : z ≠ 2 * i + 2) (h2 : s.mo z (2 * i + 2) = some v) :
    ∃ w, (round B s).1.wa i z = some w ∧ min (B.hi i) (B.hi i - v) ≤ w := by
  obtain ⟨s1, s2, n1, n2, n3, r1, e1, r2, e2, r3, e3⟩ := round_parts W g
  obtain ⟨k0, hk0, _⟩ := wa_look h1
  obtain ⟨u, m1, m2, p1, gu, p2⟩ := runL_mid (f := fun s (p : Int × Int) => useWait B s p.1 p.2) (ginv (B := B)) (s.waits.map fun (q : (Int × Int) × Nat) => q.1) (fun s p h _ => does_useWait W h p.1 p.2) s g (i, 2 * i + 2) (look_key.mpr ⟨k0, hk0⟩)
  obtain ⟨w, hw, lw⟩ := p1.wa_ge g h1
  obtain ⟨k, hk, kw⟩ := wa_look hw
  obtain ⟨x, hx, x1, x2, x3, x4⟩ := gu.wa_line hk
  have ev := gu.wa_ev hk
  have four : x.four = (true, i, 2 * i + 2, u.wOf k) := by unfold Ln.four; rw [x1, x2, x3, x4]
  have d1 : Does B u (offM u (2 * i + 2) (2 * i + 1) (-(min (u.wOf k) (B.lo i))) (.floor k)) 1 := by
    refine does_offM ev.2.2 (ev_beg ev.1) ?_
    simp only [gives, hx]
    rw [if_pos x1, x2, x3, x4]
  obtain ⟨j1, _, q1, _⟩ := id d1
  have i1 := winv k x u _ _ ⟨gu, hx⟩ q1
  obtain ⟨j2, _, q2, _⟩ := does_ahead W i1.1 i1.2 four
  have i2 := winv k x _ _ _ i1 q2
  obtain ⟨l0, hl0, _⟩ := mo_look h2
  have evz := g.mo_ev hl0
  obtain ⟨u3, k5, k6, p5, gu3, p6⟩ := runL_mid (f := delay B i (2 * i + 2) (u.wOf k) k) (N := 1) (winv (B := B) k x) B.every (fun s' z h _ => does_delay h.1 h.2 four z) _ i2 z (mem_every.mpr evz.1)
  have toU := ((p1.trans q1).trans q2).trans p5
  obtain ⟨v', hv', lv⟩ := toU.mo_le g h2
  obtain ⟨l, hl, lv'⟩ := mo_look hv'
  have ed : delay B i (2 * i + 2) (u.wOf k) k u3 z = offW u3 i z (min (B.hi i) (u.wOf k - v')) (.delay k l) := by
    unfold delay
    rw [if_neg (fun q => q.elim hz hz), hl]
    simp only [lv']
  rw [ed] at p6
  have ew : (useWait B u i (2 * i + 2)).1 = (runL (delay B i (2 * i + 2) (u.wOf k) k) (ahead B (offM u (2 * i + 2) (2 * i + 1) (-(min (u.wOf k) (B.lo i))) (.floor k)).1 i (2 * i + 2) (u.wOf k) k).1 B.every).1 := by
    unfold useWait
    rw [hk]
  obtain ⟨NE, toE⟩ : ∃ N, Rch B (offW u3 i z (min (B.hi i) (u.wOf k - v')) (.delay k l)).1 (round B s).1 N := by
    have a1 := p6
    rw [← ew] at a1
    have a2 : Rch B (useWait B u i (2 * i + 2)).1 s1 m2 := by rw [e1]; exact p2
    exact ⟨_, (a1.trans a2).trans (r2.trans r3)⟩
  have hwk : u.wOf k = B.hi i := by have := ev.2.1; omega
  rcases offW_eq u3 i z (min (B.hi i) (u.wOf k - v')) (.delay k l) with ⟨⟨t, ht, lt⟩, e⟩ | ⟨h, e⟩
  · rw [e] at toE
    obtain ⟨w', hw', lw'⟩ := toE.wa_ge gu3.1 ht
    exact ⟨w', hw', by omega⟩
  · rw [e] at toE
    have hg : gives B u3.lines (.delay k l) = some (true, i, z, min (B.hi i) (u.wOf k - v')) := by
      obtain ⟨y, hy, y1, y2, y3, y4⟩ := gu3.1.mo_line hl
      simp only [gives, gu3.2, hy]
      rw [if_pos ⟨x1, y1, by rw [y3, x3], by rw [y2, x2]; exact hz⟩, x2, y2, x4, y4, lv']
    have acc : Acc B u3 (addW u3 i z (min (B.hi i) (u.wOf k - v')) (.delay k l)) := .wait i z _ _ ev.1 evz.1 (by omega) hg h rfl
    have e1 : (addW u3 i z (min (B.hi i) (u.wOf k - v')) (.delay k l)).wa i z = some (min (B.hi i) (u.wOf k - v')) := by rw [wa_addW gu3.1, if_pos ⟨rfl, rfl⟩]
    obtain ⟨w', hw', lw'⟩ := toE.wa_ge (gu3.1.acc acc) e1
    exact ⟨w', hw', by omega⟩
end K95
/-! K95, the plain law, part 5: how many rounds, how many lines, how large the numbers. -/
namespace K95
variable {B : Br}
/-! ### sums over lists -/
theorem sum_le {α : Type} (f g : α → Nat) : ∀ l : List α, (∀ p ∈ l, f p ≤ g p) → (l.map f).sum ≤ (l.map g).sum
  | [], _ => Nat.le_refl _
  | x :: r, h => by
    rw [List.map_cons, List.map_cons, List.sum_cons, List.sum_cons]
    have h1 := h x List.mem_cons_self
    have h2 := sum_le f g r fun p hp => h p (List.mem_cons_of_mem _ hp)
    omega
theorem sum_lt {α : Type} (f g : α → Nat) : ∀ l : List α, (∀ p ∈ l, f p ≤ g p) → (∃ p ∈ l, f p < g p) → (l.map f).sum + 1 ≤ (l.map g).sum
  | [], _, h => by obtain ⟨p, hp, _⟩ := h; cases hp
  | x :: r, h, ⟨p, hp, hlt⟩ => by
    rw [List.map_cons, List.map_cons, List.sum_cons, List.sum_cons]
    have h1 := h x List.mem_cons_self
    have hr : ∀ q ∈ r, f q ≤ g q := fun p hp => h p (List.mem_cons_of_mem _ hp)
    rcases List.mem_cons.mp hp with rfl | hp
    · have h2 := sum_le f g r hr; omega
    · have h2 := sum_lt f g r hr ⟨p, hp, hlt⟩; omega
theorem sum_const {α : Type} (f : α → Nat) (C : Nat) : ∀ l : List α, (∀ p ∈ l, f p ≤ C) → (l.map f).sum ≤ l.length * C
  | [], _ => Nat.zero_le _
  | x :: r, h => by
    rw [List.map_cons, List.sum_cons, List.length_cons, Nat.succ_mul]
    have h1 := h x List.mem_cons_self
    have h2 := sum_const f C r fun p hp => h p (List.mem_cons_of_mem _ hp)
    omega
/-! ### what can still be bettered -/
def phiM (s : Cl) (p : Int × Int) : Nat := match s.mo p.1 p.2 with
  | some v => (v + 61).toNat
  | none => 0
def phiW (B : Br) (s : Cl) (p : Int × Int) : Nat := match s.wa p.1 p.2 with
  | some w => (B.hi p.1 - w).toNat
  | none => 0
def phi (B : Br) (s : Cl) : Nat := ((grid 9 9).map (phiM s)).sum + ((grid 4 9).map (phiW B s)).sum
structure Up (B : Br) (s : Cl) : Prop where
  mo : ∀ a b, B.Ev a → B.Ev b → a ≠ b → ∃ v, s.mo a b = some v ∧ v ≤ 60
  wa : ∀ i y, B.Tk i → B.Ev y → ∃ w, s.wa i y = some w ∧ -60 ≤ w
def Low (s : Cl) : Prop := ∀ a b v, s.mo a b = some v → -60 ≤ v
def Bnd (s : Cl) (A : Int) : Prop := ∀ x ∈ s.lines, -A ≤ x.w ∧ x.w ≤ A
theorem Up.rch {s s' : Cl} {n : Nat} (g : Good B s) (u : Up B s) (r : Rch B s s' n) : Up B s' := by
  refine ⟨fun a b ha hb hab => ?_, fun i y hi hy => ?_⟩
  · obtain ⟨v, hv, lv⟩ := u.mo a b ha hb hab
    obtain ⟨v', h1, h2⟩ := r.mo_le g hv
    exact ⟨v', h1, by omega⟩
  · obtain ⟨w, hw, lw⟩ := u.wa i y hi hy
    obtain ⟨w', h1, h2⟩ := r.wa_ge g hw
    exact ⟨w', h1, by omega⟩
theorem Low.back {s s' : Cl} {n : Nat} (g : Good B s) (r : Rch B s s' n) (l : Low s') : Low s := by
  intro a b v hv
  obtain ⟨v', h1, h2⟩ := r.mo_le g hv
  have := l a b v' h1
  omega
theorem mem_addM {s : Cl} {a b w : Int} {r : Rs} {x : Ln} (h : x ∈ (addM s a b w r).lines) : x ∈ s.lines ∨ x.w = w := by
  have h' : x ∈ s.lines ++ [⟨false, a, b, w, r⟩] := h
  rcases List.mem_append.mp h' with h | h
  · exact .inl h
  · rw [List.mem_singleton] at h; subst h; exact .inr rfl
theorem mem_addW {s : Cl} {a b w : Int} {r : Rs} {x : Ln} (h : x ∈ (addW s a b w r).lines) : x ∈ s.lines ∨ x.w = w := by
  have h' : x ∈ s.lines ++ [⟨true, a, b, w, r⟩] := h
  rcases List.mem_append.mp h' with h | h
  · exact .inl h
  · rw [List.mem_singleton] at h; subst h; exact .inr rfl
theorem Bnd.addM {s : Cl} {A a b w : Int} {r : Rs} (h : Bnd s A) (h1 : -A ≤ w) (h2 : w ≤ A) : Bnd (addM s a b w r) A := fun x hx => by
  rcases mem_addM hx with q | q
  · exact h x q
  · rw [q]; exact ⟨h1, h2⟩
theorem Bnd.addW {s : Cl} {A a b w : Int} {r : Rs} (h : Bnd s A) (h1 : -A ≤ w) (h2 : w ≤ A) : Bnd (addW s a b w r) A := fun x hx => by
  rcases mem_addW hx with q | q
  · exact h x q
  · rw [q]; exact ⟨h1, h2⟩
theorem Bnd.mono {s : Cl} {A A' : Int} (h : Bnd s A) (l : A ≤ A') : Bnd s A' := fun x hx => by
  have := h x hx; omega
theorem Bnd.mo {s : Cl} {A : Int} (g : Good B s) (h : Bnd s A) {a b v : Int} (e : s.mo a b = some v) : -A ≤ v ∧ v ≤ A := by
  obtain ⟨k, hk, kv⟩ := mo_look e
  obtain ⟨x, hx, x1, x2, x3, x4⟩ := g.mo_line hk
  rw [← kv, ← x4]
  exact h x (List.mem_of_getElem? hx)
theorem Bnd.wa {s : Cl} {A : Int} (g : Good B s) (h : Bnd s A) {a b v : Int} (e : s.wa a b = some v) : -A ≤ v ∧ v ≤ A := by
  obtain ⟨k, hk, kv⟩ := wa_look e
  obtain ⟨x, hx, x1, x2, x3, x4⟩ := g.wa_line hk
  rw [← kv, ← x4]
  exact h x (List.mem_of_getElem? hx)
theorem acc_phi (W : B.WF) {s s' : Cl} (g : Good B s) (u : Up B s) (a : Acc B s s') (hf : s'.fault = none) (l : Low s') : phi B s' + 1 ≤ phi B s ∧ ∀ A, 60 ≤ A → Bnd s A → Bnd s' A := by
  have m4 := W.m4
  cases a with
  | most a b w r ha hb hg hr e =>
    subst e
    have hab : a ≠ b := by
      intro e
      have e1 : (if a = b then some s.lines.length else s.fault) = none := hf
      rw [if_pos e] at e1
      cases e1
    obtain ⟨v, hv, lv⟩ := u.mo a b ha hb hab
    have hlt : w < v := by
      have : ¬ v ≤ w := fun q => hr (.inr ⟨v, hv, q⟩)
      omega
    have e1 : (addM s a b w r).mo a b = some w := by rw [mo_addM g, if_pos ⟨rfl, rfl⟩]
    have hw := l a b w e1
    refine ⟨?_, fun A hA h => h.addM (by omega) (by omega)⟩
    unfold phi
    have h1 : ((grid 4 9).map (phiW B (addM s a b w r))).sum = ((grid 4 9).map (phiW B s)).sum := by
      congr 1
      apply List.map_congr_left
      intro p _
      unfold phiW
      rw [wa_addM g]
    rw [h1]
    have h2 := sum_lt (phiM (addM s a b w r)) (phiM s) (grid 9 9) (fun p _ => by
        unfold phiM
        rw [mo_addM g]
        by_cases e : p.1 = a ∧ p.2 = b
        · rw [if_pos e, e.1, e.2, hv]
          simp only
          omega
        · rw [if_neg e]; exact Nat.le_refl _) ⟨(a, b), mem_grid.mpr (by unfold Br.Ev at ha hb; simp only; omega), by
        unfold phiM
        rw [mo_addM g, if_pos ⟨rfl, rfl⟩, hv]
        simp only
        omega⟩
    omega
  | wait i y w r hi hy hw hg hr e =>
    subst e
    obtain ⟨v, hv, lv⟩ := u.wa i y hi hy
    have hlt : v < w := by
      have : ¬ w ≤ v := fun q => hr ⟨v, hv, q⟩
      omega
    have d := W.dur i hi
    refine ⟨?_, fun A hA h => h.addW (by omega) (by omega)⟩
    unfold phi
    have h1 : ((grid 9 9).map (phiM (addW s i y w r))).sum = ((grid 9 9).map (phiM s)).sum := by
      congr 1
      apply List.map_congr_left
      intro p _
      unfold phiM
      rw [mo_addW g]
    rw [h1]
    have h2 := sum_lt (phiW B (addW s i y w r)) (phiW B s) (grid 4 9) (fun p _ => by
        unfold phiW
        rw [wa_addW g]
        by_cases e : p.1 = i ∧ p.2 = y
        · rw [if_pos e, e.1, e.2, hv]
          simp only
          omega
        · rw [if_neg e]; exact Nat.le_refl _) ⟨(i, y), mem_grid.mpr (by unfold Br.Ev at hy; unfold Br.Tk at hi; simp only; omega), by
        unfold phiW
        rw [wa_addW g, if_pos ⟨rfl, rfl⟩, hv]
        simp only
        omega⟩
    omega
theorem rch_phi (W : B.WF) {s s' : Cl} {n : Nat} (g : Good B s) (u : Up B s) (r : Rch B s s' n) (hf : s'.fault = none) (l : Low s') : phi B s' + n ≤ phi B s ∧ ∀ A, 60 ≤ A → Bnd s A → Bnd s' A := by
  induction r with
  | refl => exact ⟨Nat.le_of_eq (Nat.add_zero _), fun _ _ h => h⟩
  | step r a ih =>
    have g1 := g.rch r
    have l1 := Low.back g1 (.one a) l
    have f1 := (Rch.one a).nofault hf
    obtain ⟨p1, b1⟩ := ih f1 l1
    obtain ⟨p2, b2⟩ := acc_phi W g1 (u.rch g r) a hf l
    exact ⟨by omega, fun A hA h => b2 A hA (b1 A hA h)⟩
theorem phiM_le {s : Cl} (g : Good B s) (u : Up B s) (hf : s.fault = none) (p : Int × Int) : phiM s p ≤ 121 := by
  unfold phiM
  cases e : s.mo p.1 p.2 with
  | none => exact Nat.zero_le _
  | some v =>
    obtain ⟨k, hk, _⟩ := mo_look e
    have ev := g.mo_ev hk
    have hne : p.1 ≠ p.2 := fun q => by
      rw [q] at hk
      rw [g.nof hf p.2] at hk; cases hk
    obtain ⟨v', hv', lv⟩ := u.mo p.1 p.2 ev.1 ev.2 hne
    rw [e] at hv'
    have := Option.some.inj hv'
    show (v + 61).toNat ≤ 121
    omega
theorem phiW_le (W : B.WF) {s : Cl} (g : Good B s) (u : Up B s) (p : Int × Int) : phiW B s p ≤ 80 := by
  unfold phiW
  cases e : s.wa p.1 p.2 with
  | none => exact Nat.zero_le _
  | some v =>
    obtain ⟨k, hk, _⟩ := wa_look e
    have ev := g.wa_ev hk
    obtain ⟨v', hv', lv⟩ := u.wa p.1 p.2 ev.1 ev.2.2
    rw [e] at hv'
    have := Option.some.inj hv'
    have d := W.dur _ ev.1
    show (B.hi p.1 - v).toNat ≤ 80
    omega
theorem phi_le (W : B.WF) {s : Cl} (g : Good B s) (u : Up B s) (hf : s.fault = none) : phi B s ≤ 12681 := by
  have h1 : ((grid 9 9).map (phiM s)).sum ≤ (grid 9 9).length * 121 := sum_const _ _ _ fun p _ => phiM_le g u hf p
  have h2 : ((grid 4 9).map (phiW B s)).sum ≤ (grid 4 9).length * 80 := sum_const _ _ _ fun p _ => phiW_le W g u p
  have e1 : (grid 9 9).length = 81 := by decide +kernel
  have e2 : (grid 4 9).length = 36 := by decide +kernel
  rw [e1] at h1
  rw [e2] at h2
  exact Nat.add_le_add h1 h2
/-! ### how large the numbers grow -/
theorem bnd_offM {s : Cl} {A a b w : Int} {r : Rs} (h : Bnd s A) (h1 : -A ≤ w) (h2 : w ≤ A) : Bnd (offM s a b w r).1 A := by
  rcases offM_eq s a b w r with ⟨_, e⟩ | ⟨_, e⟩ <;> rw [e]
  · exact h
  · exact h.addM h1 h2
theorem bnd_offW {s : Cl} {A a b w : Int} {r : Rs} (h : Bnd s A) (h1 : -A ≤ w) (h2 : w ≤ A) : Bnd (offW s a b w r).1 A := by
  rcases offW_eq s a b w r with ⟨_, e⟩ | ⟨_, e⟩ <;> rw [e]
  · exact h
  · exact h.addW h1 h2
theorem lo_small (W : B.WF) {i : Int} (h : B.Tk i) : 1 ≤ B.lo i ∧ B.lo i ≤ 20 ∧ 1 ≤ B.hi i ∧ B.hi i ≤ 20 := by have := W.dur i h; omega
/-- what the mosts say is at most A, all lines at most three times as much -/
def DInv (B : Br) (k : Nat) (x : Ln) (A : Int) (s : Cl) : Prop := WInv B k x s ∧ Bnd s (3 * A) ∧ ∀ a b v, s.mo a b = some v → -A ≤ v ∧ v ≤ A
theorem bnd_delays (W : B.WF) {i y w : Int} {k : Nat} {x : Ln} {A : Int} (hA : 20 ≤ A) (four : x.four = (true, i, y, w)) (hw : -A ≤ w ∧ w ≤ A) : ∀ (l : List Int) (s : Cl), DInv B k x A s → DInv B k x A (runL (delay B i y w k) s l).1
  | [], s, h => h
  | z :: r, s, h => by
    refine bnd_delays W hA four hw r _ ?_
    obtain ⟨n, _, q, _⟩ := does_delay h.1.1 h.1.2 four z
    refine ⟨winv k x _ _ _ h.1 q, ?_, ?_⟩
    · unfold delay
      by_cases hc : z = 2 * i + 2 ∨ z = y
      · rw [if_pos hc]; exact h.2.1
      · rw [if_neg hc]
        cases e5 : look s.mosts (z, y) with
        | none => exact h.2.1
        | some l =>
          have hv := h.2.2 z y _ (mo_some e5)
          have r := h.1.1.rng k x h.1.2
          have x1 : x.wt = true := congrArg (·.1) four
          have x2 : x.a = i := congrArg (·.2.1) four
          have t := (r.2.1 x1).1
          rw [x2] at t
          have := lo_small W t
          exact bnd_offW h.2.1 (by omega) (by omega)
    · intro a b v hv
      refine h.2.2 a b v ?_
      rw [← hv]
      unfold delay
      by_cases hc : z = 2 * i + 2 ∨ z = y
      · rw [if_pos hc]
      · rw [if_neg hc]
        cases e5 : look s.mosts (z, y) with
        | none => rfl
        | some l =>
          show _ = (offW s i z (min (B.hi i) (w - s.wOf l)) (.delay k l)).1.mo a b
          rcases offW_eq s i z (min (B.hi i) (w - s.wOf l)) (.delay k l) with ⟨_, e⟩ | ⟨_, e⟩ <;> rw [e]
          exact (mo_addW h.1.1 a b).symm
theorem bnd_useWait (W : B.WF) {s : Cl} {A : Int} (hA : 20 ≤ A) (g : Good B s) (h : Bnd s A) (i y : Int) : Bnd (useWait B s i y).1 (3 * A) := by
  unfold useWait
  cases e1 : look s.waits (i, y) with
  | none => exact h.mono (by omega)
  | some k =>
    obtain ⟨x, hx, x1, x2, x3, x4⟩ := g.wa_line e1
    have ev := g.wa_ev e1
    have hl := lo_small W ev.1
    have hw := h.wa g (wa_some e1)
    have four : x.four = (true, i, y, s.wOf k) := by unfold Ln.four; rw [x1, x2, x3, x4]
    have d1 : Does B s (offM s y (2 * i + 1) (-(min (s.wOf k) (B.lo i))) (.floor k)) 1 := by
      refine does_offM ev.2.2 (ev_beg ev.1) ?_
      simp only [gives, hx]
      rw [if_pos x1, x2, x3, x4]
    obtain ⟨n1, _, r1, _⟩ := id d1
    have i1 := winv k x s _ _ ⟨g, hx⟩ r1
    have b1 : Bnd (offM s y (2 * i + 1) (-(min (s.wOf k) (B.lo i))) (.floor k)).1 A := bnd_offM h (by omega) (by omega)
    have d2 := does_ahead W i1.1 i1.2 four
    obtain ⟨n2, _, r2, _⟩ := id d2
    have i2 := winv k x _ _ _ i1 r2
    refine (bnd_delays W hA four hw B.every _ ⟨i2, ?_, ?_⟩).2.1
    · unfold ahead
      by_cases hc : (isE y && decide (own y ≠ i) && decide (0 < s.wOf k)) = true
      · rw [if_pos hc]
        rw [Bool.and_eq_true, Bool.and_eq_true] at hc
        have := lo_small W (own_tk hc.1.1 ev.2.2)
        exact bnd_offW (b1.mono (by omega)) (by omega) (by omega)
      · rw [if_neg hc]; exact b1.mono (by omega)
    · intro a b v hv
      refine b1.mo i1.1 (a := a) (b := b) ?_
      rw [← hv]
      unfold ahead
      by_cases hc : (isE y && decide (own y ≠ i) && decide (0 < s.wOf k)) = true
      · rw [if_pos hc]
        rcases offW_eq (offM s y (2 * i + 1) (-(min (s.wOf k) (B.lo i))) (.floor k)).1 i (2 * own y + 1) (s.wOf k - B.lo (own y)) (.ahead k) with ⟨_, e⟩ | ⟨_, e⟩ <;> rw [e]
        exact (mo_addW i1.1 a b).symm
      · rw [if_neg hc]
theorem pow_mul_le {A : Int} (hA : 20 ≤ A) (c : Nat) (hc : 1 ≤ c) (n : Nat) : A ≤ (c : Int) ^ n * A ∧ 20 ≤ (c : Int) ^ n * A := by
  have h1 : (1 : Int) ≤ (c : Int) ^ n := by
    have : 1 ≤ c ^ n := Nat.one_le_pow n c (by omega)
    have e : ((c ^ n : Nat) : Int) = (c : Int) ^ n := by simp
    rw [← e]; omega
  have h2 : 1 * A ≤ (c : Int) ^ n * A := Int.mul_le_mul_of_nonneg_right h1 (by omega)
  omega
theorem bnd_waits (W : B.WF) : ∀ (l : List (Int × Int)) (s : Cl) (A : Int), 20 ≤ A → Good B s → Bnd s A → Bnd (runL (fun s (p : Int × Int) => useWait B s p.1 p.2) s l).1 ((3 : Nat) ^ l.length * A)
  | [], s, A, _, _, h => by
    show Bnd s _
    rw [List.length_nil]
    exact h.mono (by rw [Int.pow_zero]; omega)
  | p :: r, s, A, hA, g, h => by
    have b1 := bnd_useWait W hA g h p.1 p.2
    obtain ⟨n, _, q, _⟩ := does_useWait W g p.1 p.2
    have := bnd_waits W r _ (3 * A) (by omega) (g.rch q) b1
    rw [List.length_cons, Int.pow_succ, Int.mul_assoc]
    exact this
theorem bnd_useMost (W : B.WF) {s : Cl} {A : Int} (hA : 20 ≤ A) (g : Good B s) (h : Bnd s A) (a b : Int) : Bnd (useMost B s a b).1 (2 * A) := by
  unfold useMost
  cases e1 : look s.mosts (a, b) with
  | none => exact h.mono (by omega)
  | some k =>
    show Bnd (if (s.fault.isSome || !isE a || decide (a = b)) = true then (s, false) else _).1 _
    by_cases hc : (s.fault.isSome || !isE a || decide (a = b)) = true
    · rw [if_pos hc]; exact h.mono (by omega)
    · rw [if_neg hc]
      by_cases hw : s.wOf k < 0
      · rw [if_pos hw]
        have hE : isE a = true := by
          cases h : isE a with
          | true => rfl
          | false => exact absurd (by simp [h]) hc
        have := lo_small W (own_tk hE (g.mo_ev e1).1)
        have hv := h.mo g (mo_some e1)
        exact bnd_offM (h.mono (by omega)) (by omega) (by omega)
      · rw [if_neg hw]; exact h.mono (by omega)
theorem bnd_mosts (W : B.WF) : ∀ (l : List (Int × Int)) (s : Cl) (A : Int), 20 ≤ A → Good B s → Bnd s A → Bnd (runL (fun s (p : Int × Int) => useMost B s p.1 p.2) s l).1 ((2 : Nat) ^ l.length * A)
  | [], s, A, _, _, h => by
    show Bnd s _
    rw [List.length_nil]
    exact h.mono (by rw [Int.pow_zero]; omega)
  | p :: r, s, A, hA, g, h => by
    have b1 := bnd_useMost W hA g h p.1 p.2
    obtain ⟨n, _, q, _⟩ := does_useMost g p.1 p.2
    have := bnd_mosts W r _ (2 * A) (by omega) (g.rch q) b1
    rw [List.length_cons, Int.pow_succ, Int.mul_assoc]
    exact this
/-- within one phase of the sums, over b: what leads to b or from it stays as it is -/
def PInv (B : Br) (b A : Int) (s : Cl) : Prop := Good B s ∧ Bnd s (2 * A) ∧ (s.fault = none → ∀ x v, (s.mo x b = some v → -A ≤ v ∧ v ≤ A) ∧ (s.mo b x = some v → -A ≤ v ∧ v ≤ A))
theorem pinv_addUp {s : Cl} {b A : Int} (h : PInv B b A s) (a c : Int) : PInv B b A (addUp s a b c).1 := by
  obtain ⟨g, hb, hm⟩ := h
  obtain ⟨n, _, q, _⟩ := does_addUp g a b c
  unfold addUp at q ⊢
  by_cases hf : s.fault.isSome = true
  · rw [if_pos hf]; exact ⟨g, hb, hm⟩
  · rw [if_neg hf] at q ⊢
    have hf' := none_of hf
    cases e1 : look s.mosts (a, b) with
    | none => exact ⟨g, hb, hm⟩
    | some k =>
      cases e2 : look s.mosts (b, c) with
      | none => exact ⟨g, hb, hm⟩
      | some l =>
        have v1 := (hm hf' a _).1 (mo_some e1)
        have v2 := (hm hf' c _).2 (mo_some e2)
        have n1 : a ≠ b := fun e => by rw [e] at e1; rw [g.nof hf' b] at e1; cases e1
        have n2 : c ≠ b := fun e => by rw [e] at e2; rw [g.nof hf' b] at e2; cases e2
        rw [e1, e2] at q
        simp only at q ⊢
        refine ⟨g.rch q, bnd_offM hb (by omega) (by omega), ?_⟩
        rcases offM_eq s a c (s.wOf k + s.wOf l) (.sum k l) with ⟨_, e⟩ | ⟨_, e⟩ <;> rw [e]
        · exact hm
        · intro hf2 x v
          have e3 : ∀ y z, y = b ∨ z = b → (addM s a c (s.wOf k + s.wOf l) (.sum k l)).mo y z = s.mo y z := fun y z hyz => by
            rw [mo_addM g, if_neg]
            rintro ⟨rfl, rfl⟩
            exact hyz.elim n1 n2
          rw [e3 x b (.inr rfl), e3 b x (.inl rfl)]
          exact hm hf' x v
theorem pinv_c {b A : Int} (a : Int) : ∀ (l : List Int) (s : Cl), PInv B b A s → PInv B b A (runL (fun s c => addUp s a b c) s l).1
  | [], _, h => h
  | c :: r, s, h => pinv_c a r _ (pinv_addUp h a c)
theorem pinv_a {b A : Int} : ∀ (l : List Int) (s : Cl), PInv B b A s → PInv B b A (runL (fun s a => runL (fun s c => addUp s a b c) s B.every) s l).1
  | [], _, h => h
  | a :: r, s, h => pinv_a r _ (pinv_c a B.every s h)
theorem bnd_b : ∀ (l : List Int) (s : Cl) (A : Int), 20 ≤ A → Good B s → Bnd s A → Bnd (runL (fun s b => runL (fun s a => runL (fun s c => addUp s a b c) s B.every) s B.every) s l).1 ((2 : Nat) ^ l.length * A)
  | [], s, A, _, _, h => by
    show Bnd s _
    rw [List.length_nil]
    exact h.mono (by rw [Int.pow_zero]; omega)
  | b :: r, s, A, hA, g, h => by
    have p := pinv_a (B := B) B.every s ⟨g, h.mono (by omega), fun _ x v => ⟨fun e => h.mo g e, fun e => h.mo g e⟩⟩ (b := b) (A := A)
    have := bnd_b r _ (2 * A) (by omega) p.1 p.2.1
    rw [List.length_cons, Int.pow_succ, Int.mul_assoc]
    exact this
def G0 : Int := 3 ^ 36 * (2 ^ 81 * 2 ^ 9)
theorem pow_le_pow (c : Nat) (hc : 1 ≤ c) {n k : Nat} (h : n ≤ k) : ((c : Nat) : Int) ^ n ≤ (c : Int) ^ k := by
  have := Nat.pow_le_pow_right hc h
  have e1 : ((c ^ n : Nat) : Int) = (c : Int) ^ n := by simp
  have e2 : ((c ^ k : Nat) : Int) = (c : Int) ^ k := by simp
  rw [← e1, ← e2]; omega
theorem bnd_round (W : B.WF) {s : Cl} {A : Int} (hA : 20 ≤ A) (g : Good B s) (h : Bnd s A) : Bnd (round B s).1 (G0 * A) := by
  obtain ⟨s1, s2, n1, n2, n3, r1, e1, r2, e2, r3, e3⟩ := round_parts W g
  have g1 := g.rch r1
  have b1 : Bnd s1 ((3 : Nat) ^ 36 * A) := by
    rw [e1]
    refine (bnd_waits W (s.waits.map fun q => q.1) s A hA g h).mono ?_
    rw [List.length_map]
    exact Int.mul_le_mul_of_nonneg_right (pow_le_pow 3 (by decide) (waits_len W g)) (by omega)
  have c1 := pow_mul_le hA 3 (by decide) 36
  have b2 : Bnd s2 ((2 : Nat) ^ 81 * ((3 : Nat) ^ 36 * A)) := by
    rw [e2]
    refine (bnd_mosts W (s1.mosts.map fun q => q.1) s1 _ c1.2 g1 b1).mono ?_
    rw [List.length_map]
    exact Int.mul_le_mul_of_nonneg_right (pow_le_pow 2 (by decide) (mosts_len W g1)) (by omega)
  have c2 := pow_mul_le c1.2 2 (by decide) 81
  rw [e3]
  refine (bnd_b (B := B) B.every s2 _ c2.2 (g1.rch r2) b2).mono ?_
  have l9 : B.every.length ≤ 9 := by rw [every_len]; have := W.m4; omega
  refine Int.le_trans (Int.mul_le_mul_of_nonneg_right (pow_le_pow 2 (by decide) l9) (by omega)) (Int.le_of_eq ?_)
  unfold G0
  have c3 : (((3 : Nat) : Int)) = 3 := rfl
  have c4 : (((2 : Nat) : Int)) = 2 := rfl
  rw [c3, c4]
  ac_rfl
end K95
/-! K95, the plain law, part 6: the closing ends. -/
namespace K95
variable {B : Br}
def Le (s : Cl) (a b x : Int) : Prop := ∃ v, s.mo a b = some v ∧ v ≤ x
theorem Le.mono {s : Cl} {a b x y : Int} (h : Le s a b x) (l : x ≤ y) : Le s a b y := by obtain ⟨v, h1, h2⟩ := h; exact ⟨v, h1, by omega⟩
theorem Le.keep (W : B.WF) {s : Cl} (g : Good B s) {a b x : Int} (h : Le s a b x) : Le (round B s).1 a b x := by
  obtain ⟨v, h1, h2⟩ := h
  obtain ⟨v', h3, h4⟩ := round_keep W g h1
  exact ⟨v', h3, by omega⟩
theorem Le.add (W : B.WF) {s : Cl} (g : Good B s) (hf : (round B s).1.fault = none) {a b c x y : Int} (h : Le s a b x) (h' : Le s b c y) (ne : a ≠ c) : Le (round B s).1 a c (x + y) := by
  obtain ⟨v, h1, h2⟩ := h
  obtain ⟨v', h3, h4⟩ := h'
  obtain ⟨u, h5, h6⟩ := (round_sum W g hf h1 h3).2 ne
  exact ⟨u, h5, by omega⟩
/-! ### the start -/
theorem mem_enumF {α : Type} : ∀ (l : List α) (n : Nat) (q : Nat × α), q ∈ enumF n l → n ≤ q.1 ∧ l[q.1 - n]? = some q.2
  | [], _, _, h => nomatch h
  | x :: r, n, q, h => by
    rcases List.mem_cons.mp h with rfl | h
    · refine ⟨Nat.le_refl _, ?_⟩
      show (x :: r)[n - n]? = some x
      rw [Nat.sub_self]; rfl
    · obtain ⟨h1, h2⟩ := mem_enumF r (n + 1) q h
      refine ⟨by omega, ?_⟩
      rw [show q.1 - n = (q.1 - (n + 1)) + 1 by omega, List.getElem?_cons_succ]
      exact h2
theorem enumF_mem {α : Type} : ∀ (l : List α) (n : Nat) (x : α), x ∈ l → ∃ k, (k, x) ∈ enumF n l
  | [], _, _, h => nomatch h
  | y :: r, n, x, h => by
    rcases List.mem_cons.mp h with rfl | h
    · exact ⟨n, List.mem_cons_self⟩
    · obtain ⟨k, hk⟩ := enumF_mem r (n + 1) x h
      exact ⟨k, List.mem_cons_of_mem _ hk⟩
theorem enumF_len {α : Type} : ∀ (l : List α) (n : Nat), (enumF n l).length = l.length
  | [], _ => rfl
  | y :: r, n => by show (enumF (n + 1) r).length + 1 = r.length + 1; rw [enumF_len r]
theorem mem_bounds {p : Int × Int × Int} : p ∈ bounds B ↔ p ∈ B.limits ∨ (∃ q ∈ B.arrows, p = (2 * q.2 + 1, 2 * q.1 + 2, 0)) ∨ (∃ i, B.Tk i ∧ p = (0, 2 * i + 2, B.dl)) ∨ (∃ i, B.Tk i ∧ p = (2 * i + 1, 0, 0))
    ∨ (∃ i, B.Tk i ∧ p = (2 * i + 1, 2 * i + 2, B.hi i)) ∨ (∃ i, B.Tk i ∧ p = (2 * i + 2, 2 * i + 1, -B.lo i)) := by
  unfold bounds
  rw [List.mem_append, List.mem_append, List.mem_append, List.mem_append, List.mem_flatten]
  have tk : ∀ i, i ∈ itsL B.m ↔ B.Tk i := fun i => mem_ints
  constructor
  · rintro ((((h | h) | h) | h) | ⟨l, hl, h⟩)
    · exact .inl h
    · obtain ⟨q, hq, rfl⟩ := List.mem_map.mp h; exact .inr (.inl ⟨q, hq, rfl⟩)
    · obtain ⟨q, hq, rfl⟩ := List.mem_map.mp h; exact .inr (.inr (.inl ⟨q, (tk q).mp hq, rfl⟩))
    · obtain ⟨q, hq, rfl⟩ := List.mem_map.mp h; exact .inr (.inr (.inr (.inl ⟨q, (tk q).mp hq, rfl⟩)))
    · obtain ⟨q, hq, rfl⟩ := List.mem_map.mp hl
      rcases List.mem_cons.mp h with rfl | h
      · exact .inr (.inr (.inr (.inr (.inl ⟨q, (tk q).mp hq, rfl⟩))))
      · rw [List.mem_singleton] at h
        exact .inr (.inr (.inr (.inr (.inr ⟨q, (tk q).mp hq, h⟩))))
  · rintro (h | ⟨q, hq, rfl⟩ | ⟨q, hq, rfl⟩ | ⟨q, hq, rfl⟩ | ⟨q, hq, rfl⟩ | ⟨q, hq, rfl⟩)
    · exact .inl (.inl (.inl (.inl h)))
    · exact .inl (.inl (.inl (.inr (List.mem_map.mpr ⟨q, hq, rfl⟩))))
    · exact .inl (.inl (.inr (List.mem_map.mpr ⟨q, (tk q).mpr hq, rfl⟩)))
    · exact .inl (.inr (List.mem_map.mpr ⟨q, (tk q).mpr hq, rfl⟩))
    · exact .inr ⟨_, List.mem_map.mpr ⟨q, (tk q).mpr hq, rfl⟩, List.mem_cons_self⟩
    · exact .inr ⟨_, List.mem_map.mpr ⟨q, (tk q).mpr hq, rfl⟩, List.mem_cons_of_mem _ (List.mem_singleton.mpr rfl)⟩
theorem bounds_ok (W : B.WF) {p : Int × Int × Int} (h : p ∈ bounds B) : B.Ev p.1 ∧ B.Ev p.2.1 ∧ p.1 ≠ p.2.1 ∧ -100 ≤ p.2.2 ∧ p.2.2 ≤ 100 := by
  have d0 := W.dl0
  have d1 := W.dl1
  rcases mem_bounds.mp h with h | ⟨q, hq, rfl⟩ | ⟨q, hq, rfl⟩ | ⟨q, hq, rfl⟩ | ⟨q, hq, rfl⟩ | ⟨q, hq, rfl⟩
  · exact W.lim p h
  · have a := W.arr q hq
    refine ⟨ev_beg a.2.1, ev_end a.1, ?_, ?_, ?_⟩
    · show 2 * q.2 + 1 ≠ 2 * q.1 + 2; omega
    · show (-100 : Int) ≤ 0; decide
    · show (0 : Int) ≤ 100; decide
  · refine ⟨ev_0, ev_end hq, ?_, ?_, ?_⟩
    · show (0 : Int) ≠ 2 * q + 2; unfold Br.Tk at hq; omega
    · show -100 ≤ B.dl; omega
    · show B.dl ≤ 100; omega
  · refine ⟨ev_beg hq, ev_0, ?_, ?_, ?_⟩
    · show 2 * q + 1 ≠ 0; unfold Br.Tk at hq; omega
    · show (-100 : Int) ≤ 0; decide
    · show (0 : Int) ≤ 100; decide
  · have := lo_small W hq
    refine ⟨ev_beg hq, ev_end hq, ?_, ?_, ?_⟩
    · show 2 * q + 1 ≠ 2 * q + 2; omega
    · show -100 ≤ B.hi q; omega
    · show B.hi q ≤ 100; omega
  · have := lo_small W hq
    refine ⟨ev_end hq, ev_beg hq, ?_, ?_, ?_⟩
    · show 2 * q + 2 ≠ 2 * q + 1; omega
    · show -100 ≤ -B.lo q; omega
    · show -B.lo q ≤ 100; omega
theorem bounds_len (W : B.WF) : (bounds B).length ≤ 52 := by
  unfold bounds
  have h1 := W.lil
  have h2 := W.arl
  have h3 := W.m4
  rw [List.length_append, List.length_append, List.length_append, List.length_append, List.length_map, List.length_map, List.length_map, ints_len, List.length_flatten, List.map_map]
  have := sum_const (List.length ∘ fun i => [(2 * i + 1, 2 * i + 2, B.hi i), (2 * i + 2, 2 * i + 1, -B.lo i)]) 2 (itsL B.m) fun p _ => Nat.le_refl 2
  rw [ints_len] at this
  omega
theorem off_bounds (W : B.WF) : ∀ (l : List (Nat × Int × Int × Int)) (s : Cl), Good B s → (∀ q ∈ l, (bounds B)[q.1]? = some q.2) → ∃ n, n ≤ l.length ∧ Rch B s (offBounds B s l) n ∧ (∀ q ∈ l, Le (offBounds B s l) q.2.1 q.2.2.1 q.2.2.2)
    ∧ (Bnd s 100 → Bnd (offBounds B s l) 100) ∧ (s.fault = none → (offBounds B s l).fault = none)
  | [], s, g, _ => ⟨0, Nat.le_refl _, .refl s, fun q h => (nomatch h), id, id⟩
  | (k, a, b, w) :: r, s, g, h => by
    have hk := h (k, a, b, w) List.mem_cons_self
    have ok := bounds_ok W (List.mem_of_getElem? hk)
    have hg : gives B s.lines (.bound k) = some (false, a, b, w) := by
      simp only [gives]
      rw [show (bounds B)[k]? = some (a, b, w) from hk]
      rfl
    obtain ⟨n1, l1, r1, _⟩ := does_offM (s := s) ok.1 ok.2.1 hg
    have g1 := g.rch r1
    obtain ⟨n2, l2, r2, m2, b2, f2⟩ := off_bounds W r _ g1 fun q hq => h q (List.mem_cons_of_mem _ hq)
    refine ⟨n1 + n2, by rw [List.length_cons]; omega, r1.trans r2, ?_, fun hb => b2 (bnd_offM hb ok.2.2.2.1 ok.2.2.2.2), fun hf => f2 ?_⟩
    · intro q hq
      rcases List.mem_cons.mp hq with rfl | hq
      · have : Le (offM s a b w (.bound k)).1 a b w := by
          rcases offM_eq s a b w (.bound k) with ⟨h, e⟩ | ⟨h, e⟩ <;> rw [e]
          · rcases h with ⟨h, _⟩ | h
            · exact absurd h ok.2.2.1
            · exact h
          · exact ⟨w, by rw [mo_addM g, if_pos ⟨rfl, rfl⟩], Int.le_refl _⟩
        obtain ⟨v, hv, lv⟩ := this
        obtain ⟨v', hv', lv'⟩ := r2.mo_le g1 hv
        exact ⟨v', hv', by simp only; omega⟩
      · exact m2 q hq
    · rcases offM_eq s a b w (.bound k) with ⟨h, e⟩ | ⟨h, e⟩ <;> rw [e]
      · exact hf
      · show (if a = b then some s.lines.length else s.fault) = none
        rw [if_neg ok.2.2.1]; exact hf
theorem off_highs (W : B.WF) : ∀ (l : List Nat) (s : Cl), Good B s → (∀ i ∈ l, i < B.m) → ∃ n, n ≤ l.length ∧ Rch B s (offHighs B s l) n ∧ (∀ i ∈ l, (offHighs B s l).wa i (2 * (i : Int) + 2) = some (B.hi i))
    ∧ (Bnd s 100 → Bnd (offHighs B s l) 100) ∧ (s.fault = none → (offHighs B s l).fault = none)
  | [], s, g, _ => ⟨0, Nat.le_refl _, .refl s, fun q h => (nomatch h), id, id⟩
  | i :: r, s, g, h => by
    have hi := h i List.mem_cons_self
    have tk : B.Tk i := by unfold Br.Tk; omega
    have hg : gives B s.lines (.high i) = some (true, (i : Int), 2 * (i : Int) + 2, B.hi i) := by
      simp only [gives]
      rw [if_pos hi]
    have sm := lo_small W tk
    obtain ⟨n1, l1, r1, _⟩ := does_offW (s := s) tk (ev_end tk) (Int.le_refl _) hg
    have g1 := g.rch r1
    obtain ⟨n2, l2, r2, m2, b2, f2⟩ := off_highs W r _ g1 fun q hq => h q (List.mem_cons_of_mem _ hq)
    refine ⟨n1 + n2, by rw [List.length_cons]; omega, r1.trans r2, ?_, fun hb => b2 (bnd_offW hb (by omega) (by omega)), fun hf => f2 ?_⟩
    · intro q hq
      rcases List.mem_cons.mp hq with rfl | hq
      · have : ∃ v, (offW s q (2 * (q : Int) + 2) (B.hi q) (.high q)).1.wa q (2 * (q : Int) + 2) = some v ∧ B.hi q ≤ v := by
          rcases offW_eq s q (2 * (q : Int) + 2) (B.hi q) (.high q) with ⟨h, e⟩ | ⟨h, e⟩ <;> rw [e]
          · exact h
          · exact ⟨_, by rw [wa_addW g, if_pos ⟨rfl, rfl⟩], Int.le_refl _⟩
        obtain ⟨v, hv, lv⟩ := this
        obtain ⟨v', hv', lv'⟩ := r2.wa_ge g1 hv
        obtain ⟨k, hk, kv⟩ := wa_look hv'
        have := ((g1.rch r2).wa_ev hk).2.1
        rw [show (offHighs B s (q :: r)) = offHighs B (offW s q (2 * (q : Int) + 2) (B.hi q) (.high q)).1 r from rfl, hv']
        congr 1
        omega
      · exact m2 q hq
    · rcases offW_eq s i (2 * (i : Int) + 2) (B.hi i) (.high i) with ⟨h, e⟩ | ⟨h, e⟩ <;> rw [e] <;> exact hf
theorem good_nil : Good B ⟨[], [], [], none⟩ where
  just := fun k x h => by simp at h
  rng := fun k x h => by simp at h
  mo := fun a b k h => by simp [look] at h
  wa := fun a b k h => by simp [look] at h
  mnd := List.nodup_nil
  wnd := List.nodup_nil
  flt := fun k h => nomatch h
  nof := fun _ a => rfl
structure Start (B : Br) (s : Cl) : Prop where
  good : Good B s
  nof : s.fault = none
  len : s.lines.length ≤ 60
  bnd : Bnd s 100
  bds : ∀ p ∈ bounds B, Le s p.1 p.2.1 p.2.2
  hig : ∀ i, B.Tk i → s.wa i (2 * i + 2) = some (B.hi i)
theorem init_ok (W : B.WF) : Start B (init B) := by
  obtain ⟨n1, l1, r1, m1, b1, f1⟩ := off_bounds W (enumF 0 (bounds B)) _ (good_nil (B := B)) fun q hq => by
    have := (mem_enumF _ _ _ hq).2
    rw [Nat.sub_zero] at this
    exact this
  have g1 := good_nil.rch r1
  obtain ⟨n2, l2, r2, m2, b2, f2⟩ := off_highs W (List.range B.m) _ g1 fun i hi => List.mem_range.mp hi
  refine ⟨g1.rch r2, f2 (f1 rfl), ?_, b2 (b1 fun x hx => nomatch hx), ?_, ?_⟩
  · have e := (r1.trans r2).len
    have h1 := bounds_len W
    have h2 := W.m4
    rw [enumF_len] at l1
    rw [List.length_range] at l2
    show (offHighs B (offBounds B ⟨[], [], [], none⟩ (enumF 0 (bounds B))) (List.range B.m)).lines.length ≤ 60
    rw [e]
    simp only [List.length_nil]
    omega
  · intro p hp
    obtain ⟨k, hk⟩ := enumF_mem _ 0 _ hp
    obtain ⟨v, hv, lv⟩ := m1 _ hk
    obtain ⟨v', hv', lv'⟩ := r2.mo_le g1 hv
    exact ⟨v', hv', by simp only at lv; omega⟩
  · intro i hi
    unfold Br.Tk at hi
    have := m2 i.toNat (List.mem_range.mpr (by omega))
    rw [show ((i.toNat : Nat) : Int) = i by omega] at this
    exact this
/-! ### the first three rounds -/
structure S0 (B : Br) (s : Cl) : Prop where
  a : ∀ i, B.Tk i → Le s (2 * i + 1) 0 0
  b : ∀ i, B.Tk i → Le s 0 (2 * i + 2) 60
  c : ∀ i, B.Tk i → Le s (2 * i + 2) (2 * i + 1) 0
structure S1 (B : Br) (s : Cl) : Prop extends S0 B s where
  d : ∀ i j, B.Tk i → B.Tk j → Le s (2 * i + 1) (2 * j + 2) 60
  e : ∀ i, B.Tk i → Le s (2 * i + 2) 0 0
  f : ∀ i, B.Tk i → Le s 0 (2 * i + 1) 60
def S2 (B : Br) (s : Cl) : Prop := ∀ a b, B.Ev a → B.Ev b → a ≠ b → Le s a b 60
def Hig (B : Br) (s : Cl) : Prop := ∀ i, B.Tk i → s.wa i (2 * i + 2) = some (B.hi i)
theorem Hig.rch {s s' : Cl} {n : Nat} (g : Good B s) (r : Rch B s s' n) (h : Hig B s) : Hig B s' := fun i hi => by
  obtain ⟨v, hv, lv⟩ := r.wa_ge g (h i hi)
  obtain ⟨k, hk, kv⟩ := wa_look hv
  have := ((g.rch r).wa_ev hk).2.1
  rw [hv]; congr 1; omega
theorem s0_of (W : B.WF) {s : Cl} (h : ∀ p ∈ bounds B, Le s p.1 p.2.1 p.2.2) : S0 B s := by
  have d1 := W.dl1
  refine ⟨fun i hi => ?_, fun i hi => ?_, fun i hi => ?_⟩
  · exact h (2 * i + 1, 0, 0) (mem_bounds.mpr (.inr (.inr (.inr (.inl ⟨i, hi, rfl⟩)))))
  · exact (h (0, 2 * i + 2, B.dl) (mem_bounds.mpr (.inr (.inr (.inl ⟨i, hi, rfl⟩))))).mono d1
  · have := lo_small W hi
    exact (h (2 * i + 2, 2 * i + 1, -B.lo i) (mem_bounds.mpr (.inr (.inr (.inr (.inr (.inr ⟨i, hi, rfl⟩))))))).mono (by show -B.lo i ≤ 0; omega)
theorem s1_of (W : B.WF) {s : Cl} (g : Good B s) (h : S0 B s) (hf : (round B s).1.fault = none) : S1 B (round B s).1 where
  a := fun i hi => (h.a i hi).keep W g
  b := fun i hi => (h.b i hi).keep W g
  c := fun i hi => (h.c i hi).keep W g
  d := fun i j hi hj => ((h.a i hi).add W g hf (h.b j hj) (by omega)).mono (by omega)
  e := fun i hi => ((h.c i hi).add W g hf (h.a i hi) (by unfold Br.Tk at hi; omega)).mono (by omega)
  f := fun i hi => ((h.b i hi).add W g hf (h.c i hi) (by unfold Br.Tk at hi; omega)).mono (by omega)
theorem s2_of (W : B.WF) {s : Cl} (g : Good B s) (h : S1 B s) (hf : (round B s).1.fault = none) : S2 B (round B s).1 := by
  intro a b ha hb hab
  rcases ev_cases ha with rfl | ⟨i, hi, rfl⟩ | ⟨i, hi, rfl⟩ <;> rcases ev_cases hb with rfl | ⟨j, hj, rfl⟩ | ⟨j, hj, rfl⟩
  · exact absurd rfl hab
  · exact (h.f j hj).keep W g
  · exact (h.b j hj).keep W g
  · exact ((h.a i hi).keep W g).mono (by omega)
  · exact ((h.a i hi).add W g hf (h.f j hj) hab).mono (by omega)
  · exact (h.d i j hi hj).keep W g
  · exact ((h.e i hi).keep W g).mono (by omega)
  · exact ((h.e i hi).add W g hf (h.f j hj) hab).mono (by omega)
  · exact ((h.e i hi).add W g hf (h.b j hj) hab).mono (by omega)
theorem up_of (W : B.WF) {s : Cl} (g : Good B s) (h : S2 B s) (hh : Hig B s) : Up B (round B s).1 := by
  refine ⟨fun a b ha hb hab => (h a b ha hb hab).keep W g, fun i y hi hy => ?_⟩
  have sm := lo_small W hi
  by_cases e : y = 2 * i + 2
  · subst e
    obtain ⟨w, hw, lw⟩ := round_keepW W g (hh i hi)
    exact ⟨w, hw, by omega⟩
  · obtain ⟨v, hv, lv⟩ := h y (2 * i + 2) hy (ev_end hi) e
    obtain ⟨w, hw, lw⟩ := round_delay W g (hh i hi) e hv
    exact ⟨w, hw, by omega⟩
/-! ### to the end -/
def Out (B : Br) (s : Cl) (L : Nat) (A : Int) : Prop := ∃ n t, Run B n s t ∧ (∃ k, Rch B s t k) ∧ t.lines.length ≤ L ∧ Bnd t A ∧ (t.fault = none → Fix B t)
theorem G0_pos : 1 ≤ G0 := by unfold G0; decide +kernel
theorem G0_le {A : Int} (h : 20 ≤ A) : A ≤ G0 * A := by
  have := Int.mul_le_mul_of_nonneg_right G0_pos (show 0 ≤ A by omega)
  omega
theorem Out.turn (W : B.WF) {s : Cl} {L0 L : Nat} {A0 A : Int} (g : Good B s) (hf : s.fault = none) (hl : s.lines.length ≤ L0) (hb : Bnd s A0) (h20 : 20 ≤ A0) (hL : L0 + 1206 ≤ L) (hA : G0 * A0 ≤ A)
    (h : (round B s).2 = true → Good B (round B s).1 → (round B s).1.fault = none → (round B s).1.lines.length ≤ L0 + 1206 → Bnd (round B s).1 (G0 * A0) → Out B (round B s).1 L A) : Out B s L A := by
  obtain ⟨n, ln, r, _⟩ := does_round W g
  have g1 := g.rch r
  have b1 := bnd_round W h20 g hb
  have l1 : (round B s).1.lines.length ≤ L0 + 1206 := by rw [r.len]; omega
  cases e : (round B s).2 with
  | false =>
    obtain ⟨e1, fx⟩ := fix_of W g hf e
    have := G0_le h20
    exact ⟨1, s, .last hf e1, ⟨0, .refl s⟩, by omega, hb.mono (by omega), fun _ => fx⟩
  | true =>
    have er : round B s = ((round B s).1, true) := by rw [← e]
    cases ef : (round B s).1.fault with
    | some k => exact ⟨_, _, .turn hf er (.fault (by rw [ef]; rfl)), ⟨n, r⟩, by omega, b1.mono hA, fun h => by rw [ef] at h; cases h⟩
    | none =>
      obtain ⟨k, t, q, ⟨j, rt⟩, lt, bt, ft⟩ := h e g1 ef l1 b1
      exact ⟨_, t, .turn hf er q, ⟨_, r.trans rt⟩, lt, bt, ft⟩
theorem to_end (W : B.WF) {L : Nat} {A : Int} (hA : 100 ≤ A) : ∀ (N : Nat) (s : Cl), Good B s → Up B s → s.fault = none → phi B s ≤ N → Bnd s A → s.lines.length + phi B s ≤ L → Out B s (L + 2412) (G0 * (G0 * A)) := by
  intro N
  induction N with
  | zero =>
    intro s g u hf hp hb hl
    have A1 := G0_le (A := A) (by omega)
    have A2 := G0_le (A := G0 * A) (by omega)
    refine Out.turn W (L0 := L) (A0 := A) g hf (by omega) hb (by omega) (by omega) A2 fun hc g1 f1 l1 b1 => ?_
    obtain ⟨n, ln, r, _, hn⟩ := does_round W g
    by_cases hlow : Low (round B s).1
    · have := (rch_phi W g u r f1 hlow).1
      have := hn hc
      omega
    · have ⟨a, b, v, hv, lv⟩ : ∃ a b v, (round B s).1.mo a b = some v ∧ v < -60 := by
        apply Classical.byContradiction
        intro hno
        refine hlow fun a b v hv => ?_
        apply Classical.byContradiction
        intro h
        exact hno ⟨a, b, v, hv, by omega⟩
      refine Out.turn W (L0 := L + 1206) (A0 := G0 * A) g1 f1 (by omega) b1 (by omega) (by omega) (Int.le_refl _) fun hc2 g2 f2 l2 b2 => ?_
      obtain ⟨k, hk, _⟩ := mo_look hv
      have ev := g1.mo_ev hk
      have hne : a ≠ b := fun q => by rw [q] at hk; rw [g1.nof f1 b] at hk; cases hk
      obtain ⟨v', hv', lv'⟩ := (u.rch g r).mo b a ev.2 ev.1 (Ne.symm hne)
      have := (round_sum W g1 f2 hv hv').1 rfl
      omega
  | succ N ih =>
    intro s g u hf hp hb hl
    have A1 := G0_le (A := A) (by omega)
    have A2 := G0_le (A := G0 * A) (by omega)
    refine Out.turn W (L0 := L) (A0 := A) g hf (by omega) hb (by omega) (by omega) A2 fun hc g1 f1 l1 b1 => ?_
    obtain ⟨n, ln, r, _, hn⟩ := does_round W g
    by_cases hlow : Low (round B s).1
    · obtain ⟨p1, p2⟩ := rch_phi W g u r f1 hlow
      have hn0 := hn hc
      have e := r.len
      exact ih _ g1 (u.rch g r) f1 (by omega) (p2 A (by omega) hb) (by omega)
    · have ⟨a, b, v, hv, lv⟩ : ∃ a b v, (round B s).1.mo a b = some v ∧ v < -60 := by
        apply Classical.byContradiction
        intro hno
        refine hlow fun a b v hv => ?_
        apply Classical.byContradiction
        intro h
        exact hno ⟨a, b, v, hv, by omega⟩
      refine Out.turn W (L0 := L + 1206) (A0 := G0 * A) g1 f1 (by omega) b1 (by omega) (by omega) (Int.le_refl _) fun hc2 g2 f2 l2 b2 => ?_
      obtain ⟨k, hk, _⟩ := mo_look hv
      have ev := g1.mo_ev hk
      have hne : a ≠ b := fun q => by rw [q] at hk; rw [g1.nof f1 b] at hk; cases hk
      obtain ⟨v', hv', lv'⟩ := (u.rch g r).mo b a ev.2 ev.1 (Ne.symm hne)
      have := (round_sum W g1 f2 hv hv').1 rfl
      omega
/-- what is known of the end -/
structure Fin (B : Br) (t : Cl) : Prop where
  good : Good B t
  len : t.lines.length ≤ 20000
  bnd : Bnd t (2 ^ 800)
  fix : t.fault = none → Fix B t
  bds : ∀ p ∈ bounds B, Le t p.1 p.2.1 p.2.2
  hig : Hig B t
theorem closing_ends (W : B.WF) : ∃ n t, Run B n (init B) t ∧ Fin B t := by
  have S := init_ok W
  have A1 := G0_le (A := 100) (by omega)
  have A2 := G0_le (A := G0 * 100) (by omega)
  have A3 := G0_le (A := G0 * (G0 * 100)) (by omega)
  have A4 := G0_le (A := G0 * (G0 * (G0 * 100))) (by omega)
  have A5 := G0_le (A := G0 * (G0 * (G0 * (G0 * 100)))) (by omega)
  have big : G0 * (G0 * (G0 * (G0 * (G0 * 100)))) ≤ 2 ^ 800 := by unfold G0; decide +kernel
  have out : Out B (init B) 20000 (G0 * (G0 * (G0 * (G0 * (G0 * 100))))) := by
    refine Out.turn W (L0 := 60) (A0 := 100) S.good S.nof S.len S.bnd (by omega) (by omega) (by omega) fun hc g1 f1 l1 b1 => ?_
    obtain ⟨n1, _, r1, _⟩ := does_round W S.good
    have s1 := s1_of W S.good (s0_of W S.bds) f1
    have h1 := Hig.rch S.good r1 S.hig
    refine Out.turn W (L0 := 1266) (A0 := G0 * 100) g1 f1 l1 b1 (by omega) (by omega) (by omega) fun hc g2 f2 l2 b2 => ?_
    obtain ⟨n2, _, r2, _⟩ := does_round W g1
    have s2 := s2_of W g1 s1 f2
    have h2 := Hig.rch g1 r2 h1
    refine Out.turn W (L0 := 2472) (A0 := G0 * (G0 * 100)) g2 f2 l2 b2 (by omega) (by omega) (by omega) fun hc g3 f3 l3 b3 => ?_
    have u := up_of W g2 s2 h2
    have hp := phi_le W g3 u f3
    have := to_end W (L := 17588) (A := G0 * (G0 * (G0 * 100))) (by omega) _ _ g3 u f3 (Nat.le_refl _) b3 (by omega)
    exact this
  obtain ⟨n, t, q, ⟨k, r⟩, l, b, f⟩ := out
  refine ⟨n, t, q, S.good.rch r, l, b.mono big, f, fun p hp => ?_, Hig.rch S.good r S.hig⟩
  obtain ⟨v, hv, lv⟩ := S.bds p hp
  obtain ⟨v', hv', lv'⟩ := r.mo_le S.good hv
  exact ⟨v', hv', by omega⟩
end K95
/-! K95, the plain law, part 7: closed tables; what is left of a brief has one, too. -/
namespace K95
variable {B : Br}
structure Closed (B : Br) (M W : Int → Int → Int) : Prop where
  diag : ∀ a, B.Ev a → M a a = 0
  bnd : ∀ p ∈ bounds B, M p.1 p.2.1 ≤ p.2.2
  sum : ∀ a b c, B.Ev a → B.Ev b → B.Ev c → M a c ≤ M a b + M b c
  early : ∀ i x, B.Tk i → B.Ev x → M (2 * i + 2) x < 0 → M (2 * i + 1) x ≤ B.lo i + M (2 * i + 2) x
  high : ∀ i, B.Tk i → W i (2 * i + 2) = B.hi i
  le : ∀ i y, B.Tk i → B.Ev y → W i y ≤ B.hi i
  floor : ∀ i y, B.Tk i → B.Ev y → M y (2 * i + 1) ≤ -(min (W i y) (B.lo i))
  ahead : ∀ i k, B.Tk i → B.Tk k → k ≠ i → 0 < W i (2 * k + 2) → W i (2 * k + 2) - B.lo k ≤ W i (2 * k + 1)
  delay : ∀ i x y, B.Tk i → B.Ev x → B.Ev y → y ≠ 2 * i + 2 → min (B.hi i) (W i x - M y x) ≤ W i y
def Cl.M (t : Cl) (a b : Int) : Int := if a = b then 0 else (t.mo a b).getD 0
def Cl.W (t : Cl) (i y : Int) : Int := (t.wa i y).getD 0
section
variable {t : Cl}
theorem ref_le (g : Good B t) (hf : t.fault = none) {a c w : Int} (h : RefM t a c w) : t.M a c ≤ w := by
  unfold Cl.M
  by_cases e : a = c
  · rw [if_pos e]
    rcases h with ⟨_, h⟩ | ⟨v, hv, _⟩
    · exact h
    · subst e
      obtain ⟨k, hk, _⟩ := mo_look hv
      rw [g.nof hf a] at hk; cases hk
  · rw [if_neg e]
    rcases h with ⟨h, _⟩ | ⟨v, hv, lv⟩
    · exact absurd h e
    · rw [hv]; exact lv
theorem Le.fix {t : Cl} (fx : Fix B t) {a b c x y : Int} (h : Le t a b x) (h' : Le t b c y) (ne : a ≠ c) : Le t a c (x + y) := by
  obtain ⟨v, h1, h2⟩ := h
  obtain ⟨v', h3, h4⟩ := h'
  rcases fx.sum a b c v v' h1 h3 with ⟨h, _⟩ | ⟨u, hu, lu⟩
  · exact absurd h ne
  · exact ⟨u, hu, by omega⟩
theorem all_there (W : B.WF) (F : Fin B t) (hf : t.fault = none) : S2 B t := by
  have fx := F.fix hf
  have h := s0_of W F.bds
  have hd : ∀ i j, B.Tk i → B.Tk j → Le t (2 * i + 1) (2 * j + 2) 60 := fun i j hi hj => ((h.a i hi).fix fx (h.b j hj) (by omega)).mono (by omega)
  have he : ∀ i, B.Tk i → Le t (2 * i + 2) 0 0 := fun i hi => ((h.c i hi).fix fx (h.a i hi) (by unfold Br.Tk at hi; omega)).mono (by omega)
  have hg : ∀ i, B.Tk i → Le t 0 (2 * i + 1) 60 := fun i hi => ((h.b i hi).fix fx (h.c i hi) (by unfold Br.Tk at hi; omega)).mono (by omega)
  intro a b ha hb hab
  rcases ev_cases ha with rfl | ⟨i, hi, rfl⟩ | ⟨i, hi, rfl⟩ <;> rcases ev_cases hb with rfl | ⟨j, hj, rfl⟩ | ⟨j, hj, rfl⟩
  · exact absurd rfl hab
  · exact hg j hj
  · exact h.b j hj
  · exact (h.a i hi).mono (by omega)
  · exact ((h.a i hi).fix fx (hg j hj) hab).mono (by omega)
  · exact hd i j hi hj
  · exact (he i hi).mono (by omega)
  · exact ((he i hi).fix fx (hg j hj) hab).mono (by omega)
  · exact ((he i hi).fix fx (h.b j hj) hab).mono (by omega)
theorem M_of {a b v : Int} (h : t.mo a b = some v) (ne : a ≠ b) : t.M a b = v := by unfold Cl.M; rw [if_neg ne, h]; rfl
theorem W_of {a b v : Int} (h : t.wa a b = some v) : t.W a b = v := by unfold Cl.W; rw [h]; rfl
theorem M_some (W : B.WF) (F : Fin B t) (hf : t.fault = none) {a b : Int} (ha : B.Ev a) (hb : B.Ev b) (ne : a ≠ b) : t.mo a b = some (t.M a b) := by
  obtain ⟨v, hv, _⟩ := all_there W F hf a b ha hb ne
  rw [M_of hv ne]; exact hv
theorem W_some (W : B.WF) (F : Fin B t) (hf : t.fault = none) {i y : Int} (hi : B.Tk i) (hy : B.Ev y) : t.wa i y = some (t.W i y) := by
  by_cases e : y = 2 * i + 2
  · subst e
    rw [W_of (F.hig i hi)]; exact F.hig i hi
  · obtain ⟨w, hw, _⟩ := (F.fix hf).delay i (2 * i + 2) _ y _ (F.hig i hi) e e (M_some W F hf hy (ev_end hi) e)
    rw [W_of hw]; exact hw
theorem closed_of (W : B.WF) (F : Fin B t) (hf : t.fault = none) : Closed B t.M t.W := by
  have fx := F.fix hf
  have g := F.good
  have Md : ∀ a, t.M a a = 0 := fun a => if_pos rfl
  have le : ∀ i y, B.Tk i → B.Ev y → t.W i y ≤ B.hi i := fun i y hi hy => by
    obtain ⟨k, hk, kv⟩ := wa_look (W_some W F hf hi hy)
    rw [← kv]; exact (g.wa_ev hk).2.1
  refine ⟨fun a _ => Md a, ?_, ?_, ?_, fun i hi => W_of (F.hig i hi), le, ?_, ?_, ?_⟩
  · intro p hp
    obtain ⟨v, hv, lv⟩ := F.bds p hp
    rw [M_of hv (bounds_ok W hp).2.2.1]; exact lv
  · intro a b c ha hb hc
    by_cases e1 : a = b
    · subst e1; rw [Md a]; omega
    · by_cases e2 : b = c
      · subst e2; rw [Md b]; omega
      · exact ref_le g hf (fx.sum a b c _ _ (M_some W F hf ha hb e1) (M_some W F hf hb hc e2))
  · intro i x hi hx h
    have ne : 2 * i + 2 ≠ x := fun e => by rw [e, Md x] at h; omega
    have := fx.early (2 * i + 2) x _ (isE_end hi) ne (M_some W F hf (ev_end hi) hx ne) h
    rw [own_end, show 2 * i + 2 - 1 = 2 * i + 1 by omega] at this
    exact ref_le g hf this
  · intro i y hi hy
    exact ref_le g hf (fx.floor i y _ (W_some W F hf hi hy))
  · intro i k hi hk ne h
    obtain ⟨v, hv, lv⟩ := fx.ahead i (2 * k + 2) _ (W_some W F hf hi (ev_end hk)) (isE_end hk) (by rw [own_end]; exact ne) h
    rw [own_end] at lv
    rw [show 2 * k + 2 - 1 = 2 * k + 1 by omega] at hv
    rw [W_of hv]; exact lv
  · intro i x y hi hx hy ne
    by_cases e : y = x
    · subst e
      rw [Md y]; omega
    · obtain ⟨v, hv, lv⟩ := fx.delay i x _ y _ (W_some W F hf hi hx) ne e (M_some W F hf hy hx e)
      rw [W_of hv]; exact lv
end
/-! ### no line says more than a closed table -/
theorem get_take {l : List Ln} {k j : Nat} {x : Ln} (h : (l.take k)[j]? = some x) : j < k ∧ l[j]? = some x := by
  rw [List.getElem?_take] at h
  by_cases e : j < k
  · rw [if_pos e] at h; exact ⟨e, h⟩
  · rw [if_neg e] at h; cases h
theorem dom {M W : Int → Int → Int} (wf : B.WF) (C : Closed B M W) {s : Cl} (g : Good B s) : ∀ (n k : Nat) (x : Ln), k < n → s.lines[k]? = some x → (x.wt = false → M x.a x.b ≤ x.w) ∧ (x.wt = true → x.w ≤ W x.a x.b)
  | 0, k, x, h, _ => absurd h (Nat.not_lt_zero _)
  | n + 1, k, x, hk, hx => by
    have ih := dom wf C g n
    have j := g.just k x hx
    have rg := fun (i : Nat) (y : Ln) (h : s.lines[i]? = some y) => g.rng i y h
    obtain ⟨wt, a, b, w, r⟩ := x
    show (wt = false → M a b ≤ w) ∧ (wt = true → w ≤ W a b)
    cases r with
    | bound i =>
      simp only [gives] at j
      cases e : (bounds B)[i]? with
      | none => rw [e] at j; cases j
      | some p =>
        rw [e] at j
        have j' : (false, p) = (wt, a, b, w) := Option.some.inj j
        obtain ⟨p1, p2, p3⟩ := p
        cases j'
        exact ⟨fun _ => C.bnd _ (List.mem_of_getElem? e), fun h => nomatch h⟩
    | high i =>
      simp only [gives] at j
      by_cases e : i < B.m
      · rw [if_pos e] at j
        have j' : (true, (i : Int), 2 * (i : Int) + 2, B.hi i) = (wt, a, b, w) := Option.some.inj j
        cases j'
        exact ⟨fun h => (nomatch h), fun _ => by rw [C.high i (by unfold Br.Tk; omega)]; exact Int.le_refl _⟩
      · rw [if_neg e] at j; cases j
    | sum k1 k2 =>
      simp only [gives] at j
      cases e1 : (s.lines.take k)[k1]? with
      | none => rw [e1] at j; simp at j
      | some y =>
        cases e2 : (s.lines.take k)[k2]? with
        | none => rw [e1, e2] at j; simp at j
        | some z =>
          rw [e1, e2] at j
          simp only at j
          by_cases c : y.wt = false ∧ z.wt = false ∧ z.a = y.b
          · rw [if_pos c] at j
            have j' : (false, y.a, z.b, y.w + z.w) = (wt, a, b, w) := Option.some.inj j
            cases j'
            obtain ⟨l1, h1⟩ := get_take e1
            obtain ⟨l2, h2⟩ := get_take e2
            have q1 := (ih k1 y (by omega) h1).1 c.1
            have q2 := (ih k2 z (by omega) h2).1 c.2.1
            have r1 := rg k1 y h1
            have r2 := rg k2 z h2
            have := C.sum y.a y.b z.b (r1.1 c.1) r1.2.2 r2.2.2
            rw [c.2.2] at q2
            exact ⟨fun _ => by omega, fun h => nomatch h⟩
          · rw [if_neg c] at j; cases j
    | delay k1 k2 =>
      simp only [gives] at j
      cases e1 : (s.lines.take k)[k1]? with
      | none => rw [e1] at j; simp at j
      | some y =>
        cases e2 : (s.lines.take k)[k2]? with
        | none => rw [e1, e2] at j; simp at j
        | some z =>
          rw [e1, e2] at j
          simp only at j
          by_cases c : y.wt = true ∧ z.wt = false ∧ z.b = y.b ∧ z.a ≠ 2 * y.a + 2
          · rw [if_pos c] at j
            have j' : (true, y.a, z.a, min (B.hi y.a) (y.w - z.w)) = (wt, a, b, w) := Option.some.inj j
            cases j'
            obtain ⟨l1, h1⟩ := get_take e1
            obtain ⟨l2, h2⟩ := get_take e2
            have q1 := (ih k1 y (by omega) h1).2 c.1
            have q2 := (ih k2 z (by omega) h2).1 c.2.1
            have r1 := rg k1 y h1
            have r2 := rg k2 z h2
            have := C.delay y.a y.b z.a (r1.2.1 c.1).1 r1.2.2 (r2.1 c.2.1) c.2.2.2
            rw [c.2.2.1] at q2
            exact ⟨fun h => (nomatch h), fun _ => by omega⟩
          · rw [if_neg c] at j; cases j
    | early k1 =>
      simp only [gives] at j
      cases e1 : (s.lines.take k)[k1]? with
      | none => rw [e1] at j; simp at j
      | some y =>
        rw [e1] at j
        simp only at j
        by_cases c : y.wt = false ∧ isE y.a = true ∧ y.w < 0
        · rw [if_pos c] at j
          have j' : (false, y.a - 1, y.b, B.lo (own y.a) + y.w) = (wt, a, b, w) := Option.some.inj j
          cases j'
          obtain ⟨l1, h1⟩ := get_take e1
          have q1 := (ih k1 y (by omega) h1).1 c.1
          have r1 := rg k1 y h1
          have ea := isE_own c.2.1
          have := C.early (own y.a) y.b (own_tk c.2.1 (r1.1 c.1)) r1.2.2 (by rw [← ea]; omega)
          rw [← ea, show 2 * own y.a + 1 = y.a - 1 by omega] at this
          exact ⟨fun _ => by omega, fun h => nomatch h⟩
        · rw [if_neg c] at j; cases j
    | ahead k1 =>
      simp only [gives] at j
      cases e1 : (s.lines.take k)[k1]? with
      | none => rw [e1] at j; simp at j
      | some y =>
        rw [e1] at j
        simp only at j
        by_cases c : y.wt = true ∧ isE y.b = true ∧ own y.b ≠ y.a ∧ 0 < y.w
        · rw [if_pos c] at j
          have j' : (true, y.a, y.b - 1, y.w - B.lo (own y.b)) = (wt, a, b, w) := Option.some.inj j
          cases j'
          obtain ⟨l1, h1⟩ := get_take e1
          have q1 := (ih k1 y (by omega) h1).2 c.1
          have r1 := rg k1 y h1
          have ea := isE_own c.2.1
          have := C.ahead y.a (own y.b) (r1.2.1 c.1).1 (own_tk c.2.1 r1.2.2) c.2.2.1 (by rw [← ea]; omega)
          rw [← ea, show 2 * own y.b + 1 = y.b - 1 by omega] at this
          exact ⟨fun h => (nomatch h), fun _ => by omega⟩
        · rw [if_neg c] at j; cases j
    | floor k1 =>
      simp only [gives] at j
      cases e1 : (s.lines.take k)[k1]? with
      | none => rw [e1] at j; simp at j
      | some y =>
        rw [e1] at j
        simp only at j
        by_cases c : y.wt = true
        · rw [if_pos c] at j
          have j' : (false, y.b, 2 * y.a + 1, -(min y.w (B.lo y.a))) = (wt, a, b, w) := Option.some.inj j
          cases j'
          obtain ⟨l1, h1⟩ := get_take e1
          have q1 := (ih k1 y (by omega) h1).2 c
          have r1 := rg k1 y h1
          have := C.floor y.a y.b (r1.2.1 c).1 r1.2.2
          exact ⟨fun _ => by omega, fun h => nomatch h⟩
        · rw [if_neg c] at j; cases j
theorem no_fault {M W : Int → Int → Int} (wf : B.WF) (C : Closed B M W) {s : Cl} (g : Good B s) : s.fault = none := by
  cases e : s.fault with
  | none => rfl
  | some k =>
    obtain ⟨x, hx, h1, h2, h3⟩ := g.flt k e
    have := (dom wf C g (k + 1) k x (Nat.lt_succ_self _) hx).1 h1
    rw [← h2, C.diag x.a ((g.rng k x hx).1 h1)] at this
    omega
/-! ### situations -/
structure Sit (B : Br) (t : Int) (T : Int → Option Int) : Prop where
  t0 : 0 ≤ t
  rng : ∀ x p, T x = some p → B.Ev x ∧ 0 ≤ p ∧ p ≤ t
  zero : T 0 = some 0
  dur : ∀ i e, B.Tk i → T (2 * i + 2) = some e → ∃ p, T (2 * i + 1) = some p ∧ B.lo i ≤ e - p ∧ e - p ≤ B.hi i
  run : ∀ i p, B.Tk i → T (2 * i + 1) = some p → T (2 * i + 2) = none → t - p < B.hi i
def hat (t : Int) (T : Int → Option Int) (x : Int) : Int := (T x).getD (t + 1)
structure Stay (B : Br) (M W : Int → Int → Int) (t : Int) (T : Int → Option Int) : Prop where
  mo : ∀ a x p, T a = some p → B.Ev x → hat t T x - p ≤ M a x
  wa : ∀ k p j, B.Tk k → T (2 * k + 1) = some p → B.Tk j → j ≠ k → 0 < W j (2 * k + 1) → (∃ e, T (2 * j + 2) = some e ∧ e ≤ p) ∨ ∃ q, T (2 * j + 1) = some q ∧ W j (2 * k + 1) ≤ p - q
theorem hat_some {t : Int} {T : Int → Option Int} {x p : Int} (h : T x = some p) : hat t T x = p := by unfold hat; rw [h]; rfl
theorem hat_none {t : Int} {T : Int → Option Int} {x : Int} (h : T x = none) : hat t T x = t + 1 := by unfold hat; rw [h]; rfl
section
variable {M W : Int → Int → Int} {t : Int} {T : Int → Option Int}
/-- no wait is broken in a situation that stays -/
theorem not_broken (wf : B.WF) (C : Closed B M W) (S : Sit B t T) (Y : Stay B M W t T) {i y p : Int} (hi : B.Tk i) (hy : T y = some p) (ne : y ≠ 2 * i + 2) (hp : p < hat t T (2 * i + 2)) : W i y ≤ p - hat t T (2 * i + 1) := by
  have d := wf.dur i hi
  have key : ∀ y p, T y = some p → (y = 0 ∨ ∃ k, B.Tk k ∧ y = 2 * k + 1) → p < hat t T (2 * i + 2) → W i y ≤ p - hat t T (2 * i + 1) := by
    intro y p hy hc hp
    have ev := (S.rng y p hy).1
    have fl := C.floor i y hi ev
    have st := Y.mo y (2 * i + 1) p hy (ev_beg hi)
    by_cases hw : W i y ≤ 0
    · omega
    · rcases hc with rfl | ⟨k, hk, rfl⟩
      · rw [S.zero] at hy
        cases hy
        have : 0 ≤ hat t T (2 * i + 1) := by
          cases e : T (2 * i + 1) with
          | none => rw [hat_none e]; have := S.t0; omega
          | some q => rw [hat_some e]; exact (S.rng _ _ e).2.1
        omega
      · by_cases e : k = i
        · subst e
          rw [C.diag _ (ev_beg hi)] at fl
          omega
        · rcases Y.wa k p i hk hy hi (fun h => e h.symm) (by omega) with ⟨e', h1, h2⟩ | ⟨q, h1, h2⟩
          · rw [hat_some h1] at hp; omega
          · rw [hat_some h1]; exact h2
  rcases ev_cases (S.rng y p hy).1 with h | ⟨k, hk, h⟩ | ⟨k, hk, h⟩
  · exact key y p hy (.inl h) hp
  · exact key y p hy (.inr ⟨k, hk, h⟩) hp
  · subst h
    have nk : k ≠ i := fun e => ne (by rw [e])
    obtain ⟨r, hr, l1, l2⟩ := S.dur k p hk hy
    have dk := wf.dur k hk
    have q := key (2 * k + 1) r hr (.inr ⟨k, hk, rfl⟩) (by omega)
    by_cases hw : 0 < W i (2 * k + 2)
    · have := C.ahead i k hi hk nk hw
      omega
    · have fl := C.floor i (2 * k + 2) hi (ev_end hk)
      have st := Y.mo (2 * k + 2) (2 * i + 1) p hy (ev_beg hi)
      omega
theorem max_of (f : Int → Int) : ∀ (l : List Int), l ≠ [] → ∃ x ∈ l, ∀ y ∈ l, f y ≤ f x
  | [], h => absurd rfl h
  | [x], _ => ⟨x, List.mem_cons_self, fun y hy => by rw [List.mem_singleton] at hy; rw [hy]; exact Int.le_refl _⟩
  | x :: z :: r, _ => by
    obtain ⟨u, hu, h⟩ := max_of f (z :: r) (by simp)
    by_cases c : f u ≤ f x
    · refine ⟨x, List.mem_cons_self, fun y hy => ?_⟩
      rcases List.mem_cons.mp hy with rfl | hy
      · exact Int.le_refl _
      · have := h y hy; omega
    · refine ⟨u, List.mem_cons_of_mem _ hu, fun y hy => ?_⟩
      rcases List.mem_cons.mp hy with rfl | hy
      · omega
      · exact h y hy
theorem earliest (t : Int) (T : Int → Option Int) (M : Int → Int → Int) : ∃ L : Int → Int, (∀ a x, B.Ev x → hat t T x - M a x ≤ L a) ∧ ∀ a, ∃ x, B.Ev x ∧ L a = hat t T x - M a x := by
  have h : ∀ a, ∃ v, (∀ x, B.Ev x → hat t T x - M a x ≤ v) ∧ ∃ x, B.Ev x ∧ v = hat t T x - M a x := fun a => by
    obtain ⟨x, hx, h⟩ := max_of (fun x => hat t T x - M a x) B.every (by intro e; have := every_len (B := B); rw [e] at this; simp at this)
    exact ⟨_, fun y hy => h y (mem_every.mpr hy), x, mem_every.mp hx, rfl⟩
  exact ⟨fun a => Classical.choose (h a), fun a => (Classical.choose_spec (h a)).1, fun a => (Classical.choose_spec (h a)).2⟩
theorem latest (S : Sit B t T) (M : Int → Int → Int) : ∃ U : Int → Int, (∀ b f p, T f = some p → U b ≤ p + M f b) ∧ ∀ b, ∃ f p, T f = some p ∧ U b = p + M f b := by
  have h : ∀ b, ∃ v, (∀ f p, T f = some p → v ≤ p + M f b) ∧ ∃ f p, T f = some p ∧ v = p + M f b := fun b => by
    obtain ⟨x, hx, h⟩ := max_of (fun f => -((T f).getD 0 + M f b)) (B.every.filter fun f => (T f).isSome) (by
      intro e
      have : (0 : Int) ∈ B.every.filter fun f => (T f).isSome := List.mem_filter.mpr ⟨mem_every.mpr ev_0, by rw [S.zero]; rfl⟩
      rw [e] at this; cases this)
    obtain ⟨h1, h2⟩ := List.mem_filter.mp hx
    cases e : T x with
    | none => rw [e] at h2; cases h2
    | some q =>
      refine ⟨q + M x b, fun f p hf => ?_, x, q, e, rfl⟩
      have := h f (List.mem_filter.mpr ⟨mem_every.mpr (S.rng f p hf).1, by rw [hf]; rfl⟩)
      rw [hf, e] at this
      simp only [Option.getD_some] at this
      omega
  exact ⟨fun a => Classical.choose (h a), fun a => (Classical.choose_spec (h a)).1, fun a => (Classical.choose_spec (h a)).2⟩
end
end K95
/-! K95, the plain law, part 8: the present brief of a situation that stays. -/
namespace K95
/-- the low and the high that are left of a task -/
def left (B : Br) (t : Int) (T : Int → Option Int) (i : Int) : Int × Int := match T (2 * i + 1), T (2 * i + 2) with
  | some p, some e => (e - p, e - p)
  | some p, none => (max (B.lo i) (t + 1 - p), B.hi i)
  | none, _ => (B.lo i, B.hi i)
def nowLims (t : Int) (T : Int → Option Int) (i : Int) : List (Int × Int × Int) := match T (2 * i + 1) with
  | some p => [(0, 2 * i + 1, p), (2 * i + 1, 0, -p)]
  | none => [(2 * i + 1, 0, -(t + 1))]
def present (B : Br) (t : Int) (T : Int → Option Int) : Br :=
  ⟨(itsL B.m).map (left B t T), B.arrows, B.limits ++ ((itsL B.m).map (nowLims t T)).flatten, B.dl⟩
section
variable {B : Br} {t : Int} {T : Int → Option Int}
theorem present_m : (present B t T).m = B.m := by
  show ((itsL B.m).map (left B t T)).length = B.m
  rw [List.length_map, ints_len]
theorem present_tk {i : Int} : (present B t T).Tk i ↔ B.Tk i := by unfold Br.Tk; rw [present_m]
theorem present_ev {i : Int} : (present B t T).Ev i ↔ B.Ev i := by unfold Br.Ev; rw [present_m]
theorem present_get {i : Int} (h : B.Tk i) : (present B t T).tasks[i.toNat]? = some (left B t T i) := by
  show ((itsL B.m).map (left B t T))[i.toNat]? = _
  unfold Br.Tk at h
  unfold itsL
  rw [List.getElem?_map, List.getElem?_map, List.getElem?_range (by omega)]
  show some (left B t T ((i.toNat : Nat) : Int)) = _
  rw [show ((i.toNat : Nat) : Int) = i by omega]
theorem present_lo {i : Int} (h : B.Tk i) : (present B t T).lo i = (left B t T i).1 := by unfold Br.lo; rw [present_get h]; rfl
theorem present_hi {i : Int} (h : B.Tk i) : (present B t T).hi i = (left B t T i).2 := by unfold Br.hi; rw [present_get h]; rfl
/-- what is left, by what has happened -/
theorem left_cases (S : Sit B t T) {i : Int} (h : B.Tk i) : (∃ p e, T (2 * i + 1) = some p ∧ T (2 * i + 2) = some e ∧ left B t T i = (e - p, e - p)) ∨ (∃ p, T (2 * i + 1) = some p ∧ T (2 * i + 2) = none ∧ left B t T i = (max (B.lo i) (t + 1 - p), B.hi i))
    ∨ (T (2 * i + 1) = none ∧ T (2 * i + 2) = none ∧ left B t T i = (B.lo i, B.hi i)) := by
  unfold left
  cases e1 : T (2 * i + 1) with
  | none =>
    cases e2 : T (2 * i + 2) with
    | none => exact .inr (.inr ⟨rfl, rfl, rfl⟩)
    | some e =>
      obtain ⟨p, hp, _⟩ := S.dur i e h e2
      rw [e1] at hp; cases hp
  | some p =>
    cases e2 : T (2 * i + 2) with
    | none => exact .inr (.inl ⟨p, rfl, rfl, rfl⟩)
    | some e => exact .inl ⟨p, e, rfl, rfl, rfl⟩
theorem present_wf (W : B.WF) (S : Sit B t T) (h12 : B.limits.length ≤ 12) (ht : t ≤ 98) : (present B t T).WF where
  m1 := by rw [present_m]; exact W.m1
  m4 := by rw [present_m]; exact W.m4
  dur := fun i hi => by
    have hi' := present_tk.mp hi
    rw [present_lo hi', present_hi hi']
    have d := W.dur i hi'
    rcases left_cases S hi' with ⟨p, e, h1, h2, h3⟩ | ⟨p, h1, h2, h3⟩ | ⟨h1, h2, h3⟩ <;> rw [h3]
    · obtain ⟨q, hq, l1, l2⟩ := S.dur i e hi' h2
      rw [h1] at hq
      cases hq
      simp only
      omega
    · have := S.run i p hi' h1 h2
      simp only
      omega
    · exact d
  arr := fun p hp => by rw [present_tk, present_tk]; exact W.arr p hp
  arl := W.arl
  lim := fun p hp => by
    rw [present_ev, present_ev]
    rcases List.mem_append.mp hp with hp | hp
    · exact W.lim p hp
    · obtain ⟨l, hl, hp⟩ := List.mem_flatten.mp hp
      obtain ⟨i, hi, rfl⟩ := List.mem_map.mp hl
      have hi' : B.Tk i := mem_ints.mp hi
      have t0 := S.t0
      unfold nowLims at hp
      cases e : T (2 * i + 1) with
      | none =>
        rw [e] at hp
        rw [List.mem_singleton] at hp
        subst hp
        refine ⟨ev_beg hi', ev_0, ?_, ?_, ?_⟩
        · show 2 * i + 1 ≠ 0; unfold Br.Tk at hi'; omega
        · show -100 ≤ -(t + 1); omega
        · show -(t + 1) ≤ 100; omega
      | some p' =>
        rw [e] at hp
        have r := S.rng _ _ e
        rcases List.mem_cons.mp hp with rfl | hp
        · refine ⟨ev_0, ev_beg hi', ?_, ?_, ?_⟩
          · show 0 ≠ 2 * i + 1; unfold Br.Tk at hi'; omega
          · show -100 ≤ p'; omega
          · show p' ≤ 100; omega
        · rw [List.mem_singleton] at hp
          subst hp
          refine ⟨ev_beg hi', ev_0, ?_, ?_, ?_⟩
          · show 2 * i + 1 ≠ 0; unfold Br.Tk at hi'; omega
          · show -100 ≤ -p'; omega
          · show -p' ≤ 100; omega
  lil := by
    show (B.limits ++ ((itsL B.m).map (nowLims t T)).flatten).length ≤ 20
    rw [List.length_append, List.length_flatten, List.map_map]
    have := sum_const (List.length ∘ nowLims t T) 2 (itsL B.m) fun p _ => by
      show (nowLims t T p).length ≤ 2
      unfold nowLims
      cases T (2 * p + 1) <;> simp
    rw [ints_len] at this
    have := W.m4
    omega
  dl0 := W.dl0
  dl1 := W.dl1
variable {M W : Int → Int → Int}
theorem present_closed (wf : B.WF) (C : Closed B M W) (S : Sit B t T) (Y : Stay B M W t T) : ∃ M' W', Closed (present B t T) M' W' := by
  obtain ⟨L, L1, Lx⟩ := earliest (B := B) t T M
  obtain ⟨U, U1, Ux⟩ := latest S M
  have ev0 : B.Ev 0 := ev_0
  -- of events that have happened
  have Lh : ∀ a p, T a = some p → L a = p := fun a p h => by
    have ev := (S.rng a p h).1
    have l := L1 a a ev
    rw [hat_some h, C.diag a ev] at l
    obtain ⟨x, hx, e⟩ := Lx a
    have := Y.mo a x p h hx
    omega
  have hatle : ∀ a p, T a = some p → hat t T a = p := fun a p h => hat_some h
  have Uh : ∀ a p, T a = some p → U a = p := fun a p h => by
    have ev := (S.rng a p h).1
    have l := U1 a a p h
    rw [C.diag a ev] at l
    obtain ⟨f, q, hf, e⟩ := Ux a
    have := Y.mo f a q hf ev
    rw [hat_some h] at this
    omega
  have L2 : ∀ a b, B.Ev a → B.Ev b → L b - L a ≤ M a b := fun a b ha hb => by
    obtain ⟨x, hx, e⟩ := Lx b
    have := L1 a x hx
    have := C.sum a b x ha hb hx
    omega
  have LU : ∀ a, B.Ev a → L a ≤ U a := fun a ha => by
    obtain ⟨x, hx, e⟩ := Lx a
    obtain ⟨f, q, hf, e2⟩ := Ux a
    have evf := (S.rng f q hf).1
    have := Y.mo f x q hf hx
    have := C.sum f a x evf ha hx
    omega
  have U2 : ∀ b c, B.Ev b → B.Ev c → U c ≤ U b + M b c := fun b c hb hc => by
    obtain ⟨f, q, hf, e⟩ := Ux b
    have := U1 c f q hf
    have := C.sum f b c (S.rng f q hf).1 hb hc
    omega
  have Lt : ∀ a, B.Ev a → T a = none → t + 1 ≤ L a := fun a ha h => by
    have l := L1 a a ha
    rw [hat_none h, C.diag a ha] at l
    omega
  have hatT : ∀ x, hat t T x ≤ t + 1 := fun x => by
    cases e : T x with
    | none => rw [hat_none e]; omega
    | some p => rw [hat_some e]; have := (S.rng x p e).2.2; omega
  have Mlo : ∀ i, B.Tk i → M (2 * i + 2) (2 * i + 1) ≤ -B.lo i := fun i hi => C.bnd (2 * i + 2, 2 * i + 1, -B.lo i) (mem_bounds.mpr (.inr (.inr (.inr (.inr (.inr ⟨i, hi, rfl⟩))))))
  have Mhi : ∀ i, B.Tk i → M (2 * i + 1) (2 * i + 2) ≤ B.hi i := fun i hi => C.bnd (2 * i + 1, 2 * i + 2, B.hi i) (mem_bounds.mpr (.inr (.inr (.inr (.inr (.inl ⟨i, hi, rfl⟩))))))
  -- the end is the begin and the low that is left
  have Lend : ∀ i, B.Tk i → L (2 * i + 2) = L (2 * i + 1) + (left B t T i).1 := fun i hi => by
    have eb := ev_beg hi
    have ee := ev_end hi
    have d := wf.dur i hi
    have ml := Mlo i hi
    rcases left_cases S hi with ⟨p, e, h1, h2, h3⟩ | ⟨p, h1, h2, h3⟩ | ⟨h1, h2, h3⟩ <;> rw [h3]
    · rw [Lh _ _ h1, Lh _ _ h2]; (try simp only); omega
    · rw [Lh _ _ h1]
      have g1 := L1 (2 * i + 2) (2 * i + 1) eb
      rw [hat_some h1] at g1
      have g2 := Lt _ ee h2
      obtain ⟨x, hx, e⟩ := Lx (2 * i + 2)
      have hx1 := hatT x
      have st := Y.mo (2 * i + 1) x p h1 hx
      by_cases hm : M (2 * i + 2) x < 0
      · have := C.early i x hi hx hm
        (try simp only); omega
      · (try simp only); omega
    · have g1 := L2 (2 * i + 2) (2 * i + 1) ee eb
      have g2 := Lt _ eb h1
      obtain ⟨x, hx, e⟩ := Lx (2 * i + 2)
      have hx1 := hatT x
      have st := L1 (2 * i + 1) x hx
      by_cases hm : M (2 * i + 2) x < 0
      · have := C.early i x hi hx hm
        (try simp only); omega
      · (try simp only); omega
  -- a wait tells how late an event can be, at least
  have UW : ∀ i x, B.Tk i → T (2 * i + 2) = none → B.Ev x → U (2 * i + 1) + W i x ≤ U x := fun i x hi h2 hx => by
    obtain ⟨f, q, hf, e⟩ := Ux x
    have evf := (S.rng f q hf).1
    have ne : f ≠ 2 * i + 2 := fun z => by rw [z, h2] at hf; cases hf
    have hq := (S.rng f q hf).2.2
    have nb := not_broken wf C S Y hi hf ne (by rw [hat_none h2]; omega)
    have dl := C.delay i x f hi hx evf ne
    have d := wf.dur i hi
    cases h1 : T (2 * i + 1) with
    | some p =>
      rw [hat_some h1] at nb
      rw [Uh _ _ h1]
      have := S.run i p hi h1 h2
      omega
    | none =>
      rw [hat_none h1] at nb
      have fl := C.floor i f hi evf
      have := U1 (2 * i + 1) f q hf
      omega
  have t0 := S.t0
  -- the waits of a task that has ended
  have ended : ∀ i p e y, B.Tk i → T (2 * i + 1) = some p → T (2 * i + 2) = some e → B.Ev y → L y - p < e - p → W i y ≤ L y - p := fun i p e y hi h1 h2 hy h => by
    cases hT : T y with
    | none => have := Lt y hy hT; have := (S.rng _ _ h2).2.2; omega
    | some q =>
      rw [Lh _ _ hT] at h ⊢
      have ne : y ≠ 2 * i + 2 := fun z => by rw [z, h2] at hT; cases hT; omega
      have nb := not_broken wf C S Y hi hT ne (by rw [hat_some h2]; omega)
      rw [hat_some h1] at nb
      exact nb
  refine ⟨fun a b => min (M a b) (U b - L a), fun i y => min (left B t T i).2 (max (W i y) (L y - U (2 * i + 1))), ?_, ?_, ?_, ?_, ?_, ?_, ?_, ?_, ?_⟩
  · intro a ha
    have ha := present_ev.mp ha
    have := LU a ha
    have := C.diag a ha
    (try simp only); omega
  · -- the bounds
    intro p hp
    have low : ∀ q : Int × Int × Int, q ∈ bounds B → min (M q.1 q.2.1) (U q.2.1 - L q.1) ≤ q.2.2 := fun q hq => by have := C.bnd q hq; omega
    have L0 := Lh 0 0 S.zero
    have U0 := Uh 0 0 S.zero
    rcases mem_bounds.mp hp with h | h | ⟨i, hi, rfl⟩ | ⟨i, hi, rfl⟩ | ⟨i, hi, rfl⟩ | ⟨i, hi, rfl⟩
    · rcases List.mem_append.mp h with h | h
      · exact low p (mem_bounds.mpr (.inl h))
      · obtain ⟨l, hl, h⟩ := List.mem_flatten.mp h
        obtain ⟨i, hi, rfl⟩ := List.mem_map.mp hl
        have hi' : B.Tk i := mem_ints.mp hi
        unfold nowLims at h
        cases e : T (2 * i + 1) with
        | none =>
          rw [e, List.mem_singleton] at h
          subst h
          have := Lt _ (ev_beg hi') e
          show min (M (2 * i + 1) 0) (U 0 - L (2 * i + 1)) ≤ -(t + 1)
          omega
        | some q =>
          rw [e] at h
          have e1 := Lh _ _ e
          have e2 := Uh _ _ e
          rcases List.mem_cons.mp h with rfl | h
          · show min (M 0 (2 * i + 1)) (U (2 * i + 1) - L 0) ≤ q
            omega
          · rw [List.mem_singleton] at h
            subst h
            show min (M (2 * i + 1) 0) (U 0 - L (2 * i + 1)) ≤ -q
            omega
    · exact low p (mem_bounds.mpr (.inr (.inl h)))
    · exact low _ (mem_bounds.mpr (.inr (.inr (.inl ⟨i, present_tk.mp hi, rfl⟩))))
    · exact low _ (mem_bounds.mpr (.inr (.inr (.inr (.inl ⟨i, present_tk.mp hi, rfl⟩)))))
    · have hi := present_tk.mp hi
      have mh := Mhi i hi
      show min (M (2 * i + 1) (2 * i + 2)) (U (2 * i + 2) - L (2 * i + 1)) ≤ (present B t T).hi i
      rw [present_hi hi]
      rcases left_cases S hi with ⟨p, e, h1, h2, h3⟩ | ⟨p, h1, h2, h3⟩ | ⟨h1, h2, h3⟩ <;> rw [h3]
      · rw [Lh _ _ h1, Uh _ _ h2]; (try simp only); omega
      · (try simp only); omega
      · (try simp only); omega
    · have hi := present_tk.mp hi
      have ml := Mlo i hi
      have le := Lend i hi
      show min (M (2 * i + 2) (2 * i + 1)) (U (2 * i + 1) - L (2 * i + 2)) ≤ -(present B t T).lo i
      rw [present_lo hi]
      rcases left_cases S hi with ⟨p, e, h1, h2, h3⟩ | ⟨p, h1, h2, h3⟩ | ⟨h1, h2, h3⟩
      · rw [Uh _ _ h1]; rw [Lh _ _ h1] at le; omega
      · rw [Uh _ _ h1]; rw [Lh _ _ h1] at le; omega
      · rw [h3]; (try simp only); omega
  · -- sums
    intro a b c ha hb hc
    have ha := present_ev.mp ha
    have hb := present_ev.mp hb
    have hc := present_ev.mp hc
    have := C.sum a b c ha hb hc
    have := L2 a b ha hb
    have := U2 b c hb hc
    have := LU b hb
    (try simp only); omega
  · -- early
    intro i x hi hx h
    have hi := present_tk.mp hi
    have hx := present_ev.mp hx
    have le := Lend i hi
    rw [present_lo hi]
    (try simp only at h ⊢)
    by_cases c : U x - L (2 * i + 2) ≤ M (2 * i + 2) x
    · omega
    · have hm : M (2 * i + 2) x < 0 := by omega
      have ea := C.early i x hi hx hm
      rcases left_cases S hi with ⟨p, e, h1, h2, h3⟩ | ⟨p, h1, h2, h3⟩ | ⟨h1, h2, h3⟩
      · have := U1 x (2 * i + 2) e h2
        rw [Lh _ _ h2] at c
        omega
      · have := U1 x (2 * i + 1) p h1
        rw [h3] at le ⊢
        rw [Lh _ _ h1] at le ⊢
        (try simp only at le ⊢)
        omega
      · rw [h3]
        (try simp only)
        omega
  · -- high
    intro i hi
    have hi := present_tk.mp hi
    rw [present_hi hi]
    have h := C.high i hi
    (try simp only)
    rcases left_cases S hi with ⟨p, e, h1, h2, h3⟩ | ⟨p, h1, h2, h3⟩ | ⟨h1, h2, h3⟩ <;> rw [h3] <;> (try simp only)
    · rw [Lh _ _ h2, Uh _ _ h1]; omega
    · omega
    · omega
  · intro i y hi hy
    rw [present_hi (present_tk.mp hi)]
    (try simp only); omega
  · -- floor
    intro i y hi hy
    have hi := present_tk.mp hi
    have hy := present_ev.mp hy
    rw [present_lo hi]
    have fl := C.floor i y hi hy
    (try simp only)
    rcases left_cases S hi with ⟨p, e, h1, h2, h3⟩ | ⟨p, h1, h2, h3⟩ | ⟨h1, h2, h3⟩ <;> rw [h3] <;> (try simp only)
    · have en := ended i p e y hi h1 h2 hy
      rw [Uh _ _ h1]
      omega
    · rw [Uh _ _ h1]
      have l1 := L1 y (2 * i + 1) (ev_beg hi)
      rw [hat_some h1] at l1
      cases hT : T y with
      | none => have := Lt y hy hT; omega
      | some q =>
        have hq := (S.rng y q hT).2.2
        rw [Lh _ _ hT] at l1 ⊢
        have ne : y ≠ 2 * i + 2 := fun z => by rw [z, h2] at hT; cases hT
        have nb := not_broken wf C S Y hi hT ne (by rw [hat_none h2]; omega)
        rw [hat_some h1] at nb
        omega
    · omega
  · -- ahead
    intro i k hi hk ne h
    have hi := present_tk.mp hi
    have hk := present_tk.mp hk
    rw [present_lo hk]
    have le := Lend k hk
    have ah := C.ahead i k hi hk ne
    have dk := wf.dur k hk
    (try simp only at h ⊢)
    have lk : B.lo k ≤ (left B t T k).1 := by
      rcases left_cases S hk with ⟨p, e, h1, h2, h3⟩ | ⟨p, h1, h2, h3⟩ | ⟨h1, h2, h3⟩ <;> rw [h3] <;> (try simp only)
      · obtain ⟨q, hq, l1, l2⟩ := S.dur k e hk h2
        rw [h1] at hq
        cases hq
        exact l1
      · omega
      · omega
    omega
  · -- delay
    intro i x y hi hx hy ne
    have hi := present_tk.mp hi
    have hx := present_ev.mp hx
    have hy := present_ev.mp hy
    rw [present_hi hi]
    have dl := C.delay i x y hi hx hy ne
    have l2 := L2 y x hy hx
    have lu := LU x hx
    (try simp only)
    rcases left_cases S hi with ⟨p, e, h1, h2, h3⟩ | ⟨p, h1, h2, h3⟩ | ⟨h1, h2, h3⟩ <;> rw [h3] <;> (try simp only)
    · have en := ended i p e x hi h1 h2 hx
      rw [Uh _ _ h1]
      omega
    · have uw := UW i x hi h2 hx
      omega
    · have uw := UW i x hi h2 hx
      omega
end
end K95
/-! K95, the plain law, part 9: a situation stays just if it breaks no line in use; the lines that a line hangs on. -/
namespace K95
variable {B : Br}
/-- the situation breaks the line -/
def Brk (t : Int) (T : Int → Option Int) (x : Ln) : Prop :=
  if x.wt = false then (x.a = x.b ∧ x.w < 0) ∨ ∃ p, T x.a = some p ∧ x.w < hat t T x.b - p
  else ∃ p, T x.b = some p ∧ p < hat t T (2 * x.a + 2) ∧ p - hat t T (2 * x.a + 1) < x.w
/-- the numbers of the lines in use -/
def Cl.used (s : Cl) : List Nat := s.mosts.map (·.2) ++ s.waits.map (·.2)
theorem brk_iff (wf : B.WF) {s : Cl} (F : Fin B s) (hf : s.fault = none) {t : Int} {T : Int → Option Int} (S : Sit B t T) :
    (∃ k x, k ∈ s.used ∧ s.lines[k]? = some x ∧ Brk t T x) ↔ ¬ Stay B s.M s.W t T := by
  have g := F.good
  have C := closed_of wf F hf
  constructor
  · rintro ⟨k, x, hk, hx, hb⟩ Y
    rcases List.mem_append.mp hk with hk | hk
    · obtain ⟨q, hq, rfl⟩ := List.mem_map.mp hk
      have hl := look_of_mem g.mnd hq
      obtain ⟨y, hy, y1, y2, y3, y4⟩ := g.mo_line (a := q.1.1) (b := q.1.2) hl
      rw [hx] at hy
      cases hy
      have ne : x.a ≠ x.b := fun e => by
        have hl' : look s.mosts (q.1.1, q.1.2) = some q.2 := hl
        rw [← y2, ← y3, ← e, g.nof hf x.a] at hl'
        cases hl'
      unfold Brk at hb
      rw [if_pos y1] at hb
      rcases hb with ⟨h, _⟩ | ⟨p, hp, l⟩
      · exact ne h
      · have ev := g.mo_ev hl
        have st := Y.mo x.a x.b p hp (by rw [y3]; exact ev.2)
        have em : s.M x.a x.b = x.w := M_of (by rw [y2, y3]; rw [mo_some hl, y4]) ne
        rw [em] at st
        omega
    · obtain ⟨q, hq, rfl⟩ := List.mem_map.mp hk
      have hl := look_of_mem g.wnd hq
      obtain ⟨y, hy, y1, y2, y3, y4⟩ := g.wa_line (a := q.1.1) (b := q.1.2) hl
      rw [hx] at hy
      cases hy
      have ev := g.wa_ev hl
      unfold Brk at hb
      rw [if_neg (by rw [y1]; decide)] at hb
      obtain ⟨p, hp, l1, l2⟩ := hb
      have tk : B.Tk x.a := by rw [y2]; exact ev.1
      by_cases e : x.b = 2 * x.a + 2
      · rw [← e, hat_some hp] at l1; omega
      · have nb := not_broken wf C S Y tk hp e l1
        have ew : s.W x.a x.b = x.w := W_of (by rw [y2, y3]; rw [wa_some hl, y4])
        rw [ew] at nb
        omega
  · intro hn
    apply Classical.byContradiction
    intro hno
    refine hn ⟨fun a x p hp hx => ?_, fun k p j hk hp hj hjk hw => ?_⟩
    · by_cases e : a = x
      · subst e
        rw [hat_some hp, C.diag a hx]; omega
      · have hm := M_some wf F hf (S.rng a p hp).1 hx e
        obtain ⟨l, hl, lw⟩ := mo_look hm
        obtain ⟨y, hy, y1, y2, y3, y4⟩ := g.mo_line hl
        apply Classical.byContradiction
        intro hc
        refine hno ⟨l, y, List.mem_append_left _ (List.mem_map.mpr ⟨_, look_mem hl, rfl⟩), hy, ?_⟩
        unfold Brk
        rw [if_pos y1]
        exact .inr ⟨p, by rw [y2]; exact hp, by rw [y3, y4, lw]; omega⟩
    · have ev := ev_beg hk
      obtain ⟨l, hl, lw⟩ := wa_look (W_some wf F hf hj ev)
      obtain ⟨y, hy, y1, y2, y3, y4⟩ := g.wa_line hl
      have hpt := (S.rng _ _ hp).2.2
      apply Classical.byContradiction
      intro hc
      refine hno ⟨l, y, List.mem_append_right _ (List.mem_map.mpr ⟨_, look_mem hl, rfl⟩), hy, ?_⟩
      unfold Brk
      rw [if_neg (by rw [y1]; decide)]
      refine ⟨p, by rw [y3]; exact hp, ?_, ?_⟩
      · rw [y2]
        cases e : T (2 * j + 2) with
        | none => rw [hat_none e]; omega
        | some e' =>
          rw [hat_some e]
          apply Classical.byContradiction
          intro h
          exact hc (.inl ⟨e', e, by omega⟩)
      · rw [y2, y4, lw]
        cases e : T (2 * j + 1) with
        | none => rw [hat_none e]; omega
        | some q =>
          rw [hat_some e]
          apply Classical.byContradiction
          intro h
          exact hc (.inr ⟨q, e, by omega⟩)
/-! ### the lines that a line hangs on -/
def deps : Rs → List Nat
  | .bound _ => []
  | .high _ => []
  | .sum k l => [k, l]
  | .delay k l => [k, l]
  | .early k => [k]
  | .ahead k => [k]
  | .floor k => [k]
def addKey (w : List Nat) (d : Nat) : List Nat := if d ∈ w then w else w ++ [d]
def wantL (lines : List Ln) : Nat → List Nat → List Nat
  | 0, w => w
  | n + 1, w => wantL lines n (if n ∈ w then ((lines[n]?.map fun x => deps x.r).getD []).foldl addKey w else w)
def wanted (lines : List Ln) (last : Nat) : List Nat := wantL lines (last + 1) [last]
def orderOf (lines : List Ln) (last : Nat) : List Nat := (List.range (last + 1)).filter fun k => decide (k ∈ wanted lines last)
def renR (f : Nat → Nat) : Rs → Rs
  | .bound k => .bound k
  | .high i => .high i
  | .sum k l => .sum (f k) (f l)
  | .delay k l => .delay (f k) (f l)
  | .early k => .early (f k)
  | .ahead k => .ahead (f k)
  | .floor k => .floor (f k)
def ren (f : Nat → Nat) (x : Ln) : Ln := { x with r := renR f x.r }
def upTo (lines : List Ln) (last : Nat) : List Ln := (orderOf lines last).map fun k => ren (fun d => (orderOf lines last).idxOf d) (lines[k]?.getD ⟨false, 0, 0, 0, .bound 0⟩)
theorem mem_addKey {w : List Nat} {d x : Nat} : x ∈ addKey w d ↔ x ∈ w ∨ x = d := by
  unfold addKey
  by_cases h : d ∈ w
  · rw [if_pos h]
    exact ⟨.inl, fun q => q.elim id fun e => by rw [e]; exact h⟩
  · rw [if_neg h, List.mem_append, List.mem_singleton]
theorem mem_addKeys {x : Nat} : ∀ (ds w : List Nat), x ∈ ds.foldl addKey w ↔ x ∈ w ∨ x ∈ ds
  | [], w => by simp
  | d :: r, w => by
    rw [List.foldl_cons, mem_addKeys r, mem_addKey, List.mem_cons, or_assoc]
theorem nodup_addKey {w : List Nat} {d : Nat} (h : w.Nodup) : (addKey w d).Nodup := by
  unfold addKey
  by_cases c : d ∈ w
  · rw [if_pos c]; exact h
  · rw [if_neg c, List.nodup_append]
    refine ⟨h, by simp, ?_⟩
    intro a ha b hb
    rw [List.mem_singleton] at hb
    rintro rfl
    subst hb
    exact c ha
theorem nodup_addKeys : ∀ (ds w : List Nat), w.Nodup → (ds.foldl addKey w).Nodup
  | [], _, h => h
  | d :: r, w, h => nodup_addKeys r _ (nodup_addKey h)
theorem wantL_nodup (lines : List Ln) : ∀ (n : Nat) (w : List Nat), w.Nodup → (wantL lines n w).Nodup
  | 0, w, h => h
  | n + 1, w, h => by
    refine wantL_nodup lines n _ ?_
    by_cases c : n ∈ w
    · rw [if_pos c]; exact nodup_addKeys _ _ h
    · rw [if_neg c]; exact h
theorem wantL_sub (lines : List Ln) : ∀ (n : Nat) (w : List Nat) (x : Nat), x ∈ w → x ∈ wantL lines n w
  | 0, w, x, h => h
  | n + 1, w, x, h => by
    refine wantL_sub lines n _ x ?_
    by_cases c : n ∈ w
    · rw [if_pos c, mem_addKeys]; exact .inl h
    · rw [if_neg c]; exact h
/-- numbers from n on do not come in any more -/
theorem wantL_high (lines : List Ln) (hd : ∀ k x, lines[k]? = some x → ∀ d ∈ deps x.r, d < k) : ∀ (n : Nat) (w : List Nat) (x : Nat), n ≤ x + 1 → x ∈ wantL lines n w → x ∈ w
  | 0, w, x, _, h => h
  | n + 1, w, x, hx, h => by
    have := wantL_high lines hd n _ x (by omega) h
    by_cases c : n ∈ w
    · rw [if_pos c, mem_addKeys] at this
      rcases this with h | h
      · exact h
      · cases e : lines[n]? with
        | none => rw [e] at h; cases h
        | some y =>
          rw [e] at h
          have := hd n y e x h
          omega
    · rw [if_neg c] at this; exact this
theorem wantL_closed (lines : List Ln) (hd : ∀ k x, lines[k]? = some x → ∀ d ∈ deps x.r, d < k) : ∀ (n : Nat) (w : List Nat) (k : Nat) (x : Ln), k < n → k ∈ wantL lines n w → lines[k]? = some x → ∀ d ∈ deps x.r, d ∈ wantL lines n w
  | 0, w, k, x, h, _, _ => absurd h (Nat.not_lt_zero _)
  | n + 1, w, k, x, h, hk, hx => by
    intro d hdd
    by_cases e : k = n
    · subst e
      have hk' := wantL_high lines hd k _ k (by omega) hk
      refine wantL_sub lines k _ d ?_
      by_cases c : k ∈ w
      · rw [if_pos c, mem_addKeys, hx]; exact .inr hdd
      · rw [if_neg c] at hk'; exact absurd hk' c
    · exact wantL_closed lines hd n _ k x (by omega) hk hx d hdd
theorem deps_lt {s : Cl} (g : Good B s) : ∀ k x, s.lines[k]? = some x → ∀ d ∈ deps x.r, d < k ∧ ∃ y, s.lines[d]? = some y := by
  intro k x hx d hd
  have j := g.just k x hx
  have look1 : ∀ i, (s.lines.take k)[i]? ≠ none → i < k ∧ ∃ y, s.lines[i]? = some y := fun i h => by
    cases e : (s.lines.take k)[i]? with
    | none => exact absurd e h
    | some y => obtain ⟨h1, h2⟩ := get_take e; exact ⟨h1, y, h2⟩
  cases hr : x.r with
  | bound i => rw [hr] at hd; cases hd
  | high i => rw [hr] at hd; cases hd
  | sum k1 k2 =>
    rw [hr] at hd j
    simp only [gives] at j
    have h1 : (s.lines.take k)[k1]? ≠ none := fun e => by rw [e] at j; simp at j
    have h2 : (s.lines.take k)[k2]? ≠ none := fun e => by
      rw [e] at j
      cases e1 : (s.lines.take k)[k1]? <;> rw [e1] at j <;> simp at j
    rcases List.mem_cons.mp hd with rfl | hd
    · exact look1 _ h1
    · rw [List.mem_singleton] at hd; subst hd; exact look1 _ h2
  | delay k1 k2 =>
    rw [hr] at hd j
    simp only [gives] at j
    have h1 : (s.lines.take k)[k1]? ≠ none := fun e => by rw [e] at j; simp at j
    have h2 : (s.lines.take k)[k2]? ≠ none := fun e => by
      rw [e] at j
      cases e1 : (s.lines.take k)[k1]? <;> rw [e1] at j <;> simp at j
    rcases List.mem_cons.mp hd with rfl | hd
    · exact look1 _ h1
    · rw [List.mem_singleton] at hd; subst hd; exact look1 _ h2
  | early k1 =>
    rw [hr] at hd j
    simp only [gives] at j
    rw [show deps (.early k1) = [k1] from rfl, List.mem_singleton] at hd
    subst hd
    exact look1 _ fun e => by rw [e] at j; simp at j
  | ahead k1 =>
    rw [hr] at hd j
    simp only [gives] at j
    rw [show deps (.ahead k1) = [k1] from rfl, List.mem_singleton] at hd
    subst hd
    exact look1 _ fun e => by rw [e] at j; simp at j
  | floor k1 =>
    rw [hr] at hd j
    simp only [gives] at j
    rw [show deps (.floor k1) = [k1] from rfl, List.mem_singleton] at hd
    subst hd
    exact look1 _ fun e => by rw [e] at j; simp at j
/-- what is given hangs on no more than the first four parts of the lines that are used -/
theorem gives_ren {l l' : List Ln} {f : Nat → Nat} {r : Rs} (h : ∀ d ∈ deps r, ∃ x y, l[d]? = some x ∧ l'[f d]? = some y ∧ x.four = y.four) : gives B l' (renR f r) = gives B l r := by
  have part : ∀ {x y : Ln}, x.four = y.four → x.wt = y.wt ∧ x.a = y.a ∧ x.b = y.b ∧ x.w = y.w := fun {x y} e => ⟨congrArg (·.1) e, congrArg (·.2.1) e, congrArg (·.2.2.1) e, congrArg (·.2.2.2) e⟩
  cases r with
  | bound k => rfl
  | high i => rfl
  | sum k1 k2 =>
    obtain ⟨x, y, h1, h2, e⟩ := h k1 (by simp [deps])
    obtain ⟨x', y', h1', h2', e'⟩ := h k2 (by simp [deps])
    obtain ⟨p1, p2, p3, p4⟩ := part e
    obtain ⟨q1, q2, q3, q4⟩ := part e'
    simp only [renR, gives, h1, h2, h1', h2', p1, p2, p3, p4, q1, q2, q3, q4]
  | delay k1 k2 =>
    obtain ⟨x, y, h1, h2, e⟩ := h k1 (by simp [deps])
    obtain ⟨x', y', h1', h2', e'⟩ := h k2 (by simp [deps])
    obtain ⟨p1, p2, p3, p4⟩ := part e
    obtain ⟨q1, q2, q3, q4⟩ := part e'
    simp only [renR, gives, h1, h2, h1', h2', p1, p2, p3, p4, q1, q2, q3, q4]
  | early k1 =>
    obtain ⟨x, y, h1, h2, e⟩ := h k1 (by simp [deps])
    obtain ⟨p1, p2, p3, p4⟩ := part e
    simp only [renR, gives, h1, h2, p1, p2, p3, p4]
  | ahead k1 =>
    obtain ⟨x, y, h1, h2, e⟩ := h k1 (by simp [deps])
    obtain ⟨p1, p2, p3, p4⟩ := part e
    simp only [renR, gives, h1, h2, p1, p2, p3, p4]
  | floor k1 =>
    obtain ⟨x, y, h1, h2, e⟩ := h k1 (by simp [deps])
    obtain ⟨p1, p2, p3, p4⟩ := part e
    simp only [renR, gives, h1, h2, p1, p2, p3, p4]
/-- a list of lines, each given by its reason from earlier ones -/
def Lines (B : Br) (l : List Ln) : Prop := ∀ (k : Nat) (x : Ln), l[k]? = some x → gives B (l.take k) x.r = some x.four
section
variable {s : Cl} {last : Nat} {z : Ln}
theorem order_sorted : (orderOf s.lines last).Pairwise (· < ·) := List.Pairwise.filter _ List.pairwise_lt_range
theorem mem_order (g : Good B s) {k : Nat} : k ∈ orderOf s.lines last ↔ k ∈ wanted s.lines last := by
  unfold orderOf
  rw [List.mem_filter, List.mem_range, decide_eq_true_eq]
  refine ⟨fun h => h.2, fun h => ⟨?_, h⟩⟩
  apply Classical.byContradiction
  intro c
  have := wantL_high s.lines (fun k x hx d hd => (deps_lt g k x hx d hd).1) (last + 1) [last] k (by omega) h
  rw [List.mem_singleton] at this
  omega
theorem order_ok (g : Good B s) (hz : s.lines[last]? = some z) {k : Nat} (h : k ∈ orderOf s.lines last) : k ≤ last ∧ ∃ x, s.lines[k]? = some x ∧ ∀ d ∈ deps x.r, d < k ∧ d ∈ orderOf s.lines last := by
  have hw := (mem_order g).mp h
  have hl : k ≤ last := by
    have := (List.mem_filter.mp h).1
    rw [List.mem_range] at this; omega
  have hlt := lt_of_get hz
  refine ⟨hl, s.lines[k], List.getElem?_eq_getElem (by omega), fun d hd => ?_⟩
  have hx : s.lines[k]? = some s.lines[k] := List.getElem?_eq_getElem (by omega)
  refine ⟨(deps_lt g k _ hx d hd).1, (mem_order g).mpr ?_⟩
  exact wantL_closed s.lines (fun k x hx d hd => (deps_lt g k x hx d hd).1) (last + 1) [last] k _ (by omega) hw hx d hd
theorem upTo_get (g : Good B s) (hz : s.lines[last]? = some z) {j : Nat} {y : Ln} (h : (upTo s.lines last)[j]? = some y) : ∃ k x, (orderOf s.lines last)[j]? = some k ∧ s.lines[k]? = some x ∧ y = ren (fun d => (orderOf s.lines last).idxOf d) x := by
  unfold upTo at h
  rw [List.getElem?_map] at h
  cases e : (orderOf s.lines last)[j]? with
  | none => rw [e] at h; cases h
  | some k =>
    rw [e] at h
    obtain ⟨_, x, hx, _⟩ := order_ok g hz (List.mem_of_getElem? e)
    refine ⟨k, x, rfl, hx, ?_⟩
    have e2 : ren (fun d => (orderOf s.lines last).idxOf d) (s.lines[k]?.getD ⟨false, 0, 0, 0, .bound 0⟩) = y := Option.some.inj h
    rw [hx] at e2
    exact e2.symm
theorem get_idxOf {l : List Nat} {d : Nat} (h : d ∈ l) : l[l.idxOf d]? = some d := by
  have := List.idxOf_lt_length_of_mem h
  rw [List.getElem?_eq_getElem this, List.getElem_idxOf]
theorem upTo_lines (g : Good B s) (hz : s.lines[last]? = some z) : Lines B (upTo s.lines last) := by
  intro j y hy
  obtain ⟨k, x, ek, hx, rfl⟩ := upTo_get g hz hy
  have hk := List.mem_of_getElem? ek
  obtain ⟨_, x', hx', hd⟩ := order_ok g hz hk
  rw [hx] at hx'
  cases hx'
  show gives B ((upTo s.lines last).take j) (renR _ x.r) = some x.four
  rw [← g.just k x hx]
  refine gives_ren fun d hdd => ?_
  obtain ⟨l1, m1⟩ := hd d hdd
  obtain ⟨_, u, hu⟩ := deps_lt g k x hx d hdd
  have ei := get_idxOf m1
  have lj : (orderOf s.lines last).idxOf d < j := by
    apply Classical.byContradiction
    intro c
    have sorted := order_sorted (s := s) (last := last)
    rw [List.pairwise_iff_getElem] at sorted
    have b1 := lt_of_get ek
    have b2 := lt_of_get ei
    have e1 : (orderOf s.lines last)[j] = k := Option.some.inj ((List.getElem?_eq_getElem b1).symm.trans ek)
    have e2 : (orderOf s.lines last)[(orderOf s.lines last).idxOf d] = d := Option.some.inj ((List.getElem?_eq_getElem b2).symm.trans ei)
    by_cases q : j = (orderOf s.lines last).idxOf d
    · have : (orderOf s.lines last)[j]? = some d := by rw [q]; exact ei
      rw [ek] at this
      have := Option.some.inj this
      omega
    · have := sorted j _ b1 b2 (by omega)
      omega
  refine ⟨u, ren (fun d => (orderOf s.lines last).idxOf d) u, ?_, ?_, rfl⟩
  · rw [List.getElem?_take, if_pos l1]; exact hu
  · rw [List.getElem?_take, if_pos lj]
    unfold upTo
    rw [List.getElem?_map, ei]
    show some (ren _ (s.lines[d]?.getD _)) = _
    rw [hu]; rfl
theorem upTo_last (g : Good B s) (hz : s.lines[last]? = some z) : ∃ y, (upTo s.lines last).getLast? = some y ∧ y.four = z.four := by
  have ml : last ∈ orderOf s.lines last := (mem_order g).mpr (wantL_sub s.lines _ _ _ (List.mem_singleton.mpr rfl))
  have hne : orderOf s.lines last ≠ [] := fun e => by rw [e] at ml; cases ml
  have e1 : (orderOf s.lines last).getLast? = some last := by
    rw [List.getLast?_eq_getLast hne]
    congr 1
    have b := (order_ok g hz (List.getLast_mem hne)).1
    apply Classical.byContradiction
    intro c
    have sorted := order_sorted (s := s) (last := last)
    rw [List.pairwise_iff_getElem] at sorted
    have ei := get_idxOf ml
    have b2 := lt_of_get ei
    have e2 : (orderOf s.lines last)[(orderOf s.lines last).idxOf last] = last := Option.some.inj ((List.getElem?_eq_getElem b2).symm.trans ei)
    rw [List.getLast_eq_getElem] at c b
    have hq : (orderOf s.lines last).idxOf last ≠ (orderOf s.lines last).length - 1 := fun q => by
      apply c
      have : ∀ i (h : i < (orderOf s.lines last).length), i = (orderOf s.lines last).idxOf last → (orderOf s.lines last)[i] = last := fun i h e => by subst e; exact e2
      exact this _ _ q.symm
    have := sorted ((orderOf s.lines last).idxOf last) ((orderOf s.lines last).length - 1) b2 (by omega) (by omega)
    omega
  refine ⟨ren (fun d => (orderOf s.lines last).idxOf d) z, ?_, rfl⟩
  unfold upTo
  rw [List.getLast?_map, e1]
  show some (ren _ (s.lines[last]?.getD _)) = _
  rw [hz]; rfl
theorem upTo_len : (upTo s.lines last).length ≤ last + 1 := by
  unfold upTo orderOf
  rw [List.length_map]
  exact Nat.le_trans (List.length_filter_le _ _) (by rw [List.length_range]; exact Nat.le_refl _)
end
end K95
/-! K95, the plain law, part 10: the states on the way of a round. -/
namespace K95
variable {B : Br}
theorem runL_snoc {α : Type} (f : Cl → α → Cl × Bool) (x : α) : ∀ (l : List α) (s : Cl), runL f s (l ++ [x]) = ((f (runL f s l).1 x).1, (runL f s l).2 || (f (runL f s l).1 x).2)
  | [], s => by
    show ((runL f (f s x).1 []).1, (f s x).2 || (runL f (f s x).1 []).2) = _
    simp [runL]
  | y :: l, s => by
    show ((runL f (f s y).1 (l ++ [x])).1, (f s y).2 || (runL f (f s y).1 (l ++ [x])).2) = _
    rw [runL_snoc f x l (f s y).1]
    simp [runL, Bool.or_assoc]
/-- good, and not many lines more -/
structure Near (B : Br) (s s' : Cl) (N : Nat) : Prop where
  ex : ∃ n, n ≤ N ∧ Rch B s s' n
  good : Good B s'
theorem Near.len {s s' : Cl} {N : Nat} (h : Near B s s' N) : s'.lines.length ≤ s.lines.length + N := by
  obtain ⟨n, h1, h2⟩ := h.ex
  rw [h2.len]; omega
theorem Near.refl {s : Cl} (g : Good B s) : Near B s s 0 := ⟨⟨0, Nat.le_refl _, .refl s⟩, g⟩
theorem Does.near {s : Cl} {p : Cl × Bool} {N : Nat} (g : Good B s) (h : Does B s p N) : Near B s p.1 N := by
  obtain ⟨n, a, r, _⟩ := h
  exact ⟨⟨n, a, r⟩, g.rch r⟩
theorem Near.trans {s s1 s2 : Cl} {N M : Nat} (h : Near B s s1 N) (h2 : Near B s1 s2 M) : Near B s s2 (N + M) := by
  obtain ⟨n, a, r⟩ := h.ex
  obtain ⟨m, b, r2⟩ := h2.ex
  exact ⟨⟨n + m, by omega, r.trans r2⟩, h2.good⟩
theorem Near.mono {s s1 : Cl} {N M : Nat} (h : Near B s s1 N) (l : N ≤ M) : Near B s s1 M := by
  obtain ⟨n, a, r⟩ := h.ex
  exact ⟨⟨n, by omega, r⟩, h.good⟩
theorem Near.wa {s s1 : Cl} {N : Nat} (h : Near B s s1 N) (g : Good B s) {p : Int × Int} (e : (look s.waits p).isSome = true) : (look s1.waits p).isSome = true := by
  obtain ⟨n, a, r⟩ := h.ex
  obtain ⟨k, hk⟩ := Option.isSome_iff_exists.mp e
  have : s.wa p.1 p.2 = some (s.wOf k) := by unfold Cl.wa; rw [show (p.1, p.2) = p from rfl, hk]; rfl
  obtain ⟨v, hv, _⟩ := r.wa_ge g this
  unfold Cl.wa at hv
  rw [show (p.1, p.2) = p from rfl] at hv
  cases h2 : look s1.waits p with
  | some k => rfl
  | none => rw [h2] at hv; cases hv
theorem Near.mo {s s1 : Cl} {N : Nat} (h : Near B s s1 N) (g : Good B s) {p : Int × Int} (e : (look s.mosts p).isSome = true) : (look s1.mosts p).isSome = true := by
  obtain ⟨n, a, r⟩ := h.ex
  obtain ⟨k, hk⟩ := Option.isSome_iff_exists.mp e
  have : s.mo p.1 p.2 = some (s.wOf k) := by unfold Cl.mo; rw [show (p.1, p.2) = p from rfl, hk]; rfl
  obtain ⟨v, hv, _⟩ := r.mo_le g this
  unfold Cl.mo at hv
  rw [show (p.1, p.2) = p from rfl] at hv
  cases h2 : look s1.mosts p with
  | some k => rfl
  | none => rw [h2] at hv; cases hv
section
variable {s : Cl} {i y : Int} {k : Nat}
def uw1 (B : Br) (s : Cl) (i y : Int) (k : Nat) : Cl × Bool := offM s y (2 * i + 1) (-(min (s.wOf k) (B.lo i))) (.floor k)
def uw2 (B : Br) (s : Cl) (i y : Int) (k : Nat) : Cl × Bool := ahead B (uw1 B s i y k).1 i y (s.wOf k) k
def uw3 (B : Br) (s : Cl) (i y : Int) (k n : Nat) : Cl × Bool := runL (delay B i y (s.wOf k) k) (uw2 B s i y k).1 (B.every.take n)
theorem useWait_eq (hk : look s.waits (i, y) = some k) : useWait B s i y = ((uw3 B s i y k B.every.length).1, (uw1 B s i y k).2 || (uw2 B s i y k).2 || (uw3 B s i y k B.every.length).2) := by
  unfold useWait uw3
  rw [hk, List.take_length]
  rfl
theorem near_uw (W : B.WF) (g : Good B s) (hk : look s.waits (i, y) = some k) : Near B s (uw1 B s i y k).1 1 ∧ Near B s (uw2 B s i y k).1 2 ∧ ∀ n, n ≤ 2 * B.m + 1 → Near B s (uw3 B s i y k n).1 (2 + n) := by
  obtain ⟨x, hx, x1, x2, x3, x4⟩ := g.wa_line hk
  have ev := g.wa_ev hk
  have four : x.four = (true, i, y, s.wOf k) := by unfold Ln.four; rw [x1, x2, x3, x4]
  have d1 : Does B s (uw1 B s i y k) 1 := by
    refine does_offM ev.2.2 (ev_beg ev.1) ?_
    simp only [gives, hx]
    rw [if_pos x1, x2, x3, x4]
  have n1 := d1.near g
  obtain ⟨n1', _, r1, _⟩ := id d1
  have i1 := winv k x s _ _ ⟨g, hx⟩ r1
  have d2 : Does B (uw1 B s i y k).1 (uw2 B s i y k) 1 := does_ahead W i1.1 i1.2 four
  have n2 := n1.trans (d2.near n1.good)
  obtain ⟨n2', _, r2, _⟩ := id d2
  have i2 := winv k x _ _ _ i1 r2
  refine ⟨n1, n2, fun n hn => ?_⟩
  have d3 : Does B (uw2 B s i y k).1 (uw3 B s i y k n) (1 * (B.every.take n).length) := does_runL (f := delay B i y (s.wOf k) k) (N := 1) (winv (B := B) k x) (B.every.take n) (fun s' z h _ => does_delay h.1 h.2 four z) _ i2
  have := n2.trans (d3.near n2.good)
  refine this.mono ?_
  rw [List.length_take]
  omega
theorem uw3_snoc {n : Nat} {z : Int} (h : B.every[n]? = some z) : uw3 B s i y k (n + 1) = ((delay B i y (s.wOf k) k (uw3 B s i y k n).1 z).1, (uw3 B s i y k n).2 || (delay B i y (s.wOf k) k (uw3 B s i y k n).1 z).2) := by
  unfold uw3
  rw [List.take_add_one, h]
  exact runL_snoc _ _ _ _
end
/-! the round, step by step -/
section
variable {s : Cl}
def wpF (B : Br) (s : Cl) (p : Int × Int) : Cl × Bool := useWait B s p.1 p.2
def mpF (B : Br) (s : Cl) (p : Int × Int) : Cl × Bool := useMost B s p.1 p.2
def a1 (a b : Int) (s : Cl) (c : Int) : Cl × Bool := addUp s a b c
def a2 (B : Br) (b : Int) (s : Cl) (a : Int) : Cl × Bool := runL (a1 a b) s B.every
def a3 (B : Br) (s : Cl) (b : Int) : Cl × Bool := runL (a2 B b) s B.every
theorem near_wp (W : B.WF) (g : Good B s) (n : Nat) : Near B s (runL (wpF B) s ((s.waits.map (·.1)).take n)).1 (11 * n) := by
  have := does_runL (f := wpF B) (N := 11) (ginv (B := B)) ((s.waits.map (·.1)).take n) (fun s p h _ => (does_useWait W h p.1 p.2).mono (by have := W.m4; omega)) s g
  refine (this.near g).mono ?_
  have : ((s.waits.map (·.1)).take n).length ≤ n := by rw [List.length_take]; omega
  exact Nat.mul_le_mul_left _ this
theorem near_mp (g : Good B s) (n : Nat) : Near B s (runL (mpF B) s ((s.mosts.map (·.1)).take n)).1 n := by
  have := does_runL (f := mpF B) (N := 1) (ginv (B := B)) ((s.mosts.map (·.1)).take n) (fun s p h _ => does_useMost h p.1 p.2) s g
  refine (this.near g).mono ?_
  have : ((s.mosts.map (·.1)).take n).length ≤ n := by rw [List.length_take]; omega
  omega
theorem near_a1 (g : Good B s) (a b : Int) (l : List Int) : Near B s (runL (a1 a b) s l).1 l.length := by
  have := does_runL (f := a1 a b) (N := 1) (ginv (B := B)) l (fun s c h _ => does_addUp h a b c) s g
  exact (this.near g).mono (by omega)
theorem near_a2 (W : B.WF) (g : Good B s) (b : Int) (l : List Int) : Near B s (runL (a2 B b) s l).1 (9 * l.length) := by
  have := does_runL (f := a2 B b) (N := 9) (ginv (B := B)) l (fun s a h _ => (does_runL (f := a1 a b) (N := 1) (ginv (B := B)) B.every (fun s c h _ => does_addUp h a b c) s h).mono (by rw [every_len]; have := W.m4; omega)) s g
  exact this.near g
theorem near_a3 (W : B.WF) (g : Good B s) (l : List Int) : Near B s (runL (a3 B) s l).1 (81 * l.length) := by
  have := does_runL (f := a3 B) (N := 81) (ginv (B := B)) l (fun s b h _ => (does_runL (f := a2 B b) (N := 9) (ginv (B := B)) B.every (fun s a h _ => (does_runL (f := a1 a b) (N := 1) (ginv (B := B)) B.every (fun s c h _ => does_addUp h a b c) s h).mono (by rw [every_len]; have := W.m4; omega)) s h).mono (by rw [every_len]; have := W.m4; omega)) s g
  exact this.near g
theorem round_eq : round B s = ((runL (a3 B) (runL (mpF B) (runL (wpF B) s (s.waits.map (·.1))).1 ((runL (wpF B) s (s.waits.map (·.1))).1.mosts.map (·.1))).1 B.every).1,
    (runL (wpF B) s (s.waits.map (·.1))).2 || (runL (mpF B) (runL (wpF B) s (s.waits.map (·.1))).1 ((runL (wpF B) s (s.waits.map (·.1))).1.mosts.map (·.1))).2
    || (runL (a3 B) (runL (mpF B) (runL (wpF B) s (s.waits.map (·.1))).1 ((runL (wpF B) s (s.waits.map (·.1))).1.mosts.map (·.1))).1 B.every).2) := rfl
end
/-- along a run the lines grow to the end's -/
theorem Run.le (W : B.WF) {n : Nat} {s t : Cl} (h : Run B n s t) (g : Good B s) : s.lines.length ≤ t.lines.length := by
  induction h with
  | fault _ => exact Nat.le_refl _
  | last _ _ => exact Nat.le_refl _
  | turn h1 h2 _ ih =>
    have d := does_round W g
    rw [h2] at d
    have nr := d.near g
    obtain ⟨n, _, r⟩ := nr.ex
    have := ih nr.good
    rw [r.len] at this
    omega
end K95
/-! K95, the plain law, part 11: the offers at the start, one by one; the end's own name. -/
namespace K95
variable {B : Br}
theorem enumF_snoc {α : Type} (x : α) : ∀ (l : List α) (n : Nat), enumF n (l ++ [x]) = enumF n l ++ [(n + l.length, x)]
  | [], n => rfl
  | y :: l, n => by
    show (n, y) :: enumF (n + 1) (l ++ [x]) = (n, y) :: (enumF (n + 1) l ++ [(n + (l.length + 1), x)])
    rw [enumF_snoc x l (n + 1), show n + 1 + l.length = n + (l.length + 1) by omega]
theorem offBounds_snoc (k : Nat) (p : Int × Int × Int) : ∀ (l : List (Nat × Int × Int × Int)) (s : Cl), offBounds B s (l ++ [(k, p)]) = (offM (offBounds B s l) p.1 p.2.1 p.2.2 (.bound k)).1
  | [], s => rfl
  | (j, a, b, w) :: l, s => by
    show offBounds B (offM s a b w (.bound j)).1 (l ++ [(k, p)]) = _
    rw [offBounds_snoc k p l]
    rfl
theorem offHighs_snoc (i : Nat) : ∀ (l : List Nat) (s : Cl), offHighs B s (l ++ [i]) = (offW (offHighs B s l) i (2 * (i : Int) + 2) (B.hi i) (.high i)).1
  | [], s => rfl
  | j :: l, s => by
    show offHighs B (offW s j (2 * (j : Int) + 2) (B.hi j) (.high j)).1 (l ++ [i]) = _
    rw [offHighs_snoc i l]
    rfl
def ob (B : Br) (n : Nat) : Cl := offBounds B ⟨[], [], [], none⟩ (enumF 0 ((bounds B).take n))
def oh (B : Br) (n : Nat) : Cl := offHighs B (ob B (bounds B).length) (List.range n)
theorem ob_zero : ob B 0 = ⟨[], [], [], none⟩ := rfl
theorem oh_zero : oh B 0 = ob B (bounds B).length := rfl
theorem ob_succ {n : Nat} {p : Int × Int × Int} (h : (bounds B)[n]? = some p) : ob B (n + 1) = (offM (ob B n) p.1 p.2.1 p.2.2 (.bound n)).1 := by
  unfold ob
  have hn : n < (bounds B).length := lt_of_get h
  rw [List.take_add_one, h, Option.toList_some, enumF_snoc, offBounds_snoc, List.length_take, show 0 + min n (bounds B).length = n by omega]
theorem oh_succ {n : Nat} : oh B (n + 1) = (offW (oh B n) n (2 * (n : Int) + 2) (B.hi n) (.high n)).1 := by
  unfold oh
  rw [List.range_succ, offHighs_snoc]
theorem init_eq : init B = oh B B.m := by
  unfold init oh ob
  rw [List.take_length]
theorem ob_near (W : B.WF) (n : Nat) : Good B (ob B n) ∧ (ob B n).lines.length ≤ 52 := by
  obtain ⟨k, h1, h2, _⟩ := off_bounds W (enumF 0 ((bounds B).take n)) _ (good_nil (B := B)) fun q hq => by
    have := (mem_enumF _ _ _ hq).2
    rw [Nat.sub_zero, List.getElem?_take] at this
    by_cases e : q.1 < n
    · rwa [if_pos e] at this
    · rw [if_neg e] at this; cases this
  refine ⟨(good_nil (B := B)).rch h2, ?_⟩
  show (offBounds B _ _).lines.length ≤ 52
  rw [h2.len]
  rw [enumF_len, List.length_take] at h1
  have := bounds_len W
  show 0 + k ≤ 52
  omega
theorem oh_near (W : B.WF) {n : Nat} (hn : n ≤ B.m) : Good B (oh B n) ∧ (oh B n).lines.length ≤ 56 := by
  obtain ⟨g, l⟩ := ob_near W (bounds B).length
  obtain ⟨k, h1, h2, _⟩ := off_highs W (List.range n) _ g fun i hi => by
    rw [List.mem_range] at hi; omega
  refine ⟨g.rch h2, ?_⟩
  show (offHighs B _ _).lines.length ≤ 56
  rw [h2.len]
  rw [List.length_range] at h1
  have := W.m4
  omega
theorem Run.inv {n : Nat} {s t : Cl} (h : Run B n s t) : (s.fault.isNone = false ∧ s = t) ∨ (s.fault = none ∧ round B s = (t, false) ∧ s = t ∧ n = 1) ∨ ∃ s' k, n = k + 1 ∧ s.fault = none ∧ round B s = (s', true) ∧ Run B k s' t := by
  cases h with
  | fault h => exact .inl ⟨by cases e : s.fault with
    | none => rw [e] at h; cases h
    | some k => rfl, rfl⟩
  | last h1 h2 => exact .inr (.inl ⟨h1, h2, rfl, rfl⟩)
  | turn h1 h2 h3 => exact .inr (.inr ⟨_, _, rfl, h1, h2, h3⟩)
/-- what the closing ends at -/
def IsEnd (B : Br) (t : Cl) : Prop := (∃ n, Run B n (init B) t) ∧ Fin B t
open Classical in
noncomputable def fin (B : Br) : Cl := if h : ∃ t, IsEnd B t then h.choose else ⟨[], [], [], none⟩
theorem fin_is (W : B.WF) : IsEnd B (fin B) := by
  have h : ∃ t, IsEnd B t := by
    obtain ⟨n, t, r, f⟩ := closing_ends W
    exact ⟨t, ⟨n, r⟩, f⟩
  unfold fin
  rw [dif_pos h]
  exact h.choose_spec
end K95
/-! K95, the plain law, part 12: situations as lists, how they grow. -/
namespace K95
variable {B : Br}
/-- a situation told by a list -/
structure Sl (B : Br) (t : Int) (hs : List (Int × Int)) : Prop where
  sit : Sit B t (look hs)
  nd : (hs.map (·.1)).Nodup
theorem nodup_le : ∀ (l : List Int) (n : Nat), l.Nodup → (∀ x ∈ l, 0 ≤ x ∧ x < (n : Int)) → l.length ≤ n
  | l, 0, _, h => by
    cases l with
    | nil => exact Nat.le_refl _
    | cons x r => have := h x List.mem_cons_self; omega
  | l, n + 1, nd, h => by
    by_cases e : (n : Int) ∈ l
    · have h1 := nodup_le (l.erase (n : Int)) n (nd.erase _) fun x hx => by
        have h2 := h x (List.mem_of_mem_erase hx)
        have h3 : x ≠ (n : Int) := fun z => by
          rw [z] at hx
          exact (List.Nodup.not_mem_erase nd) hx
        omega
      rw [List.length_erase_of_mem e] at h1
      have : 0 < l.length := List.length_pos_of_mem e
      omega
    · have := nodup_le l n nd fun x hx => by
        have h2 := h x hx
        have h3 : x ≠ (n : Int) := fun z => e (by rw [← z]; exact hx)
        omega
      omega
theorem Sl.len {t : Int} {hs : List (Int × Int)} (W : B.WF) (s : Sl B t hs) : hs.length ≤ 9 := by
  have := nodup_le (hs.map (·.1)) (2 * B.m + 1) s.nd fun x hx => by
    obtain ⟨p, hp⟩ := look_some_of_key hx
    have := (s.sit.rng x p hp).1
    unfold Br.Ev at this
    omega
  rw [List.length_map] at this
  have := W.m4
  omega
theorem Sl.begin {t : Int} {hs : List (Int × Int)} (W : B.WF) (s : Sl B t hs) {k : Int} (tk : B.Tk k) (h : look hs (2 * k + 2) = none) : Sl B t (put hs (2 * k + 1) t) ∧ ∀ i, look (put hs (2 * k + 1) t) (2 * i + 2) = look hs (2 * i + 2) := by
  have ev : ∀ i : Int, look (put hs (2 * k + 1) t) (2 * i + 2) = look hs (2 * i + 2) := fun i => by rw [look_put, if_neg (by omega)]
  refine ⟨⟨⟨s.sit.t0, fun x p hx => ?_, ?_, fun i e ti he => ?_, fun i p ti hp hn => ?_⟩, nodup_put _ _ s.nd⟩, ev⟩
  · rw [look_put] at hx
    by_cases e : x = 2 * k + 1
    · rw [if_pos e] at hx
      cases hx
      rw [e]
      exact ⟨ev_beg tk, s.sit.t0, Int.le_refl _⟩
    · rw [if_neg e] at hx
      exact s.sit.rng x p hx
  · unfold Br.Tk at tk
    rw [look_put, if_neg (by omega)]
    exact s.sit.zero
  · rw [ev] at he
    have ne : i ≠ k := fun z => by rw [z, h] at he; cases he
    obtain ⟨p, hp, d⟩ := s.sit.dur i e ti he
    exact ⟨p, by rw [look_put, if_neg (by omega)]; exact hp, d⟩
  · rw [ev] at hn
    rw [look_put] at hp
    by_cases e : i = k
    · rw [if_pos (by omega)] at hp
      cases hp
      have := W.dur i ti
      omega
    · rw [if_neg (by omega)] at hp
      exact s.sit.run i p ti hp hn
theorem Sl.noend {t : Int} {hs : List (Int × Int)} (s : Sl B t hs) {k : Int} (tk : B.Tk k) (h : look hs (2 * k + 1) = none) : look hs (2 * k + 2) = none := by
  cases e : look hs (2 * k + 2) with
  | none => rfl
  | some v =>
    obtain ⟨p, hp, _⟩ := s.sit.dur k v tk e
    rw [h] at hp
    cases hp
theorem sl_zero : Sl B 0 [(0, 0)] := by
  have g : ∀ x : Int, look [((0 : Int), (0 : Int))] x = if (0 : Int) = x then some 0 else none := fun x => by rw [look_cons, look_nil]
  refine ⟨⟨by omega, fun x p hx => ?_, by rw [g, if_pos rfl], fun i e ti he => ?_, fun i p ti hp hn => ?_⟩, by simp⟩
  · rw [g] at hx
    by_cases e : (0 : Int) = x
    · rw [if_pos e] at hx
      cases hx
      rw [← e]
      exact ⟨ev_0, by omega, by omega⟩
    · rw [if_neg e] at hx
      cases hx
  · unfold Br.Tk at ti
    rw [g, if_neg (by omega)] at he
    cases he
  · unfold Br.Tk at ti
    rw [g, if_neg (by omega)] at hp
    cases hp
/-- these may end at t, and all that must -/
structure EndsOk (B : Br) (t : Int) (T : Int → Option Int) (is : List Int) : Prop where
  may : ∀ i ∈ is, B.Tk i ∧ ∃ p, T (2 * i + 1) = some p ∧ B.lo i ≤ t - p ∧ t - p ≤ B.hi i
  must : ∀ i p, B.Tk i → T (2 * i + 1) = some p → T (2 * i + 2) = none → i ∉ is → t - p < B.hi i
def endAll (t : Int) (hs : List (Int × Int)) (is : List Int) : List (Int × Int) := is.foldl (fun a i => put a (2 * i + 2) t) hs
theorem endAll_snoc (t : Int) (hs : List (Int × Int)) (is : List Int) (i : Int) : endAll t hs (is ++ [i]) = put (endAll t hs is) (2 * i + 2) t := by
  unfold endAll
  rw [List.foldl_append]
  rfl
theorem look_endAll (t x : Int) : ∀ (is : List Int) (hs : List (Int × Int)), look (endAll t hs is) x = if (∃ i ∈ is, x = 2 * i + 2) then some t else look hs x
  | [], hs => by
    rw [if_neg (by rintro ⟨i, h, _⟩; cases h)]
    rfl
  | i :: is, hs => by
    show look (endAll t (put hs (2 * i + 2) t) is) x = _
    rw [look_endAll t x is, look_put]
    by_cases h1 : ∃ j ∈ is, x = 2 * j + 2
    · rw [if_pos h1, if_pos]
      obtain ⟨j, hj, e⟩ := h1
      exact ⟨j, List.mem_cons_of_mem _ hj, e⟩
    · rw [if_neg h1]
      by_cases h2 : x = 2 * i + 2
      · rw [if_pos h2, if_pos ⟨i, List.mem_cons_self, h2⟩]
      · rw [if_neg h2, if_neg]
        rintro ⟨j, hj, e⟩
        rcases List.mem_cons.mp hj with rfl | hj
        · exact h2 e
        · exact h1 ⟨j, hj, e⟩
theorem nd_endAll (t : Int) : ∀ (is : List Int) (hs : List (Int × Int)), (hs.map (·.1)).Nodup → ((endAll t hs is).map (·.1)).Nodup
  | [], _, h => h
  | i :: is, hs, h => nd_endAll t is _ (nodup_put _ _ h)
theorem Sl.ends {t : Int} {hs : List (Int × Int)} {is : List Int} (s : Sl B t hs) (E : EndsOk B (t + 1) (look hs) is) : Sl B (t + 1) (endAll (t + 1) hs is) := by
  have tk0 : ∀ i ∈ is, 0 ≤ i := fun i h => (E.may i h).1.1
  have odd : ∀ i : Int, look (endAll (t + 1) hs is) (2 * i + 1) = look hs (2 * i + 1) := fun i => by
    rw [look_endAll, if_neg]
    rintro ⟨j, _, e⟩
    omega
  refine ⟨⟨by have := s.sit.t0; omega, fun x p hx => ?_, ?_, fun i e ti he => ?_, fun i p ti hp hn => ?_⟩, nd_endAll _ _ _ s.nd⟩
  · rw [look_endAll] at hx
    by_cases h : ∃ j ∈ is, x = 2 * j + 2
    · rw [if_pos h] at hx
      cases hx
      obtain ⟨j, hj, e⟩ := h
      rw [e]
      exact ⟨ev_end (E.may j hj).1, by have := s.sit.t0; omega, Int.le_refl _⟩
    · rw [if_neg h] at hx
      obtain ⟨a, b, c⟩ := s.sit.rng x p hx
      exact ⟨a, b, by omega⟩
  · rw [look_endAll, if_neg]
    · exact s.sit.zero
    · rintro ⟨j, hj, e⟩
      have := tk0 j hj
      omega
  · rw [look_endAll] at he
    by_cases h : ∃ j ∈ is, 2 * i + 2 = 2 * j + 2
    · rw [if_pos h] at he
      cases he
      obtain ⟨j, hj, e⟩ := h
      have e : i = j := by omega
      obtain ⟨_, p, hp, l1, l2⟩ := E.may j hj
      rw [e, odd]
      exact ⟨p, hp, l1, l2⟩
    · rw [if_neg h] at he
      rw [odd]
      exact s.sit.dur i e ti he
  · rw [odd] at hp
    rw [look_endAll] at hn
    by_cases h : ∃ j ∈ is, 2 * i + 2 = 2 * j + 2
    · rw [if_pos h] at hn
      cases hn
    · rw [if_neg h] at hn
      exact E.must i p ti hp hn fun z => h ⟨i, z, rfl⟩
end K95
/-! K95, the plain law, part 13: what is handed back as a breach. -/
namespace K95
variable {B : Br}
/-- what find_breach gives -/
def Res (s : Cl) (t : Int) (T : Int → Option Int) (o : Option (List Ln)) : Prop :=
  (∃ k, s.fault = some k ∧ o = some (upTo s.lines k)) ∨ (s.fault = none ∧ ((o = none ∧ ∀ k ∈ s.used, ∀ x, s.lines[k]? = some x → ¬ Brk t T x) ∨
    ∃ k x, k ∈ s.used ∧ s.lines[k]? = some x ∧ Brk t T x ∧ (∀ j ∈ s.used, j < k → ∀ y, s.lines[j]? = some y → ¬ Brk t T y) ∧ o = some (upTo s.lines k)))
theorem res_one {s : Cl} {t : Int} {T : Int → Option Int} {o o' : Option (List Ln)} (h : Res s t T o) (h' : Res s t T o') : o = o' := by
  rcases h with ⟨k, f, e⟩ | ⟨f, h⟩ <;> rcases h' with ⟨k', f', e'⟩ | ⟨f', h'⟩
  · rw [f] at f'
    cases f'
    rw [e, e']
  · rw [f] at f'
    cases f'
  · rw [f] at f'
    cases f'
  · rcases h with ⟨e, n⟩ | ⟨k, x, u, hx, b, l, e⟩ <;> rcases h' with ⟨e', n'⟩ | ⟨k', x', u', hx', b', l', e'⟩
    · rw [e, e']
    · exact absurd b' (n k' u' x' hx')
    · exact absurd b (n' k u x hx)
    · have : k = k' := by
        rcases Nat.lt_trichotomy k k' with z | z | z
        · exact absurd b (l' k u z x hx)
        · exact z
        · exact absurd b' (l k' u' z x' hx')
      rw [e, e', this]
/-- none is given just where it is fair -/
theorem res_fair (wf : B.WF) {s : Cl} (F : Fin B s) {t : Int} {T : Int → Option Int} (S : Sit B t T) {o : Option (List Ln)} (h : Res s t T o) : o = none ↔ (s.fault = none ∧ Stay B s.M s.W t T) := by
  rcases h with ⟨k, f, e⟩ | ⟨f, h⟩
  · rw [e, f]
    exact ⟨fun z => (nomatch z), fun z => nomatch z.1⟩
  · have iff := brk_iff wf F f S
    rcases h with ⟨e, n⟩ | ⟨k, x, u, hx, b, l, e⟩
    · refine ⟨fun _ => ⟨f, ?_⟩, fun _ => e⟩
      apply Classical.byContradiction
      intro c
      obtain ⟨k, x, u, hx, b⟩ := iff.mpr c
      exact n k u x hx b
    · rw [e]
      exact ⟨fun z => (nomatch z), fun z => absurd z.2 (iff.mp ⟨k, x, u, hx, b⟩)⟩
/-- what is given is lines, the last one broken -/
theorem res_lines {s : Cl} (F : Fin B s) {t : Int} {T : Int → Option Int} {l : List Ln} (h : Res s t T (some l)) : Lines B l ∧ ∃ y, l.getLast? = some y ∧ Brk t T y := by
  have g := F.good
  have key : ∀ k x, s.lines[k]? = some x → Brk t T x → l = upTo s.lines k → Lines B l ∧ ∃ y, l.getLast? = some y ∧ Brk t T y := by
    rintro k x hx b rfl
    refine ⟨upTo_lines g hx, ?_⟩
    obtain ⟨y, hy, e⟩ := upTo_last g hx
    refine ⟨y, hy, ?_⟩
    unfold Ln.four at e
    injection e with e1 e
    injection e with e2 e
    injection e with e3 e4
    unfold Brk at b ⊢
    rw [e1, e2, e3, e4]
    exact b
  rcases h with ⟨k, f, e⟩ | ⟨f, ⟨e, _⟩ | ⟨k, x, u, hx, b, _, e⟩⟩
  · obtain ⟨x, hx, x1, x2, x3⟩ := g.flt k f
    refine key k x hx ?_ (Option.some.inj e)
    unfold Brk
    rw [if_pos x1]
    exact .inl ⟨x2, x3⟩
  · cases e
  · exact key k x hx b (Option.some.inj e)
theorem res_len {s : Cl} (F : Fin B s) {t : Int} {T : Int → Option Int} {l : List Ln} (h : Res s t T (some l)) : l.length ≤ 20000 ∧ ∀ x ∈ l, ∃ k y, k < s.lines.length ∧ s.lines[k]? = some y ∧ x.w = y.w := by
  have g := F.good
  have key : ∀ k x, s.lines[k]? = some x → l = upTo s.lines k → l.length ≤ 20000 ∧ ∀ x ∈ l, ∃ k y, k < s.lines.length ∧ s.lines[k]? = some y ∧ x.w = y.w := by
    rintro k x hx rfl
    have lk := lt_of_get hx
    refine ⟨Nat.le_trans upTo_len (by have := F.len; omega), fun z hz => ?_⟩
    obtain ⟨j, hj⟩ := List.mem_iff_getElem?.mp hz
    obtain ⟨k', x', h1, h2, e⟩ := upTo_get g hx hj
    exact ⟨k', x', lt_of_get h2, h2, by rw [e]; rfl⟩
  rcases h with ⟨k, f, e⟩ | ⟨f, ⟨e, _⟩ | ⟨k, x, u, hx, b, _, e⟩⟩
  · obtain ⟨x, hx, _⟩ := g.flt k f
    exact key k x hx (Option.some.inj e)
  · cases e
  · exact key k x hx (Option.some.inj e)
theorem used_lt {s : Cl} (g : Good B s) {k : Nat} (h : k ∈ s.used) : k < s.lines.length := by
  rcases List.mem_append.mp h with h | h
  · obtain ⟨p, hp, rfl⟩ := List.mem_map.mp h
    exact g.k_lt (a := p.1.1) (b := p.1.2) (look_of_mem g.mnd hp)
  · obtain ⟨p, hp, rfl⟩ := List.mem_map.mp h
    exact g.kw_lt (a := p.1.1) (b := p.1.2) (look_of_mem g.wnd hp)
end K95
/-! K95, the plain law, part 14: where the lines handed back range. -/
namespace K95
variable {B : Br}
def Rng (B : Br) (l : List Ln) : Prop := ∀ (k : Nat) (x : Ln), l[k]? = some x → (x.wt = false → B.Ev x.a) ∧ (x.wt = true → B.Tk x.a) ∧ B.Ev x.b
theorem res_rng {s : Cl} (F : Fin B s) {t : Int} {T : Int → Option Int} {l : List Ln} (h : Res s t T (some l)) : Rng B l := by
  have g := F.good
  have key : ∀ k x, s.lines[k]? = some x → l = upTo s.lines k → Rng B l := by
    rintro k x hx rfl j y hj
    obtain ⟨k', x', h1, h2, e⟩ := upTo_get g hx hj
    subst e
    have r := g.rng k' x' h2
    exact ⟨r.1, fun e => (r.2.1 e).1, r.2.2⟩
  rcases h with ⟨k, f, e⟩ | ⟨f, ⟨e, _⟩ | ⟨k, x, u, hx, b, _, e⟩⟩
  · obtain ⟨x, hx, _⟩ := g.flt k f
    exact key k x hx (Option.some.inj e)
  · cases e
  · exact key k x hx (Option.some.inj e)
theorem take_get {α : Type} {l : List α} {i k : Nat} {x : α} (h : (l.take k)[i]? = some x) : i < k ∧ l[i]? = some x := by
  rw [List.getElem?_take] at h
  split at h
  · exact ⟨by assumption, h⟩
  · cases h
end K95
/-! the walk's own words -/
namespace Wk
open PySem PySem.Spec PyProof.Rows L2
/-! ### the text by places -/
def top (i : Nat) : Stmt := PySem.Challenge.pw_anycritical_k95_whole_fair_or_breach.main.body.getD i (.Pass ⟨0, 0, 0, 0⟩)
/-- a def of the module: where it stands, how its arguments bind -/
structure At (K : PySem.W.Frag) (mg : Str → Option Value) (x : Str) (st : Stmt) (ps : List Str) (f : Addr) (fd : FuncData) : Prop where
  fn : Fun K x x st f fd
  mg : mg x = some (.ref f)
  bi : Binds K fd ps []
/-- a def that keeps its promise by the level k -/
structure Def (P : Program) (w : World) (K : PySem.W.Frag) (mg : Str → Option Value) (base : Heap) (x : Str) (k : Nat) (ps : List Str) (sp : Sp) : Prop where
  ex : ∃ f fd, FnOk P w K mg base CX0 k f fd ps sp ∧ mg x = some (.ref f) ∧ PySem.W.keepIn K (.ref f) = true ∧ Binds K fd ps []
section
variable {P : Program} {w : World} {K : PySem.W.Frag} {mg : Str → Option Value} {base : Heap} {x : Str} {k : Nat} {ps : List Str} {sp : Sp}
theorem Def.mono (D : Def P w K mg base x k ps sp) {j : Nat} (h : k ≤ j) : Def P w K mg base x j ps sp := by
  obtain ⟨f, fd, F, a, b, c⟩ := D.ex
  exact ⟨f, fd, F.mono h, a, b, c⟩
theorem At.def {st : Stmt} {f : Addr} {fd : FuncData} (A : At K mg x st ps f fd) (F : FnOk P w K mg base CX0 k f fd ps sp) : Def P w K mg base x k ps sp := ⟨f, fd, F, A.mg, A.fn.kp, A.bi⟩
end
theorem pe_d {X : Cx} {x : Str} {k : Nat} {ps : List Str} {sp : Sp} {e : Expr} {es : List Expr} {t : TA} {p pos : Pos} (D : Def X.prog X.w X.K X.mg X.base x k ps sp) (hr : Room k X.A) (hg : Gl X x) (ha : PA X (e :: es) t) (hdb : (x == ("__debug__" : Str)) = false := by decide)
    (he : starEach (e :: es) X.env = (false, eval e X.env) :: starEach es X.env := by rfl) (hpl : (backTo pos (starEach es X.env)).any (·.1) = false := by rfl) : PE X (.Call (.Name x p) (e :: es) [] pos) (tCall sp [] E0 t) := by
  obtain ⟨f, fd, F, a, b, c⟩ := D.ex
  exact pe_call F hr hg a b c .nil pass0 ha hdb he hpl
/-! ### heaps -/
/-- tuples never change -/
def Tps (H H' : Hp) : Prop := ∀ a xs, H a = some (.tup xs) → H' a = some (.tup xs)
theorem Tps.refl (H : Hp) : Tps H H := fun _ _ h => h
theorem Tps.trans {H H1 H2 : Hp} (a : Tps H H1) (b : Tps H1 H2) : Tps H H2 := fun c o h => b c o (a c o h)
theorem same_tps {H H' : Hp} (h : Same H H') : Tps H H' := fun a xs e => h a _ e
theorem same_new {H : Hp} {p : Addr} {o : HO} (h : H p = none) : Same H (upd H p o) := fun b x e => by
  rw [upd_ne (ne_of_none e h)]
  exact e
theorem tps_upd {H : Hp} {p : Addr} {o : HO} (h : ∀ xs, H p ≠ some (.tup xs)) : Tps H (upd H p o) := fun a xs e => by
  rw [upd_ne (fun q => h xs (by rw [← q]; exact e))]
  exact e
/-- v is a tuple of xs -/
def Tu (H : Hp) (v : V) (xs : List V) : Prop := ∃ a, v = .ref a ∧ H a = some (.tup xs)
theorem Tu.tps {H H' : Hp} {v : V} {xs : List V} (h : Tu H v xs) (t : Tps H H') : Tu H' v xs := by
  obtain ⟨a, e, q⟩ := h
  exact ⟨a, e, t _ _ q⟩
theorem Tu.new {H : Hp} {p : Addr} {xs : List V} : Tu (upd H p (.tup xs)) (.ref p) xs := ⟨p, rfl, upd_same⟩
abbrev pV (p : Int × Int) : List V := [.int p.1, .int p.2]
abbrev tV (p : Int × Int × Int) : List V := [.int p.1, .int p.2.1, .int p.2.2]
/-- a tuple of tuples -/
def Tus {α : Type} (f : α → List V) (H : Hp) (v : V) (ds : List α) : Prop := ∃ vs, Tu H v vs ∧ Paired (fun v d => Tu H v (f d)) vs ds
theorem paired_imp {α β : Type} {F G : α → β → Prop} (h : ∀ a b, F a b → G a b) : ∀ {l : List α} {r : List β}, Paired F l r → Paired G l r
  | _, _, .nil => .nil
  | _, _, .cons a b => .cons (h _ _ a) (paired_imp h b)
theorem Tus.tps {α : Type} {f : α → List V} {H H' : Hp} {v : V} {ds : List α} (h : Tus f H v ds) (t : Tps H H') : Tus f H' v ds := by
  obtain ⟨vs, a, b⟩ := h
  exact ⟨vs, a.tps t, paired_imp (fun _ _ q => q.tps t) b⟩
theorem paired_get {α β : Type} {F : α → β → Prop} : ∀ {l : List α} {r : List β} (i : Nat) (x : α), Paired F l r → l[i]? = some x → ∃ y, r[i]? = some y ∧ F x y
  | _, _, i, x, .nil, h => by simp at h
  | _, _, 0, x, .cons a b, h => ⟨_, rfl, by have := Option.some.inj h; rw [← this]; exact a⟩
  | _, _, i + 1, x, .cons a b, h => paired_get i x b h
theorem paired_get2 {α β : Type} {F : α → β → Prop} : ∀ {l : List α} {r : List β} (i : Nat) (y : β), Paired F l r → r[i]? = some y → ∃ x, l[i]? = some x ∧ F x y
  | _, _, i, x, .nil, h => by simp at h
  | _, _, 0, x, .cons a b, h => ⟨_, rfl, by have := Option.some.inj h; rw [← this]; exact a⟩
  | _, _, i + 1, x, .cons a b, h => paired_get2 i x b h
/-! ### the built-ins -/
structure Bi (mg : Str → Option Value) : Prop where
  len : mg "len" = none
  range : mg "range" = none
  list : mg "list" = none
  tuple : mg "tuple" = none
  dict : mg "dict" = none
  int : mg "int" = none
  str : mg "str" = none
  bool : mg "bool" = none
  enumerate : mg "enumerate" = none
  zip : mg "zip" = none
  min : mg "min" = none
  max : mg "max" = none
  any : mg "any" = none
  all : mg "all" = none
  sorted : mg "sorted" = none
  isinstance : mg "isinstance" = none
  repr : mg "repr" = none
/-! ### readings, from the left -/
section
variable {σ : L2.St} {H : Hp} {i : Nat} {v x y z : V} {ta tb te tc : TE} {tr t : TA} {b : Bool} {K : PySem.W.Frag} {Q : VK} {D : Ends} {g : TG}
theorem q_var (h : σ[i]? = some (some v)) (q : Q v H) : tVar i σ H Q := ⟨v, h, q⟩
theorem q_c (q : Q v H) : tC v σ H Q := q
theorem q_op {r : R2} (h : ta σ H fun x H1 => tb σ H1 fun y H2 => r x y H2 Q) : tOp r ta tb σ H Q := h
theorem q_un {r : V → Hp → VK → Prop} (h : ta σ H fun x H1 => r x H1 Q) : tUn r ta σ H Q := h
theorem q_I0 {f : Int → Int → V} {i j : Int} (q : Q (f i j) H) : rI0 f (.int i) (.int j) H Q := ⟨i, j, rfl, rfl, q⟩
theorem q_I {C : Int → Int → Prop} {f : Int → Int → V} {i j : Int} (hc : C i j) (q : Q (f i j) H) : rI C f (.int i) (.int j) H Q := ⟨i, j, rfl, rfl, hc, q⟩
theorem q_U {f : Int → V} {i : Int} (q : Q (f i) H) : rU f (.int i) H Q := ⟨i, rfl, q⟩
theorem q_eq (h : scal x y = true) (q : Q (.bl (decide (x = y))) H) : rEq x y H Q := ⟨h, q⟩
theorem q_ne (h : scal x y = true) (q : Q (.bl (!decide (x = y))) H) : rNe x y H Q := ⟨h, q⟩
theorem q_eqI {i j : Int} (q : Q (.bl (decide (i = j))) H) : rEq (.int i) (.int j) H Q := ⟨rfl, by
  rw [show decide (V.int i = V.int j) = decide (i = j) from decide_eq_decide.mpr ⟨fun h => V.int.inj h, fun h => by rw [h]⟩]; exact q⟩
theorem q_neI {i j : Int} (q : Q (.bl (!decide (i = j))) H) : rNe (.int i) (.int j) H Q := ⟨rfl, by
  rw [show decide (V.int i = V.int j) = decide (i = j) from decide_eq_decide.mpr ⟨fun h => V.int.inj h, fun h => by rw [h]⟩]; exact q⟩
theorem q_test {Qb : Bool → Hp → Prop} (h : te σ H fun x H' => ∃ k, x = .bl k ∧ Qb k H') : tTest te σ H Qb := h
theorem q_tb {Qb : Bool → Hp → Prop} (h : te σ H fun x H' => ∃ k, x = .bl k ∧ Qb k H') : tB te σ H Qb := h
theorem q_bl {Qb : Bool → Hp → Prop} (q : Qb b H) : ∃ k, V.bl b = .bl k ∧ Qb k H := ⟨b, rfl, q⟩
theorem q_and {s u : TT} {Qb : Bool → Hp → Prop} (h : s σ H fun c H1 => if c = true then u σ H1 Qb else Qb false H1) : tAnd s u σ H Qb := h
theorem q_or {s u : TT} {Qb : Bool → Hp → Prop} (h : s σ H fun c H1 => if c = true then Qb true H1 else u σ H1 Qb) : tOr s u σ H Qb := h
theorem q_not {s : TT} {Qb : Bool → Hp → Prop} (h : s σ H fun c H1 => Qb (!c) H1) : tNot s σ H Qb := h
theorem q_ife {s : TT} (h : s σ H fun c H1 => if c = true then ta σ H1 Q else tb σ H1 Q) : tIf s ta tb σ H Q := h
theorem q_nil {Qa : List V → Hp → Prop} (q : Qa [] H) : tNil σ H Qa := q
theorem q_cons {Qa : List V → Hp → Prop} (h : ta σ H fun x H1 => tr σ H1 fun xs H2 => Qa (x :: xs) H2) : tCons ta tr σ H Qa := h
theorem q_call {sp : Sp} {dvs : List V} {E : XK} (h : t σ H fun vs H1 => sp (vs ++ dvs) H1 Q E) : tCall sp dvs E t σ H Q := h
theorem q_cb {r : List V → Hp → VK → Prop} (h : t σ H fun vs H1 => r vs H1 Q) : tCB r t σ H Q := h
theorem q_seq {s u : TS} (h : s { D with nx := u D } σ H) : tSeq s u D σ H := h
theorem q_next (q : D.nx σ H) : tNext D σ H := q
theorem q_asg (h : te σ H fun x H1 => g x σ H1 D.nx) : tAsg te g D σ H := h
theorem q_name {Qs : L2.St → Hp → Prop} (q : Qs (σ.set i (some v)) H) : gName i v σ H Qs := q
theorem q_ret (h : te σ H D.rt) : tRet te D σ H := h
theorem q_drop (h : te σ H fun _ H1 => D.nx σ H1) : tDrop te D σ H := h
theorem q_ifs {c : TT} {s u : TS} (h : c σ H fun b H1 => if b = true then s D σ H1 else u D σ H1) : tIfS c s u D σ H := h
theorem q_tup {tu : TA} (h : tu σ H fun xs H1 => xs.length ≤ sizeLine ∧ ∀ p, H1 p = none → Q (.ref p) (upd H1 p (.tup xs))) : tTup tu σ H Q := h
theorem q_lst {tu : TA} (h : tu σ H fun xs H1 => xs.length ≤ sizeLine ∧ ∀ p, H1 p = none → Q (.ref p) (upd H1 p (.lst xs))) : tLst tu σ H Q := h
theorem q_new {xs : List V} {f : List V → HO} (hl : xs.length ≤ 100000) (q : ∀ p, H p = none → Q (.ref p) (upd H p (f xs))) : xs.length ≤ sizeLine ∧ ∀ p, H p = none → Q (.ref p) (upd H p (f xs)) := ⟨Nat.le_trans hl (by decide), q⟩
theorem q_andV (h : ta σ H fun x H1 => ∃ c, x = .bl c ∧ if c = true then tb σ H1 Q else Q (.bl false) H1) : tAndV ta tb σ H Q := h
theorem q_orV (h : ta σ H fun x H1 => ∃ c, x = .bl c ∧ if c = true then Q (.bl true) H1 else tb σ H1 Q) : tOrV ta tb σ H Q := h
theorem q_notV (h : ta σ H fun x H1 => ∃ c, x = .bl c ∧ Q (.bl (!c)) H1) : tNotV ta σ H Q := h
theorem q_bl2 {A : Bool → Prop} (q : A b) : ∃ c, V.bl b = .bl c ∧ A c := ⟨b, rfl, q⟩
theorem q_ixT {p : Addr} {xs : List V} {i : Int} (h : SqT K H p xs) (ha : atI xs i = some v) (q : Q v H) : rIxT K (.ref p) (.int i) H Q := ⟨p, xs, i, v, rfl, rfl, h, ha, q⟩
theorem q_ixL {p : Addr} {xs : List V} {i : Int} (h : SqL K H p xs) (ha : atI xs i = some v) (q : Q v H) : rIxL K (.ref p) (.int i) H Q := ⟨p, xs, i, v, rfl, rfl, h, ha, q⟩
theorem q_gtup {p : Addr} {xs : List V} {n : Nat} {u : TGs} {Qs : L2.St → Hp → Prop} (h : SqT K H p xs) (hn : xs.length = n) (q : u xs σ H Qs) : gTup K n u (.ref p) σ H Qs := ⟨p, xs, rfl, h, hn, q⟩
theorem q_gcons {u : TGs} {vs : List V} {Qs : L2.St → Hp → Prop} (q : g v σ H fun σ' H' => u vs σ' H' Qs) : gCons g u (v :: vs) σ H Qs := ⟨v, vs, rfl, q⟩
theorem q_gnil {Qs : L2.St → Hp → Prop} (q : Qs σ H) : gNil [] σ H Qs := ⟨rfl, q⟩
end
section
variable {H H' : Hp} {a : Addr} {o : HO} {xs : List V} {x v : V} {Q : VK} {K : PySem.W.Frag}
theorem same_at (h : Same H H') (e : H a = some o) : H' a = some o := h a o e
theorem tps_at (h : Tps H H') (e : H a = some (.tup xs)) : H' a = some (.tup xs) := h a xs e
theorem q_isN {y : V} (q : Q (.bl (decide (x = .non))) H) : (fun x y H Q => y = V.non ∧ Q (.bl (decide (x = .non))) H : R2) x V.non H Q := ⟨rfl, q⟩
theorem q_notN {y : V} (q : Q (.bl (!decide (x = .non))) H) : (fun x y H Q => y = V.non ∧ Q (.bl (!decide (x = .non))) H : R2) x V.non H Q := ⟨rfl, q⟩
/-- the def's own theorem: its names, its promise, its body's reading -/
theorem At.ok {P : Program} {w : World} {mg : Str → Option Value} {base : Heap} {x : Str} {st : Stmt} {ps N : List Str} {f : Addr} {fd : FuncData} {k : Nat} {sp : Sp} (A : At K mg x st ps f fd) (S : FnScope N ps (defScope st))
    (len : ∀ vs H Q E, sp vs H Q E → vs.length = ps.length)
    (hbody : ∀ (cdv : Value) (A : Around) (outer : List Env) (s : Shared) (H : Hp) (vs : List V) (Q : VK) (E : XK), Room k (A.deeper (envOfC x (defScope st) s.heap.objs.size f cdv)) → sp vs H Q E →
      ∃ t, PSs (cxOf CX0 P w K mg base N x (defScope st) f cdv A outer s H E).nox (defBody st) t ∧ t { nx := fun _ H' => Q .non H', rt := Q } (L2.start N vs) H) : Def P w K mg base x (k + 1) ps sp := A.def (A.fn.ok S len hbody)
end
end Wk
namespace Wk
open PySem PySem.Spec PyProof.Rows L2
/-! ### enumerate of a tuple -/
theorem enum_makes_tup (t : Addr) (zs : Array Value) :
    Meets (Builtin.«enumerate.__new__» ⟨[.type "enumerate", .ref t], []⟩) (fun _ R s => s.heap.IsTuple t zs ∧
      R (.ok (.ret (.ref (s.heap.push { cls := .type "tuple_iterator", data := .fields #[.ref t, .int 0 0] }).objs.size)))
        { s with heap := (s.heap.push { cls := .type "tuple_iterator", data := .fields #[.ref t, .int 0 0] }).push { cls := .type "enumerate", data := .fields #[.none, .bool false, .ref s.heap.objs.size, rawInt 0, .none, .none] } }) :=
  .of_wp fun prog w A R s h => by
    obtain ⟨hp, g, d, tk, os⟩ := s
    obtain ⟨ht, h⟩ := h
    have hsub := sub_enumerate
    have step : ∀ {A' : Around} {E : Value → Shared → Prop} {Q : Value → Shared → Prop}, Q (.ref hp.objs.size) ⟨hp.push { cls := .type "tuple_iterator", data := .fields #[.ref t, .int 0 0] }, g, d, tk, os⟩ →
        wpAny (model prog w) A' (pyIter (.ref t)) Q E ⟨hp, g, d, tk, os⟩ := fun q => (begins_tuple t zs).iter prog w _ _ ⟨hp, g, d, tk, os⟩ _ ht q
    obtain ⟨ot, got, cot, no, dot⟩ := id ht
    wp_walk using step
    refine wpAny_stack_any fun st => wpAny_pure ?_
    split
    · rename_i c _ _ _ _ _
      cases (c == Value.type "enumerate")
      · wp_walk using step
        exact ⟨_, rfl, h⟩
      · wp_walk using step
        exact ⟨_, rfl, h⟩
    · wp_walk using step
      exact ⟨_, rfl, h⟩
theorem enum_tup_call {prog : Program} {w : World} {A : Around} {E : Value → Shared → Prop} {s : Shared} {t : Addr} {zs : Array Value} {Q : Value → Shared → Prop} (ht : s.heap.IsTuple t zs)
    (h : ∀ h', IsEnum h' (s.heap.objs.size + 1) s.heap.objs.size 0 .none → h'.IsTupleIter s.heap.objs.size t 0 →
      (∀ b o, s.heap.get? b = some o → h'.get? b = some o) → Q (.ref (s.heap.objs.size + 1)) { s with heap := h' }) :
    wpAny (model prog w) A (call (.type "enumerate") [.ref t]) Q E s := by
  refine callType_new F.called_enumerate (by decide) (F.typeCall_enumerate_1 _) (F.newCall_enumerate_1 _) (fun obj => F.args_object_init_2 obj _) F.entry_enumerate_new (enum_makes_tup t zs) ⟨ht, ?_⟩
  generalize hi : ({ cls := .type "tuple_iterator", data := .fields #[.ref t, .int 0 0] } : Obj) = oi
  have fi : oi.isFreed = false := by rw [← hi]; rfl
  generalize hh1 : s.heap.push oi = h1
  have sz1 : h1.objs.size = s.heap.objs.size + 1 := by rw [← hh1]; exact Heap.size_push ..
  have at1 : h1.get? s.heap.objs.size = some oi := by rw [← hh1]; exact Heap.get?_push_size _ fi
  show _ ∧ _
  rw [sz1]
  have en : IsEnum (h1.push { cls := .type "enumerate", data := .fields #[.none, .bool false, .ref s.heap.objs.size, rawInt 0, .none, .none] }) (s.heap.objs.size + 1) s.heap.objs.size 0 .none := by
    have := Heap.get?_push_size h1 (o := { cls := .type "enumerate", data := .fields #[.none, .bool false, .ref s.heap.objs.size, rawInt 0, .none, .none] }) rfl
    rw [sz1] at this
    exact this
  refine ⟨⟨_, en, rfl⟩, h _ en ⟨_, Heap.get?_push_of_some _ at1, by rw [← hi], by rw [← hi] <;> rfl⟩ fun b o x => Heap.get?_push_of_some _ ?_⟩
  rw [← hh1]
  exact Heap.get?_push_of_some _ x
def ItEt (K : PySem.W.Frag) (t : Addr) : It where
  go := fun i H => ∃ (zs : List V) (z : V), SqT K H t zs ∧ zs[i]? = some z
  yld := fun i H v H' => ∃ T z, v = .ref T ∧ H T = none ∧ H' = upd H T (.tup [.int (i : Nat), z]) ∧ ∀ zs, SqT K H t zs → zs[i]? = some z
  stop := fun i H => ∃ zs : List V, SqT K H t zs ∧ zs.length = i
theorem tup_apart {h : Heap} {t it : Addr} {zs : Array Value} {i : Nat} (a : IsTup h t zs) (b : h.IsTupleIter it t i) : t ≠ it := by
  rintro rfl
  obtain ⟨o1, q1, c1, _⟩ := a
  obtain ⟨o2, q2, c2, _⟩ := b
  rw [q1] at q2
  cases q2
  rw [c1] at c2
  injection c2 with c3
  exact absurd c3 (by decide)
theorem turn_enumT {P : Program} {w : World} {K : PySem.W.Frag} {els : List Expr} {kk : Nat} {tp : Pos} (t e it : Addr) :
    Turn P w K (.Tuple els kk tp) (ItEt K t) [e, it] e (fun i h => (∃ old, IsEnum h e it ((i : Nat) : Int) old) ∧ h.IsTupleIter it t i ∧ e ≠ it) where
  mem := List.mem_cons_self
  obj := by
    rintro i h ⟨⟨old, he⟩, ⟨oi, hoi, _, hdi⟩, _⟩ c hc
    rcases List.mem_cons.mp hc with rfl | hc
    · exact ⟨_, he, fun v q => nomatch q⟩
    · rw [List.mem_singleton] at hc
      subst hc
      exact ⟨oi, hoi, fun v q => by rw [hdi] at q; cases q⟩
  keep := by
    rintro i h h' ⟨⟨old, he⟩, hi, ne⟩ stay
    exact ⟨⟨old, stay e List.mem_cons_self _ he⟩, hi.at fun o q => stay it (by simp) o q, ne⟩
  item := by
    intro X eP ew eK calm i pins s σ H E I foot state go
    subst eP ew eK
    obtain ⟨⟨old, he⟩, hit, ne⟩ := state
    obtain ⟨zs, z, hq, hz⟩ := go
    obtain ⟨its, rv, tupl, _⟩ := I.tuple hq
    obtain ⟨u, hu, ru⟩ := rv.get hz
    have lt1 : e < s.heap.objs.size := Heap.lt_size he
    have lt2 : it < s.heap.objs.size := by obtain ⟨_, q, _⟩ := hit; exact Heap.lt_size q
    have apart := tup_apart tupl hit
    have hlen : i < its.toArray.size := by
      rw [List.size_toArray]
      exact (List.getElem?_eq_some_iff.mp hu).1
    have D := Draws.tuple (prog := X.prog) (w := X.w) (A := X.A.in1) (I.ok.hd calm) it t apart its.toArray
    have ne2 : e ∉ [it, t] := by
      intro hm
      rcases List.mem_cons.mp hm with q | q
      · exact ne q
      · rw [List.mem_singleton] at q
        obtain ⟨o1, q1, c1, _⟩ := tupl
        rw [← q, he] at q1
        cases q1
        injection c1 with c3
        exact absurd c3 (by decide)
    refine wpAny_pyNext_enum_itemD D he ⟨hit, tupl⟩ hlen ne ne2 fun x h1 tk hx out after mk sz kept => ?_
    obtain ⟨hit1, tup1⟩ := after
    refine ⟨_, rfl, wpAny_letOwnedTupleGo_enum (s := { s with heap := h1, toks := tk + 1 }) out fun h2 en2 but => ?_⟩
    have mk2 : h2.get? s.heap.objs.size = some { cls := .type "tuple", data := .seq #[.int i tk, x] } := (but.2 _ (Nat.ne_of_gt lt1)).trans mk
    have exu : x = u := by
      rw [List.getElem?_toArray, hu] at hx
      exact (Option.some.inj hx).symm
    subst exu
    have newt : ObjOk X.prog X.w (upd H s.heap.objs.size (.tup [.int (i : Nat), z])) h2 s.heap.objs.size (.tup [.int (i : Nat), z]) :=
      ⟨by show 2 ≤ sizeLine; decide, [.int i tk, x], .cons ⟨_, rfl⟩ (.cons ru .nil), ⟨_, mk2, rfl, _, rfl⟩⟩
    have I2 := I.turnedNew (t' := tk + 1) (ch := [e, it]) (fun b ob hb q => (but.2 b (fun r => hb (by simp [r]))).trans (kept b ob (fun r => hb (by simp [r])) (fun r => hb (by simp [r])) q)) foot (Nat.le_refl _) newt
    refine ⟨.ref s.heap.objs.size, _, I2, rfl, ⟨_, z, rfl, I.hok.fresh (Nat.le_refl _), rfl, fun ys hy => by rw [I.tuple_inj hy hq]; exact hz⟩, ⟨⟨x, ?_⟩, hit1.at fun o q => (but.2 it (Ne.symm ne)).trans q, ne⟩, fun b hb => ?_⟩
    · rw [show ((i + 1 : Nat) : Int) = (i : Int) + 1 by omega]
      exact en2
    · have lb : b < s.heap.objs.size := by
        rcases List.mem_cons.mp hb with r | r
        · rw [r]; exact lt1
        · rw [List.mem_singleton.mp r]; exact lt2
      rw [upd_ne (Nat.ne_of_lt lb)]
      exact (foot b hb).1
  done := by
    intro X eP ew eK calm i pins s σ H E I foot state stop
    subst eP ew eK
    obtain ⟨⟨old, he⟩, hit, ne⟩ := state
    obtain ⟨zs, hq, hl⟩ := stop
    obtain ⟨its, rv, tupl, _⟩ := I.tuple hq
    have apart := tup_apart tupl hit
    have D := Draws.tuple (prog := X.prog) (w := X.w) (A := X.A.in1) (I.ok.hd calm) it t apart its.toArray
    have hn : its.toArray.size = i := by rw [List.size_toArray, ← rv.length]; exact hl
    obtain ⟨f0, f1, f2, f3, f4, f5⟩ := foot it (by simp)
    exact wpAny_pyNext_enum_endD D he ⟨by rw [hn]; exact hit, tupl⟩ fun h' ex => ⟨rfl, I.turned (t' := s.toks) (fun b o hb q => ex b o hb q) f0 f1 f3 f4 f5⟩
  self := by
    rintro A i s Q E ⟨⟨_, he⟩, _⟩ h
    exact wpAny_pyIter_enum he h
def iEnumT (K : PySem.W.Frag) (ta : TA) : TI := fun σ H R => ta σ H fun vs H1 => ∃ t zs, vs = [.ref t] ∧ SqT K H1 t zs ∧ R (ItEt K t) H1
theorem pi_enumT {X : Cx} {e : Expr} {ta : TA} {p pos tp : Pos} {els : List Expr} {kk : Nat} (hg : Gl X "enumerate") (hm : X.mg "enumerate" = none) (ha : PA X [e] ta) (hs : starEach [e] X.env = [(false, eval e X.env)] := by rfl) :
    PI X (.Tuple els kk tp) (.Call (.Name "enumerate" p) [e] [] pos) (iEnumT X.K ta) := by
  refine ⟨fun pins s σ H R I h => ?_⟩
  refine Call_ (ld_blt I hg hm boot_enumerate (PyProof.Rows.callWith_type1 (thn (ha.run pos pins s σ H _ I h) fun us s1 ⟨vs, H1, I1, r1, q1⟩ => ?_) hs rfl))
  obtain ⟨t, zs, rfl, hq, q⟩ := q1
  obtain ⟨u, rfl, ru⟩ := vals1 r1
  cases ru
  obtain ⟨its, rv, tupl, _⟩ := I1.tuple hq
  refine enum_tup_call tupl fun h' en hit kept => wpAny_pyIter_enum en ?_
  have I2 : Inv X pins σ H1 { s1 with heap := h' } := I1.kept (t' := s1.toks) kept
  refine ⟨s1.heap.objs.size + 1, [s1.heap.objs.size + 1, s1.heap.objs.size], _, _, H1, rfl, I2, turn_enumT t (s1.heap.objs.size + 1) s1.heap.objs.size, ⟨⟨.none, en⟩, hit, Nat.succ_ne_self _⟩, fun b hb => ?_, q⟩
  have le : s1.heap.objs.size ≤ b := by
    rcases List.mem_cons.mp hb with r | r
    · rw [r]; exact Nat.le_succ _
    · rw [List.mem_singleton.mp r]; exact Nat.le_refl _
  exact I1.fpOk le (I1.hok.fresh le)
theorem walk_enumT {K : PySem.W.Frag} {t : Addr} {zs : List V} : Walk (ItEt K t) zs.length (fun H => H t = some (.tup zs)) (YPair (fun i => some (.int (i : Nat))) (fun i => zs[i]?)) := by
  refine ⟨fun i _ hi q => ⟨zs, zs[i], SqT.of q, by simp [hi]⟩, fun _ q => ⟨zs, SqT.of q, rfl⟩, fun i H v H' _ q y => ?_⟩
  obtain ⟨T, x, h1, h2, h3, h4⟩ := y
  exact ⟨T, .int (i : Nat), x, h1, h2, h3, rfl, h4 zs (SqT.of q)⟩
/-! ### lists of tuples, as they grow -/
def Rows {α : Type} (f : α → List V) (H : Hp) (D : Addr) (ds : List α) : Prop := ∃ vs, H D = some (.lst vs) ∧ Paired (fun v d => Tu H v (f d)) vs ds
theorem paired_snoc {α β : Type} {F : α → β → Prop} : ∀ {l : List α} {r : List β} {a : α} {b : β}, Paired F l r → F a b → Paired F (l ++ [a]) (r ++ [b])
  | _, _, _, _, .nil, h => .cons h .nil
  | _, _, _, _, .cons x y, h => .cons x (paired_snoc y h)
theorem paired_append {α β : Type} {F : α → β → Prop} : ∀ {l l' : List α} {r r' : List β}, Paired F l r → Paired F l' r' → Paired F (l ++ l') (r ++ r')
  | _, _, _, _, .nil, h => h
  | _, _, _, _, .cons x y, h => .cons x (paired_append y h)
section
variable {α : Type} {f : α → List V} {H0 H H4 : Hp} {D : Addr} {ds : List α} {d : α} {y : V}
theorem tps_lst {l : List V} {l' : List V} (h : H D = some (.lst l)) : Tps H (upd H D (.lst l')) := tps_upd fun xs q => by rw [h] at q; cases q
theorem same_upd0 {o : HO} (s : Same H0 H) (h0 : H0 D = none) : Same H0 (upd H D o) := fun b u e => by
  rw [upd_ne (ne_of_none e h0)]
  exact s b u e
theorem Rows.nil (D : Addr) : Rows f (upd H D (.lst [])) D ([] : List α) := ⟨[], upd_same, .nil⟩
theorem Rows.len (r : Rows f H D ds) : ∃ vs, H D = some (.lst vs) ∧ vs.length = ds.length := by
  obtain ⟨vs, h, p⟩ := r
  exact ⟨vs, h, p.length⟩
theorem Rows.same (r : Rows f H D ds) (s : Same H H4) : Rows f H4 D ds := by
  obtain ⟨vs, h, p⟩ := r
  exact ⟨vs, s _ _ h, paired_imp (fun _ _ q => q.tps (same_tps s)) p⟩
theorem rows_app (s : Same H0 H) (h0 : H0 D = none) (r : Rows f H D ds) (s4 : Same H H4) (ty : Tu H4 y (f d)) :
    ∃ acc, H4 D = some (.lst acc) ∧ acc.length = ds.length ∧ Same H0 (upd H4 D (.lst (acc ++ [y]))) ∧ Rows f (upd H4 D (.lst (acc ++ [y]))) D (ds ++ [d]) := by
  obtain ⟨vs, h, p⟩ := r
  have h4 := s4 _ _ h
  have t : Tps H4 (upd H4 D (.lst (vs ++ [y]))) := tps_lst h4
  refine ⟨vs, h4, p.length, same_upd0 (s.trans s4) h0, vs ++ [y], upd_same, paired_snoc (paired_imp (fun _ _ q => (q.tps (same_tps s4)).tps t) p) (ty.tps t)⟩
theorem rows_ext {E : Addr} {es : List α} (s : Same H0 H) (h0 : H0 D = none) (r : Rows f H D ds) (r' : Rows f H E es) :
    ∃ xs zs, H D = some (.lst xs) ∧ H E = some (.lst zs) ∧ xs.length = ds.length ∧ zs.length = es.length ∧ Same H0 (upd H D (.lst (xs ++ zs))) ∧ Rows f (upd H D (.lst (xs ++ zs))) D (ds ++ es) := by
  obtain ⟨xs, h1, p1⟩ := r
  obtain ⟨zs, h2, p2⟩ := r'
  have t : Tps H (upd H D (.lst (xs ++ zs))) := tps_lst h1
  exact ⟨xs, zs, h1, h2, p1.length, p2.length, same_upd0 s h0, xs ++ zs, upd_same, paired_imp (fun _ _ q => q.tps t) (paired_append p1 p2)⟩
end
theorem take_snoc {α : Type} {l : List α} {i : Nat} {x : α} (h : l[i]? = some x) : l.take (i + 1) = l.take i ++ [x] := by
  rw [List.take_add_one, h]
  rfl
theorem size_ok {n : Nat} (h : n ≤ 100000) : n < sizeLine := Nat.lt_of_le_of_lt h (by decide)
/-! ### briefs in the heap -/
def IsPr (H : Hp) (v : V) (B : K95.Br) : Prop := ∃ vt va, Tu H v [vt, va] ∧ Tus pV H vt B.tasks ∧ Tus pV H va B.arrows
def IsBr (H : Hp) (v : V) (B : K95.Br) : Prop := ∃ vp vl, Tu H v [vp, vl, .int B.dl] ∧ IsPr H vp B ∧ Tus tV H vl B.limits
theorem IsPr.tps {H H' : Hp} {v : V} {B : K95.Br} (h : IsPr H v B) (t : Tps H H') : IsPr H' v B := by
  obtain ⟨vt, va, a, b, c⟩ := h
  exact ⟨vt, va, a.tps t, b.tps t, c.tps t⟩
theorem IsBr.tps {H H' : Hp} {v : V} {B : K95.Br} (h : IsBr H v B) (t : Tps H H') : IsBr H' v B := by
  obtain ⟨vp, vl, a, b, c⟩ := h
  exact ⟨vp, vl, a.tps t, b.tps t, c.tps t⟩
/-! ### more readings -/
section
variable {σ : L2.St} {H : Hp} {K : PySem.W.Frag} {Q : VK} {ta to : TE} {t : TA} {R : It → Hp → Prop} {D : Ends} {g : TG} {tt : TT} {te : TE} {vs : List Nat} {wi : TI} {tb : TS}
theorem q_bm {T : String} {r : V → List V → Hp → VK → Prop} (h : to σ H fun x H1 => tyV K T x H1 ∧ t σ H1 fun xs H2 => r x xs H2 Q) : tBM K T r to t σ H Q := h
theorem q_iTup (h : ta σ H fun x H1 => ∃ a, x = .ref a ∧ (∃ xs, SqT K H1 a xs) ∧ R (Itt K a) H1) : iTup K ta σ H R := h
theorem q_iList (h : ta σ H fun x H1 => ∃ a, x = .ref a ∧ (∃ xs, SqL K H1 a xs) ∧ R (Itl K a) H1) : iList K ta σ H R := h
theorem q_iR1 (h : t σ H fun vs H1 => ∃ j : Int, vs = [.int j] ∧ -(2 ^ 62) ≤ j ∧ j < 2 ^ 62 ∧ R (Itr 0 j.toNat) H1) : iRng1 t σ H R := h
theorem q_iR2 (h : t σ H fun vs H1 => ∃ i j : Int, vs = [.int i, .int j] ∧ (-(2 ^ 62) ≤ i ∧ i < 2 ^ 62 ∧ -(2 ^ 62) ≤ j ∧ j < 2 ^ 62) ∧ R (Itr i (j - i).toNat) H1) : iRng2 t σ H R := h
theorem q_iEnT (h : t σ H fun vs H1 => ∃ a zs, vs = [.ref a] ∧ SqT K H1 a zs ∧ R (ItEt K a) H1) : iEnumT K t σ H R := h
theorem q_iEn (h : t σ H fun vs H1 => ∃ a xs, vs = [.ref a] ∧ SqL K H1 a xs ∧ R (Ite K a) H1) : iEnum K t σ H R := h
theorem q_lc (h : wi σ H fun J H1 => ∀ D, H1 D = none → ∃ W : Nat → Nat → Hp → Prop, (∃ m, W 0 m (upd H1 D (.lst []))) ∧ ∀ i m H, W i m H →
  (J.stop i H ∧ Q (.ref D) H) ∨ (J.go i H ∧ ∃ Nx : Hp → Prop, (∀ H', Nx H' → ∃ m', m' < m ∧ W (i + 1) m' H') ∧ ∀ x H', J.yld i H x H' → g x (wipe σ vs) H' fun σ2 H2 => wipe σ2 vs = wipe σ vs ∧ tt σ2 H2 fun b H3 =>
    if b = true then te σ2 H3 fun y H4 => ∃ acc, H4 D = some (.lst acc) ∧ acc.length < sizeLine ∧ Nx (upd H4 D (.lst (acc ++ [y]))) else Nx H3)) : tLc wi g tt te vs σ H Q := h
theorem q_for (h : wi σ H fun J H1 => ∃ W : Nat → Nat → L2.St → Hp → Prop, (∃ m, W 0 m σ H1) ∧ ∀ i m σ H, W i m σ H →
  (J.stop i H ∧ D.nx σ H) ∨ (J.go i H ∧ ∃ N : L2.St → Hp → Prop, (∀ σ' H', N σ' H' → ∃ m', m' < m ∧ W (i + 1) m' σ' H') ∧ ∀ x H', J.yld i H x H' → g x σ H' fun σ2 H2 => tb { D with nx := N, ct := N, bk := D.nx } σ2 H2)) : tFor wi g tb D σ H := h
theorem q_yes {Qb : Bool → Hp → Prop} (q : Qb true H) : tYes σ H Qb := q
theorem isL {a : Addr} {xs : List V} (h : H a = some (.lst xs)) : tyV K "list" (.ref a) H := Or.inl ⟨rfl, _, SqL.of h⟩
end
theorem q_newT {H : Hp} {Q : VK} {xs : List V} (hl : xs.length ≤ 100000) (q : ∀ p, H p = none → Q (.ref p) (upd H p (.tup xs))) : xs.length ≤ sizeLine ∧ ∀ p, H p = none → Q (.ref p) (upd H p (.tup xs)) := ⟨Nat.le_trans hl (by decide), q⟩
theorem q_newL {H : Hp} {Q : VK} {xs : List V} (hl : xs.length ≤ 100000) (q : ∀ p, H p = none → Q (.ref p) (upd H p (.lst xs))) : xs.length ≤ sizeLine ∧ ∀ p, H p = none → Q (.ref p) (upd H p (.lst xs)) := ⟨Nat.le_trans hl (by decide), q⟩
theorem lo_at {B : K95.Br} {i : Nat} {p : Int × Int} (h : B.tasks[i]? = some p) : B.lo (i : Int) = p.1 ∧ B.hi (i : Int) = p.2 := by
  unfold K95.Br.lo K95.Br.hi
  rw [show ((i : Nat) : Int).toNat = i by omega, h]
  exact ⟨rfl, rfl⟩
/-- range(n) -/
def YNat : Nat → Hp → V → Hp → Prop := fun i H x H' => H' = H ∧ x = .int (i : Nat)
theorem walk_r0 {n : Nat} : Walk (Itr 0 n) n (fun _ => True) YNat :=
  ⟨fun _ _ hi _ => hi, fun _ _ => Nat.le_refl _, fun _ _ _ _ _ _ y => ⟨y.1, by rw [y.2, Int.zero_add]⟩⟩
end Wk
namespace Wk
open PySem PySem.Spec PyProof.Rows L2
/-! ### the closing in the heap -/
structure Ob where
  x : Addr
  dx : Addr
  ta : Addr
  ae : Addr
  al : Addr
  dm : Addr
  dw : Addr
def faV : Option Nat → V
  | none => .non
  | some k => .int k
def flds (o : Ob) (fv : V) : List (Str × V) := putF "fault" fv (putF "waits" (.ref o.dw) (putF "mosts" (.ref o.dm) (putF "lines" (.ref o.al) (putF "every" (.ref o.ae) (putF "tasks" (.ref o.ta) [])))))
theorem flds_look (o : Ob) (fv : V) (g : Str) : (flds o fv).lookup g = if g = "fault" then some fv else if g = "waits" then some (.ref o.dw) else if g = "mosts" then some (.ref o.dm) else if g = "lines" then some (.ref o.al) else if g = "every" then some (.ref o.ae) else if g = "tasks" then some (.ref o.ta) else none := by
  unfold flds
  rw [lookup_putF, lookup_putF, lookup_putF, lookup_putF, lookup_putF, lookup_putF]
  rfl
theorem putF_putF (f : Str) (v u : V) : ∀ l : List (Str × V), putF f v (putF f u l) = putF f v l
  | [] => by show (if f = f then [(f, v)] else _) = _; rw [if_pos rfl]; rfl
  | (g, x) :: r => by
    show putF f v (if g = f then (g, u) :: r else (g, x) :: putF f u r) = if g = f then (g, v) :: r else (g, x) :: putF f v r
    by_cases e : g = f
    · rw [if_pos e, if_pos e]
      show (if g = f then _ else _) = _
      rw [if_pos e]
    · rw [if_neg e, if_neg e]
      show (if g = f then _ else _) = _
      rw [if_neg e, putF_putF f v u r]
theorem flds_put (o : Ob) (u v : V) : putF "fault" v (flds o u) = flds o v := putF_putF _ _ _ _
theorem flds_len (o : Ob) (v : V) : (flds o v).length < 1000 := by
  unfold flds
  have h1 := length_putF "fault" v (putF "waits" (.ref o.dw) (putF "mosts" (.ref o.dm) (putF "lines" (.ref o.al) (putF "every" (.ref o.ae) (putF "tasks" (.ref o.ta) [])))))
  have h2 := length_putF "waits" (.ref o.dw) (putF "mosts" (.ref o.dm) (putF "lines" (.ref o.al) (putF "every" (.ref o.ae) (putF "tasks" (.ref o.ta) []))))
  have h3 := length_putF "mosts" (.ref o.dm) (putF "lines" (.ref o.al) (putF "every" (.ref o.ae) (putF "tasks" (.ref o.ta) [])))
  have h4 := length_putF "lines" (.ref o.al) (putF "every" (.ref o.ae) (putF "tasks" (.ref o.ta) []))
  have h5 := length_putF "every" (.ref o.ae) (putF "tasks" (.ref o.ta) [])
  have h6 := length_putF "tasks" (.ref o.ta) []
  rw [List.length_nil] at h6
  omega
section
variable {o : Ob} {fv : V}
theorem fl_fault : (flds o fv).lookup ("fault" : Str) = some fv := by rw [flds_look, if_pos rfl]
theorem fl_waits : (flds o fv).lookup ("waits" : Str) = some (.ref o.dw) := by rw [flds_look, if_neg (by decide +kernel), if_pos rfl]
theorem fl_mosts : (flds o fv).lookup ("mosts" : Str) = some (.ref o.dm) := by rw [flds_look, if_neg (by decide +kernel), if_neg (by decide +kernel), if_pos rfl]
theorem fl_lines : (flds o fv).lookup ("lines" : Str) = some (.ref o.al) := by rw [flds_look, if_neg (by decide +kernel), if_neg (by decide +kernel), if_neg (by decide +kernel), if_pos rfl]
theorem fl_every : (flds o fv).lookup ("every" : Str) = some (.ref o.ae) := by rw [flds_look, if_neg (by decide +kernel), if_neg (by decide +kernel), if_neg (by decide +kernel), if_neg (by decide +kernel), if_pos rfl]
theorem fl_tasks : (flds o fv).lookup ("tasks" : Str) = some (.ref o.ta) := by rw [flds_look, if_neg (by decide +kernel), if_neg (by decide +kernel), if_neg (by decide +kernel), if_neg (by decide +kernel), if_neg (by decide +kernel), if_pos rfl]
theorem fl_no {m : Str} (h : (m ≠ "fault" ∧ m ≠ "waits" ∧ m ≠ "mosts") ∧ m ≠ "lines" ∧ m ≠ "every" ∧ m ≠ "tasks") : (flds o fv).lookup m = none := by
  rw [flds_look, if_neg h.1.1, if_neg h.1.2.1, if_neg h.1.2.2, if_neg h.2.1, if_neg h.2.2.1, if_neg h.2.2.2]
end
theorem no_offer_most : ((("offer_most" : Str) ≠ "fault" ∧ ("offer_most" : Str) ≠ "waits" ∧ ("offer_most" : Str) ≠ "mosts") ∧ ("offer_most" : Str) ≠ "lines" ∧ ("offer_most" : Str) ≠ "every" ∧ ("offer_most" : Str) ≠ "tasks") := by decide +kernel
theorem no_offer_wait : ((("offer_wait" : Str) ≠ "fault" ∧ ("offer_wait" : Str) ≠ "waits" ∧ ("offer_wait" : Str) ≠ "mosts") ∧ ("offer_wait" : Str) ≠ "lines" ∧ ("offer_wait" : Str) ≠ "every" ∧ ("offer_wait" : Str) ≠ "tasks") := by decide +kernel
theorem no_add_up : ((("add_up" : Str) ≠ "fault" ∧ ("add_up" : Str) ≠ "waits" ∧ ("add_up" : Str) ≠ "mosts") ∧ ("add_up" : Str) ≠ "lines" ∧ ("add_up" : Str) ≠ "every" ∧ ("add_up" : Str) ≠ "tasks") := by decide +kernel
theorem no_use_most : ((("use_most" : Str) ≠ "fault" ∧ ("use_most" : Str) ≠ "waits" ∧ ("use_most" : Str) ≠ "mosts") ∧ ("use_most" : Str) ≠ "lines" ∧ ("use_most" : Str) ≠ "every" ∧ ("use_most" : Str) ≠ "tasks") := by decide +kernel
theorem no_use_wait : ((("use_wait" : Str) ≠ "fault" ∧ ("use_wait" : Str) ≠ "waits" ∧ ("use_wait" : Str) ≠ "mosts") ∧ ("use_wait" : Str) ≠ "lines" ∧ ("use_wait" : Str) ≠ "every" ∧ ("use_wait" : Str) ≠ "tasks") := by decide +kernel
theorem no_close_once : ((("close_once" : Str) ≠ "fault" ∧ ("close_once" : Str) ≠ "waits" ∧ ("close_once" : Str) ≠ "mosts") ∧ ("close_once" : Str) ≠ "lines" ∧ ("close_once" : Str) ≠ "every" ∧ ("close_once" : Str) ≠ "tasks") := by decide +kernel
theorem no_table : ((("table" : Str) ≠ "fault" ∧ ("table" : Str) ≠ "waits" ∧ ("table" : Str) ≠ "mosts") ∧ ("table" : Str) ≠ "lines" ∧ ("table" : Str) ≠ "every" ∧ ("table" : Str) ≠ "tasks") := by decide +kernel
/-- what is asked of the class -/
structure ClT (K : PySem.W.Frag) (C : Addr) : Prop where
  cl : Cls K C
  tasks : NoAttr K C "tasks"
  every : NoAttr K C "every"
  lines : NoAttr K C "lines"
  mosts : NoAttr K C "mosts"
  waits : NoAttr K C "waits"
  fault : NoAttr K C "fault"
/-! ### lines, reasons, tables -/
def rsV : K95.Rs → List V
  | .bound k => [.str "bound", .int k]
  | .high i => [.str "high", .int i]
  | .sum k l => [.str "sum", .int k, .int l]
  | .delay k l => [.str "delay", .int k, .int l]
  | .early k => [.str "early", .int k]
  | .ahead k => [.str "ahead", .int k]
  | .floor k => [.str "floor", .int k]
def kiV (t : Bool) : V := if t = true then .str "wait" else .str "most"
/-- v is the line l -/
def LnV (H : Hp) (v : V) (l : K95.Ln) : Prop := ∃ r, Tu H v [kiV l.wt, .int l.a, .int l.b, .int l.w, r] ∧ Tu H r (rsV l.r)
theorem LnV.tps {H H' : Hp} {v : V} {l : K95.Ln} (h : LnV H v l) (t : Tps H H') : LnV H' v l := by
  obtain ⟨r, a, b⟩ := h
  exact ⟨r, a.tps t, b.tps t⟩
def tk (p : Int × Int) : List Key := [.inl p.1, .inl p.2]
theorem tk_inj {p q : Int × Int} (h : tk p = tk q) : p = q := by
  obtain ⟨a, b⟩ := p
  obtain ⟨c, d⟩ := q
  unfold tk at h
  injection h with h1 h2
  injection h2 with h2 _
  injection h1 with h1
  injection h2 with h2
  show (a, b) = (c, d)
  rw [show a = c from h1, show b = d from h2]
/-- the pairs of a dict whose keys are pairs -/
def kvT {β : Type} (f : β → V) (l : List ((Int × Int) × β)) : List (List Key × V) := l.map fun p => (tk p.1, f p.2)
section
variable {β : Type} (f : β → V)
theorem kvT_val (p : Int × Int) : ∀ l : List ((Int × Int) × β), valV (kvT f l) (tk p) = (K95.look l p).map f
  | [] => rfl
  | q :: l => by
    show valV ((tk q.1, f q.2) :: kvT f l) (tk p) = _
    rw [K95.look_cons]
    by_cases e : q.1 = p
    · rw [if_pos e, valV_pos (by show tk q.1 = tk p; rw [e])]
      rfl
    · rw [if_neg e, valV_neg (fun z => e (tk_inj z)), kvT_val p l]
theorem kvT_put (p : Int × Int) (v : β) (l : List ((Int × Int) × β)) : putK (kvT f l) (tk p) (f v) = kvT f (K95.put l p v) := by
  have e : ∀ l : List ((Int × Int) × β), ((kvT f l).any fun kv => decide (kv.1 = tk p)) = (l.any fun q => decide (q.1 = p)) := by
    intro l
    induction l with
    | nil => rfl
    | cons q l ih =>
      show (decide (tk q.1 = tk p) || _) = (decide (q.1 = p) || _)
      rw [show (List.map (fun p => (tk p.1, f p.2)) l).any (fun kv => decide (kv.1 = tk p)) = l.any (fun q => decide (q.1 = p)) from ih, decide_eq_decide.mpr (show tk q.1 = tk p ↔ q.1 = p from ⟨tk_inj, fun z => by rw [z]⟩)]
  unfold putK K95.put
  rw [e]
  by_cases h : (l.any fun q => decide (q.1 = p)) = true
  · rw [if_pos h, if_pos h]
    unfold kvT
    rw [List.map_map, List.map_map]
    apply List.map_congr_left
    intro q _
    show (if tk q.1 = tk p then (tk q.1, f v) else (tk q.1, f q.2)) = (tk (if q.1 = p then (q.1, v) else q).1, f (if q.1 = p then (q.1, v) else q).2)
    by_cases e2 : q.1 = p
    · rw [if_pos (by rw [e2]), if_pos e2]
    · rw [if_neg (fun z => e2 (tk_inj z)), if_neg e2]
  · rw [if_neg h, if_neg h]
    unfold kvT
    rw [List.map_append]
    rfl
theorem kvT_len (l : List ((Int × Int) × β)) : (kvT f l).length = l.length := List.length_map _
end
abbrev nV (k : Nat) : V := .int k
/-- the closing's object and what belongs to it: the state s -/
structure ClAt (C : Addr) (B : K95.Br) (H : Hp) (o : Ob) (s : K95.Cl) : Prop where
  ob : H o.x = some (.ins C o.dx (flds o (faV s.fault)))
  ts : Tus pV H (.ref o.ta) B.tasks
  ev : H o.ae = some (.lst (B.every.map V.int))
  ln : ∃ vs, H o.al = some (.lst vs) ∧ Paired (LnV H) vs s.lines
  mo : H o.dm = some (.dT (kvT nV s.mosts))
  wa : H o.dw = some (.dT (kvT nV s.waits))
  n1 : o.dm ≠ o.dw
  n2 : o.ae ≠ o.al
/-- all but the closing's own things is as it was -/
def Keep (o : Ob) (H H' : Hp) : Prop := ∀ b u, H b = some u → (b ≠ o.x ∧ b ≠ o.al) → (b ≠ o.dm ∧ b ≠ o.dw) → H' b = some u
theorem Keep.refl (o : Ob) (H : Hp) : Keep o H H := fun _ _ h _ _ => h
theorem Keep.trans {o : Ob} {H H1 H2 : Hp} (a : Keep o H H1) (b : Keep o H1 H2) : Keep o H H2 := fun c u h i j => b c u (a c u h i j) i j
theorem same_keep {o : Ob} {H H' : Hp} (s : Same H H') : Keep o H H' := fun b u h _ _ => s b u h
section
variable {C : Addr} {B : K95.Br} {H H' H1 : Hp} {o : Ob} {s s0 : K95.Cl}
theorem ClAt.same (c : ClAt C B H o s) (h : Same H H') : ClAt C B H' o s := by
  obtain ⟨vs, h1, h2⟩ := c.ln
  exact ⟨h _ _ c.ob, c.ts.tps (same_tps h), h _ _ c.ev, ⟨vs, h _ _ h1, paired_imp (fun _ _ q => q.tps (same_tps h)) h2⟩, h _ _ c.mo, h _ _ c.wa, c.n1, c.n2⟩
theorem ClAt.apart (c : ClAt C B H o s) {b : Addr} (h : H b = none) : (b ≠ o.x ∧ b ≠ o.al) ∧ b ≠ o.dm ∧ b ≠ o.dw := by
  obtain ⟨vs, h1, h2⟩ := c.ln
  exact ⟨⟨(ne_of_none c.ob h).symm, (ne_of_none h1 h).symm⟩, (ne_of_none c.mo h).symm, (ne_of_none c.wa h).symm⟩
/-- what was made after the closing stays -/
theorem Keep.new (k : Keep o H1 H') (c : ClAt C B H o s) {b : Addr} {u : HO} (n : H b = none) (h : H1 b = some u) : H' b = some u := k b u h (c.apart n).1 (c.apart n).2
theorem ClAt.tupNe (c : ClAt C B H o s) {b : Addr} {xs : List V} (h : H b = some (.tup xs)) : (b ≠ o.x ∧ b ≠ o.al) ∧ b ≠ o.dm ∧ b ≠ o.dw := by
  obtain ⟨vs, h1, h2⟩ := c.ln
  exact ⟨⟨ne_of h c.ob (fun z => by cases z), ne_of h h1 (fun z => by cases z)⟩, ne_of h c.mo (fun z => by cases z), ne_of h c.wa (fun z => by cases z)⟩
theorem Keep.tps (k : Keep o H H') (c : ClAt C B H o s) : Tps H H' := fun b xs h => k b _ h (c.tupNe h).1 (c.tupNe h).2
/-- the lines, one by one -/
theorem ClAt.len (c : ClAt C B H o s) : ∃ vs, H o.al = some (.lst vs) ∧ vs.length = s.lines.length := by
  obtain ⟨vs, h1, h2⟩ := c.ln
  exact ⟨vs, h1, h2.length⟩
theorem ClAt.line (c : ClAt C B H o s) {k : Nat} {x : K95.Ln} (h : s.lines[k]? = some x) : ∃ vs a r, H o.al = some (.lst vs) ∧ vs[k]? = some (.ref a) ∧ H a = some (.tup [kiV x.wt, .int x.a, .int x.b, .int x.w, r]) ∧ Tu H r (rsV x.r) := by
  obtain ⟨vs, h1, h2⟩ := c.ln
  obtain ⟨v, hv, r, ⟨a, rfl, ha⟩, hr⟩ := paired_get2 k x h2 h
  exact ⟨vs, a, r, h1, hv, ha, hr⟩
theorem ClAt.task (c : ClAt C B H o s) {i : Int} (h : B.Tk i) : ∃ ts a, H o.ta = some (.tup ts) ∧ atI ts i = some (.ref a) ∧ H a = some (.tup [.int (B.lo i), .int (B.hi i)]) := by
  obtain ⟨ts, ⟨ta, e, h1⟩, h2⟩ := c.ts
  cases e
  have hm : B.tasks.length = B.m := rfl
  obtain ⟨h0, hlt⟩ := h
  have : i.toNat < B.tasks.length := by omega
  obtain ⟨v, hv, a, rfl, ha⟩ := paired_get2 i.toNat B.tasks[i.toNat] h2 (by simp [this])
  refine ⟨ts, a, h1, ?_, ?_⟩
  · have e3 : ((i.toNat : Nat) : Int) = i := by omega
    have := atI_nat hv
    rwa [e3] at this
  · have e2 : B.tasks[i.toNat]? = some B.tasks[i.toNat] := by simp [this]
    unfold K95.Br.lo K95.Br.hi
    rw [e2]
    exact ha
theorem atN {xs : List V} {k : Nat} {v : V} (h : xs[k]? = some v) : atI xs ((k : Nat) : Int) = some v := atI_nat h
/-! the closing's own writes -/
theorem ClAt.setF (c : ClAt C B H o s) (k : Nat) : ClAt C B (upd H o.x (.ins C o.dx (putF "fault" (.int k) (flds o (faV s.fault))))) o ⟨s.lines, s.mosts, s.waits, some k⟩ := by
  obtain ⟨vs, h1, h2⟩ := c.ln
  have t : Tps H (upd H o.x (.ins C o.dx (putF "fault" (.int k) (flds o (faV s.fault))))) := tps_upd fun xs q => by rw [c.ob] at q; cases q
  refine ⟨by rw [upd_same, flds_put]; rfl, c.ts.tps t, ?_, ⟨vs, ?_, paired_imp (fun _ _ q => q.tps t) h2⟩, ?_, ?_, c.n1, c.n2⟩
  · rw [upd_ne (ne_of c.ev c.ob (fun z => by cases z))]; exact c.ev
  · rw [upd_ne (ne_of h1 c.ob (fun z => by cases z))]; exact h1
  · rw [upd_ne (ne_of c.mo c.ob (fun z => by cases z))]; exact c.mo
  · rw [upd_ne (ne_of c.wa c.ob (fun z => by cases z))]; exact c.wa
theorem ClAt.setM (c : ClAt C B H o s) (a b : Int) (k : Nat) : ClAt C B (upd H o.dm (.dT (putK (kvT nV s.mosts) (tk (a, b)) (nV k)))) o ⟨s.lines, K95.put s.mosts (a, b) k, s.waits, s.fault⟩ := by
  obtain ⟨vs, h1, h2⟩ := c.ln
  have t : Tps H (upd H o.dm (.dT (putK (kvT nV s.mosts) (tk (a, b)) (nV k)))) := tps_upd fun xs q => by rw [c.mo] at q; cases q
  refine ⟨?_, c.ts.tps t, ?_, ⟨vs, ?_, paired_imp (fun _ _ q => q.tps t) h2⟩, by rw [upd_same, kvT_put], ?_, c.n1, c.n2⟩
  · rw [upd_ne (ne_of c.ob c.mo (fun z => by cases z))]; exact c.ob
  · rw [upd_ne (ne_of c.ev c.mo (fun z => by cases z))]; exact c.ev
  · rw [upd_ne (ne_of h1 c.mo (fun z => by cases z))]; exact h1
  · rw [upd_ne c.n1.symm]; exact c.wa
theorem ClAt.setW (c : ClAt C B H o s) (a b : Int) (k : Nat) : ClAt C B (upd H o.dw (.dT (putK (kvT nV s.waits) (tk (a, b)) (nV k)))) o ⟨s.lines, s.mosts, K95.put s.waits (a, b) k, s.fault⟩ := by
  obtain ⟨vs, h1, h2⟩ := c.ln
  have t : Tps H (upd H o.dw (.dT (putK (kvT nV s.waits) (tk (a, b)) (nV k)))) := tps_upd fun xs q => by rw [c.wa] at q; cases q
  refine ⟨?_, c.ts.tps t, ?_, ⟨vs, ?_, paired_imp (fun _ _ q => q.tps t) h2⟩, ?_, by rw [upd_same, kvT_put], c.n1, c.n2⟩
  · rw [upd_ne (ne_of c.ob c.wa (fun z => by cases z))]; exact c.ob
  · rw [upd_ne (ne_of c.ev c.wa (fun z => by cases z))]; exact c.ev
  · rw [upd_ne (ne_of h1 c.wa (fun z => by cases z))]; exact h1
  · rw [upd_ne c.n1]; exact c.mo
theorem ClAt.setL (c : ClAt C B H o s) {vs : List V} {v : V} {x : K95.Ln} (hv : H o.al = some (.lst vs)) (hx : LnV H v x) : ClAt C B (upd H o.al (.lst (vs ++ [v]))) o ⟨s.lines ++ [x], s.mosts, s.waits, s.fault⟩ := by
  obtain ⟨vs', h1, h2⟩ := c.ln
  rw [hv] at h1
  cases h1
  have t : Tps H (upd H o.al (.lst (vs ++ [v]))) := tps_lst hv
  refine ⟨?_, c.ts.tps t, ?_, ⟨vs ++ [v], upd_same, paired_snoc (paired_imp (fun _ _ q => q.tps t) h2) (hx.tps t)⟩, ?_, ?_, c.n1, c.n2⟩
  · rw [upd_ne (ne_of c.ob hv (fun z => by cases z))]; exact c.ob
  · rw [upd_ne c.n2]; exact c.ev
  · rw [upd_ne (ne_of c.mo hv (fun z => by cases z))]; exact c.mo
  · rw [upd_ne (ne_of c.wa hv (fun z => by cases z))]; exact c.wa
theorem keep_x {u : HO} : Keep o H (upd H o.x u) := fun b v h i _ => by rw [upd_ne i.1]; exact h
theorem keep_l {u : HO} : Keep o H (upd H o.al u) := fun b v h i _ => by rw [upd_ne i.2]; exact h
theorem keep_m {u : HO} : Keep o H (upd H o.dm u) := fun b v h _ j => by rw [upd_ne j.1]; exact h
theorem keep_w {u : HO} : Keep o H (upd H o.dw u) := fun b v h _ j => by rw [upd_ne j.2]; exact h
theorem ClAt.getM (c : ClAt C B H o s) {b : Addr} {i j : Int} (h : H b = some (.tup [.int i, .int j])) : DGet H o.dm (.ref b) ((K95.look s.mosts (i, j)).map nV) := by
  rw [← kvT_val]
  exact DGet.t (k := tk (i, j)) c.mo h
theorem ClAt.getW (c : ClAt C B H o s) {b : Addr} {i j : Int} (h : H b = some (.tup [.int i, .int j])) : DGet H o.dw (.ref b) ((K95.look s.waits (i, j)).map nV) := by
  rw [← kvT_val]
  exact DGet.t (k := tk (i, j)) c.wa h
end
/-! ### readings for attributes, methods, dicts -/
section
variable {σ : L2.St} {H : Hp} {K : PySem.W.Frag} {Q : VK} {ta td ty tx tv : TE} {t : TA} {D : Ends} {C : Addr} {B : K95.Br} {o : Ob} {s : K95.Cl}
theorem q_fld {f : Str} (h : ta σ H fun x H1 => ∃ a C dx fs v, x = .ref a ∧ H1 a = some (.ins C dx fs) ∧ Cls K C ∧ NoAttr K C f ∧ fs.lookup f = some v ∧ Q v H1) : tFld K ta f σ H Q := h
theorem q_meth {m : Str} {sp : Sp} {dvs : List V} {E : XK} (h : ta σ H fun x H1 => ∃ a dx fs, x = .ref a ∧ H1 a = some (.ins C dx fs) ∧ fs.lookup m = none ∧ t σ H1 fun vs H2 => sp (x :: (vs ++ dvs)) H2 Q E) : tMeth C m sp dvs E ta t σ H Q := h
theorem q_dget1 (h : td σ H fun x H1 => ∃ a, x = .ref a ∧ IsD H1 a ∧ ty σ H1 fun y H2 => ∃ o, DGet H2 a y o ∧ Q (o.getD .non) H2) : tDGet1 td ty σ H Q := h
theorem q_dget2 (h : td σ H fun x H1 => ∃ a, x = .ref a ∧ IsD H1 a ∧ ty σ H1 fun y H2 => tx σ H2 fun z H3 => ∃ o, DGet H3 a y o ∧ Q (o.getD z) H3) : tDGet2 td ty tx σ H Q := h
theorem q_dget (h : td σ H fun x H1 => ty σ H1 fun y H2 => ∃ a v, x = .ref a ∧ DGet H2 a y (some v) ∧ Q v H2) : tDGet td ty σ H Q := h
theorem q_din (h : ty σ H fun y H1 => td σ H1 fun x H2 => ∃ a o, x = .ref a ∧ DGet H2 a y o ∧ Q (.bl o.isSome) H2) : tDIn ty td σ H Q := h
theorem q_dnotin (h : ty σ H fun y H1 => td σ H1 fun x H2 => ∃ a o, x = .ref a ∧ DGet H2 a y o ∧ Q (.bl (!o.isSome)) H2) : tDNotIn ty td σ H Q := h
theorem q_dput (h : tv σ H fun v H1 => td σ H1 fun x H2 => ty σ H2 fun y H3 => ∃ a H4, x = .ref a ∧ DPut H3 a y v H4 ∧ D.nx σ H4) : sDPut td ty tv D σ H := h
theorem q_par {i j : Nat} (h : t σ H fun vs H1 => ∃ v w, vs = [v, w] ∧ D.nx ((σ.set i (some v)).set j (some w)) H1) : tPar i j t D σ H := h
theorem q_par3 {i j l : Nat} (h : t σ H fun vs H1 => ∃ u v w, vs = [u, v, w] ∧ D.nx (((σ.set i (some u)).set j (some v)).set l (some w)) H1) : tPar3 i j l t D σ H := h
theorem q_two {x y : V} {R : V → V → Prop} (q : R x y) : ∃ v w, [x, y] = [v, w] ∧ R v w := ⟨x, y, rfl, q⟩
theorem q_three {x y z : V} {R : V → V → V → Prop} (q : R x y z) : ∃ u v w, [x, y, z] = [u, v, w] ∧ R u v w := ⟨x, y, z, rfl, q⟩
theorem q_lstRg {te' : L2.St → Hp → (Int → Int → Hp → Prop) → Prop} (h : te' σ H fun a b H1 => RgOk a b ∧ ∀ q, H1 q = none → Q (.ref q) (upd H1 q (.lst (rgV a b)))) : tLstRg te' σ H Q := h
theorem q_rg1 {R : Int → Int → Hp → Prop} (h : ta σ H fun x H1 => ∃ n, x = .int n ∧ R 0 n H1) : tRg1 ta σ H R := h
theorem q_make {sp : Sp} {dvs : List V} {E : XK} (h : t σ H fun vs H1 => ∀ x dx, H1 x = none → H1 dx = none → dx ≠ x → sp (.ref x :: (vs ++ dvs)) (upd (upd H1 dx (.own x)) x (.ins C dx [])) (fun v H2 => v = .non ∧ Q (.ref x) H2) E) : tMake C sp dvs E t σ H Q := h
theorem q_sfld {f : Str} (h : tv σ H fun y H1 => ta σ H1 fun x H2 => ∃ a C dx fs, x = .ref a ∧ H2 a = some (.ins C dx fs) ∧ Cls K C ∧ NoAttr K C f ∧ fs.length < 1000 ∧ D.nx σ (upd H2 a (.ins C dx (putF f y fs)))) : sFld K ta tv f D σ H := h
theorem ClAt.fld {f : Str} {v : V} (c : ClAt C B H o s) (cl : Cls K C) (n : NoAttr K C f) (l : (flds o (faV s.fault)).lookup f = some v) (q : Q v H) :
    ∃ a C' dx fs v', V.ref o.x = .ref a ∧ H a = some (.ins C' dx fs) ∧ Cls K C' ∧ NoAttr K C' f ∧ fs.lookup f = some v' ∧ Q v' H := ⟨o.x, C, o.dx, _, v, rfl, c.ob, cl, n, l, q⟩
theorem ClAt.meth {m : Str} {R : Prop} (c : ClAt C B H o s) (h : (m ≠ "fault" ∧ m ≠ "waits" ∧ m ≠ "mosts") ∧ m ≠ "lines" ∧ m ≠ "every" ∧ m ≠ "tasks") (q : R) : ∃ a dx fs, V.ref o.x = .ref a ∧ H a = some (.ins C dx fs) ∧ fs.lookup m = none ∧ R := ⟨o.x, o.dx, _, rfl, c.ob, fl_no h, q⟩
end
/-! ### tests that leave the heap -/
def Tst (s : TT) (σ : L2.St) (H : Hp) (c : Bool) : Prop := ∀ Qb : Bool → Hp → Prop, Qb c H → s σ H Qb
section
variable {s u : TT} {σ : L2.St} {H : Hp} {c d : Bool} {Qb : Bool → Hp → Prop}
theorem useT (h : Tst s σ H c) (q : Qb c H) : s σ H Qb := h Qb q
theorem tst_and (h : Tst s σ H c) (h2 : c = true → Tst u σ H d) : Tst (tAnd s u) σ H (c && d) := fun Qb q => h _ (by
  cases c with
  | false => exact q
  | true => exact h2 rfl Qb q)
theorem tst_or (h : Tst s σ H c) (h2 : c = false → Tst u σ H d) : Tst (tOr s u) σ H (c || d) := fun Qb q => h _ (by
  cases c with
  | true => exact q
  | false => exact h2 rfl Qb q)
theorem tst_not (h : Tst s σ H c) : Tst (tNot s) σ H (!c) := fun Qb q => h _ q
end
/-- .. or only grow it -/
def TsG (s : TT) (σ : L2.St) (H : Hp) (c : Bool) : Prop := ∀ Qb : Bool → Hp → Prop, (∀ H', Same H H' → Qb c H') → s σ H Qb
section
variable {s u : TT} {σ : L2.St} {H : Hp} {c d : Bool} {Qb : Bool → Hp → Prop}
theorem Tst.grow (h : Tst s σ H c) : TsG s σ H c := fun Qb q => h _ (q _ (Same.refl H))
theorem useG (h : TsG s σ H c) (q : ∀ H', Same H H' → Qb c H') : s σ H Qb := h Qb q
theorem tsg_and (h : TsG s σ H c) (h2 : c = true → ∀ H', Same H H' → TsG u σ H' d) : TsG (tAnd s u) σ H (c && d) := fun Qb q => h _ fun H' s' => (by
  cases c with
  | false => exact q H' s'
  | true => exact h2 rfl H' s' Qb fun H2 s2 => q H2 (s'.trans s2))
theorem tsg_or (h : TsG s σ H c) (h2 : c = false → ∀ H', Same H H' → TsG u σ H' d) : TsG (tOr s u) σ H (c || d) := fun Qb q => h _ fun H' s' => (by
  cases c with
  | true => exact q H' s'
  | false => exact h2 rfl H' s' Qb fun H2 s2 => q H2 (s'.trans s2))
theorem tsg_not (h : TsG s σ H c) : TsG (tNot s) σ H (!c) := fun Qb q => h _ q
end
/-- an if without else whose end is told once -/
theorem ifN {c : Bool} {A : Prop} {D : Ends} {σ : L2.St} {H1 : Hp} (R : Hp → Prop) (hr : ∀ H2, R H2 → D.nx σ H2) (h1 : (∀ H2, R H2 → D.nx σ H2) → c = true → A) (h2 : c = false → R H1) : if c = true then A else tNext D σ H1 := by
  cases c with
  | true => exact h1 hr rfl
  | false => exact hr _ (h2 rfl)
theorem ifN2 {c : Bool} {A : Prop} {D : Ends} {σ : L2.St} {H1 : Hp} (R : L2.St → Hp → Prop) (hr : ∀ σ2 H2, R σ2 H2 → D.nx σ2 H2) (h1 : (∀ σ2 H2, R σ2 H2 → D.nx σ2 H2) → c = true → A) (h2 : c = false → R σ H1) : if c = true then A else tNext D σ H1 := by
  cases c with
  | true => exact h1 hr rfl
  | false => exact hr _ _ (h2 rfl)
theorem min_if {i j : Int} : (if j < i then j else i) = min i j := by
  by_cases h : j < i
  · rw [if_pos h]; omega
  · rw [if_neg h]; omega
theorem max_if {i j : Int} : (if j > i then j else i) = max i j := by
  by_cases h : j > i
  · rw [if_pos h]; omega
  · rw [if_neg h]; omega
section
variable {C : Addr} {B : K95.Br} {H H' H1 : Hp} {o : Ob} {s s0 : K95.Cl} {S : Addr} {l l' : List V} {u : HO}
theorem ClAt.side (c : ClAt C B H' o s) (h : H' S = some (.lst l)) (n1 : S ≠ o.al) (n2 : S ≠ o.ae) : ClAt C B (upd H' S (.lst l')) o s := by
  obtain ⟨vs, h1, h2⟩ := c.ln
  have t : Tps H' (upd H' S (.lst l')) := tps_lst h
  refine ⟨?_, c.ts.tps t, ?_, ⟨vs, ?_, paired_imp (fun _ _ q => q.tps t) h2⟩, ?_, ?_, c.n1, c.n2⟩
  · rw [upd_ne (ne_of c.ob h (fun z => by cases z))]; exact c.ob
  · rw [upd_ne n2.symm]; exact c.ev
  · rw [upd_ne n1.symm]; exact h1
  · rw [upd_ne (ne_of c.mo h (fun z => by cases z))]; exact c.mo
  · rw [upd_ne (ne_of c.wa h (fun z => by cases z))]; exact c.wa
theorem Keep.side (k : Keep o H H') (n : H S = none) : Keep o H (upd H' S u) := fun b v h i j => by
  rw [upd_ne (ne_of_none h n)]
  exact k b v h i j
theorem ClAt.newL (c : ClAt C B H o s) (n : H S = none) : S ≠ o.al ∧ S ≠ o.ae := ⟨(c.apart n).1.2, (ne_of_none c.ev n).symm⟩
end
/-! ### methods -/
structure MAt (K : PySem.W.Frag) (C : Addr) (m x : Str) (st : Stmt) (ps : List Str) (f : Addr) (fd : FuncData) : Prop where
  fn : Fun K m x st f fd
  me : Meth K C m f
  bi : Binds K fd ps []
structure MDef (P : Program) (w : World) (K : PySem.W.Frag) (mg : Str → Option Value) (base : Heap) (C : Addr) (m : Str) (k : Nat) (ps : List Str) (sp : Sp) : Prop where
  ex : ∃ f fd, FnOk P w K mg base CX0 k f fd ps sp ∧ Meth K C m f ∧ Binds K fd ps []
section
variable {P : Program} {w : World} {K : PySem.W.Frag} {mg : Str → Option Value} {base : Heap} {C : Addr} {m x : Str} {k : Nat} {ps : List Str} {sp : Sp}
theorem MDef.mono (D : MDef P w K mg base C m k ps sp) {j : Nat} (h : k ≤ j) : MDef P w K mg base C m j ps sp := by
  obtain ⟨f, fd, F, a, b⟩ := D.ex
  exact ⟨f, fd, F.mono h, a, b⟩
theorem MAt.ok {st : Stmt} {N : List Str} {f : Addr} {fd : FuncData} (A : MAt K C m x st ps f fd) (S : FnScope N ps (defScope st))
    (len : ∀ vs H Q E, sp vs H Q E → vs.length = ps.length)
    (hbody : ∀ (cdv : Value) (A : Around) (outer : List Env) (s : Shared) (H : Hp) (vs : List V) (Q : VK) (E : XK), Room k (A.deeper (envOfC x (defScope st) s.heap.objs.size f cdv)) → sp vs H Q E →
      ∃ t, PSs (cxOf CX0 P w K mg base N x (defScope st) f cdv A outer s H E).nox (defBody st) t ∧ t { nx := fun _ H' => Q .non H', rt := Q } (L2.start N vs) H) : MDef P w K mg base C m (k + 1) ps sp := ⟨f, fd, A.fn.ok S len hbody, A.me, A.bi⟩
end
theorem pe_m {X : Cx} {C : Addr} {m : Str} {k : Nat} {ps : List Str} {sp : Sp} {pos apos : Pos} {e o : Expr} {es : List Expr} {ta : TE} {t : TA} {pl : Sem Bool} (D : MDef X.prog X.w X.K X.mg X.base C m k ps sp) (T : ClT X.K C) (hr : Room k X.A) (he : PE X o ta) (ha : PA X (e :: es) t)
    (hst : starEach (e :: es) X.env = (false, eval e X.env) :: starEach es X.env := by rfl) (hpl : (backTo pos (starEach es X.env)).any (·.1) = false := by rfl)
    (ht : eval (.Call (.Attribute o m apos) (e :: es) [] pos) X.env = (do
      let ov ← eval o X.env
      standAt apos.atName
      let (f, first) ← holding [ov] (getMethod ov m pl)
      callWith pos f first (backTo pos (starEach (e :: es) X.env)) (backToKw pos (keywordEach [] X.env))) := by rfl) :
    PE X (.Call (.Attribute o m apos) (e :: es) [] pos) (tMeth C m sp [] E0 ta t) := by
  obtain ⟨f, fd, F, a, b⟩ := D.ex
  exact pe_meth he T.cl a F hr b .nil pass0 ha hst hpl ht
theorem pe_m0 {X : Cx} {C : Addr} {m : Str} {k : Nat} {ps : List Str} {sp : Sp} {pos apos : Pos} {o : Expr} {ta : TE} {pl : Sem Bool} (D : MDef X.prog X.w X.K X.mg X.base C m k ps sp) (T : ClT X.K C) (hr : Room k X.A) (he : PE X o ta)
    (ht : eval (.Call (.Attribute o m apos) [] [] pos) X.env = (do
      let ov ← eval o X.env
      standAt apos.atName
      let (f, first) ← holding [ov] (getMethod ov m pl)
      callWith pos f first (backTo pos (starEach [] X.env)) (backToKw pos (keywordEach [] X.env))) := by rfl) :
    PE X (.Call (.Attribute o m apos) [] [] pos) (tMeth C m sp [] E0 ta tNil) := by
  obtain ⟨f, fd, F, a, b⟩ := D.ex
  exact pe_meth0 he T.cl a F hr b .nil pass0 ht
/-- C(..): the class's making -/
theorem pe_mk {X : Cx} {C : Addr} {k : Nat} {x : Str} {ps : List Str} {sp : Sp} {pos p : Pos} {e : Expr} {es : List Expr} {t : TA} (D : MDef X.prog X.w X.K X.mg X.base C "__init__" k ps sp) (T : ClT X.K C) (mk : PySem.W.makesIn X.K C = true ∧ PySem.W.keepIn X.K (.ref C) = true) (hr : Room (k + 1) X.A) (hg : Gl X x) (hm : X.mg x = some (.ref C)) (ha : PA X (e :: es) t)
    (hdb : (x == ("__debug__" : Str)) = false := by decide) (hst : starEach (e :: es) X.env = (false, eval e X.env) :: starEach es X.env := by rfl) (hpl : (backTo pos (starEach es X.env)).any (·.1) = false := by rfl) : PE X (.Call (.Name x p) (e :: es) [] pos) (tMake C sp [] E0 t) := by
  obtain ⟨f, fd, F, a, b⟩ := D.ex
  exact pe_make ⟨mk.1, a.at_, a.fn, mk.2⟩ F hr hg hm b .nil pass0 ha hdb hst hpl
/-- all but x is as it was -/
def Off (x : Addr) (H H' : Hp) : Prop := ∀ b u, H b = some u → b ≠ x → H' b = some u
section
variable {H H1 H2 : Hp} {x p : Addr} {u ho hx : HO}
theorem Off.trans (a : Off x H H1) (b : Off x H1 H2) : Off x H H2 := fun c u h n => b c u (a c u h n) n
theorem off_set : Off x H (upd H x u) := fun b v h n => by rw [upd_ne n]; exact h
theorem off_new (n : H p = none) : Off x H (upd (upd H p ho) x u) := fun b v h ne => by
  rw [upd_ne ne, upd_ne (ne_of_none h n)]
  exact h
theorem Off.tps (a : Off x H H1) (h : ∀ xs, H x ≠ some (.tup xs)) : Tps H H1 := fun b xs e => a b _ e fun z => h xs (by rw [← z]; exact e)
theorem Off.free (a : Off x H H1) (h : H1 x = some hx) (n : H1 p = none) : H p = none := by
  cases e : H p with
  | none => rfl
  | some v =>
    have := a p v e (ne_of_none h n).symm
    rw [n] at this
    cases this
theorem rg_ints (n : Nat) : rgV 0 (n : Int) = (K95.itsL n).map V.int := by
  unfold rgV K95.itsL
  rw [List.map_map, show ((n : Int) - 0).toNat = n by omega]
  apply List.map_congr_left
  intro i _
  show V.int (0 + (i : Int)) = V.int (i : Int)
  rw [Int.zero_add]
end
/-- the promise of a method that works on the closing -/
def spM (C : Addr) (L : Nat) (F : K95.Br → List V → Hp → K95.Cl → K95.Cl × Bool → Prop) : Sp := fun vs H Q _ => ∃ o B s us p, vs = .ref o.x :: us ∧ ClAt C B H o s ∧ B.WF ∧ K95.Good B s ∧ s.lines.length ≤ L ∧ F B us H s p ∧ ∀ H', ClAt C B H' o p.1 → Keep o H H' → Q (.bl p.2) H'
def fOffM : K95.Br → List V → Hp → K95.Cl → K95.Cl × Bool → Prop := fun _ us H s p => ∃ a b w r rv, us = [.int a, .int b, .int w, rv] ∧ Tu H rv (rsV r) ∧ p = K95.offM s a b w r
def fOffW : K95.Br → List V → Hp → K95.Cl → K95.Cl × Bool → Prop := fun _ us H s p => ∃ a b w r rv, us = [.int a, .int b, .int w, rv] ∧ Tu H rv (rsV r) ∧ p = K95.offW s a b w r
def fAdd : K95.Br → List V → Hp → K95.Cl → K95.Cl × Bool → Prop := fun _ us _ s p => ∃ a b c, us = [.int a, .int b, .int c] ∧ p = K95.addUp s a b c
def fUM : K95.Br → List V → Hp → K95.Cl → K95.Cl × Bool → Prop := fun B us _ s p => ∃ a b, us = [.int a, .int b] ∧ (K95.look s.mosts (a, b)).isSome = true ∧ p = K95.useMost B s a b
def fUW : K95.Br → List V → Hp → K95.Cl → K95.Cl × Bool → Prop := fun B us _ s p => ∃ a b, us = [.int a, .int b] ∧ (K95.look s.waits (a, b)).isSome = true ∧ p = K95.useWait B s a b
def fRound : K95.Br → List V → Hp → K95.Cl → K95.Cl × Bool → Prop := fun B us _ s p => us = [] ∧ p = K95.round B s
theorem get_map {α β : Type} {g : α → β} {l : List α} {n : Nat} {v : β} (h : (l.map g)[n]? = some v) : ∃ x, l[n]? = some x ∧ v = g x := by
  rw [List.getElem?_map] at h
  cases e : l[n]? with
  | none => rw [e] at h; cases h
  | some z => rw [e] at h; exact ⟨z, rfl, (Option.some.inj h).symm⟩
end Wk
namespace Wk
open PySem PySem.Spec PyProof.Rows L2
/-! ### a dict comprehension with two fors (no tests), its keys tuples -/
section
variable {prog : Program} {w : World} {A : Around} {R : Result → Shared → Prop} {s : Shared} {kx vx ga ia gb ib : Expr} {sc : Scope} {po : Pos} {it acc : Value} {D : Addr} {en : Env}
abbrev dc2 (kx vx ga ia gb ib : Expr) (sc : Scope) (po : Pos) : Expr := .DictComp kx vx [⟨ga, ia, [], 0⟩, ⟨gb, ib, [], 0⟩] sc po
theorem dc2_out : compTurn (dc2 kx vx ga ia gb ib sc po) 0 it acc en = (standAt ia.pos >>= fun _ => pyNext it >>= fun r => match r with
    | none => pure (.done .next)
    | some v => letOwnedTupleGo ga it v >>= fun _ => assign ga en v >>= fun _ => eval ib en >>= fun x => standAt ib.pos >>= fun _ => foldedSetIterable ib en x >>= fun y =>
        holding [y] (pyIter y) >>= fun z => runOwn (.compStart (dc2 kx vx ga ia gb ib sc po) 1 z acc en) en >>= fun _ => again (.compLoop (dc2 kx vx ga ia gb ib sc po) 0 it acc en)) := by rfl
theorem dc2_in : compTurn (dc2 kx vx ga ia gb ib sc po) 1 it (.ref D) en = (standAt ib.pos >>= fun _ => pyNext it >>= fun r => match r with
    | none => pure (.done .next)
    | some v => letOwnedTupleGo gb it v >>= fun _ => assign gb en v >>= fun _ => (eval kx en >>= fun k => holding [k] (eval vx en) >>= fun u => standAt { kx.pos with endLine := vx.pos.endLine, endCol := vx.pos.endCol } >>= fun _ =>
        holding [k, u] (dictSet D k u)) >>= fun _ => again (.compLoop (dc2 kx vx ga ia gb ib sc po) 1 it (.ref D) en)) := by rfl
/-- what a code that raises has noted -/
abbrev NE (prog : Program) (w : World) (A : Around) (en : Env) (R : Result → Shared → Prop) : Value → Shared → Prop := notedBy (model prog w) A en fun e z => R (.error e) z
theorem dc2_loop_out (hs : ∀ x, foldedSetIterable ib en x = pure x) (J : Nat → Shared → Prop) (turn : ∀ n z, J n z → wpAny (model prog w) A (pyNext it) (fun r z1 => match r with
      | none => R (.ok .next) z1
      | some v => wpAny (model prog w) A (letOwnedTupleGo ga it v) (fun _ z2 => wpAny (model prog w) A (assign ga en v) (fun _ z3 => wpAny (model prog w) A (eval ib en) (fun x z4 => wpAny (model prog w) A (pyIter x) (fun jt z5 =>
          codeAny (model prog w) A (.compStart (dc2 kx vx ga ia gb ib sc po) 1 jt acc en) (fun r z6 => match r with
            | .ok _ => ∃ m, m < n ∧ J m z6
            | .error _ => False) z5) (NE prog w A en R) z4) (NE prog w A en R) z3) (NE prog w A en R) z2) (NE prog w A en R) z1) (NE prog w A en R) z) (n : Nat) (h : J n s) :
    codeAny (model prog w) A (.compLoop (dc2 kx vx ga ia gb ib sc po) 0 it acc en) R s := by
  refine codeAny_loop rfl J (fun n z hz => ?_) n h
  show wpAny _ A ((compTurn (dc2 kx vx ga ia gb ib sc po) 0 it acc en).onRaise fun x => do noteFrame x en; theTreesLotGoes x) _ _ z
  refine wpAny_noted (by
    rw [dc2_out]
    refine wpAny_bind (wpAny_standAt (wpAny_bind (wpAny_mono (turn n z hz) (fun r z1 k1 => ?_) fun _ _ k => k)))
    cases r with
    | none => exact wpAny_pure k1
    | some v => exact wpAny_bind (wpAny_mono k1 (fun _ z2 k2 => wpAny_bind (wpAny_mono k2 (fun _ z3 k3 => wpAny_bind (wpAny_mono k3 (fun x z4 k4 => wpAny_bind (wpAny_standAt (wpAny_bind (wpAny_of_eq (hs x) (wpAny_bind (wpAny_holding (wpAny_mono k4 (fun jt z5 k5 => wpAny_bind (wpAny_runOwn (by
        rw [Around.mark_none]
        refine codeAny_mono k5 fun r z6 k6 => ?_
        cases r with
        | ok f => exact wpAny_pure ⟨rfl, k6⟩
        | error e => exact k6.elim))) fun _ _ k => k))))))) fun _ _ k => k)) fun _ _ k => k)) fun _ _ k => k))
theorem dc2_loop_in (J : Nat → Shared → Prop) (turn : ∀ n z, J n z → wpAny (model prog w) A (pyNext it) (fun r z1 => match r with
      | none => R (.ok .next) z1
      | some v => wpAny (model prog w) A (letOwnedTupleGo gb it v) (fun _ z2 => wpAny (model prog w) A (assign gb en v) (fun _ z3 => wpAny (model prog w) A (eval kx en) (fun k z4 => wpAny (model prog w) A (eval vx en) (fun u z5 =>
          wpAny (model prog w) A (dictSet D k u) (fun _ z6 => ∃ m, m < n ∧ J m z6) (NE prog w A en R) z5) (NE prog w A en R) z4) (NE prog w A en R) z3) (NE prog w A en R) z2) (NE prog w A en R) z1) (NE prog w A en R) z) (n : Nat) (h : J n s) :
    codeAny (model prog w) A (.compLoop (dc2 kx vx ga ia gb ib sc po) 1 it (.ref D) en) R s := by
  refine codeAny_loop rfl J (fun n z hz => ?_) n h
  show wpAny _ A ((compTurn (dc2 kx vx ga ia gb ib sc po) 1 it (.ref D) en).onRaise fun x => do noteFrame x en; theTreesLotGoes x) _ _ z
  refine wpAny_noted (by
    rw [dc2_in]
    refine wpAny_bind (wpAny_standAt (wpAny_bind (wpAny_mono (turn n z hz) (fun r z1 k1 => ?_) fun _ _ k => k)))
    cases r with
    | none => exact wpAny_pure k1
    | some v => exact wpAny_bind (wpAny_mono k1 (fun _ z2 k2 => wpAny_bind (wpAny_mono k2 (fun _ z3 k3 => wpAny_bind (wpAny_bind (wpAny_mono k3 (fun k z4 k4 => wpAny_bind (wpAny_holding (wpAny_mono k4 (fun u z5 k5 => wpAny_bind (wpAny_standAt (wpAny_holding (wpAny_mono k5 (fun _ z6 k6 => wpAny_pure ⟨rfl, k6⟩) fun _ _ k => k)))) fun _ _ k => k))) fun _ _ k => k))) fun _ _ k => k)) fun _ _ k => k))
theorem dc2_start (h0 : codeAny (model prog w) A (.compLoop (dc2 kx vx ga ia gb ib sc po) 1 it acc en) R s)
    (h : wpAny (model prog w) A (pyIter it) (fun jt z => codeAny (model prog w) A (.compLoop (dc2 kx vx ga ia gb ib sc po) 1 jt acc en) R z) (NE prog w A en R) s) : codeAny (model prog w) A (.compStart (dc2 kx vx ga ia gb ib sc po) 1 it acc en) R s := by
  refine codeAny_of_tree ?_
  show wpAny _ _ ((compStart (dc2 kx vx ga ia gb ib sc po) 1 it acc en).onRaise fun x => do noteFrame x en; standAt theWindowsPlace) _ _ s
  refine wpAny_notedAt (by
    unfold compStart
    show wpAny _ _ (ask >>= _) _ _ s
    refine wpAny_bind (wpAny_askSetting (wpAny_ite (by
      split
      · first
          | exact wpAny_bind (wpAny_pure (wpAny_pure (And.intro rfl h0)))
          | exact wpAny_pure (And.intro rfl h0)
      · first
          | exact wpAny_bind (wpAny_rule (wpAny_bind (wpAny_standAt (wpAny_bind (wpAny_mono h (fun _ _ k => wpAny_pure (And.intro rfl k)) fun _ _ k => k)))))
          | (refine wpAny_bind (wpAny_rule ?_); show wpAny _ _ (standAt ib.pos >>= _) _ _ s; exact wpAny_bind (wpAny_standAt (wpAny_bind (wpAny_mono h (fun _ _ k => wpAny_pure (And.intro rfl k)) fun _ _ k => k))))))))
end
/-- d[k] = v by a comprehension, the key a tuple -/
theorem dt_set {X : Cx} {pins : List (Addr × Obj)} {σ : L2.St} {H : Hp} {s : Shared} {E : Value → Shared → Prop} {D b : Addr} {kvs : List (List Key × V)} {k : List Key} {v : V} {r : Value} {Q : Unit → Shared → Prop} (hu : X.A.units + 1 < cLine) (I : Inv X pins σ H s) (hD : H D = some (.dT kvs))
    (hb : H b = some (.tup (k.map kV))) (hz : kvs.length < sizeLine) (rv : RelV v r) (h : ∀ z, Inv X pins σ (upd H D (.dT (putK kvs k v))) z → Q () z) : wpAny (model X.prog X.w) X.A (dictSet D (.ref b) r) Q E s := by
  obtain ⟨hl, hd, xs, rel, dd⟩ := dt_of I.hok hD
  have l1 : xs.length ≤ sizeLine := by rw [← Paired.length rel]; exact hl
  have l2 : (putK kvs k v).length ≤ sizeLine := Nat.le_trans (length_putK kvs k v) hz
  refine wpAny_dictSet_heap (hsz := l1) (show (tupleKind _).room X.A by show X.A.units < cLine; omega) (key_of I.hok hb) dd fun h' dd' hs => h _ (by
    obtain ⟨q, es, ep, e1, e2, e3, e4, _, e5⟩ := dd'
    refine d_write I (by rw [hD]; exact True.intro) hs ⟨q, e1⟩ ⟨l2, hd, _, (rel.put k hb rv).keeps fun c ys ec => ?_, q, es, ep, e1, e2, e3, e4, e5⟩
    rw [upd_ne (ne_of ec hD fun z => nomatch z)]
    exact ec)
/-- {k: v for target in iter for target1 in iter1}, the keys tuples: D the new dict -/
def tDc2 (wi : TI) (g : TG) (wj : TI) (g1 : TG) (tk tv : TE) (vs vs1 : List Nat) : TE := fun σ H Q => wi σ H fun J H1 => ∀ D, H1 D = none → ∃ W : Nat → Nat → Hp → Prop, (∃ m, W 0 m (upd H1 D (.dT []))) ∧ ∀ i m H, W i m H →
  (J.stop i H ∧ Q (.ref D) H) ∨ (J.go i H ∧ ∃ N : Hp → Prop, (∀ H', N H' → ∃ m', m' < m ∧ W (i + 1) m' H') ∧ ∀ x H', J.yld i H x H' → g x (wipe σ vs) H' fun σ2 H2 => wipe σ2 vs = wipe σ vs ∧ wj σ2 H2 fun J1 H4 =>
    ∃ U : Nat → Nat → Hp → Prop, (∃ m, U 0 m H4) ∧ ∀ j k H, U j k H → (J1.stop j H ∧ N H) ∨ (J1.go j H ∧ ∃ N1 : Hp → Prop, (∀ H', N1 H' → ∃ k', k' < k ∧ U (j + 1) k' H') ∧ ∀ x H', J1.yld j H x H' → g1 x (wipe σ2 vs1) H' fun σ3 H5 => wipe σ3 vs1 = wipe σ2 vs1 ∧
      tk σ3 H5 fun y H6 => tv σ3 H6 fun z H7 => ∃ kvs k b, y = .ref b ∧ H7 b = some (.tup (List.map kV k)) ∧ H7 D = some (.dT kvs) ∧ kvs.length < sizeLine ∧ N1 (upd H7 D (.dT (putK kvs k z)))))
theorem dc2_core {X : Cx} {kx vx ga ia gb ib : Expr} {sc : Scope} {own : List (Str × Nat)} {vs1 : List Nat} {po po' : Pos} {wi wj : TI} {g g1 : TG} {tk tv : TE} {pins : List (Addr × Obj)} {s : Shared} {σ : L2.St} {H : Hp} {Q : VK} {use : Option (Value → Sem Unit)} {Qf : Value → Shared → Prop} (I : Inv X pins σ H s)
    (hc : X.calm = true) (hu : X.A.units + 1 < cLine) (nd : X.N.Nodup) (hi : PI X ga ia wi) (ok : BlkOk X.N X.env.scope sc own) (hv : ∀ i ∈ vs1, i ∈ own.map (·.2))
    (hg : ∀ (z : Shared) (H : Hp) (L : Addr) (cl : List (Str × Addr)) (fp : List Addr), PG (X.blk z H sc (compEnvC sc cl L X.env) fp) ga g) (hj : ∀ (z : Shared) (H : Hp) (L : Addr) (cl : List (Str × Addr)) (fp : List Addr), PI (X.blk z H sc (compEnvC sc cl L X.env) fp) gb ib wj) (hg1 : ∀ (z : Shared) (H : Hp) (L : Addr) (cl : List (Str × Addr)) (fp : List Addr), PG (X.blk z H sc (compEnvC sc cl L X.env) fp) gb g1) (hk : ∀ (z : Shared) (H : Hp) (L : Addr) (cl : List (Str × Addr)) (fp : List Addr), PE (X.blk z H sc (compEnvC sc cl L X.env) fp) kx tk) (he : ∀ (z : Shared) (H : Hp) (L : Addr) (cl : List (Str × Addr)) (fp : List Addr), PE (X.blk z H sc (compEnvC sc cl L X.env) fp) vx tv)
    (fa : ∀ x, foldedSetIterable ia X.env x = pure x) (fb : ∀ en x, foldedSetIterable ib en x = pure x) (h : tDc2 wi g wj g1 tk tv (own.map (·.2)) vs1 σ H Q)
    (back : ∀ L C z m H', Inv X pins σ H' z → Q (.ref L) H' → z.heap.Ns C m → FpOk X pins H' C → compPost (model X.prog X.w) X.A X.xe use Qf (.ref L) C (.ok .next) z) :
    wpAny (model X.prog X.w) X.A (comprehension (dc2 kx vx ga ia gb ib sc po) sc X.env po' newDict false (eval ia X.env) use) Qf X.xe s := by
  have free : ∀ y ∈ sc.names, y.2 = .free → ∃ c, X.env.cells.lookup y.1 = some c := fun y hy e => (ok.free y hy e).elim (fun k => I.ok.has _ (.inl k)) fun k => I.ok.has _ (.inr k)
  refine wpAny_comprehension_free (use := use) rfl fa (closure_ok free) ok.kind (fun y hy e => by rw [ok.uniq y hy, e]) (thn (hi.run pins s σ H _ I h) fun _ z1 q1 => thn q1 fun _ z2 q2 => ?_)
  obtain ⟨it, fp, tn, J, H2, rfl, I2, T, t2, f2, q⟩ := q2
  refine wpAny_newObj_type (newEnv_comp ?_)
  generalize eD : z2.heap.objs.size = D
  have nD : H2 D = none := I2.hok.fresh (Nat.le_of_eq eD)
  obtain ⟨W, ⟨m0, w0⟩, turn⟩ := q D nD
  generalize e3 : ({ z2 with heap := z2.heap.push { cls := .type "dict", data := .dict #[] } } : Shared) = z3
  have I3 : Inv X pins σ (upd H2 D (.dT [])) z3 := by
    rw [← e3]
    refine I2.laid (t' := z2.toks) (fun _ _ e => Heap.get?_push_of_some _ e) (Nat.le_of_eq eD) (by rw [← eD]; exact dt_empty z2.heap I2.big)
  have p3 : z3.heap = z2.heap.push { cls := .type "dict", data := .dict #[] } := by rw [← e3]
  have f3 : ∀ b ∈ fp, FpOk X pins (upd H2 D (.dT [])) b ∧ b < z3.heap.objs.size := fun b hb => by
    obtain ⟨_, eb, _⟩ := T.obj _ _ t2 b hb
    have lt := Heap.lt_size eb
    refine ⟨⟨?_, (f2 b hb).2⟩, by rw [p3, Heap.size_push]; exact Nat.lt_succ_of_lt lt⟩
    rw [upd_ne (fun e => Nat.ne_of_lt lt (e.trans eD.symm))]
    exact (f2 b hb).1
  have t3 : tn 0 z3.heap := T.keep _ _ _ t2 fun _ _ _ e => by rw [p3]; exact Heap.get?_push_of_some _ e
  have I4 := block_start I3 ok nd f3
  have pg := hg z3 (upd H2 D (.dT [])) z3.heap.objs.size (cellsFrom (z3.heap.objs.size + 1) sc.names (cloFrom X.env.cells sc.names [])) fp
  have pj := hj z3 (upd H2 D (.dT [])) z3.heap.objs.size (cellsFrom (z3.heap.objs.size + 1) sc.names (cloFrom X.env.cells sc.names [])) fp
  have pg1 := hg1 z3 (upd H2 D (.dT [])) z3.heap.objs.size (cellsFrom (z3.heap.objs.size + 1) sc.names (cloFrom X.env.cells sc.names [])) fp
  have pk := hk z3 (upd H2 D (.dT [])) z3.heap.objs.size (cellsFrom (z3.heap.objs.size + 1) sc.names (cloFrom X.env.cells sc.names [])) fp
  have pe := he z3 (upd H2 D (.dT [])) z3.heap.objs.size (cellsFrom (z3.heap.objs.size + 1) sc.names (cloFrom X.env.cells sc.names [])) fp
  show codeAny _ _ (.compStart (dc2 kx vx ga ia gb ib sc po) 0 (.ref it) (.ref D) (compEnvC sc (cellsFrom (z3.heap.objs.size + 1) sc.names (cloFrom X.env.cells sc.names [])) z3.heap.objs.size X.env)) (compPost (model X.prog X.w) X.A X.xe use Qf (.ref D) z3.heap.objs.size) { z3 with heap := pushCells (z3.heap.push { cls := .type "dict", data := .dict #[] }) sc.names }
  have nf : ∀ b ∈ fp, (upd H2 D (.dT [])) b = none := fun b hb => (f3 b hb).1.1
  generalize ee : compEnvC sc (cellsFrom (z3.heap.objs.size + 1) sc.names (cloFrom X.env.cells sc.names [])) z3.heap.objs.size X.env = en at I4 pg pj pg1 pk pe ⊢
  have eL : en.locals = z3.heap.objs.size := by rw [← ee]; rfl
  generalize upd H2 D (.dT []) = H3 at I3 I4 pg pj pg1 pk pe w0 nf f3
  generalize e4 : ({ z3 with heap := pushCells (z3.heap.push { cls := .type "dict", data := .dict #[] }) sc.names } : Shared) = z4 at I4 ⊢
  have t4 : tn 0 z4.heap := T.keep _ _ _ t3 fun _ _ _ e => by rw [← e4]; exact pushCells_keeps _ _ _ _ (Heap.get?_push_of_some _ e)
  have stat : ∀ {σ' : L2.St} {H' : Hp} {z : Shared}, Inv (X.blk z3 H3 sc en fp) [] σ' H' z → (∀ b ∈ fp, H' b = none) → ∀ b ∈ fp, FpOk (X.blk z3 H3 sc en fp) [] H' b := fun {σ' H' z} Iz hn b hb =>
    ⟨hn b hb, (Iz.ok.exf b hb).1, Iz.ok.exfs b hb, .inl hb, fun x c e => (Iz.ok.exf b hb).2 x c e, fun p hp => absurd (show p ∈ ([] : List (Addr × Obj)) ++ [] from hp) (by simp)⟩
  have loop : codeAny (model X.prog X.w) X.A (.compLoop (dc2 kx vx ga ia gb ib sc po) 0 (.ref it) (.ref D) en) (compPost (model X.prog X.w) X.A X.xe use Qf (.ref D) z3.heap.objs.size) z4 := by
    refine dc2_loop_out (fb en) (fun n z => ∃ i H', Inv (X.blk z3 H3 sc en fp) [] (wipe σ (own.map (·.2))) H' z ∧ tn i z.heap ∧ (∀ b ∈ fp, H' b = none) ∧ W i n H') ?_ m0 ⟨0, H3, I4, t4, nf, w0⟩
    rintro n z5 ⟨i, H5, I5, t5, n5, w5⟩
    rcases turn i n H5 w5 with ⟨stop, qq⟩ | ⟨go, N, hN, step⟩
    · refine thnF (T.done (X.blk z3 H3 sc en fp) rfl rfl rfl hc i [] z5 _ H5 (fun _ _ => False) I5 (stat I5 n5) t5 stop) fun r z6 ⟨er, I6⟩ => ?_
      subst er
      have I7 : Inv X pins σ H5 z6 := I3.call' (ch := fp) I6.os I6.base I6.hok I6.bare fun b hb => let y := (f3 b hb).1.2; ⟨y.2.2.1, y.1, y.2.2.2.1, y.2.2.2.2⟩
      have nL : H5 z3.heap.objs.size = none := by
        have y : H5 en.locals = none := I6.free
        rwa [eL] at y
      obtain ⟨m, hm, _⟩ := I6.loc
      have hm : z6.heap.Ns en.locals m := hm
      rw [eL] at hm
      exact back D z3.heap.objs.size z6 m H5 I7 qq hm (I3.fpOk (Nat.le_refl _) nL)
    · refine thnF (T.item (X.blk z3 H3 sc en fp) rfl rfl rfl hc i [] z5 _ H5 (fun _ _ => False) I5 (stat I5 n5) t5 go) fun r z6 ⟨u, er, h6⟩ => ?_
      subst er
      refine thnF h6 fun _ z7 ⟨x, H7, I7, r7, y7, t7, n7⟩ => ?_
      refine thnF (pg.run _ z7 _ H7 x u _ (I7.pinned (stat I7 n7) (T.obj _ _ t7)) r7 (step x H7 y7)) fun _ z8 ⟨σ8, H8, I8, e8, q8⟩ => ?_
      have fin : ∀ {σ9 : L2.St} {z : Shared} {H' : Hp}, Inv (X.blk z3 H3 sc en fp) ([] ++ pinsAt fp z7.heap) σ9 H' z → (wipe σ (own.map (·.2))).length = σ9.length → (∀ (j : Nat) v, (wipe σ (own.map (·.2)))[j]? = some (some v) → σ9[j]? = some (some v)) → N H' →
          ∃ m, m < n ∧ ∃ i H', Inv (X.blk z3 H3 sc en fp) [] (wipe σ (own.map (·.2))) H' z ∧ tn i z.heap ∧ (∀ b ∈ fp, H' b = none) ∧ W i m H' := fun {σ9 z H'} Iz hl hw nx => by
        obtain ⟨m', hm, w'⟩ := hN H' nx
        have stay : ∀ b ∈ fp, ∀ o, z7.heap.get? b = some o → z.heap.get? b = some o ∧ H' b = none := fun b hb o e =>
          let y := Iz.pin (b, o) (List.mem_append_right _ (List.mem_append_right _ (mem_pinsAt hb e))); ⟨y.1, y.2.1⟩
        refine ⟨m', hm, i + 1, H', (Iz.unpinned (pins := [])).weak hl hw, T.keep _ _ _ t7 fun b hb o e => (stay b hb o e).1, fun b hb => ?_, w'⟩
        obtain ⟨o, e, _⟩ := T.obj _ _ t7 b hb
        exact (stay b hb o e).2
      have l8 : (wipe σ (own.map (·.2))).length = σ8.length := by rw [← e8, wipe_length]
      have k9 : ∀ (j : Nat) v, (wipe σ (own.map (·.2)))[j]? = some (some v) → (wipe σ8 vs1)[j]? = some (some v) := fun j v e => by
        rw [← e8] at e
        obtain ⟨a, c⟩ := wipe_some e
        rw [wipe_out fun y => c (hv j y)]
        exact a
      refine thnF (pj.run _ z8 σ8 H8 _ I8 q8) fun _ z9 q9 => thnF q9 fun _ za qa => ?_
      obtain ⟨jt, fq, tm, J1, Ha, rfl, Ia, T1, ta, fa', U, ⟨m1, u1⟩, turn1⟩ := qa
      have stat1 : ∀ {H' : Hp}, (∀ b ∈ fq, H' b = none) → ∀ b ∈ fq, FpOk (X.blk z3 H3 sc en fp) ([] ++ pinsAt fp z7.heap) H' b := fun hn b hb => ⟨hn b hb, (fa' b hb).2⟩
      have loop1 : codeAny (model X.prog X.w) X.A (.compLoop (dc2 kx vx ga ia gb ib sc po) 1 (.ref jt) (.ref D) en) (fun r z => match r with
            | .ok _ => ∃ m, m < n ∧ ∃ i H', Inv (X.blk z3 H3 sc en fp) [] (wipe σ (own.map (·.2))) H' z ∧ tn i z.heap ∧ (∀ b ∈ fp, H' b = none) ∧ W i m H'
            | .error _ => False) za := by
        refine dc2_loop_in (fun k z => ∃ j H', Inv (X.blk z3 H3 sc en fp) ([] ++ pinsAt fp z7.heap) (wipe σ8 vs1) H' z ∧ tm j z.heap ∧ (∀ b ∈ fq, H' b = none) ∧ U j k H') ?_ m1 ⟨0, Ha, Ia.weak (wipe_length _ _) (fun j v e => (wipe_some e).1), ta, fun b hb => (fa' b hb).1, u1⟩
        rintro k zb ⟨j, Hb, Ib, tb, nb, ub⟩
        rcases turn1 j k Hb ub with ⟨stop1, nx1⟩ | ⟨go1, N1, hN1, step1⟩
        · refine thnF (T1.done (X.blk z3 H3 sc en fp) rfl rfl rfl hc j _ zb (wipe σ8 vs1) Hb (fun _ _ => False) Ib (stat1 nb) tb stop1) fun r zc ⟨er, Ic⟩ => ?_
          subst er
          exact fin Ic (l8.trans (wipe_length σ8 vs1).symm) k9 nx1
        · refine thnF (T1.item (X.blk z3 H3 sc en fp) rfl rfl rfl hc j _ zb (wipe σ8 vs1) Hb (fun _ _ => False) Ib (stat1 nb) tb go1) fun r zc ⟨v1, er, hc1⟩ => ?_
          subst er
          refine thnF hc1 fun _ zd ⟨x1, Hd, Id, rd, yd, td, nd1⟩ => ?_
          refine thnF (pg1.run _ zd (wipe σ8 vs1) Hd x1 v1 _ (Id.pinned (stat1 nd1) (T1.obj _ _ td)) rd (step1 x1 Hd yd)) fun _ ze ⟨σe, He, Ie, ew, qe⟩ => ?_
          refine thnF (pk.run _ ze σe He _ Ie qe) fun kv zf ⟨yk, Hf, If, rf, qf⟩ => thnF (pe.run _ zf σe Hf _ If qf) fun vv zg ⟨yv, Hg, Ig, rg, kvs, kk, b, ek, hb, hD, hz, nx⟩ => ?_
          subst ek
          cases (show kv = Value.ref b from rf)
          refine dt_set (X := X.blk z3 H3 sc en fp) hu Ig hD hb hz rg fun z Iz => ?_
          obtain ⟨k', hk', u'⟩ := hN1 _ nx
          have stay : ∀ b ∈ fq, ∀ o, zd.heap.get? b = some o → z.heap.get? b = some o ∧ (upd Hg D (.dT (putK kvs kk yv))) b = none := fun b hb o e =>
            let y := Iz.pin (b, o) (List.mem_append_right _ (List.mem_append_right _ (mem_pinsAt hb e))); ⟨y.1, y.2.1⟩
          refine ⟨k', hk', j + 1, _, Iz.unpinned.weak (by rw [← ew, wipe_length]) (fun j v e => by rw [← ew] at e; exact (wipe_some e).1), T1.keep _ _ _ td fun b hb o e => (stay b hb o e).1, fun b hb => ?_, u'⟩
          obtain ⟨o, e, _⟩ := T1.obj _ _ td b hb
          exact (stay b hb o e).2
      exact dc2_start loop1 (T1.self X.A 0 _ _ _ ta loop1)
  exact codeAny_compStart_dict loop (T.self X.A 0 _ _ _ t4 loop)
/-- name = {..} on one line, the name a local -/
theorem ps_setDc2 {X : Cx} {i : Nat} {y : Str} {py spos : Pos} {kx vx ga ia gb ib : Expr} {sc : Scope} {own : List (Str × Nat)} {vs1 : List Nat} {po : Pos} {wi wj : TI} {g g1 : TG} {tk tv : TE} (hc : X.calm = true) (nd : X.N.Nodup) (hy : X.N[i]? = some y) (hl : X.env.scope.names.lookup y = some .local)
    (sw : swapsWith (.DictComp kx vx [⟨ga, ia, [], 0⟩, ⟨gb, ib, [], 0⟩] sc po) (some (.Name y py)) spos.line X.env = pure true) (hi : PI X ga ia wi) (ok : BlkOk X.N X.env.scope sc own) (hv : ∀ i ∈ vs1, i ∈ own.map (·.2))
    (hg : ∀ (z : Shared) (H : Hp) (L : Addr) (cl : List (Str × Addr)) (fp : List Addr), PG (X.blk z H sc (compEnvC sc cl L X.env) fp) ga g) (hj : ∀ (z : Shared) (H : Hp) (L : Addr) (cl : List (Str × Addr)) (fp : List Addr), PI (X.blk z H sc (compEnvC sc cl L X.env) fp) gb ib wj) (hg1 : ∀ (z : Shared) (H : Hp) (L : Addr) (cl : List (Str × Addr)) (fp : List Addr), PG (X.blk z H sc (compEnvC sc cl L X.env) fp) gb g1) (hk : ∀ (z : Shared) (H : Hp) (L : Addr) (cl : List (Str × Addr)) (fp : List Addr), PE (X.blk z H sc (compEnvC sc cl L X.env) fp) kx tk) (he : ∀ (z : Shared) (H : Hp) (L : Addr) (cl : List (Str × Addr)) (fp : List Addr), PE (X.blk z H sc (compEnvC sc cl L X.env) fp) vx tv) (hu : X.A.units + 1 < cLine)
    (fa : ∀ x, foldedSetIterable ia X.env x = pure x := by intro _; rfl) (fb : ∀ en x, foldedSetIterable ib en x = pure x := by intro _ _; rfl) :
    PS X (.Assign [.Name y py] (.DictComp kx vx [⟨ga, ia, [], 0⟩, ⟨gb, ib, [], 0⟩] sc po) spos) (tAsg (tDc2 wi g wj g1 tk tv (own.map (·.2)) vs1) (gName i)) := by
  refine ⟨fun pins s σ H D I h => ?_⟩
  rw [exec_Assign_Name_used _ _ _ _ sw]
  refine wpAny_bind (wpAny_standAt (wpAny_bind (by
    show wpAny _ X.A (do let _ ← comprehension (dc2 kx vx ga ia gb ib sc po) sc X.env (firstIterPos [⟨ga, ia, [], 0⟩, ⟨gb, ib, [], 0⟩] po) newDict false (eval ia X.env) (some (assign (.Name y py) X.env))) _ _ s
    have h : tDc2 wi g wj g1 tk tv (own.map (·.2)) vs1 σ H (fun x H1 => gName i x σ H1 D.nx) := h
    refine wpAny_bind (thn (dc2_core (Qf := fun _ z => SP X pins D .next z) I hc hu nd hi ok hv hg hj hg1 hk he fa fb h fun L C z m H' Iz q hn f => ?_) fun _ z k => wpAny_pure (wpAny_pure k))
    show wpAny _ _ (assign (.Name y py) X.env (.ref L)) _ _ _
    refine wpAny_assign_Name (store_ok2 (v := V.ref L) Iz nd hy (.inl hl) rfl (fun z2 I2 ⟨a, sb, ha⟩ => ?_) (.inr hl))
    obtain ⟨y0, y1, y2, y3, y4, y5⟩ := f
    have ne : C ≠ a := ha.elim (fun e => by rw [e]; exact y1) fun e w => y4 y a e w.symm
    exact ⟨m, hn.sameBut sb ne, fun _ sb3 => ⟨_, H', I2.turned (t' := z2.toks) (fun b _ hb e => (sb3.2 b hb).trans e) y0 y1 y3 y4 y5, q⟩⟩)))
theorem sw_dict {kx vx : Expr} {gs : List Comprehension} {sc : Scope} {po py : Pos} {y : Str} {l : Nat} {en : Env} (hk : en.scope.kind = .function) (hy : en.scope.names.lookup y = some .local) (hl : (py.line == po.line) = true)
    (ha : (sc.names.any fun (n, k) => n == y && (k == .local || k == .cell)) = false) : swapsWith (.DictComp kx vx gs sc po) (some (.Name y py)) l en = pure true := by
  have k1 : en.kindOf y = some .local := hy
  have k2 : en.blockKind = .function := by unfold Env.blockKind; rw [hk]; rfl
  unfold swapsWith
  simp only [k2, k1, ha, Expr.pos, hl]
  rfl
/-! ### rules that name the fragment: for use within a comprehension -/
section
variable {X : Cx} {e l : Expr} {f : Str} {pos : Pos} {ta tl : TE} {tg : Expr}
theorem ixlK (K : PySem.W.Frag) (h : X.K = K := by rfl) : IxR X (rIxL K) := by
  subst h
  exact ix_list
theorem ixtK (K : PySem.W.Frag) (h : X.K = K := by rfl) : IxR X (rIxT K) := by
  subst h
  exact ix_tup
theorem fldK (K : PySem.W.Frag) (he : PE X e ta) (hb : attributeBase e f X.env (eval e X.env) = eval e X.env) (h : X.K = K := by rfl) : PE X (.Attribute e f pos) (tFld K ta f) := by
  subst h
  exact pe_fld he hb
theorem lstK (K : PySem.W.Frag) (hl : PE X l tl) (h : X.K = K := by rfl) : PI X tg l (iList K tl) := by
  subst h
  exact pi_list hl
end
theorem q_dc2 {wi wj : TI} {g g1 : TG} {tk tv : TE} {vs vs1 : List Nat} {σ : L2.St} {H : Hp} {Q : VK} (h : wi σ H fun J H1 => ∀ D, H1 D = none → ∃ W : Nat → Nat → Hp → Prop, (∃ m, W 0 m (upd H1 D (.dT []))) ∧ ∀ i m H, W i m H →
  (J.stop i H ∧ Q (.ref D) H) ∨ (J.go i H ∧ ∃ N : Hp → Prop, (∀ H', N H' → ∃ m', m' < m ∧ W (i + 1) m' H') ∧ ∀ x H', J.yld i H x H' → g x (wipe σ vs) H' fun σ2 H2 => wipe σ2 vs = wipe σ vs ∧ wj σ2 H2 fun J1 H4 =>
    ∃ U : Nat → Nat → Hp → Prop, (∃ m, U 0 m H4) ∧ ∀ j k H, U j k H → (J1.stop j H ∧ N H) ∨ (J1.go j H ∧ ∃ N1 : Hp → Prop, (∀ H', N1 H' → ∃ k', k' < k ∧ U (j + 1) k' H') ∧ ∀ x H', J1.yld j H x H' → g1 x (wipe σ2 vs1) H' fun σ3 H5 => wipe σ3 vs1 = wipe σ2 vs1 ∧
      tk σ3 H5 fun y H6 => tv σ3 H6 fun z H7 => ∃ kvs k b, y = .ref b ∧ H7 b = some (.tup (List.map kV k)) ∧ H7 D = some (.dT kvs) ∧ kvs.length < sizeLine ∧ N1 (upd H7 D (.dT (putK kvs k z)))))) : tDc2 wi g wj g1 tk tv vs vs1 σ H Q := h
/-- the turns of a comprehension, by a word of the turn and the heap -/
theorem oc_it {J : It} {n : Nat} {G : Hp → Prop} {Y : Nat → Hp → V → Hp → Prop} (w : Walk J n G Y) {F : (Hp → Prop) → V → Hp → Prop} {H0 : Hp} {Qd : Hp → Prop} (Pv : Nat → Hp → Prop) (h0 : Pv 0 H0) (hG : ∀ i H, i ≤ n → Pv i H → G H)
    (hs : ∀ i x H H', i < n → Pv i H → Y i H x H' → F (Pv (i + 1)) x H') (hd : ∀ H, Pv n H → Qd H) :
    ∃ W : Nat → Nat → Hp → Prop, (∃ m, W 0 m H0) ∧ ∀ i m H, W i m H → (J.stop i H ∧ Qd H) ∨ (J.go i H ∧ ∃ N : Hp → Prop, (∀ H', N H' → ∃ m', m' < m ∧ W (i + 1) m' H') ∧ ∀ x H', J.yld i H x H' → F N x H') := by
  refine ⟨fun i m H => m = n - i ∧ i ≤ n ∧ Pv i H, ⟨n, by simp, Nat.zero_le _, h0⟩, fun i m H hW => ?_⟩
  obtain ⟨rfl, hi, p⟩ := hW
  have q := hG i H hi p
  rcases Nat.lt_or_ge i n with hlt | hge
  · exact .inr ⟨w.goes i H hlt q, Pv (i + 1), fun H' p' => ⟨n - (i + 1), by omega, rfl, hlt, p'⟩, fun x H' y => hs i x H H' hlt p (w.yields i H x H' hlt q y)⟩
  · obtain rfl : i = n := by omega
    exact .inl ⟨w.stops H q, hd H p⟩
theorem q_lock {t : TS} {D : Ends} {σ : L2.St} {H : Hp} {d : Addr} {u : HO} (h : H d = some u) (mu : Mut (some u)) (q : ∀ od, t ⟨fun σ' H' => H' d = some (.frz od u) ∧ D.nx σ' (upd H' d u), fun v H' => H' d = some (.frz od u) ∧ D.rt v (upd H' d u), fun σ' H' => H' d = some (.frz od u) ∧ D.bk σ' (upd H' d u), fun σ' H' => H' d = some (.frz od u) ∧ D.ct σ' (upd H' d u)⟩ σ (upd H d (.frz od u))) : tLock t D σ H := ⟨d, u, h, mu, q⟩
theorem q_keysT {td : TE} {σ : L2.St} {H : Hp} {R : It → Hp → Prop} (h : td σ H fun x H1 => ∃ d o, x = .ref d ∧ ((∃ kvs, H1 d = some (.frz o (.dK kvs)) ∧ R (Itk d o kvs) H1) ∨ ∃ kvs, H1 d = some (.frz o (.dT kvs)) ∧ R (Itkt d o kvs) H1)) : iKeys td σ H R := h
section
variable {σ : L2.St} {H : Hp} {te : TE} {tl th : TO} {Q : VK} {Qo : Option Int → Hp → Prop} {r : V → Option Int → Option Int → Hp → VK → Prop}
theorem q_sl (h : te σ H fun x H1 => tl σ H1 fun l H2 => th σ H2 fun u H3 => r x l u H3 Q) : L2.tSl r te tl th σ H Q := h
theorem q_po0 (h : Qo none H) : tNoPart σ H Qo := h
theorem q_po1 (h : te σ H fun x H1 => ∃ i, x = .int i ∧ Qo (some i) H1) : tPart te σ H Qo := h
theorem q_int1 {i : Int} {R : Int → Prop} (h : R i) : ∃ j, V.int i = .int j ∧ R j := ⟨i, rfl, h⟩
theorem q_iR3 {t : TA} {R : It → Hp → Prop} (h : t σ H fun vs H1 => ∃ (i j c : Int) (n : Nat), vs = [.int i, .int j, .int c] ∧ RgC i j c n ∧ R (Itc i c n) H1) : iRng3 t σ H R := h
end
theorem q_dc {wi : TI} {g : TG} {tt : TT} {tk tv : TE} {vs : List Nat} {σ : L2.St} {H : Hp} {Q : VK} (h : wi σ H fun J H1 => ∀ D, H1 D = none → ∃ W : Nat → Nat → Hp → Prop, (∃ m, W 0 m (upd H1 D (.dK []))) ∧ ∀ i m H, W i m H → (J.stop i H ∧ Q (.ref D) H) ∨ (J.go i H ∧ ∃ N : Hp → Prop, (∀ H', N H' → ∃ m', m' < m ∧ W (i + 1) m' H') ∧ ∀ x H', J.yld i H x H' →
  g x (wipe σ vs) H' fun σ2 H2 => wipe σ2 vs = wipe σ vs ∧ tt σ2 H2 fun b H3 => if b = true then tk σ2 H3 fun y H4 => tv σ2 H4 fun z H5 => ∃ kvs k, y = kV k ∧ H5 D = some (.dK kvs) ∧ kvs.length < sizeLine ∧ N (upd H5 D (.dK (putK kvs k z))) else N H3)) : tDc wi g tt tk tv vs σ H Q := h
end Wk
namespace Wk
open PySem PySem.Spec PyProof.Rows L2
/-! ### dicts of moments -/
def hap (hs : List (Int × Int)) : List (Key × V) := hs.map fun p => (.inl p.1, .int p.2)
theorem hap_val (hs : List (Int × Int)) (a : Int) : valV (hap hs) (.inl a) = (K95.look hs a).map V.int := by
  induction hs with
  | nil => rfl
  | cons p r ih =>
    show valV (((.inl p.1 : Key), V.int p.2) :: hap r) (.inl a) = _
    rw [K95.look_cons]
    by_cases e : p.1 = a
    · rw [if_pos e, valV_pos (by show (Sum.inl p.1 : Key) = _; rw [e])]
      rfl
    · rw [if_neg e, valV_neg (fun z => e (Sum.inl.inj z)), ih]
theorem hap_put (hs : List (Int × Int)) (a p : Int) : putK (hap hs) (.inl a) (.int p) = hap (K95.put hs a p) := by
  have e : ((hap hs).any fun kv => decide (kv.1 = (.inl a : Key))) = (hs.any fun q => decide (q.1 = a)) := by
    unfold hap
    rw [List.any_map]
    congr 1
    funext q
    exact decide_eq_decide.mpr ⟨fun z => Sum.inl.inj z, fun z => by rw [← z]⟩
  unfold putK K95.put
  rw [e]
  by_cases h : (hs.any fun q => decide (q.1 = a)) = true
  · rw [if_pos h, if_pos h]
    unfold hap
    rw [List.map_map, List.map_map]
    apply List.map_congr_left
    intro q _
    show (if (Sum.inl q.1 : Key) = .inl a then ((.inl q.1 : Key), V.int p) else (.inl q.1, V.int q.2)) = (.inl (if q.1 = a then (q.1, p) else q).1, V.int (if q.1 = a then (q.1, p) else q).2)
    by_cases e2 : q.1 = a
    · rw [if_pos (by rw [e2]), if_pos e2]
    · rw [if_neg (fun z => e2 (Sum.inl.inj z)), if_neg e2]
  · rw [if_neg h, if_neg h]
    unfold hap
    rw [List.map_append]
    rfl
theorem hap_len (hs : List (Int × Int)) : (hap hs).length = hs.length := List.length_map _
/-- a situation in the heap -/
def IsSit (H : Hp) (v : V) (t : Int) (hs : List (Int × Int)) : Prop := ∃ d, Tu H v [.int t, .ref d] ∧ H d = some (.dK (hap hs))
theorem IsSit.same {H H' : Hp} {v : V} {t : Int} {hs : List (Int × Int)} (h : IsSit H v t hs) (s : Same H H') : IsSit H' v t hs := by
  obtain ⟨d, a, b⟩ := h
  exact ⟨d, a.tps (same_tps s), s _ _ b⟩
/-! ### data that can be shown -/
mutual
def Dt (H : Hp) : PyData → V → Prop
  | .none, v => v = .non
  | .bool b, v => v = .bl b
  | .int i, v => v = .int i
  | .str x, v => v = .str x
  | .list ds, v => ∃ a vs, v = .ref a ∧ H a = some (.lst vs) ∧ DtA H ds vs
  | .tuple ds, v => ∃ a vs, v = .ref a ∧ H a = some (.tup vs) ∧ DtA H ds vs
  | .dict kvs, v => ∃ a hs, v = .ref a ∧ H a = some (.dK (hap hs)) ∧ kvs = hs.map fun p => (.int p.1, .int p.2)
def DtA (H : Hp) : List PyData → List V → Prop
  | [], vs => vs = []
  | d :: ds, vs => ∃ v r, vs = v :: r ∧ Dt H d v ∧ DtA H ds r
end
mutual
/-- has a list in it -/
def hasL : PyData → Bool
  | .list _ => true
  | .tuple ds => hasLA ds
  | _ => false
def hasLA : List PyData → Bool
  | [] => false
  | d :: ds => hasL d || hasLA ds
end
theorem vals_uncons {v : V} {r : List V} {us : List Value} (h : Vals (v :: r) us) : ∃ u us', us = u :: us' ∧ RelV v u ∧ Vals r us' := by
  cases h with
  | cons a b => exact ⟨_, _, rfl, a, b⟩
theorem vals_of_nil {us : List Value} (h : Vals [] us) : us = [] := by
  cases h
  rfl
section
variable {P : Program} {w : World} {H : Hp} {h : Heap}
theorem reads_keys {h : Heap} : ∀ {es : List DictEntry} {hs : List (Int × Int)} {vs : List (Key × Value)}, PySem.Pairs (mixKind P w) es vs → KV (hap hs) vs → ReadsAll h (es.map (·.key)) ((hs.map fun p => (PyData.int p.1, PyData.int p.2)).map (·.1)) [] ∧ ReadsAll h (es.map (·.val)) ((hs.map fun p => (PyData.int p.1, PyData.int p.2)).map (·.2)) []
  | _, [], _, p, k => by
    cases k
    cases p
    exact ⟨.nil, .nil⟩
  | _, q :: hs, _, p, k => by
    cases k with
    | cons a b =>
      cases p with
      | cons e1 e2 e3 =>
        obtain ⟨r1, r2⟩ := reads_keys e3 b
        obtain ⟨a1, t, a2⟩ := a
        rw [← a1] at e1
        have e1 : keyIs (.inl q.1) _ = true := e1
        rcases keyIs_shape e1 with ⟨i, t', z1, z2⟩ | ⟨_, _, z1, _⟩
        · have z1 : q.1 = i := Sum.inl.inj z1
          subst z1
          refine ⟨?_, ?_⟩
          · show ReadsAll h (_ :: _) (_ :: _) ([] ++ [])
            refine .cons ?_ r1
            have : ∀ x, x = Value.int q.1 t' → Reads h x (PyData.int q.1) [] := fun x e => by rw [e]; exact .int _ _
            exact this _ z2
          · show ReadsAll h (_ :: _) (_ :: _) ([] ++ [])
            refine .cons ?_ r2
            have : ∀ x, x = Value.int q.2 t → Reads h x (PyData.int q.2) [] := fun x e => by rw [e]; exact .int _ _
            exact this _ (e2.trans a2)
        · cases z1
mutual
theorem reads_of (ok : HOk P w H h) : ∀ (d : PyData) (v : V) (u : Value), Dt H d v → RelV v u → ∃ as, Reads h u d as ∧ (hasL d = false → sysModules ∉ as)
  | .none, v, u, hd, r => by
    unfold Dt at hd
    subst hd
    cases r
    exact ⟨[], .none, fun _ z => by simp at z⟩
  | .bool b, v, u, hd, r => by
    unfold Dt at hd
    subst hd
    cases r
    exact ⟨[], .bool b, fun _ z => by simp at z⟩
  | .int i, v, u, hd, r => by
    unfold Dt at hd
    subst hd
    obtain ⟨t, rfl⟩ := r
    exact ⟨[], .int i t, fun _ z => by simp at z⟩
  | .str x, v, u, hd, r => by
    unfold Dt at hd
    subst hd
    obtain ⟨t, rfl⟩ := r
    exact ⟨[], .str x t, fun _ z => by simp at z⟩
  | .list ds, v, u, hd, r => by
    unfold Dt at hd
    obtain ⟨a, vs, rfl, e, q⟩ := hd
    cases r
    obtain ⟨_, its, n, rv, hl⟩ := (show ObjOk P w H h a (.lst vs) from ok a _ e)
    obtain ⟨as, ra, _⟩ := readsA_of ok ds vs its q rv
    exact ⟨a :: as, .list hl rfl rfl (by rw [List.toList_toArray]; exact ra), fun z => by simp [hasL] at z⟩
  | .tuple ds, v, u, hd, r => by
    unfold Dt at hd
    obtain ⟨a, vs, rfl, e, q⟩ := hd
    cases r
    obtain ⟨_, its, rv, o, ho, hc, n, hn⟩ := (show ObjOk P w H h a (.tup vs) from ok a _ e)
    obtain ⟨as, ra, k⟩ := readsA_of ok ds vs its q rv
    exact ⟨as, .tuple ho hc hn (by rw [List.toList_toArray]; exact ra), fun z => k (by simpa [hasL] using z)⟩
  | .dict kvs, v, u, hd, r => by
    unfold Dt at hd
    obtain ⟨a, hs, rfl, e, rfl⟩ := hd
    cases r
    obtain ⟨_, hsys, vs, kv, o, es, ep, ho, hx, hdt, _, prs, _⟩ := (show ObjOk P w H h a (.dK (hap hs)) from ok a _ e)
    obtain ⟨r1, r2⟩ := reads_keys (h := h) prs kv
    refine ⟨a :: [] ++ [], .dict ho hx.1 hdt r1 r2, fun _ z => ?_⟩
    rw [List.append_nil, List.mem_singleton] at z
    rw [z] at hsys
    simp at hsys
theorem readsA_of (ok : HOk P w H h) : ∀ (ds : List PyData) (vs : List V) (us : List Value), DtA H ds vs → Vals vs us → ∃ as, ReadsAll h us ds as ∧ (hasLA ds = false → sysModules ∉ as)
  | [], vs, us, hd, r => by
    unfold DtA at hd
    subst hd
    rw [vals_of_nil r]
    exact ⟨[], .nil, fun _ z => by simp at z⟩
  | d :: ds, vs, us, hd, r => by
    unfold DtA at hd
    obtain ⟨v, vs', rfl, hv, hr⟩ := hd
    obtain ⟨u, us', rfl, ru, rs⟩ := vals_uncons r
    obtain ⟨as, ra, ka⟩ := reads_of ok d v u hv ru
    obtain ⟨bs, rb, kb⟩ := readsA_of ok ds vs' us' hr rs
    refine ⟨as ++ bs, .cons ra rb, fun z => ?_⟩
    have z : (hasL d || hasLA ds) = false := by simpa [hasLA] using z
    rw [Bool.or_eq_false_iff] at z
    rw [List.mem_append]
    exact fun y => y.elim (ka z.1) (kb z.2)
end
end
/-- what of the data must be seen for it to be shown -/
structure Shows (d : PyData) : Prop where
  sh : d.showable = true
  sz : d.shown.length ≤ sizeLine
  dp : d.depth ≤ 30
  dl : d.hasDict = true → hasL d = false
theorem call_reprD {X : Cx} (hg : X.A.guards = some []) (hu : X.A.units + 64 < cLine) : CallR X (.builtin "repr") (fun xs H Q => ∃ v d, xs = [v] ∧ Dt H d v ∧ Shows d ∧ (d = .none ∨ ∃ a, v = .ref a) ∧ Q (.str d.shown) H) := by
  intro pins s σ H xs us Q I r h
  obtain ⟨v, d, rfl, hd, S, hv, q⟩ := h
  obtain ⟨u, rfl, ru⟩ := vals1 r
  rcases hv with rfl | ⟨a, rfl⟩
  · unfold Dt at hd
    subst hd
    cases ru
    exact PySem.P.repr_of_none ⟨.str _, H, I.tok _, ⟨_, rfl⟩, q⟩
  · obtain ⟨as, ra, ka⟩ := reads_of I.hok d (.ref a) u hd ru
    cases ru
    refine repr_of_reads' (hsz := S.sz) ra S.sh (fun z => ka (S.dl z)) hg (by have := S.dp; omega) (fun _ _ e => e) fun h' u tk k => ?_
    exact ⟨.str d.shown, H, I.kept k, ⟨_, rfl⟩, q⟩
end Wk
namespace Wk
open PySem PySem.Spec PyProof.Rows L2
/-! ### a def that may ask whether nothing is being shown -/
structure FnG (P : Program) (w : World) (K : PySem.W.Frag) (mg : Str → Option Value) (base : Heap) (k : Nat) (f : Addr) (fd : FuncData) (ps : List Str) (sp : Sp) : Prop where
  go : ∀ (A : Around) (outer : List Env) (z : Shared) (H : Hp) (args : Args) (us : List Value) (vs : List V) (Q : VK) (E : XK), A.guards = some [] → Room k A → Env0 P w K mg base A outer z H → BindsTo z fd args (ps.zip us) → Vals vs us → sp vs H Q E →
    codeAny (model P w) A (.call (.ref f) args) (CR CX0 outer P w H z Q E) z
section
variable {P : Program} {w : World} {K : PySem.W.Frag} {mg : Str → Option Value} {base : Heap}
theorem fnG_ok {x qual : Str} {st : Stmt} {f : Addr} {fd : FuncData} {N ps : List Str} {k : Nat} {sp : Sp} (F : Fun K x qual st f fd) (S : FnScope N ps (defScope st)) (len : ∀ vs H Q E, sp vs H Q E → vs.length = ps.length)
    (body : ∀ (cdv : Value) (A : Around) (outer : List Env) (z : Shared) (H : Hp) (vs : List V) (Q : VK) (E : XK), A.guards = some [] → Room k (A.deeper (envOfC qual (defScope st) z.heap.objs.size f cdv)) → sp vs H Q E →
      ∃ t, PSs (cxOf CX0 P w K mg base N qual (defScope st) f cdv A outer z H E).nox (defBody st) t ∧ t { nx := fun _ H' => Q .non H', rt := Q } (L2.start N vs) H) : FnG P w K mg base (k + 1) f fd ps sp := by
  obtain ⟨oc, od, kV, doc, pm, an, cdv, ct, osl, rfl, lk, hcd⟩ := F.ex
  refine ⟨fun A outer z H args us vs Q E hg hr e0 hb r q => ?_⟩
  have ln := len _ _ _ _ q
  have kin : K.In z.heap := e0.mod.kin.keeps fun b o e => (e0.bs b o e).1
  have kinds : ∀ y ∈ ps.zip us, (defScope st).names.lookup y.1 = some .local ∨ ((defScope st).names.lookup y.1 = some .cell ∧ ((cellsFrom (z.heap.objs.size + 1) (defScope st).names []).lookup y.1).isSome = true) := fun y hy =>
    (S.par y.1 (List.of_mem_zip (a := y.1) (b := y.2) hy).1).elim .inl fun c => .inr ⟨c, PySem.W.cellsFrom_some _ _ _ (.inl c)⟩
  refine codeAny_call_function hr.depth (kin _ _ lk) rfl S.co S.gen rfl (PySem.W.codeRec_of kin hcd) (hb _ _ _ _ (wpAny_newFunctionEnv_cells S.kind kinds fun en he z1 y => ?_))
  subst he
  refine ⟨(e0.mod.nolimit.keeps fun b o e => (e0.bs b o e).1).keeps y.toInCall.keep, codeAny_func ?_⟩
  obtain ⟨t, ht, hq⟩ := body cdv A outer z H vs Q E hg (hr.deeper _) q
  refine wpAny_mono (ht.nox.run [] z1 (L2.start N vs) H _ (inv_start S hr.hd e0 ln r y) hq) (fun fl z2 hs => ?_) fun _ _ hs => hs
  cases fl with
  | ret u =>
    obtain ⟨v, σ', H', J, rv, p⟩ := hs
    exact ⟨v, H', J.os, J.bare, J.base, J.hok, rv, p⟩
  | next =>
    obtain ⟨σ', H', J, p⟩ := hs
    exact ⟨V.non, H', J.os, J.bare, J.base, J.hok, rfl, p⟩
  | brk => exact hs.elim fun _ a => a.elim fun _ b => b.2.elim
  | cont => exact hs.elim fun _ a => a.elim fun _ b => b.2.elim
end
/-- the script alone may be seen -/
def onlyS (a : Addr) (o : Obj) (xs : List V) : Hp := fun b => if b = a then some (.frz o (.lst xs)) else none
theorem callG {P : Program} {w : World} {K : PySem.W.Frag} {mg mb : Str → Option Value} {k : Nat} {fa a : Addr} {fd : FuncData} {x : Str} {sp : Sp} {z : Shared} {us : List Value} {ns : List Int} (kin : K.In z.heap) (hns : z.heap.Ns mainGlobals mg) (hb : z.heap.Ns builtinsNs mb)
    (hbb : ∀ y : Str, y ≠ "__name__" → mb y = bootBuiltins y) (lim : z.heap.NoLimit) (hg : z.gens = #[]) (ha : z.heap.get? a = some { cls := .type "list", data := .seq us.toArray }) (hi : IntsAre us ns) (hl : ns.length ≤ sizeLine) (hr : Room k callerA)
    (F : ∀ base : Heap, K.In base → base.Ns mainGlobals mg → FnG P w K mg base k fa fd [x] sp) (bd : ∀ (y : Shared) (u : Value), BindsTo y fd ⟨[u], []⟩ [(x, u)]) (hsp : ∀ H : Hp, L2.Only H → SqL K H a (ns.map V.int) → sp [.ref a] H (fun v _ => v = .bl true) fun _ _ _ => False) :
    codeAny (model P w) callerA (.call (.ref fa) ⟨[.ref a], []⟩) (fun r y => r = .ok (.ret (.bool true)) ∧ OldK z.heap y.heap ∧ y.os = z.os ∧ AllBare y.gens) z := by
  have rv := L2.vals_ints hi
  have key : ∀ H : Hp, L2.Only H → SqL K H a (ns.map V.int) → HOk P w H z.heap → (∀ b, H b ≠ none → b = a) → (H a ≠ none → K.lookup a = none) → codeAny (model P w) callerA (.call (.ref fa) ⟨[.ref a], []⟩) (fun r y => r = .ok (.ret (.bool true)) ∧ OldK z.heap y.heap ∧ y.os = z.os ∧ AllBare y.gens) z := by
    intro H only sq ok at_ nk
    have dead : ∀ {b : Addr} {o : Obj} {es : Array DictEntry} {ep : Nat}, z.heap.get? b = some o → o.data = .dict es ep → H b = none := fun {b o es ep} e d => Classical.byContradiction fun q => by
      rw [at_ b q, ha] at e
      cases e
      cases (show Data.seq us.toArray _ = Data.dict es ep from d)
    have space : ∀ {b : Addr} {m : Str → Option Value}, z.heap.Ns b m → (hidT z.heap H).Ns b m := fun {b m} n => by
      obtain ⟨o, es, ep, e, d, r⟩ := n
      exact ⟨o, es, ep, hidT_get e (dead e d), d, r⟩
    have kin' : K.In (hidT z.heap H) := fun b o e => hidT_get (kin b o e) (Classical.byContradiction fun q => by
      have eb := at_ b q
      rw [eb] at e q
      rw [nk q] at e
      cases e)
    have e0 : Env0 P w K mg (hidT z.heap H) callerA [] z H := ⟨rfl, ⟨kin', space hns, ⟨mb, space hb, hbb⟩, let ⟨mc, l1, l2⟩ := lim; ⟨mc, space l1, l2⟩⟩, fun b o e => of_hidT e, Nat.le_of_eq (hidT_size _ _), trivial, fun b hb => absurd (show b ∈ ([] : List Addr) from hb) (by simp), ok, .of_eq hg⟩
    refine codeAny_mono ((F _ kin' (space hns)).go callerA [] z H ⟨[.ref a], []⟩ [.ref a] [.ref a] _ _ rfl hr e0 (bd z (.ref a)) (.cons rfl .nil) (hsp H only sq)) fun r y q => ?_
    cases r with
    | error e => exact (show False from q).elim
    | ok fl =>
      cases fl with
      | ret u =>
        obtain ⟨v, H', os, bare, un, ok', r', q⟩ := q
        rw [show v = .bl true from q] at r'
        obtain rfl : u = Value.bool true := r'
        refine ⟨rfl, OldK.of_keep fun b o e => ?_, os, bare⟩
        cases hb : H b with
        | none => exact un.keep b o e hb (by intro y; exact absurd (show b ∈ ([] : List Addr) from y) (by simp)) (by simp)
        | some v =>
          rcases only b with y | ⟨ob, xs, y⟩
          · rw [hb] at y
            cases y
          · have e1 := (ok b _ y).1
            have e2 := (ok' b _ (un.frzs b ob _ y)).1
            rw [e] at e1
            cases e1
            exact e2
      | next => exact (show False from q).elim
      | brk => exact (show False from q).elim
      | cont => exact (show False from q).elim
  have ln := hi.length
  cases hk : K.lookup a with
  | some o =>
    have e := kin a o hk
    rw [ha] at e
    cases e
    exact key (fun _ => none) (fun _ => .inl rfl) (.inr ⟨_, us.toArray, _, hk, rfl, rfl, rfl, by rw [List.size_toArray, ln]; exact hl, by simpa using rv⟩) (fun b u y => nomatch (show (none : Option HO) = some u from y)) (fun b y => absurd rfl y) fun y => absurd rfl y
  | none =>
    have at_ : ∀ b, onlyS a { cls := .type "list", data := .seq us.toArray } (ns.map V.int) b ≠ none → b = a := fun b y => Classical.byContradiction fun q => y (if_neg q)
    have get : onlyS a { cls := .type "list", data := .seq us.toArray } (ns.map V.int) a = some (.frz { cls := .type "list", data := .seq us.toArray } (.lst (ns.map V.int))) := if_pos rfl
    refine key (onlyS a { cls := .type "list", data := .seq us.toArray } (ns.map V.int)) (fun b => ?_) (.inl (.inr ⟨_, get⟩)) (fun b u y => ?_) at_ fun _ => hk
    · by_cases q : b = a
      · exact .inr ⟨_, _, by rw [q]; exact get⟩
      · exact .inl (if_neg q)
    · have q := at_ b (by rw [y]; simp)
      subst q
      rw [get] at y
      cases y
      exact ⟨ha, by rw [List.length_map]; exact hl, us, _, rv, ha⟩
/-- the goal behind the head -/
theorem walkG {l : PySem.W.OpenLaw} {n k : Nat} {q : Program} {loose : List Str} {XP : (Str → Option Value) → Heap → Prop} {YP : World → Heap → Prop} {d : DefRec} {K : Params → PySem.W.Frag} {sp : PySem.W.Frag → Sp} {x : Str} (hn : l.most = some n) (hn2 : n ≤ sizeLine) (hdf : d.params.defaults = []) (hr : Room k callerA)
    (hY : ∀ (w : World) (h : Heap), YP w h → (K w.params).In h) (F : ∀ (w : World) (mg : Str → Option Value) (fa : Addr) (h : Heap), (K w.params).In h → h.Ns mainGlobals mg → mg d.name = some (.ref fa) → ∃ fd : FuncData, (∀ (s : Shared) (u : Value), BindsTo s fd ⟨[u], []⟩ [(x, u)]) ∧
        ∀ base : Heap, (K w.params).In base → base.Ns mainGlobals mg → FnG l.prog w (K w.params) mg base k fa fd [x] (sp (K w.params)))
    (hsp : ∀ (K : PySem.W.Frag) (H : Hp) (a : Addr) (ns : List Int), ns.length ≤ n → L2.Only H → SqL K H a (ns.map V.int) → sp K [.ref a] H (fun v _ => v = .bl true) fun _ _ _ => False) : PySem.W.WalkO q loose XP YP l.row.toRowW d [] (fun f vs => PySem.call f vs) := by
  refine Att.attach_call hn hdf fun w s₀ z mg mb fa o pm cd doc a us ns G Y ho hd hcd hmg hobj hints hlen hg => ?_
  obtain ⟨fd, b, f⟩ := F w mg fa _ (hY w _ Y) G.T.g hmg
  exact callG (hY w _ Y) G.T.g G.T.b G.T.builtins G.T.nolimit hg hobj hints (Nat.le_trans hlen hn2) hr f b fun H only sq => hsp _ H a ns hlen only sq
end Wk
namespace Wk
open PySem PySem.Spec PyProof.Rows L2
/-! ### list(d.values()), the keys tuples -/
section
variable {prog : Program} {w : World} {A : Around} {E : Value → Shared → Prop} {s : Shared} {o : Obj} {es : Array DictEntry} {ep : Nat} {r d : Addr}
theorem srcVals (hd : o.data = .dict es ep) : PySem.W.KdlSrc prog w "dict_values" r d es.size (fun i v => ∃ en : DictEntry, es[i]? = some en ∧ v = en.val) (fun h => h.get? r = some (DSub.viewOb "dict_values" d) ∧ h.get? d = some o) where
  type := fun _ m => ⟨_, m.1, rfl⟩
  there := fun _ m => ⟨Heap.lt_size m.1, Heap.lt_size m.2⟩
  keep := fun _ _ m k => ⟨k r (.inl rfl) _ m.1, k d (.inr rfl) _ m.2⟩
  notList := by decide
  notTuple := by decide
  hint := fun _ _ _ _ m q => PySem.W.kdl_hint_values ⟨_, m.1, rfl⟩ q
  iter := fun _ s hh m => ⟨_, _, (fun _ _ q => DSub.iter_vals m.1 m.2 hd q), DSub.walksVal hh (Nat.ne_of_lt (Heap.lt_size m.2)) hd (fun _ e he => ⟨e, he, rfl⟩), ⟨Heap.get?_push_size _ rfl, Heap.get?_push_of_some _ m.2⟩⟩
theorem meetsVals (hs : (d == sysModules) = false) : MeetsIn prog w (Builtin.«dict.values» ⟨[.ref d], []⟩) (fun _ R s => DT.Raw s.heap d es ep ∧ R (.ok (.ret (.ref s.heap.objs.size))) { s with heap := s.heap.push { cls := .type "dict_values", data := .fields #[.ref d] } }) :=
  .of_wp fun A R s ⟨m, q⟩ => by
    refine wpAny_bind (by
      unfold Builtin.Dict.noArgs
      refine wpAny_bind (wpAny_notOrdered_dict m.typeIs (by
        show wpAny _ _ (pure d) _ _ s
        refine wpAny_pure (by
          show wpAny _ _ (Builtin.Dict.showsAll d >>= _) _ _ s
          unfold Builtin.Dict.showsAll
          rw [if_neg (by rw [hs]; exact Bool.false_ne_true)]
          exact wpAny_bind (wpAny_pure (wpAny_bind (wpAny_newObj_type (wpAny_pure ⟨_, rfl, q⟩))))))))
end
def tListVals (te : TE) : TE := fun σ H Q => te σ H fun x H1 => ∃ d kvs, x = .ref d ∧ H1 d = some (.dT kvs) ∧ ∀ p, H1 p = none → Q (.ref p) (upd H1 p (.lst (kvs.map (·.2))))
theorem vals_at : ∀ {xs : List V} {us : List Value}, xs.length = us.length → (∀ (j : Nat) (u : Value), us[j]? = some u → ∃ x, xs[j]? = some x ∧ RelV x u) → Vals xs us
  | [], [], _, _ => .nil
  | x :: xs, u :: us, hl, h => by
    obtain ⟨y, e, r⟩ := h 0 u rfl
    have e : x = y := Option.some.inj e
    rw [← e] at r
    exact .cons r (vals_at (Nat.succ.inj hl) fun j v q => h (j + 1) v q)
  | [], _ :: _, hl, _ => by simp at hl
  | _ :: _, [], hl, _ => by simp at hl
theorem pe_listVals {X : Cx} {e : Expr} {te : TE} {p apos cpos pos : Pos} (hc : X.calm = true) (he : PE X e te) (hg : Gl X "list") (hm : X.mg "list" = none) (hv : bootBuiltins "list" = some (.type "list")) (hbase : attributeBase e "values" X.env (eval e X.env) = eval e X.env := by rfl) (hline : (apos.endLine == cpos.line) = true := by rfl)
    (hs : starEach [.Call (.Attribute e "values" apos) [] [] cpos] X.env = (false, eval (.Call (.Attribute e "values" apos) [] [] cpos) X.env) :: starEach [] X.env := by rfl) : PE X (.Call (.Name "list" p) [.Call (.Attribute e "values" apos) [] [] cpos] [] pos) (tListVals te) := by
  refine ⟨fun pins s σ H Q I q => ?_⟩
  refine wpAny_Call_Name_kw (ld_blt I hg hm hv (PyProof.Rows.callWith_type1 (by
    rw [hs]
    show wpAny _ _ (spliced ((false, eval (.Call (.Attribute e "values" apos) [] [] cpos) X.env) :: backTo pos (starEach [] X.env))) _ _ s
    refine Calls.spliced_cons (wpAny_Call_method (T := "dict") (id := "dict.values") hbase rfl hline F.plainAttrs_dict F.slot_dict_values F.type_dict_values (thn (he.run pins s σ H _ I q) fun u s1 ⟨x, H1, I1, rx, d, kvs, ex, hd, q1⟩ => ?_))
    subst ex
    obtain rfl : u = Value.ref d := rx
    obtain ⟨z, sm, ks, pr, o, es, ep, ho, hx, hdt, hes, hn⟩ := (show ObjOk X.prog X.w H1 s1.heap d (.dT kvs) from I1.hok d _ hd)
    have l1 : es.size = ks.length := size_of_entries hes
    have l2 : kvs.length = ks.length := Paired.length pr
    have raw : DT.Raw s1.heap d es ep := ⟨o, ho, hx, hdt⟩
    have I2 : Inv X pins σ H1 { s1 with heap := s1.heap.push { cls := .type "dict_values", data := .fields #[.ref d] } } := I1.kept (t' := s1.toks) fun b ob y => Heap.get?_push_of_some _ y
    refine ⟨raw.typeIs, fun b y => by cases y; exact ⟨o, ho, hx.2.1⟩, ?_⟩
    show wpAny _ _ (callWith cpos (.builtin "dict.values") [.ref d] [] []) _ X.xe s1
    refine method_meetsIn F.slot_dict_values F.entry_dict_values rfl (PySem.evalArgs_none ⟨rfl, raw.typeIs, F.args_dict_values_1 _, _, meetsVals (es := es) (ep := ep) sm, raw, Calls.spliced_nil ?_⟩)
    refine PySem.W.kdl_call (srcVals hdt) (I1.ok.hd hc) ⟨Heap.get?_push_size _ rfl, Heap.get?_push_of_some _ ho⟩ (by rw [l1, ← l2]; exact z) fun h' tk acc c k ho' it => ?_
    have rv : Vals (kvs.map (·.2)) acc.toList := by
      refine vals_at (by rw [List.length_map, l2, ← l1, ← it.1]; simp) fun j u hj => ?_
      obtain ⟨en, hen, rfl⟩ := it.2 j u (by rw [← Array.getElem?_toList]; exact hj)
      have qe := entry_at hes j
      rw [hen] at qe
      obtain ⟨b, hb, eb⟩ := Option.map_eq_some_iff.mp qe.symm
      obtain ⟨kv, hkv, _, _, r3⟩ := paired_get2 j b pr hb
      refine ⟨kv.2, by rw [List.getElem?_map, hkv]; rfl, ?_⟩
      rw [← eb]
      exact r3
    refine ⟨.ref _, _, I2.laid (t' := tk) (o := .lst (kvs.map (·.2))) k (Nat.le_refl _) ⟨by rw [List.length_map]; exact z, acc.toList, c, rv, by rw [Array.toArray_toList]; exact ho'⟩, rfl, q1 _ (I2.hok.fresh (Nat.le_refl _))⟩) hs rfl))
/-! ### d.update(e), int keys -/
def rUpdK : V → List V → Hp → VK → Prop := fun x vs H Q => ∃ d e ks ls, x = .ref d ∧ vs = [.ref e] ∧ d ≠ e ∧ H d = some (.dK ks) ∧ H e = some (.dK ls) ∧ ks.length + ls.length ≤ sizeLine ∧ Q .non (upd H d (.dK (mergeK ks ls)))
theorem mt_updK {X : Cx} : MtM X "dict.update" rUpdK := by
  intro pins s σ H x vs v us Q I rx rv h
  obtain ⟨d, e, ks, ls, rfl, rfl, ne, hd, he, hz, q⟩ := h
  cases rx
  obtain ⟨u, rfl, ru⟩ := rv.one
  cases ru
  obtain ⟨_, sd, kd, rd, dd⟩ := dk_of I.hok hd
  obtain ⟨_, se, ke, re, de⟩ := dk_of I.hok he
  refine call_meetsIn F.slot_dict_update dd.typeIs F.entry_dict_update (F.args_dict_update_2 _ _) (meets_dict_update (mixKind X.prog X.w) d e ne se) ⟨kd, ke, dd, de, by rw [← rd.length, ← re.length]; exact hz, fun h' dd' _ sb => ?_⟩
  refine ⟨.non, _, d_write (t' := s.toks) I (by rw [hd]; exact True.intro) sb (let ⟨y, _, _, hy, _⟩ := dd'; ⟨y, hy⟩) (dk_new (Nat.le_trans (length_mergeK ls ks) hz) sd (KV.merge re rd) dd'), rfl, q⟩
theorem hap_merge : ∀ (ls ks : List (Int × Int)), mergeK (hap ks) (hap ls) = hap (ls.foldl (fun a p => K95.put a p.1 p.2) ks)
  | [], _ => rfl
  | p :: ls, ks => by
    show mergeK (putK (hap ks) (.inl p.1) (.int p.2)) (hap ls) = _
    rw [hap_put, hap_merge ls]
    rfl
/-! ### sorted(d), int keys, any number of them -/
theorem cr_sortedDK {X : Cx} (hc : X.calm = true) : CallR X (.builtin "sorted") (fun xs H Q => ∃ (a : Addr) (kvs : List (Key × V)) (ks : List Int), xs = [.ref a] ∧ Rd H a (.dK kvs) ∧ kvs.map (·.1) = ks.map Sum.inl ∧ ∀ (ys : List Int) (p : Addr), ys.Perm ks → ys.Pairwise (· ≤ ·) → H p = none → Q (.ref p) (upd H p (.lst (ys.map V.int)))) := by
  intro pins s σ H xs us Q I r q
  obtain ⟨a, kvs, ks, rfl, hd, hks, q⟩ := q
  obtain ⟨u, rfl, rx⟩ := vals1 r
  cases rx
  obtain ⟨z, lo, vs, rel, dd⟩ := dk_rd I.hok hd
  obtain ⟨ep, hat⟩ := dd.dictAt
  have hkeys : vs.map (·.1) = ks.map Sum.inl := rel.keys.symm.trans hks
  have lv : vs.length = ks.length := by have := congrArg List.length hkeys; rwa [List.length_map, List.length_map] at this
  have lz : vs.length ≤ sizeLine := by rw [← rel.length]; exact z
  refine Calls.call_function_entry PyProof.Rows.kind_sorted PyProof.Rows.plain_sorted PyProof.Rows.entry_sorted (PyProof.Rows.args_sorted1 _) (by
    unfold Builtin.«sorted»
    refine wpAny_bind (m := checkCount "sorted" 1 1 _) (wpAny_pure (wpAny_bind (PySem.W.kdu_collect (A := X.A.in1) (PySem.W.kdl_dict (knd := mixKind X.prog X.w) (kvs := vs) (ep := ep) lo) (I.ok.hd hc) hat lz fun h' tk acc hk it => ?_)))
    have la : acc.toList.length = ks.length := by rw [Array.length_toList, it.1, lv]
    have hi : IntsAre acc.toList ks := ints_each la fun j v e => by
      obtain ⟨k, x, e1, e2⟩ := it.2 j v (by rw [← Array.getElem?_toList]; exact e)
      have e3 : (vs.map (·.1))[j]? = some k := by rw [List.getElem?_map, e1]; rfl
      rw [hkeys] at e3
      obtain ⟨y, hy, rfl⟩ := get_map e3
      rcases keyIs_shape (show keyIs (.inl y) v = true from e2) with ⟨i, t, ek, ev⟩ | ⟨_, _, ek, _⟩
      · exact ⟨y, t, hy, by rw [ev, Sum.inl.inj ek]⟩
      · cases ek
    have I1 : Inv X pins σ H { s with heap := h', toks := tk } := I.kept hk
    refine wpAny_bind (wpAny_newList (by
      have hob : (h'.push (seqObj "list" acc.toList.toArray 0)).get? h'.objs.size = some (seqObj "list" acc.toList.toArray 0) := Heap.get?_push_size _ rfl
      show wpAny _ _ _ _ _ { s with heap := h'.push (seqObj "list" acc.toList.toArray 0), toks := tk }
      refine wpAny_bind (wpAny_holding (wpAny_call_entry PyProof.Rows.slot_list_sort ⟨_, hob, rfl⟩ PyProof.Rows.entry_list_sort
        (SrtO.list_sort_ord (s := { s with heap := h'.push (seqObj "list" acc.toList.toArray 0), toks := tk }) SrtO.swo_int hob (by rw [la, ← lv]; exact lz) (fun h2 => SrtO.ints_sortable hi h2) fun out h1 h2 => ⟨_, rfl, ?_⟩) (PyProof.Rows.args_list_sort _)))
      obtain ⟨k1, k2, k3⟩ := SrtO.ints_out hi h1 h2
      obtain ⟨en, hen⟩ := PyProof.Rows.sortedHeap_at (vs := acc.toList) (out := out.toArray) hob
      refine wpAny_pure ⟨_, rfl, .ref h'.objs.size, upd H h'.objs.size (.lst ((out.map SrtO.iv).map V.int)), I1.laid (t' := tk) (fun b u e => ?_) (Nat.le_refl _) (show ObjOk X.prog X.w _ _ _ (.lst ((out.map SrtO.iv).map V.int)) from ⟨?_, out, en, vals_of_ints k1, hen⟩), rfl, q _ _ k2 k3 (I1.hok.fresh (Nat.le_refl _))⟩
      · have hb : b < h'.objs.size := Heap.lt_size e
        rw [PyProof.Rows.sortedHeap_old (Nat.ne_of_lt hb) (by rw [size_push']; exact Nat.lt_succ_of_lt hb)]
        exact Heap.get?_push_of_some _ e
      · rw [List.length_map, k2.length_eq, ← lv]
        exact lz) (by rw [la, ← lv]; exact lz)))
end Wk
namespace Wk
open PySem PySem.Spec PyProof.Rows L2
/-! ### sorted(d.items()), int keys and int values -/
theorem paired_perm {α β : Type} {F : α → β → Prop} {as ts : List α} (h : as.Perm ts) : ∀ {hs : List β}, Paired F as hs → ∃ rows : List β, rows.Perm hs ∧ Paired F ts rows := by
  induction h with
  | nil => intro hs p; exact ⟨hs, .refl _, p⟩
  | cons x _ ih =>
    intro hs p
    cases p with
    | cons a b =>
      obtain ⟨rows, h1, h2⟩ := ih b
      exact ⟨_ :: rows, h1.cons _, .cons a h2⟩
  | swap x y l =>
    intro hs p
    cases p with
    | cons a b =>
      cases b with
      | cons c d => exact ⟨_, .swap _ _ _, .cons c (.cons a d)⟩
  | trans _ _ ih1 ih2 =>
    intro hs p
    obtain ⟨r1, p1, q1⟩ := ih1 p
    obtain ⟨r2, p2, q2⟩ := ih2 q1
    exact ⟨r2, p2.trans p1, q2⟩
def unref : Value → Addr
  | .ref a => a
  | _ => 0
theorem refs_perm {out : List Value} {as : List Addr} (h : out.Perm (as.map Value.ref)) : ∃ ts : List Addr, out = ts.map Value.ref ∧ as.Perm ts := by
  refine ⟨out.map unref, ?_, ?_⟩
  · rw [List.map_map]
    have : ∀ v ∈ out, v = (Value.ref ∘ unref) v := fun v hv => by
      obtain ⟨a, _, rfl⟩ := List.mem_map.mp (h.mem_iff.mp hv)
      rfl
    exact (List.map_id out).symm.trans (List.map_congr_left this)
  · have := h.map unref
    rw [List.map_map] at this
    have e : as.map (unref ∘ Value.ref) = as := (List.map_congr_left fun a _ => rfl).trans (List.map_id as)
    rw [e] at this
    exact this.symm
theorem tups_laid {X : Cx} {pins : List (Addr × Obj)} {σ : L2.St} {H : Hp} {s : Shared} {h' : Heap} {tk : Nat} {as : List Addr} {hs : List (Int × Int)} (I : Inv X pins σ H s) (hk : ∀ b o, s.heap.get? b = some o → h'.get? b = some o) (hl : as.length = hs.length) (nd : as.Nodup) (fr : ∀ a ∈ as, s.heap.objs.size ≤ a)
    (ct : ∀ (j : Nat) (a : Addr), as[j]? = some a → ∃ p k v, hs[j]? = some p ∧ RelV (.int p.1) k ∧ RelV (.int p.2) v ∧ h'.get? a = some { cls := .type "tuple", data := .seq #[k, v] }) :
    Same H (LiI.putT H as (hap hs)) ∧ Paired (fun t q => LiI.putT H as (hap hs) t = some (.tup (pV q))) as hs ∧ Inv X pins σ (LiI.putT H as (hap hs)) { s with heap := h', toks := tk } := by
  have new : ∀ a ∈ as, H a = none := fun a ha => I.hok.fresh (fr a ha)
  have off : ∀ b, b ∉ as → LiI.putT H as (hap hs) b = H b := fun b hb => LiI.putT_off as (hap hs) H hb
  have kp : ∀ b u, H b = some u → LiI.putT H as (hap hs) b = some u := fun b u e => by
    rw [off b fun z => by rw [new b z] at e; cases e]
    exact e
  have at0 := LiI.putT_at as (hap hs) H (by rw [hap_len]; exact hl) nd
  have at1 : Paired (fun t q => LiI.putT H as (hap hs) t = some (.tup (pV q))) as hs := by
    have gen : ∀ (as' : List Addr) (hs' : List (Int × Int)), Paired (fun (t : Addr) (p : Key × V) => LiI.putT H as (hap hs) t = some (.tup [kV p.1, p.2])) as' (hap hs') → Paired (fun t q => LiI.putT H as (hap hs) t = some (.tup (pV q))) as' hs' := by
      intro as'
      induction as' with
      | nil => intro hs' p; cases hs' with
        | nil => exact .nil
        | cons => cases p
      | cons a r ih => intro hs' p; cases hs' with
        | nil => cases p
        | cons q t =>
          cases p with
          | cons x y => exact .cons x (ih t y)
    exact gen as hs at0
  refine ⟨kp, at1, ?_⟩
  refine I.call' (ch := []) rfl ⟨fun b o q _ _ _ => hk b o q, fun b o q _ _ _ => ⟨o.slots, hk b o q⟩, fun b o q n _ => ?_, fun b o q _ => ⟨o, hk b o q⟩, fun b xs q => kp b _ q, fun b o u q => kp b _ q, fun b ps q => ⟨#[], by rw [kp b _ q]; simp⟩⟩ (fun b u q => ?_) I.bare fun b z => by simp at z
  · rw [off b fun z => Nat.lt_irrefl _ (Nat.lt_of_lt_of_le (Heap.lt_size q) (fr b z))]
    exact n
  · by_cases hb : b ∈ as
    · obtain ⟨j, hj⟩ := List.mem_iff_getElem?.mp hb
      obtain ⟨p, e1, e2⟩ := paired_get j b at1 hj
      rw [e2] at q
      cases q
      obtain ⟨p', k, v, f1, f2, f3, f4⟩ := ct j b hj
      rw [e1] at f1
      cases f1
      exact ⟨by show 2 ≤ sizeLine; decide, [k, v], .cons f2 (.cons f3 .nil), ⟨_, f4, rfl, _, rfl⟩⟩
    · rw [off b hb] at q
      exact (I.hok b u q).stay (fun d v _ y => hk d v y) (fun d y => kp d _ y) fun d xs y => kp d _ y
def tSortItems (te : TE) : TE := fun σ H Q => te σ H fun x H1 => ∃ d hs, x = .ref d ∧ H1 d = some (.dK (hap hs)) ∧ ∀ (H' : Hp) (p : Addr) (ts : List Addr) (rows : List (Int × Int)), Same H1 H' → H1 p = none → H' p = some (.lst (ts.map V.ref)) → rows.Perm hs → Paired (fun t q => H' t = some (.tup (pV q))) ts rows → Q (.ref p) H'
theorem pairs_at {h : Heap} {P : Program} {w : World} : ∀ {es : List DictEntry} {hs : List (Int × Int)} {vs : List (Key × Value)}, PySem.Pairs (mixKind P w) es vs → KV (hap hs) vs → es.length = hs.length ∧ ∀ (j : Nat) (e : DictEntry), es[j]? = some e → ∃ p, hs[j]? = some p ∧ RelV (.int p.1) e.key ∧ RelV (.int p.2) e.val
  | _, [], _, p, k => by
    cases k
    cases p
    exact ⟨rfl, fun j e h => by simp at h⟩
  | _, q :: hs, _, p, k => by
    cases k with
    | cons a b =>
      cases p with
      | cons e1 e2 e3 =>
        obtain ⟨r1, r2⟩ := pairs_at (h := h) e3 b
        obtain ⟨a1, a2⟩ := a
        rw [← a1] at e1
        refine ⟨congrArg (· + 1) r1, fun j e he => ?_⟩
        cases j with
        | zero =>
          have he := Option.some.inj he
          rw [← he]
          refine ⟨q, rfl, relV_key (show keyIs (.inl q.1) _ = true from e1), ?_⟩
          rw [e2]
          exact a2
        | succ j => exact r2 j e he
open Classical in
theorem choose_key {α : Type} {F : α → Int × Int → Prop} {l : List α} (h : ∀ v ∈ l, ∃ q, F v q) : ∃ key : α → Int × Int, ∀ v ∈ l, F v (key v) :=
  ⟨fun v => if c : ∃ q, F v q then c.choose else (0, 0), fun v hv => by
    have c := h v hv
    have e : (if c : ∃ q, F v q then c.choose else (0, 0)) = c.choose := dif_pos c
    simp only [e]
    exact c.choose_spec⟩
theorem pe_sortItems {X : Cx} {o : Expr} {te : TE} {p pos apos mpos : Pos} (hc : X.calm = true) (hg : Gl X "sorted") (hm : X.mg "sorted" = none) (he : PE X o te) (hbase : attributeBase o "items" X.env (eval o X.env) = eval o X.env := by rfl) (hline : (apos.endLine == mpos.line) = true := by rfl)
    (hse : starEach [Expr.Call (.Attribute o "items" apos) [] [] mpos] X.env = [(false, eval (Expr.Call (.Attribute o "items" apos) [] [] mpos) X.env)] := by rfl) : PE X (.Call (.Name "sorted" p) [.Call (.Attribute o "items" apos) [] [] mpos] [] pos) (tSortItems te) := by
  refine ⟨fun pins s σ H Q I q => ?_⟩
  refine wpAny_Call_Name_kw (ld_blt I hg hm (u := .builtin "sorted") (by first | rfl | decide +kernel) (by
    rw [hse]
    refine PySem.callWith_builtin1 (wpAny_Call_method0_late hbase hline (thn (he.run pins s σ H _ I q) fun u s1 ⟨x, H1, I1, rx, d, hs, ex, hd, q1⟩ => ?_))
    subst ex
    obtain rfl : u = Value.ref d := rx
    obtain ⟨z, sm, vs, kv, ob, es, ep, ho, hx, hdt, hko, prs, _⟩ := (show ObjOk X.prog X.w H1 s1.heap d (.dK (hap hs)) from I1.hok d _ hd)
    have raw : DT.Raw s1.heap d es ep := ⟨ob, ho, hx, hdt⟩
    obtain ⟨le, pa⟩ := pairs_at (h := s1.heap) prs kv
    rw [Array.length_toList] at le
    rw [hap_len] at z
    refine ⟨"dict", "dict.items", F.plainAttrs_dict, F.slot_dict_items, F.type_dict_items, raw.typeIs, fun b e => by cases e; exact ⟨ob, ho, hx.2.1⟩, Calls.callWith_builtin rfl (PySem.evalArgs_none (DT.callItems sm raw ?_))⟩
    have I2 : Inv X pins σ H1 { s1 with heap := s1.heap.push { cls := .type "dict_items", data := .fields #[.ref d] } } := I1.kept (t' := s1.toks) fun b ob y => Heap.get?_push_of_some _ y
    refine DT.sortedI (I.ok.hd hc) ⟨_, Heap.get?_push_size _ rfl, rfl, rfl⟩ (raw.push _) (by rw [le]; exact z) fun h' tk as hk hlt hl hG => ?_
    have ha : as.length = hs.length := hl.trans le
    have hob : (h'.push { cls := .type "list", data := .seq (as.map Value.ref).toArray }).get? h'.objs.size = some (seqObj "list" (as.map Value.ref).toArray 0) := Heap.get?_push_size _ rfl
    have pairs : ∀ v ∈ as.map Value.ref, ∃ q : Int × Int, (fun v (q : Int × Int) => Srt.IsPair (h'.push { cls := .type "list", data := .seq (as.map Value.ref).toArray }) v q.1 q.2) v q := fun v hv => by
      obtain ⟨a, ham, rfl⟩ := List.mem_map.mp hv
      obtain ⟨j, hj⟩ := List.mem_iff_getElem?.mp ham
      obtain ⟨e, e1, e2⟩ := hG.pairs j a hj
      obtain ⟨pq, _, ⟨t1, r1⟩, ⟨t2, r2⟩⟩ := pa j e (by rw [Array.getElem?_toList]; exact e1)
      refine ⟨pq, a, _, t1, t2, 0, rfl, Heap.get?_push_of_some _ e2, rfl, ?_⟩
      rw [r1, r2]
    have key := choose_key pairs
    obtain ⟨key, hkey⟩ := key
    refine wpAny_call_entry PyProof.Rows.slot_list_sort ⟨_, hob, rfl⟩ PyProof.Rows.entry_list_sort
      (SrtO.list_sort_ord (s := { s1 with heap := h'.push { cls := .type "list", data := .seq (as.map Value.ref).toArray }, toks := tk }) (SrtO.swo_lex key) hob (by rw [List.length_map, ha]; exact z) (fun h2 => SrtO.pairs_sortableO (by omega) hkey fun o e => ?_) fun out h1 h2 => ⟨.none, rfl, ?_⟩) (PyProof.Rows.args_list_sort _)
    · have e' : some o = some (seqObj "list" (as.map Value.ref).toArray 0) := e.symm.trans hob
      cases e'
      intro c
      have c : (Value.type "list") = .type "tuple" := c
      injection c with c
      exact absurd c (by decide)
    · obtain ⟨ts, rfl, pt⟩ := refs_perm h2.perm
      obtain ⟨en, hen⟩ := PyProof.Rows.sortedHeap_at (vs := as.map Value.ref) (out := (ts.map Value.ref).toArray) hob
      have old : ∀ b o, h'.get? b = some o → (PyProof.Rows.sortedHeap (h'.push { cls := .type "list", data := .seq (as.map Value.ref).toArray }) h'.objs.size (as.map Value.ref) (ts.map Value.ref).toArray).get? b = some o := fun b o e => by
        have hb : b < h'.objs.size := Heap.lt_size e
        rw [PyProof.Rows.sortedHeap_old (Nat.ne_of_lt hb) (by rw [Heap.size_push]; exact Nat.lt_succ_of_lt hb)]
        exact Heap.get?_push_of_some _ e
      have nd : as.Nodup := List.Pairwise.imp (fun {a b} (h : a < b) => Nat.ne_of_lt h) hG.rise
      obtain ⟨sm1, at1, J⟩ := tups_laid (h' := h') (tk := tk) I2 hk ha nd (fun a ham => Nat.le_of_lt (hG.above a ham)) fun j a hj => by
        obtain ⟨e, e1, e2⟩ := hG.pairs j a hj
        obtain ⟨pq, e3, r1, r2⟩ := pa j e (by rw [Array.getElem?_toList]; exact e1)
        exact ⟨pq, _, _, e3, r1, r2, e2⟩
      obtain ⟨rows, pr, at2⟩ := paired_perm pt at1
      have J2 := J.laid (t' := tk) (a := h'.objs.size) (o := .lst (ts.map V.ref)) old (Nat.le_refl _) ⟨by rw [List.length_map, ← pt.length_eq, ha]; exact z, ts.map Value.ref, en, LiI.vals_refs ts, hen⟩
      have nL := J.hok.fresh (Nat.le_refl h'.objs.size)
      have nL1 : H1 h'.objs.size = none := by
        cases e : H1 h'.objs.size with
        | none => rfl
        | some v => rw [sm1 _ _ e] at nL; cases nL
      refine ⟨.ref h'.objs.size, _, J2, rfl, q1 _ _ ts rows (sm1.trans (same_new nL)) nL1 upd_same pr (paired_imp (fun t q e => ?_) at2)⟩
      exact (same_new nL) _ _ e) (by first | decide +kernel | decide) (by first | decide +kernel | decide))
theorem q_lv {te : TE} {σ : L2.St} {H : Hp} {Q : VK} (h : te σ H fun x H1 => ∃ d kvs, x = .ref d ∧ H1 d = some (.dT kvs) ∧ ∀ p, H1 p = none → Q (.ref p) (upd H1 p (.lst (kvs.map (·.2))))) : tListVals te σ H Q := h
theorem q_si {te : TE} {σ : L2.St} {H : Hp} {Q : VK} (h : te σ H fun x H1 => ∃ d hs, x = .ref d ∧ H1 d = some (.dK (hap hs)) ∧ ∀ (H' : Hp) (p : Addr) (ts : List Addr) (rows : List (Int × Int)), Same H1 H' → H1 p = none → H' p = some (.lst (ts.map V.ref)) → rows.Perm hs → Paired (fun t q => H' t = some (.tup (pV q))) ts rows → Q (.ref p) H') : tSortItems te σ H Q := h
theorem q_i1 {i : Int} {R' : Int → Prop} {R : Prop} (q : R' i) : (∃ j, [V.int i] = [V.int j] ∧ R' j) ∨ R := .inl ⟨i, rfl, q⟩
theorem q_gsub {to ti : TE} {t : TSet} {v : V} {σ : L2.St} {H : Hp} {Q : L2.St → Hp → Prop} (h : to σ H fun o H1 => ti σ H1 fun i H2 => t o i v H2 fun H3 => Q σ H3) : gSub to ti t v σ H Q := h
end Wk
namespace Wk
open PySem PySem.Spec PyProof.Rows L2
/-- one step of a reading that hangs on no fact -/
local macro_rules | `(tactic| walk_at "rd1") => `(tactic| first
  | with_reducible apply q_c | ((with_reducible refine q_var (v := ?vv) ?hv ?hq); (case hv => exact rfl)) | with_reducible apply q_op | with_reducible apply q_un
  | with_reducible apply q_I0 | ((with_reducible refine q_I ?hc ?hq); (case hc => (first | exact Or.inl ⟨by decide, by decide⟩ | exact Or.inr ⟨by decide, by decide⟩ | exact ⟨by decide, by decide⟩ | exact ⟨by decide, by decide, by decide⟩ | (show (0 : Int) < _; decide) | omega)))
  | with_reducible apply q_U | with_reducible apply q_eqI | with_reducible apply q_neI | with_reducible apply q_isN | with_reducible apply q_notN
  | with_reducible apply q_test | with_reducible apply q_tb | with_reducible apply q_bl | with_reducible apply q_not
  | with_reducible apply q_ife | with_reducible apply q_nil | with_reducible apply q_cons | with_reducible apply q_call | with_reducible apply q_cb
  | with_reducible apply q_seq | with_reducible apply q_next | with_reducible apply q_asg | with_reducible apply q_name | with_reducible apply q_ret | with_reducible apply q_drop | with_reducible apply q_ifs
  | with_reducible apply q_tup | with_reducible apply q_lst | with_reducible apply q_andV | with_reducible apply q_orV | with_reducible apply q_notV
  | with_reducible apply q_bm | with_reducible apply q_iTup | with_reducible apply q_iList | with_reducible apply q_iR1 | with_reducible apply q_iR2 | with_reducible apply q_iEnT | with_reducible apply q_iEn | with_reducible apply q_lc | with_reducible apply q_for | with_reducible apply q_yes
  | with_reducible apply q_fld | with_reducible apply q_meth | with_reducible apply q_dget1 | with_reducible apply q_dget2 | with_reducible apply q_dget | with_reducible apply q_din | with_reducible apply q_dnotin | with_reducible apply q_dput | with_reducible apply q_sfld | with_reducible apply q_i1 | with_reducible apply q_gsub | with_reducible apply q_lv | with_reducible apply q_si | with_reducible apply q_dc | with_reducible apply q_sl | with_reducible apply q_po0 | with_reducible apply q_po1 | with_reducible apply q_int1 | with_reducible apply q_iR3 | with_reducible apply q_dc2 | with_reducible apply q_keysT | with_reducible apply q_make | with_reducible apply q_lstRg | with_reducible apply q_rg1 | with_reducible apply q_par | with_reducible apply q_par3 | with_reducible apply q_two | with_reducible apply q_three
  | with_reducible apply q_gcons | with_reducible apply q_gnil | with_reducible apply q_bl2)
/-- as many as there are -/
local macro_rules | `(tactic| walk_at "rd") => `(tactic| repeat walk_at "rd1")
/-- a heap fact, carried over what has been made since -/
local macro_rules | `(tactic| walk_at "hp") => `(tactic| first | assumption | (refine same_at (by assumption) ?_; walk_at "hp") | (refine tps_at (by assumption) ?_; walk_at "hp"))
/-- the closing's attributes -/
local macro_rules | `(tactic| walk_at "f.tasks") => `(tactic| refine ⟨_, _, _, _, _, rfl, ClAt.ob (by assumption), ClT.cl (by assumption), ClT.tasks (by assumption), fl_tasks, ?_⟩)
local macro_rules | `(tactic| walk_at "f.every") => `(tactic| refine ⟨_, _, _, _, _, rfl, ClAt.ob (by assumption), ClT.cl (by assumption), ClT.every (by assumption), fl_every, ?_⟩)
local macro_rules | `(tactic| walk_at "f.lines") => `(tactic| refine ⟨_, _, _, _, _, rfl, ClAt.ob (by assumption), ClT.cl (by assumption), ClT.lines (by assumption), fl_lines, ?_⟩)
local macro_rules | `(tactic| walk_at "f.mosts") => `(tactic| refine ⟨_, _, _, _, _, rfl, ClAt.ob (by assumption), ClT.cl (by assumption), ClT.mosts (by assumption), fl_mosts, ?_⟩)
local macro_rules | `(tactic| walk_at "f.waits") => `(tactic| refine ⟨_, _, _, _, _, rfl, ClAt.ob (by assumption), ClT.cl (by assumption), ClT.waits (by assumption), fl_waits, ?_⟩)
local macro_rules | `(tactic| walk_at "f.fault") => `(tactic| refine ⟨_, _, _, _, _, rfl, ClAt.ob (by assumption), ClT.cl (by assumption), ClT.fault (by assumption), fl_fault, ?_⟩)
section
variable {P : Program} {w : World} {K : PySem.W.Frag} {mg : Str → Option Value} {base : Heap} {f : Addr} {fd : FuncData}
/-! ### begin_of, end_of, is_end, owner_of -/
def spI (g : Int → V) : Sp := fun vs H Q _ => ∃ i, vs = [.int i] ∧ Q (g i) H
abbrev N_begin_of : List Str := ["task"]
theorem sc_begin_of : FnScope N_begin_of ["task"] (defScope (top 1)) := ⟨rfl, rfl, rfl, by decide +kernel, rfl, by decide +kernel, by decide +kernel⟩
theorem k_begin_of (A : At K mg "begin_of" (top 1) ["task"] f fd) : Def P w K mg base "begin_of" 1 ["task"] (spI fun i => .int (2 * i + 1)) := by
  refine A.ok sc_begin_of (fun vs H Q E h => ?_) (fun cdv A outer s H vs Q E hr h => ?_)
  · obtain ⟨i, rfl, _⟩ := h
    rfl
  · obtain ⟨i, rfl, q⟩ := h
    refine ⟨_, (pss_one (ps_ret (pe_op op_add (pe_op op_mul pe_int (pv 0)) pe_int))), ?_⟩
    walk_at "rd"
    exact q
abbrev N_end_of : List Str := ["task"]
theorem sc_end_of : FnScope N_end_of ["task"] (defScope (top 2)) := ⟨rfl, rfl, rfl, by decide +kernel, rfl, by decide +kernel, by decide +kernel⟩
theorem k_end_of (A : At K mg "end_of" (top 2) ["task"] f fd) : Def P w K mg base "end_of" 1 ["task"] (spI fun i => .int (2 * i + 2)) := by
  refine A.ok sc_end_of (fun vs H Q E h => ?_) (fun cdv A outer s H vs Q E hr h => ?_)
  · obtain ⟨i, rfl, _⟩ := h
    rfl
  · obtain ⟨i, rfl, q⟩ := h
    refine ⟨_, (pss_one (ps_ret (pe_op op_add (pe_op op_mul pe_int (pv 0)) pe_int))), ?_⟩
    walk_at "rd"
    exact q
abbrev N_is_end : List Str := ["event"]
theorem sc_is_end : FnScope N_is_end ["event"] (defScope (top 3)) := ⟨rfl, rfl, rfl, by decide +kernel, rfl, by decide +kernel, by decide +kernel⟩
theorem k_is_end (A : At K mg "is_end" (top 3) ["event"] f fd) : Def P w K mg base "is_end" 1 ["event"] (spI fun i => .bl (K95.isE i)) := by
  refine A.ok sc_is_end (fun vs H Q E h => ?_) (fun cdv A outer s H vs Q E hr h => ?_)
  · obtain ⟨i, rfl, _⟩ := h
    rfl
  · obtain ⟨i, rfl, q⟩ := h
    refine ⟨_, (pss_one (ps_ret (pe_and (pe_cmpR op_gt (pv 0) pe_int (nomark _)) (pe_one (pe_cmpR op_eq (pe_op op_mod (pv 0) pe_int) pe_int (nomark _)))))), ?_⟩
    walk_at "rd"
    have e : K95.isE i = (decide (0 < i) && decide (i % 2 = 0)) := rfl
    refine ite2 (fun c => ?_) (fun c => ?_)
    · walk_at "rd"
      rw [c] at e
      simp only [e, Bool.true_and] at q
      exact q
    · rw [eq_false_of_ne_true c] at e
      simp only [e, Bool.false_and] at q
      exact q
/-- the owner; None of event 0 -/
def ownV (i : Int) : V := if i = 0 then .non else .int (K95.own i)
abbrev N_owner_of : List Str := ["event"]
theorem sc_owner_of : FnScope N_owner_of ["event"] (defScope (top 4)) := ⟨rfl, rfl, rfl, by decide +kernel, rfl, by decide +kernel, by decide +kernel⟩
theorem k_owner_of (A : At K mg "owner_of" (top 4) ["event"] f fd) : Def P w K mg base "owner_of" 1 ["event"] (spI ownV) := by
  refine A.ok sc_owner_of (fun vs H Q E h => ?_) (fun cdv A outer s H vs Q E hr h => ?_)
  · obtain ⟨i, rfl, _⟩ := h
    rfl
  · obtain ⟨i, rfl, q⟩ := h
    refine ⟨_, (pss_one (ps_ret (pe_ifExp (pt_cmpR op_eq (pv 0) pe_int (nomark _)) pe_non (pe_op op_fdiv (pe_op op_sub (pv 0) pe_int) pe_int)))), ?_⟩
    walk_at "rd"
    unfold ownV at q
    refine ite2 (fun c => ?_) (fun c => ?_)
    · rw [if_pos (of_decide_eq_true c)] at q
      walk_at "rd"
      exact q
    · rw [if_neg (fun z => c (decide_eq_true z))] at q
      walk_at "rd"
      exact q
end
section
variable {P : Program} {w : World} {K : PySem.W.Frag} {mg : Str → Option Value} {base : Heap} {f : Addr} {fd : FuncData}
theorem i62 {n : Nat} (h : n ≤ 1000000) : -(2 ^ 62) ≤ ((n : Nat) : Int) ∧ ((n : Nat) : Int) < 2 ^ 62 := by
  have : ((n : Nat) : Int) ≤ 1000000 := by omega
  have e : (1000000 : Int) < 2 ^ 62 := by decide
  have e2 : -(2 ^ 62) ≤ (0 : Int) := by decide
  omega
theorem ints_take {n i : Nat} (h : i < n) : (K95.itsL n)[i]? = some ((i : Nat) : Int) := by
  unfold K95.itsL
  rw [List.getElem?_map, List.getElem?_range h]
  rfl
/-! ### all_bounds -/
abbrev N_all_bounds : List Str := ["brief", "tasks", "arrows", "limits", "deadline", "found", "i", "j", "task", "low", "high"]
theorem sc_all_bounds : FnScope N_all_bounds ["brief"] (defScope (top 5)) := ⟨rfl, rfl, rfl, by decide +kernel, rfl, by decide +kernel, by decide +kernel⟩
-- slots: brief 0, tasks 1, arrows 2, limits 3, deadline 4, found 5, i 6, j 7, task 8, low 9, high 10
/-- the promise of all_bounds: a new list of the bounds -/
def spBounds : Sp := fun vs H Q _ => ∃ v B, vs = [v] ∧ IsBr H v B ∧ B.WF ∧ ∀ D H', H D = none → Same H H' → Rows tV H' D (K95.bounds B) → Q (.ref D) H'
theorem k_all_bounds (A : At K mg "all_bounds" (top 5) ["brief"] f fd) (bi : Bi mg) (D_begin_of : Def P w K mg base "begin_of" 1 ["task"] (spI fun i => .int (2 * i + 1))) (D_end_of : Def P w K mg base "end_of" 1 ["task"] (spI fun i => .int (2 * i + 2))) :
    Def P w K mg base "all_bounds" 2 ["brief"] spBounds := by
  refine A.ok sc_all_bounds (fun vs H Q E h => ?_) (fun cdv A outer s H vs Q E hr h => ?_)
  · obtain ⟨i, B, rfl, _⟩ := h
    rfl
  · obtain ⟨v, B, rfl, hB, wf, q⟩ := h
    refine ⟨_, (pss_cons (ps_asg (pv 0) (pg_tup rfl (pgs_cons (pg_tup rfl (pgs_cons (pg_name (i := 1) sc_all_bounds.nd rfl (.inl rfl)) (pgs_cons (pg_name (i := 2) sc_all_bounds.nd rfl (.inl rfl)) pgs_nil))) (pgs_cons (pg_name (i := 3) sc_all_bounds.nd rfl (.inl rfl)) (pgs_cons (pg_name (i := 4) sc_all_bounds.nd rfl (.inr rfl)) pgs_nil)))))
    (pss_cons (ps_set (i := 5) sc_all_bounds.nd rfl (.inl rfl) (pe_callTy call_list_of (by rfl) bi.list (by decide +kernel) (pa_cons (pv 3) pa_nil)))
    (pss_cons (ps_expr (pe_bm PySem.F.plainAttrs_list PySem.F.slot_list_extend PySem.F.type_list_extend mt_extend (pv 5) (pa_cons (pe_lc (own := [("i", 6), ("j", 7)]) (g := gTup K 2 (gCons (gName 6) (gCons (gName 7) gNil))) rfl sc_all_bounds.nd (pi_tup (pv 2)) (blkOk_by (own := [("i", 6), ("j", 7)]) (N := N_all_bounds) (sc := defScope (top 5)) (by decide +kernel)) (fun _ _ _ _ _ => (pg_tup rfl (pgs_cons (pg_name (i := 6) sc_all_bounds.nd rfl (.inl rfl)) (pgs_cons (pg_name (i := 7) sc_all_bounds.nd rfl (.inl rfl)) pgs_nil)))) (fun _ _ _ _ _ => pts_nil) (fun _ _ _ _ _ => (pe_tup (pa_cons (pe_d D_begin_of hr (by rfl) (pa_cons (pv 7) pa_nil)) (pa_cons (pe_d D_end_of hr (by rfl) (pa_cons (pv 6) pa_nil)) (pa_cons pe_int pa_nil)))))) pa_nil)))
    (pss_cons (ps_expr (pe_bm PySem.F.plainAttrs_list PySem.F.slot_list_extend PySem.F.type_list_extend mt_extend (pv 5) (pa_cons (pe_lc (own := [("task", 8)]) (g := gName 8) rfl sc_all_bounds.nd (pi_range1 (by rfl) bi.range (pa_cons (pe_callB call_len_seq (by rfl) bi.len PySem.boot_len (pa_cons (pv 1) pa_nil)) pa_nil)) (blkOk_by (own := [("task", 8)]) (N := N_all_bounds) (sc := defScope (top 5)) (by decide +kernel)) (fun _ _ _ _ _ => (pg_name (i := 8) sc_all_bounds.nd rfl (.inl rfl))) (fun _ _ _ _ _ => pts_nil) (fun _ _ _ _ _ => (pe_tup (pa_cons pe_int (pa_cons (pe_d D_end_of hr (by rfl) (pa_cons (pv 8) pa_nil)) (pa_cons (pv 4) pa_nil)))))) pa_nil)))
    (pss_cons (ps_expr (pe_bm PySem.F.plainAttrs_list PySem.F.slot_list_extend PySem.F.type_list_extend mt_extend (pv 5) (pa_cons (pe_lc (own := [("task", 8)]) (g := gName 8) rfl sc_all_bounds.nd (pi_range1 (by rfl) bi.range (pa_cons (pe_callB call_len_seq (by rfl) bi.len PySem.boot_len (pa_cons (pv 1) pa_nil)) pa_nil)) (blkOk_by (own := [("task", 8)]) (N := N_all_bounds) (sc := defScope (top 5)) (by decide +kernel)) (fun _ _ _ _ _ => (pg_name (i := 8) sc_all_bounds.nd rfl (.inl rfl))) (fun _ _ _ _ _ => pts_nil) (fun _ _ _ _ _ => (pe_tup (pa_cons (pe_d D_begin_of hr (by rfl) (pa_cons (pv 8) pa_nil)) (pa_cons pe_int (pa_cons pe_int pa_nil)))))) pa_nil)))
    (pss_cons (ps_for PassesOwn.never rfl (pi_enumT (by rfl) bi.enumerate (pa_cons (pv 1) pa_nil)) (pg_tup rfl (pgs_cons (pg_name (i := 8) sc_all_bounds.nd rfl (.inl rfl)) (pgs_cons (pg_tup rfl (pgs_cons (pg_name (i := 9) sc_all_bounds.nd rfl (.inl rfl)) (pgs_cons (pg_name (i := 10) sc_all_bounds.nd rfl (.inl rfl)) pgs_nil))) pgs_nil)))
      (pss_cons (ps_expr (pe_bm PySem.F.plainAttrs_list PySem.F.slot_list_append PySem.F.type_list_append mt_append (pv 5) (pa_cons (pe_tup (pa_cons (pe_d D_begin_of hr (by rfl) (pa_cons (pv 8) pa_nil)) (pa_cons (pe_d D_end_of hr (by rfl) (pa_cons (pv 8) pa_nil)) (pa_cons (pv 10) pa_nil)))) pa_nil)))
      (pss_one (ps_expr (pe_bm PySem.F.plainAttrs_list PySem.F.slot_list_append PySem.F.type_list_append mt_append (pv 5) (pa_cons (pe_tup (pa_cons (pe_d D_end_of hr (by rfl) (pa_cons (pv 8) pa_nil)) (pa_cons (pe_d D_begin_of hr (by rfl) (pa_cons (pv 8) pa_nil)) (pa_cons (pe_un un_neg (pv 9)) pa_nil)))) pa_nil))))))
    (pss_one (ps_ret (pv 5))))))))), ?_⟩
    obtain ⟨vp, vl, ⟨a, rfl, ha⟩, ⟨vt, va, ⟨ap, rfl, hp⟩, ht, hA⟩, hL⟩ := hB
    obtain ⟨ts, ⟨at', rfl, ht1⟩, ht2⟩ := ht
    obtain ⟨as, ⟨aa, rfl, hA1⟩, hA2⟩ := hA
    obtain ⟨ls, ⟨al, rfl, hL1⟩, hL2⟩ := hL
    have ltm : ts.length = B.m := ht2.length
    have m4 := wf.m4
    have lal : as.length ≤ 16 := by rw [hA2.length]; exact wf.arl
    have lll : ls.length ≤ 20 := by rw [hL2.length]; exact wf.lil
    walk_at "rd"
    refine q_gtup (SqT.of ha) rfl ?_
    walk_at "rd"
    refine q_gtup (SqT.of hp) rfl ?_
    walk_at "rd"
    -- found = list(limits)
    refine ⟨al, ls, rfl, .inr (SqT.of hL1), fun F nF => ?_⟩
    have r1 : Rows tV (upd H F (.lst ls)) F B.limits := ⟨ls, upd_same, paired_imp (fun _ _ q => q.tps (same_tps (same_new nF))) hL2⟩
    have s1 : Same H (upd H F (.lst ls)) := same_new nF
    generalize upd H F (.lst ls) = H1 at r1 s1
    walk_at "rd"
    -- found.extend of the arrows
    refine ⟨isL r1.len.choose_spec.1, ?_⟩
    walk_at "rd"
    refine ⟨aa, rfl, ⟨as, SqT.of (s1 _ _ hA1)⟩, fun D nD => ?_⟩
    refine lc_it (walk_tup (xs := as)) (fun i H2 => Same H1 H2 ∧ Rows tV H2 D ((B.arrows.take i).map fun p => (2 * p.2 + 1, 2 * p.1 + 2, 0))) ⟨same_new nD, Rows.nil D⟩ (fun i H2 _ ⟨s2, _⟩ => SqT.of (s2 _ _ (s1 _ _ hA1))) (fun i x H2 H3 hi ⟨s2, r2⟩ hy => ?_) (fun H2 ⟨s2, r2⟩ => ?_)
    · obtain ⟨rfl, hx⟩ := hy
      obtain ⟨p, hp1, ax, rfl, hax⟩ := paired_get i x hA2 hx
      refine q_gtup (SqT.of (s2 _ _ (s1 _ _ hax))) rfl ?_
      walk_at "rd"
      refine ⟨rfl, ?_⟩
      walk_at "rd"
      refine iteT ?_
      walk_at "rd"
      refine ⟨p.2, rfl, ?_⟩
      walk_at "rd"
      refine ⟨p.1, rfl, ?_⟩
      walk_at "rd"
      refine ⟨Nat.le_of_ble_eq_true rfl, fun z nz => ?_⟩
      obtain ⟨acc, e1, e2, e3, e4⟩ := rows_app s2 nD r2 (same_new nz) (Tu.new (xs := tV (2 * p.2 + 1, 2 * p.1 + 2, 0)))
      refine ⟨acc, e1, size_ok (by rw [e2, List.length_map, List.length_take]; omega), e3, ?_⟩
      rw [take_snoc hp1, List.map_append]
      exact e4
    · rw [List.take_of_length_le (by rw [← hA2.length]; exact Nat.le_refl _)] at r2
      walk_at "rd"
      obtain ⟨xs, zs, g1, g2, l1, l2, s3, r3⟩ := rows_ext (s1.trans s2) nF (r1.same s2) r2
      rw [List.length_map, ← hA2.length] at l2
      rw [← hL2.length] at l1
      refine ⟨F, D, xs, zs, rfl, rfl, g1, g2, Nat.le_of_lt (size_ok (by omega)), ?_⟩
      generalize upd H2 F (.lst (xs ++ zs)) = H3 at r3 s3
      clear g1 g2 s2 r2
      walk_at "rd"
      -- the deadline's bounds
      refine ⟨isL r3.len.choose_spec.1, ?_⟩
      walk_at "rd"
      refine ⟨at', ts, rfl, .inr (SqT.of (s3 _ _ ht1)), ?_⟩
      walk_at "rd"
      refine ⟨_, rfl, (i62 (by omega)).1, (i62 (by omega)).2, fun D2 nD2 => ?_⟩
      have en : ((ts.length : Int)).toNat = B.m := by omega
      rw [en]
      refine lc_it walk_r0 (fun i H2 => Same H3 H2 ∧ Rows tV H2 D2 (((K95.itsL B.m).take i).map fun i => (0, 2 * i + 2, B.dl))) ⟨same_new nD2, Rows.nil D2⟩ (fun _ _ _ _ => trivial) (fun i x H4 H5 hi ⟨s4, r4⟩ hy => ?_) (fun H4 ⟨s4, r4⟩ => ?_)
      · obtain ⟨rfl, rfl⟩ := hy
        walk_at "rd"
        refine ⟨rfl, ?_⟩
        walk_at "rd"
        refine iteT ?_
        walk_at "rd"
        refine ⟨_, rfl, ?_⟩
        walk_at "rd"
        refine ⟨Nat.le_of_ble_eq_true rfl, fun z nz => ?_⟩
        obtain ⟨acc, e1, e2, e3, e4⟩ := rows_app s4 nD2 r4 (same_new nz) (Tu.new (xs := tV (0, 2 * ((i : Nat) : Int) + 2, B.dl)))
        refine ⟨acc, e1, size_ok (by rw [e2, List.length_map, List.length_take]; omega), e3, ?_⟩
        rw [take_snoc (ints_take hi), List.map_append]
        exact e4
      · rw [List.take_of_length_le (by rw [K95.ints_len]; exact Nat.le_refl _)] at r4
        walk_at "rd"
        obtain ⟨xs2, zs2, g1, g2, l3, l4, s5, r5⟩ := rows_ext (s3.trans s4) nF (r3.same s4) r4
        rw [List.length_map, K95.ints_len] at l4
        rw [List.length_append, List.length_map, ← hL2.length, ← hA2.length] at l3
        refine ⟨F, D2, xs2, zs2, rfl, rfl, g1, g2, Nat.le_of_lt (size_ok (by omega)), ?_⟩
        generalize upd H4 F (.lst (xs2 ++ zs2)) = H6 at r5 s5
        clear g1 g2 s4 r4 r3 r1 s1
        walk_at "rd"
        -- the begins' bounds
        refine ⟨isL r5.len.choose_spec.1, ?_⟩
        walk_at "rd"
        refine ⟨at', ts, rfl, .inr (SqT.of (s5 _ _ ht1)), ?_⟩
        walk_at "rd"
        refine ⟨_, rfl, (i62 (by omega)).1, (i62 (by omega)).2, fun D3 nD3 => ?_⟩
        rw [en]
        refine lc_it walk_r0 (fun i H2 => Same H6 H2 ∧ Rows tV H2 D3 (((K95.itsL B.m).take i).map fun i => (2 * i + 1, 0, 0))) ⟨same_new nD3, Rows.nil D3⟩ (fun _ _ _ _ => trivial) (fun i x H7 H8 hi ⟨s7, r7⟩ hy => ?_) (fun H7 ⟨s7, r7⟩ => ?_)
        · obtain ⟨rfl, rfl⟩ := hy
          walk_at "rd"
          refine ⟨rfl, ?_⟩
          walk_at "rd"
          refine iteT ?_
          walk_at "rd"
          refine ⟨_, rfl, ?_⟩
          walk_at "rd"
          refine ⟨Nat.le_of_ble_eq_true rfl, fun z nz => ?_⟩
          obtain ⟨acc, e1, e2, e3, e4⟩ := rows_app s7 nD3 r7 (same_new nz) (Tu.new (xs := tV (2 * ((i : Nat) : Int) + 1, 0, 0)))
          refine ⟨acc, e1, size_ok (by rw [e2, List.length_map, List.length_take]; omega), e3, ?_⟩
          rw [take_snoc (ints_take hi), List.map_append]
          exact e4
        · rw [List.take_of_length_le (by rw [K95.ints_len]; exact Nat.le_refl _)] at r7
          walk_at "rd"
          obtain ⟨xs3, zs3, g1, g2, l5, l6, s8, r8⟩ := rows_ext (s5.trans s7) nF (r5.same s7) r7
          rw [List.length_map, K95.ints_len] at l6
          rw [List.length_append, List.length_append, List.length_map, List.length_map, K95.ints_len, ← hL2.length, ← hA2.length] at l5
          refine ⟨F, D3, xs3, zs3, rfl, rfl, g1, g2, Nat.le_of_lt (size_ok (by omega)), ?_⟩
          generalize upd H7 F (.lst (xs3 ++ zs3)) = H9 at r8 s8
          clear g1 g2 s7 r7 r5 s5 s3
          walk_at "rd"
          refine ⟨at', ts, rfl, SqT.of (s8 _ _ ht1), ?_⟩
          refine for_it walk_enumT (fun i σ H' => ∃ y8 y9 y10, σ = [some (.ref a), some (.ref at'), some (.ref aa), some (.ref al), some (.int B.dl), some (.ref F), none, none, y8, y9, y10] ∧ Same H H' ∧
            Rows tV H' F (B.limits ++ B.arrows.map (fun p => (2 * p.2 + 1, 2 * p.1 + 2, 0)) ++ (K95.itsL B.m).map (fun i => (0, 2 * i + 2, B.dl)) ++ (K95.itsL B.m).map (fun i => (2 * i + 1, 0, 0))
              ++ (((K95.itsL B.m).take i).map fun i => [(2 * i + 1, 2 * i + 2, B.hi i), (2 * i + 2, 2 * i + 1, -B.lo i)]).flatten)) ⟨none, none, none, rfl, s8, by rw [List.take_zero, List.map_nil, List.flatten_nil, List.append_nil]; exact r8⟩
            (fun i σ H' _ ⟨_, _, _, _, s9, _⟩ => s9 _ _ ht1) (fun i x σ Ha Hb hi ⟨y8, y9, y10, eσ, s9, r9⟩ hy => ?_) (fun σ Ha ⟨y8, y9, y10, eσ, s9, r9⟩ => ?_)
          · subst eσ
            obtain ⟨T, ix, z, rfl, nT, rfl, hix, hz⟩ := hy
            cases hix
            obtain ⟨p, hp1, ax, rfl, hax⟩ := paired_get i z ht2 hz
            obtain ⟨elo, ehi⟩ := lo_at hp1
            have sT := same_new (o := .tup [.int (i : Nat), .ref ax]) nT
            refine q_gtup (SqT.of upd_same) rfl ?_
            walk_at "rd"
            refine q_gtup (SqT.of (sT _ _ (s9 _ _ hax))) rfl ?_
            walk_at "rd"
            refine ⟨isL (r9.same sT).len.choose_spec.1, ?_⟩
            walk_at "rd"
            refine ⟨_, rfl, ?_⟩
            walk_at "rd"
            refine ⟨_, rfl, ?_⟩
            walk_at "rd"
            refine ⟨Nat.le_of_ble_eq_true rfl, fun z nz => ?_⟩
            obtain ⟨acc, e1, e2, e3, e4⟩ := rows_app (s9.trans sT) nF (r9.same sT) (same_new nz) (Tu.new (xs := tV (2 * ((i : Nat) : Int) + 1, 2 * ((i : Nat) : Int) + 2, p.2)))
            have hlen : acc.length ≤ 200 := by
              rw [e2]
              simp only [List.length_append, List.length_map, K95.ints_len, List.length_flatten]
              rw [← hL2.length, ← hA2.length, List.map_map]
              have := K95.sum_const (List.length ∘ fun i => [(2 * i + 1, 2 * i + 2, B.hi i), (2 * i + 2, 2 * i + 1, -B.lo i)]) 2 ((K95.itsL B.m).take i) fun _ _ => Nat.le_refl 2
              rw [List.length_take, K95.ints_len] at this
              omega
            walk_at "rd"
            refine ⟨F, acc, _, rfl, rfl, e1, size_ok (by omega), ?_⟩
            generalize upd _ F (.lst (acc ++ [V.ref z])) = Hc at e3 e4
            walk_at "rd"
            refine ⟨isL e4.len.choose_spec.1, ?_⟩
            walk_at "rd"
            refine ⟨_, rfl, ?_⟩
            walk_at "rd"
            refine ⟨_, rfl, ?_⟩
            walk_at "rd"
            refine ⟨Nat.le_of_ble_eq_true rfl, fun z2 nz2 => ?_⟩
            obtain ⟨acc2, f1, f2, f3, f4⟩ := rows_app e3 nF e4 (same_new nz2) (Tu.new (xs := tV (2 * ((i : Nat) : Int) + 2, 2 * ((i : Nat) : Int) + 1, -p.1)))
            walk_at "rd"
            refine ⟨F, acc2, _, rfl, rfl, f1, size_ok (by rw [f2, List.length_append, ← e2]; show acc.length + 1 ≤ _; omega), ?_⟩
            refine ⟨_, _, _, rfl, f3, ?_⟩
            rw [take_snoc (ints_take (by omega)), List.map_append, List.flatten_append]
            simp only [List.append_assoc, List.map_cons, List.map_nil, List.flatten_cons, List.flatten_nil, List.append_nil, List.cons_append, List.nil_append] at f4 ⊢
            rw [elo, ehi]
            exact f4
          · subst eσ
            rw [List.take_of_length_le (by rw [K95.ints_len]; omega)] at r9
            walk_at "rd"
            exact q F Ha nF s9 r9
end
section
variable {P : Program} {w : World} {K : PySem.W.Frag} {mg : Str → Option Value} {base : Heap} {f C : Addr} {fd : FuncData}
theorem spM_len {F : K95.Br → List V → Hp → K95.Cl → K95.Cl × Bool → Prop} {n L : Nat} (h : ∀ B us H s p, F B us H s p → us.length = n) {vs : List V} {H : Hp} {Q : VK} {E : XK} (q : spM C L F vs H Q E) : vs.length = n + 1 := by
  obtain ⟨o, B, s, us, p, rfl, _, _, _, _, hf, _⟩ := q
  rw [List.length_cons, h _ _ _ _ _ hf]
abbrev N_cl_offer_most : List Str := ["self", "a", "b", "w", "reason", "known"]
theorem sc_cl_offer_most : FnScope N_cl_offer_most ["self", "a", "b", "w", "reason"] (defScope (inClass (top 7) 1)) := ⟨rfl, rfl, rfl, by decide +kernel, rfl, by decide +kernel, by decide +kernel⟩
-- slots: self 0, a 1, b 2, w 3, reason 4, known 5
theorem k_offer_most (A : MAt K C "offer_most" "Closing.offer_most" (inClass (top 7) 1) ["self", "a", "b", "w", "reason"] f fd) (bi : Bi mg) (T : ClT K C) :
    MDef P w K mg base C "offer_most" 1 ["self", "a", "b", "w", "reason"] (spM C 90000 fOffM) := by
  refine A.ok sc_cl_offer_most (fun vs H Q E h => spM_len (n := 4) (fun _ _ _ _ _ ⟨_, _, _, _, _, e, _⟩ => by rw [e]; rfl) h) (fun cdv A outer s H vs Q E hr h => ?_)
  obtain ⟨o, B, s, us, p, rfl, c, wf, g, hl, ⟨a, b, w, r, rv, rfl, hrv, rfl⟩, q⟩ := h
  have hu := hu_of hr
  refine ⟨_, (pss_cons (ps_set (i := 5) sc_cl_offer_most.nd rfl (.inl rfl) (pe_dget1 hu (pe_fld (pv 0) rfl) (pe_tup (pa_cons (pv 1) (pa_cons (pv 2) pa_nil))) ⟨rfl, rfl, rfl, rfl⟩))
    (pss_cons (ps_if (PW.pt (pw_or (PW.pt (pw_and (pt_cmpR op_eq (pv 1) (pv 2) (nomark _)) (pw_and1 (pt_cmpR op_ge (pv 3) pe_int (nomark _))))) (pw_or1 (PW.pt (pw_and (pt_cmpR op_notN (pv 5) pe_non (nomark _)) (pw_and1 (pt_cmpR op_le (pe_ix ix_tup (pe_ix ix_list (pe_fld (pv 0) rfl) (pv 5) (fun _ _ => rfl)) pe_int (fun _ _ => rfl)) (pv 3) (nomark _))))))))
      (pss_one (ps_ret pe_bl))
      pss_nil)
    (pss_cons (ps_if (pt_cmpR op_eq (pv 1) (pv 2) (nomark _))
      (pss_one (ps_fld (pv 0) (pe_callB call_len_seq (by rfl) bi.len PySem.boot_len (pa_cons (pe_fld (pv 0) rfl) pa_nil)) rfl))
      pss_nil)
    (pss_cons (ps_dput hu (pe_fld (pv 0) rfl) (pe_tup (pa_cons (pv 1) (pa_cons (pv 2) pa_nil))) (pe_callB call_len_seq (by rfl) bi.len PySem.boot_len (pa_cons (pe_fld (pv 0) rfl) pa_nil)) rfl)
    (pss_cons (ps_expr (pe_bm PySem.F.plainAttrs_list PySem.F.slot_list_append PySem.F.type_list_append mt_append (pe_fld (pv 0) rfl) (pa_cons (pe_tup (pa_cons pe_str (pa_cons (pv 1) (pa_cons (pv 2) (pa_cons (pv 3) (pa_cons (pv 4) pa_nil)))))) pa_nil)))
    (pss_one (ps_ret pe_bl))))))), ?_⟩
  walk_at "rd"
  walk_at "f.mosts"
  refine ⟨o.dm, rfl, .inr ⟨_, .inl c.mo⟩, ?_⟩
  walk_at "rd"
  refine ⟨Nat.le_of_ble_eq_true rfl, fun z nz => ?_⟩
  have c1 := c.same (same_new (o := .tup [.int a, .int b]) nz)
  have r1 := hrv.tps (same_tps (same_new (o := .tup [.int a, .int b]) nz))
  have k1 : Keep o H (upd H z (.tup [.int a, .int b])) := same_keep (same_new nz)
  refine ⟨_, c1.getM upd_same, ?_⟩
  generalize upd H z (.tup [.int a, .int b]) = H1 at c1 r1 k1
  walk_at "rd"
  refine useT (c := (decide (a = b) && decide (0 ≤ w)) || K95.knows (s.mo a b) fun v => decide (v ≤ w)) (tst_or (tst_and (fun Qb q => ?_) fun _ Qb q => ?_) fun _ => ?_) ?_
  · walk_at "rd"
    exact q
  · walk_at "rd"
    exact q
  · unfold K95.Cl.mo
    cases hk : K95.look s.mosts (a, b) with
    | none =>
      refine tst_and (c := false) (d := true) (fun Qb q => ?_) (fun e => nomatch e)
      walk_at "rd"
      refine ⟨rfl, ?_⟩
      walk_at "rd"
      exact q
    | some k =>
      obtain ⟨x, hx, _⟩ := g.mo a b k hk
      refine tst_and (c := true) (fun Qb q => ?_) (fun _ Qb q => ?_)
      · walk_at "rd"
        refine ⟨rfl, ?_⟩
        walk_at "rd"
        exact q
      · walk_at "rd"
        walk_at "f.lines"
        obtain ⟨vs, ax, rr, h1, h2, h3, _⟩ := c1.line hx
        walk_at "rd"
        refine q_ixL (SqL.of h1) (atN h2) ?_
        walk_at "rd"
        refine q_ixT (SqT.of h3) rfl ?_
        walk_at "rd"
        rw [K95.wOf_of hx] at q
        exact q
  unfold K95.offM at q
  refine ite2 (fun e => ?_) (fun e => ?_)
  · rw [if_pos e] at q
    walk_at "rd"
    exact q _ c1 k1
  · rw [if_neg e] at q
    walk_at "rd"
    obtain ⟨vs0, hv0, lv0⟩ := c1.len
    refine ifN (fun H2 => ClAt C B H2 o ⟨s.lines, s.mosts, s.waits, if a = b then some s.lines.length else s.fault⟩ ∧ Keep o H H2 ∧ Tu H2 rv (rsV r)) (fun H2 ⟨c2, k2, r2⟩ => ?_) (fun hk e2 => ?_) (fun e2 => ?_)
    · obtain ⟨vs, hv, lv⟩ := c2.len
      have lv : vs.length = s.lines.length := lv
      walk_at "rd"
      walk_at "f.lines"
      refine ⟨o.al, vs, rfl, .inl (SqL.of hv), ?_⟩
      walk_at "rd"
      walk_at "f.mosts"
      walk_at "rd"
      refine ⟨Nat.le_of_ble_eq_true rfl, fun z nz => ?_⟩
      have c3 := c2.same (same_new (o := .tup [.int a, .int b]) nz)
      have hz : (upd H2 z (.tup [.int a, .int b])) z = some (.tup [.int a, .int b]) := upd_same
      have k3 : Keep o H (upd H2 z (.tup [.int a, .int b])) := k2.trans (same_keep (same_new nz))
      have r3 := r2.tps (same_tps (same_new (o := .tup [.int a, .int b]) nz))
      generalize upd H2 z (.tup [.int a, .int b]) = H3 at c3 hz k3 r3
      rw [lv]
      refine ⟨o.dm, _, rfl, DPut.t (k := tk (a, b)) (v := nV s.lines.length) c3.mo hz (by rw [kvT_len]; exact size_ok (show s.mosts.length ≤ _ from Nat.le_trans (K95.mosts_len wf g) (by decide))), ?_⟩
      have c4 := c3.setM a b s.lines.length
      have k4 := k3.trans (keep_m (u := .dT (putK (kvT nV s.mosts) (tk (a, b)) (nV s.lines.length))))
      have r4 := r3.tps ((keep_m (u := .dT (putK (kvT nV s.mosts) (tk (a, b)) (nV s.lines.length)))).tps c3)
      generalize upd H3 o.dm (.dT (putK (kvT nV s.mosts) (tk (a, b)) (nV s.lines.length))) = H4 at c4 k4 r4
      walk_at "rd"
      walk_at "f.lines"
      obtain ⟨vs4, hv4, lv4⟩ := c4.len
      have lv4 : vs4.length = s.lines.length := lv4
      refine ⟨isL hv4, ?_⟩
      walk_at "rd"
      refine ⟨Nat.le_of_ble_eq_true rfl, fun y ny => ?_⟩
      have c5 := c4.same (same_new (o := .tup [.str "most", .int a, .int b, .int w, rv]) ny)
      have k5 : Keep o H (upd H4 y (.tup [.str "most", .int a, .int b, .int w, rv])) := k4.trans (same_keep (same_new ny))
      have l5 : LnV (upd H4 y (.tup [.str "most", .int a, .int b, .int w, rv])) (.ref y) ⟨false, a, b, w, r⟩ := ⟨rv, ⟨y, rfl, upd_same⟩, r4.tps (same_tps (same_new ny))⟩
      have hv5 : (upd H4 y (.tup [.str "most", .int a, .int b, .int w, rv])) o.al = some (.lst vs4) := (same_new ny) _ _ hv4
      generalize upd H4 y (.tup [.str "most", .int a, .int b, .int w, rv]) = H5 at c5 k5 l5 hv5
      refine ⟨o.al, vs4, _, rfl, rfl, hv5, size_ok (by omega), ?_⟩
      walk_at "rd"
      exact q _ (c5.setL hv5 l5) (k5.trans keep_l)
    · walk_at "rd"
      walk_at "f.lines"
      refine ⟨o.al, vs0, rfl, .inl (SqL.of hv0), ?_⟩
      walk_at "rd"
      refine ⟨o.x, C, o.dx, _, rfl, c1.ob, T.cl, T.fault, flds_len _ _, ?_⟩
      rw [lv0]
      refine hk _ ⟨?_, k1.trans keep_x, r1.tps (keep_x.tps c1)⟩
      rw [if_pos (of_decide_eq_true e2)]
      exact c1.setF _
    · rw [if_neg (of_decide_eq_false e2)]
      exact ⟨c1, k1, r1⟩
abbrev N_cl_offer_wait : List Str := ["self", "task", "event", "w", "reason", "known"]
theorem sc_cl_offer_wait : FnScope N_cl_offer_wait ["self", "task", "event", "w", "reason"] (defScope (inClass (top 7) 2)) := ⟨rfl, rfl, rfl, by decide +kernel, rfl, by decide +kernel, by decide +kernel⟩
-- slots: self 0, task 1, event 2, w 3, reason 4, known 5
theorem k_offer_wait (A : MAt K C "offer_wait" "Closing.offer_wait" (inClass (top 7) 2) ["self", "task", "event", "w", "reason"] f fd) (bi : Bi mg) (T : ClT K C) :
    MDef P w K mg base C "offer_wait" 1 ["self", "task", "event", "w", "reason"] (spM C 90000 fOffW) := by
  refine A.ok sc_cl_offer_wait (fun vs H Q E h => spM_len (n := 4) (fun _ _ _ _ _ ⟨_, _, _, _, _, e, _⟩ => by rw [e]; rfl) h) (fun cdv A outer s H vs Q E hr h => ?_)
  obtain ⟨o, B, s, us, p, rfl, c, wf, g, hl, ⟨a, b, w, r, rv, rfl, hrv, rfl⟩, q⟩ := h
  have hu := hu_of hr
  refine ⟨_, (pss_cons (ps_set (i := 5) sc_cl_offer_wait.nd rfl (.inl rfl) (pe_dget1 hu (pe_fld (pv 0) rfl) (pe_tup (pa_cons (pv 1) (pa_cons (pv 2) pa_nil))) ⟨rfl, rfl, rfl, rfl⟩))
    (pss_cons (ps_if (PW.pt (pw_and (pt_cmpR op_notN (pv 5) pe_non (nomark _)) (pw_and1 (pt_cmpR op_ge (pe_ix ix_tup (pe_ix ix_list (pe_fld (pv 0) rfl) (pv 5) (fun _ _ => rfl)) pe_int (fun _ _ => rfl)) (pv 3) (nomark _)))))
      (pss_one (ps_ret pe_bl))
      pss_nil)
    (pss_cons (ps_dput hu (pe_fld (pv 0) rfl) (pe_tup (pa_cons (pv 1) (pa_cons (pv 2) pa_nil))) (pe_callB call_len_seq (by rfl) bi.len PySem.boot_len (pa_cons (pe_fld (pv 0) rfl) pa_nil)) rfl)
    (pss_cons (ps_expr (pe_bm PySem.F.plainAttrs_list PySem.F.slot_list_append PySem.F.type_list_append mt_append (pe_fld (pv 0) rfl) (pa_cons (pe_tup (pa_cons pe_str (pa_cons (pv 1) (pa_cons (pv 2) (pa_cons (pv 3) (pa_cons (pv 4) pa_nil)))))) pa_nil)))
    (pss_one (ps_ret pe_bl)))))), ?_⟩
  walk_at "rd"
  walk_at "f.waits"
  refine ⟨o.dw, rfl, .inr ⟨_, .inl c.wa⟩, ?_⟩
  walk_at "rd"
  refine ⟨Nat.le_of_ble_eq_true rfl, fun z nz => ?_⟩
  have c1 := c.same (same_new (o := .tup [.int a, .int b]) nz)
  have r1 := hrv.tps (same_tps (same_new (o := .tup [.int a, .int b]) nz))
  have k1 : Keep o H (upd H z (.tup [.int a, .int b])) := same_keep (same_new nz)
  refine ⟨_, c1.getW upd_same, ?_⟩
  generalize upd H z (.tup [.int a, .int b]) = H1 at c1 r1 k1
  walk_at "rd"
  refine useT (c := K95.knows (s.wa a b) fun v => decide (w ≤ v)) ?_ ?_
  · unfold K95.Cl.wa
    cases hk : K95.look s.waits (a, b) with
    | none =>
      refine tst_and (c := false) (d := true) (fun Qb q => ?_) (fun e => nomatch e)
      walk_at "rd"
      refine ⟨rfl, ?_⟩
      walk_at "rd"
      exact q
    | some k =>
      obtain ⟨x, hx, _⟩ := g.wa a b k hk
      refine tst_and (c := true) (fun Qb q => ?_) (fun _ Qb q => ?_)
      · walk_at "rd"
        refine ⟨rfl, ?_⟩
        walk_at "rd"
        exact q
      · walk_at "rd"
        walk_at "f.lines"
        obtain ⟨vs, ax, rr, h1, h2, h3, _⟩ := c1.line hx
        walk_at "rd"
        refine q_ixL (SqL.of h1) (atN h2) ?_
        walk_at "rd"
        refine q_ixT (SqT.of h3) rfl ?_
        walk_at "rd"
        rw [K95.wOf_of hx] at q
        exact q
  unfold K95.offW at q
  refine ite2 (fun e => ?_) (fun e => ?_)
  · rw [if_pos e] at q
    walk_at "rd"
    exact q _ c1 k1
  · rw [if_neg e] at q
    walk_at "rd"
    obtain ⟨vs0, hv0, lv0⟩ := c1.len
    have c2 := c1
    have k2 := k1
    have r2 := r1
    generalize H1 = H2 at c2 k2 r2
    · obtain ⟨vs, hv, lv⟩ := c2.len
      have lv : vs.length = s.lines.length := lv
      walk_at "rd"
      walk_at "f.lines"
      refine ⟨o.al, vs, rfl, .inl (SqL.of hv), ?_⟩
      walk_at "rd"
      walk_at "f.waits"
      walk_at "rd"
      refine ⟨Nat.le_of_ble_eq_true rfl, fun z nz => ?_⟩
      have c3 := c2.same (same_new (o := .tup [.int a, .int b]) nz)
      have hz : (upd H2 z (.tup [.int a, .int b])) z = some (.tup [.int a, .int b]) := upd_same
      have k3 : Keep o H (upd H2 z (.tup [.int a, .int b])) := k2.trans (same_keep (same_new nz))
      have r3 := r2.tps (same_tps (same_new (o := .tup [.int a, .int b]) nz))
      generalize upd H2 z (.tup [.int a, .int b]) = H3 at c3 hz k3 r3
      rw [lv]
      refine ⟨o.dw, _, rfl, DPut.t (k := tk (a, b)) (v := nV s.lines.length) c3.wa hz (by rw [kvT_len]; exact size_ok (show s.waits.length ≤ _ from Nat.le_trans (K95.waits_len wf g) (by decide))), ?_⟩
      have c4 := c3.setW a b s.lines.length
      have k4 := k3.trans (keep_w (u := .dT (putK (kvT nV s.waits) (tk (a, b)) (nV s.lines.length))))
      have r4 := r3.tps ((keep_w (u := .dT (putK (kvT nV s.waits) (tk (a, b)) (nV s.lines.length)))).tps c3)
      generalize upd H3 o.dw (.dT (putK (kvT nV s.waits) (tk (a, b)) (nV s.lines.length))) = H4 at c4 k4 r4
      walk_at "rd"
      walk_at "f.lines"
      obtain ⟨vs4, hv4, lv4⟩ := c4.len
      have lv4 : vs4.length = s.lines.length := lv4
      refine ⟨isL hv4, ?_⟩
      walk_at "rd"
      refine ⟨Nat.le_of_ble_eq_true rfl, fun y ny => ?_⟩
      have c5 := c4.same (same_new (o := .tup [.str "wait", .int a, .int b, .int w, rv]) ny)
      have k5 : Keep o H (upd H4 y (.tup [.str "wait", .int a, .int b, .int w, rv])) := k4.trans (same_keep (same_new ny))
      have l5 : LnV (upd H4 y (.tup [.str "wait", .int a, .int b, .int w, rv])) (.ref y) ⟨true, a, b, w, r⟩ := ⟨rv, ⟨y, rfl, upd_same⟩, r4.tps (same_tps (same_new ny))⟩
      have hv5 : (upd H4 y (.tup [.str "wait", .int a, .int b, .int w, rv])) o.al = some (.lst vs4) := (same_new ny) _ _ hv4
      generalize upd H4 y (.tup [.str "wait", .int a, .int b, .int w, rv]) = H5 at c5 k5 l5 hv5
      refine ⟨o.al, vs4, _, rfl, rfl, hv5, size_ok (by omega), ?_⟩
      walk_at "rd"
      exact q _ (c5.setL hv5 l5) (k5.trans keep_l)
end
section
variable {P : Program} {w : World} {K : PySem.W.Frag} {mg : Str → Option Value} {base : Heap} {f C : Addr} {fd : FuncData}
theorem faV_some {x : Option Nat} : decide (faV x = V.non) = x.isNone := by
  cases x with
  | none => rfl
  | some k => rfl
abbrev N_cl_add_up : List Str := ["self", "a", "b", "c", "k", "other"]
theorem sc_cl_add_up : FnScope N_cl_add_up ["self", "a", "b", "c"] (defScope (inClass (top 7) 3)) := ⟨rfl, rfl, rfl, by decide +kernel, rfl, by decide +kernel, by decide +kernel⟩
-- slots: self 0, a 1, b 2, c 3, k 4, other 5
theorem k_add_up (A : MAt K C "add_up" "Closing.add_up" (inClass (top 7) 3) ["self", "a", "b", "c"] f fd) (bi : Bi mg) (T : ClT K C)
    (D_offer_most : MDef P w K mg base C "offer_most" 1 ["self", "a", "b", "w", "reason"] (spM C 90000 fOffM)) :
    MDef P w K mg base C "add_up" 2 ["self", "a", "b", "c"] (spM C 80000 fAdd) := by
  refine A.ok sc_cl_add_up (fun vs H Q E h => spM_len (n := 3) (fun _ _ _ _ _ ⟨_, _, _, e, _⟩ => by rw [e]; rfl) h) (fun cdv A outer s H vs Q E hr h => ?_)
  obtain ⟨o, B, s, us, p, rfl, c, wf, g, hl, ⟨a, b, d, rfl, rfl⟩, q⟩ := h
  have hu := hu_of hr
  refine ⟨_, (pss_cons (ps_if (PW.pt (pw_or (pt_cmpR op_notN (pe_fld (pv 0) rfl) pe_non (nomark _)) (pw_or (pt_cmp (pc_dnotin hu (pe_tup (pa_cons (pv 1) (pa_cons (pv 2) pa_nil))) (pe_fld (pv 0) rfl))) (pw_or1 (pt_cmp (pc_dnotin hu (pe_tup (pa_cons (pv 2) (pa_cons (pv 3) pa_nil))) (pe_fld (pv 0) rfl)))))))
      (pss_one (ps_ret pe_bl))
      pss_nil)
    (pss_cons (ps_par (i := 4) (j := 5) (by rfl) sc_cl_add_up.nd rfl rfl (by decide) rfl rfl (pa_cons (pe_dget hu (pe_fld (pv 0) rfl) (pe_tup (pa_cons (pv 1) (pa_cons (pv 2) pa_nil))) (fun _ _ => rfl)) (pa_cons (pe_dget hu (pe_fld (pv 0) rfl) (pe_tup (pa_cons (pv 2) (pa_cons (pv 3) pa_nil))) (fun _ _ => rfl)) pa_nil)) (by rfl))
    (pss_one (ps_ret (pe_m D_offer_most T hr (pv 0) (pa_cons (pv 1) (pa_cons (pv 3) (pa_cons (pe_op op_add (pe_ix ix_tup (pe_ix ix_list (pe_fld (pv 0) rfl) (pv 4) (fun _ _ => rfl)) pe_int (fun _ _ => rfl)) (pe_ix ix_tup (pe_ix ix_list (pe_fld (pv 0) rfl) (pv 5) (fun _ _ => rfl)) pe_int (fun _ _ => rfl))) (pa_cons (pe_tup (pa_cons pe_str (pa_cons (pv 4) (pa_cons (pv 5) pa_nil)))) pa_nil))))))))), ?_⟩
  walk_at "rd"
  refine useG (c := s.fault.isSome || ((K95.look s.mosts (a, b)).isNone || (K95.look s.mosts (b, d)).isNone)) (tsg_or (fun Qb q => ?_) fun _ H1 s1 => tsg_or (fun Qb q => ?_) fun _ H2 s2 => (fun Qb q => ?_)) (fun H1 s1 => ?_)
  · walk_at "rd"
    walk_at "f.fault"
    walk_at "rd"
    refine ⟨rfl, ?_⟩
    walk_at "rd"
    rw [faV_some, show (!s.fault.isNone) = s.fault.isSome by cases s.fault <;> rfl]
    exact q _ (Same.refl _)
  · have c1 := c.same s1
    walk_at "rd"
    refine ⟨Nat.le_of_ble_eq_true rfl, fun z nz => ?_⟩
    have c2 := c1.same (same_new (o := .tup [.int a, .int b]) nz)
    walk_at "rd"
    walk_at "f.mosts"
    refine ⟨_, _, rfl, c2.getM upd_same, ?_⟩
    walk_at "rd"
    rw [Option.isSome_map, show (!(K95.look s.mosts (a, b)).isSome) = (K95.look s.mosts (a, b)).isNone by cases K95.look s.mosts (a, b) <;> rfl]
    exact q _ (same_new nz)
  · have c1 := c.same (s1.trans s2)
    walk_at "rd"
    refine ⟨Nat.le_of_ble_eq_true rfl, fun z nz => ?_⟩
    have c2 := c1.same (same_new (o := .tup [.int b, .int d]) nz)
    walk_at "rd"
    walk_at "f.mosts"
    refine ⟨_, _, rfl, c2.getM upd_same, ?_⟩
    walk_at "rd"
    rw [Option.isSome_map, show (!(K95.look s.mosts (b, d)).isSome) = (K95.look s.mosts (b, d)).isNone by cases K95.look s.mosts (b, d) <;> rfl]
    exact q _ (same_new nz)
  have c1 := c.same s1
  have k1 : Keep o H H1 := same_keep s1
  refine ite2 (fun e => ?_) (fun e => ?_)
  · have e3 : K95.addUp s a b d = (s, false) := by
      unfold K95.addUp
      by_cases hf : s.fault.isSome = true
      · rw [if_pos hf]
      · rw [if_neg hf]
        rw [eq_false_of_ne_true hf, Bool.false_or, Bool.or_eq_true] at e
        cases h1 : K95.look s.mosts (a, b) with
        | none => rfl
        | some k =>
          cases h2 : K95.look s.mosts (b, d) with
          | none => rfl
          | some l =>
            rw [h1, h2] at e
            rcases e with e | e <;> cases e
    rw [e3] at q
    walk_at "rd"
    exact q _ c1 k1
  · have hf : ¬ s.fault.isSome = true := fun z => e (by rw [z]; rfl)
    cases h1 : K95.look s.mosts (a, b) with
    | none => exact absurd (by rw [h1]; simp) e
    | some k =>
      cases h2 : K95.look s.mosts (b, d) with
      | none => exact absurd (by rw [h2]; simp) e
      | some l =>
        have e3 : K95.addUp s a b d = K95.offM s a d (s.wOf k + s.wOf l) (.sum k l) := by
          unfold K95.addUp
          rw [if_neg hf, h1, h2]
        obtain ⟨xk, hxk, _⟩ := g.mo a b k h1
        obtain ⟨xl, hxl, _⟩ := g.mo b d l h2
        walk_at "rd"
        walk_at "f.mosts"
        walk_at "rd"
        refine ⟨Nat.le_of_ble_eq_true rfl, fun z nz => ?_⟩
        have s2 := same_new (o := .tup [.int a, .int b]) nz
        have hz : (upd H1 z (.tup [.int a, .int b])) z = some (.tup [.int a, .int b]) := upd_same
        have c2 := c1.same s2
        have k2 := k1.trans (same_keep s2)
        generalize upd H1 z (.tup [.int a, .int b]) = H2 at s2 hz c2 k2
        have gk := c2.getM hz
        rw [h1] at gk
        refine ⟨_, _, rfl, gk, ?_⟩
        walk_at "rd"
        walk_at "f.mosts"
        walk_at "rd"
        refine ⟨Nat.le_of_ble_eq_true rfl, fun y ny => ?_⟩
        have s3 := same_new (o := .tup [.int b, .int d]) ny
        have hy : (upd H2 y (.tup [.int b, .int d])) y = some (.tup [.int b, .int d]) := upd_same
        have c3 := c2.same s3
        have k3 := k2.trans (same_keep s3)
        generalize upd H2 y (.tup [.int b, .int d]) = H3 at s3 hy c3 k3
        have gl := c3.getM hy
        rw [h2] at gl
        refine ⟨_, _, rfl, gl, ?_⟩
        walk_at "rd"
        refine c3.meth no_offer_most ?_
        walk_at "rd"
        walk_at "f.lines"
        obtain ⟨vs, ak, rk, e1, e2, e4, _⟩ := c3.line hxk
        obtain ⟨vs', al, rl, e1', e2', e4', _⟩ := c3.line hxl
        walk_at "rd"
        refine q_ixL (SqL.of e1) (atN e2) ?_
        walk_at "rd"
        refine q_ixT (SqT.of e4) rfl ?_
        walk_at "rd"
        walk_at "f.lines"
        walk_at "rd"
        refine q_ixL (SqL.of e1') (atN e2') ?_
        walk_at "rd"
        refine q_ixT (SqT.of e4') rfl ?_
        walk_at "rd"
        refine ⟨Nat.le_of_ble_eq_true rfl, fun u nu => ?_⟩
        have s4 := same_new (o := .tup [.str "sum", .int k, .int l]) nu
        have hu4 : Tu (upd H3 u (.tup [.str "sum", .int k, .int l])) (.ref u) (rsV (.sum k l)) := Tu.new
        have c4 := c3.same s4
        have k4 := k3.trans (same_keep s4)
        walk_at "rd"
        rw [e3, K95.wOf_of hxk, K95.wOf_of hxl] at q
        exact ⟨o, B, s, _, _, rfl, c4, wf, g, Nat.le_trans hl (by decide), ⟨a, d, _, .sum k l, _, rfl, hu4, rfl⟩, fun H' c' k' => q _ c' (k4.trans k')⟩
end
section
variable {P : Program} {w : World} {K : PySem.W.Frag} {mg : Str → Option Value} {base : Heap} {f C : Addr} {fd : FuncData}
theorem ownV_of {a : Int} (h : K95.isE a = true) : ownV a = .int (K95.own a) := by
  have := (K95.isE_iff.mp h).1
  unfold ownV
  rw [if_neg (by omega)]
abbrev N_cl_use_most : List Str := ["self", "a", "b", "k", "w", "task"]
theorem sc_cl_use_most : FnScope N_cl_use_most ["self", "a", "b"] (defScope (inClass (top 7) 4)) := ⟨rfl, rfl, rfl, by decide +kernel, rfl, by decide +kernel, by decide +kernel⟩
-- slots: self 0, a 1, b 2, k 3, w 4, task 5
theorem k_use_most (A : MAt K C "use_most" "Closing.use_most" (inClass (top 7) 4) ["self", "a", "b"] f fd) (bi : Bi mg) (T : ClT K C)
    (D_begin_of : Def P w K mg base "begin_of" 1 ["task"] (spI fun i => .int (2 * i + 1))) (D_is_end : Def P w K mg base "is_end" 1 ["event"] (spI fun i => .bl (K95.isE i))) (D_owner_of : Def P w K mg base "owner_of" 1 ["event"] (spI ownV))
    (D_offer_most : MDef P w K mg base C "offer_most" 1 ["self", "a", "b", "w", "reason"] (spM C 90000 fOffM)) :
    MDef P w K mg base C "use_most" 2 ["self", "a", "b"] (spM C 80000 fUM) := by
  refine A.ok sc_cl_use_most (fun vs H Q E h => spM_len (n := 2) (fun _ _ _ _ _ ⟨_, _, e, _⟩ => by rw [e]; rfl) h) (fun cdv A outer s H vs Q E hr h => ?_)
  obtain ⟨o, B, s, us, p, rfl, c, wf, g, hl, ⟨a, b, rfl, hs, rfl⟩, q⟩ := h
  have hu := hu_of hr
  refine ⟨_, (pss_cons (ps_set (i := 3) sc_cl_use_most.nd rfl (.inl rfl) (pe_dget hu (pe_fld (pv 0) rfl) (pe_tup (pa_cons (pv 1) (pa_cons (pv 2) pa_nil))) (fun _ _ => rfl)))
    (pss_cons (ps_par (i := 4) (j := 5) (by rfl) sc_cl_use_most.nd rfl rfl (by decide) rfl rfl (pa_cons (pe_ix ix_tup (pe_ix ix_list (pe_fld (pv 0) rfl) (pv 3) (fun _ _ => rfl)) pe_int (fun _ _ => rfl)) (pa_cons (pe_d D_owner_of hr (by rfl) (pa_cons (pv 1) pa_nil)) pa_nil)) (by rfl))
    (pss_cons (ps_if (PW.pt (pw_or (pt_cmpR op_notN (pe_fld (pv 0) rfl) pe_non (nomark _)) (pw_or (pt_not (pt_val (pe_d D_is_end hr (by rfl) (pa_cons (pv 1) pa_nil)))) (pw_or1 (pt_cmpR op_eq (pv 1) (pv 2) (nomark _))))))
      (pss_one (ps_ret pe_bl))
      pss_nil)
    (pss_one (ps_ret (pe_and (pe_cmpR op_lt (pv 4) pe_int (nomark _)) (pe_one (pe_m D_offer_most T hr (pv 0) (pa_cons (pe_d D_begin_of hr (by rfl) (pa_cons (pv 5) pa_nil)) (pa_cons (pv 2) (pa_cons (pe_op op_add (pe_ix ix_tup (pe_ix ix_tup (pe_fld (pv 0) rfl) (pv 5) (fun _ _ => rfl)) pe_int (fun _ _ => rfl)) (pv 4)) (pa_cons (pe_tup (pa_cons pe_str (pa_cons (pv 3) pa_nil))) pa_nil)))))))))))), ?_⟩
  obtain ⟨k, hk⟩ := Option.isSome_iff_exists.mp hs
  obtain ⟨x, hx, x1, x2, x3, x4⟩ := g.mo_line hk
  have ev := (g.mo_ev hk).1
  walk_at "rd"
  walk_at "f.mosts"
  walk_at "rd"
  refine ⟨Nat.le_of_ble_eq_true rfl, fun z nz => ?_⟩
  have s1 := same_new (o := .tup [.int a, .int b]) nz
  have hz : (upd H z (.tup [.int a, .int b])) z = some (.tup [.int a, .int b]) := upd_same
  have c1 := c.same s1
  generalize upd H z (.tup [.int a, .int b]) = H1 at s1 hz c1
  have k1 : Keep o H H1 := same_keep s1
  have gk := c1.getM hz
  rw [hk] at gk
  refine ⟨_, _, rfl, gk, ?_⟩
  walk_at "rd"
  walk_at "f.lines"
  obtain ⟨vs, ak, rk, e1, e2, e4, _⟩ := c1.line hx
  walk_at "rd"
  refine q_ixL (SqL.of e1) (atN e2) ?_
  walk_at "rd"
  refine q_ixT (SqT.of e4) rfl ?_
  walk_at "rd"
  refine ⟨a, rfl, ?_⟩
  walk_at "rd"
  refine useT (c := s.fault.isSome || (!K95.isE a || decide (a = b))) (tst_or (fun Qb q => ?_) fun _ => tst_or (tst_not (fun Qb q => ?_)) fun _ => (fun Qb q => ?_)) ?_
  · walk_at "rd"
    walk_at "f.fault"
    walk_at "rd"
    refine ⟨rfl, ?_⟩
    walk_at "rd"
    rw [faV_some, show (!s.fault.isNone) = s.fault.isSome by cases s.fault <;> rfl]
    exact q
  · walk_at "rd"
    refine ⟨a, rfl, ?_⟩
    walk_at "rd"
    exact q
  · walk_at "rd"
    exact q
  unfold K95.useMost at q
  rw [hk] at q
  simp only [← Bool.or_assoc] at *
  refine ite2 (fun e => ?_) (fun e => ?_)
  · rw [if_pos e] at q
    walk_at "rd"
    exact q _ c1 k1
  · rw [if_neg e] at q
    have hE : K95.isE a = true := by
      cases h : K95.isE a with
      | true => rfl
      | false => exact absurd (by rw [h]; simp) e
    walk_at "rd"
    rw [← x4] at q
    refine ite2 (fun e5 => ?_) (fun e5 => ?_)
    · rw [if_pos (of_decide_eq_true e5)] at q
      walk_at "rd"
      refine c1.meth no_offer_most ?_
      rw [ownV_of hE]
      walk_at "rd"
      refine ⟨K95.own a, rfl, ?_⟩
      walk_at "rd"
      walk_at "f.tasks"
      walk_at "rd"
      obtain ⟨ts, at', t1, t2, t3⟩ := c1.task (K95.own_tk hE ev)
      refine q_ixT (SqT.of t1) t2 ?_
      walk_at "rd"
      refine q_ixT (SqT.of t3) rfl ?_
      walk_at "rd"
      refine ⟨Nat.le_of_ble_eq_true rfl, fun u nu => ?_⟩
      have s4 := same_new (o := .tup [.str "early", .int k]) nu
      have hu4 : Tu (upd H1 u (.tup [.str "early", .int k])) (.ref u) (rsV (.early k)) := Tu.new
      walk_at "rd"
      exact ⟨o, B, s, _, _, rfl, c1.same s4, wf, g, Nat.le_trans hl (by decide), ⟨_, b, _, .early k, _, rfl, hu4, rfl⟩, fun H' c' k' => q _ c' ((k1.trans (same_keep s4)).trans k')⟩
    · rw [if_neg (fun z => e5 (decide_eq_true z))] at q
      exact q _ c1 k1
end
section
variable {P : Program} {w : World} {K : PySem.W.Frag} {mg : Str → Option Value} {base : Heap} {f C : Addr} {fd : FuncData}
theorem int_beq {a b : Int} : (a == b) = decide (b = a) := by
  by_cases h : a = b
  · subst h
    simp
  · have h2 : ¬ b = a := fun z => h z.symm
    simp [h, h2]
theorem bls_snoc {bs : List Bool} {b : Bool} : bs.map V.bl ++ [V.bl b] = (bs ++ [b]).map V.bl := by rw [List.map_append]; rfl
theorem any_snoc {bs : List Bool} {b : Bool} : (bs ++ [b]).any id = (bs.any id || b) := by rw [List.any_append]; simp
theorem delay_no {B : K95.Br} {s : K95.Cl} {i y v x : Int} {k : Nat} (h : ((!decide (x = 2 * i + 2) && !decide (x = y)) && (K95.look s.mosts (x, y)).isSome) = false) : K95.delay B i y v k s x = (s, false) := by
  unfold K95.delay
  by_cases e : x = 2 * i + 2 ∨ x = y
  · rw [if_pos e]
  · rw [if_neg e]
    have e1 : ¬ x = 2 * i + 2 := fun z => e (.inl z)
    have e2 : ¬ x = y := fun z => e (.inr z)
    rw [decide_eq_false e1, decide_eq_false e2] at h
    cases h3 : K95.look s.mosts (x, y) with
    | none => rfl
    | some l => rw [h3] at h; cases h
theorem delay_yes {B : K95.Br} {s : K95.Cl} {i y v x : Int} {k l : Nat} (e1 : ¬ x = 2 * i + 2) (e2 : ¬ x = y) (h3 : K95.look s.mosts (x, y) = some l) : K95.delay B i y v k s x = K95.offW s i x (min (B.hi i) (v - s.wOf l)) (.delay k l) := by
  unfold K95.delay
  rw [if_neg (fun z => z.elim e1 e2), h3]
abbrev N_cl_use_wait : List Str := ["self", "task", "event", "k", "w", "low", "high", "some", "other", "one", "number", "later"]
theorem sc_cl_use_wait : FnScope N_cl_use_wait ["self", "task", "event"] (defScope (inClass (top 7) 5)) := ⟨rfl, rfl, rfl, by decide +kernel, rfl, by decide +kernel, by decide +kernel⟩
-- slots: self 0, task 1, event 2, k 3, w 4, low 5, high 6, some 7, other 8, one 9, number 10, later 11
set_option maxHeartbeats 8000000 in
theorem k_use_wait (A : MAt K C "use_wait" "Closing.use_wait" (inClass (top 7) 5) ["self", "task", "event"] f fd) (bi : Bi mg) (T : ClT K C)
    (D_begin_of : Def P w K mg base "begin_of" 1 ["task"] (spI fun i => .int (2 * i + 1))) (D_end_of : Def P w K mg base "end_of" 1 ["task"] (spI fun i => .int (2 * i + 2))) (D_is_end : Def P w K mg base "is_end" 1 ["event"] (spI fun i => .bl (K95.isE i))) (D_owner_of : Def P w K mg base "owner_of" 1 ["event"] (spI ownV))
    (D_offer_most : MDef P w K mg base C "offer_most" 1 ["self", "a", "b", "w", "reason"] (spM C 90000 fOffM)) (D_offer_wait : MDef P w K mg base C "offer_wait" 1 ["self", "task", "event", "w", "reason"] (spM C 90000 fOffW)) :
    MDef P w K mg base C "use_wait" 2 ["self", "task", "event"] (spM C 80000 fUW) := by
  refine A.ok sc_cl_use_wait (fun vs H Q E h => spM_len (n := 2) (fun _ _ _ _ _ ⟨_, _, e, _⟩ => by rw [e]; rfl) h) (fun cdv A outer s H vs Q E hr h => ?_)
  obtain ⟨o, B, s, us, p, rfl, c, wf, g, hl, ⟨i, y, rfl, hs, rfl⟩, q⟩ := h
  have hu := hu_of hr
  refine ⟨_, (pss_cons (ps_set (i := 3) sc_cl_use_wait.nd rfl (.inl rfl) (pe_dget hu (pe_fld (pv 0) rfl) (pe_tup (pa_cons (pv 1) (pa_cons (pv 2) pa_nil))) (fun _ _ => rfl)))
    (pss_cons (ps_asg (pe_tup (pa_cons (pe_ix ix_tup (pe_ix ix_list (pe_fld (pv 0) rfl) (pv 3) (fun _ _ => rfl)) pe_int (fun _ _ => rfl)) (pa_cons (pe_ix ix_tup (pe_fld (pv 0) rfl) (pv 1) (fun _ _ => rfl)) pa_nil))) (pg_tup rfl (pgs_cons (pg_name (i := 4) sc_cl_use_wait.nd rfl (.inl rfl)) (pgs_cons (pg_tup rfl (pgs_cons (pg_name (i := 5) sc_cl_use_wait.nd rfl (.inl rfl)) (pgs_cons (pg_name (i := 6) sc_cl_use_wait.nd rfl (.inl rfl)) pgs_nil))) pgs_nil))))
    (pss_cons (ps_set (i := 7) sc_cl_use_wait.nd rfl (.inl rfl) (pe_lst (pa_cons (pe_m D_offer_most T hr (pv 0) (pa_cons (pv 2) (pa_cons (pe_d D_begin_of hr (by rfl) (pa_cons (pv 1) pa_nil)) (pa_cons (pe_un un_neg (pe_callB (call_min2 rfl) (by rfl) bi.min (by decide +kernel) (pa_cons (pv 4) (pa_cons (pv 5) pa_nil)))) (pa_cons (pe_tup (pa_cons pe_str (pa_cons (pv 3) pa_nil))) pa_nil))))) pa_nil)))
    (pss_cons (ps_if (PW.pt (pw_and (pt_val (pe_d D_is_end hr (by rfl) (pa_cons (pv 2) pa_nil))) (pw_and (pt_cmpR op_ne (pe_d D_owner_of hr (by rfl) (pa_cons (pv 2) pa_nil)) (pv 1) (nomark _)) (pw_and1 (pt_cmpR op_gt (pv 4) pe_int (nomark _))))))
      (pss_cons (ps_set (i := 8) sc_cl_use_wait.nd rfl (.inl rfl) (pe_d D_owner_of hr (by rfl) (pa_cons (pv 2) pa_nil)))
      (pss_one (ps_expr (pe_bm PySem.F.plainAttrs_list PySem.F.slot_list_append PySem.F.type_list_append mt_append (pv 7) (pa_cons (pe_m D_offer_wait T hr (pv 0) (pa_cons (pv 1) (pa_cons (pe_d D_begin_of hr (by rfl) (pa_cons (pv 8) pa_nil)) (pa_cons (pe_op op_sub (pv 4) (pe_ix ix_tup (pe_ix ix_tup (pe_fld (pv 0) rfl) (pv 8) (fun _ _ => rfl)) pe_int (fun _ _ => rfl))) (pa_cons (pe_tup (pa_cons pe_str (pa_cons (pv 3) pa_nil))) pa_nil))))) pa_nil)))))
      pss_nil)
    (pss_cons (ps_for PassesOwn.never rfl (pi_list (pe_fld (pv 0) rfl)) (pg_name (i := 9) sc_cl_use_wait.nd rfl (.inl rfl))
      (pss_one (ps_if (PW.pt (pw_and (pt_cmpR op_notIn_seq (pv 9) (pe_tup (pa_cons (pe_d D_end_of hr (by rfl) (pa_cons (pv 1) pa_nil)) (pa_cons (pv 2) pa_nil))) (by with_unfolding_all rfl)) (pw_and1 (pt_cmp (pc_din hu (pe_tup (pa_cons (pv 9) (pa_cons (pv 2) pa_nil))) (pe_fld (pv 0) rfl))))))
        (pss_cons (ps_set (i := 10) sc_cl_use_wait.nd rfl (.inl rfl) (pe_dget hu (pe_fld (pv 0) rfl) (pe_tup (pa_cons (pv 9) (pa_cons (pv 2) pa_nil))) (fun _ _ => rfl)))
        (pss_cons (ps_set (i := 11) sc_cl_use_wait.nd rfl (.inl rfl) (pe_callB (call_min2 rfl) (by rfl) bi.min (by decide +kernel) (pa_cons (pv 6) (pa_cons (pe_op op_sub (pv 4) (pe_ix ix_tup (pe_ix ix_list (pe_fld (pv 0) rfl) (pv 10) (fun _ _ => rfl)) pe_int (fun _ _ => rfl))) pa_nil))))
        (pss_one (ps_expr (pe_bm PySem.F.plainAttrs_list PySem.F.slot_list_append PySem.F.type_list_append mt_append (pv 7) (pa_cons (pe_m D_offer_wait T hr (pv 0) (pa_cons (pv 1) (pa_cons (pv 9) (pa_cons (pv 11) (pa_cons (pe_tup (pa_cons pe_str (pa_cons (pv 3) (pa_cons (pv 10) pa_nil)))) pa_nil))))) pa_nil))))))
        pss_nil)))
    (pss_one (ps_ret (pe_callB (cr_any rfl) (by rfl) bi.any (by decide +kernel) (pa_cons (pv 7) pa_nil))))))))), ?_⟩
  obtain ⟨k, hk⟩ := Option.isSome_iff_exists.mp hs
  obtain ⟨x, hx, x1, x2, x3, x4⟩ := g.wa_line hk
  obtain ⟨tki, _, evy⟩ := g.wa_ev hk
  obtain ⟨nw1, nw2, nw3⟩ := K95.near_uw wf g hk
  have m4 := wf.m4
  walk_at "rd"
  walk_at "f.waits"
  walk_at "rd"
  refine ⟨Nat.le_of_ble_eq_true rfl, fun z nz => ?_⟩
  have s1 := same_new (o := .tup [.int i, .int y]) nz
  have hz : (upd H z (.tup [.int i, .int y])) z = some (.tup [.int i, .int y]) := upd_same
  have c1 := c.same s1
  generalize upd H z (.tup [.int i, .int y]) = H1 at s1 hz c1
  have k1 : Keep o H H1 := same_keep s1
  have gk := c1.getW hz
  rw [hk] at gk
  refine ⟨_, _, rfl, gk, ?_⟩
  walk_at "rd"
  walk_at "f.lines"
  obtain ⟨vs, ak, rk, e1, e2, e4, _⟩ := c1.line hx
  walk_at "rd"
  refine q_ixL (SqL.of e1) (atN e2) ?_
  walk_at "rd"
  refine q_ixT (SqT.of e4) rfl ?_
  walk_at "rd"
  walk_at "f.tasks"
  walk_at "rd"
  obtain ⟨ts, at', t1, t2, t3⟩ := c1.task tki
  refine q_ixT (SqT.of t1) t2 ?_
  walk_at "rd"
  refine ⟨Nat.le_of_ble_eq_true rfl, fun u nu => ?_⟩
  have s2 := same_new (o := .tup [.int x.w, .ref at']) nu
  have hu2 : (upd H1 u (.tup [.int x.w, .ref at'])) u = some (.tup [.int x.w, .ref at']) := upd_same
  have c2 := c1.same s2
  have t4 := s2 _ _ t3
  generalize upd H1 u (.tup [.int x.w, .ref at']) = H2 at s2 hu2 c2 t4
  have k2 : Keep o H H2 := k1.trans (same_keep s2)
  refine q_gtup (SqT.of hu2) rfl ?_
  walk_at "rd"
  refine q_gtup (SqT.of t4) rfl ?_
  walk_at "rd"
  refine c2.meth no_offer_most ?_
  walk_at "rd"
  refine ⟨i, rfl, ?_⟩
  walk_at "rd"
  refine ⟨_, _, rfl, ?_⟩
  walk_at "rd"
  refine ⟨Nat.le_of_ble_eq_true rfl, fun u nu => ?_⟩
  have s3 := same_new (o := .tup [.str "floor", .int k]) nu
  have hu3 : Tu (upd H2 u (.tup [.str "floor", .int k])) (.ref u) (rsV (.floor k)) := Tu.new
  have c3 := c2.same s3
  generalize upd H2 u (.tup [.str "floor", .int k]) = H3 at s3 hu3 c3
  have k3 : Keep o H H3 := k2.trans (same_keep s3)
  walk_at "rd"
  refine ⟨o, B, s, _, _, rfl, c3, wf, g, Nat.le_trans hl (by decide), ⟨y, _, _, .floor k, _, rfl, hu3, rfl⟩, fun H4 c4 k34 => ?_⟩
  have ew : K95.offM s y (2 * i + 1) (-(if B.lo i < x.w then B.lo i else x.w)) (.floor k) = K95.uw1 B s i y k := by
    unfold K95.uw1
    rw [min_if, x4]
  rw [ew] at c4 ⊢
  have k4 := k3.trans k34
  walk_at "rd"
  refine ⟨Nat.le_of_ble_eq_true rfl, fun S nS => ?_⟩
  -- the list of answers stands at S; from here on all is told from H4
  have hS5 : (upd H4 S (.lst [.bl (K95.uw1 B s i y k).2])) S = some (.lst ([(K95.uw1 B s i y k).2].map V.bl)) := upd_same
  have c5 := c4.same (same_new (o := .lst [.bl (K95.uw1 B s i y k).2]) nS)
  have k5 : Keep o H4 (upd H4 S (.lst [.bl (K95.uw1 B s i y k).2])) := same_keep (same_new nS)
  generalize upd H4 S (.lst [.bl (K95.uw1 B s i y k).2]) = H5 at hS5 c5 k5
  obtain ⟨apL, apE⟩ := c4.newL nS
  walk_at "rd"
  refine useT (c := K95.isE y && (!decide (K95.own y = i) && decide (0 < x.w))) (tst_and (fun Qb q => ?_) fun hE => tst_and (fun Qb q => ?_) fun _ => (fun Qb q => ?_)) ?_
  · walk_at "rd"
    refine ⟨y, rfl, ?_⟩
    walk_at "rd"
    exact q
  · walk_at "rd"
    refine ⟨y, rfl, ?_⟩
    rw [ownV_of hE]
    walk_at "rd"
    exact q
  · walk_at "rd"
    exact q
  refine ifN2 (fun σ2 H6 => ∃ y8, σ2 = [some (.ref o.x), some (.int i), some (.int y), some (.int k), some (.int x.w), some (.int (B.lo i)), some (.int (B.hi i)), some (.ref S), y8, none, none, none] ∧ ClAt C B H6 o (K95.uw2 B s i y k).1 ∧ Keep o H4 H6 ∧
    ∃ bs : List Bool, H6 S = some (.lst (bs.map V.bl)) ∧ bs.length ≤ 2 ∧ bs.any id = ((K95.uw1 B s i y k).2 || (K95.uw2 B s i y k).2)) (fun σ2 H6 ⟨y8, eσ, c6, k6, bs, hS6, lb, ab⟩ => ?_) (fun hk2 e => ?_) (fun e => ?_)
  · subst eσ
    walk_at "rd"
    walk_at "f.every"
    refine ⟨o.ae, rfl, ⟨_, SqL.of c6.ev⟩, ?_⟩
    have el : (B.every.map V.int).length = B.every.length := List.length_map _
    refine for_it walk_list (fun n σ H' => ∃ y8 y9 y10 y11, σ = [some (.ref o.x), some (.int i), some (.int y), some (.int k), some (.int x.w), some (.int (B.lo i)), some (.int (B.hi i)), some (.ref S), y8, y9, y10, y11] ∧ ClAt C B H' o (K95.uw3 B s i y k n).1 ∧ Keep o H4 H' ∧
      ∃ bs : List Bool, H' S = some (.lst (bs.map V.bl)) ∧ bs.length ≤ 2 + n ∧ bs.any id = ((K95.uw1 B s i y k).2 || (K95.uw2 B s i y k).2 || (K95.uw3 B s i y k n).2)) ⟨y8, none, none, none, rfl, c6, k6, bs, hS6, lb, by rw [ab]; simp [K95.uw3, K95.runL]⟩
      (fun n σ H' _ ⟨_, _, _, _, _, c7, _⟩ => SqL.of c7.ev) (fun n v σ H7 H7' hn ⟨y8, y9, y10, y11, eσ, c7, k7, bs, hS7, lb, ab⟩ hy => ?_) (fun σ H7 ⟨y8, y9, y10, y11, eσ, c7, k7, bs, hS7, lb, ab⟩ => ?_)
    · subst eσ
      obtain ⟨rfl, hv⟩ := hy
      rw [el] at hn
      have hn9 : n < 2 * B.m + 1 := by rw [← K95.every_len]; exact hn
      obtain ⟨x9, hx9, rfl⟩ : ∃ x9, B.every[n]? = some x9 ∧ v = V.int x9 := by
        rw [List.getElem?_map] at hv
        cases e : B.every[n]? with
        | none => rw [e] at hv; cases hv
        | some z => rw [e] at hv; exact ⟨z, rfl, (Option.some.inj hv).symm⟩
      have g7 := (nw3 n (by omega)).good
      have l7 := (nw3 n (by omega)).len
      have snoc := K95.uw3_snoc (B := B) (s := s) (i := i) (y := y) (k := k) hx9
      generalize K95.uw3 B s i y k n = p7 at c7 ab g7 l7 snoc
      walk_at "rd"
      refine useG (c := (!decide (x9 = 2 * i + 2) && !decide (x9 = y)) && (K95.look p7.1.mosts (x9, y)).isSome) (tsg_and (fun Qb q => ?_) fun _ H8 s8 => (fun Qb q => ?_)) (fun H8 s8 => ?_)
      · walk_at "rd"
        refine ⟨i, rfl, ?_⟩
        walk_at "rd"
        refine ⟨Nat.le_of_ble_eq_true rfl, fun z nz => ?_⟩
        refine ⟨z, _, rfl, .inr (SqT.of upd_same), rfl, rfl, ?_⟩
        refine ⟨_, rfl, ?_⟩
        have e9 : (!inV (.int x9) [.int (2 * i + 2), .int y]) = (!decide (x9 = 2 * i + 2) && !decide (x9 = y)) := by
          show (!((2 * i + 2 == x9) || ((y == x9) || false))) = _
          rw [Bool.or_false, Bool.not_or]
          rw [int_beq, int_beq]
        show Qb (!inV (.int x9) [.int (2 * i + 2), .int y]) _
        rw [e9]
        exact q _ (same_new nz)
      · have c8 := c7.same s8
        walk_at "rd"
        refine ⟨Nat.le_of_ble_eq_true rfl, fun z nz => ?_⟩
        have c9 := c8.same (same_new (o := .tup [.int x9, .int y]) nz)
        walk_at "rd"
        walk_at "f.mosts"
        refine ⟨_, _, rfl, c9.getM upd_same, ?_⟩
        walk_at "rd"
        rw [Option.isSome_map]
        exact q _ (same_new nz)
      have c8 := c7.same s8
      have k8 : Keep o H4 H8 := k7.trans (same_keep s8)
      have hS8 := s8 _ _ hS7
      refine ite2 (fun e => ?_) (fun e => ?_)
      · rw [Bool.and_eq_true, Bool.and_eq_true] at e
        obtain ⟨⟨e1', e2'⟩, e3'⟩ := e
        have d1 : ¬ x9 = 2 * i + 2 := fun z => by rw [decide_eq_true z] at e1'; cases e1'
        have d2 : ¬ x9 = y := fun z => by rw [decide_eq_true z] at e2'; cases e2'
        obtain ⟨l, hl9⟩ := Option.isSome_iff_exists.mp e3'
        obtain ⟨xl, hxl, _⟩ := g7.mo _ _ _ hl9
        rw [delay_yes d1 d2 hl9] at snoc
        walk_at "rd"
        walk_at "f.mosts"
        walk_at "rd"
        refine ⟨Nat.le_of_ble_eq_true rfl, fun z nz => ?_⟩
        have s9 := same_new (o := .tup [.int x9, .int y]) nz
        have hz9 : (upd H8 z (.tup [.int x9, .int y])) z = some (.tup [.int x9, .int y]) := upd_same
        have c9 := c8.same s9
        have hS9 := s9 _ _ hS8
        generalize upd H8 z (.tup [.int x9, .int y]) = H9 at s9 hz9 c9 hS9
        have k9 : Keep o H4 H9 := k8.trans (same_keep s9)
        have gl := c9.getM hz9
        rw [hl9] at gl
        refine ⟨_, _, rfl, gl, ?_⟩
        walk_at "rd"
        walk_at "f.lines"
        obtain ⟨vs9, al9, rl, f1, f2, f4, _⟩ := c9.line hxl
        walk_at "rd"
        refine q_ixL (SqL.of f1) (atN f2) ?_
        walk_at "rd"
        refine q_ixT (SqT.of f4) rfl ?_
        walk_at "rd"
        refine ⟨_, _, rfl, ?_⟩
        walk_at "rd"
        refine ⟨isL hS9, ?_⟩
        walk_at "rd"
        refine c9.meth no_offer_wait ?_
        walk_at "rd"
        refine ⟨Nat.le_of_ble_eq_true rfl, fun u nu => ?_⟩
        have s10 := same_new (o := .tup [.str "delay", .int k, .int l]) nu
        have hu10 : Tu (upd H9 u (.tup [.str "delay", .int k, .int l])) (.ref u) (rsV (.delay k l)) := Tu.new
        have c10 := c9.same s10
        have hS10 := s10 _ _ hS9
        generalize upd H9 u (.tup [.str "delay", .int k, .int l]) = H10 at s10 hu10 c10 hS10
        have k10 : Keep o H4 H10 := k9.trans (same_keep s10)
        walk_at "rd"
        refine ⟨o, B, p7.1, _, _, rfl, c10, wf, g7, by omega, ⟨i, x9, _, .delay k l, _, rfl, hu10, rfl⟩, fun H11 c11 k1011 => ?_⟩
        have ew : K95.offW p7.1 i x9 (if x.w - xl.w < B.hi i then x.w - xl.w else B.hi i) (.delay k l) = K95.offW p7.1 i x9 (min (B.hi i) (s.wOf k - p7.1.wOf l)) (.delay k l) := by
          rw [min_if, x4, K95.wOf_of hxl]
        rw [ew] at c11 ⊢
        have hS11 := k1011.new c4 nS hS10
        have k11 := k10.trans k1011
        walk_at "rd"
        refine ⟨S, _, _, rfl, rfl, hS11, size_ok (by rw [List.length_map]; omega), ?_⟩
        refine ⟨_, _, _, _, rfl, ?_, k11.side nS, bs ++ [_], by rw [upd_same, bls_snoc], by rw [List.length_append, List.length_singleton]; omega, ?_⟩
        · rw [snoc]
          exact c11.side hS11 apL apE
        · rw [any_snoc, ab, snoc]
          simp [Bool.or_assoc]
      · rw [delay_no (eq_false_of_ne_true e)] at snoc
        walk_at "rd"
        refine ⟨_, _, _, _, rfl, ?_, k8, bs, hS8, by omega, ?_⟩
        · rw [snoc]
          exact c8
        · rw [ab, snoc]
          simp
    · subst eσ
      rw [el] at c7 ab
      walk_at "rd"
      refine ⟨S, bs, rfl, SqL.of hS7, ?_⟩
      rw [K95.useWait_eq hk] at q
      rw [ab]
      exact q _ c7 (k4.trans k7)
  · rw [Bool.and_eq_true, Bool.and_eq_true] at e
    obtain ⟨hE, e5, e6⟩ := e
    have e7 : K95.uw2 B s i y k = K95.offW (K95.uw1 B s i y k).1 i (2 * K95.own y + 1) (x.w - B.lo (K95.own y)) (.ahead k) := by
      unfold K95.uw2 K95.ahead
      rw [← x4, hE, e6, if_pos]
      simpa using e5
    have tky := K95.own_tk hE evy
    have l1 := nw1.len
    walk_at "rd"
    refine ⟨y, rfl, ?_⟩
    rw [ownV_of hE]
    walk_at "rd"
    refine ⟨isL hS5, ?_⟩
    walk_at "rd"
    refine c5.meth no_offer_wait ?_
    walk_at "rd"
    refine ⟨_, rfl, ?_⟩
    walk_at "rd"
    walk_at "f.tasks"
    walk_at "rd"
    obtain ⟨ts', at2, t1', t2', t3'⟩ := c5.task tky
    refine q_ixT (SqT.of t1') t2' ?_
    walk_at "rd"
    refine q_ixT (SqT.of t3') rfl ?_
    walk_at "rd"
    refine ⟨Nat.le_of_ble_eq_true rfl, fun u nu => ?_⟩
    have s6 := same_new (o := .tup [.str "ahead", .int k]) nu
    have hu6 : Tu (upd H5 u (.tup [.str "ahead", .int k])) (.ref u) (rsV (.ahead k)) := Tu.new
    have c6 := c5.same s6
    have hS6 := s6 _ _ hS5
    generalize upd H5 u (.tup [.str "ahead", .int k]) = H6 at s6 hu6 c6 hS6
    have k6 : Keep o H4 H6 := k5.trans (same_keep s6)
    walk_at "rd"
    refine ⟨o, B, _, _, _, rfl, c6, wf, nw1.good, by omega, ⟨i, _, _, .ahead k, _, rfl, hu6, rfl⟩, fun H7 c7 k67 => ?_⟩
    rw [← e7] at c7 ⊢
    have hS7 := k67.new c4 nS hS6
    have k7 := k6.trans k67
    walk_at "rd"
    refine ⟨S, _, _, rfl, rfl, hS7, size_ok (by simp), ?_⟩
    refine hk2 _ _ ⟨_, rfl, c7.side hS7 apL apE, k7.side nS, [_, _], upd_same, Nat.le_refl _, by simp⟩
  · have e7 : K95.uw2 B s i y k = ((K95.uw1 B s i y k).1, false) := by
      unfold K95.uw2 K95.ahead
      rw [← x4, if_neg]
      rw [Bool.not_eq_true]
      rw [← e]
      simp [Bool.and_assoc]
    rw [e7]
    exact ⟨none, rfl, c5, k5, [_], hS5, by simp, by simp⟩
end
section
variable {P : Program} {w : World} {K : PySem.W.Frag} {mg : Str → Option Value} {base : Heap} {f C : Addr} {fd : FuncData}
theorem isSome_key {β : Type} {l : List ((Int × Int) × β)} {n : Nat} {p : (Int × Int) × β} (h : l[n]? = some p) : (K95.look l p.1).isSome = true := by
  obtain ⟨v, hv⟩ := K95.look_some_of_key (List.mem_map.mpr ⟨p, List.mem_of_getElem? h, rfl⟩)
  rw [hv]
  rfl
theorem key_at {β : Type} {l : List ((Int × Int) × β)} {n : Nat} {p : (Int × Int) × β} (h : l[n]? = some p) : (l.map (·.1))[n]? = some p.1 := by
  rw [List.getElem?_map, h]
  rfl
theorem every_at {B : K95.Br} {n : Nat} {v : V} (h : (B.every.map V.int)[n]? = some v) : ∃ x : Int, B.every[n]? = some x ∧ v = .int x := get_map h
abbrev N_cl_close_once : List Str := ["self", "some", "task", "event", "a", "b", "c"]
theorem sc_cl_close_once : FnScope N_cl_close_once ["self"] (defScope (inClass (top 7) 6)) := ⟨rfl, rfl, rfl, by decide +kernel, rfl, by decide +kernel, by decide +kernel⟩
-- slots: self 0, some 1, task 2, event 3, a 4, b 5, c 6
set_option maxHeartbeats 8000000 in
theorem k_close_once (A : MAt K C "close_once" "Closing.close_once" (inClass (top 7) 6) ["self"] f fd) (bi : Bi mg) (T : ClT K C)
    (D_use_wait : MDef P w K mg base C "use_wait" 2 ["self", "task", "event"] (spM C 80000 fUW)) (D_use_most : MDef P w K mg base C "use_most" 2 ["self", "a", "b"] (spM C 80000 fUM)) (D_add_up : MDef P w K mg base C "add_up" 2 ["self", "a", "b", "c"] (spM C 80000 fAdd)) :
    MDef P w K mg base C "close_once" 3 ["self"] (spM C 60000 fRound) := by
  refine A.ok sc_cl_close_once (fun vs H Q E h => spM_len (n := 0) (fun _ _ _ _ _ ⟨e, _⟩ => by rw [e]; rfl) h) (fun cdv A outer s H vs Q E hr h => ?_)
  obtain ⟨o, B, s, us, pr, rfl, c, wf, g, hl, ⟨rfl, rfl⟩, q⟩ := h
  have hu := hu_of hr
  refine ⟨_, (pss_cons (ps_setLc (i := 1) (own := [("task", 2), ("event", 3)]) (g := gTup K 2 (gCons (gName 2) (gCons (gName 3) gNil))) rfl sc_cl_close_once.nd rfl rfl (sw_true rfl rfl rfl (by decide +kernel)) (pi_list (pe_callTy (call_list_dT rfl) (by rfl) bi.list (by decide +kernel) (pa_cons (pe_fld (pv 0) rfl) pa_nil))) (blkOk_by (own := [("task", 2), ("event", 3)]) (N := N_cl_close_once) (sc := defScope (inClass (top 7) 6)) (by decide +kernel)) (fun _ _ _ _ _ => (pg_tup rfl (pgs_cons (pg_name (i := 2) sc_cl_close_once.nd rfl (.inl rfl)) (pgs_cons (pg_name (i := 3) sc_cl_close_once.nd rfl (.inl rfl)) pgs_nil)))) (fun _ _ _ _ _ => pts_nil) (fun _ _ _ _ _ => (pe_m D_use_wait T hr (pv 0) (pa_cons (pv 2) (pa_cons (pv 3) pa_nil)))))
    (pss_cons (ps_set (i := 1) sc_cl_close_once.nd rfl (.inl rfl) (pe_op op_cat (pv 1) (pe_lc (own := [("a", 4), ("b", 5)]) (g := gTup K 2 (gCons (gName 4) (gCons (gName 5) gNil))) rfl sc_cl_close_once.nd (pi_list (pe_callTy (call_list_dT rfl) (by rfl) bi.list (by decide +kernel) (pa_cons (pe_fld (pv 0) rfl) pa_nil))) (blkOk_by (own := [("a", 4), ("b", 5)]) (N := N_cl_close_once) (sc := defScope (inClass (top 7) 6)) (by decide +kernel)) (fun _ _ _ _ _ => (pg_tup rfl (pgs_cons (pg_name (i := 4) sc_cl_close_once.nd rfl (.inl rfl)) (pgs_cons (pg_name (i := 5) sc_cl_close_once.nd rfl (.inl rfl)) pgs_nil)))) (fun _ _ _ _ _ => pts_nil) (fun _ _ _ _ _ => (pe_m D_use_most T hr (pv 0) (pa_cons (pv 4) (pa_cons (pv 5) pa_nil)))))))
    (pss_cons (ps_for PassesOwn.never rfl (pi_list (pe_fld (pv 0) rfl)) (pg_name (i := 5) sc_cl_close_once.nd rfl (.inr rfl))
      (pss_one (ps_for PassesOwn.never rfl (pi_list (pe_fld (pv 0) rfl)) (pg_name (i := 4) sc_cl_close_once.nd rfl (.inr rfl))
        (pss_one (ps_set (i := 1) sc_cl_close_once.nd rfl (.inl rfl) (pe_op op_cat (pv 1) (pe_lc (own := [("c", 6)]) (g := gName 6) rfl sc_cl_close_once.nd (pi_list (pe_fld (pv 0) rfl)) (blkOk_by (own := [("c", 6)]) (N := N_cl_close_once) (sc := defScope (inClass (top 7) 6)) (by decide +kernel)) (fun _ _ _ _ _ => (pg_name (i := 6) sc_cl_close_once.nd rfl (.inl rfl))) (fun _ _ _ _ _ => pts_nil) (fun _ _ _ _ _ => (pe_m D_add_up T hr (pv 0) (pa_cons (pv 4) (pa_cons (pv 5) (pa_cons (pv 6) pa_nil))))))))))))
    (pss_one (ps_ret (pe_callB (cr_any rfl) (by rfl) bi.any (by decide +kernel) (pa_cons (pv 1) pa_nil))))))), ?_⟩
  have lw := K95.waits_len wf g
  walk_at "rd"
  walk_at "f.waits"
  walk_at "rd"
  refine ⟨o.dw, _, rfl, .inl c.wa, fun p bs np ik => ?_⟩
  have lb : bs.length = s.waits.length := (Paired.length ik).symm.trans (kvT_len _ _)
  have hp1 : (upd H p (.lst (bs.map V.ref))) p = some (.lst (bs.map V.ref)) := upd_same
  have s1 := same_new (o := .lst (bs.map V.ref)) np
  have c1 := c.same s1
  have ik1 : IsKeys (upd H p (.lst (bs.map V.ref))) (kvT nV s.waits) bs := paired_imp (fun _ _ h => s1 _ _ h) ik
  have k1 : Keep o H (upd H p (.lst (bs.map V.ref))) := same_keep s1
  generalize upd H p (.lst (bs.map V.ref)) = H1 at hp1 s1 c1 ik1 k1
  have app := c.apart np
  refine ⟨p, rfl, ⟨_, SqL.of hp1⟩, fun D nD => ?_⟩
  have apD := c1.apart nD
  have apD2 := c1.newL nD
  refine lc_it (walk_list (xs := bs.map V.ref)) (fun n H' => ClAt C B H' o (K95.runL (K95.wpF B) s ((s.waits.map (·.1)).take n)).1 ∧ Keep o H1 H' ∧ ∃ rs : List Bool, H' D = some (.lst (rs.map V.bl)) ∧ rs.length = n ∧ rs.any id = (K95.runL (K95.wpF B) s ((s.waits.map (·.1)).take n)).2)
    ⟨c1.same (same_new nD), same_keep (same_new nD), [], upd_same, rfl, rfl⟩ (fun n H' _ ⟨_, k, _⟩ => SqL.of (k _ _ hp1 app.1 app.2)) (fun n v H2 H2' hn ⟨c2, k2, rs, hD, lr, ar⟩ hy => ?_) (fun H2 ⟨c2, k2, rs, hD, lr, ar⟩ => ?_)
  · obtain ⟨rfl, hv⟩ := hy
    rw [List.length_map, lb] at hn
    obtain ⟨a, hbs, rfl⟩ := get_map hv
    obtain ⟨kv, hkv, ha⟩ := paired_get2 n a ik1 hbs
    obtain ⟨⟨⟨i, y⟩, k⟩, hw, rfl⟩ := get_map hkv
    have ha2 : H2' a = some (.tup [.int i, .int y]) := (k2.tps c1) _ _ ha
    have nr := K95.near_wp wf g n
    have nl := nr.len
    refine q_gtup (SqT.of ha2) rfl ?_
    walk_at "rd"
    refine ⟨rfl, ?_⟩
    walk_at "rd"
    refine iteT ?_
    walk_at "rd"
    refine c2.meth no_use_wait ?_
    walk_at "rd"
    refine ⟨o, B, _, _, _, rfl, c2, wf, nr.good, by omega, ⟨i, y, rfl, nr.wa g (isSome_key hw), rfl⟩, fun H3 c3 k23 => ?_⟩
    have hD3 := k23.new c1 nD hD
    have snoc := K95.runL_snoc (K95.wpF B) (i, y) ((s.waits.map (·.1)).take n) s
    rw [← take_snoc (key_at hw)] at snoc
    refine ⟨_, hD3, size_ok (by rw [List.length_map]; omega), ?_, (k2.trans k23).side nD, rs ++ [_], by rw [upd_same, bls_snoc], by rw [List.length_append, lr]; rfl, ?_⟩
    · rw [snoc]
      exact c3.side hD3 apD2.1 apD2.2
    · rw [any_snoc, ar, snoc]
      rfl
  rw [List.length_map, lb, List.take_of_length_le (by rw [List.length_map]; exact Nat.le_refl _)] at c2 ar
  rw [List.length_map, lb] at lr
  have n2 := K95.near_wp wf g s.waits.length
  rw [List.take_of_length_le (by rw [List.length_map]; exact Nat.le_refl _)] at n2
  rw [K95.round_eq] at q
  generalize K95.runL (K95.wpF B) s (s.waits.map (·.1)) = pA at c2 ar n2 q
  have g2 := n2.good
  have l2 := n2.len
  have lm := K95.mosts_len wf g2
  have k2' := k1.trans k2
  clear k2 ik ik1 hp1 s1
  walk_at "rd"
  walk_at "f.mosts"
  walk_at "rd"
  refine ⟨o.dm, _, rfl, .inl c2.mo, fun p bs np ik => ?_⟩
  have lb : bs.length = pA.1.mosts.length := (Paired.length ik).symm.trans (kvT_len _ _)
  have hp1 : (upd H2 p (.lst (bs.map V.ref))) p = some (.lst (bs.map V.ref)) := upd_same
  have s1 := same_new (o := .lst (bs.map V.ref)) np
  have c3 := c2.same s1
  have hD3 := s1 _ _ hD
  have ik1 : IsKeys (upd H2 p (.lst (bs.map V.ref))) (kvT nV pA.1.mosts) bs := paired_imp (fun _ _ h => s1 _ _ h) ik
  have k3 : Keep o H (upd H2 p (.lst (bs.map V.ref))) := k2'.trans (same_keep s1)
  generalize upd H2 p (.lst (bs.map V.ref)) = H3 at hp1 s1 c3 ik1 k3 hD3
  have app := c2.apart np
  refine ⟨p, rfl, ⟨_, SqL.of hp1⟩, fun E nE => ?_⟩
  have apE := c3.apart nE
  have apE2 := c3.newL nE
  refine lc_it (walk_list (xs := bs.map V.ref)) (fun n H' => ClAt C B H' o (K95.runL (K95.mpF B) pA.1 ((pA.1.mosts.map (·.1)).take n)).1 ∧ Keep o H3 H' ∧ ∃ rs : List Bool, H' E = some (.lst (rs.map V.bl)) ∧ rs.length = n ∧ rs.any id = (K95.runL (K95.mpF B) pA.1 ((pA.1.mosts.map (·.1)).take n)).2)
    ⟨c3.same (same_new nE), same_keep (same_new nE), [], upd_same, rfl, rfl⟩ (fun n H' _ ⟨_, k, _⟩ => SqL.of (k _ _ hp1 app.1 app.2)) (fun n v H4 H4' hn ⟨c4, k4, rs, hE, lr, ar⟩ hy => ?_) (fun H4 ⟨c4, k4, rs', hE, lr', ar'⟩ => ?_)
  · obtain ⟨rfl, hv⟩ := hy
    rw [List.length_map, lb] at hn
    obtain ⟨a, hbs, rfl⟩ := get_map hv
    obtain ⟨kv, hkv, ha⟩ := paired_get2 n a ik1 hbs
    obtain ⟨⟨⟨i, y⟩, k⟩, hw, rfl⟩ := get_map hkv
    have ha2 : H4' a = some (.tup [.int i, .int y]) := (k4.tps c3) _ _ ha
    have nr := K95.near_mp (B := B) g2 n
    have nl := nr.len
    refine q_gtup (SqT.of ha2) rfl ?_
    walk_at "rd"
    refine ⟨rfl, ?_⟩
    walk_at "rd"
    refine iteT ?_
    walk_at "rd"
    refine c4.meth no_use_most ?_
    walk_at "rd"
    refine ⟨o, B, _, _, _, rfl, c4, wf, nr.good, by omega, ⟨i, y, rfl, nr.mo g2 (isSome_key hw), rfl⟩, fun H5 c5 k45 => ?_⟩
    have hE5 := k45.new c3 nE hE
    have snoc := K95.runL_snoc (K95.mpF B) (i, y) ((pA.1.mosts.map (·.1)).take n) pA.1
    rw [← take_snoc (key_at hw)] at snoc
    refine ⟨_, hE5, size_ok (by rw [List.length_map]; omega), ?_, (k4.trans k45).side nE, rs ++ [_], by rw [upd_same, bls_snoc], by rw [List.length_append, lr]; rfl, ?_⟩
    · rw [snoc]
      exact c5.side hE5 apE2.1 apE2.2
    · rw [any_snoc, ar, snoc]
      rfl
  rw [List.length_map, lb, List.take_of_length_le (by rw [List.length_map]; exact Nat.le_refl _)] at c4 ar'
  rw [List.length_map, lb] at lr'
  have n4 := K95.near_mp (B := B) g2 pA.1.mosts.length
  rw [List.take_of_length_le (by rw [List.length_map]; exact Nat.le_refl _)] at n4
  generalize K95.runL (K95.mpF B) pA.1 (pA.1.mosts.map (·.1)) = pB at c4 ar' n4 q
  have g4 := n4.good
  have l4 := n4.len
  have hD4 := k4 _ _ hD3 apD.1 apD.2
  have k4' := k3.trans k4
  clear k4 ik ik1 hp1 s1 hD hD3
  refine ⟨D, E, _, _, rfl, rfl, hD4, hE, Nat.le_of_lt (size_ok (by rw [List.length_map, List.length_map]; omega)), fun S nS => ?_⟩
  have hS5 : (upd H4 S (.lst (rs.map V.bl ++ rs'.map V.bl))) S = some (.lst ((rs ++ rs').map V.bl)) := by rw [upd_same, List.map_append]
  have s5 := same_new (o := .lst (rs.map V.bl ++ rs'.map V.bl)) nS
  have apS := c4.newL nS
  have c5 := c4.same s5
  have k5 := k4'.trans (same_keep s5)
  generalize upd H4 S (.lst (rs.map V.bl ++ rs'.map V.bl)) = H5 at hS5 s5 c5 k5
  have aS : (rs ++ rs').any id = (pA.2 || pB.2) := by rw [List.any_append, ar, ar']
  have lS : (rs ++ rs').length ≤ 117 := by rw [List.length_append]; omega
  generalize rs ++ rs' = r5 at hS5 aS lS
  walk_at "rd"
  walk_at "f.every"
  refine ⟨o.ae, rfl, ⟨_, SqL.of c5.ev⟩, ?_⟩
  have el : (B.every.map V.int).length = B.every.length := List.length_map _
  have el9 : B.every.length ≤ 9 := by rw [K95.every_len]; have := wf.m4; omega
  refine for_it (walk_list (xs := B.every.map V.int)) (fun n σ H' => ∃ S y4 y5 rs, σ = [some (.ref o.x), some (.ref S), none, none, y4, y5, none] ∧ ClAt C B H' o (K95.runL (K95.a3 B) pB.1 (B.every.take n)).1 ∧ Keep o H H' ∧ H' S = some (.lst (List.map V.bl rs)) ∧ (S ≠ o.al ∧ S ≠ o.ae) ∧ rs.length ≤ 117 + 81 * n ∧
    rs.any id = (pA.2 || pB.2 || (K95.runL (K95.a3 B) pB.1 (B.every.take n)).2)) ⟨S, none, none, r5, rfl, c5, k5, hS5, apS, lS, by rw [aS]; simp [K95.runL]⟩ (fun n σ H' _ ⟨_, _, _, _, _, c', _⟩ => SqL.of c'.ev) (fun n v σ H6 H6' hn ⟨S, y4, y5, rs, eσ, c6, k6, hS6, apS, lS, aS⟩ hy => ?_) (fun σ H6 ⟨S, y4, y5, rs, eσ, c6, k6, hS6, apS, lS, aS⟩ => ?_)
  · subst eσ
    obtain ⟨rfl, hv⟩ := hy
    obtain ⟨b, hb, rfl⟩ := every_at hv
    rw [el] at hn
    have n6 := K95.near_a3 wf g4 (B.every.take n)
    have g6 := n6.good
    have l6 := n6.len
    have lt6 : (B.every.take n).length ≤ n := by rw [List.length_take]; omega
    have snoc3 := K95.runL_snoc (K95.a3 B) b (B.every.take n) pB.1
    rw [← take_snoc hb] at snoc3
    generalize K95.runL (K95.a3 B) pB.1 (B.every.take n) = pC at c6 aS g6 l6 snoc3
    walk_at "rd"
    walk_at "f.every"
    refine ⟨o.ae, rfl, ⟨_, SqL.of c6.ev⟩, ?_⟩
    refine for_it (walk_list (xs := B.every.map V.int)) (fun m σ H' => ∃ S y4 rs, σ = [some (.ref o.x), some (.ref S), none, none, y4, some (.int b), none] ∧ ClAt C B H' o (K95.runL (K95.a2 B b) pC.1 (B.every.take m)).1 ∧ Keep o H H' ∧ H' S = some (.lst (List.map V.bl rs)) ∧ (S ≠ o.al ∧ S ≠ o.ae) ∧ rs.length ≤ 117 + 81 * n + 9 * m ∧
      rs.any id = (pA.2 || pB.2 || pC.2 || (K95.runL (K95.a2 B b) pC.1 (B.every.take m)).2)) ⟨S, _, rs, rfl, c6, k6, hS6, apS, by omega, by rw [aS]; simp [K95.runL]⟩ (fun n σ H' _ ⟨_, _, _, _, c', _⟩ => SqL.of c'.ev) (fun m v σ H7 H7' hm ⟨S, y4, rs, eσ, c7, k7, hS7, apS, lS, aS⟩ hy => ?_) (fun σ H7 ⟨S, y4, rs, eσ, c7, k7, hS7, apS, lS, aS⟩ => ?_)
    · subst eσ
      obtain ⟨rfl, hv⟩ := hy
      obtain ⟨a, ha, rfl⟩ := every_at hv
      rw [el] at hm
      have n7 := K95.near_a2 wf g6 b (B.every.take m)
      have g7 := n7.good
      have l7 := n7.len
      have lt7 : (B.every.take m).length ≤ m := by rw [List.length_take]; omega
      have snoc2 := K95.runL_snoc (K95.a2 B b) a (B.every.take m) pC.1
      rw [← take_snoc ha] at snoc2
      generalize K95.runL (K95.a2 B b) pC.1 (B.every.take m) = pD at c7 aS g7 l7 snoc2
      walk_at "rd"
      walk_at "f.every"
      refine ⟨o.ae, rfl, ⟨_, SqL.of c7.ev⟩, fun E nE => ?_⟩
      have apE := c7.apart nE
      have apE2 := c7.newL nE
      have apS4 : (S ≠ o.x ∧ S ≠ o.al) ∧ S ≠ o.dm ∧ S ≠ o.dw := ⟨⟨ne_of hS7 c7.ob (fun z => by cases z), apS.1⟩, ne_of hS7 c7.mo (fun z => by cases z), ne_of hS7 c7.wa (fun z => by cases z)⟩
      refine lc_it (walk_list (xs := B.every.map V.int)) (fun l H' => ClAt C B H' o (K95.runL (K95.a1 a b) pD.1 (B.every.take l)).1 ∧ Keep o H7' H' ∧ ∃ rs : List Bool, H' E = some (.lst (rs.map V.bl)) ∧ rs.length = l ∧ rs.any id = (K95.runL (K95.a1 a b) pD.1 (B.every.take l)).2)
        ⟨c7.same (same_new nE), same_keep (same_new nE), [], upd_same, rfl, rfl⟩ (fun n H' _ ⟨c', _⟩ => SqL.of c'.ev) (fun l v H8 H8' hl8 ⟨c8, k8, rs8, hE8, lr, ar⟩ hy => ?_) (fun H8 ⟨c8, k8, rs8, hE8, lr, ar⟩ => ?_)
      · obtain ⟨rfl, hv⟩ := hy
        obtain ⟨d, hd, rfl⟩ := every_at hv
        rw [el] at hl8
        have n8 := K95.near_a1 (B := B) g7 a b (B.every.take l)
        have l8 := n8.len
        have lt8 : (B.every.take l).length ≤ l := by rw [List.length_take]; omega
        walk_at "rd"
        refine ⟨rfl, ?_⟩
        walk_at "rd"
        refine iteT ?_
        walk_at "rd"
        refine c8.meth no_add_up ?_
        walk_at "rd"
        refine ⟨o, B, _, _, _, rfl, c8, wf, n8.good, by omega, ⟨a, b, d, rfl, rfl⟩, fun H9 c9 k89 => ?_⟩
        have hE9 := k89.new c7 nE hE8
        have snoc := K95.runL_snoc (K95.a1 a b) d (B.every.take l) pD.1
        rw [← take_snoc hd] at snoc
        refine ⟨_, hE9, size_ok (by rw [List.length_map]; omega), ?_, (k8.trans k89).side nE, rs8 ++ [_], by rw [upd_same, bls_snoc], by rw [List.length_append, lr]; rfl, ?_⟩
        · rw [snoc]
          exact c9.side hE9 apE2.1 apE2.2
        · rw [any_snoc, ar, snoc]
          rfl
      · rw [el, List.take_length] at c8 ar
        rw [el] at lr
        have hS8 := k8 _ _ hS7 apS4.1 apS4.2
        refine ⟨S, E, _, _, rfl, rfl, hS8, hE8, Nat.le_of_lt (size_ok (by rw [List.length_map, List.length_map]; omega)), fun S2 nS2 => ?_⟩
        refine ⟨S2, _, rs ++ rs8, rfl, ?_, (k7.trans k8).trans (same_keep (same_new nS2)), by rw [upd_same, List.map_append], c8.newL nS2, by rw [List.length_append]; omega, ?_⟩
        · rw [snoc2]
          exact c8.same (same_new nS2)
        · rw [List.any_append, aS, ar, snoc2]
          simp only [Bool.or_assoc]
          rfl
    · subst eσ
      rw [el, List.take_length] at c7 aS
      walk_at "rd"
      refine ⟨S, _, _, rs, rfl, ?_, k7, hS7, apS, by rw [el] at lS; omega, ?_⟩
      · rw [snoc3]
        exact c7
      · rw [aS, snoc3]
        simp only [Bool.or_assoc]
        rfl
  · subst eσ
    rw [el, List.take_length] at c6 aS
    walk_at "rd"
    refine ⟨S, rs, rfl, SqL.of hS6, ?_⟩
    rw [aS]
    exact q _ c6 k6
end
section
variable {P : Program} {w : World} {K : PySem.W.Frag} {mg : Str → Option Value} {base : Heap} {f C : Addr} {fd : FuncData}
def spInit (C : Addr) : Sp := fun vs H Q _ => ∃ x v B dx, vs = [.ref x, v] ∧ H x = some (.ins C dx []) ∧ IsBr H v B ∧ B.WF ∧ ∀ o H', o.x = x → ClAt C B H' o (K95.fin B) → Off x H H' → Q .non H'
abbrev N_cl___init__ : List Str := ["self", "brief", "k", "a", "b", "w", "task", "low", "high", "is_changed"]
theorem sc_cl___init__ : FnScope N_cl___init__ ["self", "brief"] (defScope (inClass (top 7) 0)) := ⟨rfl, rfl, rfl, by decide +kernel, rfl, by decide +kernel, by decide +kernel⟩
-- slots: self 0, brief 1, k 2, a 3, b 4, w 5, task 6, low 7, high 8, is_changed 9
set_option maxHeartbeats 8000000 in
theorem k_init (A : MAt K C "__init__" "Closing.__init__" (inClass (top 7) 0) ["self", "brief"] f fd) (bi : Bi mg) (T : ClT K C)
    (D_all_bounds : Def P w K mg base "all_bounds" 2 ["brief"] spBounds) (D_end_of : Def P w K mg base "end_of" 1 ["task"] (spI fun i => .int (2 * i + 2)))
    (D_offer_most : MDef P w K mg base C "offer_most" 1 ["self", "a", "b", "w", "reason"] (spM C 90000 fOffM)) (D_offer_wait : MDef P w K mg base C "offer_wait" 1 ["self", "task", "event", "w", "reason"] (spM C 90000 fOffW))
    (D_close_once : MDef P w K mg base C "close_once" 3 ["self"] (spM C 60000 fRound)) :
    MDef P w K mg base C "__init__" 4 ["self", "brief"] (spInit C) := by
  refine A.ok sc_cl___init__ (fun vs H Q E h => ?_) (fun cdv A outer s H vs Q E hr h => ?_)
  · obtain ⟨x, v, B, dx, rfl, _⟩ := h
    rfl
  obtain ⟨x, v, B, dx, rfl, hx, hB, wf, q⟩ := h
  have hu := hu_of hr
  have D_all_bounds := D_all_bounds.mono (j := 3) (by decide)
  have D_end_of := D_end_of.mono (j := 3) (by decide)
  have D_offer_most := D_offer_most.mono (j := 3) (by decide)
  have D_offer_wait := D_offer_wait.mono (j := 3) (by decide)
  refine ⟨_, (pss_cons (ps_fld (pv 0) (pe_ix ix_tup (pe_ix ix_tup (pv 1) pe_int (fun _ _ => rfl)) pe_int (fun _ _ => rfl)) rfl)
    (pss_cons (ps_fld (pv 0) (pe_listRg rfl (by rfl) bi.list (prg_1 (by rfl) bi.range (pe_op op_add (pe_op op_mul pe_int (pe_callB call_len_seq (by rfl) bi.len PySem.boot_len (pa_cons (pe_fld (pv 0) rfl) pa_nil))) pe_int))) rfl)
    (pss_cons (ps_fld (pv 0) (pe_lst pa_nil) rfl)
    (pss_cons (ps_fld (pv 0) pe_dnewT rfl)
    (pss_cons (ps_fld (pv 0) pe_dnewT rfl)
    (pss_cons (ps_fld (pv 0) pe_non rfl)
    (pss_cons (ps_for PassesOwn.never rfl (pi_enum (by rfl) bi.enumerate (pa_cons (pe_d D_all_bounds hr (by rfl) (pa_cons (pv 1) pa_nil)) pa_nil)) (pg_tup rfl (pgs_cons (pg_name (i := 2) sc_cl___init__.nd rfl (.inl rfl)) (pgs_cons (pg_tup rfl (pgs_cons (pg_name (i := 3) sc_cl___init__.nd rfl (.inl rfl)) (pgs_cons (pg_name (i := 4) sc_cl___init__.nd rfl (.inl rfl)) (pgs_cons (pg_name (i := 5) sc_cl___init__.nd rfl (.inl rfl)) pgs_nil)))) pgs_nil)))
      (pss_one (ps_expr (pe_m D_offer_most T hr (pv 0) (pa_cons (pv 3) (pa_cons (pv 4) (pa_cons (pv 5) (pa_cons (pe_tup (pa_cons pe_str (pa_cons (pv 2) pa_nil))) pa_nil))))))))
    (pss_cons (ps_for PassesOwn.never rfl (pi_enumT (by rfl) bi.enumerate (pa_cons (pe_fld (pv 0) rfl) pa_nil)) (pg_tup rfl (pgs_cons (pg_name (i := 6) sc_cl___init__.nd rfl (.inl rfl)) (pgs_cons (pg_tup rfl (pgs_cons (pg_name (i := 7) sc_cl___init__.nd rfl (.inl rfl)) (pgs_cons (pg_name (i := 8) sc_cl___init__.nd rfl (.inl rfl)) pgs_nil))) pgs_nil)))
      (pss_one (ps_expr (pe_m D_offer_wait T hr (pv 0) (pa_cons (pv 6) (pa_cons (pe_d D_end_of hr (by rfl) (pa_cons (pv 6) pa_nil)) (pa_cons (pv 8) (pa_cons (pe_tup (pa_cons pe_str (pa_cons (pv 6) pa_nil))) pa_nil))))))))
    (pss_cons (ps_set (i := 9) sc_cl___init__.nd rfl (.inl rfl) pe_bl)
    (pss_one (ps_while PassesOwn.never (PW.pt (pw_and (pt_val (pv 9)) (pw_and1 (pt_cmpR op_isN (pe_fld (pv 0) rfl) pe_non (nomark _)))))
      (pss_one (ps_set (i := 9) sc_cl___init__.nd rfl (.inl rfl) (pe_m0 D_close_once T hr (pv 0))))))))))))))), ?_⟩
  have hBr := hB
  obtain ⟨vp, vl, ⟨a, rfl, ha⟩, ⟨vt, va, ⟨ap, rfl, hp⟩, ht, hA⟩, hL⟩ := hB
  have htt := ht
  obtain ⟨ts, ⟨at', rfl, ht1⟩, ht2⟩ := ht
  have lts : ts.length = B.m := ht2.length
  have m4 := wf.m4
  have nx : ∀ xs, H x ≠ some (.tup xs) := fun xs e => by rw [hx] at e; cases e
  walk_at "rd"
  refine q_ixT (SqT.of ha) rfl ?_
  walk_at "rd"
  refine q_ixT (SqT.of hp) rfl ?_
  walk_at "rd"
  -- tasks
  refine ⟨x, C, dx, _, rfl, hx, T.cl, T.tasks, by decide, ?_⟩
  have l1 := length_putF "tasks" (.ref at') []
  have h1 : (upd H x (.ins C dx (putF "tasks" (.ref at') []))) x = some (.ins C dx (putF "tasks" (.ref at') [])) := upd_same
  have f1 : Off x H (upd H x (.ins C dx (putF "tasks" (.ref at') []))) := off_set
  have k1 : (putF "tasks" (.ref at') []).lookup ("tasks" : Str) = some (V.ref at') := by rw [lookup_putF, if_pos rfl]
  generalize efs1 : putF "tasks" (.ref at') [] = fs1 at h1 f1 l1 k1 ⊢
  generalize upd H x (.ins C dx fs1) = H1 at h1 f1
  walk_at "rd"
  -- every
  refine ⟨x, C, dx, _, _, rfl, h1, T.cl, T.tasks, k1, ?_⟩
  refine ⟨at', ts, rfl, .inr (SqT.of (f1.tps nx _ _ ht1)), ?_⟩
  walk_at "rd"
  refine ⟨RgOk.of_le (by decide) (by omega) (by decide) (by omega), fun ae nae => ?_⟩
  walk_at "rd"
  have xae : x ≠ ae := ne_of_none h1 nae
  refine ⟨x, C, dx, _, rfl, (by rw [upd_ne xae]; exact h1), T.cl, T.every, Nat.lt_of_le_of_lt l1 (by decide), ?_⟩
  have l2 := Nat.le_trans (length_putF "every" (.ref ae) fs1) (Nat.succ_le_succ l1)
  have h2 : (upd (upd H1 ae (.lst (rgV 0 (2 * (ts.length : Int) + 1)))) x (.ins C dx (putF "every" (.ref ae) fs1))) x = some (.ins C dx (putF "every" (.ref ae) fs1)) := upd_same
  have e2 : (upd (upd H1 ae (.lst (rgV 0 (2 * (ts.length : Int) + 1)))) x (.ins C dx (putF "every" (.ref ae) fs1))) ae = some (.lst (B.every.map V.int)) := by
    rw [upd_ne xae.symm, upd_same, lts, show 2 * (B.m : Int) + 1 = ((2 * B.m + 1 : Nat) : Int) by omega, rg_ints]
    rfl
  have f2 : Off x H1 (upd (upd H1 ae (.lst (rgV 0 (2 * (ts.length : Int) + 1)))) x (.ins C dx (putF "every" (.ref ae) fs1))) := off_new nae
  have k2 : putF "every" (.ref ae) fs1 = putF "every" (.ref ae) (putF "tasks" (.ref at') []) := by rw [efs1]
  generalize putF "every" (.ref ae) fs1 = fs2 at h2 e2 f2 l2 k2
  generalize upd (upd H1 ae (.lst (rgV 0 (2 * (ts.length : Int) + 1)))) x (.ins C dx fs2) = H2 at h2 e2 f2
  walk_at "rd"
  -- lines
  refine ⟨Nat.zero_le _, fun al nal => ?_⟩
  have xal : x ≠ al := ne_of_none h2 nal
  walk_at "rd"
  refine ⟨x, C, dx, _, rfl, (by rw [upd_ne xal]; exact h2), T.cl, T.lines, Nat.lt_of_le_of_lt l2 (by decide), ?_⟩
  have l3 := Nat.le_trans (length_putF "lines" (.ref al) fs2) (Nat.succ_le_succ l2)
  have h3 : (upd (upd H2 al (.lst [])) x (.ins C dx (putF "lines" (.ref al) fs2))) x = some (.ins C dx (putF "lines" (.ref al) fs2)) := upd_same
  have g3 : (upd (upd H2 al (.lst [])) x (.ins C dx (putF "lines" (.ref al) fs2))) al = some (.lst []) := by rw [upd_ne xal.symm, upd_same]
  have f3 : Off x H2 (upd (upd H2 al (.lst [])) x (.ins C dx (putF "lines" (.ref al) fs2))) := off_new nal
  have e3 := f3 _ _ e2 xae.symm
  have n2 : ae ≠ al := ne_of_none e2 nal
  rw [k2] at h3 g3 f3 e3 l3 ⊢
  generalize upd (upd H2 al (.lst [])) x (.ins C dx (putF "lines" (.ref al) (putF "every" (.ref ae) (putF "tasks" (.ref at') [])))) = H3 at h3 g3 f3 e3
  walk_at "rd"
  -- mosts
  intro dm ndm
  have xdm : x ≠ dm := ne_of_none h3 ndm
  walk_at "rd"
  refine ⟨x, C, dx, _, rfl, (by rw [upd_ne xdm]; exact h3), T.cl, T.mosts, Nat.lt_of_le_of_lt l3 (by decide), ?_⟩
  have l4 := Nat.le_trans (length_putF "mosts" (.ref dm) (putF "lines" (.ref al) (putF "every" (.ref ae) (putF "tasks" (.ref at') [])))) (Nat.succ_le_succ l3)
  generalize e4 : putF "mosts" (.ref dm) (putF "lines" (.ref al) (putF "every" (.ref ae) (putF "tasks" (.ref at') []))) = fs4 at l4 ⊢
  have h4 : (upd (upd H3 dm (.dT [])) x (.ins C dx fs4)) x = some (.ins C dx fs4) := upd_same
  have m4' : (upd (upd H3 dm (.dT [])) x (.ins C dx fs4)) dm = some (.dT []) := by rw [upd_ne xdm.symm, upd_same]
  have f4 : Off x H3 (upd (upd H3 dm (.dT [])) x (.ins C dx fs4)) := off_new ndm
  have g4 := f4 _ _ g3 xal.symm
  have e4' := f4 _ _ e3 xae.symm
  generalize upd (upd H3 dm (.dT [])) x (.ins C dx fs4) = H4 at h4 m4' f4 g4 e4'
  walk_at "rd"
  -- waits
  intro dw ndw
  have xdw : x ≠ dw := ne_of_none h4 ndw
  walk_at "rd"
  refine ⟨x, C, dx, _, rfl, (by rw [upd_ne xdw]; exact h4), T.cl, T.waits, Nat.lt_of_le_of_lt l4 (by decide), ?_⟩
  have l5 := Nat.le_trans (length_putF "waits" (.ref dw) fs4) (Nat.succ_le_succ l4)
  generalize e5 : putF "waits" (.ref dw) fs4 = fs5 at l5 ⊢
  have h5 : (upd (upd H4 dw (.dT [])) x (.ins C dx fs5)) x = some (.ins C dx fs5) := upd_same
  have w5 : (upd (upd H4 dw (.dT [])) x (.ins C dx fs5)) dw = some (.dT []) := by rw [upd_ne xdw.symm, upd_same]
  have f5 : Off x H4 (upd (upd H4 dw (.dT [])) x (.ins C dx fs5)) := off_new ndw
  have g5 := f5 _ _ g4 xal.symm
  have e5' := f5 _ _ e4' xae.symm
  have m5 := f5 _ _ m4' xdm.symm
  have n1 : dm ≠ dw := ne_of_none m4' ndw
  generalize upd (upd H4 dw (.dT [])) x (.ins C dx fs5) = H5 at h5 w5 f5 g5 e5' m5
  walk_at "rd"
  -- fault
  refine ⟨x, C, dx, _, rfl, h5, T.cl, T.fault, Nat.lt_of_le_of_lt l5 (by decide), ?_⟩
  have f6 : Off x H5 (upd H5 x (.ins C dx (putF "fault" .non fs5))) := off_set
  have fH : Off x H (upd H5 x (.ins C dx (putF "fault" .non fs5))) := ((((f1.trans f2).trans f3).trans f4).trans f5).trans f6
  have c6 : ClAt C B (upd H5 x (.ins C dx (putF "fault" .non fs5))) ⟨x, dx, at', ae, al, dm, dw⟩ (K95.ob B 0) := by
    refine ⟨?_, htt.tps (fH.tps nx), f6 _ _ e5' xae.symm, ⟨[], f6 _ _ g5 xal.symm, .nil⟩, f6 _ _ m5 xdm.symm, f6 _ _ w5 xdw.symm, n1, n2⟩
    rw [upd_same, ← e5, ← e4]
    rfl
  have nalH : H al = none := (f1.trans f2).free h2 nal
  have ndmH : H dm = none := ((f1.trans f2).trans f3).free h3 ndm
  have ndwH : H dw = none := (((f1.trans f2).trans f3).trans f4).free h4 ndw
  have back : ∀ H', Keep ⟨x, dx, at', ae, al, dm, dw⟩ (upd H5 x (.ins C dx (putF "fault" .non fs5))) H' → Off x H H' := fun H' k b u e n =>
    k b u (fH b u e n) ⟨n, ne_of_none e nalH⟩ ⟨ne_of_none e ndmH, ne_of_none e ndwH⟩
  have hB6 := hBr.tps (fH.tps nx)
  have ht6 := fH.tps nx _ _ ht1
  clear f1 f2 f3 f4 f5 f6 fH g3 g4 g5 e2 e3 e4' e5' m4' m5 w5 h1 h2 h3 h4 h5 k1 k2
  generalize upd H5 x (.ins C dx (putF "fault" .non fs5)) = H6 at c6 back hB6 ht6
  generalize eo : (⟨x, dx, at', ae, al, dm, dw⟩ : Ob) = o at c6 back
  have eox : o.x = x := by rw [← eo]
  have eot : o.ta = at' := by rw [← eo]
  subst eox eot
  clear eo
  walk_at "rd"
  -- the bounds
  refine ⟨_, B, rfl, hB6, wf, fun F H7 nF s67 rF => ?_⟩
  obtain ⟨fs, hF, pF⟩ := rF
  have c7 := c6.same s67
  have apF := c6.apart nF
  walk_at "rd"
  refine ⟨F, fs, rfl, SqL.of hF, ?_⟩
  have lF : fs.length = (K95.bounds B).length := pF.length
  refine for_it (walk_enum (xs := fs)) (fun n σ H' => ∃ y2 y3 y4 y5, σ = [some (.ref o.x), some (.ref a), y2, y3, y4, y5, none, none, none, none] ∧ ClAt C B H' o (K95.ob B n) ∧ Keep o H7 H') ⟨none, none, none, none, rfl, c7, Keep.refl _ _⟩
    (fun n σ H' _ ⟨_, _, _, _, _, _, k⟩ => SqL.of (k _ _ hF apF.1 apF.2)) (fun n v σ H8 H8' hn ⟨y2, y3, y4, y5, eσ, c8, k8⟩ hy => ?_) (fun σ H8 ⟨y2, y3, y4, y5, eσ, c8, k8⟩ => ?_)
  · subst eσ
    obtain ⟨Z, ix, z, rfl, nZ, rfl, hix, hz⟩ := hy
    cases hix
    obtain ⟨p, hp1, az, rfl, haz⟩ := paired_get n z pF hz
    have sZ := same_new (o := .tup [.int (n : Nat), .ref az]) nZ
    have c9 := c8.same sZ
    have haz9 := sZ _ _ ((k8.tps c7) _ _ haz)
    have hZ : (upd H8 Z (.tup [.int (n : Nat), .ref az])) Z = some (.tup [.int (n : Nat), .ref az]) := upd_same
    generalize upd H8 Z (.tup [.int (n : Nat), .ref az]) = H9 at sZ c9 haz9 hZ
    obtain ⟨gn, ln⟩ := K95.ob_near wf n
    refine q_gtup (SqT.of hZ) rfl ?_
    walk_at "rd"
    refine q_gtup (SqT.of haz9) rfl ?_
    walk_at "rd"
    refine c9.meth no_offer_most ?_
    walk_at "rd"
    refine ⟨Nat.le_of_ble_eq_true rfl, fun u nu => ?_⟩
    have su := same_new (o := .tup [.str "bound", .int (n : Nat)]) nu
    have hu9 : Tu (upd H9 u (.tup [.str "bound", .int (n : Nat)])) (.ref u) (rsV (.bound n)) := Tu.new
    walk_at "rd"
    refine ⟨o, B, K95.ob B n, _, _, rfl, c9.same su, wf, gn, by omega, ⟨p.1, p.2.1, p.2.2, .bound n, _, rfl, hu9, rfl⟩, fun H10 c10 k10 => ?_⟩
    walk_at "rd"
    refine ⟨_, _, _, _, rfl, ?_, (k8.trans (same_keep (sZ.trans su))).trans k10⟩
    rw [K95.ob_succ hp1]
    exact c10
  subst eσ
  rw [lF, ← K95.oh_zero] at c8
  have k68 : Keep o H6 H8 := (same_keep s67).trans k8
  have ht8 := (k68.tps c6) _ _ ht6
  have ht2' : Paired (fun v d => Tu H8 v (pV d)) ts B.tasks := by
    obtain ⟨ts', ⟨t', e', h'⟩, p'⟩ := c6.ts
    cases e'
    rw [ht6] at h'
    cases h'
    exact paired_imp (fun _ _ z => z.tps (k68.tps c6)) p'
  walk_at "rd"
  walk_at "f.tasks"
  walk_at "rd"
  refine ⟨_, ts, rfl, SqT.of ht8, ?_⟩
  refine for_it (walk_enumT (zs := ts)) (fun n σ H' => ∃ y2 y3 y4 y5 y6 y7 y8, σ = [some (.ref o.x), some (.ref a), y2, y3, y4, y5, y6, y7, y8, none] ∧ ClAt C B H' o (K95.oh B n) ∧ Keep o H8 H') ⟨_, _, _, _, none, none, none, rfl, c8, Keep.refl _ _⟩
    (fun n σ H' _ ⟨_, _, _, _, _, _, _, _, _, k⟩ => (k.tps c8) _ _ ht8) (fun n v σ H9 H9' hn ⟨y2, y3, y4, y5, y6, y7, y8, eσ, c9, k9⟩ hy => ?_) (fun σ H9 ⟨y2, y3, y4, y5, y6, y7, y8, eσ, c9, k9⟩ => ?_)
  · subst eσ
    obtain ⟨Z, ix, z, rfl, nZ, rfl, hix, hz⟩ := hy
    cases hix
    obtain ⟨p, hp1, az, rfl, haz⟩ := paired_get n z ht2' hz
    obtain ⟨elo, ehi⟩ := lo_at hp1
    have sZ := same_new (o := .tup [.int (n : Nat), .ref az]) nZ
    have c10 := c9.same sZ
    have haz9 := sZ _ _ ((k9.tps c8) _ _ haz)
    have hZ : (upd H9 Z (.tup [.int (n : Nat), .ref az])) Z = some (.tup [.int (n : Nat), .ref az]) := upd_same
    generalize upd H9 Z (.tup [.int (n : Nat), .ref az]) = H10 at sZ c10 haz9 hZ
    obtain ⟨gn, ln⟩ := K95.oh_near wf (n := n) (by omega)
    refine q_gtup (SqT.of hZ) rfl ?_
    walk_at "rd"
    refine q_gtup (SqT.of haz9) rfl ?_
    walk_at "rd"
    refine c10.meth no_offer_wait ?_
    walk_at "rd"
    refine ⟨_, rfl, ?_⟩
    walk_at "rd"
    refine ⟨Nat.le_of_ble_eq_true rfl, fun u nu => ?_⟩
    have su := same_new (o := .tup [.str "high", .int (n : Nat)]) nu
    have hu9 : Tu (upd H10 u (.tup [.str "high", .int (n : Nat)])) (.ref u) (rsV (.high n)) := Tu.new
    walk_at "rd"
    refine ⟨o, B, K95.oh B n, _, _, rfl, c10.same su, wf, gn, by omega, ⟨(n : Nat), 2 * ((n : Nat) : Int) + 2, p.2, .high n, _, rfl, hu9, rfl⟩, fun H11 c11 k11 => ?_⟩
    walk_at "rd"
    refine ⟨_, _, _, _, _, _, _, rfl, ?_, (k9.trans (same_keep (sZ.trans su))).trans k11⟩
    rw [K95.oh_succ, ehi]
    exact c11
  subst eσ
  rw [lts, ← K95.init_eq] at c9
  have k69 : Keep o H6 H9 := k68.trans k9
  obtain ⟨⟨n0, run⟩, fin⟩ := K95.fin_is wf
  have lfin := fin.len
  have g0 := (K95.init_ok wf).good
  walk_at "rd"
  -- the rounds
  refine ⟨fun m σ H' => (∃ s, σ = [some (.ref o.x), some (.ref a), y2, y3, y4, y5, y6, y7, y8, some (.bl true)] ∧ ClAt C B H' o s ∧ K95.Good B s ∧ K95.Run B m s (K95.fin B) ∧ Keep o H6 H')
    ∨ (σ = [some (.ref o.x), some (.ref a), y2, y3, y4, y5, y6, y7, y8, some (.bl false)] ∧ m = 0 ∧ ClAt C B H' o (K95.fin B) ∧ Keep o H6 H'), ⟨n0, .inl ⟨_, rfl, c9, g0, run, k69⟩⟩, fun m σ H' hW => ?_⟩
  rcases hW with ⟨s, eσ, cs, gs, rs, ks⟩ | ⟨eσ, _, cs, ks⟩
  · subst eσ
    refine useT (c := true && s.fault.isNone) (tst_and (fun Qb q => ?_) fun _ => (fun Qb q => ?_)) ?_
    · walk_at "rd"
      exact q
    · walk_at "rd"
      walk_at "f.fault"
      walk_at "rd"
      refine ⟨rfl, ?_⟩
      walk_at "rd"
      rw [faV_some]
      exact q
    have ls := K95.Run.le wf rs gs
    rw [Bool.true_and]
    rcases rs.inv with ⟨hf, e⟩ | ⟨hf, hr1, e, em⟩ | ⟨s', n, em, hf, hr1, rs'⟩
    · rw [hf]
      refine iteF ?_
      rw [e] at cs
      exact q o H' rfl cs (back _ ks)
    · subst em
      rw [hf]
      refine iteT ?_
      refine ⟨fun σ' H2 => σ' = [some (.ref o.x), some (.ref a), y2, y3, y4, y5, y6, y7, y8, some (.bl false)] ∧ ClAt C B H2 o (K95.fin B) ∧ Keep o H6 H2, fun σ' H2 ⟨e1, e2, e3⟩ => ⟨0, Nat.zero_lt_one, .inr ⟨e1, rfl, e2, e3⟩⟩, ?_⟩
      walk_at "rd"
      refine cs.meth no_close_once ?_
      walk_at "rd"
      refine ⟨o, B, _, _, _, rfl, cs, wf, gs, by omega, ⟨rfl, rfl⟩, fun H2 c2 k2 => ?_⟩
      rw [hr1] at c2 ⊢
      walk_at "rd"
      exact ⟨rfl, c2, ks.trans k2⟩
    · subst em
      rw [hf]
      refine iteT ?_
      have gs' : K95.Good B s' := by
        have d := (K95.does_round wf gs).near gs
        rw [hr1] at d
        exact d.good
      refine ⟨fun σ' H2 => σ' = [some (.ref o.x), some (.ref a), y2, y3, y4, y5, y6, y7, y8, some (.bl true)] ∧ ClAt C B H2 o s' ∧ Keep o H6 H2, fun σ' H2 ⟨e1, e2, e3⟩ => ⟨n, Nat.lt_succ_self n, .inl ⟨s', e1, e2, gs', rs', e3⟩⟩, ?_⟩
      walk_at "rd"
      refine cs.meth no_close_once ?_
      walk_at "rd"
      refine ⟨o, B, _, _, _, rfl, cs, wf, gs, by omega, ⟨rfl, rfl⟩, fun H2 c2 k2 => ?_⟩
      rw [hr1] at c2 ⊢
      walk_at "rd"
      exact ⟨rfl, c2, ks.trans k2⟩
  · subst eσ
    refine useT (c := false && true) (tst_and (fun Qb q => ?_) fun e => nomatch e) ?_
    · walk_at "rd"
      exact q
    refine iteF ?_
    exact q o H' rfl cs (back _ ks)
end
section
variable {P : Program} {w : World} {K : PySem.W.Frag} {mg : Str → Option Value} {base : Heap} {f C : Addr} {fd : FuncData}
/-- v is the table M, W -/
def IsTab (B : K95.Br) (H : Hp) (v : V) (M W : Int → Int → Int) : Prop := ∃ d1 d2 k1 k2, Tu H v [.ref d1, .ref d2] ∧ H d1 = some (.dT k1) ∧ H d2 = some (.dT k2) ∧ (∀ a b, B.Ev a → B.Ev b → valV k1 (tk (a, b)) = some (.int (M a b))) ∧ ∀ i y, B.Tk i → B.Ev y → y ≠ 2 * i + 2 → valV k2 (tk (i, y)) = some (.int (W i y))
theorem IsTab.same {B : K95.Br} {H H' : Hp} {v : V} {M W : Int → Int → Int} (h : IsTab B H v M W) (s : Same H H') : IsTab B H' v M W := by
  obtain ⟨d1, d2, k1, k2, a, b, c, d⟩ := h
  exact ⟨d1, d2, k1, k2, a.tps (same_tps s), s _ _ b, s _ _ c, d⟩
def spTable (C : Addr) : Sp := fun vs H Q _ => ∃ o B s, vs = [.ref o.x] ∧ ClAt C B H o s ∧ B.WF ∧ K95.Fin B s ∧ s.fault = none ∧ ∀ v H', Same H H' → IsTab B H' v s.M s.W → Q v H'
theorem valV_put {κ : Type} [DecidableEq κ] (l : List (κ × V)) (k j : κ) (v : V) : valV (putK l k v) j = if j = k then some v else valV l j := K95.look_put l k j v
theorem len_put {κ : Type} [DecidableEq κ] (l : List (κ × V)) (k : κ) (v : V) : (putK l k v).length ≤ l.length + 1 := by
  unfold putK
  split
  · rw [List.length_map]
    omega
  · rw [List.length_append]
    exact Nat.le_refl _
abbrev N_cl_table : List Str := ["self", "mosts", "a", "b", "waits", "task", "event"]
theorem sc_cl_table : FnScope N_cl_table ["self"] (defScope (inClass (top 7) 7)) := ⟨rfl, rfl, rfl, by decide +kernel, rfl, by decide +kernel, by decide +kernel⟩
-- slots: self 0, mosts 1, a 2, b 3, waits 4, task 5, event 6
set_option maxHeartbeats 8000000 in
theorem k_table (A : MAt K C "table" "Closing.table" (inClass (top 7) 7) ["self"] f fd) (bi : Bi mg) (T : ClT K C) (D_end_of : Def P w K mg base "end_of" 1 ["task"] (spI fun i => .int (2 * i + 2))) :
    MDef P w K mg base C "table" 2 ["self"] (spTable C) := by
  refine A.ok sc_cl_table (fun vs H Q E h => ?_) (fun cdv A outer s H vs Q E hr h => ?_)
  · obtain ⟨o, B, s, rfl, _⟩ := h
    rfl
  obtain ⟨o, B, s, rfl, c, wf, F, hf, q⟩ := h
  have hu := hu_of hr
  have g := F.good
  have m4 := wf.m4
  refine ⟨_, (pss_cons (ps_setDc2 (i := 1) (own := [("a", 2), ("b", 3)]) (vs1 := [3]) (g := gName 2) (g1 := gName 3) rfl sc_cl_table.nd rfl rfl (sw_dict rfl rfl rfl (by decide +kernel)) (pi_list (pe_fld (pv 0) rfl)) (blkOk_by (own := [("a", 2), ("b", 3)]) (N := N_cl_table) (sc := defScope (inClass (top 7) 7)) (by decide +kernel)) (by decide) (fun _ _ _ _ _ => (pg_name (i := 2) sc_cl_table.nd rfl (.inl rfl))) (fun _ _ _ _ _ => (lstK K (fldK K (pv 0) (by rfl)))) (fun _ _ _ _ _ => (pg_name (i := 3) sc_cl_table.nd rfl (.inl rfl))) (fun _ _ _ _ _ => (pe_tup (pa_cons (pv 2) (pa_cons (pv 3) pa_nil)))) (fun _ _ _ _ _ => (pe_ifExp (pt_cmpR op_eq (pv 2) (pv 3) (nomark _)) pe_int (pe_ix (ixtK K) (pe_ix (ixlK K) (fldK K (pv 0) (by rfl)) (pe_dget hu (fldK K (pv 0) (by rfl)) (pe_tup (pa_cons (pv 2) (pa_cons (pv 3) pa_nil))) (fun _ _ => rfl)) (fun _ _ => rfl)) pe_int (fun _ _ => rfl)))) hu)
    (pss_cons (ps_set (i := 4) sc_cl_table.nd rfl (.inl rfl) pe_dnewT)
    (pss_cons (ps_lock (ps_for PassesOwn.never rfl (pi_keys (pe_fld (pv 0) rfl)) (pg_tup rfl (pgs_cons (pg_name (i := 5) sc_cl_table.nd rfl (.inl rfl)) (pgs_cons (pg_name (i := 6) sc_cl_table.nd rfl (.inl rfl)) pgs_nil)))
      (pss_one (ps_if (pt_cmpR op_ne (pv 6) (pe_d D_end_of hr (by rfl) (pa_cons (pv 5) pa_nil)) (nomark _))
        (pss_one (ps_dput hu (pv 4) (pe_tup (pa_cons (pv 5) (pa_cons (pv 6) pa_nil))) (pe_ix ix_tup (pe_ix ix_list (pe_fld (pv 0) rfl) (pe_dget hu (pe_fld (pv 0) rfl) (pe_tup (pa_cons (pv 5) (pa_cons (pv 6) pa_nil))) (fun _ _ => rfl)) (fun _ _ => rfl)) pe_int (fun _ _ => rfl)) rfl))
        pss_nil))))
    (pss_one (ps_ret (pe_tup (pa_cons (pv 1) (pa_cons (pv 4) pa_nil)))))))), ?_⟩
  have el : (B.every.map V.int).length = B.every.length := List.length_map _
  have el9 : B.every.length ≤ 9 := by rw [K95.every_len]; omega
  walk_at "rd"
  walk_at "f.every"
  refine ⟨o.ae, rfl, ⟨_, SqL.of c.ev⟩, fun D nD => ?_⟩
  refine oc_it (walk_list (xs := B.every.map V.int)) (fun n H' => Same H H' ∧ ∃ kvs, H' D = some (.dT kvs) ∧ kvs.length ≤ 9 * n ∧ ∀ a ∈ B.every.take n, ∀ b, B.Ev b → valV kvs (tk (a, b)) = some (.int (s.M a b)))
    ⟨same_new nD, [], upd_same, Nat.le_refl _, fun a h => by simp at h⟩ (fun n H' _ ⟨s1, _⟩ => SqL.of (s1 _ _ c.ev)) (fun n v H1 H1' hn ⟨s1, kvs, hD, lk, ak⟩ hy => ?_) (fun H1 ⟨s1, kvs, hD, lk, ak⟩ => ?_)
  · obtain ⟨rfl, hv⟩ := hy
    obtain ⟨a, ha, rfl⟩ := get_map hv
    rw [el] at hn
    have ea : B.Ev a := K95.mem_every.mp (List.mem_of_getElem? ha)
    have c1 := c.same s1
    walk_at "rd"
    refine ⟨rfl, ?_⟩
    walk_at "rd"
    walk_at "f.every"
    refine ⟨o.ae, rfl, ⟨_, SqL.of c1.ev⟩, ?_⟩
    refine oc_it (walk_list (xs := B.every.map V.int)) (fun m H' => Same H H' ∧ ∃ kvs, H' D = some (.dT kvs) ∧ kvs.length ≤ 9 * n + m ∧ (∀ a ∈ B.every.take n, ∀ b, B.Ev b → valV kvs (tk (a, b)) = some (.int (s.M a b))) ∧ ∀ b ∈ B.every.take m, valV kvs (tk (a, b)) = some (.int (s.M a b)))
      ⟨s1, kvs, hD, lk, ak, fun b h => by simp at h⟩ (fun n H' _ ⟨s1, _⟩ => SqL.of (s1 _ _ c.ev)) (fun m v H2 H2' hm ⟨s2, kvs, hD, lk, ak, bk⟩ hy => ?_) (fun H2 ⟨s2, kvs, hD, lk, ak, bk⟩ => ?_)
    · obtain ⟨rfl, hv⟩ := hy
      obtain ⟨b, hb, rfl⟩ := get_map hv
      rw [el] at hm
      have eb : B.Ev b := K95.mem_every.mp (List.mem_of_getElem? hb)
      have c2 := c.same s2
      walk_at "rd"
      refine ⟨rfl, ?_⟩
      walk_at "rd"
      refine ⟨Nat.le_of_ble_eq_true rfl, fun z nz => ?_⟩
      have s3 := same_new (o := .tup [.int a, .int b]) nz
      have hz : (upd H2' z (.tup [.int a, .int b])) z = some (.tup [.int a, .int b]) := upd_same
      have c3 := c2.same s3
      have hD3 := s3 _ _ hD
      have s03 := s2.trans s3
      generalize upd H2' z (.tup [.int a, .int b]) = H3 at s3 hz c3 hD3 s03
      have fin : ∀ Hx : Hp, Same H3 Hx → ∃ kvs k b', V.ref z = .ref b' ∧ Hx b' = some (.tup (List.map kV k)) ∧ Hx D = some (.dT kvs) ∧ kvs.length < sizeLine ∧ (Same H (upd Hx D (.dT (putK kvs k (.int (s.M a b))))) ∧ ∃ kvs', (upd Hx D (.dT (putK kvs k (.int (s.M a b))))) D = some (.dT kvs') ∧ kvs'.length ≤ 9 * n + (m + 1) ∧ (∀ a ∈ B.every.take n, ∀ b, B.Ev b → valV kvs' (tk (a, b)) = some (.int (s.M a b))) ∧ ∀ b ∈ B.every.take (m + 1), valV kvs' (tk (a, b)) = some (.int (s.M a b))) := fun Hx sx => by
        refine ⟨kvs, tk (a, b), z, rfl, sx _ _ hz, sx _ _ hD3, size_ok (by omega), same_upd0 (s03.trans sx) nD, _, upd_same, Nat.le_trans (len_put _ _ _) (by omega), fun a' h b' e => ?_, fun b' h => ?_⟩
        · rw [valV_put]
          by_cases he : tk (a', b') = tk (a, b)
          · have := tk_inj he
            injection this with e1 e2
            rw [if_pos he, e1, e2]
          · rw [if_neg he]
            exact ak a' h b' e
        · rw [valV_put]
          by_cases he : tk (a, b') = tk (a, b)
          · have := tk_inj he
            injection this with e1 e2
            rw [if_pos he, e2]
          · rw [if_neg he]
            rw [take_snoc hb, List.mem_append] at h
            rcases h with h | h
            · exact bk b' h
            · rw [List.mem_singleton] at h
              rw [h] at he
              exact absurd rfl he
      walk_at "rd"
      refine ite2 (fun e => ?_) (fun e => ?_)
      · walk_at "rd"
        have := fin H3 (Same.refl _)
        rw [show s.M a b = 0 by unfold K95.Cl.M; rw [if_pos (of_decide_eq_true e)]] at this
        exact this
      · have hm := K95.M_some wf F hf ea eb (fun z => e (decide_eq_true z))
        unfold K95.Cl.mo at hm
        cases hk : K95.look s.mosts (a, b) with
        | none => rw [hk] at hm; cases hm
        | some k =>
          rw [hk] at hm
          have hm : s.wOf k = s.M a b := Option.some.inj hm
          obtain ⟨x, hx, _⟩ := g.mo _ _ _ hk
          walk_at "rd"
          walk_at "f.lines"
          walk_at "rd"
          walk_at "f.mosts"
          walk_at "rd"
          refine ⟨Nat.le_of_ble_eq_true rfl, fun y ny => ?_⟩
          have s4 := same_new (o := .tup [.int a, .int b]) ny
          have hy4 : (upd H3 y (.tup [.int a, .int b])) y = some (.tup [.int a, .int b]) := upd_same
          have c4 := c3.same s4
          generalize upd H3 y (.tup [.int a, .int b]) = H4 at s4 hy4 c4
          have gk := c4.getM hy4
          rw [hk] at gk
          refine ⟨_, _, rfl, gk, ?_⟩
          obtain ⟨vs, ak', rk, e1, e2, e4, _⟩ := c4.line hx
          refine q_ixL (SqL.of e1) (atN e2) ?_
          walk_at "rd"
          refine q_ixT (SqT.of e4) rfl ?_
          rw [← K95.wOf_of hx, hm]
          exact fin H4 s4
    · rw [el, List.take_length] at bk
      refine ⟨s2, kvs, hD, by rw [el] at lk; omega, fun a' h b e => ?_⟩
      rw [take_snoc ha, List.mem_append] at h
      rcases h with h | h
      · exact ak a' h b e
      · rw [List.mem_singleton] at h
        rw [h]
        exact bk b (K95.mem_every.mpr e)
  rw [el, List.take_length] at ak
  have c1 := c.same s1
  walk_at "rd"
  intro D2 nD2
  have hD2 : (upd H1 D2 (.dT [])) D2 = some (.dT []) := upd_same
  have s2 := same_new (o := .dT []) nD2
  have c2 := c1.same s2
  have hD' := s2 _ _ hD
  have s02 := s1.trans s2
  have nDD : D ≠ D2 := ne_of_none hD nD2
  have nD2w := (ne_of_none c1.wa nD2).symm
  generalize upd H1 D2 (.dT []) = H2 at hD2 s2 c2 hD' s02
  have nDw : D ≠ o.dw := (ne_of_none c.wa nD).symm
  walk_at "rd"
  refine q_lock c2.wa trivial fun od => ?_
  have hw3 : (upd H2 o.dw (.frz od (.dT (kvT nV s.waits)))) o.dw = some (.frz od (.dT (kvT nV s.waits))) := upd_same
  have o3 : Off o.dw H2 (upd H2 o.dw (.frz od (.dT (kvT nV s.waits)))) := off_set
  generalize upd H2 o.dw (.frz od (.dT (kvT nV s.waits))) = H3 at hw3 o3
  have nxw : o.x ≠ o.dw := ne_of c2.ob c2.wa (fun z => by cases z)
  have hx3 := o3 _ _ c2.ob nxw
  have hD23 := o3 _ _ hD2 nD2w
  walk_at "rd"
  refine ⟨_, _, _, _, _, rfl, hx3, T.cl, T.waits, fl_waits, ?_⟩
  refine ⟨o.dw, od, rfl, .inr ⟨_, hw3, ?_⟩⟩
  have lW := K95.waits_len wf g
  refine for_it (walk_keysT (kvs := kvT nV s.waits)) (fun n σ H' => ∃ y5 y6, σ = [some (.ref o.x), some (.ref D), none, none, some (.ref D2), y5, y6] ∧ Off D2 H3 H' ∧ ∃ kvs, H' D2 = some (.dT kvs) ∧ kvs.length ≤ n ∧ ∀ i y, (i, y) ∈ (s.waits.map (·.1)).take n → y ≠ 2 * i + 2 → valV kvs (tk (i, y)) = some (.int (s.W i y)))
    ⟨none, none, rfl, fun _ _ h _ => h, [], hD23, Nat.le_refl _, fun i y h => by simp at h⟩ (fun n σ H' _ ⟨_, _, _, k, _⟩ => k _ _ hw3 nD2w.symm) (fun n v σ H4 H4' hn ⟨y5, y6, eσ, k4, kvs4, hD4, lk4, ak4⟩ hy => ?_) (fun σ H4 ⟨y5, y6, eσ, k4, kvs4, hD4, lk4, ak4⟩ => ?_)
  · subst eσ
    rw [kvT_len] at hn
    obtain ⟨rfl, kk, kv, qa, hkv, rfl, hqa⟩ := hy
    obtain ⟨⟨⟨i, y⟩, k⟩, hw, ekv⟩ := get_map hkv
    injection ekv with ek ev
    subst ek ev
    obtain ⟨k', hk'⟩ := Option.isSome_iff_exists.mp (isSome_key hw)
    obtain ⟨tki, _, evy⟩ := g.wa_ev hk'
    have hm := K95.W_some wf F hf tki evy
    unfold K95.Cl.wa at hm
    rw [hk'] at hm
    have hm : s.wOf k' = s.W i y := Option.some.inj hm
    obtain ⟨x, hx, _⟩ := g.wa _ _ _ hk'
    have grow : ∀ i' y', (i', y') ∈ (s.waits.map (·.1)).take (n + 1) → (i', y') ∈ (s.waits.map (·.1)).take n ∨ (i' = i ∧ y' = y) := fun i' y' h => by
      rw [take_snoc (key_at hw), List.mem_append] at h
      rcases h with h | h
      · exact .inl h
      · rw [List.mem_singleton] at h
        injection h with e1 e2
        exact .inr ⟨e1, e2⟩
    have hqa : H4' qa = some (.tup [.int i, .int y]) := hqa
    refine q_gtup (SqT.of hqa) rfl ?_
    walk_at "rd"
    refine ⟨i, rfl, ?_⟩
    walk_at "rd"
    refine ite2 (fun e => ?_) (fun e => ?_)
    · walk_at "rd"
      have hx4 := k4 _ _ hx3 (ne_of c2.ob hD2 (fun z => by cases z))
      refine ⟨_, _, _, _, _, rfl, hx4, T.cl, T.lines, fl_lines, ?_⟩
      walk_at "rd"
      refine ⟨_, _, _, _, _, rfl, hx4, T.cl, T.waits, fl_waits, ?_⟩
      walk_at "rd"
      refine ⟨Nat.le_of_ble_eq_true rfl, fun u nu => ?_⟩
      have s5 := same_new (o := .tup [.int i, .int y]) nu
      have hu5 : (upd H4' u (.tup [.int i, .int y])) u = some (.tup [.int i, .int y]) := upd_same
      have hw5 := s5 _ _ (k4 _ _ hw3 nD2w.symm)
      have hD5 := s5 _ _ hD4
      have k5 : Off D2 H3 (upd H4' u (.tup [.int i, .int y])) := fun b v h n => s5 _ _ (k4 b v h n)
      generalize upd H4' u (.tup [.int i, .int y]) = H5 at s5 hu5 hw5 hD5 k5
      have gk : DGet H5 o.dw (.ref u) (some (nV k')) := by
        refine .inr ⟨_, tk (i, y), u, .inr ⟨_, hw5⟩, rfl, hu5, ?_⟩
        rw [kvT_val, hk']
        rfl
      refine ⟨_, _, rfl, gk, ?_⟩
      obtain ⟨vs, al, rk, e1, e2, e4, _⟩ := c2.line hx
      have e1' := k5 _ _ (o3 _ _ e1 (ne_of e1 c2.wa (fun z => by cases z))) (ne_of e1 hD2 (fun z => by cases z))
      have e4' := k5 _ _ (o3 _ _ e4 (ne_of e4 c2.wa (fun z => by cases z))) (ne_of e4 hD2 (fun z => by cases z))
      refine q_ixL (SqL.of e1') (atN e2) ?_
      walk_at "rd"
      refine q_ixT (SqT.of e4') rfl ?_
      walk_at "rd"
      refine ⟨Nat.le_of_ble_eq_true rfl, fun u2 nu2 => ?_⟩
      have s6 := same_new (o := .tup [.int i, .int y]) nu2
      have hu6 : (upd H5 u2 (.tup [.int i, .int y])) u2 = some (.tup [.int i, .int y]) := upd_same
      have hD6 := s6 _ _ hD5
      have k6 : Off D2 H3 (upd H5 u2 (.tup [.int i, .int y])) := fun b v h n => s6 _ _ (k5 b v h n)
      generalize upd H5 u2 (.tup [.int i, .int y]) = H6 at s6 hu6 hD6 k6
      refine ⟨D2, _, rfl, DPut.t (k := tk (i, y)) hD6 hu6 (size_ok (by omega)), ?_⟩
      refine ⟨_, _, rfl, k6.trans off_set, _, upd_same, Nat.le_trans (len_put _ _ _) (by omega), fun i' y' h ne => ?_⟩
      rw [valV_put]
      by_cases he : tk (i', y') = tk (i, y)
      · have := tk_inj he
        injection this with e1 e2
        rw [if_pos he, e1, e2, ← hm, K95.wOf_of hx]
      · rw [if_neg he]
        rcases grow i' y' h with h | ⟨h1, h2⟩
        · exact ak4 i' y' h ne
        · rw [h1, h2] at he
          exact absurd rfl he
    · walk_at "rd"
      refine ⟨_, _, rfl, k4, kvs4, hD4, by omega, fun i' y' h ne => ?_⟩
      rcases grow i' y' h with h | ⟨h1, h2⟩
      · exact ak4 i' y' h ne
      · rw [h1, h2] at ne
        refine absurd ?_ e
        simp [ne]
  · subst eσ
    rw [kvT_len, List.take_of_length_le (by rw [List.length_map]; exact Nat.le_refl _)] at ak4
    refine ⟨k4 _ _ hw3 nD2w.symm, ?_⟩
    have hfin : Same H (upd H4 o.dw (.dT (kvT nV s.waits))) := fun b u e => by
      by_cases eb : b = o.dw
      · subst eb
        rw [c.wa] at e
        rw [upd_same]
        exact e
      · rw [upd_ne eb]
        refine k4 _ _ (o3 _ _ (s02 _ _ e) eb) ?_
        exact ne_of_none (s1 _ _ e) nD2
    have hDf : (upd H4 o.dw (.dT (kvT nV s.waits))) D = some (.dT kvs) := by
      rw [upd_ne nDw]
      exact k4 _ _ (o3 _ _ hD' nDw) nDD
    have hD2f : (upd H4 o.dw (.dT (kvT nV s.waits))) D2 = some (.dT kvs4) := by
      rw [upd_ne nD2w]
      exact hD4
    generalize upd H4 o.dw (.dT (kvT nV s.waits)) = H5 at hfin hDf hD2f
    walk_at "rd"
    refine ⟨Nat.le_of_ble_eq_true rfl, fun z nz => ?_⟩
    refine q _ _ (hfin.trans (same_new nz)) ⟨D, D2, kvs, kvs4, Tu.new, same_new nz _ _ hDf, same_new nz _ _ hD2f, fun a b ea eb => ak a (K95.mem_every.mpr ea) b eb, fun i y ti ey ne => ak4 i y ?_ ne⟩
    have hm := K95.W_some wf F hf ti ey
    unfold K95.Cl.wa at hm
    cases hk : K95.look s.waits (i, y) with
    | none => rw [hk] at hm; cases hm
    | some k => exact K95.look_key.mpr ⟨k, hk⟩
end
section
variable {P : Program} {w : World} {K : PySem.W.Frag} {mg : Str → Option Value} {base : Heap} {f C : Addr} {fd : FuncData}
theorem hget {H : Hp} {d : Addr} {hs : List (Int × Int)} (h : Rd H d (.dK (hap hs))) (a : Int) : DGet H d (.int a) ((K95.look hs a).map V.int) := .inl ⟨hap hs, .inl a, h, rfl, by rw [hap_val]⟩
theorem tget {H : Hp} {d b : Addr} {k1 : List (List Key × V)} {i j : Int} {v : V} (h : H d = some (.dT k1)) (hb : H b = some (.tup [.int i, .int j])) (e : valV k1 (tk (i, j)) = some v) : DGet H d (.ref b) (some v) := .inr ⟨k1, tk (i, j), b, .inl h, rfl, hb, e.symm⟩
theorem IsBr.parts {H : Hp} {v : V} {B : K95.Br} (h : IsBr H v B) : ∃ a ap at' ts vl, v = .ref a ∧ (∃ va, H a = some (.tup [.ref ap, vl, .int B.dl]) ∧ H ap = some (.tup [.ref at', va])) ∧ H at' = some (.tup ts) ∧ Paired (fun v d => Tu H v (pV d)) ts B.tasks ∧ ts.length = B.m := by
  obtain ⟨vp, vl, ⟨a, rfl, ha⟩, ⟨vt, va, ⟨ap, rfl, hp⟩, ht, _⟩, _⟩ := h
  obtain ⟨ts, ⟨at', rfl, ht1⟩, ht2⟩ := ht
  exact ⟨a, ap, at', ts, vl, rfl, ⟨va, ha, hp⟩, ht1, ht2, ht2.length⟩
theorem IsBr.same {H H' : Hp} {v : V} {B : K95.Br} (h : IsBr H v B) (s : Same H H') : IsBr H' v B := h.tps (same_tps s)
/-- task j need not be waited for, or was waited for, by the begin p of k -/
def HW (W : Int → Int → Int) (T : Int → Option Int) (k p j : Int) : Prop := 0 < W j (2 * k + 1) → (∃ e, T (2 * j + 2) = some e ∧ e ≤ p) ∨ ∃ q, T (2 * j + 1) = some q ∧ W j (2 * k + 1) ≤ p - q
def spHW : Sp := fun vs H Q _ => ∃ vb vt d k p B M W hs, vs = [vb, vt, .ref d, .int k] ∧ IsBr H vb B ∧ B.WF ∧ IsTab B H vt M W ∧ H d = some (.dK (hap hs)) ∧ B.Tk k ∧ K95.look hs (2 * k + 1) = some p ∧
  ∀ (r : Bool) H', (r = true ↔ ∀ j, B.Tk j → HW W (K95.look hs) k p j) → Same H H' → Q (.bl r) H'
abbrev N_has_waited : List Str := ["brief", "table", "happened", "task", "begin", "other", "w"]
theorem sc_has_waited : FnScope N_has_waited ["brief", "table", "happened", "task"] (defScope (top 9)) := ⟨rfl, rfl, rfl, by decide +kernel, rfl, by decide +kernel, by decide +kernel⟩
-- slots: brief 0, table 1, happened 2, task 3, begin 4, other 5, w 6
set_option maxHeartbeats 8000000 in
theorem k_has_waited (A : At K mg "has_waited" (top 9) ["brief", "table", "happened", "task"] f fd) (bi : Bi mg) (D_begin_of : Def P w K mg base "begin_of" 1 ["task"] (spI fun i => .int (2 * i + 1))) (D_end_of : Def P w K mg base "end_of" 1 ["task"] (spI fun i => .int (2 * i + 2))) :
    Def P w K mg base "has_waited" 2 ["brief", "table", "happened", "task"] spHW := by
  refine A.ok sc_has_waited (fun vs H Q E h => ?_) (fun cdv A outer s H vs Q E hr h => ?_)
  · obtain ⟨vb, vt, d, k, p, B, M, W, hs, rfl, _⟩ := h
    rfl
  obtain ⟨vb, vt, d, k, p, B, M, W, hs, rfl, hB, wf, hT, hd, tkk, hp, q⟩ := h
  have hu := hu_of hr
  have m4 := wf.m4
  have evk := K95.ev_beg tkk
  obtain ⟨a, ap, at', ts, vl, rfl, ⟨va, b1, b2⟩, b3, _, lts⟩ := hB.parts
  obtain ⟨d1, d2, k1, k2, ⟨tb, rfl, t1⟩, t2, t3, tm, tw⟩ := hT
  refine ⟨_, (pss_cons (ps_set (i := 4) sc_has_waited.nd rfl (.inl rfl) (pe_dget hu (pv 2) (pe_d D_begin_of hr (by rfl) (pa_cons (pv 3) pa_nil)) (fun _ _ => rfl)))
    (pss_cons (ps_for PassesOwn.never rfl (pi_range1 (by rfl) bi.range (pa_cons (pe_callB call_len_seq (by rfl) bi.len PySem.boot_len (pa_cons (pe_ix ix_tup (pe_ix ix_tup (pv 0) pe_int (fun _ _ => rfl)) pe_int (fun _ _ => rfl)) pa_nil)) pa_nil)) (pg_name (i := 5) sc_has_waited.nd rfl (.inl rfl))
      (pss_cons (ps_set (i := 6) sc_has_waited.nd rfl (.inl rfl) (pe_dget hu (pe_ix ix_tup (pv 1) pe_int (fun _ _ => rfl)) (pe_tup (pa_cons (pv 5) (pa_cons (pe_d D_begin_of hr (by rfl) (pa_cons (pv 3) pa_nil)) pa_nil))) (fun _ _ => rfl)))
      (pss_one (ps_if (PW.pt (pw_and (pt_cmpR op_gt (pv 6) pe_int (nomark _)) (pw_and1 (pt_cmpR op_gt (pe_dget2 hu (pv 2) (pe_d D_end_of hr (by rfl) (pa_cons (pv 5) pa_nil)) (pe_op op_add (pv 4) pe_int) ⟨rfl, rfl, rfl, rfl⟩) (pv 4) (nomark _)))))
        (pss_one (ps_if (PW.pt (pw_or (pt_cmp (pc_dnotin hu (pe_d D_begin_of hr (by rfl) (pa_cons (pv 5) pa_nil)) (pv 2))) (pw_or1 (pt_cmpR op_lt (pe_op op_sub (pv 4) (pe_dget hu (pv 2) (pe_d D_begin_of hr (by rfl) (pa_cons (pv 5) pa_nil)) (fun _ _ => rfl))) (pv 6) (nomark _)))))
          (pss_one (ps_ret pe_bl))
          pss_nil))
        pss_nil))))
    (pss_one (ps_ret pe_bl)))), ?_⟩
  walk_at "rd"
  refine ⟨k, rfl, ?_⟩
  have g0 := hget (.inl hd) (2 * k + 1)
  rw [hp] at g0
  refine ⟨d, _, rfl, g0, ?_⟩
  walk_at "rd"
  refine q_ixT (SqT.of b1) rfl ?_
  walk_at "rd"
  refine q_ixT (SqT.of b2) rfl ?_
  walk_at "rd"
  refine ⟨at', ts, rfl, .inr (SqT.of b3), ?_⟩
  walk_at "rd"
  refine ⟨_, rfl, (i62 (by omega)).1, (i62 (by omega)).2, ?_⟩
  have en : ((ts.length : Int)).toNat = B.m := by omega
  rw [en]
  refine for_it walk_r0 (fun n σ H' => ∃ y5 y6, σ = [some (.ref a), some (.ref tb), some (.ref d), some (.int k), some (.int p), y5, y6] ∧ Same H H' ∧ ∀ j, B.Tk j → j < (n : Int) → HW W (K95.look hs) k p j) ⟨none, none, rfl, Same.refl _, fun j t l => by unfold K95.Br.Tk at t; omega⟩ (fun _ _ _ _ _ => trivial) (fun n v σ H1 H1' hn ⟨y5, y6, eσ, s1, ih⟩ hy => ?_) (fun σ H1 ⟨y5, y6, eσ, s1, ih⟩ => ?_)
  · subst eσ
    obtain ⟨rfl, rfl⟩ := hy
    have tkn : B.Tk (n : Int) := by unfold K95.Br.Tk; omega
    have hd1 := s1 _ _ hd
    walk_at "rd"
    refine q_ixT (SqT.of (s1 _ _ t1)) rfl ?_
    walk_at "rd"
    refine ⟨k, rfl, ?_⟩
    walk_at "rd"
    refine ⟨Nat.le_of_ble_eq_true rfl, fun z nz => ?_⟩
    have s2 := same_new (o := .tup [.int (n : Int), .int (2 * k + 1)]) nz
    have hz : (upd H1' z (.tup [.int (n : Int), .int (2 * k + 1)])) z = some (.tup [.int (n : Int), .int (2 * k + 1)]) := upd_same
    generalize upd H1' z (.tup [.int (n : Int), .int (2 * k + 1)]) = H2 at s2 hz
    have s12 := s1.trans s2
    refine ⟨d2, _, rfl, tget (s12 _ _ t3) hz (tw _ _ tkn evk (by omega)), ?_⟩
    walk_at "rd"
    have hd2 := s12 _ _ hd
    have step : ∀ n', n' = n + 1 → HW W (K95.look hs) k p n → ∀ j, B.Tk j → j < ((n' : Nat) : Int) → HW W (K95.look hs) k p j := fun n' en' h j tj lj => by
      by_cases e : j = n
      · rw [e]; exact h
      · exact ih j tj (by omega)
    have e1 := hget (.inl hd2) (2 * (n : Int) + 2)
    refine useT (c := decide (0 < W n (2 * k + 1)) && decide (p < (K95.look hs (2 * n + 2)).getD (p + 1))) (tst_and (fun Qb q => ?_) fun _ => (fun Qb q => ?_)) ?_
    · walk_at "rd"
      exact q
    · walk_at "rd"
      refine ⟨d, rfl, .inl ⟨_, .inl hd2⟩, ?_⟩
      walk_at "rd"
      refine ⟨n, rfl, ?_⟩
      walk_at "rd"
      refine ⟨_, e1, ?_⟩
      have ev : ((K95.look hs (2 * (n : Int) + 2)).map V.int).getD (.int (p + 1)) = .int ((K95.look hs (2 * n + 2)).getD (p + 1)) := by cases K95.look hs (2 * (n : Int) + 2) <;> rfl
      rw [ev]
      walk_at "rd"
      exact q
    refine ite2 (fun c => ?_) (fun c => ?_)
    · rw [Bool.and_eq_true] at c
      obtain ⟨c1, c2⟩ := c
      have c1 := of_decide_eq_true c1
      have c2 := of_decide_eq_true c2
      have noE : ¬ ∃ e, K95.look hs (2 * (n : Int) + 2) = some e ∧ e ≤ p := fun ⟨e, h1, h2⟩ => by
        rw [h1] at c2
        have c2 : p < e := c2
        omega
      walk_at "rd"
      have g2 := hget (.inl hd2) (2 * (n : Int) + 1)
      refine useT (c := !(K95.look hs (2 * n + 1)).isSome || decide (p - (K95.look hs (2 * n + 1)).getD 0 < W n (2 * k + 1))) (tst_or (fun Qb q => ?_) fun h => (fun Qb q => ?_)) ?_
      · walk_at "rd"
        refine ⟨n, rfl, ?_⟩
        walk_at "rd"
        refine ⟨d, _, rfl, g2, ?_⟩
        walk_at "rd"
        rw [Option.isSome_map]
        exact q
      · have h : (K95.look hs (2 * (n : Int) + 1)).isSome = true := by simpa using h
        obtain ⟨b, hb⟩ := Option.isSome_iff_exists.mp h
        rw [hb] at g2 q
        walk_at "rd"
        refine ⟨n, rfl, ?_⟩
        refine ⟨d, _, rfl, g2, ?_⟩
        walk_at "rd"
        exact q
      refine ite2 (fun e => ?_) (fun e => ?_)
      · walk_at "rd"
        refine q false _ ⟨(fun h => nomatch h), fun h => ?_⟩ s12
        rcases h n tkn c1 with h1 | ⟨b, hb, h2⟩
        · exact absurd h1 noE
        · rw [hb] at e
          have : p - b < W n (2 * k + 1) := by simpa using e
          omega
      · refine ⟨_, _, rfl, s12, step _ rfl fun _ => .inr ?_⟩
        cases hb : K95.look hs (2 * (n : Int) + 1) with
        | none => rw [hb] at e; exact absurd rfl e
        | some b =>
          rw [hb] at e
          refine ⟨b, rfl, ?_⟩
          have : ¬ p - b < W n (2 * k + 1) := fun z => e (by simp [z])
          omega
    · refine ⟨_, _, rfl, s12, step _ rfl fun h => .inl ?_⟩
      rw [decide_eq_true h, Bool.true_and] at c
      have c : ¬ p < (K95.look hs (2 * (n : Int) + 2)).getD (p + 1) := fun z => c (decide_eq_true z)
      cases hb : K95.look hs (2 * (n : Int) + 2) with
      | none =>
        rw [hb] at c
        exact absurd (show p < p + 1 by omega) c
      | some e =>
        rw [hb] at c
        exact ⟨e, rfl, by have c : ¬ p < e := c; omega⟩
  · subst eσ
    walk_at "rd"
    exact q true _ ⟨fun _ j t => ih j t (by unfold K95.Br.Tk at t; omega), fun _ => rfl⟩ s1
end
section
variable {P : Program} {w : World} {K : PySem.W.Frag} {mg : Str → Option Value} {base : Heap} {f C : Addr} {fd : FuncData}
theorem i62' {i : Int} (h0 : -1000000 ≤ i) (h : i ≤ 1000000) : -(2 ^ 62) ≤ i ∧ i < 2 ^ 62 := by
  have e : (1000000 : Int) < 2 ^ 62 := by decide
  have e2 : -(2 ^ 62) ≤ (-1000000 : Int) := by decide
  omega
theorem unlock {d : Addr} {u : HO} {o : Obj} {H H' : Hp} (h : H d = some u) (s : Same (upd H d (.frz o u)) H') : Same H (upd H' d u) := fun b v e => by
  by_cases eb : b = d
  · rw [eb] at e ⊢
    rw [h] at e
    rw [upd_same]
    exact e
  · rw [upd_ne eb]
    exact s b v (by rw [upd_ne eb]; exact e)
theorem hat_get {t x : Int} {hs : List (Int × Int)} : ((K95.look hs x).map V.int).getD (.int (t + 1)) = .int (K95.hat t (K95.look hs) x) := by
  unfold K95.hat
  cases K95.look hs x <;> rfl
def spStay : Sp := fun vs H Q _ => ∃ vb vt v t B M W hs, vs = [vb, vt, v] ∧ IsBr H vb B ∧ B.WF ∧ K95.Closed B M W ∧ IsTab B H vt M W ∧ IsSit H v t hs ∧ K95.Sit B t (K95.look hs) ∧ hs.length ≤ 100 ∧
  ∀ (r : Bool) H', (r = true ↔ K95.Stay B M W t (K95.look hs)) → Same H H' → Q (.bl r) H'
theorem own_low {B : K95.Br} {M W : Int → Int → Int} (wf : B.WF) (C : K95.Closed B M W) {k : Int} (t : B.Tk k) : W k (2 * k + 1) ≤ 0 := by
  have h1 := C.floor k _ t (K95.ev_beg t)
  rw [C.diag _ (K95.ev_beg t)] at h1
  have := (wf.dur k t).1
  omega
abbrev N_stays : List Str := ["brief", "table", "situation", "moment", "happened", "mosts", "a", "event", "there", "begun", "task"]
theorem sc_stays : FnScope N_stays ["brief", "table", "situation"] (defScope (top 10)) := ⟨rfl, rfl, rfl, by decide +kernel, rfl, by decide +kernel, by decide +kernel⟩
-- slots: brief 0, table 1, situation 2, moment 3, happened 4, mosts 5, a 6, event 7, there 8, begun 9, task 10
set_option maxHeartbeats 8000000 in
theorem k_stays (A : At K mg "stays" (top 10) ["brief", "table", "situation"] f fd) (bi : Bi mg) (D_begin_of : Def P w K mg base "begin_of" 1 ["task"] (spI fun i => .int (2 * i + 1))) (D_has_waited : Def P w K mg base "has_waited" 2 ["brief", "table", "happened", "task"] spHW) :
    Def P w K mg base "stays" 3 ["brief", "table", "situation"] spStay := by
  refine A.ok sc_stays (fun vs H Q E h => ?_) (fun cdv A outer s H vs Q E hr h => ?_)
  · obtain ⟨vb, vt, v, t, B, M, W, hs, rfl, _⟩ := h
    rfl
  obtain ⟨vb, vt, v, t, B, M, W, hs, rfl, hB, wf, cl, hT, hS, sit, lhs, q⟩ := h
  have hu := hu_of hr
  have D_begin_of := D_begin_of.mono (j := 2) (by decide)
  have m4 := wf.m4
  have hB0 := hB
  have hT0 := hT
  obtain ⟨a, ap, at', ts, vl, rfl, ⟨va, b1, b2⟩, b3, _, lts⟩ := hB.parts
  obtain ⟨d1, d2, k1, k2, ⟨tb, rfl, t1⟩, t2, t3, tm, tw⟩ := hT
  obtain ⟨d, ⟨sa, rfl, hs1⟩, hd⟩ := hS
  have en : ((ts.length : Int)).toNat = B.m := by omega
  refine ⟨_, (pss_cons (ps_asg (pv 2) (pg_tup rfl (pgs_cons (pg_name (i := 3) sc_stays.nd rfl (.inl rfl)) (pgs_cons (pg_name (i := 4) sc_stays.nd rfl (.inr rfl)) pgs_nil))))
    (pss_cons (ps_set (i := 5) sc_stays.nd rfl (.inl rfl) (pe_ix ix_tup (pv 1) pe_int (fun _ _ => rfl)))
    (pss_cons (ps_lock (ps_for PassesOwn.never rfl (pi_keys (pv 4)) (pg_name (i := 6) sc_stays.nd rfl (.inl rfl))
      (pss_one (ps_for PassesOwn.never rfl (pi_range1 (by rfl) bi.range (pa_cons (pe_op op_add (pe_op op_mul pe_int (pe_callB call_len_seq (by rfl) bi.len PySem.boot_len (pa_cons (pe_ix ix_tup (pe_ix ix_tup (pv 0) pe_int (fun _ _ => rfl)) pe_int (fun _ _ => rfl)) pa_nil))) pe_int) pa_nil)) (pg_name (i := 7) sc_stays.nd rfl (.inl rfl))
        (pss_cons (ps_set (i := 8) sc_stays.nd rfl (.inl rfl) (pe_dget2 hu (pv 4) (pv 7) (pe_op op_add (pv 3) pe_int) ⟨rfl, rfl, rfl, rfl⟩))
        (pss_one (ps_if (pt_cmpR op_gt (pe_op op_sub (pv 8) (pe_dget hu (pv 4) (pv 6) (fun _ _ => rfl))) (pe_dget hu (pv 5) (pe_tup (pa_cons (pv 6) (pa_cons (pv 7) pa_nil))) (fun _ _ => rfl)) (nomark _))
          (pss_one (ps_ret pe_bl))
          pss_nil)))))))
    (pss_cons (ps_setLc (i := 9) (own := [("task", 10)]) (g := gName 10) rfl sc_stays.nd rfl rfl (sw_true rfl rfl rfl (by decide +kernel)) (pi_range1 (by rfl) bi.range (pa_cons (pe_callB call_len_seq (by rfl) bi.len PySem.boot_len (pa_cons (pe_ix ix_tup (pe_ix ix_tup (pv 0) pe_int (fun _ _ => rfl)) pe_int (fun _ _ => rfl)) pa_nil)) pa_nil)) (blkOk_by (own := [("task", 10)]) (N := N_stays) (sc := defScope (top 10)) (by decide +kernel)) (fun _ _ _ _ _ => (pg_name (i := 10) sc_stays.nd rfl (.inl rfl))) (fun _ _ _ _ _ => pts_one (pt_cmp (pc_din hu (pe_d D_begin_of hr (by rfl) (pa_cons (pv 10) pa_nil)) (pv 4)))) (fun _ _ _ _ _ => (pv 10)))
    (pss_one (ps_ret (pe_callB (cr_all rfl) (by rfl) bi.all (by decide +kernel) (pa_cons (pe_lc (own := [("task", 10)]) (g := gName 10) rfl sc_stays.nd (pi_list (pv 9)) (blkOk_by (own := [("task", 10)]) (N := N_stays) (sc := defScope (top 10)) (by decide +kernel)) (fun _ _ _ _ _ => (pg_name (i := 10) sc_stays.nd rfl (.inl rfl))) (fun _ _ _ _ _ => pts_nil) (fun _ _ _ _ _ => (pe_d D_has_waited hr (by rfl) (pa_cons (pv 0) (pa_cons (pv 1) (pa_cons (pv 4) (pa_cons (pv 10) pa_nil))))))) pa_nil)))))))), ?_⟩
  walk_at "rd"
  refine q_gtup (SqT.of hs1) rfl ?_
  walk_at "rd"
  refine q_ixT (SqT.of t1) rfl ?_
  walk_at "rd"
  refine q_lock hd trivial fun od => ?_
  have hd1 : (upd H d (.frz od (.dK (hap hs)))) d = some (.frz od (.dK (hap hs))) := upd_same
  have o1 : Off d H (upd H d (.frz od (.dK (hap hs)))) := off_set
  have un : ∀ H', Same (upd H d (.frz od (.dK (hap hs)))) H' → Same H (upd H' d (.dK (hap hs))) := fun H' s => unlock hd s
  have tp1 : Tps H (upd H d (.frz od (.dK (hap hs)))) := o1.tps fun xs e => by rw [hd] at e; cases e
  have t2' := o1 _ _ t2 (ne_of t2 hd (fun z => by cases z))
  generalize upd H d (.frz od (.dK (hap hs))) = H1 at hd1 o1 un tp1 t2'
  walk_at "rd"
  refine ⟨d, od, rfl, .inl ⟨_, hd1, ?_⟩⟩
  refine for_it (walk_keys (kvs := hap hs)) (fun n σ H' => ∃ y6 y7 y8, σ = [some (.ref a), some (.ref tb), some (.ref sa), some (.int t), some (.ref d), some (.ref d1), y6, y7, y8, none, none] ∧ Same H1 H' ∧ ∀ a p, (a, p) ∈ hs.take n → ∀ q, K95.look hs a = some q → ∀ x, B.Ev x → K95.hat t (K95.look hs) x - q ≤ M a x)
    ⟨none, none, none, rfl, Same.refl _, fun a p h => by simp at h⟩ (fun n σ H' _ ⟨_, _, _, _, s, _⟩ => s _ _ hd1) (fun n v σ H2 H2' hn ⟨y6, y7, y8, eσ, s2, ih⟩ hy => ?_) (fun σ H2 ⟨y6, y7, y8, eσ, s2, ih⟩ => ?_)
  · subst eσ
    obtain ⟨rfl, kk, kv, hkv, rfl⟩ := hy
    obtain ⟨⟨ka, kp⟩, hka, ekv⟩ := get_map hkv
    injection ekv with ek _
    subst ek
    obtain ⟨qa, hqa⟩ := K95.look_some_of_key (List.mem_map.mpr ⟨_, List.mem_of_getElem? hka, rfl⟩)
    have hqa : K95.look hs ka = some qa := hqa
    have eva := (sit.rng ka qa hqa).1
    have hd2 := s2 _ _ hd1
    show gName 6 (V.int ka) _ _ _
    walk_at "rd"
    refine q_ixT (SqT.of ((same_tps s2) _ _ (tp1 _ _ b1))) rfl ?_
    walk_at "rd"
    refine q_ixT (SqT.of ((same_tps s2) _ _ (tp1 _ _ b2))) rfl ?_
    walk_at "rd"
    refine ⟨at', ts, rfl, .inr (SqT.of ((same_tps s2) _ _ (tp1 _ _ b3))), ?_⟩
    walk_at "rd"
    refine ⟨_, rfl, (i62' (by omega) (by omega)).1, (i62' (by omega) (by omega)).2, ?_⟩
    have en2 : (2 * (ts.length : Int) + 1).toNat = 2 * B.m + 1 := by omega
    rw [en2]
    refine for_it walk_r0 (fun m σ H' => ∃ y7 y8, σ = [some (.ref a), some (.ref tb), some (.ref sa), some (.int t), some (.ref d), some (.ref d1), some (.int ka), y7, y8, none, none] ∧ Same H1 H' ∧ ∀ x, 0 ≤ x → x < (m : Int) → K95.hat t (K95.look hs) x - qa ≤ M ka x)
      ⟨_, _, rfl, s2, fun x h1 h2 => by omega⟩ (fun _ _ _ _ _ => trivial) (fun m v σ H3 H3' hm ⟨y7, y8, eσ, s3, im⟩ hy => ?_) (fun σ H3 ⟨y7, y8, eσ, s3, im⟩ => ?_)
    · subst eσ
      obtain ⟨rfl, rfl⟩ := hy
      have evm : B.Ev (m : Int) := by unfold K95.Br.Ev; omega
      have hd3 := s3 _ _ hd1
      walk_at "rd"
      refine ⟨d, rfl, .inl ⟨_, .inr ⟨_, hd3⟩⟩, ?_⟩
      walk_at "rd"
      refine ⟨_, hget (.inr ⟨_, hd3⟩) (m : Int), ?_⟩
      rw [hat_get]
      walk_at "rd"
      have g0 := hget (.inr ⟨_, hd3⟩) ka
      rw [hqa] at g0
      refine ⟨d, _, rfl, g0, ?_⟩
      walk_at "rd"
      refine ⟨Nat.le_of_ble_eq_true rfl, fun z nz => ?_⟩
      have s4 := same_new (o := .tup [.int ka, .int (m : Int)]) nz
      have hz : (upd H3' z (.tup [.int ka, .int (m : Int)])) z = some (.tup [.int ka, .int (m : Int)]) := upd_same
      generalize upd H3' z (.tup [.int ka, .int (m : Int)]) = H4 at s4 hz
      have s34 := s3.trans s4
      refine ⟨d1, _, rfl, tget (s34 _ _ t2') hz (tm _ _ eva evm), ?_⟩
      walk_at "rd"
      refine ite2 (fun c => ?_) (fun c => ?_)
      · walk_at "rd"
        refine ⟨s34 _ _ hd1, q false _ ⟨(fun h => nomatch h), fun Y => ?_⟩ (un _ s34)⟩
        have h1 := Y.mo ka (m : Int) qa hqa evm
        have h2 := of_decide_eq_true c
        omega
      · refine ⟨_, _, rfl, s34, fun x h1 h2 => ?_⟩
        by_cases e : x = (m : Int)
        · rw [e]
          have : ¬ M ka (m : Int) < K95.hat t (K95.look hs) (m : Int) - qa := fun z => c (decide_eq_true z)
          omega
        · exact im x h1 (by omega)
    · subst eσ
      refine ⟨_, _, _, rfl, s3, fun a' p' h q' hq x ex => ?_⟩
      rw [take_snoc hka, List.mem_append] at h
      rcases h with h | h
      · exact ih a' p' h q' hq x ex
      · rw [List.mem_singleton] at h
        injection h with h1 h2
        rw [h1, hqa] at hq
        cases hq
        rw [h1]
        unfold K95.Br.Ev at ex
        exact im x ex.1 (by omega)
  · subst eσ
    rw [hap_len, List.take_length] at ih
    refine ⟨s2 _ _ hd1, ?_⟩
    have s5 := un _ s2
    have mo : ∀ a x p, K95.look hs a = some p → B.Ev x → K95.hat t (K95.look hs) x - p ≤ M a x := fun a x p h e => ih a p (K95.look_mem h) p h x e
    generalize upd H2 d (.dK (hap hs)) = H5 at s5
    clear s2 ih un hd1 o1 tp1 t2'
    have hd5 := s5 _ _ hd
    walk_at "rd"
    refine q_ixT (SqT.of (s5 _ _ b1)) rfl ?_
    walk_at "rd"
    refine q_ixT (SqT.of (s5 _ _ b2)) rfl ?_
    walk_at "rd"
    refine ⟨at', ts, rfl, .inr (SqT.of (s5 _ _ b3)), ?_⟩
    walk_at "rd"
    refine ⟨_, rfl, (i62 (by omega)).1, (i62 (by omega)).2, fun D nD => ?_⟩
    rw [en]
    refine lc_it walk_r0 (fun n H' => Same H5 H' ∧ H' D = some (.lst ((((K95.itsL B.m).take n).filter fun k => (K95.look hs (2 * k + 1)).isSome).map V.int))) ⟨same_new nD, upd_same⟩ (fun _ _ _ _ => trivial) (fun n v H6 H6' hn ⟨s6, hD⟩ hy => ?_) (fun H6 ⟨s6, hD⟩ => ?_)
    · obtain ⟨rfl, rfl⟩ := hy
      walk_at "rd"
      refine ⟨rfl, ?_⟩
      walk_at "rd"
      refine ⟨_, rfl, ?_⟩
      walk_at "rd"
      refine ⟨d, _, rfl, hget (.inl (s6 _ _ hd5)) (2 * (n : Int) + 1), ?_⟩
      rw [Option.isSome_map]
      have et : ((K95.itsL B.m).take (n + 1)).filter (fun k => (K95.look hs (2 * k + 1)).isSome) = ((K95.itsL B.m).take n).filter (fun k => (K95.look hs (2 * k + 1)).isSome) ++ if (K95.look hs (2 * (n : Int) + 1)).isSome = true then [(n : Int)] else [] := by
        rw [take_snoc (ints_take hn), List.filter_append, List.filter_cons, List.filter_nil]
      walk_at "rd"
      refine ite2 (fun c => ?_) (fun c => ?_)
      · walk_at "rd"
        refine ⟨_, hD, size_ok (by rw [List.length_map]; exact Nat.le_trans (List.length_filter_le _ _) (by rw [List.length_take]; omega)), same_upd0 s6 nD, ?_⟩
        rw [upd_same, et, if_pos c, List.map_append]
        rfl
      · refine ⟨s6, ?_⟩
        rw [et, if_neg c, List.append_nil]
        exact hD
    · rw [List.take_of_length_le (by rw [K95.ints_len]; exact Nat.le_refl _)] at hD
      have mem : ∀ k : Int, k ∈ (K95.itsL B.m).filter (fun k => (K95.look hs (2 * k + 1)).isSome) ↔ B.Tk k ∧ (K95.look hs (2 * k + 1)).isSome = true := fun k => by
        rw [List.mem_filter, K95.mem_ints]
        rfl
      have lb : ((K95.itsL B.m).filter (fun k => (K95.look hs (2 * k + 1)).isSome)).length ≤ 4 := Nat.le_trans (List.length_filter_le _ _) (by rw [K95.ints_len]; exact m4)
      generalize (K95.itsL B.m).filter (fun k => (K95.look hs (2 * k + 1)).isSome) = bg at hD mem lb
      walk_at "rd"
      refine ⟨D, rfl, ⟨_, SqL.of hD⟩, fun E nE => ?_⟩
      have s56 := s5.trans s6
      refine lc_it (walk_list (xs := bg.map V.int)) (fun n H' => Same H6 H' ∧ ∃ bs : List Bool, H' E = some (.lst (bs.map V.bl)) ∧ bs.length = n ∧ (bs.all id = true ↔ ∀ k ∈ bg.take n, ∀ p, K95.look hs (2 * k + 1) = some p → ∀ j, B.Tk j → HW W (K95.look hs) k p j))
        ⟨same_new nE, [], upd_same, rfl, by simp⟩ (fun n H' _ ⟨s, _⟩ => SqL.of (s _ _ hD)) (fun n v H7 H7' hn ⟨s7, bs, hE, lbs, ib⟩ hy => ?_) (fun H7 ⟨s7, bs, hE, lbs, ib⟩ => ?_)
      · obtain ⟨rfl, hv⟩ := hy
        obtain ⟨k, hk, rfl⟩ := get_map hv
        obtain ⟨tkk, ksome⟩ := (mem k).mp (List.mem_of_getElem? hk)
        obtain ⟨p, hp⟩ := Option.isSome_iff_exists.mp ksome
        have s67 := s56.trans s7
        rw [List.length_map] at hn
        walk_at "rd"
        refine ⟨rfl, ?_⟩
        walk_at "rd"
        refine iteT ?_
        walk_at "rd"
        refine ⟨_, _, d, k, p, B, M, W, hs, rfl, hB0.same s67, wf, hT0.same s67, s67 _ _ hd, tkk, hp, fun r H8 hr8 s78 => ?_⟩
        refine ⟨_, s78 _ _ hE, size_ok (by rw [List.length_map]; omega), same_upd0 (s7.trans s78) nE, bs ++ [r], by rw [upd_same, bls_snoc], by rw [List.length_append, lbs]; rfl, ?_⟩
        rw [List.all_append, Bool.and_eq_true, ib, take_snoc hk]
        constructor
        · rintro ⟨h1, h2⟩ k' hk' p' hp'
          rcases List.mem_append.mp hk' with h | h
          · exact h1 k' h p' hp'
          · rw [List.mem_singleton] at h
            rw [h, hp] at hp'
            cases hp'
            rw [h]
            exact hr8.mp (by simpa using h2)
        · intro h
          refine ⟨fun k' hk' => h k' (List.mem_append_left _ hk'), ?_⟩
          have := hr8.mpr (h k (List.mem_append_right _ List.mem_cons_self) p hp)
          simpa using this
      · rw [List.length_map, List.take_length] at ib
        walk_at "rd"
        refine ⟨E, bs, rfl, SqL.of hE, ?_⟩
        refine q _ _ ?_ (s56.trans s7)
        rw [ib]
        constructor
        · intro h
          exact ⟨mo, fun k p j tk hp tj _ pos => h k ((mem k).mpr ⟨tk, by rw [hp]; rfl⟩) p hp j tj pos⟩
        · intro Y k hk p hp j tj pos
          obtain ⟨tk, _⟩ := (mem k).mp hk
          by_cases e : j = k
          · rw [e] at pos
            have := own_low wf cl tk
            omega
          · exact Y.wa k p j tk hp tj e pos
end
section
variable {P : Program} {w : World} {K : PySem.W.Frag} {mg : Str → Option Value} {base : Heap} {f C : Addr} {fd : FuncData}
theorem hput {H : Hp} {d : Addr} {hs : List (Int × Int)} (h : H d = some (.dK (hap hs))) (l : hs.length ≤ 1000) (a p : Int) : DPut H d (.int a) (.int p) (upd H d (.dK (hap (K95.put hs a p)))) := .inl ⟨hap hs, .inl a, h, rfl, by rw [hap_len]; exact size_ok (by omega), by rw [hap_put]⟩
def spMay : Sp := fun vs H Q _ => ∃ vb vt d t k B M W hs, vs = [vb, vt, .int t, .ref d, .int k] ∧ IsBr H vb B ∧ B.WF ∧ IsTab B H vt M W ∧ H d = some (.dK (hap hs)) ∧ hs.length ≤ 100 ∧ B.Tk k ∧ ∀ (r : Bool) H', Same H H' → Q (.bl r) H'
abbrev N_may_begin : List Str := ["brief", "table", "moment", "happened", "task", "mosts", "begin", "event", "more"]
theorem sc_may_begin : FnScope N_may_begin ["brief", "table", "moment", "happened", "task"] (defScope (top 11)) := ⟨rfl, rfl, rfl, by decide +kernel, rfl, by decide +kernel, by decide +kernel⟩
-- slots: brief 0, table 1, moment 2, happened 3, task 4, mosts 5, begin 6, event 7, more 8
set_option maxHeartbeats 8000000 in
theorem k_may_begin (A : At K mg "may_begin" (top 11) ["brief", "table", "moment", "happened", "task"] f fd) (bi : Bi mg) (D_begin_of : Def P w K mg base "begin_of" 1 ["task"] (spI fun i => .int (2 * i + 1))) (D_is_end : Def P w K mg base "is_end" 1 ["event"] (spI fun i => .bl (K95.isE i)))
    (D_has_waited : Def P w K mg base "has_waited" 2 ["brief", "table", "happened", "task"] spHW) : Def P w K mg base "may_begin" 3 ["brief", "table", "moment", "happened", "task"] spMay := by
  refine A.ok sc_may_begin (fun vs H Q E h => ?_) (fun cdv A outer s H vs Q E hr h => ?_)
  · obtain ⟨vb, vt, d, t, k, B, M, W, hs, rfl, _⟩ := h
    rfl
  obtain ⟨vb, vt, d, t, k, B, M, W, hs, rfl, hB, wf, hT, hd, lh, tkk, q⟩ := h
  have hu := hu_of hr
  have D_begin_of := D_begin_of.mono (j := 2) (by decide)
  have D_is_end := D_is_end.mono (j := 2) (by decide)
  have m4 := wf.m4
  have hB0 := hB
  have hT0 := hT
  have evk := K95.ev_beg tkk
  obtain ⟨a, ap, at', ts, vl, rfl, ⟨va, b1, b2⟩, b3, _, lts⟩ := hB.parts
  obtain ⟨d1, d2, k1, k2, ⟨tb, rfl, t1⟩, t2, t3, tm, tw⟩ := hT
  refine ⟨_, (pss_cons (ps_par (i := 5) (j := 6) (by rfl) sc_may_begin.nd rfl rfl (by decide) rfl rfl (pa_cons (pe_ix ix_tup (pv 1) pe_int (fun _ _ => rfl)) (pa_cons (pe_d D_begin_of hr (by rfl) (pa_cons (pv 4) pa_nil)) pa_nil)) (by rfl))
    (pss_cons (ps_for PassesOwn.never rfl (pi_range1 (by rfl) bi.range (pa_cons (pe_op op_add (pe_op op_mul pe_int (pe_callB call_len_seq (by rfl) bi.len PySem.boot_len (pa_cons (pe_ix ix_tup (pe_ix ix_tup (pv 0) pe_int (fun _ _ => rfl)) pe_int (fun _ _ => rfl)) pa_nil))) pe_int) pa_nil)) (pg_name (i := 7) sc_may_begin.nd rfl (.inl rfl))
      (pss_one (ps_if (pt_cmp (pc_din hu (pv 7) (pv 3)))
        (pss_one (ps_if (pt_cmpR op_lt (pv 2) (pe_op op_sub (pe_dget hu (pv 3) (pv 7) (fun _ _ => rfl)) (pe_dget hu (pv 5) (pe_tup (pa_cons (pv 6) (pa_cons (pv 7) pa_nil))) (fun _ _ => rfl))) (nomark _))
          (pss_one (ps_ret pe_bl))
          pss_nil))
        (pss_one (ps_if (PW.pt (pw_and (pt_cmpR op_ne (pv 7) (pv 6) (nomark _)) (pw_and1 (pt_cmpR op_lt (pe_dget hu (pv 5) (pe_tup (pa_cons (pv 6) (pa_cons (pv 7) pa_nil))) (fun _ _ => rfl)) (pe_ifExp (pt_val (pe_d D_is_end hr (by rfl) (pa_cons (pv 7) pa_nil))) pe_int pe_int) (nomark _)))))
          (pss_one (ps_ret pe_bl))
          pss_nil)))))
    (pss_cons (ps_set (i := 8) sc_may_begin.nd rfl (.inl rfl) (pe_callTy call_dictD (by rfl) bi.dict (by decide +kernel) (pa_cons (pv 3) pa_nil)))
    (pss_cons (ps_dput hu (pv 8) (pv 6) (pv 2) rfl)
    (pss_one (ps_ret (pe_d D_has_waited hr (by rfl) (pa_cons (pv 0) (pa_cons (pv 1) (pa_cons (pv 8) (pa_cons (pv 4) pa_nil))))))))))), ?_⟩
  walk_at "rd"
  refine q_ixT (SqT.of t1) rfl ?_
  walk_at "rd"
  refine ⟨k, rfl, ?_⟩
  walk_at "rd"
  refine q_ixT (SqT.of b1) rfl ?_
  walk_at "rd"
  refine q_ixT (SqT.of b2) rfl ?_
  walk_at "rd"
  refine ⟨at', ts, rfl, .inr (SqT.of b3), ?_⟩
  walk_at "rd"
  refine ⟨_, rfl, (i62' (by omega) (by omega)).1, (i62' (by omega) (by omega)).2, ?_⟩
  have en2 : (2 * (ts.length : Int) + 1).toNat = 2 * B.m + 1 := by omega
  rw [en2]
  refine for_it walk_r0 (fun n σ H' => ∃ y7, σ = [some (.ref a), some (.ref tb), some (.int t), some (.ref d), some (.int k), some (.ref d1), some (.int (2 * k + 1)), y7, none] ∧ Same H H') ⟨none, rfl, Same.refl _⟩ (fun _ _ _ _ _ => trivial) (fun n v σ H1 H1' hn ⟨y7, eσ, s1⟩ hy => ?_) (fun σ H1 ⟨y7, eσ, s1⟩ => ?_)
  · subst eσ
    obtain ⟨rfl, rfl⟩ := hy
    have evn : B.Ev (n : Int) := by unfold K95.Br.Ev; omega
    have hd1 := s1 _ _ hd
    have g0 := hget (.inl hd1) (n : Int)
    have key : ∀ z, H1' z = none → DGet (upd H1' z (.tup [.int (2 * k + 1), .int (n : Int)])) d1 (.ref z) (some (.int (M (2 * k + 1) n))) := fun z nz => tget ((s1.trans (same_new nz)) _ _ t2) upd_same (tm _ _ evk evn)
    walk_at "rd"
    refine ⟨d, _, rfl, g0, ?_⟩
    walk_at "rd"
    rw [Option.isSome_map]
    refine ite2 (fun c => ?_) (fun c => ?_)
    · obtain ⟨p, hp⟩ := Option.isSome_iff_exists.mp c
      rw [hp] at g0
      walk_at "rd"
      refine ⟨d, _, rfl, g0, ?_⟩
      walk_at "rd"
      refine ⟨Nat.le_of_ble_eq_true rfl, fun z nz => ?_⟩
      refine ⟨d1, _, rfl, key z nz, ?_⟩
      walk_at "rd"
      refine ite2 (fun _ => ?_) (fun _ => ?_)
      · walk_at "rd"
        exact q _ _ (s1.trans (same_new nz))
      · exact ⟨_, rfl, s1.trans (same_new nz)⟩
    · walk_at "rd"
      refine useG (c := !decide ((n : Int) = 2 * k + 1) && decide (M (2 * k + 1) n < if K95.isE (n : Int) = true then 1 else 0)) (tsg_and (fun Qb q => ?_) fun _ H2 s2 => (fun Qb q => ?_)) (fun H2 s2 => ?_)
      · walk_at "rd"
        exact q _ (Same.refl _)
      · have key2 : ∀ z, H2 z = none → DGet (upd H2 z (.tup [.int (2 * k + 1), .int (n : Int)])) d1 (.ref z) (some (.int (M (2 * k + 1) n))) := fun z nz => tget ((s1.trans (s2.trans (same_new nz))) _ _ t2) upd_same (tm _ _ evk evn)
        walk_at "rd"
        refine ⟨Nat.le_of_ble_eq_true rfl, fun z nz => ?_⟩
        refine ⟨d1, _, rfl, key2 z nz, ?_⟩
        walk_at "rd"
        refine ⟨n, rfl, ?_⟩
        walk_at "rd"
        refine ite2 (fun e => ?_) (fun e => ?_)
        · rw [if_pos e] at q
          walk_at "rd"
          exact q _ (same_new nz)
        · rw [if_neg e] at q
          walk_at "rd"
          exact q _ (same_new nz)
      refine ite2 (fun _ => ?_) (fun _ => ?_)
      · walk_at "rd"
        exact q _ _ (s1.trans s2)
      · exact ⟨_, rfl, s1.trans s2⟩
  · subst eσ
    walk_at "rd"
    refine ⟨d, hap hs, rfl, .inl (s1 _ _ hd), fun F nF => ?_⟩
    have hF : (upd H1 F (.dK (hap hs))) F = some (.dK (hap hs)) := upd_same
    have s2 := same_new (o := .dK (hap hs)) nF
    generalize upd H1 F (.dK (hap hs)) = H2 at hF s2
    walk_at "rd"
    refine ⟨F, _, rfl, hput hF (by omega) _ _, ?_⟩
    have s3 : Same H (upd H2 F (.dK (hap (K95.put hs (2 * k + 1) t)))) := same_upd0 (s1.trans s2) (by
      cases e : H F with
      | none => rfl
      | some u => rw [s1 _ _ e] at nF; cases nF)
    walk_at "rd"
    exact ⟨_, _, F, k, t, B, M, W, _, rfl, hB0.same s3, wf, hT0.same s3, upd_same, tkk, by rw [K95.look_put, if_pos rfl], fun r H' _ s4 => q r _ (s3.trans s4)⟩
def spWB : Sp := fun vs H Q _ => ∃ vb vt d t B M W hs, vs = [vb, vt, .int t, .ref d] ∧ IsBr H vb B ∧ B.WF ∧ IsTab B H vt M W ∧ H d = some (.dK (hap hs)) ∧ K95.Sl B t hs ∧ ∀ v hs' H', Same H H' → IsSit H' v t hs' → K95.Sl B t hs' → Q v H'
theorem free0 {H H1 : Hp} {F : Addr} (s : Same H H1) (n : H1 F = none) : H F = none := by
  cases e : H F with
  | none => rfl
  | some u => rw [s _ _ e] at n; cases n
abbrev N_with_begins : List Str := ["brief", "table", "moment", "happened", "free", "task", "found"]
theorem sc_with_begins : FnScope N_with_begins ["brief", "table", "moment", "happened"] (defScope (top 12)) := ⟨rfl, rfl, rfl, by decide +kernel, rfl, by decide +kernel, by decide +kernel⟩
-- slots: brief 0, table 1, moment 2, happened 3, free 4, task 5, found 6
set_option maxHeartbeats 8000000 in
theorem k_with_begins (A : At K mg "with_begins" (top 12) ["brief", "table", "moment", "happened"] f fd) (bi : Bi mg) (D_begin_of : Def P w K mg base "begin_of" 1 ["task"] (spI fun i => .int (2 * i + 1)))
    (D_may_begin : Def P w K mg base "may_begin" 3 ["brief", "table", "moment", "happened", "task"] spMay) : Def P w K mg base "with_begins" 4 ["brief", "table", "moment", "happened"] spWB := by
  refine A.ok sc_with_begins (fun vs H Q E h => ?_) (fun cdv A outer s H vs Q E hr h => ?_)
  · obtain ⟨vb, vt, d, t, B, M, W, hs, rfl, _⟩ := h
    rfl
  obtain ⟨vb, vt, d, t, B, M, W, hs, rfl, hB, wf, hT, hd, sl, q⟩ := h
  have hu := hu_of hr
  have D_begin_of := D_begin_of.mono (j := 3) (by decide)
  have m4 := wf.m4
  have lh := sl.len wf
  have hB0 := hB
  obtain ⟨a, ap, at', ts, vl, rfl, ⟨va, b1, b2⟩, b3, _, lts⟩ := hB.parts
  have en : ((ts.length : Int)).toNat = B.m := by omega
  refine ⟨_, (pss_cons (ps_setLc (i := 4) (own := [("task", 5)]) (g := gName 5) rfl sc_with_begins.nd rfl rfl (sw_true rfl rfl rfl (by decide +kernel)) (pi_range1 (by rfl) bi.range (pa_cons (pe_callB call_len_seq (by rfl) bi.len PySem.boot_len (pa_cons (pe_ix ix_tup (pe_ix ix_tup (pv 0) pe_int (fun _ _ => rfl)) pe_int (fun _ _ => rfl)) pa_nil)) pa_nil)) (blkOk_by (own := [("task", 5)]) (N := N_with_begins) (sc := defScope (top 12)) (by decide +kernel)) (fun _ _ _ _ _ => (pg_name (i := 5) sc_with_begins.nd rfl (.inl rfl))) (fun _ _ _ _ _ => pts_one (pt_cmp (pc_dnotin hu (pe_d D_begin_of hr (by rfl) (pa_cons (pv 5) pa_nil)) (pv 3)))) (fun _ _ _ _ _ => (pv 5)))
    (pss_cons (ps_set (i := 6) sc_with_begins.nd rfl (.inl rfl) (pe_callTy call_dictD (by rfl) bi.dict (by decide +kernel) (pa_cons (pv 3) pa_nil)))
    (pss_cons (ps_for PassesOwn.never rfl (pi_list (pv 4)) (pg_name (i := 5) sc_with_begins.nd rfl (.inl rfl))
      (pss_one (ps_if (pt_val (pe_d D_may_begin hr (by rfl) (pa_cons (pv 0) (pa_cons (pv 1) (pa_cons (pv 2) (pa_cons (pv 3) (pa_cons (pv 5) pa_nil)))))))
        (pss_one (ps_dput hu (pv 6) (pe_d D_begin_of hr (by rfl) (pa_cons (pv 5) pa_nil)) (pv 2) rfl))
        pss_nil)))
    (pss_one (ps_ret (pe_tup (pa_cons (pv 2) (pa_cons (pv 6) pa_nil)))))))), ?_⟩
  walk_at "rd"
  refine q_ixT (SqT.of b1) rfl ?_
  walk_at "rd"
  refine q_ixT (SqT.of b2) rfl ?_
  walk_at "rd"
  refine ⟨at', ts, rfl, .inr (SqT.of b3), ?_⟩
  walk_at "rd"
  refine ⟨_, rfl, (i62 (by omega)).1, (i62 (by omega)).2, fun D nD => ?_⟩
  rw [en]
  refine lc_it walk_r0 (fun n H' => Same H H' ∧ ∃ fr : List Int, H' D = some (.lst (fr.map V.int)) ∧ fr.length ≤ n ∧ ∀ k ∈ fr, B.Tk k ∧ K95.look hs (2 * k + 1) = none) ⟨same_new nD, [], upd_same, Nat.le_refl _, fun k h => nomatch h⟩ (fun _ _ _ _ => trivial) (fun n v H1 H1' hn ⟨s1, fr, hD, lf, af⟩ hy => ?_) (fun H1 ⟨s1, fr, hD, lf, af⟩ => ?_)
  · obtain ⟨rfl, rfl⟩ := hy
    walk_at "rd"
    refine ⟨rfl, ?_⟩
    walk_at "rd"
    refine ⟨_, rfl, ?_⟩
    walk_at "rd"
    refine ⟨d, _, rfl, hget (.inl (s1 _ _ hd)) (2 * (n : Int) + 1), ?_⟩
    rw [Option.isSome_map]
    walk_at "rd"
    refine ite2 (fun c => ?_) (fun c => ?_)
    · walk_at "rd"
      refine ⟨_, hD, size_ok (by rw [List.length_map]; omega), same_upd0 s1 nD, fr ++ [(n : Int)], by rw [upd_same, List.map_append]; rfl, by rw [List.length_append]; exact Nat.succ_le_succ lf, fun k hk => ?_⟩
      rcases List.mem_append.mp hk with h | h
      · exact af k h
      · rw [List.mem_singleton] at h
        rw [h]
        refine ⟨by unfold K95.Br.Tk; omega, ?_⟩
        cases e : K95.look hs (2 * (n : Int) + 1) with
        | none => rfl
        | some p => rw [e] at c; cases c
    · exact ⟨s1, fr, hD, by omega, af⟩
  walk_at "rd"
  refine ⟨d, hap hs, rfl, .inl (s1 _ _ hd), fun F nF => ?_⟩
  have hF : (upd H1 F (.dK (hap hs))) F = some (.dK (hap hs)) := upd_same
  have s2 := same_new (o := .dK (hap hs)) nF
  have hD2 := s2 _ _ hD
  have nF0 := free0 s1 nF
  have nDF : D ≠ F := ne_of_none hD nF
  generalize upd H1 F (.dK (hap hs)) = H2 at hF s2 hD2
  have s12 := s1.trans s2
  walk_at "rd"
  refine ⟨D, rfl, ⟨_, SqL.of hD2⟩, ?_⟩
  refine for_it (walk_list (xs := fr.map V.int)) (fun n σ H' => ∃ y5, σ = [some (.ref a), some vt, some (.int t), some (.ref d), some (.ref D), y5, some (.ref F)] ∧ Same H H' ∧ H' D = some (.lst (fr.map V.int)) ∧ ∃ hs', H' F = some (.dK (hap hs')) ∧ K95.Sl B t hs' ∧ ∀ i, K95.look hs' (2 * i + 2) = K95.look hs (2 * i + 2))
    ⟨none, rfl, s12, hD2, hs, hF, sl, fun _ => rfl⟩ (fun n σ H' _ ⟨_, _, _, h, _⟩ => SqL.of h) (fun n v σ H3 H3' hn ⟨y5, eσ, s3, hD3, hs', hF3, sl3, ev3⟩ hy => ?_) (fun σ H3 ⟨y5, eσ, s3, hD3, hs', hF3, sl3, ev3⟩ => ?_)
  · subst eσ
    obtain ⟨rfl, hv⟩ := hy
    obtain ⟨k, hk, rfl⟩ := get_map hv
    obtain ⟨tkk, nk⟩ := af k (List.mem_of_getElem? hk)
    walk_at "rd"
    refine ⟨_, _, d, t, k, B, M, W, hs, rfl, hB0.same s3, wf, hT.same s3, s3 _ _ hd, by omega, tkk, fun r H4 s4 => ?_⟩
    walk_at "rd"
    have s34 := s3.trans s4
    refine ite2 (fun _ => ?_) (fun _ => ?_)
    · walk_at "rd"
      refine ⟨k, rfl, ?_⟩
      walk_at "rd"
      obtain ⟨sl5, ev5⟩ := sl3.begin wf tkk (by rw [ev3]; exact sl.noend tkk nk)
      have lh3 := sl3.len wf
      refine ⟨F, _, rfl, hput (s4 _ _ hF3) (by omega) _ _, ?_⟩
      exact ⟨_, rfl, same_upd0 s34 nF0, by rw [upd_ne nDF]; exact s4 _ _ hD3, _, upd_same, sl5, fun i => (ev5 i).trans (ev3 i)⟩
    · exact ⟨_, rfl, s34, s4 _ _ hD3, hs', s4 _ _ hF3, sl3, ev3⟩
  · subst eσ
    walk_at "rd"
    refine ⟨Nat.le_of_ble_eq_true rfl, fun z nz => ?_⟩
    exact q _ hs' _ (s3.trans (same_new nz)) ⟨F, Tu.new, same_new nz _ _ hF3⟩ sl3
def spOpen : Sp := fun vs H Q _ => ∃ vb vt B M W, vs = [vb, vt] ∧ IsBr H vb B ∧ B.WF ∧ IsTab B H vt M W ∧ ∀ v hs' H', Same H H' → IsSit H' v 0 hs' → K95.Sl B 0 hs' → Q v H'
abbrev N_opening : List Str := ["brief", "table"]
theorem sc_opening : FnScope N_opening ["brief", "table"] (defScope (top 13)) := ⟨rfl, rfl, rfl, by decide +kernel, rfl, by decide +kernel, by decide +kernel⟩
-- slots: brief 0, table 1
theorem k_opening (A : At K mg "opening" (top 13) ["brief", "table"] f fd) (bi : Bi mg) (D_with_begins : Def P w K mg base "with_begins" 4 ["brief", "table", "moment", "happened"] spWB) : Def P w K mg base "opening" 5 ["brief", "table"] spOpen := by
  refine A.ok sc_opening (fun vs H Q E h => ?_) (fun cdv A outer s H vs Q E hr h => ?_)
  · obtain ⟨vb, vt, B, M, W, rfl, _⟩ := h
    rfl
  obtain ⟨vb, vt, B, M, W, rfl, hB, wf, hT, q⟩ := h
  refine ⟨_, (pss_one (ps_ret (pe_d D_with_begins hr (by rfl) (pa_cons (pv 0) (pa_cons (pv 1) (pa_cons pe_int (pa_cons (pe_disp (pps_cons pe_int pe_int pps_nil) (by rfl) (by rfl) (fun z => by cases z) (by decide)) pa_nil))))))), ?_⟩
  walk_at "rd"
  intro d nd
  have s1 := same_new (o := .dK []) nd
  refine ⟨upd_same, [((.inl 0 : Key), .int 0)], rfl, by decide, ?_⟩
  have s2 : Same H (upd (upd H d (.dK [])) d (.dK (mergeK [] [((.inl 0 : Key), .int 0)]))) := same_upd0 s1 nd
  have hd : (upd (upd H d (.dK [])) d (.dK (mergeK [] [((.inl 0 : Key), .int 0)]))) d = some (.dK (hap [(0, 0)])) := by rw [upd_same]; rfl
  generalize upd (upd H d (.dK [])) d (.dK (mergeK [] [((.inl 0 : Key), .int 0)])) = H2 at s2 hd
  walk_at "rd"
  exact ⟨_, _, d, 0, B, M, W, _, rfl, hB.same s2, wf, hT.same s2, hd, K95.sl_zero, fun v hs' H' s3 => q v hs' H' (s2.trans s3)⟩
def spFoll : Sp := fun vs H Q _ => ∃ vb vt v vk t B M W hs is, vs = [vb, vt, v, vk] ∧ IsBr H vb B ∧ B.WF ∧ IsTab B H vt M W ∧ IsSit H v t hs ∧ K95.Sl B t hs ∧ Tu H vk (is.map V.int) ∧ is.length ≤ 100 ∧ K95.EndsOk B (t + 1) (K95.look hs) is ∧
  ∀ v' hs' H', Same H H' → IsSit H' v' (t + 1) hs' → K95.Sl B (t + 1) hs' → Q v' H'
abbrev N_followed : List Str := ["brief", "table", "situation", "tick", "moment", "happened", "task"]
theorem sc_followed : FnScope N_followed ["brief", "table", "situation", "tick"] (defScope (top 14)) := ⟨rfl, rfl, rfl, by decide +kernel, rfl, by decide +kernel, by decide +kernel⟩
-- slots: brief 0, table 1, situation 2, tick 3, moment 4, happened 5, task 6
theorem k_followed (A : At K mg "followed" (top 14) ["brief", "table", "situation", "tick"] f fd) (bi : Bi mg) (D_end_of : Def P w K mg base "end_of" 1 ["task"] (spI fun i => .int (2 * i + 2))) (D_with_begins : Def P w K mg base "with_begins" 4 ["brief", "table", "moment", "happened"] spWB) :
    Def P w K mg base "followed" 5 ["brief", "table", "situation", "tick"] spFoll := by
  refine A.ok sc_followed (fun vs H Q E h => ?_) (fun cdv A outer s H vs Q E hr h => ?_)
  · obtain ⟨vb, vt, v, vk, t, B, M, W, hs, is, rfl, _⟩ := h
    rfl
  obtain ⟨vb, vt, v, vk, t, B, M, W, hs, is, rfl, hB, wf, hT, hS, sl, ⟨ka, rfl, hk⟩, li, ends, q⟩ := h
  obtain ⟨d, ⟨sa, rfl, hs1⟩, hd⟩ := hS
  have hu := hu_of hr
  have D_end_of := D_end_of.mono (j := 4) (by decide)
  have lh := sl.len wf
  refine ⟨_, (pss_cons (ps_par (i := 4) (j := 5) (by rfl) sc_followed.nd rfl rfl (by decide) rfl rfl (pa_cons (pe_op op_add (pe_ix ix_tup (pv 2) pe_int (fun _ _ => rfl)) pe_int) (pa_cons (pe_callTy call_dictD (by rfl) bi.dict (by decide +kernel) (pa_cons (pe_ix ix_tup (pv 2) pe_int (fun _ _ => rfl)) pa_nil)) pa_nil)) (by rfl))
    (pss_cons (ps_for PassesOwn.never rfl (pi_tup (pv 3)) (pg_name (i := 6) sc_followed.nd rfl (.inl rfl))
      (pss_one (ps_dput hu (pv 5) (pe_d D_end_of hr (by rfl) (pa_cons (pv 6) pa_nil)) (pv 4) rfl)))
    (pss_one (ps_ret (pe_d D_with_begins hr (by rfl) (pa_cons (pv 0) (pa_cons (pv 1) (pa_cons (pv 4) (pa_cons (pv 5) pa_nil))))))))), ?_⟩
  walk_at "rd"
  refine q_ixT (SqT.of hs1) rfl ?_
  walk_at "rd"
  refine q_ixT (SqT.of hs1) rfl ?_
  walk_at "rd"
  refine ⟨d, hap hs, rfl, .inl hd, fun F nF => ?_⟩
  have hF : (upd H F (.dK (hap hs))) F = some (.dK (hap hs)) := upd_same
  have s2 := same_new (o := .dK (hap hs)) nF
  generalize upd H F (.dK (hap hs)) = H2 at hF s2
  walk_at "rd"
  refine ⟨ka, rfl, ⟨_, SqT.of (s2 _ _ hk)⟩, ?_⟩
  refine for_it (walk_tup (xs := is.map V.int)) (fun n σ H' => ∃ y6, σ = [some vb, some vt, some (.ref sa), some (.ref ka), some (.int (t + 1)), some (.ref F), y6] ∧ Same H H' ∧ H' F = some (.dK (hap (K95.endAll (t + 1) hs (is.take n)))) ∧ (K95.endAll (t + 1) hs (is.take n)).length ≤ 9 + n)
    ⟨none, rfl, s2, hF, lh⟩ (fun n σ H' _ ⟨_, _, s, _⟩ => SqT.of (s _ _ hk)) (fun n v σ H3 H3' hn ⟨y6, eσ, s3, hF3, l3⟩ hy => ?_) (fun σ H3 ⟨y6, eσ, s3, hF3, l3⟩ => ?_)
  · subst eσ
    obtain ⟨rfl, hv⟩ := hy
    obtain ⟨i, hi, rfl⟩ := get_map hv
    rw [List.length_map] at hn
    walk_at "rd"
    refine ⟨i, rfl, ?_⟩
    walk_at "rd"
    refine ⟨F, _, rfl, hput hF3 (by omega) _ _, ?_⟩
    have e : K95.endAll (t + 1) hs (is.take (n + 1)) = K95.put (K95.endAll (t + 1) hs (is.take n)) (2 * i + 2) (t + 1) := by rw [take_snoc hi, K95.endAll_snoc]
    rw [e]
    have lp := len_put (hap (K95.endAll (t + 1) hs (is.take n))) (.inl (2 * i + 2)) (.int (t + 1))
    rw [hap_put, hap_len, hap_len] at lp
    exact ⟨_, rfl, same_upd0 s3 nF, upd_same, by omega⟩
  · subst eσ
    rw [List.length_map, List.take_length] at hF3
    walk_at "rd"
    exact ⟨_, _, F, t + 1, B, M, W, _, rfl, hB.same s3, wf, hT.same s3, hF3, sl.ends ends, fun v hs' H' s4 => q v hs' H' (s3.trans s4)⟩
end
section
variable {P : Program} {w : World} {K : PySem.W.Frag} {mg : Str → Option Value} {base : Heap} {f C : Addr} {fd : FuncData}
/-- the numbers that a reason names -/
def dpV (r : K95.Rs) : List V := (K95.deps r).map nV
def spLI : Sp := fun vs H Q _ => ∃ v x, vs = [v] ∧ LnV H v x ∧ ∀ v' H', Same H H' → Tu H' v' (dpV x.r) → Q v' H'
def wdR : K95.Rs → Str
  | .bound _ => "bound"
  | .high _ => "high"
  | .sum _ _ => "sum"
  | .delay _ _ => "delay"
  | .early _ => "early"
  | .ahead _ => "ahead"
  | .floor _ => "floor"
def isAl : K95.Rs → Bool
  | .bound _ => true
  | .high _ => true
  | _ => false
theorem rs_head (r : K95.Rs) : ∃ rest, rsV r = .str (wdR r) :: rest ∧ inV (.str (wdR r)) [.str "bound", .str "high"] = isAl r ∧ (isAl r = true → dpV r = []) ∧ (isAl r = false → rest = dpV r ∧ 0 < rest.length) := by
  cases r with
  | bound k => exact ⟨_, rfl, (show inV (.str "bound") [.str "bound", .str "high"] = true by decide +kernel), fun _ => rfl, fun h => nomatch h⟩
  | high k => exact ⟨_, rfl, (show inV (.str "high") [.str "bound", .str "high"] = true by decide +kernel), fun _ => rfl, fun h => nomatch h⟩
  | sum k l => exact ⟨_, rfl, (show inV (.str "sum") [.str "bound", .str "high"] = false by decide +kernel), (fun h => nomatch h), fun _ => ⟨rfl, Nat.succ_pos _⟩⟩
  | delay k l => exact ⟨_, rfl, (show inV (.str "delay") [.str "bound", .str "high"] = false by decide +kernel), (fun h => nomatch h), fun _ => ⟨rfl, Nat.succ_pos _⟩⟩
  | early k => exact ⟨_, rfl, (show inV (.str "early") [.str "bound", .str "high"] = false by decide +kernel), (fun h => nomatch h), fun _ => ⟨rfl, Nat.succ_pos _⟩⟩
  | ahead k => exact ⟨_, rfl, (show inV (.str "ahead") [.str "bound", .str "high"] = false by decide +kernel), (fun h => nomatch h), fun _ => ⟨rfl, Nat.succ_pos _⟩⟩
  | floor k => exact ⟨_, rfl, (show inV (.str "floor") [.str "bound", .str "high"] = false by decide +kernel), (fun h => nomatch h), fun _ => ⟨rfl, Nat.succ_pos _⟩⟩
theorem at0 {x : V} {xs : List V} : atI (x :: xs) 0 = some x := atI_nat (j := 0) rfl
theorem cut1 (x : V) (xs : List V) : cutV (x :: xs) (some 1) none = xs := by
  unfold cutV
  rw [show (1 : Int) = ((1 : Nat) : Int) from rfl, HT.sIx_nat, HT.sIx_none, List.length_cons, show min 1 (xs.length + 1) = 1 by omega]
  show (xs.take (xs.length + 1 - 1)) = xs
  rw [Nat.add_sub_cancel, List.take_length]
theorem sl1 (x : V) (xs : List V) : ¬ (HT.sIx (x :: xs).length 0 (some 1) = 0 ∧ HT.sIx (x :: xs).length (x :: xs).length none = (x :: xs).length) := fun h => by
  have := h.1
  rw [show (1 : Int) = ((1 : Nat) : Int) from rfl, HT.sIx_nat, List.length_cons] at this
  omega
abbrev N_lines_in : List Str := ["line"]
theorem sc_lines_in : FnScope N_lines_in ["line"] (defScope (top 16)) := ⟨rfl, rfl, rfl, by decide +kernel, rfl, by decide +kernel, by decide +kernel⟩
-- slots: line 0
set_option maxHeartbeats 8000000 in
theorem k_lines_in (A : At K mg "lines_in" (top 16) ["line"] f fd) (bi : Bi mg) : Def P w K mg base "lines_in" 1 ["line"] spLI := by
  refine A.ok sc_lines_in (fun vs H Q E h => ?_) (fun cdv A outer s H vs Q E hr h => ?_)
  · obtain ⟨v, x, rfl, _⟩ := h
    rfl
  obtain ⟨v, x, rfl, ⟨rr, ⟨a, rfl, ha⟩, ⟨b, rfl, hb⟩⟩, q⟩ := h
  refine ⟨_, (pss_one (ps_ret (pe_ifExp (pt_cmpR op_in_seq (pe_ix ix_tup (pe_ix ix_tup (pv 0) pe_int (fun _ _ => rfl)) pe_int (fun _ _ => rfl)) (pe_tup (pa_cons pe_str (pa_cons pe_str pa_nil))) (by with_unfolding_all rfl)) (pe_tup pa_nil) (pe_slice sl_tupA (pe_ix ix_tup (pv 0) pe_int (fun _ _ => rfl)) (po_some pe_int) po_none)))), ?_⟩
  obtain ⟨rest, e1, e2, e3, e4⟩ := rs_head x.r
  rw [e1] at hb
  walk_at "rd"
  refine q_ixT (SqT.of ha) rfl ?_
  walk_at "rd"
  refine q_ixT (SqT.of hb) at0 ?_
  walk_at "rd"
  refine ⟨Nat.le_of_ble_eq_true rfl, fun z nz => ?_⟩
  have s1 := same_new (o := .tup [.str "bound", .str "high"]) nz
  have hz : (upd H z (.tup [.str "bound", .str "high"])) z = some (.tup [.str "bound", .str "high"]) := upd_same
  generalize upd H z (.tup [.str "bound", .str "high"]) = H1 at s1 hz
  refine ⟨z, _, rfl, .inr (SqT.of hz), rfl, rfl, ?_⟩
  refine ⟨_, rfl, ?_⟩
  show if inV (.str (wdR x.r)) [.str "bound", .str "high"] = true then _ else _
  rw [e2]
  refine ite2 (fun c => ?_) (fun c => ?_)
  · walk_at "rd"
    refine ⟨Nat.zero_le _, fun y ny => ?_⟩
    refine q _ _ (s1.trans (same_new ny)) ?_
    rw [e3 c]
    exact Tu.new
  · obtain ⟨rfl, lr⟩ := e4 (eq_false_of_ne_true c)
    walk_at "rd"
    refine q_ixT (SqT.of (s1 _ _ ha)) rfl ?_
    walk_at "rd"
    refine ⟨b, _, rfl, SqT.of (s1 _ _ hb), fun h => absurd h (sl1 _ _), fun _ y ny => ?_⟩
    rw [cut1]
    exact q _ _ (s1.trans (same_new ny)) Tu.new
/-- the places of the numbers that are named -/
def spRen : Sp := fun vs H Q _ => ∃ (v : V) (x : K95.Ln) (d : Addr) (kvs : List (Key × V)) (g : Nat → Nat), vs = [v, .ref d] ∧ LnV H v x ∧ H d = some (.dK kvs) ∧ (∀ k ∈ K95.deps x.r, valV kvs (.inl (k : Int)) = some (nV (g k))) ∧ ∀ v' H', Same H H' → LnV H' v' (K95.ren g x) → Q v' H'
theorem ren_al {g : Nat → Nat} {x : K95.Ln} (h : K95.deps x.r = []) : K95.ren g x = x := by
  unfold K95.ren
  have : K95.renR g x.r = x.r := by
    cases hr : x.r <;> rw [hr] at h <;> first | rfl | cases h
  rw [this]
theorem rs_ren (g : Nat → Nat) (r : K95.Rs) (h : K95.deps r ≠ []) : rsV (K95.renR g r) = .str (wdR r) :: (K95.deps r).map fun k => nV (g k) := by
  cases r <;> first | rfl | exact absurd rfl h
theorem dep_len (r : K95.Rs) : (K95.deps r).length ≤ 2 := by cases r <;> simp [K95.deps]
theorem dpAll_ints {K : PySem.W.Frag} {H : Hp} : ∀ l : List Nat, DpAll K H (l.map nV) (l.map fun (k : Nat) => PyData.int (k : Int))
  | [] => .nil
  | k :: l => .cons (.int k) (dpAll_ints l)
theorem eqv_nil (l : List Nat) : PyData.eqv (.tuple (l.map fun (k : Nat) => PyData.int (k : Int))) (.tuple []) = decide (l = []) := by
  cases l with
  | nil => rfl
  | cons k l => simp [PyData.eqv, PyData.eqvAll]
theorem shaped_ints (r : K95.Rs) : SeqAt.shaped (.tuple ((K95.deps r).map fun (k : Nat) => PyData.int (k : Int))) = true := by
  cases r <;> simp [K95.deps, SeqAt.shaped, PyData.canLay0, PyData.canLayAll0, PyData.depth, PyData.depthAll]
theorem cut4 (xs : List V) (a b c d e : V) : cutV [a, b, c, d, e] none (some 4) = [a, b, c, d] := rfl
theorem sl4 (a b c d e : V) : ¬ (HT.sIx [a, b, c, d, e].length 0 none = 0 ∧ HT.sIx [a, b, c, d, e].length [a, b, c, d, e].length (some 4) = [a, b, c, d, e].length) := fun h => absurd (show HT.sIx 5 5 (some 4) = 5 from h.2) (by decide)
abbrev N_renumbered : List Str := ["line", "places", "k"]
theorem sc_renumbered : FnScope N_renumbered ["line", "places"] (defScope (top 17)) := ⟨rfl, rfl, rfl, by decide +kernel, rfl, by decide +kernel, by decide +kernel⟩
-- slots: line 0, places 1, k 2
set_option maxHeartbeats 8000000 in
theorem k_renumbered (A : At K mg "renumbered" (top 17) ["line", "places"] f fd) (bi : Bi mg) (D_lines_in : Def P w K mg base "lines_in" 1 ["line"] spLI) : Def P w K mg base "renumbered" 2 ["line", "places"] spRen := by
  refine A.ok sc_renumbered (fun vs H Q E h => ?_) (fun cdv A outer s H vs Q E hr h => ?_)
  · obtain ⟨v, x, d, kvs, g, rfl, _⟩ := h
    rfl
  obtain ⟨v, x, d, kvs, g, rfl, hL, hd, hg, q⟩ := h
  have hu := hu_of hr
  have hL0 := hL
  obtain ⟨rr, ⟨a, rfl, ha⟩, ⟨b, rfl, hb⟩⟩ := hL
  have ld := dep_len x.r
  refine ⟨_, (pss_cons (ps_if (pt_cmpR (op_eqD hr.units) (pe_d D_lines_in hr (by rfl) (pa_cons (pv 0) pa_nil)) (pe_tup pa_nil) (nomark _))
      (pss_one (ps_ret (pv 0)))
      pss_nil)
    (pss_one (ps_ret (pe_op op_catA (pe_slice sl_tupA (pv 0) po_none (po_some pe_int)) (pe_tup (pa_cons (pe_op op_catA (pe_tup (pa_cons (pe_ix ix_tup (pe_ix ix_tup (pv 0) pe_int (fun _ _ => rfl)) pe_int (fun _ _ => rfl)) pa_nil)) (pe_callTy call_tuple_of (by rfl) bi.tuple (by decide +kernel) (pa_cons (pe_lc (own := [("k", 2)]) (g := gName 2) rfl sc_renumbered.nd (pi_tup (pe_d D_lines_in hr (by rfl) (pa_cons (pv 0) pa_nil))) (blkOk_by (own := [("k", 2)]) (N := N_renumbered) (sc := defScope (top 17)) (by decide +kernel)) (fun _ _ _ _ _ => (pg_name (i := 2) sc_renumbered.nd rfl (.inl rfl))) (fun _ _ _ _ _ => pts_nil) (fun _ _ _ _ _ => (pe_dget hu (pv 1) (pv 2) (fun _ _ => rfl)))) pa_nil))) pa_nil)))))), ?_⟩
  walk_at "rd"
  refine ⟨_, x, rfl, hL0, fun v1 H1 s1 h1 => ?_⟩
  obtain ⟨p1, rfl, h1⟩ := h1
  walk_at "rd"
  refine ⟨Nat.zero_le _, fun z nz => ?_⟩
  have s2 := same_new (o := .tup []) nz
  refine ⟨_, _, .tup (SqT.of (s2 _ _ h1)) (dpAll_ints _), .tup (SqT.of upd_same) .nil, shaped_ints _, by decide, ?_⟩
  refine ⟨_, rfl, ?_⟩
  rw [eqv_nil]
  have s12 := s1.trans s2
  generalize upd H1 z (.tup []) = H2 at s12
  clear s2
  refine ite2 (fun c => ?_) (fun c => ?_)
  · walk_at "rd"
    refine q _ _ s12 ?_
    rw [ren_al (of_decide_eq_true c)]
    exact hL0.tps (same_tps s12)
  · have c : ¬ K95.deps x.r = [] := fun z => c (decide_eq_true z)
    obtain ⟨rest, e1, _⟩ := rs_head x.r
    rw [e1] at hb
    walk_at "rd"
    refine ⟨a, _, rfl, SqT.of (s12 _ _ ha), fun h => absurd h (sl4 _ _ _ _ _), fun _ p2 np2 => ?_⟩
    have s3 := same_new (o := .tup (cutV [kiV x.wt, .int x.a, .int x.b, .int x.w, .ref b] none (some 4))) np2
    have hp2 : (upd H2 p2 (.tup (cutV [kiV x.wt, .int x.a, .int x.b, .int x.w, .ref b] none (some 4)))) p2 = some (.tup [kiV x.wt, .int x.a, .int x.b, .int x.w]) := upd_same
    generalize upd H2 p2 (.tup (cutV [kiV x.wt, .int x.a, .int x.b, .int x.w, .ref b] none (some 4))) = H3 at s3 hp2
    have s13 := s12.trans s3
    walk_at "rd"
    refine q_ixT (SqT.of (s13 _ _ ha)) rfl ?_
    walk_at "rd"
    refine q_ixT (SqT.of (s13 _ _ hb)) at0 ?_
    walk_at "rd"
    refine ⟨Nat.le_of_ble_eq_true rfl, fun p3 np3 => ?_⟩
    have s4 := same_new (o := .tup [.str (wdR x.r)]) np3
    have hp3 : (upd H3 p3 (.tup [.str (wdR x.r)])) p3 = some (.tup [.str (wdR x.r)]) := upd_same
    have hp2 := s4 _ _ hp2
    generalize upd H3 p3 (.tup [.str (wdR x.r)]) = H4 at s4 hp3 hp2
    have s14 := s13.trans s4
    walk_at "rd"
    refine ⟨_, x, rfl, hL0.tps (same_tps s14), fun v5 H5 s5 h5 => ?_⟩
    obtain ⟨p5, rfl, h5⟩ := h5
    have s15 := s14.trans s5
    refine ⟨p5, rfl, ⟨_, SqT.of h5⟩, fun D nD => ?_⟩
    refine lc_it (walk_tup (xs := dpV x.r)) (fun n H' => Same H5 H' ∧ H' D = some (.lst (((K95.deps x.r).take n).map fun k => nV (g k)))) ⟨same_new nD, upd_same⟩ (fun n H' _ ⟨s, _⟩ => SqT.of (s _ _ h5)) (fun n v H6 H6' hn ⟨s6, hD⟩ hy => ?_) (fun H6 ⟨s6, hD⟩ => ?_)
    · obtain ⟨rfl, hv⟩ := hy
      obtain ⟨k, hk, rfl⟩ := get_map hv
      walk_at "rd"
      refine ⟨rfl, ?_⟩
      walk_at "rd"
      refine iteT ?_
      walk_at "rd"
      refine ⟨d, _, rfl, .inl ⟨kvs, .inl (k : Int), .inl (s6 _ _ (s15 _ _ hd)), rfl, (hg k (List.mem_of_getElem? hk)).symm⟩, ?_⟩
      refine ⟨_, hD, size_ok (by rw [List.length_map, List.length_take]; omega), same_upd0 s6 nD, ?_⟩
      rw [upd_same, take_snoc hk, List.map_append]
      rfl
    · unfold dpV at hD
      rw [List.length_map, List.take_length] at hD
      walk_at "rd"
      refine ⟨D, _, rfl, .inl ⟨SqL.of hD, fun p6 np6 => ?_⟩⟩
      have s7 := same_new (o := .tup ((K95.deps x.r).map fun k => nV (g k))) np6
      have hp6 : (upd H6 p6 (.tup ((K95.deps x.r).map fun k => nV (g k)))) p6 = some (.tup ((K95.deps x.r).map fun k => nV (g k))) := upd_same
      have hp3 := s7 _ _ (s6 _ _ (s5 _ _ hp3))
      have hp2 := s7 _ _ (s6 _ _ (s5 _ _ hp2))
      have s17 := s15.trans (s6.trans s7)
      generalize upd H6 p6 (.tup ((K95.deps x.r).map fun k => nV (g k))) = H7 at s7 hp6 hp3 hp2 s17
      have ne : (K95.deps x.r).map (fun k => nV (g k)) ≠ [] := fun z => c (List.map_eq_nil_iff.mp z)
      refine ⟨p3, p6, _, _, rfl, rfl, SqT.of hp3, SqT.of hp6, Nat.le_of_lt (size_ok (by rw [List.length_map]; show 1 + _ ≤ _; omega)), (fun z => nomatch z), fun _ z => absurd z ne, fun _ _ p7 np7 => ?_⟩
      have s8 := same_new (o := .tup ([.str (wdR x.r)] ++ (K95.deps x.r).map fun k => nV (g k))) np7
      have hp7 : Tu (upd H7 p7 (.tup ([.str (wdR x.r)] ++ (K95.deps x.r).map fun k => nV (g k)))) (.ref p7) (rsV (K95.renR g x.r)) := ⟨p7, rfl, by rw [upd_same, rs_ren g x.r c]; rfl⟩
      have hp2 := s8 _ _ hp2
      generalize upd H7 p7 (.tup ([.str (wdR x.r)] ++ (K95.deps x.r).map fun k => nV (g k))) = H8 at s8 hp7 hp2
      walk_at "rd"
      refine ⟨Nat.le_of_ble_eq_true rfl, fun p8 np8 => ?_⟩
      have s9 := same_new (o := .tup [.ref p7]) np8
      refine ⟨p2, p8, _, _, rfl, rfl, SqT.of (s9 _ _ hp2), SqT.of upd_same, Nat.le_of_ble_eq_true rfl, (fun z => nomatch z), (fun _ z => nomatch z), fun _ _ p9 np9 => ?_⟩
      refine q _ _ (s17.trans (s8.trans (s9.trans (same_new np9)))) ⟨.ref p7, Tu.new, hp7.tps (same_tps (s9.trans (same_new np9)))⟩
end
section
variable {P : Program} {w : World} {K : PySem.W.Frag} {mg : Str → Option Value} {base : Heap} {f C : Addr} {fd : FuncData}
/-- v is a list of the lines l -/
def LnsV (H : Hp) (v : V) (l : List K95.Ln) : Prop := ∃ a vs, v = .ref a ∧ H a = some (.lst vs) ∧ Paired (LnV H) vs l
theorem LnsV.same {H H' : Hp} {v : V} {l : List K95.Ln} (h : LnsV H v l) (s : Same H H') : LnsV H' v l := by
  obtain ⟨a, vs, e, h1, h2⟩ := h
  exact ⟨a, vs, e, s _ _ h1, paired_imp (fun _ _ q => q.tps (same_tps s)) h2⟩
def wap (l : List Nat) : List (Key × V) := l.map fun (k : Nat) => ((.inl (k : Int) : Key), V.bl true)
theorem wap_val (k : Nat) : ∀ l : List Nat, (valV (wap l) (.inl (k : Int))).isSome = decide (k ∈ l)
  | [] => rfl
  | p :: r => by
    by_cases e : p = k
    · rw [show valV (wap (p :: r)) (.inl (k : Int)) = some (.bl true) from valV_pos (by rw [e])]
      simp [e]
    · rw [show valV (wap (p :: r)) (.inl (k : Int)) = valV (wap r) (.inl (k : Int)) from valV_neg (fun z => e (by have := Sum.inl.inj z; omega)), wap_val k r]
      simp [Ne.symm e, fun z : k = p => e z.symm]
theorem wap_put (l : List Nat) (k : Nat) : putK (wap l) (.inl (k : Int)) (.bl true) = wap (K95.addKey l k) := by
  have e : ((wap l).any fun kv => decide (kv.1 = (.inl (k : Int) : Key))) = decide (k ∈ l) := by
    rw [Bool.eq_iff_iff, List.any_eq_true, decide_eq_true_eq]
    constructor
    · rintro ⟨x, hx, h⟩
      obtain ⟨p, hp, rfl⟩ := List.mem_map.mp hx
      have := Sum.inl.inj (of_decide_eq_true h)
      rwa [show p = k by omega] at hp
    · intro h
      exact ⟨_, List.mem_map.mpr ⟨k, h, rfl⟩, decide_eq_true rfl⟩
  unfold putK K95.addKey
  rw [e]
  by_cases h : k ∈ l
  · rw [decide_eq_true h, if_pos rfl, if_pos h]
    unfold wap
    rw [List.map_map]
    apply List.map_congr_left
    intro p _
    show (if (Sum.inl (p : Int) : Key) = .inl (k : Int) then ((.inl (p : Int) : Key), V.bl true) else (.inl (p : Int), .bl true)) = (.inl (p : Int), .bl true)
    rw [ite_self]
  · rw [decide_eq_false h, if_neg (by simp), if_neg h]
    unfold wap
    rw [List.map_append]
    rfl
theorem keys_le {l : List Nat} {n : Nat} (nd : l.Nodup) (h : ∀ k ∈ l, k ≤ n) : l.length ≤ n + 1 := by
  have := List.Nodup.length_le_of_subset nd (l₂ := List.range (n + 1)) fun k hk => List.mem_range.mpr (Nat.lt_succ_of_le (h k hk))
  rwa [List.length_range] at this
theorem order_nd {s : K95.Cl} {last : Nat} : (K95.orderOf s.lines last).Nodup := List.Pairwise.imp (fun {a b} (h : a < b) => Nat.ne_of_lt h) K95.order_sorted
theorem idx_at {l : List Nat} (nd : l.Nodup) {n k : Nat} (h : l[n]? = some k) : l.idxOf k = n := by
  have h1 := K95.get_idxOf (List.mem_of_getElem? h)
  exact (List.getElem?_inj (K95.lt_of_get h1) nd).mp (h1.trans h.symm)
theorem sorted_order {B : K95.Br} {s : K95.Cl} {last : Nat} (g : K95.Good B s) {ys : List Int} (hp : ys.Perm ((K95.wanted s.lines last).map fun (k : Nat) => (k : Int))) (hs : ys.Pairwise (· ≤ ·)) : ys = (K95.orderOf s.lines last).map fun (k : Nat) => (k : Int) := by
  have nw : (K95.wanted s.lines last).Nodup := K95.wantL_nodup _ _ _ (by simp)
  have p1 : (K95.wanted s.lines last).Perm (K95.orderOf s.lines last) := (List.perm_ext_iff_of_nodup nw order_nd).mpr fun k => (K95.mem_order g).symm
  refine List.Perm.eq_of_pairwise (le := (· ≤ ·)) (fun a b _ _ h1 h2 => Int.le_antisymm h1 h2) hs ?_ (hp.trans (p1.map _))
  rw [List.pairwise_map]
  exact List.Pairwise.imp (fun {a b} (h : a < b) => by omega) K95.order_sorted
def spUp : Sp := fun vs H Q _ => ∃ (v : V) (last : Nat) (B : K95.Br) (s : K95.Cl) (z : K95.Ln), vs = [v, .int last] ∧ LnsV H v s.lines ∧ K95.Good B s ∧ s.lines.length ≤ 20000 ∧ s.lines[last]? = some z ∧ ∀ v' H', Same H H' → LnsV H' v' (K95.upTo s.lines last) → Q v' H'
abbrev N_lines_up_to : List Str := ["lines", "last", "wanted", "k", "number", "order", "places", "at"]
theorem sc_lines_up_to : FnScope N_lines_up_to ["lines", "last"] (defScope (top 18)) := ⟨rfl, rfl, rfl, by decide +kernel, rfl, by decide +kernel, by decide +kernel⟩
-- slots: lines 0, last 1, wanted 2, k 3, number 4, order 5, places 6, at 7
set_option maxHeartbeats 8000000 in
theorem k_lines_up_to (A : At K mg "lines_up_to" (top 18) ["lines", "last"] f fd) (bi : Bi mg) (D_lines_in : Def P w K mg base "lines_in" 1 ["line"] spLI) (D_renumbered : Def P w K mg base "renumbered" 2 ["line", "places"] spRen) :
    Def P w K mg base "lines_up_to" 3 ["lines", "last"] spUp := by
  refine A.ok sc_lines_up_to (fun vs H Q E h => ?_) (fun cdv A outer s H vs Q E hr h => ?_)
  · obtain ⟨v, last, B, s, z, rfl, _⟩ := h
    rfl
  obtain ⟨v, last, B, s, z, rfl, ⟨al, vs, rfl, hal, hls⟩, g, ll, hz, q⟩ := h
  have hu := hu_of hr
  have D_lines_in := D_lines_in.mono (j := 2) (by decide)
  have lz := K95.lt_of_get hz
  refine ⟨_, (pss_cons (ps_set (i := 2) sc_lines_up_to.nd rfl (.inl rfl) (pe_disp (pps_cons (pv 1) pe_bl pps_nil) (by rfl) (by rfl) (fun z => by cases z) (by decide)))
    (pss_cons (ps_for PassesOwn.never rfl (pi_range3 (by rfl) bi.range (pa_cons (pv 1) (pa_cons (pe_un un_neg pe_int) (pa_cons (pe_un un_neg pe_int) pa_nil)))) (pg_name (i := 3) sc_lines_up_to.nd rfl (.inl rfl))
      (pss_one (ps_if (pt_cmp (pc_din hu (pv 3) (pv 2)))
        (pss_one (ps_for PassesOwn.never rfl (pi_tup (pe_d D_lines_in hr (by rfl) (pa_cons (pe_ix ix_list (pv 0) (pv 3) (fun _ _ => rfl)) pa_nil))) (pg_name (i := 4) sc_lines_up_to.nd rfl (.inl rfl))
          (pss_one (ps_dput hu (pv 2) (pv 4) pe_bl rfl))))
        pss_nil)))
    (pss_cons (ps_set (i := 5) sc_lines_up_to.nd rfl (.inl rfl) (pe_callB (cr_sortedDK rfl) (by rfl) bi.sorted (by decide +kernel) (pa_cons (pv 2) pa_nil)))
    (pss_cons (ps_set (i := 6) sc_lines_up_to.nd rfl (.inr rfl) (pe_dc (own := [("at", 7), ("k", 3)]) (g := gTup K 2 (gCons (gName 7) (gCons (gName 3) gNil))) rfl sc_lines_up_to.nd (pi_enum (by rfl) bi.enumerate (pa_cons (pv 5) pa_nil)) (blkOk_by (own := [("at", 7), ("k", 3)]) (N := N_lines_up_to) (sc := defScope (top 18)) (by decide +kernel)) (fun _ _ _ _ _ => (pg_tup rfl (pgs_cons (pg_name (i := 7) sc_lines_up_to.nd rfl (.inl rfl)) (pgs_cons (pg_name (i := 3) sc_lines_up_to.nd rfl (.inl rfl)) pgs_nil)))) (fun _ _ _ _ _ => pts_nil) (fun _ _ _ _ _ => (pv 3)) (fun _ _ _ _ _ => (pv 7))))
    (pss_one (ps_ret (pe_lc (own := [("k", 3)]) (g := gName 3) rfl sc_lines_up_to.nd (pi_list (pv 5)) (blkOk_by (own := [("k", 3)]) (N := N_lines_up_to) (sc := defScope (top 18)) (by decide +kernel)) (fun _ _ _ _ _ => (pg_name (i := 3) sc_lines_up_to.nd rfl (.inl rfl))) (fun _ _ _ _ _ => pts_nil) (fun _ _ _ _ _ => (pe_d D_renumbered hr (by rfl) (pa_cons (pe_ix (ixlK K) (pv 0) (pv 3) (fun _ _ => rfl)) (pa_cons (pv 6) pa_nil))))))))))), ?_⟩
  walk_at "rd"
  intro Wd nW
  refine ⟨_, rfl, ?_⟩
  refine ⟨upd_same, [((.inl (last : Int) : Key), .bl true)], rfl, Nat.le_of_ble_eq_true rfl, ?_⟩
  have hW : (upd (upd H Wd (.dK [])) Wd (.dK (mergeK [] [((.inl (last : Int) : Key), .bl true)]))) Wd = some (.dK (wap [last])) := by rw [upd_same]; rfl
  have s1 : Same H (upd (upd H Wd (.dK [])) Wd (.dK (mergeK [] [((.inl (last : Int) : Key), .bl true)]))) := same_upd0 (same_new nW) nW
  generalize upd (upd H Wd (.dK [])) Wd (.dK (mergeK [] [((.inl (last : Int) : Key), .bl true)])) = H1 at hW s1
  walk_at "rd"
  refine ⟨(last : Int), -1, -1, ((last : Int) - (-1)).toNat, rfl, RgC.neg (i62' (by omega) (by omega)).1 (i62' (by omega) (by omega)).2 (i62' (by omega) (by omega)).1 (i62' (by omega) (by omega)).2, ?_⟩
  rw [show ((last : Int) - (-1)).toNat = last + 1 by omega]
  have dlt := fun k x hx d hd => (K95.deps_lt g k x hx d hd).1
  refine for_it walk_rangeC (fun i σ H' => ∃ y3 y4 wl, σ = [some (.ref al), some (.int last), some (.ref Wd), y3, y4, none, none, none] ∧ Same H H' ∧ H' Wd = some (.dK (wap wl)) ∧ wl.Nodup ∧ (∀ k ∈ wl, k ≤ last) ∧ K95.wantL s.lines (last + 1 - i) wl = K95.wanted s.lines last)
    ⟨none, none, [last], rfl, s1, hW, by simp, fun k h => by rw [List.mem_singleton] at h; omega, rfl⟩ (fun _ _ _ _ _ => trivial) (fun i v σ H2 H2' hi ⟨y3, y4, wl, eσ, s2, hW2, nd, le, ew⟩ hy => ?_) (fun σ H2 ⟨y3, y4, wl, eσ, s2, hW2, nd, le, ew⟩ => ?_)
  · subst eσ
    obtain ⟨rfl, rfl⟩ := hy
    obtain ⟨n, hn⟩ : ∃ n, last + 1 - i = n + 1 := ⟨last - i, by omega⟩
    have en : (last : Int) + (i : Nat) * (-1) = ((n : Nat) : Int) := by omega
    have en1 : last + 1 - (i + 1) = n := by omega
    rw [hn] at ew
    show gName 3 (V.int ((last : Int) + (i : Nat) * (-1))) _ _ _
    rw [en, en1]
    have lw := keys_le nd le
    obtain ⟨x, hx⟩ : ∃ x, s.lines[n]? = some x := ⟨_, List.getElem?_eq_getElem (by omega)⟩
    have ew : K95.wantL s.lines n (if n ∈ wl then (K95.deps x.r).foldl K95.addKey wl else wl) = K95.wanted s.lines last := by
      rw [← ew]
      show _ = K95.wantL s.lines n (if n ∈ wl then ((s.lines[n]?.map fun x => K95.deps x.r).getD []).foldl K95.addKey wl else wl)
      rw [hx]
      rfl
    walk_at "rd"
    refine ⟨Wd, _, rfl, .inl ⟨_, .inl (n : Int), .inl hW2, rfl, rfl⟩, ?_⟩
    rw [wap_val]
    walk_at "rd"
    refine ite2 (fun c => ?_) (fun c => ?_)
    · rw [if_pos (of_decide_eq_true c)] at ew
      obtain ⟨v, hv, hlv⟩ := paired_get2 n x hls hx
      walk_at "rd"
      refine q_ixL (SqL.of (s2 _ _ hal)) (atN hv) ?_
      walk_at "rd"
      refine ⟨_, x, rfl, hlv.tps (same_tps s2), fun v3 H3 s3 h3 => ?_⟩
      obtain ⟨p3, rfl, h3⟩ := h3
      have ld := dep_len x.r
      refine ⟨p3, rfl, ⟨_, SqT.of h3⟩, ?_⟩
      refine for_it (walk_tup (xs := dpV x.r)) (fun j σ H' => ∃ y4, σ = [some (.ref al), some (.int last), some (.ref Wd), some (.int n), y4, none, none, none] ∧ Same H H' ∧ H' p3 = some (.tup (dpV x.r)) ∧ H' Wd = some (.dK (wap (((K95.deps x.r).take j).foldl K95.addKey wl))))
        ⟨_, rfl, s2.trans s3, h3, s3 _ _ hW2⟩ (fun j σ H' _ ⟨_, _, _, h, _⟩ => SqT.of h) (fun j v σ H4 H4' hj ⟨y4, eσ, s4, h4, hW4⟩ hy => ?_) (fun σ H4 ⟨y4, eσ, s4, h4, hW4⟩ => ?_)
      · subst eσ
        obtain ⟨rfl, hv⟩ := hy
        obtain ⟨d, hd, rfl⟩ := get_map hv
        walk_at "rd"
        have l4 : (((K95.deps x.r).take j).foldl K95.addKey wl).length ≤ last + 1 := keys_le (K95.nodup_addKeys _ _ nd) fun k hk => by
          rcases K95.mem_addKeys _ _ |>.mp hk with h | h
          · exact le k h
          · have := dlt n x hx k (List.mem_of_mem_take h)
            omega
        refine ⟨Wd, _, rfl, .inl ⟨_, .inl (d : Int), hW4, rfl, by unfold wap; rw [List.length_map]; exact size_ok (by omega), rfl⟩, ?_⟩
        refine ⟨_, rfl, same_upd0 s4 nW, ?_, ?_⟩
        · rw [upd_ne (ne_of h4 hW4 (fun z => by cases z))]
          exact h4
        · rw [upd_same, wap_put, take_snoc hd, List.foldl_append]
          rfl
      · subst eσ
        unfold dpV at hW4
        rw [List.length_map, List.take_length] at hW4
        refine ⟨_, _, _, rfl, s4, hW4, K95.nodup_addKeys _ _ nd, fun k hk => ?_, ew⟩
        rcases K95.mem_addKeys _ _ |>.mp hk with h | h
        · exact le k h
        · have := dlt n x hx k h
          omega
    · rw [if_neg (fun z => c (decide_eq_true z))] at ew
      exact ⟨_, _, wl, rfl, s2, hW2, nd, le, ew⟩
  · subst eσ
    rw [Nat.sub_self] at ew
    have ew : wl = K95.wanted s.lines last := ew
    subst ew
    walk_at "rd"
    refine ⟨Wd, _, (K95.wanted s.lines last).map fun (k : Nat) => (k : Int), rfl, .inl hW2, by unfold wap; rw [List.map_map, List.map_map]; rfl, fun ys O hp hs nO => ?_⟩
    have eys := sorted_order g hp hs
    subst eys
    have hO : (upd H2 O (.lst (((K95.orderOf s.lines last).map fun (k : Nat) => (k : Int)).map V.int))) O = some (.lst ((K95.orderOf s.lines last).map nV)) := by
      rw [upd_same, List.map_map]
      rfl
    have s3 := same_new (o := .lst (((K95.orderOf s.lines last).map fun (k : Nat) => (k : Int)).map V.int)) nO
    generalize upd H2 O (.lst (((K95.orderOf s.lines last).map fun (k : Nat) => (k : Int)).map V.int)) = H3 at hO s3
    have s03 := s2.trans s3
    have nd := order_nd (s := s) (last := last)
    have ok := fun k (h : k ∈ K95.orderOf s.lines last) => K95.order_ok g hz h
    have lo : (K95.orderOf s.lines last).length ≤ last + 1 := keys_le nd fun k hk => (ok k hk).1
    have eu : K95.upTo s.lines last = (K95.orderOf s.lines last).map fun k => K95.ren (fun d => (K95.orderOf s.lines last).idxOf d) (s.lines[k]?.getD ⟨false, 0, 0, 0, .bound 0⟩) := rfl
    generalize K95.orderOf s.lines last = od at hO nd ok lo eu
    clear s3 s2 hW2 hp hs
    walk_at "rd"
    refine ⟨O, _, rfl, SqL.of hO, fun D nD => ?_⟩
    refine oc_it (walk_enum (xs := od.map nV)) (fun n H' => Same H3 H' ∧ ∃ kvs, H' D = some (.dK kvs) ∧ kvs.length ≤ n ∧ ∀ k ∈ od.take n, valV kvs (.inl (k : Int)) = some (nV (od.idxOf k)))
      ⟨same_new nD, [], upd_same, Nat.le_refl _, fun k h => by simp at h⟩ (fun n H' _ ⟨s, _⟩ => SqL.of (s _ _ hO)) (fun n v H4 H4' hn ⟨s4, kvs, hD, lk, ak⟩ hy => ?_) (fun H4 ⟨s4, kvs, hD, lk, ak⟩ => ?_)
    · obtain ⟨T, ix, kv, rfl, nT, rfl, hix, hkv⟩ := hy
      cases hix
      obtain ⟨k, hk, rfl⟩ := get_map hkv
      have sT := same_new (o := .tup [.int (n : Nat), nV k]) nT
      have hT : (upd H4 T (.tup [.int (n : Nat), nV k])) T = some (.tup [.int (n : Nat), nV k]) := upd_same
      have hD' := sT _ _ hD
      have s5 := s4.trans sT
      generalize upd H4 T (.tup [.int (n : Nat), nV k]) = H5 at sT hT hD' s5
      rw [List.length_map] at hn
      refine q_gtup (SqT.of hT) rfl ?_
      walk_at "rd"
      refine ⟨rfl, ?_⟩
      walk_at "rd"
      refine iteT ?_
      walk_at "rd"
      refine ⟨kvs, .inl (k : Int), rfl, hD', size_ok (by omega), same_upd0 s5 nD, _, upd_same, Nat.le_trans (len_put _ _ _) (by omega), fun k' h => ?_⟩
      rw [valV_put]
      by_cases e : (Sum.inl (k' : Int) : Key) = .inl (k : Int)
      · have := Sum.inl.inj e
        rw [if_pos e, show k' = k by omega, idx_at nd hk]
      · rw [if_neg e]
        rw [take_snoc hk, List.mem_append] at h
        rcases h with h | h
        · exact ak k' h
        · rw [List.mem_singleton] at h
          rw [h] at e
          exact absurd rfl e
    · rw [List.length_map, List.take_length] at ak
      walk_at "rd"
      have hO4 := s4 _ _ hO
      have s04 := s03.trans s4
      refine ⟨O, rfl, ⟨_, SqL.of hO4⟩, fun E nE => ?_⟩
      refine lc_it (walk_list (xs := od.map nV)) (fun n H' => Same H4 H' ∧ ∃ vs', H' E = some (.lst vs') ∧ Paired (LnV H') vs' ((K95.upTo s.lines last).take n)) ⟨same_new nE, [], upd_same, .nil⟩ (fun n H' _ ⟨s, _⟩ => SqL.of (s _ _ hO4)) (fun n v H6 H6' hn ⟨s6, vs', hE, pE⟩ hy => ?_) (fun H6 ⟨s6, vs', hE, pE⟩ => ?_)
      · obtain ⟨rfl, hv⟩ := hy
        obtain ⟨k, hk, rfl⟩ := get_map hv
        obtain ⟨_, x, hx, hdx⟩ := ok k (List.mem_of_getElem? hk)
        obtain ⟨vl, hvl, hlv⟩ := paired_get2 k x hls hx
        have s06 := s04.trans s6
        rw [List.length_map] at hn
        walk_at "rd"
        refine ⟨rfl, ?_⟩
        walk_at "rd"
        refine iteT ?_
        walk_at "rd"
        refine q_ixL (SqL.of (s06 _ _ hal)) (atN hvl) ?_
        walk_at "rd"
        refine ⟨_, x, D, kvs, fun d => od.idxOf d, rfl, hlv.tps (same_tps s06), s6 _ _ hD, fun d hd => ak d (hdx d hd).2, fun v' H7 s7 hl7 => ?_⟩
        have hu' : (K95.upTo s.lines last)[n]? = some (K95.ren (fun d => od.idxOf d) x) := by
          rw [eu, List.getElem?_map, hk]
          show some (K95.ren _ (s.lines[k]?.getD _)) = _
          rw [hx]
          rfl
        have hE7 := s7 _ _ hE
        have t8 : Tps H7 (upd H7 E (.lst (vs' ++ [v']))) := tps_lst hE7
        have lE := pE.length
        rw [List.length_take] at lE
        refine ⟨vs', hE7, size_ok (by omega), same_upd0 (s6.trans s7) nE, _, upd_same, ?_⟩
        rw [take_snoc hu']
        exact paired_snoc (paired_imp (fun _ _ q => (q.tps (same_tps s7)).tps t8) pE) (hl7.tps t8)
      · rw [List.take_of_length_le (by rw [List.length_map, eu, List.length_map]; exact Nat.le_refl _)] at pE
        walk_at "rd"
        exact q _ _ (s04.trans s6) ⟨E, vs', rfl, hE, pE⟩
end
section
variable {P : Program} {w : World} {K : PySem.W.Frag} {mg : Str → Option Value} {base : Heap} {f C : Addr} {fd : FuncData}
theorem made_same {x dx : Addr} {H H' : Hp} (nx : H x = none) (nd : H dx = none) (s : Off x (upd (upd H dx (.own x)) x (.ins C dx [])) H') : Same H H' := fun b u e => by
  have h1 := ne_of_none e nx
  have h2 := ne_of_none e nd
  exact s b u (by rw [upd_ne h1, upd_ne h2]; exact e) h1
theorem made_same0 {x dx : Addr} {H : Hp} (nx : H x = none) (nd : H dx = none) : Same H (upd (upd H dx (.own x)) x (.ins C dx [])) := fun b u e => by
  rw [upd_ne (ne_of_none e nx), upd_ne (ne_of_none e nd)]
  exact e
def spFind : Sp := fun vs H Q _ => ∃ v B, vs = [v] ∧ IsBr H v B ∧ B.WF ∧ ((K95.fin B).fault = none → ∀ v' H', Same H H' → IsTab B H' v' (K95.fin B).M (K95.fin B).W → v' ≠ .non → Q v' H') ∧ (∀ k, (K95.fin B).fault = some k → ∀ H', Same H H' → Q .non H')
abbrev N_find_table : List Str := ["brief", "closing"]
theorem sc_find_table : FnScope N_find_table ["brief"] (defScope (top 20)) := ⟨rfl, rfl, rfl, by decide +kernel, rfl, by decide +kernel, by decide +kernel⟩
-- slots: brief 0, closing 1
theorem k_find_table (A : At K mg "find_table" (top 20) ["brief"] f fd) (bi : Bi mg) (T : ClT K C) (mk : PySem.W.makesIn K C = true ∧ PySem.W.keepIn K (.ref C) = true) (mgC : mg "Closing" = some (.ref C))
    (D_init : MDef P w K mg base C "__init__" 4 ["self", "brief"] (spInit C)) (D_table : MDef P w K mg base C "table" 2 ["self"] (spTable C)) : Def P w K mg base "find_table" 6 ["brief"] spFind := by
  refine A.ok sc_find_table (fun vs H Q E h => ?_) (fun cdv A outer s H vs Q E hr h => ?_)
  · obtain ⟨v, B, rfl, _⟩ := h
    rfl
  obtain ⟨v, B, rfl, hB, wf, q1, q2⟩ := h
  have D_table := D_table.mono (j := 5) (by decide)
  refine ⟨_, (pss_cons (ps_set (i := 1) sc_find_table.nd rfl (.inl rfl) (pe_mk D_init T mk hr (by rfl) mgC (pa_cons (pv 0) pa_nil)))
    (pss_one (ps_ret (pe_ifExp (pt_cmpR op_isN (pe_fld (pv 1) rfl) pe_non (nomark _)) (pe_m0 D_table T hr (pv 1)) pe_non)))), ?_⟩
  walk_at "rd"
  refine fun x dx nx nd ne => ⟨x, v, B, dx, rfl, upd_same, hB.same (made_same0 nx nd), wf, fun o H' eo c of => ⟨rfl, ?_⟩⟩
  subst eo
  have s1 := made_same nx nd of
  walk_at "rd"
  walk_at "f.fault"
  walk_at "rd"
  refine ⟨rfl, ?_⟩
  walk_at "rd"
  cases hf : (K95.fin B).fault with
  | none =>
    refine iteT ?_
    walk_at "rd"
    refine c.meth no_table ?_
    refine ⟨o, B, _, rfl, c, wf, (K95.fin_is wf).2, hf, fun v' H2 s2 t2 => q1 hf v' H2 (s1.trans s2) t2 ?_⟩
    obtain ⟨_, _, _, _, ⟨_, e, _⟩, _⟩ := t2
    rw [e]
    exact fun z => nomatch z
  | some k =>
    refine iteF ?_
    walk_at "rd"
    exact q2 k hf H' s1
def spPT : Sp := fun vs H Q _ => ∃ v t hs i lo hi, vs = [v, .int i, .int lo, .int hi] ∧ IsSit H v t hs ∧ (∀ e, K95.look hs (2 * i + 2) = some e → ∃ p, K95.look hs (2 * i + 1) = some p) ∧
  ∀ v' H' p, Same H H' → Tu H' v' (pV p) → p = (match K95.look hs (2 * i + 1), K95.look hs (2 * i + 2) with
    | some p, some e => (e - p, e - p)
    | some p, none => (max lo (t + 1 - p), hi)
    | none, _ => (lo, hi)) → Q v' H'
abbrev N_present_times : List Str := ["situation", "task", "low", "high", "moment", "happened", "lasted"]
theorem sc_present_times : FnScope N_present_times ["situation", "task", "low", "high"] (defScope (top 22)) := ⟨rfl, rfl, rfl, by decide +kernel, rfl, by decide +kernel, by decide +kernel⟩
-- slots: situation 0, task 1, low 2, high 3, moment 4, happened 5, lasted 6
theorem k_present_times (A : At K mg "present_times" (top 22) ["situation", "task", "low", "high"] f fd) (bi : Bi mg) (D_begin_of : Def P w K mg base "begin_of" 1 ["task"] (spI fun i => .int (2 * i + 1))) (D_end_of : Def P w K mg base "end_of" 1 ["task"] (spI fun i => .int (2 * i + 2))) :
    Def P w K mg base "present_times" 2 ["situation", "task", "low", "high"] spPT := by
  refine A.ok sc_present_times (fun vs H Q E h => ?_) (fun cdv A outer s H vs Q E hr h => ?_)
  · obtain ⟨v, t, hs, i, lo, hi, rfl, _⟩ := h
    rfl
  obtain ⟨v, t, hs, i, lo, hi, rfl, ⟨d, ⟨sa, rfl, h1⟩, hd⟩, eb, q⟩ := h
  have hu := hu_of hr
  have gb := hget (.inl hd) (2 * i + 1)
  have ge := hget (.inl hd) (2 * i + 2)
  refine ⟨_, (pss_cons (ps_asg (pv 0) (pg_tup rfl (pgs_cons (pg_name (i := 4) sc_present_times.nd rfl (.inl rfl)) (pgs_cons (pg_name (i := 5) sc_present_times.nd rfl (.inl rfl)) pgs_nil))))
    (pss_cons (ps_if (pt_cmp (pc_din hu (pe_d D_end_of hr (by rfl) (pa_cons (pv 1) pa_nil)) (pv 5)))
      (pss_cons (ps_set (i := 6) sc_present_times.nd rfl (.inl rfl) (pe_op op_sub (pe_dget hu (pv 5) (pe_d D_end_of hr (by rfl) (pa_cons (pv 1) pa_nil)) (fun _ _ => rfl)) (pe_dget hu (pv 5) (pe_d D_begin_of hr (by rfl) (pa_cons (pv 1) pa_nil)) (fun _ _ => rfl))))
      (pss_one (ps_ret (pe_tup (pa_cons (pv 6) (pa_cons (pv 6) pa_nil))))))
      pss_nil)
    (pss_cons (ps_if (pt_cmp (pc_din hu (pe_d D_begin_of hr (by rfl) (pa_cons (pv 1) pa_nil)) (pv 5)))
      (pss_one (ps_ret (pe_tup (pa_cons (pe_callB (call_max2 rfl) (by rfl) bi.max (by decide +kernel) (pa_cons (pv 2) (pa_cons (pe_op op_sub (pe_op op_add (pv 4) pe_int) (pe_dget hu (pv 5) (pe_d D_begin_of hr (by rfl) (pa_cons (pv 1) pa_nil)) (fun _ _ => rfl))) pa_nil))) (pa_cons (pv 3) pa_nil)))))
      pss_nil)
    (pss_one (ps_ret (pe_tup (pa_cons (pv 2) (pa_cons (pv 3) pa_nil)))))))), ?_⟩
  walk_at "rd"
  refine q_gtup (SqT.of h1) rfl ?_
  walk_at "rd"
  refine ⟨i, rfl, ?_⟩
  walk_at "rd"
  refine ⟨d, _, rfl, ge, ?_⟩
  rw [Option.isSome_map]
  walk_at "rd"
  cases he : K95.look hs (2 * i + 2) with
  | some e =>
    obtain ⟨p, hp⟩ := eb e he
    rw [he] at ge
    rw [hp] at gb
    refine iteT ?_
    walk_at "rd"
    refine ⟨i, rfl, ?_⟩
    refine ⟨d, _, rfl, ge, ?_⟩
    walk_at "rd"
    refine ⟨i, rfl, ?_⟩
    refine ⟨d, _, rfl, gb, ?_⟩
    walk_at "rd"
    refine ⟨Nat.le_of_ble_eq_true rfl, fun z nz => ?_⟩
    exact q _ _ (e - p, e - p) (same_new nz) Tu.new (by rw [hp, he])
  | none =>
    refine iteF ?_
    walk_at "rd"
    refine ⟨i, rfl, ?_⟩
    walk_at "rd"
    refine ⟨d, _, rfl, gb, ?_⟩
    rw [Option.isSome_map]
    walk_at "rd"
    cases hp : K95.look hs (2 * i + 1) with
    | some p =>
      rw [hp] at gb
      refine iteT ?_
      walk_at "rd"
      refine ⟨i, rfl, ?_⟩
      refine ⟨d, _, rfl, gb, ?_⟩
      walk_at "rd"
      refine ⟨_, _, rfl, ?_⟩
      walk_at "rd"
      refine ⟨Nat.le_of_ble_eq_true rfl, fun z nz => ?_⟩
      rw [max_if]
      exact q _ _ (max lo (t + 1 - p), hi) (same_new nz) Tu.new (by rw [hp, he])
    | none =>
      refine iteF ?_
      walk_at "rd"
      refine ⟨Nat.le_of_ble_eq_true rfl, fun z nz => ?_⟩
      exact q _ _ (lo, hi) (same_new nz) Tu.new (by rw [hp])
def spPB : Sp := fun vs H Q _ => ∃ vb v t B hs, vs = [vb, v] ∧ IsBr H vb B ∧ B.WF ∧ IsSit H v t hs ∧ K95.Sit B t (K95.look hs) ∧ ∀ v' H', Same H H' → IsBr H' v' (K95.present B t (K95.look hs)) → Q v' H'
theorem Tus.same {α : Type} {f : α → List V} {H H' : Hp} {v : V} {ds : List α} (h : Tus f H v ds) (s : Same H H') : Tus f H' v ds := h.tps (same_tps s)
abbrev N_present_brief : List Str := ["brief", "situation", "tasks", "arrows", "limits", "deadline", "moment", "happened", "found", "task", "times", "low", "high"]
theorem sc_present_brief : FnScope N_present_brief ["brief", "situation"] (defScope (top 23)) := ⟨rfl, rfl, rfl, by decide +kernel, rfl, by decide +kernel, by decide +kernel⟩
-- slots: brief 0, situation 1, tasks 2, arrows 3, limits 4, deadline 5, moment 6, happened 7, found 8, task 9, times 10, low 11, high 12
set_option maxHeartbeats 8000000 in
theorem k_present_brief (A : At K mg "present_brief" (top 23) ["brief", "situation"] f fd) (bi : Bi mg) (D_begin_of : Def P w K mg base "begin_of" 1 ["task"] (spI fun i => .int (2 * i + 1))) (D_present_times : Def P w K mg base "present_times" 2 ["situation", "task", "low", "high"] spPT) :
    Def P w K mg base "present_brief" 3 ["brief", "situation"] spPB := by
  refine A.ok sc_present_brief (fun vs H Q E h => ?_) (fun cdv A outer s H vs Q E hr h => ?_)
  · obtain ⟨vb, v, t, B, hs, rfl, _⟩ := h
    rfl
  obtain ⟨vb, v, t, B, hs, rfl, hB, wf, hS, sit, q⟩ := h
  have hS0 := hS
  have hu := hu_of hr
  have D_begin_of := D_begin_of.mono (j := 2) (by decide)
  have m4 := wf.m4
  obtain ⟨vp, vl, ⟨a, rfl, ha⟩, ⟨vt, va, ⟨ap, rfl, hp⟩, ht, hA⟩, hL⟩ := hB
  obtain ⟨ts, ⟨at', rfl, ht1⟩, ht2⟩ := ht
  obtain ⟨ls, ⟨al, rfl, hL1⟩, hL2⟩ := hL
  obtain ⟨d, ⟨sa, rfl, h1⟩, hd⟩ := hS
  have lts : ts.length = B.m := ht2.length
  have lll : ls.length ≤ 20 := by rw [hL2.length]; exact wf.lil
  refine ⟨_, (pss_cons (ps_asg (pv 0) (pg_tup rfl (pgs_cons (pg_tup rfl (pgs_cons (pg_name (i := 2) sc_present_brief.nd rfl (.inl rfl)) (pgs_cons (pg_name (i := 3) sc_present_brief.nd rfl (.inl rfl)) pgs_nil))) (pgs_cons (pg_name (i := 4) sc_present_brief.nd rfl (.inl rfl)) (pgs_cons (pg_name (i := 5) sc_present_brief.nd rfl (.inl rfl)) pgs_nil)))))
    (pss_cons (ps_asg (pv 1) (pg_tup rfl (pgs_cons (pg_name (i := 6) sc_present_brief.nd rfl (.inl rfl)) (pgs_cons (pg_name (i := 7) sc_present_brief.nd rfl (.inl rfl)) pgs_nil))))
    (pss_cons (ps_set (i := 8) sc_present_brief.nd rfl (.inl rfl) (pe_callTy call_list_of (by rfl) bi.list (by decide +kernel) (pa_cons (pv 4) pa_nil)))
    (pss_cons (ps_for PassesOwn.never rfl (pi_range1 (by rfl) bi.range (pa_cons (pe_callB call_len_seq (by rfl) bi.len PySem.boot_len (pa_cons (pv 2) pa_nil)) pa_nil)) (pg_name (i := 9) sc_present_brief.nd rfl (.inl rfl))
      (pss_one (ps_if (pt_cmp (pc_din hu (pe_d D_begin_of hr (by rfl) (pa_cons (pv 9) pa_nil)) (pv 7)))
        (pss_cons (ps_expr (pe_bm PySem.F.plainAttrs_list PySem.F.slot_list_append PySem.F.type_list_append mt_append (pv 8) (pa_cons (pe_tup (pa_cons pe_int (pa_cons (pe_d D_begin_of hr (by rfl) (pa_cons (pv 9) pa_nil)) (pa_cons (pe_dget hu (pv 7) (pe_d D_begin_of hr (by rfl) (pa_cons (pv 9) pa_nil)) (fun _ _ => rfl)) pa_nil)))) pa_nil)))
        (pss_one (ps_expr (pe_bm PySem.F.plainAttrs_list PySem.F.slot_list_append PySem.F.type_list_append mt_append (pv 8) (pa_cons (pe_tup (pa_cons (pe_d D_begin_of hr (by rfl) (pa_cons (pv 9) pa_nil)) (pa_cons pe_int (pa_cons (pe_un un_neg (pe_dget hu (pv 7) (pe_d D_begin_of hr (by rfl) (pa_cons (pv 9) pa_nil)) (fun _ _ => rfl))) pa_nil)))) pa_nil)))))
        (pss_one (ps_expr (pe_bm PySem.F.plainAttrs_list PySem.F.slot_list_append PySem.F.type_list_append mt_append (pv 8) (pa_cons (pe_tup (pa_cons (pe_d D_begin_of hr (by rfl) (pa_cons (pv 9) pa_nil)) (pa_cons pe_int (pa_cons (pe_un un_neg (pe_op op_add (pv 6) pe_int)) pa_nil)))) pa_nil)))))))
    (pss_cons (ps_setLc (i := 10) (own := [("task", 9), ("low", 11), ("high", 12)]) (g := gTup K 2 (gCons (gName 9) (gCons (gTup K 2 (gCons (gName 11) (gCons (gName 12) gNil))) gNil))) rfl sc_present_brief.nd rfl rfl (sw_true rfl rfl rfl (by decide +kernel)) (pi_enumT (by rfl) bi.enumerate (pa_cons (pv 2) pa_nil)) (blkOk_by (own := [("task", 9), ("low", 11), ("high", 12)]) (N := N_present_brief) (sc := defScope (top 23)) (by decide +kernel)) (fun _ _ _ _ _ => (pg_tup rfl (pgs_cons (pg_name (i := 9) sc_present_brief.nd rfl (.inl rfl)) (pgs_cons (pg_tup rfl (pgs_cons (pg_name (i := 11) sc_present_brief.nd rfl (.inl rfl)) (pgs_cons (pg_name (i := 12) sc_present_brief.nd rfl (.inl rfl)) pgs_nil))) pgs_nil)))) (fun _ _ _ _ _ => pts_nil) (fun _ _ _ _ _ => (pe_d D_present_times hr (by rfl) (pa_cons (pv 1) (pa_cons (pv 9) (pa_cons (pv 11) (pa_cons (pv 12) pa_nil)))))))
    (pss_one (ps_ret (pe_tup (pa_cons (pe_tup (pa_cons (pe_callTy call_tuple_of (by rfl) bi.tuple (by decide +kernel) (pa_cons (pv 10) pa_nil)) (pa_cons (pv 3) pa_nil))) (pa_cons (pe_callTy call_tuple_of (by rfl) bi.tuple (by decide +kernel) (pa_cons (pv 8) pa_nil)) (pa_cons (pv 5) pa_nil))))))))))), ?_⟩
  walk_at "rd"
  refine q_gtup (SqT.of ha) rfl ?_
  walk_at "rd"
  refine q_gtup (SqT.of hp) rfl ?_
  walk_at "rd"
  refine q_gtup (SqT.of h1) rfl ?_
  walk_at "rd"
  refine ⟨al, ls, rfl, .inr (SqT.of hL1), fun F nF => ?_⟩
  have r1 : Rows tV (upd H F (.lst ls)) F B.limits := ⟨ls, upd_same, paired_imp (fun _ _ q => q.tps (same_tps (same_new nF))) hL2⟩
  have s1 : Same H (upd H F (.lst ls)) := same_new nF
  generalize upd H F (.lst ls) = H1 at r1 s1
  walk_at "rd"
  refine ⟨at', ts, rfl, .inr (SqT.of (s1 _ _ ht1)), ?_⟩
  walk_at "rd"
  refine ⟨_, rfl, (i62 (by omega)).1, (i62 (by omega)).2, ?_⟩
  have en : ((ts.length : Int)).toNat = B.m := by omega
  rw [en]
  refine for_it walk_r0 (fun n σ H' => ∃ y9, σ = [some (.ref a), some (.ref sa), some (.ref at'), some va, some (.ref al), some (.int B.dl), some (.int t), some (.ref d), some (.ref F), y9, none, none, none] ∧ Same H H' ∧
    Rows tV H' F (B.limits ++ (((K95.itsL B.m).take n).map (K95.nowLims t (K95.look hs))).flatten) ∧ (B.limits ++ (((K95.itsL B.m).take n).map (K95.nowLims t (K95.look hs))).flatten).length ≤ 20 + 2 * n)
    ⟨none, rfl, s1, by rw [List.take_zero, List.map_nil, List.flatten_nil, List.append_nil]; exact r1, by rw [List.take_zero, List.map_nil, List.flatten_nil, List.append_nil, ← hL2.length]; exact lll⟩
    (fun _ _ _ _ _ => trivial) (fun n v σ H2 H2' hn ⟨y9, eσ, s2, r2, l2⟩ hy => ?_) (fun σ H2 ⟨y9, eσ, s2, r2, l2⟩ => ?_)
  · subst eσ
    obtain ⟨rfl, rfl⟩ := hy
    have gb := hget (.inl (s2 _ _ hd)) (2 * (n : Int) + 1)
    have et : B.limits ++ (((K95.itsL B.m).take (n + 1)).map (K95.nowLims t (K95.look hs))).flatten = B.limits ++ (((K95.itsL B.m).take n).map (K95.nowLims t (K95.look hs))).flatten ++ K95.nowLims t (K95.look hs) (n : Int) := by
      rw [take_snoc (ints_take hn), List.map_append, List.flatten_append, List.append_assoc]
      simp
    rw [et]
    generalize B.limits ++ (((K95.itsL B.m).take n).map (K95.nowLims t (K95.look hs))).flatten = base' at r2 l2
    walk_at "rd"
    refine ⟨_, rfl, ?_⟩
    walk_at "rd"
    refine ⟨d, _, rfl, gb, ?_⟩
    rw [Option.isSome_map]
    walk_at "rd"
    cases hp : K95.look hs (2 * (n : Int) + 1) with
    | some p =>
      rw [hp] at gb
      have en : K95.nowLims t (K95.look hs) (n : Int) = [(0, 2 * (n : Int) + 1, p), (2 * (n : Int) + 1, 0, -p)] := by unfold K95.nowLims; rw [hp]
      rw [en]
      refine iteT ?_
      walk_at "rd"
      refine ⟨isL r2.len.choose_spec.1, ?_⟩
      walk_at "rd"
      refine ⟨_, rfl, ?_⟩
      walk_at "rd"
      refine ⟨_, rfl, ?_⟩
      refine ⟨d, _, rfl, gb, ?_⟩
      walk_at "rd"
      refine ⟨Nat.le_of_ble_eq_true rfl, fun z nz => ?_⟩
      obtain ⟨acc, e1, e2, e3, e4⟩ := rows_app s2 nF r2 (same_new nz) (Tu.new (xs := tV (0, 2 * (n : Int) + 1, p)))
      walk_at "rd"
      refine ⟨F, acc, _, rfl, rfl, e1, size_ok (by omega), ?_⟩
      generalize upd _ F (.lst (acc ++ [V.ref z])) = H4 at e3 e4
      walk_at "rd"
      refine ⟨isL e4.len.choose_spec.1, ?_⟩
      walk_at "rd"
      refine ⟨_, rfl, ?_⟩
      walk_at "rd"
      have gb4 := hget (.inl (e3 _ _ hd)) (2 * (n : Int) + 1)
      rw [hp] at gb4
      refine ⟨_, rfl, ?_⟩
      refine ⟨d, _, rfl, gb4, ?_⟩
      walk_at "rd"
      refine ⟨Nat.le_of_ble_eq_true rfl, fun z2 nz2 => ?_⟩
      obtain ⟨acc2, f1, f2, f3, f4⟩ := rows_app e3 nF e4 (same_new nz2) (Tu.new (xs := tV (2 * (n : Int) + 1, 0, -p)))
      rw [List.length_append, List.length_singleton] at f2
      refine ⟨F, acc2, _, rfl, rfl, f1, size_ok (by omega), ?_⟩
      refine ⟨_, rfl, f3, ?_, by rw [List.length_append]; show _ + 2 ≤ _; omega⟩
      rw [List.append_assoc] at f4
      exact f4
    | none =>
      have en : K95.nowLims t (K95.look hs) (n : Int) = [(2 * (n : Int) + 1, 0, -(t + 1))] := by unfold K95.nowLims; rw [hp]
      rw [en]
      refine iteF ?_
      walk_at "rd"
      refine ⟨isL r2.len.choose_spec.1, ?_⟩
      walk_at "rd"
      refine ⟨_, rfl, ?_⟩
      walk_at "rd"
      refine ⟨Nat.le_of_ble_eq_true rfl, fun z nz => ?_⟩
      obtain ⟨acc, e1, e2, e3, e4⟩ := rows_app s2 nF r2 (same_new nz) (Tu.new (xs := tV (2 * (n : Int) + 1, 0, -(t + 1))))
      walk_at "rd"
      refine ⟨F, acc, _, rfl, rfl, e1, size_ok (by omega), ?_⟩
      exact ⟨_, rfl, e3, e4, by rw [List.length_append, List.length_singleton]; omega⟩
  · subst eσ
    rw [List.take_of_length_le (by rw [K95.ints_len]; exact Nat.le_refl _)] at r2
    walk_at "rd"
    refine ⟨at', ts, rfl, SqT.of (s2 _ _ ht1), fun D nD => ?_⟩
    refine lc_it (walk_enumT (zs := ts)) (fun n H' => Same H2 H' ∧ Rows pV H' D (((K95.itsL B.m).take n).map (K95.left B t (K95.look hs)))) ⟨same_new nD, Rows.nil D⟩ (fun n H' _ ⟨s, _⟩ => s _ _ (s2 _ _ ht1)) (fun n v H3 H3' hn ⟨s3, r3⟩ hy => ?_) (fun H3 ⟨s3, r3⟩ => ?_)
    · obtain ⟨Z, ix, z, rfl, nZ, rfl, hix, hz⟩ := hy
      cases hix
      obtain ⟨p, hp1, az, rfl, haz⟩ := paired_get n z ht2 hz
      obtain ⟨elo, ehi⟩ := lo_at hp1
      have sZ := same_new (o := .tup [.int (n : Nat), .ref az]) nZ
      have hZ : (upd H3 Z (.tup [.int (n : Nat), .ref az])) Z = some (.tup [.int (n : Nat), .ref az]) := upd_same
      generalize upd H3 Z (.tup [.int (n : Nat), .ref az]) = H4 at sZ hZ
      have s4 := s3.trans sZ
      have s04 := s2.trans s4
      refine q_gtup (SqT.of hZ) rfl ?_
      walk_at "rd"
      refine q_gtup (SqT.of (s04 _ _ haz)) rfl ?_
      walk_at "rd"
      refine ⟨rfl, ?_⟩
      walk_at "rd"
      refine iteT ?_
      walk_at "rd"
      have tkn : B.Tk (n : Int) := by unfold K95.Br.Tk; omega
      refine ⟨_, t, hs, (n : Int), p.1, p.2, rfl, hS0.same s04, fun e he => ?_, fun v' H5 pr s5 h5 epr => ?_⟩
      · obtain ⟨p', hp', _⟩ := sit.dur _ e tkn he
        exact ⟨p', hp'⟩
      · have el : K95.left B t (K95.look hs) (n : Int) = pr := by
          rw [epr]
          unfold K95.left
          rw [elo, ehi]
          all_goals rfl
        obtain ⟨acc, e1, e2, e3, e4⟩ := rows_app s4 nD (r3.same sZ) s5 h5
        refine ⟨acc, e1, size_ok (by rw [e2, List.length_map, List.length_take]; omega), e3, ?_⟩
        rw [take_snoc (ints_take (by omega)), List.map_append]
        show Rows pV _ D (_ ++ [K95.left B t (K95.look hs) (n : Int)])
        rw [el]
        exact e4
    · rw [List.take_of_length_le (by rw [K95.ints_len]; omega)] at r3
      have s03 := s2.trans s3
      obtain ⟨xs, hD, pD⟩ := r3
      obtain ⟨ys, hF, pF⟩ := r2.same s3
      walk_at "rd"
      refine ⟨D, xs, rfl, .inl ⟨SqL.of hD, fun p1 np1 => ?_⟩⟩
      have s4 := same_new (o := .tup xs) np1
      have hp1 : (upd H3 p1 (.tup xs)) p1 = some (.tup xs) := upd_same
      have hF4 := s4 _ _ hF
      generalize upd H3 p1 (.tup xs) = H4 at s4 hp1 hF4
      walk_at "rd"
      refine ⟨Nat.le_of_ble_eq_true rfl, fun p2 np2 => ?_⟩
      have s5 := same_new (o := .tup [.ref p1, va]) np2
      have hp2 : (upd H4 p2 (.tup [.ref p1, va])) p2 = some (.tup [.ref p1, va]) := upd_same
      have hF5 := s5 _ _ hF4
      have hp1 := s5 _ _ hp1
      generalize upd H4 p2 (.tup [.ref p1, va]) = H5 at s5 hp2 hF5 hp1
      walk_at "rd"
      refine ⟨F, ys, rfl, .inl ⟨SqL.of hF5, fun p3 np3 => ?_⟩⟩
      have s6 := same_new (o := .tup ys) np3
      have hp3 : (upd H5 p3 (.tup ys)) p3 = some (.tup ys) := upd_same
      have hp1 := s6 _ _ hp1
      have hp2 := s6 _ _ hp2
      generalize upd H5 p3 (.tup ys) = H6 at s6 hp3 hp1 hp2
      walk_at "rd"
      refine ⟨Nat.le_of_ble_eq_true rfl, fun p4 np4 => ?_⟩
      have s7 := same_new (o := .tup [.ref p2, .ref p3, .int B.dl]) np4
      have s37 := s4.trans (s5.trans (s6.trans s7))
      have t37 := same_tps s37
      refine q _ _ (s03.trans s37) ⟨.ref p2, .ref p3, Tu.new, ⟨.ref p1, va, ⟨p2, rfl, s7 _ _ hp2⟩, ⟨xs, ⟨p1, rfl, s7 _ _ hp1⟩, paired_imp (fun _ _ z => z.tps t37) pD⟩, hA.same (s03.trans s37)⟩, ⟨ys, ⟨p3, rfl, s7 _ _ hp3⟩, paired_imp (fun _ _ z => z.tps t37) pF⟩⟩
end
section
variable {P : Program} {w : World} {K : PySem.W.Frag} {mg : Str → Option Value} {base : Heap} {f C : Addr} {fd : FuncData}
def spGo : Sp := fun vs H Q _ => ∃ vb v t B M W hs, vs = [vb, v] ∧ IsBr H vb B ∧ B.WF ∧ K95.Closed B M W ∧ IsSit H v t hs ∧ K95.Sit B t (K95.look hs) ∧ K95.Stay B M W t (K95.look hs) ∧ B.limits.length ≤ 12 ∧ t ≤ 98 ∧ ∀ H', Same H H' → Q (.bl true) H'
abbrev N_can_go_on : List Str := ["brief", "situation"]
theorem sc_can_go_on : FnScope N_can_go_on ["brief", "situation"] (defScope (top 24)) := ⟨rfl, rfl, rfl, by decide +kernel, rfl, by decide +kernel, by decide +kernel⟩
-- slots: brief 0, situation 1
theorem k_can_go_on (A : At K mg "can_go_on" (top 24) ["brief", "situation"] f fd) (D_find_table : Def P w K mg base "find_table" 6 ["brief"] spFind) (D_present_brief : Def P w K mg base "present_brief" 3 ["brief", "situation"] spPB) : Def P w K mg base "can_go_on" 7 ["brief", "situation"] spGo := by
  refine A.ok sc_can_go_on (fun vs H Q E h => ?_) (fun cdv A outer s H vs Q E hr h => ?_)
  · obtain ⟨vb, v, t, B, M, W, hs, rfl, _⟩ := h
    rfl
  obtain ⟨vb, v, t, B, M, W, hs, rfl, hB, wf, cl, hS, sit, st, l12, t98, q⟩ := h
  have D_present_brief := D_present_brief.mono (j := 6) (by decide)
  refine ⟨_, (pss_one (ps_ret (pe_cmpR op_notN (pe_d D_find_table hr (by rfl) (pa_cons (pe_d D_present_brief hr (by rfl) (pa_cons (pv 0) (pa_cons (pv 1) pa_nil))) pa_nil)) pe_non (nomark _)))), ?_⟩
  walk_at "rd"
  refine ⟨_, _, t, B, hs, rfl, hB, wf, hS, sit, fun v' H1 s1 h1 => ?_⟩
  have wf' := K95.present_wf wf sit l12 t98
  obtain ⟨M', W', cl'⟩ := K95.present_closed wf cl sit st
  have nf := K95.no_fault wf' cl' (K95.fin_is wf').2.good
  walk_at "rd"
  refine ⟨_, _, rfl, h1, wf', fun _ v2 H2 s2 _ ne => ?_, fun k hk => ?_⟩
  · walk_at "rd"
    any_goals (first | exact V.non | skip)
    rw [decide_eq_false ne]
    exact q _ (s1.trans s2)
  · rw [nf] at hk
    cases hk
def spFair : Sp := fun vs H Q _ => ∃ vb v t B hs, vs = [vb, v] ∧ IsBr H vb B ∧ B.WF ∧ IsSit H v t hs ∧ K95.Sit B t (K95.look hs) ∧ hs.length ≤ 100 ∧ ∀ (r : Bool) H', (r = true ↔ (K95.fin B).fault = none ∧ K95.Stay B (K95.fin B).M (K95.fin B).W t (K95.look hs)) → Same H H' → Q (.bl r) H'
abbrev N_is_fair : List Str := ["brief", "situation", "table"]
theorem sc_is_fair : FnScope N_is_fair ["brief", "situation"] (defScope (top 25)) := ⟨rfl, rfl, rfl, by decide +kernel, rfl, by decide +kernel, by decide +kernel⟩
-- slots: brief 0, situation 1, table 2
theorem k_is_fair (A : At K mg "is_fair" (top 25) ["brief", "situation"] f fd) (D_find_table : Def P w K mg base "find_table" 6 ["brief"] spFind) (D_stays : Def P w K mg base "stays" 3 ["brief", "table", "situation"] spStay) : Def P w K mg base "is_fair" 7 ["brief", "situation"] spFair := by
  refine A.ok sc_is_fair (fun vs H Q E h => ?_) (fun cdv A outer s H vs Q E hr h => ?_)
  · obtain ⟨vb, v, t, B, hs, rfl, _⟩ := h
    rfl
  obtain ⟨vb, v, t, B, hs, rfl, hB, wf, hS, sit, lh, q⟩ := h
  have D_stays := D_stays.mono (j := 6) (by decide)
  refine ⟨_, (pss_cons (ps_set (i := 2) sc_is_fair.nd rfl (.inl rfl) (pe_d D_find_table hr (by rfl) (pa_cons (pv 0) pa_nil)))
    (pss_one (ps_ret (pe_and (pe_cmpR op_notN (pv 2) pe_non (nomark _)) (pe_one (pe_d D_stays hr (by rfl) (pa_cons (pv 0) (pa_cons (pv 2) (pa_cons (pv 1) pa_nil))))))))), ?_⟩
  walk_at "rd"
  refine ⟨_, _, rfl, hB, wf, fun hf v2 H2 s2 t2 ne => ?_, fun k hk H2 s2 => ?_⟩
  · walk_at "rd"
    refine ⟨rfl, ?_⟩
    rw [decide_eq_false ne]
    walk_at "rd"
    refine iteT ?_
    walk_at "rd"
    exact ⟨_, _, _, t, B, _, _, hs, rfl, hB.same s2, wf, K95.closed_of wf (K95.fin_is wf).2 hf, t2, hS.same s2, sit, lh, fun r H' hr' s3 => q r H' (by rw [hr']; exact ⟨fun h => ⟨hf, h⟩, fun h => h.2⟩) (s2.trans s3)⟩
  · walk_at "rd"
    refine ⟨rfl, ?_⟩
    walk_at "rd"
    refine iteF ?_
    exact q false H2 ⟨(fun z => nomatch z), fun z => by rw [hk] at z; cases z.1⟩ s2
def spBrk : Sp := fun vs H Q _ => ∃ v vl t hs x, vs = [v, vl] ∧ IsSit H v t hs ∧ LnV H vl x ∧ ∀ (r : Bool) H', (r = true ↔ K95.Brk t (K95.look hs) x) → Same H H' → Q (.bl r) H'
theorem brk_most {t : Int} {T : Int → Option Int} {x : K95.Ln} (h : x.wt = false) : K95.Brk t T x ↔ (x.a = x.b ∧ x.w < 0) ∨ ∃ p, T x.a = some p ∧ x.w < K95.hat t T x.b - p := by
  unfold K95.Brk
  rw [if_pos h]
theorem brk_wait {t : Int} {T : Int → Option Int} {x : K95.Ln} (h : x.wt = true) : K95.Brk t T x ↔ ∃ p, T x.b = some p ∧ p < K95.hat t T (2 * x.a + 2) ∧ p - K95.hat t T (2 * x.a + 1) < x.w := by
  unfold K95.Brk
  rw [if_neg (by rw [h]; simp)]
abbrev N_breaks : List Str := ["situation", "line", "moment", "happened", "kind", "one", "event", "w", "there"]
theorem sc_breaks : FnScope N_breaks ["situation", "line"] (defScope (top 26)) := ⟨rfl, rfl, rfl, by decide +kernel, rfl, by decide +kernel, by decide +kernel⟩
-- slots: situation 0, line 1, moment 2, happened 3, kind 4, one 5, event 6, w 7, there 8
set_option maxHeartbeats 8000000 in
theorem k_breaks (A : At K mg "breaks" (top 26) ["situation", "line"] f fd) (D_begin_of : Def P w K mg base "begin_of" 1 ["task"] (spI fun i => .int (2 * i + 1))) (D_end_of : Def P w K mg base "end_of" 1 ["task"] (spI fun i => .int (2 * i + 2))) : Def P w K mg base "breaks" 2 ["situation", "line"] spBrk := by
  refine A.ok sc_breaks (fun vs H Q E h => ?_) (fun cdv A outer s H vs Q E hr h => ?_)
  · obtain ⟨v, vl, t, hs, x, rfl, _⟩ := h
    rfl
  obtain ⟨v, vl, t, hs, x, rfl, ⟨d, ⟨sa, rfl, h1⟩, hd⟩, ⟨rr, ⟨la, rfl, hla⟩, _⟩, q⟩ := h
  have hu := hu_of hr
  refine ⟨_, (pss_cons (ps_asg (pv 0) (pg_tup rfl (pgs_cons (pg_name (i := 2) sc_breaks.nd rfl (.inl rfl)) (pgs_cons (pg_name (i := 3) sc_breaks.nd rfl (.inl rfl)) pgs_nil))))
    (pss_cons (ps_asg (pe_slice sl_tupA (pv 1) po_none (po_some pe_int)) (pg_tup rfl (pgs_cons (pg_name (i := 4) sc_breaks.nd rfl (.inl rfl)) (pgs_cons (pg_name (i := 5) sc_breaks.nd rfl (.inl rfl)) (pgs_cons (pg_name (i := 6) sc_breaks.nd rfl (.inl rfl)) (pgs_cons (pg_name (i := 7) sc_breaks.nd rfl (.inl rfl)) pgs_nil))))))
    (pss_cons (ps_set (i := 8) sc_breaks.nd rfl (.inl rfl) (pe_dget2 hu (pv 3) (pv 6) (pe_op op_add (pv 2) pe_int) ⟨rfl, rfl, rfl, rfl⟩))
    (pss_cons (ps_if (pt_cmpR op_eq (pv 4) pe_str (nomark _))
      (pss_one (ps_ret (pe_or (pe_and (pe_cmpR op_eq (pv 5) (pv 6) (nomark _)) (pe_one (pe_cmpR op_lt (pv 7) pe_int (nomark _)))) (pe_one (pe_and (pe_cmp (pc_din hu (pv 5) (pv 3)) rfl) (pe_one (pe_cmpR op_gt (pe_op op_sub (pv 8) (pe_dget hu (pv 3) (pv 5) (fun _ _ => rfl))) (pv 7) (nomark _))))))))
      pss_nil)
    (pss_cons (ps_if (PW.pt (pw_or (pt_cmp (pc_dnotin hu (pv 6) (pv 3))) (pw_or1 (pt_cmpR op_ge (pv 8) (pe_dget2 hu (pv 3) (pe_d D_end_of hr (by rfl) (pa_cons (pv 5) pa_nil)) (pe_op op_add (pv 2) pe_int) ⟨rfl, rfl, rfl, rfl⟩) (nomark _)))))
      (pss_one (ps_ret pe_bl))
      pss_nil)
    (pss_one (ps_ret (pe_cmpR op_lt (pe_op op_sub (pv 8) (pe_dget2 hu (pv 3) (pe_d D_begin_of hr (by rfl) (pa_cons (pv 5) pa_nil)) (pe_op op_add (pv 2) pe_int) ⟨rfl, rfl, rfl, rfl⟩)) (pv 7) (nomark _))))))))), ?_⟩
  walk_at "rd"
  refine q_gtup (SqT.of h1) rfl ?_
  walk_at "rd"
  refine ⟨la, _, rfl, SqT.of hla, fun h => absurd h (sl4 _ _ _ _ _), fun _ z nz => ?_⟩
  have s1 := same_new (o := .tup (cutV [kiV x.wt, .int x.a, .int x.b, .int x.w, rr] none (some 4))) nz
  have hz : (upd H z (.tup (cutV [kiV x.wt, .int x.a, .int x.b, .int x.w, rr] none (some 4)))) z = some (.tup [kiV x.wt, .int x.a, .int x.b, .int x.w]) := upd_same
  generalize upd H z (.tup (cutV [kiV x.wt, .int x.a, .int x.b, .int x.w, rr] none (some 4))) = H1 at s1 hz
  have hd1 := s1 _ _ hd
  refine q_gtup (SqT.of hz) rfl ?_
  walk_at "rd"
  refine ⟨d, rfl, .inl ⟨_, .inl hd1⟩, ?_⟩
  walk_at "rd"
  refine ⟨_, hget (.inl hd1) x.b, ?_⟩
  rw [hat_get]
  walk_at "rd"
  cases hw : x.wt with
  | false =>
    refine ⟨rfl, ?_⟩
    rw [show decide (kiV false = V.str "most") = true by decide +kernel]
    walk_at "rd"
    refine iteT ?_
    walk_at "rd"
    have qq : ∀ r : Bool, r = ((decide (x.a = x.b) && decide (x.w < 0)) || ((K95.look hs x.a).isSome && decide (x.w < K95.hat t (K95.look hs) x.b - (K95.look hs x.a).getD 0))) → Q (.bl r) H1 := fun r er => q r H1 (by
      rw [er, brk_most hw, Bool.or_eq_true, Bool.and_eq_true, Bool.and_eq_true, decide_eq_true_eq, decide_eq_true_eq, decide_eq_true_eq]
      constructor
      · rintro (h | ⟨h2, h3⟩)
        · exact .inl h
        · obtain ⟨p, hp⟩ := Option.isSome_iff_exists.mp h2
          rw [hp] at h3
          exact .inr ⟨p, hp, h3⟩
      · rintro (h | ⟨p, hp, h⟩)
        · exact .inl h
        · rw [hp]
          exact .inr ⟨rfl, h⟩) s1
    have g0 := hget (.inl hd1) x.a
    have tail : (∃ b : Bool, V.bl ((decide (x.a = x.b) && decide (x.w < 0))) = V.bl b ∧ True) := ⟨_, rfl, trivial⟩
    have second : (decide (x.a = x.b) && decide (x.w < 0)) = false → ∀ (R : VK), (∀ r : Bool, r = ((K95.look hs x.a).isSome && decide (x.w < K95.hat t (K95.look hs) x.b - (K95.look hs x.a).getD 0)) → R (.bl r) H1) → R = Q → True := fun _ _ _ _ => trivial
    clear tail second
    refine ite2 (fun c1 => ?_) (fun c1 => ?_)
    · walk_at "rd"
      refine ite2 (fun c2 => ?_) (fun c2 => ?_)
      · exact qq _ (by rw [c1, c2]; simp)
      · walk_at "rd"
        refine ⟨d, _, rfl, g0, ?_⟩
        rw [Option.isSome_map]
        walk_at "rd"
        cases hp : K95.look hs x.a with
        | none =>
          refine iteF ?_
          exact qq _ (by rw [hp, eq_false_of_ne_true c2]; simp)
        | some p =>
          rw [hp] at g0
          refine iteT ?_
          walk_at "rd"
          refine ⟨d, _, rfl, g0, ?_⟩
          walk_at "rd"
          exact qq _ (by rw [hp, eq_false_of_ne_true c2]; simp)
    · walk_at "rd"
      refine iteF ?_
      walk_at "rd"
      refine ⟨d, _, rfl, g0, ?_⟩
      rw [Option.isSome_map]
      walk_at "rd"
      cases hp : K95.look hs x.a with
      | none =>
        refine iteF ?_
        exact qq _ (by rw [hp, eq_false_of_ne_true c1]; simp)
      | some p =>
        rw [hp] at g0
        refine iteT ?_
        walk_at "rd"
        refine ⟨d, _, rfl, g0, ?_⟩
        walk_at "rd"
        exact qq _ (by rw [hp, eq_false_of_ne_true c1]; simp)
  | true =>
    refine ⟨rfl, ?_⟩
    rw [show decide (kiV true = V.str "most") = false by decide +kernel]
    walk_at "rd"
    refine iteF ?_
    have g0 := hget (.inl hd1) x.b
    have g1 := hget (.inl hd1) (2 * x.a + 1)
    have g2 := hget (.inl hd1) (2 * x.a + 2)
    walk_at "rd"
    refine useT (c := !(K95.look hs x.b).isSome || decide (K95.hat t (K95.look hs) (2 * x.a + 2) ≤ K95.hat t (K95.look hs) x.b)) (tst_or (fun Qb q => ?_) fun _ => (fun Qb q => ?_)) ?_
    · walk_at "rd"
      refine ⟨d, _, rfl, g0, ?_⟩
      rw [Option.isSome_map]
      walk_at "rd"
      exact q
    · walk_at "rd"
      refine ⟨d, rfl, .inl ⟨_, .inl hd1⟩, ?_⟩
      walk_at "rd"
      refine ⟨_, rfl, ?_⟩
      walk_at "rd"
      refine ⟨_, g2, ?_⟩
      rw [hat_get]
      walk_at "rd"
      exact q
    refine ite2 (fun c => ?_) (fun c => ?_)
    · walk_at "rd"
      refine q false _ ⟨(fun z => nomatch z), fun z => ?_⟩ s1
      rw [brk_wait hw] at z
      obtain ⟨p, hp, l1, l2⟩ := z
      rw [hp, K95.hat_some hp] at c
      have : K95.hat t (K95.look hs) (2 * x.a + 2) ≤ p := by simpa using c
      omega
    · walk_at "rd"
      refine ⟨d, rfl, .inl ⟨_, .inl hd1⟩, ?_⟩
      walk_at "rd"
      refine ⟨_, rfl, ?_⟩
      walk_at "rd"
      refine ⟨_, g1, ?_⟩
      rw [hat_get]
      walk_at "rd"
      cases hp : K95.look hs x.b with
      | none => rw [hp] at c; exact absurd rfl c
      | some p =>
        rw [hp] at c
        refine q _ _ ?_ s1
        rw [brk_wait hw, decide_eq_true_eq, K95.hat_some hp]
        rw [K95.hat_some hp] at c
        have c : ¬ K95.hat t (K95.look hs) (2 * x.a + 2) ≤ p := fun z => c (by simp [z])
        exact ⟨fun h => ⟨p, hp, by omega, h⟩, fun ⟨p', hp', _, h⟩ => by
          rw [hp] at hp'
          cases hp'
          exact h⟩
end
section
variable {P : Program} {w : World} {K : PySem.W.Frag} {mg : Str → Option Value} {base : Heap} {f C : Addr} {fd : FuncData}
def BrV (H : Hp) (v : V) : Option (List K95.Ln) → Prop
  | none => v = .non
  | some l => LnsV H v l
theorem ClAt.lns {C : Addr} {B : K95.Br} {H : Hp} {o : Ob} {s : K95.Cl} (c : ClAt C B H o s) : LnsV H (.ref o.al) s.lines := by
  obtain ⟨vs, h1, h2⟩ := c.ln
  exact ⟨o.al, vs, rfl, h1, h2⟩
def spFB : Sp := fun vs H Q _ => ∃ vb v t B hs, vs = [vb, v] ∧ IsBr H vb B ∧ B.WF ∧ IsSit H v t hs ∧ ∀ v' H' o, Same H H' → BrV H' v' o → K95.Res (K95.fin B) t (K95.look hs) o → Q v' H'
abbrev N_find_breach : List Str := ["brief", "situation", "closing", "k"]
theorem sc_find_breach : FnScope N_find_breach ["brief", "situation"] (defScope (top 27)) := ⟨rfl, rfl, rfl, by decide +kernel, rfl, by decide +kernel, by decide +kernel⟩
-- slots: brief 0, situation 1, closing 2, k 3
set_option maxHeartbeats 8000000 in
theorem k_find_breach (A : At K mg "find_breach" (top 27) ["brief", "situation"] f fd) (bi : Bi mg) (T : ClT K C) (mk : PySem.W.makesIn K C = true ∧ PySem.W.keepIn K (.ref C) = true) (mgC : mg "Closing" = some (.ref C))
    (D_init : MDef P w K mg base C "__init__" 4 ["self", "brief"] (spInit C)) (D_lines_up_to : Def P w K mg base "lines_up_to" 3 ["lines", "last"] spUp) (D_breaks : Def P w K mg base "breaks" 2 ["situation", "line"] spBrk) : Def P w K mg base "find_breach" 6 ["brief", "situation"] spFB := by
  refine A.ok sc_find_breach (fun vs H Q E h => ?_) (fun cdv A outer s H vs Q E hr h => ?_)
  · obtain ⟨vb, v, t, B, hs, rfl, _⟩ := h
    rfl
  obtain ⟨vb, v, t, B, hs, rfl, hB, wf, hS, q⟩ := h
  have D_lines_up_to := D_lines_up_to.mono (j := 5) (by decide)
  have D_breaks := D_breaks.mono (j := 5) (by decide)
  have F := (K95.fin_is wf).2
  have g := F.good
  have lm := K95.mosts_len wf g
  have lw := K95.waits_len wf g
  refine ⟨_, (pss_cons (ps_set (i := 2) sc_find_breach.nd rfl (.inl rfl) (pe_mk D_init T mk hr (by rfl) mgC (pa_cons (pv 0) pa_nil)))
    (pss_cons (ps_if (pt_cmpR op_notN (pe_fld (pv 2) rfl) pe_non (nomark _))
      (pss_one (ps_ret (pe_d D_lines_up_to hr (by rfl) (pa_cons (pe_fld (pv 2) rfl) (pa_cons (pe_fld (pv 2) rfl) pa_nil)))))
      pss_nil)
    (pss_cons (ps_for PassesOwn.never rfl (pi_list (pe_callB cr_sortedI (by rfl) bi.sorted (by decide +kernel) (pa_cons (pe_op op_cat (pe_listVals rfl (pe_fld (pv 2) rfl) (by rfl) bi.list (by decide +kernel)) (pe_listVals rfl (pe_fld (pv 2) rfl) (by rfl) bi.list (by decide +kernel))) pa_nil))) (pg_name (i := 3) sc_find_breach.nd rfl (.inl rfl))
      (pss_one (ps_if (pt_val (pe_d D_breaks hr (by rfl) (pa_cons (pv 1) (pa_cons (pe_ix ix_list (pe_fld (pv 2) rfl) (pv 3) (fun _ _ => rfl)) pa_nil))))
        (pss_one (ps_ret (pe_d D_lines_up_to hr (by rfl) (pa_cons (pe_fld (pv 2) rfl) (pa_cons (pv 3) pa_nil)))))
        pss_nil)))
    (pss_one (ps_ret pe_non))))), ?_⟩
  walk_at "rd"
  refine fun x dx nx nd ne => ⟨x, vb, B, dx, rfl, upd_same, hB.same (made_same0 nx nd), wf, fun o H1 eo c of => ⟨rfl, ?_⟩⟩
  subst eo
  have s1 := made_same nx nd of
  walk_at "rd"
  walk_at "f.fault"
  walk_at "rd"
  refine ⟨rfl, ?_⟩
  walk_at "rd"
  rw [faV_some]
  generalize hs0 : K95.fin B = st at c F g lm lw q
  cases hf : st.fault with
  | some k =>
    refine iteT ?_
    walk_at "rd"
    walk_at "f.lines"
    walk_at "rd"
    walk_at "f.fault"
    rw [hf]
    obtain ⟨z, hz, _⟩ := g.flt k hf
    walk_at "rd"
    exact ⟨_, k, B, st, z, rfl, c.lns, g, F.len, hz, fun v' H' s2 h2 => q v' H' (some (K95.upTo st.lines k)) (s1.trans s2) h2 (.inl ⟨k, hf, rfl⟩)⟩
  | none =>
    refine iteF ?_
    walk_at "rd"
    walk_at "f.mosts"
    refine ⟨o.dm, _, rfl, c.mo, fun p1 np1 => ?_⟩
    have e1 : (kvT nV st.mosts).map (·.2) = (st.mosts.map (·.2)).map nV := by unfold kvT; rw [List.map_map, List.map_map]; rfl
    rw [e1]
    have s2 := same_new (o := .lst ((st.mosts.map (·.2)).map nV)) np1
    have hp1 : (upd H1 p1 (.lst ((st.mosts.map (·.2)).map nV))) p1 = some (.lst ((st.mosts.map (·.2)).map nV)) := upd_same
    generalize upd H1 p1 (.lst ((st.mosts.map (·.2)).map nV)) = H2 at s2 hp1
    have c2 := c.same s2
    walk_at "rd"
    walk_at "f.waits"
    refine ⟨o.dw, _, rfl, c2.wa, fun p2 np2 => ?_⟩
    have e2 : (kvT nV st.waits).map (·.2) = (st.waits.map (·.2)).map nV := by unfold kvT; rw [List.map_map, List.map_map]; rfl
    rw [e2]
    have s3 := same_new (o := .lst ((st.waits.map (·.2)).map nV)) np2
    have hp2 : (upd H2 p2 (.lst ((st.waits.map (·.2)).map nV))) p2 = some (.lst ((st.waits.map (·.2)).map nV)) := upd_same
    have hp1 := s3 _ _ hp1
    generalize upd H2 p2 (.lst ((st.waits.map (·.2)).map nV)) = H3 at s3 hp2 hp1
    walk_at "rd"
    refine ⟨p1, p2, _, _, rfl, rfl, hp1, hp2, Nat.le_of_lt (size_ok (by simp only [List.length_map]; omega)), fun p3 np3 => ?_⟩
    have eu : (st.mosts.map (·.2)).map nV ++ (st.waits.map (·.2)).map nV = (st.used.map fun (k : Nat) => (k : Int)).map V.int := by
      unfold K95.Cl.used
      rw [List.map_append, List.map_append, List.map_map, List.map_map, List.map_map, List.map_map, List.map_map, List.map_map]
      rfl
    rw [eu]
    have s4 := same_new (o := .lst ((st.used.map fun (k : Nat) => (k : Int)).map V.int)) np3
    have hp3 : (upd H3 p3 (.lst ((st.used.map fun (k : Nat) => (k : Int)).map V.int))) p3 = some (.lst ((st.used.map fun (k : Nat) => (k : Int)).map V.int)) := upd_same
    generalize upd H3 p3 (.lst ((st.used.map fun (k : Nat) => (k : Int)).map V.int)) = H4 at s4 hp3
    refine ⟨p3, _, rfl, SqL.of hp3, fun ys O perm sorted nO => ?_⟩
    have s5 := same_new (o := .lst (ys.map V.int)) nO
    have hO : (upd H4 O (.lst (ys.map V.int))) O = some (.lst (ys.map V.int)) := upd_same
    have c5 := c2.same (s3.trans (s4.trans s5))
    have s15 := s1.trans (s2.trans (s3.trans (s4.trans s5)))
    generalize upd H4 O (.lst (ys.map V.int)) = H5 at s5 hO c5 s15
    have mem : ∀ y ∈ ys, ∃ k : Nat, y = (k : Int) ∧ k ∈ st.used := fun y hy => by
      obtain ⟨k, hk, e⟩ := List.mem_map.mp (perm.mem_iff.mp hy)
      exact ⟨k, e.symm, hk⟩
    have memr : ∀ k ∈ st.used, ((k : Nat) : Int) ∈ ys := fun k hk => perm.mem_iff.mpr (List.mem_map.mpr ⟨k, hk, rfl⟩)
    refine ⟨O, rfl, ⟨_, SqL.of hO⟩, ?_⟩
    refine for_it (walk_list (xs := ys.map V.int)) (fun n σ H' => ∃ y3, σ = [some vb, some v, some (.ref o.x), y3] ∧ Same H5 H' ∧ ∀ (k : Nat), (k : Int) ∈ ys.take n → ∀ x, st.lines[k]? = some x → ¬ K95.Brk t (K95.look hs) x)
      ⟨none, rfl, Same.refl _, fun k h => by simp at h⟩ (fun n σ H' _ ⟨_, _, s, _⟩ => SqL.of (s _ _ hO)) (fun n y σ H6 H6' hn ⟨y3, eσ, s6, nb⟩ hy => ?_) (fun σ H6 ⟨y3, eσ, s6, nb⟩ => ?_)
    · subst eσ
      obtain ⟨rfl, hv⟩ := hy
      obtain ⟨yi, hyi, rfl⟩ := get_map hv
      obtain ⟨k, rfl, hk⟩ := mem yi (List.mem_of_getElem? hyi)
      have lk := K95.used_lt g hk
      obtain ⟨x, hx⟩ : ∃ x, st.lines[k]? = some x := ⟨_, List.getElem?_eq_getElem lk⟩
      have c6 := c5.same s6
      obtain ⟨vs, h1, h2⟩ := c6.ln
      obtain ⟨vx, hvx, hlx⟩ := paired_get2 k x h2 hx
      walk_at "rd"
      walk_at "f.lines"
      walk_at "rd"
      refine q_ixL (SqL.of h1) (atN hvx) ?_
      walk_at "rd"
      refine ⟨_, _, t, hs, x, rfl, hS.same (s15.trans s6), hlx, fun r H7 hr7 s7 => ?_⟩
      have c7 := c6.same s7
      walk_at "rd"
      refine ite2 (fun e => ?_) (fun e => ?_)
      · walk_at "rd"
        walk_at "f.lines"
        walk_at "rd"
        refine ⟨_, k, B, st, x, rfl, c7.lns, g, F.len, hx, fun v' H' s8 h8 => q v' H' (some (K95.upTo st.lines k)) (s15.trans (s6.trans (s7.trans s8))) h8 (.inr ⟨hf, .inr ⟨k, x, hk, hx, hr7.mp e, fun j hj lt y hy => ?_, rfl⟩⟩)⟩
        obtain ⟨i, hi⟩ := List.mem_iff_getElem?.mp (memr j hj)
        have li : i < n := by
          apply Classical.byContradiction
          intro c
          rcases Nat.lt_or_ge n i with h | h
          · have h3 := List.pairwise_iff_getElem.mp sorted n i (K95.lt_of_get hyi) (K95.lt_of_get hi) h
            have e3 : ys[n]'(K95.lt_of_get hyi) = (k : Int) := Option.some.inj ((List.getElem?_eq_getElem (K95.lt_of_get hyi)).symm.trans hyi)
            have e4 : ys[i]'(K95.lt_of_get hi) = (j : Int) := Option.some.inj ((List.getElem?_eq_getElem (K95.lt_of_get hi)).symm.trans hi)
            rw [e3, e4] at h3
            omega
          · have : i = n := by omega
            rw [this, hyi] at hi
            have := Option.some.inj hi
            omega
        exact nb j (List.mem_of_getElem? (i := i) (by rw [List.getElem?_take, if_pos li]; exact hi)) y hy
      · refine ⟨_, rfl, s6.trans s7, fun k' h x' hx' => ?_⟩
        rw [take_snoc hyi, List.mem_append] at h
        rcases h with h | h
        · exact nb k' h x' hx'
        · rw [List.mem_singleton] at h
          have : k' = k := by omega
          rw [this, hx] at hx'
          cases hx'
          exact fun z => e (hr7.mpr z)
    · subst eσ
      rw [List.length_map, List.take_length] at nb
      walk_at "rd"
      exact q .non _ none (s15.trans s6) rfl (.inr ⟨hf, .inl ⟨rfl, fun k hk x hx => nb k (memr k hk) x hx⟩⟩)
end
section
variable {P : Program} {w : World} {K : PySem.W.Frag} {mg : Str → Option Value} {base : Heap} {f C : Addr} {fd : FuncData}
/-- the pen at p: n cells at most are spent -/
def PenAt (H : Hp) (p c : Addr) (n : Nat) : Prop := ∃ cells at_ rest, H p = some (.lst [.ref c, .int at_, .int rest]) ∧ H c = some (.lst (List.map V.int cells)) ∧ c ≠ p ∧ cells.length ≤ 12 ∧ 0 ≤ at_ ∧ at_ ≤ (n : Int) ∧ 0 ≤ rest
theorem PenAt.mono {H : Hp} {p c : Addr} {n m : Nat} (h : PenAt H p c n) (l : n ≤ m) : PenAt H p c m := by
  obtain ⟨cells, a, r, h1, h2, h3, h4, h5, h6, h7⟩ := h
  exact ⟨cells, a, r, h1, h2, h3, h4, h5, by omega, h7⟩
theorem PenAt.same {H H' : Hp} {p c : Addr} {n : Nat} (h : PenAt H p c n) (s : Same H H') : PenAt H' p c n := by
  obtain ⟨cells, a, r, h1, h2, h3, h4, h5, h6, h7⟩ := h
  exact ⟨cells, a, r, s _ _ h1, s _ _ h2, h3, h4, h5, h6, h7⟩
theorem PenAt.notT {H : Hp} {p c : Addr} {n : Nat} (h : PenAt H p c n) : ∀ xs, H p ≠ some (.tup xs) := fun xs e => by
  obtain ⟨cells, a, r, h1, _⟩ := h
  rw [h1] at e
  cases e
theorem PenAt.notD {H : Hp} {p c : Addr} {n : Nat} (h : PenAt H p c n) : ∀ xs, H p ≠ some (.dK xs) := fun xs e => by
  obtain ⟨cells, a, r, h1, _⟩ := h
  rw [h1] at e
  cases e
theorem Off.refl (p : Addr) (H : Hp) : Off p H H := fun _ _ h _ => h
theorem same_off {p : Addr} {H H' : Hp} (s : Same H H') : Off p H H' := fun b u h _ => s b u h
abbrev N__law_owner : List Str := ["_law_event"]
theorem sc__law_owner : FnScope N__law_owner ["_law_event"] (defScope (top 35)) := ⟨rfl, rfl, rfl, by decide +kernel, rfl, by decide +kernel, by decide +kernel⟩
-- slots: _law_event 0
theorem k__law_owner (A : At K mg "_law_owner" (top 35) ["_law_event"] f fd) : Def P w K mg base "_law_owner" 1 ["_law_event"] (spI fun i => .int ((i - 1) / 2)) := by
  refine A.ok sc__law_owner (fun vs H Q E h => ?_) (fun cdv A outer s H vs Q E hr h => ?_)
  · obtain ⟨i, rfl, _⟩ := h
    rfl
  obtain ⟨i, rfl, q⟩ := h
  refine ⟨_, (pss_one (ps_ret (pe_op op_fdiv (pe_op op_sub (pv 0) pe_int) pe_int))), ?_⟩
  walk_at "rd"
  exact q
abbrev N__law_is_end : List Str := ["_law_event"]
theorem sc__law_is_end : FnScope N__law_is_end ["_law_event"] (defScope (top 36)) := ⟨rfl, rfl, rfl, by decide +kernel, rfl, by decide +kernel, by decide +kernel⟩
-- slots: _law_event 0
theorem k__law_is_end (A : At K mg "_law_is_end" (top 36) ["_law_event"] f fd) (D_law_owner : Def P w K mg base "_law_owner" 1 ["_law_event"] (spI fun i => .int ((i - 1) / 2))) : Def P w K mg base "_law_is_end" 2 ["_law_event"] (spI fun i => .bl (K95.isE i)) := by
  refine A.ok sc__law_is_end (fun vs H Q E h => ?_) (fun cdv A outer s H vs Q E hr h => ?_)
  · obtain ⟨i, rfl, _⟩ := h
    rfl
  obtain ⟨i, rfl, q⟩ := h
  refine ⟨_, (pss_one (ps_ret (pe_and (pe_cmpR op_gt (pv 0) pe_int (nomark _)) (pe_one (pe_cmpR op_eq (pe_op op_sub (pv 0) (pe_op op_mul pe_int (pe_d D_law_owner hr (by rfl) (pa_cons (pv 0) pa_nil)))) pe_int (nomark _)))))), ?_⟩
  have q : Q (.bl (K95.isE i)) H := q
  walk_at "rd"
  have e : K95.isE i = (decide (0 < i) && decide (i - 2 * ((i - 1) / 2) = 2)) := by
    unfold K95.isE
    by_cases h : 0 < i
    · rw [decide_eq_true h, Bool.true_and, Bool.true_and]
      exact decide_eq_decide.mpr (by omega)
    · rw [decide_eq_false h, Bool.false_and, Bool.false_and]
  refine ite2 (fun c => ?_) (fun c => ?_)
  · walk_at "rd"
    refine ⟨i, rfl, ?_⟩
    walk_at "rd"
    rw [e, c, Bool.true_and] at q
    exact q
  · rw [e, eq_false_of_ne_true c, Bool.false_and] at q
    exact q
def primes : List Int := [2147483629, 2147483587, 2147483579, 2147483563, 2147483549, 2147483543, 2147483497, 2147483489, 2147483477, 2147483423, 2147483399, 2147483353, 2147483323]
theorem prime_at (k : Int) : ∃ r, atI (primes.map V.int) (k % 13) = some (.int r) ∧ 1 < r ∧ r < 2147483648 := by
  have h : ((k % 13).toNat : Int) = k % 13 := by omega
  have h13 : (k % 13).toNat < 13 := by omega
  generalize (k % 13).toNat = j at h h13
  rw [← h]
  have : ∃ r, primes[j]? = some r ∧ 1 < r ∧ r < 2147483648 := by
    have key : ∀ j : Fin 13, ∃ r, primes[j.val]? = some r ∧ 1 < r ∧ r < 2147483648 := by decide +kernel
    exact key ⟨j, h13⟩
  obtain ⟨r, hr, l⟩ := this
  exact ⟨r, atI_nat (by rw [List.getElem?_map, hr]; rfl), l⟩
def spSpread : Sp := fun vs H Q _ => ∃ c a : Int, vs = [.int c, .int a] ∧ 0 ≤ a ∧ a ≤ 1048576 ∧ ∀ (r : Int) H', 0 ≤ r → Same H H' → Q (.int r) H'
abbrev N__law_spread : List Str := ["_law_cell", "_law_at", "_law_primes", "_law_u", "_law_v", "_law_w"]
theorem sc__law_spread : FnScope N__law_spread ["_law_cell", "_law_at"] (defScope (top 30)) := ⟨rfl, rfl, rfl, by decide +kernel, rfl, by decide +kernel, by decide +kernel⟩
-- slots: _law_cell 0, _law_at 1, _law_primes 2, _law_u 3, _law_v 4, _law_w 5
set_option maxHeartbeats 8000000 in
theorem k__law_spread (A : At K mg "_law_spread" (top 30) ["_law_cell", "_law_at"] f fd) (bi : Bi mg) : Def P w K mg base "_law_spread" 1 ["_law_cell", "_law_at"] spSpread := by
  refine A.ok sc__law_spread (fun vs H Q E h => ?_) (fun cdv A outer s H vs Q E hr h => ?_)
  · obtain ⟨c, a, rfl, _⟩ := h
    rfl
  obtain ⟨c, a, rfl, a0, a1, q⟩ := h
  refine ⟨_, (pss_cons (ps_if (pt_cmpR op_ge (pv 0) (pe_op op_pow pe_int pe_int) (nomark _))
      (pss_one (ps_ret (pv 0)))
      pss_nil)
    (pss_cons (ps_set (i := 2) sc__law_spread.nd rfl (.inl rfl) (pe_lst (pa_cons pe_int (pa_cons pe_int (pa_cons pe_int (pa_cons pe_int (pa_cons pe_int (pa_cons pe_int (pa_cons pe_int (pa_cons pe_int pa_nil))))))))))
    (pss_cons (ps_set (i := 2) sc__law_spread.nd rfl (.inl rfl) (pe_op op_cat (pv 2) (pe_lst (pa_cons pe_int (pa_cons pe_int (pa_cons pe_int (pa_cons pe_int (pa_cons pe_int pa_nil))))))))
    (pss_cons (ps_set (i := 3) sc__law_spread.nd rfl (.inl rfl) (pe_op op_add (pe_op op_add (pe_op op_mul (pe_op op_mod (pe_callTy call_int1 (by rfl) bi.int (by decide +kernel) (pa_cons (pv 0) pa_nil)) pe_int) (pe_op op_add (pe_op op_mul pe_int (pv 1)) pe_int)) (pe_op op_mul (pv 1) pe_int)) pe_int))
    (pss_cons (ps_set (i := 3) sc__law_spread.nd rfl (.inl rfl) (pe_op op_mod (pe_callTy call_int1 (by rfl) bi.int (by decide +kernel) (pa_cons (pe_op op_pow (pv 3) pe_int) pa_nil)) (pe_ix ix_list (pv 2) (pe_op op_mod (pe_callTy call_int1 (by rfl) bi.int (by decide +kernel) (pa_cons (pv 1) pa_nil)) pe_int) (fun _ _ => rfl))))
    (pss_cons (ps_set (i := 4) sc__law_spread.nd rfl (.inl rfl) (pe_op op_mod (pe_callTy call_int1 (by rfl) bi.int (by decide +kernel) (pa_cons (pe_op op_pow (pe_op op_add (pe_op op_add (pe_op op_mul (pv 3) (pe_op op_add (pv 1) pe_int)) (pe_op op_mod (pe_callTy call_int1 (by rfl) bi.int (by decide +kernel) (pa_cons (pv 0) pa_nil)) pe_int)) pe_int) pe_int) pa_nil)) (pe_ix ix_list (pv 2) (pe_op op_mod (pe_callTy call_int1 (by rfl) bi.int (by decide +kernel) (pa_cons (pe_op op_add (pv 1) pe_int) pa_nil)) pe_int) (fun _ _ => rfl))))
    (pss_cons (ps_set (i := 5) sc__law_spread.nd rfl (.inl rfl) (pe_op op_mod (pe_callTy call_int1 (by rfl) bi.int (by decide +kernel) (pa_cons (pe_op op_pow (pe_op op_add (pe_op op_add (pv 4) (pe_op op_mod (pe_callTy call_int1 (by rfl) bi.int (by decide +kernel) (pa_cons (pv 3) pa_nil)) pe_int)) (pv 1)) pe_int) pa_nil)) (pe_ix ix_list (pv 2) (pe_op op_mod (pe_callTy call_int1 (by rfl) bi.int (by decide +kernel) (pa_cons (pe_op op_add (pv 1) pe_int) pa_nil)) pe_int) (fun _ _ => rfl))))
    (pss_one (ps_ret (pe_op op_add (pe_op op_mul (pe_op op_add (pe_op op_mul (pv 3) pe_int) (pv 4)) pe_int) (pv 5))))))))))), ?_⟩
  walk_at "rd"
  refine ite2 (fun e => ?_) (fun e => ?_)
  · walk_at "rd"
    refine q c H ?_ (Same.refl _)
    have h1 := of_decide_eq_true e
    exact Int.le_trans (by decide) h1
  · walk_at "rd"
    refine ⟨Nat.le_of_ble_eq_true rfl, fun p1 np1 => ?_⟩
    have s1 := same_new (o := .lst [.int 2147483629, .int 2147483587, .int 2147483579, .int 2147483563, .int 2147483549, .int 2147483543, .int 2147483497, .int 2147483489]) np1
    have h1 : (upd H p1 (.lst [.int 2147483629, .int 2147483587, .int 2147483579, .int 2147483563, .int 2147483549, .int 2147483543, .int 2147483497, .int 2147483489])) p1 = some (.lst [.int 2147483629, .int 2147483587, .int 2147483579, .int 2147483563, .int 2147483549, .int 2147483543, .int 2147483497, .int 2147483489]) := upd_same
    generalize upd H p1 (.lst [.int 2147483629, .int 2147483587, .int 2147483579, .int 2147483563, .int 2147483549, .int 2147483543, .int 2147483497, .int 2147483489]) = H1 at s1 h1
    walk_at "rd"
    refine ⟨Nat.le_of_ble_eq_true rfl, fun p2 np2 => ?_⟩
    have s2 := same_new (o := .lst [.int 2147483477, .int 2147483423, .int 2147483399, .int 2147483353, .int 2147483323]) np2
    have h2 : (upd H1 p2 (.lst [.int 2147483477, .int 2147483423, .int 2147483399, .int 2147483353, .int 2147483323])) p2 = some (.lst [.int 2147483477, .int 2147483423, .int 2147483399, .int 2147483353, .int 2147483323]) := upd_same
    have h1 := s2 _ _ h1
    generalize upd H1 p2 (.lst [.int 2147483477, .int 2147483423, .int 2147483399, .int 2147483353, .int 2147483323]) = H2 at s2 h1 h2
    refine ⟨p1, p2, _, _, rfl, rfl, h1, h2, Nat.le_of_ble_eq_true rfl, fun p3 np3 => ?_⟩
    have s3 := same_new (o := .lst ([.int 2147483629, .int 2147483587, .int 2147483579, .int 2147483563, .int 2147483549, .int 2147483543, .int 2147483497, .int 2147483489] ++ [.int 2147483477, .int 2147483423, .int 2147483399, .int 2147483353, .int 2147483323])) np3
    have h3 : (upd H2 p3 (.lst ([.int 2147483629, .int 2147483587, .int 2147483579, .int 2147483563, .int 2147483549, .int 2147483543, .int 2147483497, .int 2147483489] ++ [.int 2147483477, .int 2147483423, .int 2147483399, .int 2147483353, .int 2147483323]))) p3 = some (.lst (primes.map V.int)) := upd_same
    generalize upd H2 p3 (.lst ([.int 2147483629, .int 2147483587, .int 2147483579, .int 2147483563, .int 2147483549, .int 2147483543, .int 2147483497, .int 2147483489] ++ [.int 2147483477, .int 2147483423, .int 2147483399, .int 2147483353, .int 2147483323])) = H3 at s3 h3
    have s03 := s1.trans (s2.trans s3)
    clear h1 h2 s1 s2 s3
    obtain ⟨u0, hu0⟩ : ∃ u0 : Int, c % 1000000007 = u0 := ⟨_, rfl⟩
    have b0 : 0 ≤ u0 ∧ u0 < 1000000007 := by omega
    walk_at "rd"
    rw [hu0]
    refine q_I (.inl ⟨by omega, by omega⟩) ?_
    have hx : u0 * (2 * a + 69069) ≤ 1000000007 * 2166221 := Int.mul_le_mul (by omega) (by omega) (by omega) (by omega)
    have hx0 : 0 ≤ u0 * (2 * a + 69069) := Int.mul_nonneg (by omega) (by omega)
    generalize u0 * (2 * a + 69069) = x at hx hx0
    walk_at "rd"
    refine q_I ⟨by omega, by omega, by omega⟩ ?_
    obtain ⟨r1, e1, l1, m1⟩ := prime_at a
    walk_at "rd"
    refine q_ixL (SqL.of h3) e1 ?_
    walk_at "rd"
    have bu : 0 ≤ (x + a * 40503 + 977) ^ Int.toNat 3 % r1 ∧ (x + a * 40503 + 977) ^ Int.toNat 3 % r1 < r1 := ⟨Int.emod_nonneg _ (by omega), Int.emod_lt_of_pos _ (by omega)⟩
    generalize (x + a * 40503 + 977) ^ Int.toNat 3 % r1 = u at bu
    obtain ⟨v0, hv0⟩ : ∃ v0 : Int, c % 65537 = v0 := ⟨_, rfl⟩
    have bv0 : 0 ≤ v0 ∧ v0 < 65537 := by omega
    refine q_I (.inl ⟨by omega, by omega⟩) ?_
    have hy : u * (a + 3) ≤ 2147483648 * 1048579 := Int.mul_le_mul (by omega) (by omega) (by omega) (by omega)
    have hy0 : 0 ≤ u * (a + 3) := Int.mul_nonneg (by omega) (by omega)
    generalize u * (a + 3) = y at hy hy0
    walk_at "rd"
    rw [hv0]
    refine q_I ⟨by omega, by omega, by omega⟩ ?_
    obtain ⟨r2, e2, l2, m2⟩ := prime_at (a + 5)
    walk_at "rd"
    refine q_ixL (SqL.of h3) e2 ?_
    walk_at "rd"
    have bv : 0 ≤ (y + v0 + 5) ^ Int.toNat 5 % r2 ∧ (y + v0 + 5) ^ Int.toNat 5 % r2 < r2 := ⟨Int.emod_nonneg _ (by omega), Int.emod_lt_of_pos _ (by omega)⟩
    generalize (y + v0 + 5) ^ Int.toNat 5 % r2 = v at bv
    obtain ⟨t0, ht0⟩ : ∃ t0 : Int, u % 1009 = t0 := ⟨_, rfl⟩
    have bt0 : 0 ≤ t0 ∧ t0 < 1009 := by omega
    rw [ht0]
    refine q_I ⟨by omega, by omega, by omega⟩ ?_
    obtain ⟨r3, e3, l3, m3⟩ := prime_at (a + 7)
    walk_at "rd"
    refine q_ixL (SqL.of h3) e3 ?_
    walk_at "rd"
    have bw : 0 ≤ (v + t0 + a) ^ Int.toNat 3 % r3 := Int.emod_nonneg _ (by omega)
    generalize (v + t0 + a) ^ Int.toNat 3 % r3 = ww at bw
    exact q _ _ (by omega) s03
end
section
variable {P : Program} {w : World} {K : PySem.W.Frag} {mg : Str → Option Value} {base : Heap} {f C : Addr} {fd : FuncData}
theorem int_at {l : List Int} {k : Int} (h0 : 0 ≤ k) (h : k < (l.length : Int)) : ∃ v, atI (l.map V.int) k = some (.int v) ∧ ixN (l.map V.int).length k = some k.toNat := by
  have e : ((k.toNat : Nat) : Int) = k := by omega
  have lt : k.toNat < l.length := by omega
  obtain ⟨v, hv⟩ : ∃ v, l[k.toNat]? = some v := ⟨_, List.getElem?_eq_getElem lt⟩
  refine ⟨v, ?_, ?_⟩
  · have : atI (l.map V.int) ((k.toNat : Nat) : Int) = some (.int v) := atI_nat (by rw [List.getElem?_map, hv]; rfl)
    rwa [e] at this
  · unfold ixN
    rw [if_pos h0, if_pos (by rw [List.length_map]; exact h)]
theorem set_int {l : List Int} {j : Nat} {v : Int} : (l.map V.int).set j (.int v) = (l.set j v).map V.int := (List.map_set ..).symm
def spTake : Sp := fun vs H Q _ => ∃ p c n amt, vs = [.ref p, .int amt] ∧ PenAt H p c n ∧ n < 1048576 ∧ 1 ≤ amt ∧ amt < 1073741824 ∧ ∀ (r : Int) H', 0 ≤ r → r < amt → Off p H H' → PenAt H' p c (n + 1) → Q (.int r) H'
abbrev N__law_take : List Str := ["_law_pen", "_law_amount", "_law_at", "_law_cell", "_law_found"]
theorem sc__law_take : FnScope N__law_take ["_law_pen", "_law_amount"] (defScope (top 31)) := ⟨rfl, rfl, rfl, by decide +kernel, rfl, by decide +kernel, by decide +kernel⟩
-- slots: _law_pen 0, _law_amount 1, _law_at 2, _law_cell 3, _law_found 4
set_option maxHeartbeats 8000000 in
theorem k__law_take (A : At K mg "_law_take" (top 31) ["_law_pen", "_law_amount"] f fd) (bi : Bi mg) (D_law_spread : Def P w K mg base "_law_spread" 1 ["_law_cell", "_law_at"] spSpread) : Def P w K mg base "_law_take" 2 ["_law_pen", "_law_amount"] spTake := by
  refine A.ok sc__law_take (fun vs H Q E h => ?_) (fun cdv A outer s H vs Q E hr h => ?_)
  · obtain ⟨p, c, n, amt, rfl, _⟩ := h
    rfl
  obtain ⟨p, c, n, amt, rfl, ⟨cells, at_, rest, hp, hc, ncp, lc, a0, a1, r0⟩, hn, m0, m1, q⟩ := h
  -- the end: the rest is divided
  have fin : ∀ (H1 : Hp) (at1 rest1 : Int), Off p H H1 → H1 p = some (.lst [.ref c, .int at1, .int rest1]) → 0 ≤ at1 → at1 ≤ (n : Int) + 1 → 0 ≤ rest1 →
      ∀ H2 r1, r1 = rest1 % amt → H2 = upd H1 p (.lst [.ref c, .int at1, .int (rest1 / amt)]) → Q (.int r1) H2 := fun H1 at1 rest1 of h1 b0 b1 b2 H2 r1 er eh => by
    subst er eh
    refine q _ _ (Int.emod_nonneg _ (by omega)) (Int.emod_lt_of_pos _ (by omega)) (of.trans off_set) ⟨cells, at1, _, upd_same, ?_, ncp, lc, b0, by omega, Int.ediv_nonneg b2 (by omega)⟩
    rw [upd_ne ncp]
    exact of _ _ hc ncp
  refine ⟨_, (pss_cons (ps_if (pt_cmpR op_lt (pe_ix ix_list (pv 0) pe_int (fun _ _ => rfl)) (pv 1) (nomark _))
      (pss_cons (ps_set (i := 2) sc__law_take.nd rfl (.inl rfl) (pe_ix ix_list (pv 0) pe_int (fun _ _ => rfl)))
      (pss_cons (ps_set (i := 3) sc__law_take.nd rfl (.inl rfl) pe_int)
      (pss_cons (ps_if (pt_cmpR op_lt (pv 2) (pe_callB call_len_seq (by rfl) bi.len PySem.boot_len (pa_cons (pe_ix ix_list (pv 0) pe_int (fun _ _ => rfl)) pa_nil)) (nomark _))
        (pss_one (ps_set (i := 3) sc__law_take.nd rfl (.inl rfl) (pe_ix ix_list (pe_ix ix_list (pv 0) pe_int (fun _ _ => rfl)) (pv 2) (fun _ _ => rfl))))
        (pss_one (ps_if (pt_cmpR op_gt (pe_callB call_len_seq (by rfl) bi.len PySem.boot_len (pa_cons (pe_ix ix_list (pv 0) pe_int (fun _ _ => rfl)) pa_nil)) pe_int (nomark _))
          (pss_one (ps_set (i := 3) sc__law_take.nd rfl (.inl rfl) (pe_op op_mod (pe_callTy call_int1 (by rfl) bi.int (by decide +kernel) (pa_cons (pe_ix ix_list (pe_ix ix_list (pv 0) pe_int (fun _ _ => rfl)) (pe_op op_mod (pe_callTy call_int1 (by rfl) bi.int (by decide +kernel) (pa_cons (pe_op op_add (pe_op op_mul (pv 2) pe_int) pe_int) pa_nil)) (pe_callB call_len_seq (by rfl) bi.len PySem.boot_len (pa_cons (pe_ix ix_list (pv 0) pe_int (fun _ _ => rfl)) pa_nil))) (fun _ _ => rfl)) pa_nil)) (pe_op op_add (pe_op op_pow pe_int pe_int) (pv 2)))))
          pss_nil)))
      (pss_cons (ps_asg (pe_op op_add (pv 2) pe_int) (pg_sub (pv 0) pe_int set_list))
      (pss_one (ps_asg (pe_d D_law_spread hr (by rfl) (pa_cons (pv 3) (pa_cons (pv 2) pa_nil))) (pg_sub (pv 0) pe_int set_list)))))))
      pss_nil)
    (pss_cons (ps_set (i := 4) sc__law_take.nd rfl (.inl rfl) (pe_op op_mod (pe_callTy call_int1 (by rfl) bi.int (by decide +kernel) (pa_cons (pe_ix ix_list (pv 0) pe_int (fun _ _ => rfl)) pa_nil)) (pv 1)))
    (pss_cons (ps_asg (pe_op op_fdiv (pe_ix ix_list (pv 0) pe_int (fun _ _ => rfl)) (pv 1)) (pg_sub (pv 0) pe_int set_list))
    (pss_one (ps_ret (pv 4)))))), ?_⟩
  walk_at "rd"
  refine q_ixL (SqL.of hp) rfl ?_
  walk_at "rd"
  refine ifN2 (fun σ2 H1 => ∃ y2 y3 at1 rest1, σ2 = [some (.ref p), some (.int amt), y2, y3, none] ∧ Off p H H1 ∧ H1 p = some (.lst [.ref c, .int at1, .int rest1]) ∧ 0 ≤ at1 ∧ at1 ≤ (n : Int) + 1 ∧ 0 ≤ rest1) (fun σ2 H1 ⟨y2, y3, at1, rest1, eσ, of, h1, b0, b1, b2⟩ => ?_) (fun hk e => ?_) (fun e => ?_)
  · subst eσ
    walk_at "rd"
    refine q_ixL (SqL.of h1) rfl ?_
    walk_at "rd"
    refine q_ixL (SqL.of h1) rfl ?_
    walk_at "rd"
    refine q_I (show 0 < amt ∧ amt < 1073741824 by omega) ?_
    walk_at "rd"
    refine ⟨p, _, 2, 2, rfl, rfl, h1, rfl, ?_⟩
    walk_at "rd"
    exact fin H1 at1 rest1 of h1 b0 b1 b2 _ _ rfl rfl
  · walk_at "rd"
    refine q_ixL (SqL.of hp) rfl ?_
    walk_at "rd"
    refine q_ixL (SqL.of hp) rfl ?_
    walk_at "rd"
    refine ⟨c, _, rfl, .inl (SqL.of hc), ?_⟩
    walk_at "rd"
    rw [List.length_map]
    have tail : ∀ (σ : L2.St) (cell : Int), σ = [some (.ref p), some (.int amt), some (.int at_), some (.int cell), none] → tSeq (tAsg (tOp (rI0 fun i j => V.int (i + j)) (tVar 2) (tC (.int 1))) (gSub (tVar 0) (tC (.int 1)) rSetL)) (tAsg (tCall spSpread [] E0 (tCons (tVar 3) (tCons (tVar 2) tNil))) (gSub (tVar 0) (tC (.int 2)) rSetL))
        { nx := (fun σ2 H1 => ∃ y2 y3 at1 rest1, σ2 = [some (.ref p), some (.int amt), y2, y3, none] ∧ Off p H H1 ∧ H1 p = some (.lst [.ref c, .int at1, .int rest1]) ∧ 0 ≤ at1 ∧ at1 ≤ (n : Int) + 1 ∧ 0 ≤ rest1), rt := fun _ _ => False } σ H := fun σ cell eσ => by
      subst eσ
      walk_at "rd"
      refine ⟨p, _, 1, 1, rfl, rfl, hp, rfl, ?_⟩
      walk_at "rd"
      refine ⟨cell, at_, rfl, a0, by omega, fun r H2 r0' s2 => ?_⟩
      walk_at "rd"
      refine ⟨p, _, 2, 2, rfl, rfl, s2 _ _ upd_same, rfl, ?_⟩
      exact ⟨_, _, at_ + 1, r, rfl, (off_set.trans (same_off s2)).trans off_set, upd_same, by omega, by omega, r0'⟩
    refine ite2 (fun e2 => ?_) (fun e2 => ?_)
    · obtain ⟨cell, ec, _⟩ := int_at (l := cells) a0 (of_decide_eq_true e2)
      walk_at "rd"
      refine q_ixL (SqL.of hp) rfl ?_
      walk_at "rd"
      refine q_ixL (SqL.of hc) ec ?_
      walk_at "rd"
      refine ⟨p, _, 1, 1, rfl, rfl, hp, rfl, ?_⟩
      walk_at "rd"
      refine ⟨cell, at_, rfl, a0, by omega, fun r H2 r0' s2 => ?_⟩
      walk_at "rd"
      refine ⟨p, _, 2, 2, rfl, rfl, s2 _ _ upd_same, rfl, ?_⟩
      refine hk _ _ ⟨_, _, at_ + 1, r, rfl, (off_set.trans (same_off s2)).trans off_set, upd_same, by omega, by omega, r0'⟩
    · walk_at "rd"
      refine q_ixL (SqL.of hp) rfl ?_
      walk_at "rd"
      refine ⟨c, _, rfl, .inl (SqL.of hc), ?_⟩
      walk_at "rd"
      rw [List.length_map]
      have step : ∀ cell : Int, ∀ H1, H1 = H → ∃ k, True := fun _ _ _ => ⟨(0 : Nat), trivial⟩
      clear step tail
      refine ifN2 (fun σ2 H1 => ∃ cell, H1 = H ∧ σ2 = [some (.ref p), some (.int amt), some (.int at_), some (.int cell), none]) (fun σ2 H1 ⟨cell, eh, eσ⟩ => ?_) (fun hk2 e3 => ?_) (fun e3 => ⟨0, rfl, rfl⟩)
      · subst eh eσ
        walk_at "rd"
        refine ⟨p, _, 1, 1, rfl, rfl, hp, rfl, ?_⟩
        walk_at "rd"
        refine ⟨cell, at_, rfl, a0, by omega, fun r H2 r0' s2 => ?_⟩
        walk_at "rd"
        refine ⟨p, _, 2, 2, rfl, rfl, s2 _ _ upd_same, rfl, ?_⟩
        refine hk _ _ ⟨_, _, at_ + 1, r, rfl, (off_set.trans (same_off s2)).trans off_set, upd_same, by omega, by omega, r0'⟩
      · have lpos := of_decide_eq_true e3
        have b0 : 0 ≤ (at_ * 5 + 3) % (cells.length : Int) := Int.emod_nonneg _ (by omega)
        have b1 : (at_ * 5 + 3) % (cells.length : Int) < (cells.length : Int) := Int.emod_lt_of_pos _ (by omega)
        obtain ⟨cell, ec, _⟩ := int_at (l := cells) b0 b1
        walk_at "rd"
        refine q_ixL (SqL.of hp) rfl ?_
        walk_at "rd"
        refine q_ixL (SqL.of hp) rfl ?_
        walk_at "rd"
        refine ⟨c, _, rfl, .inl (SqL.of hc), ?_⟩
        rw [List.length_map]
        walk_at "rd"
        refine q_ixL (SqL.of hc) ec ?_
        walk_at "rd"
        have p17 : (0 : Int) < 10 ^ Int.toNat 17 := by decide
        refine q_I (show (0 : Int) < 10 ^ Int.toNat 17 + at_ by omega) ?_
        walk_at "rd"
        refine ⟨p, _, 1, 1, rfl, rfl, hp, rfl, ?_⟩
        walk_at "rd"
        refine ⟨_, at_, rfl, a0, by omega, fun r H2 r0' s2 => ?_⟩
        walk_at "rd"
        refine ⟨p, _, 2, 2, rfl, rfl, s2 _ _ upd_same, rfl, ?_⟩
        refine hk _ _ ⟨_, _, at_ + 1, r, rfl, (off_set.trans (same_off s2)).trans off_set, upd_same, by omega, by omega, r0'⟩
  · exact ⟨none, none, at_, rest, rfl, Off.refl _ _, hp, a0, by omega, r0⟩
/-- one of some things -/
def spOne : Sp := fun vs H Q _ => ∃ p c n l xs, vs = [.ref p, .ref l] ∧ PenAt H p c n ∧ n < 1048576 ∧ H l = some (.lst xs) ∧ l ≠ p ∧ 0 < xs.length ∧ xs.length ≤ 1000 ∧ ∀ (i : Nat) v H', xs[i]? = some v → Off p H H' → PenAt H' p c (n + 1) → Q v H'
abbrev N__law_one_of : List Str := ["_law_pen", "_law_some"]
theorem sc__law_one_of : FnScope N__law_one_of ["_law_pen", "_law_some"] (defScope (top 33)) := ⟨rfl, rfl, rfl, by decide +kernel, rfl, by decide +kernel, by decide +kernel⟩
-- slots: _law_pen 0, _law_some 1
theorem k__law_one_of (A : At K mg "_law_one_of" (top 33) ["_law_pen", "_law_some"] f fd) (bi : Bi mg) (D_law_take : Def P w K mg base "_law_take" 2 ["_law_pen", "_law_amount"] spTake) : Def P w K mg base "_law_one_of" 3 ["_law_pen", "_law_some"] spOne := by
  refine A.ok sc__law_one_of (fun vs H Q E h => ?_) (fun cdv A outer s H vs Q E hr h => ?_)
  · obtain ⟨p, c, n, l, xs, rfl, _⟩ := h
    rfl
  obtain ⟨p, c, n, l, xs, rfl, hp, hn, hl, ne, l0, l1, q⟩ := h
  refine ⟨_, (pss_one (ps_ret (pe_ix ix_list (pv 1) (pe_d D_law_take hr (by rfl) (pa_cons (pv 0) (pa_cons (pe_callB call_len_seq (by rfl) bi.len PySem.boot_len (pa_cons (pv 1) pa_nil)) pa_nil))) (fun _ _ => rfl)))), ?_⟩
  walk_at "rd"
  refine ⟨l, xs, rfl, .inl (SqL.of hl), ?_⟩
  walk_at "rd"
  refine ⟨p, c, n, _, rfl, hp, hn, by omega, by omega, fun r H' r0 r1 of hp' => ?_⟩
  have e : ((r.toNat : Nat) : Int) = r := by omega
  have hx : xs[r.toNat]? = some (xs[r.toNat]'(by omega)) := List.getElem?_eq_getElem (by omega)
  refine q_ixL (SqL.of (of _ _ hl ne)) (by rw [← e]; exact atN hx) ?_
  exact q _ _ _ hx of hp'
def spOp : Sp := fun vs H Q _ => ∃ a ns, vs = [.ref a] ∧ SqL K H a (List.map V.int ns) ∧ ns.length ≤ 63 ∧ ∀ p c H', Same H H' → H p = none → PenAt H' p c 0 → Q (.ref p) H'
theorem cut_int (ns : List Int) (lo hi : Option Int) : cutV (ns.map V.int) lo hi = ((ns.drop (HT.sIx ns.length 0 lo)).take (HT.sIx ns.length ns.length hi - HT.sIx ns.length 0 lo)).map V.int := by
  unfold cutV
  rw [List.length_map, List.map_take, List.map_drop]
abbrev N__law_open : List Str := ["_law_script", "_law_cells", "_law_k", "_law_cell"]
theorem sc__law_open : FnScope N__law_open ["_law_script"] (defScope (top 29)) := ⟨rfl, rfl, rfl, by decide +kernel, rfl, by decide +kernel, by decide +kernel⟩
-- slots: _law_script 0, _law_cells 1, _law_k 2, _law_cell 3
set_option maxHeartbeats 8000000 in
theorem k__law_open (A : At K mg "_law_open" (top 29) ["_law_script"] f fd) (bi : Bi mg) : Def P w K mg base "_law_open" 1 ["_law_script"] (spOp (K := K)) := by
  refine A.ok sc__law_open (fun vs H Q E h => ?_) (fun cdv A outer s H vs Q E hr h => ?_)
  · obtain ⟨a, ns, rfl, _⟩ := h
    rfl
  obtain ⟨a, ns, rfl, ha, ln, q⟩ := h
  refine ⟨_, (pss_cons (ps_set (i := 1) sc__law_open.nd rfl (.inl rfl) (pe_callTy call_list_of (by rfl) bi.list (by decide +kernel) (pa_cons (pe_slice sl_list (pv 0) po_none (po_some pe_int)) pa_nil)))
    (pss_cons (ps_for PassesOwn.never rfl (pi_enum (by rfl) bi.enumerate (pa_cons (pe_slice sl_list (pv 0) (po_some pe_int) (po_some pe_int)) pa_nil)) (pg_tup rfl (pgs_cons (pg_name (i := 2) sc__law_open.nd rfl (.inl rfl)) (pgs_cons (pg_name (i := 3) sc__law_open.nd rfl (.inl rfl)) pgs_nil)))
      (pss_one (ps_asg (pe_op op_add (pe_ix ix_list (pv 1) (pe_op op_mod (pe_callTy call_int1 (by rfl) bi.int (by decide +kernel) (pa_cons (pv 2) pa_nil)) pe_int) (fun _ _ => rfl)) (pv 3)) (pg_sub (pv 1) (pe_op op_mod (pe_callTy call_int1 (by rfl) bi.int (by decide +kernel) (pa_cons (pv 2) pa_nil)) pe_int) set_list))))
    (pss_one (ps_ret (pe_lst (pa_cons (pv 1) (pa_cons pe_int (pa_cons pe_int pa_nil)))))))), ?_⟩
  walk_at "rd"
  refine ⟨a, _, rfl, ha, fun p1 np1 => ?_⟩
  rw [cut_int]
  have s1 := same_new (o := .lst (((ns.drop (HT.sIx ns.length 0 none)).take (HT.sIx ns.length ns.length (some 12) - HT.sIx ns.length 0 none)).map V.int)) np1
  have hp1 : (upd H p1 (.lst (((ns.drop (HT.sIx ns.length 0 none)).take (HT.sIx ns.length ns.length (some 12) - HT.sIx ns.length 0 none)).map V.int))) p1 = some (.lst (((ns.drop (HT.sIx ns.length 0 none)).take (HT.sIx ns.length ns.length (some 12) - HT.sIx ns.length 0 none)).map V.int)) := upd_same
  have lc : ((ns.drop (HT.sIx ns.length 0 none)).take (HT.sIx ns.length ns.length (some 12) - HT.sIx ns.length 0 none)).length = min 12 ns.length := by
    rw [List.length_take, List.length_drop, HT.sIx_none, show (12 : Int) = ((12 : Nat) : Int) from rfl, HT.sIx_nat]
    omega
  generalize (ns.drop (HT.sIx ns.length 0 none)).take (HT.sIx ns.length ns.length (some 12) - HT.sIx ns.length 0 none) = cs at s1 hp1 lc
  generalize upd H p1 (.lst (cs.map V.int)) = H1 at s1 hp1
  walk_at "rd"
  refine ⟨p1, _, rfl, .inl (SqL.of hp1), fun c nc => ?_⟩
  have hc : (upd H1 c (.lst (cs.map V.int))) c = some (.lst (cs.map V.int)) := upd_same
  have s2 := same_new (o := .lst (cs.map V.int)) nc
  have s12 := s1.trans s2
  have nc0 := free0 s1 nc
  generalize upd H1 c (.lst (cs.map V.int)) = H2 at hc s2 s12
  walk_at "rd"
  refine ⟨a, _, rfl, s12.seq ha, fun p2 np2 => ?_⟩
  rw [cut_int]
  have s3 := same_new (o := .lst (((ns.drop (HT.sIx ns.length 0 (some 12))).take (HT.sIx ns.length ns.length (some 63) - HT.sIx ns.length 0 (some 12))).map V.int)) np2
  have hp2 : (upd H2 p2 (.lst (((ns.drop (HT.sIx ns.length 0 (some 12))).take (HT.sIx ns.length ns.length (some 63) - HT.sIx ns.length 0 (some 12))).map V.int))) p2 = some (.lst (((ns.drop (HT.sIx ns.length 0 (some 12))).take (HT.sIx ns.length ns.length (some 63) - HT.sIx ns.length 0 (some 12))).map V.int)) := upd_same
  have lr : ((ns.drop (HT.sIx ns.length 0 (some 12))).take (HT.sIx ns.length ns.length (some 63) - HT.sIx ns.length 0 (some 12))).length ≤ ns.length - 12 := by
    rw [List.length_take, List.length_drop, show (12 : Int) = ((12 : Nat) : Int) from rfl, HT.sIx_nat]
    omega
  have hc3 := s3 _ _ hc
  have ncp2 : c ≠ p2 := ne_of_none hc np2
  generalize (ns.drop (HT.sIx ns.length 0 (some 12))).take (HT.sIx ns.length ns.length (some 63) - HT.sIx ns.length 0 (some 12)) = rs at s3 hp2 lr hc3
  generalize upd H2 p2 (.lst (rs.map V.int)) = H3 at s3 hp2 hc3
  refine ⟨p2, _, rfl, SqL.of hp2, ?_⟩
  refine for_it (walk_enum (xs := rs.map V.int)) (fun n σ H' => ∃ y2 y3 cs', σ = [some (.ref a), some (.ref c), y2, y3] ∧ Same H H' ∧ H' p2 = some (.lst (rs.map V.int)) ∧ H' c = some (.lst (List.map V.int cs')) ∧ cs'.length = min 12 ns.length)
    ⟨none, none, cs, rfl, s12.trans s3, hp2, hc3, lc⟩ (fun n σ H' _ ⟨_, _, _, _, _, h, _⟩ => SqL.of h) (fun n v σ H4 H4' hn ⟨y2, y3, cs', eσ, s4, hp4, hc4, lc4⟩ hy => ?_) (fun σ H4 ⟨y2, y3, cs', eσ, s4, hp4, hc4, lc4⟩ => ?_)
  · subst eσ
    obtain ⟨T, ix, kv, rfl, nT, rfl, hix, hkv⟩ := hy
    cases hix
    obtain ⟨cell, hcell, rfl⟩ := get_map hkv
    rw [List.length_map] at hn
    have sT := same_new (o := .tup [.int (n : Nat), .int cell]) nT
    have hT : (upd H4 T (.tup [.int (n : Nat), .int cell])) T = some (.tup [.int (n : Nat), .int cell]) := upd_same
    have hc5 := sT _ _ hc4
    have hp5 := sT _ _ hp4
    have s5 := s4.trans sT
    generalize upd H4 T (.tup [.int (n : Nat), .int cell]) = H5 at sT hT hc5 hp5 s5
    obtain ⟨v, ev, ej⟩ := int_at (l := cs') (k := (n : Int) % 12) (by omega) (by omega)
    refine q_gtup (SqT.of hT) rfl ?_
    walk_at "rd"
    refine q_ixL (SqL.of hc5) ev ?_
    walk_at "rd"
    refine ⟨c, _, _, _, rfl, rfl, hc5, ej, ?_⟩
    rw [set_int]
    refine ⟨_, _, _, rfl, same_upd0 s5 nc0, by rw [upd_ne ncp2.symm]; exact hp5, upd_same, by rw [List.length_set]; exact lc4⟩
  · subst eσ
    walk_at "rd"
    refine ⟨Nat.le_of_ble_eq_true rfl, fun p np => ?_⟩
    refine q p c _ (s4.trans (same_new np)) (free0 s4 np) ⟨cs', 0, 0, upd_same, same_new np _ _ hc4, ne_of_none hc4 np, by omega, Int.le_refl _, Int.le_refl _, Int.le_refl _⟩
end
section
variable {P : Program} {w : World} {K : PySem.W.Frag} {mg : Str → Option Value} {base : Heap} {f C : Addr} {fd : FuncData}
def Sc : V → Prop
  | .bl _ => True
  | .int _ => True
  | .str _ => True
  | _ => False
theorem q_isi {H : Hp} {Q : VK} {x : V} {t n : String} {b : Bool} (ty : TyX K H x (.type t)) (e : kitB t n = some b) (q : Q (.bl b) H) : rIsi K [x, .ty n] H Q := ⟨x, .ty n, _, _, b, rfl, .ty _, ty, kit_ty e, q⟩
theorem kit_two {t m n : String} {b c : Bool} (h1 : kitB t m = some b) (h2 : kitB t n = some c) : PySem.W.kitAny K (.type t) [.type m, .type n] = some (b || c) := by
  refine kitAny_cons (kit_ty h1) (fun e => ?_) (fun e => by rw [e]; rfl)
  rw [e]
  refine kitAny_cons (kit_ty h2) (fun e => ?_) (fun e => by rw [e]; rfl)
  rw [e]
  rfl
theorem q_isiT {H : Hp} {Q : VK} {x : V} {z : Addr} {t m n : String} {b c : Bool} (hz : H z = some (.tup [.ty m, .ty n])) (ty : TyX K H x (.type t)) (h1 : kitB t m = some b) (h2 : kitB t n = some c) (q : Q (.bl (b || c)) H) : rIsiT K [x, .ref z] H Q :=
  ⟨x, z, _, _, _, _, rfl, hz, .cons (.ty _) (.cons (.ty _) .nil), ty, kit_two h1 h2, q⟩
def spNone : Sp := fun _ _ _ _ => False
def spSm1 : Sp := fun vs H Q _ => ∃ x, vs = [x, x] ∧ Sc x ∧ ∀ H', Same H H' → Q (.bl true) H'
abbrev N__law_same : List Str := ["_law_found", "_law_due", "_law_one", "_law_other"]
theorem sc__law_same : FnScope N__law_same ["_law_found", "_law_due"] (defScope (top 32)) := ⟨rfl, rfl, rfl, by decide +kernel, rfl, by decide +kernel, by decide +kernel⟩
-- slots: _law_found 0, _law_due 1, _law_one 2, _law_other 3
theorem k__law_same0 (A : At K mg "_law_same" (top 32) ["_law_found", "_law_due"] f fd) : Def P w K mg base "_law_same" 1 ["_law_found", "_law_due"] spNone :=
  A.ok sc__law_same (fun vs H Q E h => h.elim) (fun cdv A outer s H vs Q E hr h => h.elim)
set_option maxHeartbeats 8000000 in
theorem k__law_same1 (A : At K mg "_law_same" (top 32) ["_law_found", "_law_due"] f fd) (bi : Bi mg) (D_law_same : Def P w K mg base "_law_same" 1 ["_law_found", "_law_due"] spNone) : Def P w K mg base "_law_same" 2 ["_law_found", "_law_due"] spSm1 := by
  refine A.ok sc__law_same (fun vs H Q E h => ?_) (fun cdv A outer s H vs Q E hr h => ?_)
  · obtain ⟨x, rfl, _⟩ := h
    rfl
  obtain ⟨x, rfl, hx, q⟩ := h
  refine ⟨_, (pss_cons (ps_if (PW.pt (pw_or (pt_cmpR op_isN (pv 1) pe_non (nomark _)) (pw_or1 (pt_cmpR op_isN (pv 0) pe_non (nomark _)))))
      (pss_one (ps_ret (pe_and (pe_cmpR op_isN (pv 1) pe_non (nomark _)) (pe_one (pe_cmpR op_isN (pv 0) pe_non (nomark _))))))
      pss_nil)
    (pss_cons (ps_if (PW.pt (pw_or (pt_val (pe_callB call_isi (by rfl) bi.isinstance (by decide +kernel) (pa_cons (pv 1) (pa_cons (pe_bltn (by rfl) bi.bool (by decide +kernel) (v := .ty "bool") rfl) pa_nil)))) (pw_or1 (pt_val (pe_callB call_isi (by rfl) bi.isinstance (by decide +kernel) (pa_cons (pv 0) (pa_cons (pe_bltn (by rfl) bi.bool (by decide +kernel) (v := .ty "bool") rfl) pa_nil)))))))
      (pss_one (ps_ret (pe_and (pe_callB call_isi (by rfl) bi.isinstance (by decide +kernel) (pa_cons (pv 1) (pa_cons (pe_bltn (by rfl) bi.bool (by decide +kernel) (v := .ty "bool") rfl) pa_nil))) (pe_and (pe_callB call_isi (by rfl) bi.isinstance (by decide +kernel) (pa_cons (pv 0) (pa_cons (pe_bltn (by rfl) bi.bool (by decide +kernel) (v := .ty "bool") rfl) pa_nil))) (pe_one (pe_cmpR op_eq (pv 0) (pv 1) (nomark _)))))))
      pss_nil)
    (pss_cons (ps_if (pt_val (pe_callB call_isiT (by rfl) bi.isinstance (by decide +kernel) (pa_cons (pv 1) (pa_cons (pe_tup (pa_cons (pe_bltn (by rfl) bi.int (by decide +kernel) (v := .ty "int") rfl) (pa_cons (pe_bltn (by rfl) bi.str (by decide +kernel) (v := .ty "str") rfl) pa_nil))) pa_nil))))
      (pss_cons (ps_if (pt_cmpR op_ne (pe_callB call_isi (by rfl) bi.isinstance (by decide +kernel) (pa_cons (pv 0) (pa_cons (pe_bltn (by rfl) bi.int (by decide +kernel) (v := .ty "int") rfl) pa_nil))) (pe_callB call_isi (by rfl) bi.isinstance (by decide +kernel) (pa_cons (pv 1) (pa_cons (pe_bltn (by rfl) bi.int (by decide +kernel) (v := .ty "int") rfl) pa_nil))) (nomark _))
        (pss_one (ps_ret pe_bl))
        pss_nil)
      (pss_one (ps_ret (pe_and (pe_callB call_isiT (by rfl) bi.isinstance (by decide +kernel) (pa_cons (pv 0) (pa_cons (pe_tup (pa_cons (pe_bltn (by rfl) bi.int (by decide +kernel) (v := .ty "int") rfl) (pa_cons (pe_bltn (by rfl) bi.str (by decide +kernel) (v := .ty "str") rfl) pa_nil))) pa_nil))) (pe_one (pe_cmpR op_eq (pv 0) (pv 1) (nomark _)))))))
      pss_nil)
    (pss_cons (ps_if (PW.pt (pw_or (pt_cmpR op_ne (pe_callB call_isi (by rfl) bi.isinstance (by decide +kernel) (pa_cons (pv 1) (pa_cons (pe_bltn (by rfl) bi.tuple (by decide +kernel) (v := .ty "tuple") rfl) pa_nil))) (pe_callB call_isi (by rfl) bi.isinstance (by decide +kernel) (pa_cons (pv 0) (pa_cons (pe_bltn (by rfl) bi.tuple (by decide +kernel) (v := .ty "tuple") rfl) pa_nil))) (nomark _)) (pw_or1 (pt_cmpR op_ne (pe_callB call_isi (by rfl) bi.isinstance (by decide +kernel) (pa_cons (pv 1) (pa_cons (pe_bltn (by rfl) bi.list (by decide +kernel) (v := .ty "list") rfl) pa_nil))) (pe_callB call_isi (by rfl) bi.isinstance (by decide +kernel) (pa_cons (pv 0) (pa_cons (pe_bltn (by rfl) bi.list (by decide +kernel) (v := .ty "list") rfl) pa_nil))) (nomark _)))))
      (pss_one (ps_ret pe_bl))
      pss_nil)
    (pss_cons (ps_if (pt_cmpR op_ne (pe_callB call_len_seq (by rfl) bi.len PySem.boot_len (pa_cons (pv 0) pa_nil)) (pe_callB call_len_seq (by rfl) bi.len PySem.boot_len (pa_cons (pv 1) pa_nil)) (nomark _))
      (pss_one (ps_ret pe_bl))
      pss_nil)
    (pss_one (ps_ret (pe_cmpR op_notIn_seq pe_bl (pe_lc (own := [("_law_one", 2), ("_law_other", 3)]) (g := gTup K 2 (gCons (gName 2) (gCons (gName 3) gNil))) rfl sc__law_same.nd (RZ.pi_zipA (by rfl) bi.zip (pa_cons (pv 0) (pa_cons (pv 1) pa_nil))) (blkOk_by (own := [("_law_one", 2), ("_law_other", 3)]) (N := N__law_same) (sc := defScope (top 32)) (by decide +kernel)) (fun _ _ _ _ _ => (pg_tup rfl (pgs_cons (pg_name (i := 2) sc__law_same.nd rfl (.inl rfl)) (pgs_cons (pg_name (i := 3) sc__law_same.nd rfl (.inl rfl)) pgs_nil)))) (fun _ _ _ _ _ => pts_nil) (fun _ _ _ _ _ => (pe_d D_law_same hr (by rfl) (pa_cons (pv 2) (pa_cons (pv 3) pa_nil))))) (by with_unfolding_all rfl))))))))), ?_⟩
  cases x with
  | bl b =>
    walk_at "rd"
    refine useT (c := false || false) (tst_or (fun Qb q => ?_) fun _ => (fun Qb q => ?_)) ?_
    · walk_at "rd"
      exact ⟨rfl, _, rfl, q⟩
    · walk_at "rd"
      exact ⟨rfl, _, rfl, q⟩
    refine iteF ?_
    walk_at "rd"
    refine useT (c := true || false) (tst_or (fun Qb q => ?_) fun h => nomatch h) ?_
    · walk_at "rd"
      refine q_isi (.base (.bl _)) (b := true) (by decide +kernel) ?_
      walk_at "rd"
      exact q
    refine iteT ?_
    walk_at "rd"
    refine q_isi (.base (.bl _)) (b := true) (by decide +kernel) ?_
    walk_at "rd"
    refine iteT ?_
    walk_at "rd"
    refine q_isi (.base (.bl _)) (b := true) (by decide +kernel) ?_
    walk_at "rd"
    refine iteT ?_
    walk_at "rd"
    refine ⟨rfl, ?_⟩
    rw [show decide (V.bl b = V.bl b) = true from decide_eq_true rfl]
    exact q _ (Same.refl _)
  | int i =>
    walk_at "rd"
    refine useT (c := false || false) (tst_or (fun Qb q => ?_) fun _ => (fun Qb q => ?_)) ?_
    · walk_at "rd"
      exact ⟨rfl, _, rfl, q⟩
    · walk_at "rd"
      exact ⟨rfl, _, rfl, q⟩
    refine iteF ?_
    walk_at "rd"
    refine useT (c := false || false) (tst_or (fun Qb q => ?_) fun h => fun Qb q => ?_) ?_
    · walk_at "rd"
      refine q_isi (.base (.int _)) (b := false) (by decide +kernel) ?_
      walk_at "rd"
      exact q
    · walk_at "rd"
      refine q_isi (.base (.int _)) (b := false) (by decide +kernel) ?_
      walk_at "rd"
      exact q
    refine iteF ?_
    walk_at "rd"
    refine ⟨Nat.le_of_ble_eq_true rfl, fun z nz => ?_⟩
    have s1 := same_new (o := .tup [.ty "int", .ty "str"]) nz
    walk_at "rd"
    refine q_isiT (m := "int") (n := "str") upd_same (.base (.int _)) (b := true) (c := false) (by decide +kernel) (by decide +kernel) ?_
    generalize upd H z (.tup [.ty "int", .ty "str"]) = H1 at s1
    walk_at "rd"
    refine iteT ?_
    walk_at "rd"
    refine q_isi (.base (.int _)) (b := true) (by decide +kernel) ?_
    walk_at "rd"
    refine q_isi (.base (.int _)) (b := true) (by decide +kernel) ?_
    walk_at "rd"
    refine ⟨rfl, ?_⟩
    walk_at "rd"
    refine iteF ?_
    walk_at "rd"
    refine ⟨Nat.le_of_ble_eq_true rfl, fun z2 nz2 => ?_⟩
    have s2 := same_new (o := .tup [.ty "int", .ty "str"]) nz2
    walk_at "rd"
    refine q_isiT (m := "int") (n := "str") upd_same (.base (.int _)) (b := true) (c := false) (by decide +kernel) (by decide +kernel) ?_
    generalize upd H1 z2 (.tup [.ty "int", .ty "str"]) = H2 at s2
    walk_at "rd"
    refine iteT ?_
    walk_at "rd"
    rw [decide_eq_true (rfl : i = i)]
    exact q _ (s1.trans s2)
  | str z0 =>
    walk_at "rd"
    refine useT (c := false || false) (tst_or (fun Qb q => ?_) fun _ => (fun Qb q => ?_)) ?_
    · walk_at "rd"
      exact ⟨rfl, _, rfl, q⟩
    · walk_at "rd"
      exact ⟨rfl, _, rfl, q⟩
    refine iteF ?_
    walk_at "rd"
    refine useT (c := false || false) (tst_or (fun Qb q => ?_) fun h => fun Qb q => ?_) ?_
    · walk_at "rd"
      refine q_isi (.base (.str _)) (b := false) (by decide +kernel) ?_
      walk_at "rd"
      exact q
    · walk_at "rd"
      refine q_isi (.base (.str _)) (b := false) (by decide +kernel) ?_
      walk_at "rd"
      exact q
    refine iteF ?_
    walk_at "rd"
    refine ⟨Nat.le_of_ble_eq_true rfl, fun z nz => ?_⟩
    have s1 := same_new (o := .tup [.ty "int", .ty "str"]) nz
    walk_at "rd"
    refine q_isiT (m := "int") (n := "str") upd_same (.base (.str _)) (b := false) (c := true) (by decide +kernel) (by decide +kernel) ?_
    generalize upd H z (.tup [.ty "int", .ty "str"]) = H1 at s1
    walk_at "rd"
    refine iteT ?_
    walk_at "rd"
    refine q_isi (.base (.str _)) (b := false) (by decide +kernel) ?_
    walk_at "rd"
    refine q_isi (.base (.str _)) (b := false) (by decide +kernel) ?_
    walk_at "rd"
    refine ⟨rfl, ?_⟩
    walk_at "rd"
    refine iteF ?_
    walk_at "rd"
    refine ⟨Nat.le_of_ble_eq_true rfl, fun z2 nz2 => ?_⟩
    have s2 := same_new (o := .tup [.ty "int", .ty "str"]) nz2
    walk_at "rd"
    refine q_isiT (m := "int") (n := "str") upd_same (.base (.str _)) (b := false) (c := true) (by decide +kernel) (by decide +kernel) ?_
    generalize upd H1 z2 (.tup [.ty "int", .ty "str"]) = H2 at s2
    walk_at "rd"
    refine iteT ?_
    walk_at "rd"
    refine ⟨rfl, ?_⟩
    rw [show decide (V.str z0 = V.str z0) = true from decide_eq_true rfl]
    exact q _ (s1.trans s2)
  | _ => exact hx.elim
theorem q_zip {K : PySem.W.Frag} {ta : TA} {σ : L2.St} {H : Hp} {R : It → Hp → Prop} (h : ta σ H fun vs H1 => ∃ a b xs ys, vs = [.ref a, .ref b] ∧ ((SqL K H1 a xs ∧ SqL K H1 b ys ∧ R (Itz K a b) H1) ∨ (SqT K H1 a xs ∧ SqT K H1 b ys ∧ R (RZ.ItzT K a b) H1))) : RZ.iZipA K ta σ H R := h
theorem walk_zipT {a b : Addr} {xs ys : List V} {n : Nat} (hn : n = min xs.length ys.length) : Walk (RZ.ItzT K a b) n (fun H => SqT K H a xs ∧ SqT K H b ys) (YPair (fun i => xs[i]?) (fun i => ys[i]?)) := by
  subst hn
  refine ⟨fun i H hi q => ?_, fun H q => ⟨xs, ys, q.1, q.2, by omega⟩, fun i H v H' hi q y => ?_⟩
  · have l1 : i < xs.length := by omega
    have l2 : i < ys.length := by omega
    exact ⟨xs, ys, _, _, q.1, q.2, List.getElem?_eq_getElem l1, List.getElem?_eq_getElem l2⟩
  · obtain ⟨T, x, y, e, nT, eH, e1, e2⟩ := y
    exact ⟨T, x, y, e, nT, eH, e1 xs q.1, e2 ys q.2⟩
theorem inV_rep {n : Nat} : inV (.bl false) (List.replicate n (.bl true)) = false := by
  unfold inV
  rw [List.any_eq_false]
  intro x hx
  rw [List.eq_of_mem_replicate hx]
  decide
theorem flat_rep {n : Nat} {b : Bool} : (List.replicate n (V.bl b)).all flatV = true := by
  rw [List.all_eq_true]
  intro x hx
  rw [List.eq_of_mem_replicate hx]
  rfl
def spSm2 : Sp := fun vs H Q _ => ∃ p r xs, vs = [.ref p, .ref r] ∧ H p = some (.tup xs) ∧ H r = some (.tup xs) ∧ xs.length ≤ 10 ∧ (∀ x ∈ xs, Sc x) ∧ ∀ H', Same H H' → Q (.bl true) H'
set_option maxHeartbeats 8000000 in
theorem k__law_same2 (A : At K mg "_law_same" (top 32) ["_law_found", "_law_due"] f fd) (bi : Bi mg) (D_law_same : Def P w K mg base "_law_same" 2 ["_law_found", "_law_due"] spSm1) : Def P w K mg base "_law_same" 3 ["_law_found", "_law_due"] spSm2 := by
  refine A.ok sc__law_same (fun vs H Q E h => ?_) (fun cdv A outer s H vs Q E hr h => ?_)
  · obtain ⟨p, r, xs, rfl, _⟩ := h
    rfl
  obtain ⟨p, r, xs, rfl, hp, hr', lx, hx, q⟩ := h
  refine ⟨_, (pss_cons (ps_if (PW.pt (pw_or (pt_cmpR op_isN (pv 1) pe_non (nomark _)) (pw_or1 (pt_cmpR op_isN (pv 0) pe_non (nomark _)))))
      (pss_one (ps_ret (pe_and (pe_cmpR op_isN (pv 1) pe_non (nomark _)) (pe_one (pe_cmpR op_isN (pv 0) pe_non (nomark _))))))
      pss_nil)
    (pss_cons (ps_if (PW.pt (pw_or (pt_val (pe_callB call_isi (by rfl) bi.isinstance (by decide +kernel) (pa_cons (pv 1) (pa_cons (pe_bltn (by rfl) bi.bool (by decide +kernel) (v := .ty "bool") rfl) pa_nil)))) (pw_or1 (pt_val (pe_callB call_isi (by rfl) bi.isinstance (by decide +kernel) (pa_cons (pv 0) (pa_cons (pe_bltn (by rfl) bi.bool (by decide +kernel) (v := .ty "bool") rfl) pa_nil)))))))
      (pss_one (ps_ret (pe_and (pe_callB call_isi (by rfl) bi.isinstance (by decide +kernel) (pa_cons (pv 1) (pa_cons (pe_bltn (by rfl) bi.bool (by decide +kernel) (v := .ty "bool") rfl) pa_nil))) (pe_and (pe_callB call_isi (by rfl) bi.isinstance (by decide +kernel) (pa_cons (pv 0) (pa_cons (pe_bltn (by rfl) bi.bool (by decide +kernel) (v := .ty "bool") rfl) pa_nil))) (pe_one (pe_cmpR op_eq (pv 0) (pv 1) (nomark _)))))))
      pss_nil)
    (pss_cons (ps_if (pt_val (pe_callB call_isiT (by rfl) bi.isinstance (by decide +kernel) (pa_cons (pv 1) (pa_cons (pe_tup (pa_cons (pe_bltn (by rfl) bi.int (by decide +kernel) (v := .ty "int") rfl) (pa_cons (pe_bltn (by rfl) bi.str (by decide +kernel) (v := .ty "str") rfl) pa_nil))) pa_nil))))
      (pss_cons (ps_if (pt_cmpR op_ne (pe_callB call_isi (by rfl) bi.isinstance (by decide +kernel) (pa_cons (pv 0) (pa_cons (pe_bltn (by rfl) bi.int (by decide +kernel) (v := .ty "int") rfl) pa_nil))) (pe_callB call_isi (by rfl) bi.isinstance (by decide +kernel) (pa_cons (pv 1) (pa_cons (pe_bltn (by rfl) bi.int (by decide +kernel) (v := .ty "int") rfl) pa_nil))) (nomark _))
        (pss_one (ps_ret pe_bl))
        pss_nil)
      (pss_one (ps_ret (pe_and (pe_callB call_isiT (by rfl) bi.isinstance (by decide +kernel) (pa_cons (pv 0) (pa_cons (pe_tup (pa_cons (pe_bltn (by rfl) bi.int (by decide +kernel) (v := .ty "int") rfl) (pa_cons (pe_bltn (by rfl) bi.str (by decide +kernel) (v := .ty "str") rfl) pa_nil))) pa_nil))) (pe_one (pe_cmpR op_eq (pv 0) (pv 1) (nomark _)))))))
      pss_nil)
    (pss_cons (ps_if (PW.pt (pw_or (pt_cmpR op_ne (pe_callB call_isi (by rfl) bi.isinstance (by decide +kernel) (pa_cons (pv 1) (pa_cons (pe_bltn (by rfl) bi.tuple (by decide +kernel) (v := .ty "tuple") rfl) pa_nil))) (pe_callB call_isi (by rfl) bi.isinstance (by decide +kernel) (pa_cons (pv 0) (pa_cons (pe_bltn (by rfl) bi.tuple (by decide +kernel) (v := .ty "tuple") rfl) pa_nil))) (nomark _)) (pw_or1 (pt_cmpR op_ne (pe_callB call_isi (by rfl) bi.isinstance (by decide +kernel) (pa_cons (pv 1) (pa_cons (pe_bltn (by rfl) bi.list (by decide +kernel) (v := .ty "list") rfl) pa_nil))) (pe_callB call_isi (by rfl) bi.isinstance (by decide +kernel) (pa_cons (pv 0) (pa_cons (pe_bltn (by rfl) bi.list (by decide +kernel) (v := .ty "list") rfl) pa_nil))) (nomark _)))))
      (pss_one (ps_ret pe_bl))
      pss_nil)
    (pss_cons (ps_if (pt_cmpR op_ne (pe_callB call_len_seq (by rfl) bi.len PySem.boot_len (pa_cons (pv 0) pa_nil)) (pe_callB call_len_seq (by rfl) bi.len PySem.boot_len (pa_cons (pv 1) pa_nil)) (nomark _))
      (pss_one (ps_ret pe_bl))
      pss_nil)
    (pss_one (ps_ret (pe_cmpR op_notIn_seq pe_bl (pe_lc (own := [("_law_one", 2), ("_law_other", 3)]) (g := gTup K 2 (gCons (gName 2) (gCons (gName 3) gNil))) rfl sc__law_same.nd (RZ.pi_zipA (by rfl) bi.zip (pa_cons (pv 0) (pa_cons (pv 1) pa_nil))) (blkOk_by (own := [("_law_one", 2), ("_law_other", 3)]) (N := N__law_same) (sc := defScope (top 32)) (by decide +kernel)) (fun _ _ _ _ _ => (pg_tup rfl (pgs_cons (pg_name (i := 2) sc__law_same.nd rfl (.inl rfl)) (pgs_cons (pg_name (i := 3) sc__law_same.nd rfl (.inl rfl)) pgs_nil)))) (fun _ _ _ _ _ => pts_nil) (fun _ _ _ _ _ => (pe_d D_law_same hr (by rfl) (pa_cons (pv 2) (pa_cons (pv 3) pa_nil))))) (by with_unfolding_all rfl))))))))), ?_⟩
  walk_at "rd"
  refine useT (c := false || false) (tst_or (fun Qb q => ?_) fun _ => (fun Qb q => ?_)) ?_
  · walk_at "rd"
    exact ⟨rfl, _, rfl, q⟩
  · walk_at "rd"
    exact ⟨rfl, _, rfl, q⟩
  refine iteF ?_
  walk_at "rd"
  refine useT (c := false || false) (tst_or (fun Qb q => ?_) fun h => fun Qb q => ?_) ?_
  · walk_at "rd"
    refine q_isi (.base (.tup hr')) (b := false) (by decide +kernel) ?_
    walk_at "rd"
    exact q
  · walk_at "rd"
    refine q_isi (.base (.tup hp)) (b := false) (by decide +kernel) ?_
    walk_at "rd"
    exact q
  refine iteF ?_
  walk_at "rd"
  refine ⟨Nat.le_of_ble_eq_true rfl, fun z nz => ?_⟩
  have s1 := same_new (o := .tup [.ty "int", .ty "str"]) nz
  walk_at "rd"
  refine q_isiT (m := "int") (n := "str") upd_same (.base (.tup (s1 _ _ hr'))) (b := false) (c := false) (by decide +kernel) (by decide +kernel) ?_
  generalize upd H z (.tup [.ty "int", .ty "str"]) = H1 at s1
  have hp1 := s1 _ _ hp
  have hr1 := s1 _ _ hr'
  walk_at "rd"
  refine iteF ?_
  walk_at "rd"
  refine useT (c := false || false) (tst_or (fun Qb q => ?_) fun h => fun Qb q => ?_) ?_
  · walk_at "rd"
    refine q_isi (.base (.tup hr1)) (b := true) (by decide +kernel) ?_
    walk_at "rd"
    refine q_isi (.base (.tup hp1)) (b := true) (by decide +kernel) ?_
    walk_at "rd"
    refine ⟨rfl, ?_⟩
    walk_at "rd"
    exact q
  · walk_at "rd"
    refine q_isi (.base (.tup hr1)) (b := false) (by decide +kernel) ?_
    walk_at "rd"
    refine q_isi (.base (.tup hp1)) (b := false) (by decide +kernel) ?_
    walk_at "rd"
    refine ⟨rfl, ?_⟩
    walk_at "rd"
    exact q
  refine iteF ?_
  walk_at "rd"
  refine ⟨p, xs, rfl, .inr (SqT.of hp1), ?_⟩
  walk_at "rd"
  refine ⟨r, xs, rfl, .inr (SqT.of hr1), ?_⟩
  walk_at "rd"
  rw [decide_eq_true (rfl : (xs.length : Int) = xs.length)]
  refine iteF ?_
  walk_at "rd"
  refine q_zip ?_
  walk_at "rd"
  refine ⟨p, r, xs, xs, rfl, .inr ⟨SqT.of hp1, SqT.of hr1, fun D nD => ?_⟩⟩
  refine lc_it (walk_zipT (xs := xs) (ys := xs) (n := xs.length) (by omega)) (fun i H2 => Same H1 H2 ∧ H2 D = some (.lst (List.replicate i (.bl true)))) ⟨same_new nD, upd_same⟩ (fun i H2 _ ⟨s2, _⟩ => ⟨SqT.of (s2 _ _ hp1), SqT.of (s2 _ _ hr1)⟩) (fun i x H2 H3 hi ⟨s2, h2⟩ hy => ?_) (fun H2 ⟨s2, h2⟩ => ?_)
  · obtain ⟨T, x1, x2, rfl, nT, rfl, e1, e2⟩ := hy
    obtain rfl : x1 = x2 := by
      rw [e1] at e2
      exact Option.some.inj e2
    have s3 := same_new (o := .tup [x1, x1]) nT
    refine q_gtup (SqT.of upd_same) rfl ?_
    have nTD : T ≠ D := (ne_of_none h2 nT).symm
    generalize upd H2 T (.tup [x1, x1]) = H3 at s3
    walk_at "rd"
    refine ⟨rfl, ?_⟩
    walk_at "rd"
    refine iteT ?_
    walk_at "rd"
    refine ⟨x1, rfl, hx x1 (List.mem_of_getElem? e1), fun H4 s4 => ?_⟩
    have s5 := s2.trans (s3.trans s4)
    exact ⟨_, s4 _ _ (s3 _ _ h2), size_ok (by rw [List.length_replicate]; omega), same_upd0 s5 nD, by rw [← List.replicate_succ']; exact upd_same⟩
  · refine ⟨D, _, rfl, .inl (SqL.of h2), rfl, flat_rep, ?_⟩
    rw [inV_rep]
    exact q _ (s1.trans s2)
end
section
variable {P : Program} {w : World} {K : PySem.W.Frag} {mg : Str → Option Value} {base : Heap} {f C : Addr} {fd : FuncData}
theorem rows_cat {α : Type} {f : α → List V} {H0 H : Hp} {D E : Addr} {ds es : List α} (s : Same H0 H) (r : Rows f H D ds) (r' : Rows f H E es) :
    ∃ xs zs, H D = some (.lst xs) ∧ H E = some (.lst zs) ∧ xs.length = ds.length ∧ zs.length = es.length ∧ ∀ p, H p = none → Same H0 (upd H p (.lst (xs ++ zs))) ∧ Rows f (upd H p (.lst (xs ++ zs))) p (ds ++ es) := by
  obtain ⟨xs, h1, p1⟩ := r
  obtain ⟨zs, h2, p2⟩ := r'
  refine ⟨xs, zs, h1, h2, p1.length, p2.length, fun p np => ?_⟩
  have s1 := same_new (o := .lst (xs ++ zs)) np
  exact ⟨s.trans s1, xs ++ zs, upd_same, paired_imp (fun _ _ q => q.tps (same_tps s1)) (paired_append p1 p2)⟩
theorem q_chain {r r' : R2} {ta tb tc : TE} {σ : L2.St} {H : Hp} {Q : VK} (h : ta σ H fun x H1 => tb σ H1 fun y H2 => r x y H2 fun z H3 => ∃ k, z = .bl k ∧ (if k = true then tc σ H3 fun w' H4 => r' y w' H4 Q else Q (.bl false) H3)) : tChain r r' ta tb tc σ H Q := h
def spBetw : Sp := fun vs H Q _ => ∃ v lo hi : Int, vs = [.int v, .int lo, .int hi] ∧ Q (.bl (decide (lo ≤ v) && decide (v ≤ hi))) H
abbrev N__law_between : List Str := ["_law_value", "_law_low", "_law_high"]
theorem sc__law_between : FnScope N__law_between ["_law_value", "_law_low", "_law_high"] (defScope (top 34)) := ⟨rfl, rfl, rfl, by decide +kernel, rfl, by decide +kernel, by decide +kernel⟩
-- slots: _law_value 0, _law_low 1, _law_high 2
theorem k__law_between (A : At K mg "_law_between" (top 34) ["_law_value", "_law_low", "_law_high"] f fd) (bi : Bi mg) : Def P w K mg base "_law_between" 1 ["_law_value", "_law_low", "_law_high"] spBetw := by
  refine A.ok sc__law_between (fun vs H Q E h => ?_) (fun cdv A outer s H vs Q E hr h => ?_)
  · obtain ⟨v, lo, hi, rfl, _⟩ := h
    rfl
  obtain ⟨v, lo, hi, rfl, q⟩ := h
  refine ⟨_, (pss_one (ps_ret (pe_and (pe_callB call_isi (by rfl) bi.isinstance (by decide +kernel) (pa_cons (pv 0) (pa_cons (pe_bltn (by rfl) bi.int (by decide +kernel) (v := .ty "int") rfl) pa_nil))) (pe_and (pe_not (pe_callB call_isi (by rfl) bi.isinstance (by decide +kernel) (pa_cons (pv 0) (pa_cons (pe_bltn (by rfl) bi.bool (by decide +kernel) (v := .ty "bool") rfl) pa_nil)))) (pe_one (pe_chain op_le op_le (pv 1) (pv 0) (pv 2))))))), ?_⟩
  walk_at "rd"
  refine q_isi (.base (.int _)) (b := true) (by decide +kernel) ?_
  walk_at "rd"
  refine iteT ?_
  walk_at "rd"
  refine q_isi (.base (.int _)) (b := false) (by decide +kernel) ?_
  walk_at "rd"
  refine iteT ?_
  walk_at "rd"
  refine q_chain ?_
  walk_at "rd"
  refine ite2 (fun c => ?_) (fun c => ?_)
  · walk_at "rd"
    rw [c, Bool.true_and] at q
    exact q
  · rw [eq_false_of_ne_true c, Bool.false_and] at q
    exact q
abbrev N__law_bounds : List Str := ["_law_brief", "_law_tasks", "_law_arrows", "_law_limits", "_law_deadline", "_law_found", "_law_limit", "_law_i", "_law_j", "_law_times"]
theorem sc__law_bounds : FnScope N__law_bounds ["_law_brief"] (defScope (top 37)) := ⟨rfl, rfl, rfl, by decide +kernel, rfl, by decide +kernel, by decide +kernel⟩
-- slots: _law_brief 0, _law_tasks 1, _law_arrows 2, _law_limits 3, _law_deadline 4, _law_found 5, _law_limit 6, _law_i 7, _law_j 8, _law_times 9
set_option maxHeartbeats 8000000 in
theorem k__law_bounds (A : At K mg "_law_bounds" (top 37) ["_law_brief"] f fd) (bi : Bi mg) : Def P w K mg base "_law_bounds" 1 ["_law_brief"] spBounds := by
  refine A.ok sc__law_bounds (fun vs H Q E h => ?_) (fun cdv A outer s H vs Q E hr h => ?_)
  · obtain ⟨i, B, rfl, _⟩ := h
    rfl
  obtain ⟨v, B, rfl, hB, wf, q⟩ := h
  refine ⟨_, (pss_cons (ps_asg (pv 0) (pg_tup rfl (pgs_cons (pg_tup rfl (pgs_cons (pg_name (i := 1) sc__law_bounds.nd rfl (.inl rfl)) (pgs_cons (pg_name (i := 2) sc__law_bounds.nd rfl (.inl rfl)) pgs_nil))) (pgs_cons (pg_name (i := 3) sc__law_bounds.nd rfl (.inl rfl)) (pgs_cons (pg_name (i := 4) sc__law_bounds.nd rfl (.inr rfl)) pgs_nil)))))
    (pss_cons (ps_set (i := 5) sc__law_bounds.nd rfl (.inl rfl) (pe_op op_cat (pe_lc (own := [("_law_limit", 6)]) (g := gName 6) rfl sc__law_bounds.nd (pi_tup (pv 3)) (blkOk_by (own := [("_law_limit", 6)]) (N := N__law_bounds) (sc := defScope (top 37)) (by decide +kernel)) (fun _ _ _ _ _ => (pg_name (i := 6) sc__law_bounds.nd rfl (.inl rfl))) (fun _ _ _ _ _ => pts_nil) (fun _ _ _ _ _ => (pv 6))) (pe_lc (own := [("_law_i", 7), ("_law_j", 8)]) (g := gTup K 2 (gCons (gName 7) (gCons (gName 8) gNil))) rfl sc__law_bounds.nd (pi_tup (pv 2)) (blkOk_by (own := [("_law_i", 7), ("_law_j", 8)]) (N := N__law_bounds) (sc := defScope (top 37)) (by decide +kernel)) (fun _ _ _ _ _ => (pg_tup rfl (pgs_cons (pg_name (i := 7) sc__law_bounds.nd rfl (.inl rfl)) (pgs_cons (pg_name (i := 8) sc__law_bounds.nd rfl (.inl rfl)) pgs_nil)))) (fun _ _ _ _ _ => pts_nil) (fun _ _ _ _ _ => (pe_tup (pa_cons (pe_op op_add (pe_op op_mul pe_int (pv 8)) pe_int) (pa_cons (pe_op op_add (pe_op op_mul pe_int (pv 7)) pe_int) (pa_cons pe_int pa_nil))))))))
    (pss_cons (ps_set (i := 5) sc__law_bounds.nd rfl (.inl rfl) (pe_op op_cat (pv 5) (pe_lc (own := [("_law_i", 7)]) (g := gName 7) rfl sc__law_bounds.nd (pi_range1 (by rfl) bi.range (pa_cons (pe_callB call_len_seq (by rfl) bi.len PySem.boot_len (pa_cons (pv 1) pa_nil)) pa_nil)) (blkOk_by (own := [("_law_i", 7)]) (N := N__law_bounds) (sc := defScope (top 37)) (by decide +kernel)) (fun _ _ _ _ _ => (pg_name (i := 7) sc__law_bounds.nd rfl (.inl rfl))) (fun _ _ _ _ _ => pts_nil) (fun _ _ _ _ _ => (pe_tup (pa_cons pe_int (pa_cons (pe_op op_add (pe_op op_mul pe_int (pv 7)) pe_int) (pa_cons (pv 4) pa_nil))))))))
    (pss_cons (ps_set (i := 5) sc__law_bounds.nd rfl (.inl rfl) (pe_op op_cat (pv 5) (pe_lc (own := [("_law_i", 7)]) (g := gName 7) rfl sc__law_bounds.nd (pi_range1 (by rfl) bi.range (pa_cons (pe_callB call_len_seq (by rfl) bi.len PySem.boot_len (pa_cons (pv 1) pa_nil)) pa_nil)) (blkOk_by (own := [("_law_i", 7)]) (N := N__law_bounds) (sc := defScope (top 37)) (by decide +kernel)) (fun _ _ _ _ _ => (pg_name (i := 7) sc__law_bounds.nd rfl (.inl rfl))) (fun _ _ _ _ _ => pts_nil) (fun _ _ _ _ _ => (pe_tup (pa_cons (pe_op op_add (pe_op op_mul pe_int (pv 7)) pe_int) (pa_cons pe_int (pa_cons pe_int pa_nil))))))))
    (pss_cons (ps_for PassesOwn.never rfl (pi_enumT (by rfl) bi.enumerate (pa_cons (pv 1) pa_nil)) (pg_tup rfl (pgs_cons (pg_name (i := 7) sc__law_bounds.nd rfl (.inl rfl)) (pgs_cons (pg_name (i := 9) sc__law_bounds.nd rfl (.inl rfl)) pgs_nil)))
      (pss_one (ps_set (i := 5) sc__law_bounds.nd rfl (.inl rfl) (pe_op op_cat (pv 5) (pe_lst (pa_cons (pe_tup (pa_cons (pe_op op_add (pe_op op_mul pe_int (pv 7)) pe_int) (pa_cons (pe_op op_add (pe_op op_mul pe_int (pv 7)) pe_int) (pa_cons (pe_ix ix_tup (pv 9) pe_int (fun _ _ => rfl)) pa_nil)))) (pa_cons (pe_tup (pa_cons (pe_op op_add (pe_op op_mul pe_int (pv 7)) pe_int) (pa_cons (pe_op op_add (pe_op op_mul pe_int (pv 7)) pe_int) (pa_cons (pe_un un_neg (pe_ix ix_tup (pv 9) pe_int (fun _ _ => rfl))) pa_nil)))) pa_nil)))))))
    (pss_one (ps_ret (pv 5)))))))), ?_⟩
  obtain ⟨vp, vl, ⟨a, rfl, ha⟩, ⟨vt, va, ⟨ap, rfl, hp⟩, ht, hA⟩, hL⟩ := hB
  obtain ⟨ts, ⟨at', rfl, ht1⟩, ht2⟩ := ht
  obtain ⟨as, ⟨aa, rfl, hA1⟩, hA2⟩ := hA
  obtain ⟨ls, ⟨al, rfl, hL1⟩, hL2⟩ := hL
  have ltm : ts.length = B.m := ht2.length
  have m4 := wf.m4
  have lal : as.length ≤ 16 := by rw [hA2.length]; exact wf.arl
  have lll : ls.length ≤ 20 := by rw [hL2.length]; exact wf.lil
  walk_at "rd"
  refine q_gtup (SqT.of ha) rfl ?_
  walk_at "rd"
  refine q_gtup (SqT.of hp) rfl ?_
  walk_at "rd"
  -- the limits, the arrows
  refine ⟨al, rfl, ⟨ls, SqT.of hL1⟩, fun D0 nD0 => ?_⟩
  refine lc_it (walk_tup (xs := ls)) (fun i H2 => Same H H2 ∧ Rows tV H2 D0 (B.limits.take i)) ⟨same_new nD0, Rows.nil D0⟩ (fun i H2 _ ⟨s2, _⟩ => SqT.of (s2 _ _ hL1)) (fun i x H2 H3 hi ⟨s2, r2⟩ hy => ?_) (fun H1 ⟨s1, r1⟩ => ?_)
  · obtain ⟨rfl, hx⟩ := hy
    obtain ⟨p, hp1, ax, rfl, hax⟩ := paired_get i x hL2 hx
    walk_at "rd"
    refine ⟨rfl, ?_⟩
    walk_at "rd"
    refine iteT ?_
    walk_at "rd"
    obtain ⟨acc, e1, e2, e3, e4⟩ := rows_app s2 nD0 r2 (Same.refl _) (y := .ref ax) ⟨ax, rfl, s2 _ _ hax⟩
    refine ⟨acc, e1, size_ok (by rw [e2, List.length_take]; omega), e3, ?_⟩
    rw [take_snoc hp1]
    exact e4
  rw [List.take_of_length_le (by rw [← hL2.length]; exact Nat.le_refl _)] at r1
  walk_at "rd"
  refine ⟨aa, rfl, ⟨as, SqT.of (s1 _ _ hA1)⟩, fun D nD => ?_⟩
  refine lc_it (walk_tup (xs := as)) (fun i H2 => Same H1 H2 ∧ Rows tV H2 D ((B.arrows.take i).map fun p => (2 * p.2 + 1, 2 * p.1 + 2, 0))) ⟨same_new nD, Rows.nil D⟩ (fun i H2 _ ⟨s2, _⟩ => SqT.of (s2 _ _ (s1 _ _ hA1))) (fun i x H2 H3 hi ⟨s2, r2⟩ hy => ?_) (fun H2 ⟨s2, r2⟩ => ?_)
  · obtain ⟨rfl, hx⟩ := hy
    obtain ⟨p, hp1, ax, rfl, hax⟩ := paired_get i x hA2 hx
    refine q_gtup (SqT.of (s2 _ _ (s1 _ _ hax))) rfl ?_
    walk_at "rd"
    refine ⟨rfl, ?_⟩
    walk_at "rd"
    refine iteT ?_
    walk_at "rd"
    refine ⟨Nat.le_of_ble_eq_true rfl, fun z nz => ?_⟩
    obtain ⟨acc, e1, e2, e3, e4⟩ := rows_app s2 nD r2 (same_new nz) (Tu.new (xs := tV (2 * p.2 + 1, 2 * p.1 + 2, 0)))
    refine ⟨acc, e1, size_ok (by rw [e2, List.length_map, List.length_take]; omega), e3, ?_⟩
    rw [take_snoc hp1, List.map_append]
    exact e4
  rw [List.take_of_length_le (by rw [← hA2.length]; exact Nat.le_refl _)] at r2
  walk_at "rd"
  obtain ⟨xs, zs, g1, g2, l1, l2, gg⟩ := rows_cat (s1.trans s2) (r1.same s2) r2
  rw [List.length_map, ← hA2.length] at l2
  rw [← hL2.length] at l1
  refine ⟨D0, D, xs, zs, rfl, rfl, g1, g2, Nat.le_of_lt (size_ok (by omega)), fun F nF => ?_⟩
  obtain ⟨s3, r3⟩ := gg F nF
  generalize upd H2 F (.lst (xs ++ zs)) = H3 at r3 s3
  clear g1 g2 s2 r2 gg s1 r1
  walk_at "rd"
  -- the deadline's bounds
  refine ⟨at', ts, rfl, .inr (SqT.of (s3 _ _ ht1)), ?_⟩
  walk_at "rd"
  refine ⟨_, rfl, (i62 (by omega)).1, (i62 (by omega)).2, fun D2 nD2 => ?_⟩
  have en : ((ts.length : Int)).toNat = B.m := by omega
  rw [en]
  refine lc_it walk_r0 (fun i H2 => Same H3 H2 ∧ Rows tV H2 D2 (((K95.itsL B.m).take i).map fun i => (0, 2 * i + 2, B.dl))) ⟨same_new nD2, Rows.nil D2⟩ (fun _ _ _ _ => trivial) (fun i x H4 H5 hi ⟨s4, r4⟩ hy => ?_) (fun H4 ⟨s4, r4⟩ => ?_)
  · obtain ⟨rfl, rfl⟩ := hy
    walk_at "rd"
    refine ⟨rfl, ?_⟩
    walk_at "rd"
    refine iteT ?_
    walk_at "rd"
    refine ⟨Nat.le_of_ble_eq_true rfl, fun z nz => ?_⟩
    obtain ⟨acc, e1, e2, e3, e4⟩ := rows_app s4 nD2 r4 (same_new nz) (Tu.new (xs := tV (0, 2 * ((i : Nat) : Int) + 2, B.dl)))
    refine ⟨acc, e1, size_ok (by rw [e2, List.length_map, List.length_take]; omega), e3, ?_⟩
    rw [take_snoc (ints_take hi), List.map_append]
    exact e4
  rw [List.take_of_length_le (by rw [K95.ints_len]; exact Nat.le_refl _)] at r4
  walk_at "rd"
  obtain ⟨xs2, zs2, g1, g2, l3, l4, gg⟩ := rows_cat (s3.trans s4) (r3.same s4) r4
  rw [List.length_map, K95.ints_len] at l4
  rw [List.length_append, List.length_map, ← hL2.length, ← hA2.length] at l3
  refine ⟨F, D2, xs2, zs2, rfl, rfl, g1, g2, Nat.le_of_lt (size_ok (by omega)), fun F2 nF2 => ?_⟩
  obtain ⟨s5, r5⟩ := gg F2 nF2
  generalize upd H4 F2 (.lst (xs2 ++ zs2)) = H6 at r5 s5
  clear g1 g2 s4 r4 r3 s3 gg
  walk_at "rd"
  -- the begins' bounds
  refine ⟨at', ts, rfl, .inr (SqT.of (s5 _ _ ht1)), ?_⟩
  walk_at "rd"
  refine ⟨_, rfl, (i62 (by omega)).1, (i62 (by omega)).2, fun D3 nD3 => ?_⟩
  rw [en]
  refine lc_it walk_r0 (fun i H2 => Same H6 H2 ∧ Rows tV H2 D3 (((K95.itsL B.m).take i).map fun i => (2 * i + 1, 0, 0))) ⟨same_new nD3, Rows.nil D3⟩ (fun _ _ _ _ => trivial) (fun i x H7 H8 hi ⟨s7, r7⟩ hy => ?_) (fun H7 ⟨s7, r7⟩ => ?_)
  · obtain ⟨rfl, rfl⟩ := hy
    walk_at "rd"
    refine ⟨rfl, ?_⟩
    walk_at "rd"
    refine iteT ?_
    walk_at "rd"
    refine ⟨Nat.le_of_ble_eq_true rfl, fun z nz => ?_⟩
    obtain ⟨acc, e1, e2, e3, e4⟩ := rows_app s7 nD3 r7 (same_new nz) (Tu.new (xs := tV (2 * ((i : Nat) : Int) + 1, 0, 0)))
    refine ⟨acc, e1, size_ok (by rw [e2, List.length_map, List.length_take]; omega), e3, ?_⟩
    rw [take_snoc (ints_take hi), List.map_append]
    exact e4
  rw [List.take_of_length_le (by rw [K95.ints_len]; exact Nat.le_refl _)] at r7
  walk_at "rd"
  obtain ⟨xs3, zs3, g1, g2, l5, l6, gg⟩ := rows_cat (s5.trans s7) (r5.same s7) r7
  rw [List.length_map, K95.ints_len] at l6
  rw [List.length_append, List.length_append, List.length_map, List.length_map, K95.ints_len, ← hL2.length, ← hA2.length] at l5
  refine ⟨F2, D3, xs3, zs3, rfl, rfl, g1, g2, Nat.le_of_lt (size_ok (by omega)), fun F3 nF3 => ?_⟩
  obtain ⟨s8, r8⟩ := gg F3 nF3
  have nF3' := free0 (s5.trans s7) nF3
  generalize upd H7 F3 (.lst (xs3 ++ zs3)) = H9 at r8 s8
  clear g1 g2 s7 r7 r5 s5 gg
  walk_at "rd"
  refine ⟨at', ts, rfl, SqT.of (s8 _ _ ht1), ?_⟩
  refine for_it walk_enumT (fun i σ H' => ∃ F y7 y8 y9, σ = [some (.ref a), some (.ref at'), some (.ref aa), some (.ref al), some (.int B.dl), some (.ref F), none, y7, y8, y9] ∧ Same H H' ∧ H F = none ∧
    Rows tV H' F (B.limits ++ B.arrows.map (fun p => (2 * p.2 + 1, 2 * p.1 + 2, 0)) ++ (K95.itsL B.m).map (fun i => (0, 2 * i + 2, B.dl)) ++ (K95.itsL B.m).map (fun i => (2 * i + 1, 0, 0))
      ++ (((K95.itsL B.m).take i).map fun i => [(2 * i + 1, 2 * i + 2, B.hi i), (2 * i + 2, 2 * i + 1, -B.lo i)]).flatten)) ⟨F3, none, none, none, rfl, s8, nF3', by rw [List.take_zero, List.map_nil, List.flatten_nil, List.append_nil]; exact r8⟩
    (fun i σ H' _ ⟨_, _, _, _, _, s9, _⟩ => s9 _ _ ht1) (fun i x σ Ha Hb hi ⟨F, y7, y8, y9, eσ, s9, nF, r9⟩ hy => ?_) (fun σ Ha ⟨F, y7, y8, y9, eσ, s9, nF, r9⟩ => ?_)
  · subst eσ
    obtain ⟨T, ix, z, rfl, nT, rfl, hix, hz⟩ := hy
    cases hix
    obtain ⟨p, hp1, ax, rfl, hax⟩ := paired_get i z ht2 hz
    obtain ⟨elo, ehi⟩ := lo_at hp1
    have sT := same_new (o := .tup [.int (i : Nat), .ref ax]) nT
    refine q_gtup (SqT.of upd_same) rfl ?_
    walk_at "rd"
    refine q_ixT (SqT.of (sT _ _ (s9 _ _ hax))) rfl ?_
    walk_at "rd"
    refine ⟨Nat.le_of_ble_eq_true rfl, fun z1 nz1 => ?_⟩
    have sz1 := same_new (o := .tup [.int (2 * ((i : Nat) : Int) + 1), .int (2 * ((i : Nat) : Int) + 2), .int p.2]) nz1
    have t1 : Tu _ (.ref z1) _ := Tu.new (H := upd Ha T (.tup [.int (i : Nat), .ref ax])) (p := z1) (xs := tV (2 * ((i : Nat) : Int) + 1, 2 * ((i : Nat) : Int) + 2, p.2))
    have s11 := (s9.trans sT).trans sz1
    have r11 := (r9.same sT).same sz1
    generalize upd (upd Ha T (.tup [.int (i : Nat), .ref ax])) z1 (.tup [.int (2 * ((i : Nat) : Int) + 1), .int (2 * ((i : Nat) : Int) + 2), .int p.2]) = Hc at s11 r11 t1
    walk_at "rd"
    refine q_ixT (SqT.of (s11 _ _ hax)) rfl ?_
    walk_at "rd"
    refine ⟨Nat.le_of_ble_eq_true rfl, fun z2 nz2 => ?_⟩
    have sz2 := same_new (o := .tup [.int (2 * ((i : Nat) : Int) + 2), .int (2 * ((i : Nat) : Int) + 1), .int (-p.1)]) nz2
    have t2 : Tu _ (.ref z2) _ := Tu.new (H := Hc) (p := z2) (xs := tV (2 * ((i : Nat) : Int) + 2, 2 * ((i : Nat) : Int) + 1, -p.1))
    have t1 := t1.tps (same_tps sz2)
    have s12 := s11.trans sz2
    have r12 := r11.same sz2
    generalize upd Hc z2 (.tup [.int (2 * ((i : Nat) : Int) + 2), .int (2 * ((i : Nat) : Int) + 1), .int (-p.1)]) = Hd at s12 r12 t1 t2
    walk_at "rd"
    refine ⟨Nat.le_of_ble_eq_true rfl, fun L nL => ?_⟩
    have sL := same_new (o := .lst [.ref z1, .ref z2]) nL
    have rL : Rows tV (upd Hd L (.lst [.ref z1, .ref z2])) L [(2 * ((i : Nat) : Int) + 1, 2 * ((i : Nat) : Int) + 2, p.2), (2 * ((i : Nat) : Int) + 2, 2 * ((i : Nat) : Int) + 1, -p.1)] :=
      ⟨_, upd_same, .cons (t1.tps (same_tps sL)) (.cons (t2.tps (same_tps sL)) .nil)⟩
    have s13 := s12.trans sL
    have r13 := r12.same sL
    generalize upd Hd L (.lst [.ref z1, .ref z2]) = He at s13 r13 rL
    walk_at "rd"
    obtain ⟨acc, e0, f1, f2, f3, f4, gg⟩ := rows_cat s13 r13 rL
    refine ⟨F, L, acc, e0, rfl, rfl, f1, f2, Nat.le_of_lt (size_ok ?_), fun F4 nF4 => ?_⟩
    · rw [f3, f4]
      simp only [List.length_append, List.length_map, K95.ints_len, List.length_flatten]
      rw [← hL2.length, ← hA2.length, List.map_map]
      have := K95.sum_const (List.length ∘ fun i => [(2 * i + 1, 2 * i + 2, B.hi i), (2 * i + 2, 2 * i + 1, -B.lo i)]) 2 ((K95.itsL B.m).take i) fun _ _ => Nat.le_refl 2
      rw [List.length_take, K95.ints_len] at this
      simp only [List.length_cons, List.length_nil]
      omega
    obtain ⟨s14, r14⟩ := gg F4 nF4
    refine ⟨F4, _, _, _, rfl, s14, free0 s13 nF4, ?_⟩
    rw [take_snoc (ints_take (by omega)), List.map_append, List.flatten_append]
    simp only [List.append_assoc, List.map_cons, List.map_nil, List.flatten_cons, List.flatten_nil, List.append_nil, List.cons_append, List.nil_append] at r14 ⊢
    rw [elo, ehi]
    exact r14
  · subst eσ
    rw [List.take_of_length_le (by rw [K95.ints_len]; omega)] at r9
    walk_at "rd"
    exact q F Ha nF s9 r9
end
section
variable {P : Program} {w : World} {K : PySem.W.Frag} {mg : Str → Option Value} {base : Heap} {f C : Addr} {fd : FuncData}
theorem q_eqS {H : Hp} {Q : VK} {a b : Str} {c : Bool} (e : decide (V.str a = V.str b) = c) (q : Q (.bl c) H) : rEq (.str a) (.str b) H Q := ⟨rfl, by rw [e]; exact q⟩
abbrev N__law_breaks : List Str := ["_law_situation", "_law_line", "_law_t", "_law_happened", "_law_kind", "_law_one", "_law_event", "_law_w", "_law_there"]
theorem sc__law_breaks : FnScope N__law_breaks ["_law_situation", "_law_line"] (defScope (top 49)) := ⟨rfl, rfl, rfl, by decide +kernel, rfl, by decide +kernel, by decide +kernel⟩
-- slots: _law_situation 0, _law_line 1, _law_t 2, _law_happened 3, _law_kind 4, _law_one 5, _law_event 6, _law_w 7, _law_there 8
set_option maxHeartbeats 8000000 in
theorem k__law_breaks (A : At K mg "_law_breaks" (top 49) ["_law_situation", "_law_line"] f fd) : Def P w K mg base "_law_breaks" 1 ["_law_situation", "_law_line"] spBrk := by
  refine A.ok sc__law_breaks (fun vs H Q E h => ?_) (fun cdv A outer s H vs Q E hr h => ?_)
  · obtain ⟨v, vl, t, hs, x, rfl, _⟩ := h
    rfl
  obtain ⟨v, vl, t, hs, x, rfl, ⟨d, ⟨sa, rfl, h1⟩, hd⟩, ⟨rr, ⟨la, rfl, hla⟩, _⟩, q⟩ := h
  have hu := hu_of hr
  refine ⟨_, (pss_cons (ps_asg (pe_tup (pa_cons (pv 0) (pa_cons (pe_slice sl_tupA (pv 1) po_none (po_some pe_int)) pa_nil))) (pg_tup rfl (pgs_cons (pg_tup rfl (pgs_cons (pg_name (i := 2) sc__law_breaks.nd rfl (.inl rfl)) (pgs_cons (pg_name (i := 3) sc__law_breaks.nd rfl (.inl rfl)) pgs_nil))) (pgs_cons (pg_tup rfl (pgs_cons (pg_name (i := 4) sc__law_breaks.nd rfl (.inl rfl)) (pgs_cons (pg_name (i := 5) sc__law_breaks.nd rfl (.inl rfl)) (pgs_cons (pg_name (i := 6) sc__law_breaks.nd rfl (.inl rfl)) (pgs_cons (pg_name (i := 7) sc__law_breaks.nd rfl (.inl rfl)) pgs_nil))))) pgs_nil))))
    (pss_cons (ps_set (i := 8) sc__law_breaks.nd rfl (.inl rfl) (pe_dget2 hu (pv 3) (pv 6) (pe_op op_add (pv 2) pe_int) ⟨rfl, rfl, rfl, rfl⟩))
    (pss_cons (ps_if (pt_cmpR op_eq (pv 4) pe_str (nomark _))
      (pss_one (ps_ret (pe_or (pe_and (pe_cmpR op_eq (pv 5) (pv 6) (nomark _)) (pe_one (pe_cmpR op_lt (pv 7) pe_int (nomark _)))) (pe_one (pe_and (pe_cmp (pc_din hu (pv 5) (pv 3)) rfl) (pe_one (pe_cmpR op_gt (pe_op op_sub (pv 8) (pe_dget hu (pv 3) (pv 5) (fun _ _ => rfl))) (pv 7) (nomark _))))))))
      pss_nil)
    (pss_cons (ps_if (PW.pt (pw_or (pt_cmp (pc_dnotin hu (pv 6) (pv 3))) (pw_or1 (pt_cmpR op_ge (pv 8) (pe_dget2 hu (pv 3) (pe_op op_add (pe_op op_mul pe_int (pv 5)) pe_int) (pe_op op_add (pv 2) pe_int) ⟨rfl, rfl, rfl, rfl⟩) (nomark _)))))
      (pss_one (ps_ret pe_bl))
      pss_nil)
    (pss_one (ps_ret (pe_cmpR op_lt (pe_op op_sub (pv 8) (pe_dget2 hu (pv 3) (pe_op op_add (pe_op op_mul pe_int (pv 5)) pe_int) (pe_op op_add (pv 2) pe_int) ⟨rfl, rfl, rfl, rfl⟩)) (pv 7) (nomark _)))))))), ?_⟩
  walk_at "rd"
  refine ⟨la, _, rfl, SqT.of hla, fun h => absurd h (sl4 _ _ _ _ _), fun _ z nz => ?_⟩
  have s1 := same_new (o := .tup (cutV [kiV x.wt, .int x.a, .int x.b, .int x.w, rr] none (some 4))) nz
  have hz : (upd H z (.tup (cutV [kiV x.wt, .int x.a, .int x.b, .int x.w, rr] none (some 4)))) z = some (.tup [kiV x.wt, .int x.a, .int x.b, .int x.w]) := upd_same
  generalize upd H z (.tup (cutV [kiV x.wt, .int x.a, .int x.b, .int x.w, rr] none (some 4))) = H0 at s1 hz
  walk_at "rd"
  refine ⟨Nat.le_of_ble_eq_true rfl, fun z2 nz2 => ?_⟩
  have s2 := same_new (o := .tup [.ref sa, .ref z]) nz2
  have hz2 : (upd H0 z2 (.tup [.ref sa, .ref z])) z2 = some (.tup [.ref sa, .ref z]) := upd_same
  have hz := s2 _ _ hz
  have s1 := s1.trans s2
  generalize upd H0 z2 (.tup [.ref sa, .ref z]) = H1 at s1 hz hz2
  have hd1 := s1 _ _ hd
  walk_at "rd"
  refine q_gtup (SqT.of hz2) rfl ?_
  walk_at "rd"
  refine q_gtup (SqT.of (s1 _ _ h1)) rfl ?_
  walk_at "rd"
  refine q_gtup (SqT.of hz) rfl ?_
  walk_at "rd"
  refine ⟨d, rfl, .inl ⟨_, .inl hd1⟩, ?_⟩
  walk_at "rd"
  refine ⟨_, hget (.inl hd1) x.b, ?_⟩
  rw [hat_get]
  walk_at "rd"
  cases hw : x.wt with
  | false =>
    refine ⟨rfl, ?_⟩
    rw [show decide (kiV false = V.str "most") = true by decide +kernel]
    walk_at "rd"
    refine iteT ?_
    walk_at "rd"
    have qq : ∀ r : Bool, r = ((decide (x.a = x.b) && decide (x.w < 0)) || ((K95.look hs x.a).isSome && decide (x.w < K95.hat t (K95.look hs) x.b - (K95.look hs x.a).getD 0))) → Q (.bl r) H1 := fun r er => q r H1 (by
      rw [er, brk_most hw, Bool.or_eq_true, Bool.and_eq_true, Bool.and_eq_true, decide_eq_true_eq, decide_eq_true_eq, decide_eq_true_eq]
      constructor
      · rintro (h | ⟨h2, h3⟩)
        · exact .inl h
        · obtain ⟨p, hp⟩ := Option.isSome_iff_exists.mp h2
          rw [hp] at h3
          exact .inr ⟨p, hp, h3⟩
      · rintro (h | ⟨p, hp, h⟩)
        · exact .inl h
        · rw [hp]
          exact .inr ⟨rfl, h⟩) s1
    have g0 := hget (.inl hd1) x.a
    refine ite2 (fun c1 => ?_) (fun c1 => ?_)
    · walk_at "rd"
      refine ite2 (fun c2 => ?_) (fun c2 => ?_)
      · exact qq _ (by rw [c1, c2]; simp)
      · walk_at "rd"
        refine ⟨d, _, rfl, g0, ?_⟩
        rw [Option.isSome_map]
        walk_at "rd"
        cases hp : K95.look hs x.a with
        | none =>
          refine iteF ?_
          exact qq _ (by rw [hp, eq_false_of_ne_true c2]; simp)
        | some p =>
          rw [hp] at g0
          refine iteT ?_
          walk_at "rd"
          refine ⟨d, _, rfl, g0, ?_⟩
          walk_at "rd"
          exact qq _ (by rw [hp, eq_false_of_ne_true c2]; simp)
    · walk_at "rd"
      refine iteF ?_
      walk_at "rd"
      refine ⟨d, _, rfl, g0, ?_⟩
      rw [Option.isSome_map]
      walk_at "rd"
      cases hp : K95.look hs x.a with
      | none =>
        refine iteF ?_
        exact qq _ (by rw [hp, eq_false_of_ne_true c1]; simp)
      | some p =>
        rw [hp] at g0
        refine iteT ?_
        walk_at "rd"
        refine ⟨d, _, rfl, g0, ?_⟩
        walk_at "rd"
        exact qq _ (by rw [hp, eq_false_of_ne_true c1]; simp)
  | true =>
    refine ⟨rfl, ?_⟩
    rw [show decide (kiV true = V.str "most") = false by decide +kernel]
    walk_at "rd"
    refine iteF ?_
    have g0 := hget (.inl hd1) x.b
    have g1 := hget (.inl hd1) (2 * x.a + 1)
    have g2 := hget (.inl hd1) (2 * x.a + 2)
    walk_at "rd"
    refine useT (c := !(K95.look hs x.b).isSome || decide (K95.hat t (K95.look hs) (2 * x.a + 2) ≤ K95.hat t (K95.look hs) x.b)) (tst_or (fun Qb q => ?_) fun _ => (fun Qb q => ?_)) ?_
    · walk_at "rd"
      refine ⟨d, _, rfl, g0, ?_⟩
      rw [Option.isSome_map]
      walk_at "rd"
      exact q
    · walk_at "rd"
      refine ⟨d, rfl, .inl ⟨_, .inl hd1⟩, ?_⟩
      walk_at "rd"
      refine ⟨_, g2, ?_⟩
      rw [hat_get]
      walk_at "rd"
      exact q
    refine ite2 (fun c => ?_) (fun c => ?_)
    · walk_at "rd"
      refine q false _ ⟨(fun z => nomatch z), fun z => ?_⟩ s1
      rw [brk_wait hw] at z
      obtain ⟨p, hp, l1, l2⟩ := z
      rw [hp, K95.hat_some hp] at c
      have : K95.hat t (K95.look hs) (2 * x.a + 2) ≤ p := by simpa using c
      omega
    · walk_at "rd"
      refine ⟨d, rfl, .inl ⟨_, .inl hd1⟩, ?_⟩
      walk_at "rd"
      refine ⟨_, g1, ?_⟩
      rw [hat_get]
      walk_at "rd"
      cases hp : K95.look hs x.b with
      | none => rw [hp] at c; exact absurd rfl c
      | some p =>
        rw [hp] at c
        refine q _ _ ?_ s1
        rw [brk_wait hw, decide_eq_true_eq, K95.hat_some hp]
        rw [K95.hat_some hp] at c
        have c : ¬ K95.hat t (K95.look hs) (2 * x.a + 2) ≤ p := fun z => c (by simp [z])
        exact ⟨fun h => ⟨p, hp, by omega, h⟩, fun ⟨p', hp', _, h⟩ => by
          rw [hp] at hp'
          cases hp'
          exact h⟩
/-- what a reason without earlier lines gives -/
def spAlone : Sp := fun vs H Q _ => ∃ vb B, B.WF ∧ IsBr H vb B ∧ ((∃ k p, vs = [vb, .str "bound", .int ((k : Nat) : Int)] ∧ (K95.bounds B)[k]? = some p ∧ ∀ v H', Same H H' → Tu H' v (.str "most" :: tV p) → Q v H') ∨
  ∃ i, vs = [vb, .str "high", .int ((i : Nat) : Int)] ∧ i < B.m ∧ ∀ v H', Same H H' → Tu H' v [.str "wait", .int (i : Int), .int (2 * (i : Int) + 2), .int (B.hi i)] → Q v H')
abbrev N__law_gives_alone : List Str := ["_law_brief", "_law_word", "_law_k"]
theorem sc__law_gives_alone : FnScope N__law_gives_alone ["_law_brief", "_law_word", "_law_k"] (defScope (top 38)) := ⟨rfl, rfl, rfl, by decide +kernel, rfl, by decide +kernel, by decide +kernel⟩
-- slots: _law_brief 0, _law_word 1, _law_k 2
set_option maxHeartbeats 8000000 in
theorem k__law_gives_alone (A : At K mg "_law_gives_alone" (top 38) ["_law_brief", "_law_word", "_law_k"] f fd) (bi : Bi mg) (D_law_between : Def P w K mg base "_law_between" 1 ["_law_value", "_law_low", "_law_high"] spBetw) (D_law_bounds : Def P w K mg base "_law_bounds" 1 ["_law_brief"] spBounds) :
    Def P w K mg base "_law_gives_alone" 2 ["_law_brief", "_law_word", "_law_k"] spAlone := by
  refine A.ok sc__law_gives_alone (fun vs H Q E h => ?_) (fun cdv A outer s H vs Q E hr h => ?_)
  · obtain ⟨vb, B, wf, hB, ⟨k, p, rfl, _⟩ | ⟨i, rfl, _⟩⟩ := h <;> rfl
  obtain ⟨vb, B, wf, hB, h⟩ := h
  obtain ⟨k, p, rfl, hp, q⟩ | ⟨i, rfl, hi, q⟩ := h
  · have hu := hu_of hr
    refine ⟨_, (pss_cons (ps_if (PW.pt (pw_and (pt_cmpR op_eq (pv 1) pe_str (nomark _)) (pw_and1 (pt_val (pe_d D_law_between hr (by rfl) (pa_cons (pv 2) (pa_cons pe_int (pa_cons (pe_op op_sub (pe_callB call_len_seq (by rfl) bi.len PySem.boot_len (pa_cons (pe_d D_law_bounds hr (by rfl) (pa_cons (pv 0) pa_nil)) pa_nil)) pe_int) pa_nil))))))))
      (pss_one (ps_ret (pe_op op_catA (pe_tup (pa_cons pe_str pa_nil)) (pe_ix ix_list (pe_d D_law_bounds hr (by rfl) (pa_cons (pv 0) pa_nil)) (pv 2) (fun _ _ => rfl)))))
      pss_nil)
    (pss_cons (ps_if (PW.pt (pw_and (pt_cmpR op_eq (pv 1) pe_str (nomark _)) (pw_and1 (pt_val (pe_d D_law_between hr (by rfl) (pa_cons (pv 2) (pa_cons pe_int (pa_cons (pe_op op_sub (pe_callB call_len_seq (by rfl) bi.len PySem.boot_len (pa_cons (pe_ix ix_tup (pe_ix ix_tup (pv 0) pe_int (fun _ _ => rfl)) pe_int (fun _ _ => rfl)) pa_nil)) pe_int) pa_nil))))))))
      (pss_one (ps_ret (pe_tup (pa_cons pe_str (pa_cons (pv 2) (pa_cons (pe_op op_add (pe_op op_mul pe_int (pv 2)) pe_int) (pa_cons (pe_ix ix_tup (pe_ix ix_tup (pe_ix ix_tup (pe_ix ix_tup (pv 0) pe_int (fun _ _ => rfl)) pe_int (fun _ _ => rfl)) (pv 2) (fun _ _ => rfl)) pe_int (fun _ _ => rfl)) pa_nil)))))))
      pss_nil)
    (pss_one (ps_ret pe_non)))), ?_⟩
    walk_at "rd"
    have lk := K95.lt_of_get hp
    refine q_and ?_
    walk_at "rd"
    refine q_eqS (c := true) (by decide +kernel) ?_
    walk_at "rd"
    refine iteT ?_
    walk_at "rd"
    refine ⟨vb, B, rfl, hB, wf, fun D H1 nD s1 r1 => ?_⟩
    obtain ⟨us, hD, pu⟩ := r1
    have lu := pu.length
    walk_at "rd"
    refine ⟨D, us, rfl, .inl (SqL.of hD), ?_⟩
    walk_at "rd"
    refine ⟨_, _, _, rfl, ?_⟩
    rw [show (decide ((0 : Int) ≤ (k : Int)) && decide ((k : Int) ≤ (us.length : Int) - 1)) = true by simp; omega]
    walk_at "rd"
    refine iteT ?_
    walk_at "rd"
    refine ⟨Nat.le_of_ble_eq_true rfl, fun z nz => ?_⟩
    have s2 := same_new (o := .tup [.str "most"]) nz
    have hz : (upd H1 z (.tup [.str "most"])) z = some (.tup [.str "most"]) := upd_same
    generalize upd H1 z (.tup [.str "most"]) = H2 at s2 hz
    walk_at "rd"
    refine ⟨vb, B, rfl, hB.same (s1.trans s2), wf, fun D2 H3 nD2 s3 r3 => ?_⟩
    obtain ⟨us, hD, pu⟩ := r3
    obtain ⟨u, hu, ⟨ua, rfl, hua⟩⟩ := paired_get2 k p pu hp
    walk_at "rd"
    refine q_ixL (SqL.of hD) (atN hu) ?_
    refine ⟨z, ua, _, _, rfl, rfl, SqT.of (s3 _ _ hz), SqT.of hua, Nat.le_of_ble_eq_true rfl, (fun h => nomatch h), (fun _ h => nomatch h), fun _ _ y ny => ?_⟩
    exact q _ _ (((s1.trans s2).trans s3).trans (same_new ny)) (Tu.new (xs := .str "most" :: tV p))
  · have hu := hu_of hr
    refine ⟨_, (pss_cons (ps_if (PW.pt (pw_and (pt_cmpR op_eq (pv 1) pe_str (nomark _)) (pw_and1 (pt_val (pe_d D_law_between hr (by rfl) (pa_cons (pv 2) (pa_cons pe_int (pa_cons (pe_op op_sub (pe_callB call_len_seq (by rfl) bi.len PySem.boot_len (pa_cons (pe_d D_law_bounds hr (by rfl) (pa_cons (pv 0) pa_nil)) pa_nil)) pe_int) pa_nil))))))))
      (pss_one (ps_ret (pe_op op_catA (pe_tup (pa_cons pe_str pa_nil)) (pe_ix ix_list (pe_d D_law_bounds hr (by rfl) (pa_cons (pv 0) pa_nil)) (pv 2) (fun _ _ => rfl)))))
      pss_nil)
    (pss_cons (ps_if (PW.pt (pw_and (pt_cmpR op_eq (pv 1) pe_str (nomark _)) (pw_and1 (pt_val (pe_d D_law_between hr (by rfl) (pa_cons (pv 2) (pa_cons pe_int (pa_cons (pe_op op_sub (pe_callB call_len_seq (by rfl) bi.len PySem.boot_len (pa_cons (pe_ix ix_tup (pe_ix ix_tup (pv 0) pe_int (fun _ _ => rfl)) pe_int (fun _ _ => rfl)) pa_nil)) pe_int) pa_nil))))))))
      (pss_one (ps_ret (pe_tup (pa_cons pe_str (pa_cons (pv 2) (pa_cons (pe_op op_add (pe_op op_mul pe_int (pv 2)) pe_int) (pa_cons (pe_ix ix_tup (pe_ix ix_tup (pe_ix ix_tup (pe_ix ix_tup (pv 0) pe_int (fun _ _ => rfl)) pe_int (fun _ _ => rfl)) (pv 2) (fun _ _ => rfl)) pe_int (fun _ _ => rfl)) pa_nil)))))))
      pss_nil)
    (pss_one (ps_ret pe_non)))), ?_⟩
    walk_at "rd"
    refine q_and ?_
    walk_at "rd"
    refine q_eqS (c := false) (by decide +kernel) ?_
    walk_at "rd"
    refine iteF ?_
    walk_at "rd"
    refine iteF ?_
    walk_at "rd"
    refine q_and ?_
    walk_at "rd"
    refine q_eqS (c := true) (by decide +kernel) ?_
    walk_at "rd"
    refine iteT ?_
    obtain ⟨a, ap, at', ts, vl, rfl, ⟨va, b1, b2⟩, b3, pt, lts⟩ := hB.parts
    walk_at "rd"
    refine q_ixT (SqT.of b1) rfl ?_
    walk_at "rd"
    refine q_ixT (SqT.of b2) rfl ?_
    walk_at "rd"
    refine ⟨at', ts, rfl, .inr (SqT.of b3), ?_⟩
    walk_at "rd"
    refine ⟨_, _, _, rfl, ?_⟩
    rw [show (decide ((0 : Int) ≤ (i : Int)) && decide ((i : Int) ≤ (ts.length : Int) - 1)) = true by simp; omega]
    walk_at "rd"
    refine iteT ?_
    have lti : i < B.tasks.length := hi
    have hpi : B.tasks[i]? = some B.tasks[i] := List.getElem?_eq_getElem lti
    obtain ⟨elo, ehi⟩ := lo_at hpi
    obtain ⟨u, hu', ⟨ua, rfl, hua⟩⟩ := paired_get2 i _ pt hpi
    walk_at "rd"
    refine q_ixT (SqT.of b1) rfl ?_
    walk_at "rd"
    refine q_ixT (SqT.of b2) rfl ?_
    walk_at "rd"
    refine q_ixT (SqT.of b3) (atN hu') ?_
    walk_at "rd"
    refine q_ixT (SqT.of hua) rfl ?_
    walk_at "rd"
    refine ⟨Nat.le_of_ble_eq_true rfl, fun y ny => ?_⟩
    rw [← ehi]
    exact q _ _ (same_new ny) Tu.new
end
section
variable {P : Program} {w : World} {K : PySem.W.Frag} {mg : Str → Option Value} {base : Heap} {f C : Addr} {fd : FuncData}
theorem inS_val {a : Str} {xs : List V} {c : Bool} (e : inV (.str a) xs = c) (l : Addr) {H : Hp} {Q : VK} (h : SqL K H l xs) (fx : xs.all flatV = true) (q : Q (.bl c) H) : rIn K false (.str a) (.ref l) H Q := ⟨l, xs, rfl, .inl h, rfl, fx, by rw [e]; exact q⟩
def k1R : K95.Rs → Nat
  | .bound k => k
  | .high k => k
  | .sum k _ => k
  | .delay k _ => k
  | .early k => k
  | .ahead k => k
  | .floor k => k
def k2R : K95.Rs → List Nat
  | .sum _ k => [k]
  | .delay _ k => [k]
  | _ => []
theorem rs_k (r : K95.Rs) : rsV r = .str (wdR r) :: (k1R r :: k2R r).map nV := by cases r <;> rfl
theorem k2_len (r : K95.Rs) : (k2R r).length ≤ 1 := by cases r <;> simp [k2R]
theorem wd_al (r : K95.Rs) : inV (.str (wdR r)) [.str "bound", .str "high"] = isAl r := by
  obtain ⟨_, _, h, _⟩ := rs_head r
  exact h
theorem gives_lt {B : K95.Br} {l : List K95.Ln} {r : K95.Rs} {p : Bool × Int × Int × Int} (h : K95.gives B l r = some p) (ha : isAl r = false) : ∀ n ∈ k1R r :: k2R r, n < l.length := by
  have key : ∀ n, l[n]? = none → K95.gives B l r = some p → n ∈ k1R r :: k2R r → False := fun n hn h hm => by
    cases r with
    | bound k => cases ha
    | high k => cases ha
    | sum k j =>
      simp only [k1R, k2R, List.mem_cons, List.not_mem_nil, or_false] at hm
      rcases hm with rfl | rfl
      · simp [K95.gives, hn] at h
      · cases hk : l[k]? <;> simp [K95.gives, hn, hk] at h
    | delay k j =>
      simp only [k1R, k2R, List.mem_cons, List.not_mem_nil, or_false] at hm
      rcases hm with rfl | rfl
      · simp [K95.gives, hn] at h
      · cases hk : l[k]? <;> simp [K95.gives, hn, hk] at h
    | early k =>
      simp only [k1R, k2R, List.mem_cons, List.not_mem_nil, or_false] at hm
      subst hm
      simp [K95.gives, hn] at h
    | ahead k =>
      simp only [k1R, k2R, List.mem_cons, List.not_mem_nil, or_false] at hm
      subst hm
      simp [K95.gives, hn] at h
    | floor k =>
      simp only [k1R, k2R, List.mem_cons, List.not_mem_nil, or_false] at hm
      subst hm
      simp [K95.gives, hn] at h
  intro n hm
  apply Classical.byContradiction
  intro c
  exact key n (List.getElem?_eq_none (by omega)) h hm
theorem ifs_some {α : Type} {c : Prop} [Decidable c] {x p : α} (h : (if c then some x else none) = some p) : c ∧ x = p := by
  by_cases hc : c
  · rw [if_pos hc] at h
    exact ⟨hc, Option.some.inj h⟩
  · rw [if_neg hc] at h
    cases h
section
variable {B : K95.Br} {l : List K95.Ln} {p : Bool × Int × Int × Int}
theorem gv_bound {n : Nat} (h : K95.gives B l (.bound n) = some p) : ∃ q, (K95.bounds B)[n]? = some q ∧ p = (false, q) := by
  have h : ((K95.bounds B)[n]?.map fun p => (false, p)) = some p := h
  cases e : (K95.bounds B)[n]? with
  | none => rw [e] at h; cases h
  | some q => rw [e] at h; exact ⟨q, rfl, (Option.some.inj h).symm⟩
theorem gv_high {n : Nat} (h : K95.gives B l (.high n) = some p) : n < B.m ∧ p = (true, (n : Int), 2 * (n : Int) + 2, B.hi n) := by
  obtain ⟨a, b⟩ := ifs_some (show (if n < B.m then some (true, (n : Int), 2 * (n : Int) + 2, B.hi n) else none) = some p from h)
  exact ⟨a, b.symm⟩
theorem gv_sum {k j : Nat} (h : K95.gives B l (.sum k j) = some p) : ∃ x y, l[k]? = some x ∧ l[j]? = some y ∧ x.wt = false ∧ y.wt = false ∧ y.a = x.b ∧ p = (false, x.a, y.b, x.w + y.w) := by
  cases hk : l[k]? with
  | none => simp [K95.gives, hk] at h
  | some x =>
    cases hj : l[j]? with
    | none => simp [K95.gives, hk, hj] at h
    | some y =>
      simp only [K95.gives, hk, hj] at h
      obtain ⟨⟨a, b, c⟩, e⟩ := ifs_some h
      exact ⟨x, y, rfl, rfl, a, b, c, e.symm⟩
theorem gv_delay {k j : Nat} (h : K95.gives B l (.delay k j) = some p) : ∃ x y, l[k]? = some x ∧ l[j]? = some y ∧ x.wt = true ∧ y.wt = false ∧ y.b = x.b ∧ y.a ≠ 2 * x.a + 2 ∧ p = (true, x.a, y.a, min (B.hi x.a) (x.w - y.w)) := by
  cases hk : l[k]? with
  | none => simp [K95.gives, hk] at h
  | some x =>
    cases hj : l[j]? with
    | none => simp [K95.gives, hk, hj] at h
    | some y =>
      simp only [K95.gives, hk, hj] at h
      obtain ⟨⟨a, b, c, d⟩, e⟩ := ifs_some h
      exact ⟨x, y, rfl, rfl, a, b, c, d, e.symm⟩
theorem gv_early {k : Nat} (h : K95.gives B l (.early k) = some p) : ∃ x, l[k]? = some x ∧ x.wt = false ∧ K95.isE x.a = true ∧ x.w < 0 ∧ p = (false, x.a - 1, x.b, B.lo (K95.own x.a) + x.w) := by
  cases hk : l[k]? with
  | none => simp [K95.gives, hk] at h
  | some x =>
    simp only [K95.gives, hk] at h
    obtain ⟨⟨a, b, c⟩, e⟩ := ifs_some h
    exact ⟨x, rfl, a, b, c, e.symm⟩
theorem gv_ahead {k : Nat} (h : K95.gives B l (.ahead k) = some p) : ∃ x, l[k]? = some x ∧ x.wt = true ∧ K95.isE x.b = true ∧ K95.own x.b ≠ x.a ∧ 0 < x.w ∧ p = (true, x.a, x.b - 1, x.w - B.lo (K95.own x.b)) := by
  cases hk : l[k]? with
  | none => simp [K95.gives, hk] at h
  | some x =>
    simp only [K95.gives, hk] at h
    obtain ⟨⟨a, b, c, d⟩, e⟩ := ifs_some h
    exact ⟨x, rfl, a, b, c, d, e.symm⟩
theorem gv_floor {k : Nat} (h : K95.gives B l (.floor k) = some p) : ∃ x, l[k]? = some x ∧ x.wt = true ∧ p = (false, x.b, 2 * x.a + 1, -(min x.w (B.lo x.a))) := by
  cases hk : l[k]? with
  | none => simp [K95.gives, hk] at h
  | some x =>
    simp only [K95.gives, hk] at h
    obtain ⟨a, e⟩ := ifs_some h
    exact ⟨x, rfl, a, e.symm⟩
end
theorem tst_s {σ : L2.St} {H : Hp} {i : Nat} {a b : Str} {c : Bool} (hv : σ[i]? = some (some (.str a))) (e : decide (V.str a = V.str b) = c) : Tst (tTest (tOp rEq (tVar i) (tC (.str b)))) σ H c := fun Qb q => ⟨_, hv, rfl, by rw [e]; exact ⟨_, rfl, q⟩⟩
/-- the bounds of a task, in the heap -/
theorem dur_at {B : K95.Br} {H : Hp} {ts : List V} (pt : Paired (fun v p => Tu H v (pV p)) ts B.tasks) {i : Int} (t : B.Tk i) : ∃ u, atI ts i = some (.ref u) ∧ H u = some (.tup [.int (B.lo i), .int (B.hi i)]) := by
  obtain ⟨t0, t1⟩ := t
  have e : ((i.toNat : Nat) : Int) = i := by omega
  have lti : i.toNat < B.tasks.length := by
    have : B.m = B.tasks.length := rfl
    omega
  have hpi : B.tasks[i.toNat]? = some B.tasks[i.toNat] := List.getElem?_eq_getElem lti
  obtain ⟨elo, ehi⟩ := lo_at hpi
  rw [e] at elo ehi
  obtain ⟨u, hu', ⟨ua, rfl, hua⟩⟩ := paired_get2 i.toNat _ pt hpi
  have ha := atN hu'
  rw [e] at ha
  exact ⟨ua, ha, by rw [elo, ehi]; exact hua⟩
end
/-! ### lines, briefs, situations as data; how long their texts are -/
section
theorem tf_len : ∀ (ts : List Str) (k : Nat) (acc : Str), (textFrom k acc ts).length ≤ acc.length + piled ts
  | [], k, acc => Nat.le_refl _
  | t :: r, k, acc => by
    have h := tf_len r (k + 1) (acc ++ (if k > 0 then ", " else "" : String) ++ t)
    have e : (acc ++ (if k > 0 then ", " else "" : String) ++ t).length = acc.length + (if k > 0 then 2 else 0) + t.length := by
      rw [strLen_append, strLen_append]
      split <;> rfl
    rw [e] at h
    rw [piled_cons]
    show (textFrom (k + 1) (acc ++ (if k > 0 then ", " else "" : String) ++ t) r).length ≤ _
    have : (if k > 0 then 2 else 0 : Nat) ≤ 2 := by split <;> omega
    omega
theorem lt_len (ts : List Str) : (listText ts).length ≤ piled ts + 2 := by
  unfold listText
  rw [strLen_append]
  have h := tf_len ts 0 "["
  have e1 : (("[" : String) : Str).length = 1 := rfl
  have e2 : (("]" : String) : Str).length = 1 := rfl
  omega
theorem tt_len (ts : List Str) : (tupleText ts).length ≤ piled ts + 2 := by
  unfold tupleText
  rw [strLen_append, strLen_append]
  have e1 : (("(" : String) : Str).length = 1 := rfl
  cases ts with
  | nil => decide
  | cons t r =>
    have h := join_length_add (t :: r) (by simp)
    have e3 : (((if (t :: r).length == 1 then ",)" else ")" : String) : Str)).length ≤ 2 := by split <;> decide
    omega
theorem dt_len (ts : List Str) : (dictText ts).length ≤ piled ts + 2 := by
  unfold dictText
  rw [strLen_append, strLen_append]
  have e1 : (("{" : String) : Str).length = 1 := rfl
  have e2 : (("}" : String) : Str).length = 1 := rfl
  cases ts with
  | nil => decide
  | cons t r =>
    have h := join_length_add (t :: r) (by simp)
    omega
theorem piled_le {n : Nat} : ∀ {ts : List Str}, (∀ t ∈ ts, t.length + 2 ≤ n) → piled ts ≤ n * ts.length
  | [], _ => Nat.le_refl _
  | t :: r, h => by
    rw [piled_cons, List.length_cons, Nat.mul_succ]
    have := h t List.mem_cons_self
    have := piled_le (ts := r) fun x hx => h x (List.mem_cons_of_mem _ hx)
    omega
theorem shownAll_map (l : List PyData) : PyData.shownAll l = l.map PyData.shown := by
  induction l with
  | nil => rfl
  | cons d r ih => show d.shown :: PyData.shownAll r = _; rw [ih]; rfl
theorem int_len {i : Int} {k : Nat} (hk : 0 < k) (h : i.natAbs < 10 ^ k) : (PyData.int i).shown.length ≤ k + 1 := by
  show (Str.ofString (toString i)).length ≤ _
  rw [PySem.ofString_length]
  exact int_text_length_le10 hk h
theorem int_sh {i : Int} (h : i.natAbs < 10 ^ 241) : (PyData.int i).showable = true := by
  show decide (i.natAbs.log2 < 1920) = true
  rw [decide_eq_true_eq]
  by_cases z : i.natAbs = 0
  · rw [z]; decide
  · exact (Nat.log2_lt z).mpr (Nat.lt_trans h (by decide +kernel))
/-- the text of d is at most n long, and shown -/
structure Tx (n k : Nat) (d : PyData) : Prop where
  len : d.shown.length ≤ n
  sh : d.showable = true
  dp : d.depth ≤ k
theorem Tx.int {i : Int} {k : Nat} (hk : 0 < k) (h : i.natAbs < 10 ^ k) (h2 : i.natAbs < 10 ^ 241) : Tx (k + 1) 0 (.int i) := ⟨int_len hk h, int_sh h2, Nat.le_refl _⟩
theorem Tx.sm {i : Int} (h : i.natAbs < 10 ^ 5) : Tx 6 0 (.int i) := .int (by decide) h (Nat.lt_trans h (by decide +kernel))
theorem Tx.mono {n k m j : Nat} {d : PyData} (h : Tx n k d) (l : n ≤ m) (l2 : k ≤ j) : Tx m j d := ⟨Nat.le_trans h.len l, h.sh, Nat.le_trans h.dp l2⟩
theorem shAll {ds : List PyData} (h : ∀ d ∈ ds, d.showable = true) : PyData.showableAll ds = true := by
  induction ds with
  | nil => rfl
  | cons d r ih => show (d.showable && PyData.showableAll r) = true; rw [h d List.mem_cons_self, ih fun x hx => h x (List.mem_cons_of_mem _ hx)]; rfl
theorem dpAll {k : Nat} {ds : List PyData} (h : ∀ d ∈ ds, d.depth ≤ k) : PyData.depthAll ds ≤ k := by
  induction ds with
  | nil => exact Nat.zero_le _
  | cons d r ih => exact Nat.max_le.mpr ⟨h d List.mem_cons_self, ih fun x hx => h x (List.mem_cons_of_mem _ hx)⟩
/-- a row of texts: piled to at most n -/
inductive TxA (k : Nat) : Nat → List PyData → Prop
  | nil : TxA k 0 []
  | cons {n m : Nat} {d : PyData} {ds : List PyData} : Tx n k d → TxA k m ds → TxA k (n + 2 + m) (d :: ds)
theorem TxA.all {k n : Nat} {ds : List PyData} (h : TxA k n ds) : piled (PyData.shownAll ds) ≤ n ∧ PyData.showableAll ds = true ∧ PyData.depthAll ds ≤ k := by
  induction h with
  | nil => exact ⟨Nat.le_refl _, rfl, Nat.zero_le _⟩
  | cons a b ih =>
    obtain ⟨h1, h2, h3⟩ := ih
    refine ⟨?_, ?_, Nat.max_le.mpr ⟨a.dp, h3⟩⟩
    · show piled (PyData.shown _ :: PyData.shownAll _) ≤ _
      rw [piled_cons]
      have := a.len
      omega
    · show (_ && _) = true
      rw [a.sh, h2]; rfl
theorem TxA.map {α : Type} {f : α → PyData} {n k : Nat} : ∀ {l : List α}, (∀ x ∈ l, Tx n k (f x)) → TxA k ((n + 2) * l.length) (l.map f)
  | [], _ => by
    show TxA k 0 []
    exact .nil
  | x :: r, h => by
    have := TxA.cons (h x List.mem_cons_self) (TxA.map (l := r) fun y hy => h y (List.mem_cons_of_mem _ hy))
    rw [List.length_cons, Nat.mul_succ, Nat.add_comm]
    exact this
theorem TxA.tup {n k : Nat} {ds : List PyData} (h : TxA k n ds) : Tx (n + 2) (k + 1) (.tuple ds) := by
  obtain ⟨h1, h2, h3⟩ := h.all
  refine ⟨?_, h2, Nat.succ_le_succ h3⟩
  show (tupleText (PyData.shownAll ds)).length ≤ _
  have := tt_len (PyData.shownAll ds)
  omega
theorem TxA.lst {n k : Nat} {ds : List PyData} (h : TxA k n ds) : Tx (n + 2) (k + 1) (.list ds) := by
  obtain ⟨h1, h2, h3⟩ := h.all
  refine ⟨?_, h2, Nat.succ_le_succ h3⟩
  show (listText (PyData.shownAll ds)).length ≤ _
  have := lt_len (PyData.shownAll ds)
  omega
theorem tx_dict {hs : List (Int × Int)} (h : ∀ p ∈ hs, p.1.natAbs < 10 ^ 5 ∧ p.2.natAbs < 10 ^ 5) : Tx (16 * hs.length + 2) 1 (.dict (hs.map fun p => (.int p.1, .int p.2))) := by
  have key : piled (PyData.shownKv (hs.map fun p => (PyData.int p.1, PyData.int p.2))) ≤ 16 * hs.length ∧ PyData.showableKv (hs.map fun p => (PyData.int p.1, PyData.int p.2)) = true ∧ PyData.depthKv (hs.map fun p => (PyData.int p.1, PyData.int p.2)) ≤ 0 := by
    induction hs with
    | nil => exact ⟨Nat.le_refl _, rfl, Nat.le_refl _⟩
    | cons p r ih =>
      obtain ⟨h1, h2, h3⟩ := ih fun q hq => h q (List.mem_cons_of_mem _ hq)
      obtain ⟨a1, a2, _⟩ := Tx.sm (h p List.mem_cons_self).1
      obtain ⟨b1, b2, _⟩ := Tx.sm (h p List.mem_cons_self).2
      refine ⟨?_, ?_, ?_⟩
      · show piled (((PyData.int p.1).shown ++ ": " ++ (PyData.int p.2).shown) :: PyData.shownKv (r.map fun p => (PyData.int p.1, PyData.int p.2))) ≤ _
        rw [piled_cons, strLen_append, strLen_append, List.length_cons]
        have e1 : ((": " : String) : Str).length = 2 := rfl
        omega
      · show (PyData.showable _ && PyData.showable _ && PyData.showableKv _) = true
        rw [a2, b2, h2]; rfl
      · exact Nat.max_le.mpr ⟨Nat.le_refl _, h3⟩
  obtain ⟨h1, h2, h3⟩ := key
  refine ⟨?_, h2, Nat.succ_le_succ h3⟩
  show (dictText (PyData.shownKv _)).length ≤ _
  have := dt_len (PyData.shownKv (hs.map fun p => (PyData.int p.1, PyData.int p.2)))
  omega
/-! ### lines as data -/
def kiS (t : Bool) : Str := if t = true then "wait" else "most"
def rsD : K95.Rs → List PyData
  | .bound k => [.str "bound", .int k]
  | .high i => [.str "high", .int i]
  | .sum k l => [.str "sum", .int k, .int l]
  | .delay k l => [.str "delay", .int k, .int l]
  | .early k => [.str "early", .int k]
  | .ahead k => [.str "ahead", .int k]
  | .floor k => [.str "floor", .int k]
def lnD (x : K95.Ln) : PyData := .tuple [.str (kiS x.wt), .int x.a, .int x.b, .int x.w, .tuple (rsD x.r)]
def lnsD (l : List K95.Ln) : PyData := .list (l.map lnD)
theorem kiV_str (t : Bool) : kiV t = .str (kiS t) := by cases t <;> rfl
variable {H : Hp}
theorem dt_int {i : Int} : Dt H (.int i) (.int i) := by simp only [Dt]
theorem dt_str {x : Str} : Dt H (.str x) (.str x) := by simp only [Dt]
theorem dt_tup {a : Addr} {vs : List V} {ds : List PyData} (h : H a = some (.tup vs)) (d : DtA H ds vs) : Dt H (.tuple ds) (.ref a) := by
  simp only [Dt]
  exact ⟨a, vs, rfl, h, d⟩
theorem dt_tu {v : V} {vs : List V} {ds : List PyData} (h : Tu H v vs) (d : DtA H ds vs) : Dt H (.tuple ds) v := by
  obtain ⟨a, rfl, h⟩ := h
  exact dt_tup h d
theorem dt_lst {a : Addr} {vs : List V} {ds : List PyData} (h : H a = some (.lst vs)) (d : DtA H ds vs) : Dt H (.list ds) (.ref a) := by
  simp only [Dt]
  exact ⟨a, vs, rfl, h, d⟩
theorem dt_dict {a : Addr} {hs : List (Int × Int)} (h : H a = some (.dK (hap hs))) : Dt H (.dict (hs.map fun p => (.int p.1, .int p.2))) (.ref a) := by
  simp only [Dt]
  exact ⟨a, hs, rfl, h, rfl⟩
theorem dta_nil : DtA H [] [] := by simp only [DtA]
theorem dta_cons {d : PyData} {ds : List PyData} {v : V} {r : List V} (h : Dt H d v) (t : DtA H ds r) : DtA H (d :: ds) (v :: r) := by
  simp only [DtA]
  exact ⟨v, r, rfl, h, t⟩
theorem dta_map {α : Type} {f : α → PyData} {F : V → α → Prop} (h : ∀ v x, F v x → Dt H (f x) v) : ∀ {vs : List V} {l : List α}, Paired F vs l → DtA H (l.map f) vs
  | _, _, .nil => dta_nil
  | _, _, .cons a b => dta_cons (h _ _ a) (dta_map h b)
theorem dt_rs (r : K95.Rs) : DtA H (rsD r) (rsV r) := by
  cases r <;> first | exact dta_cons dt_str (dta_cons dt_int dta_nil) | exact dta_cons dt_str (dta_cons dt_int (dta_cons dt_int dta_nil))
theorem dt_ln {v : V} {x : K95.Ln} (h : LnV H v x) : Dt H (lnD x) v := by
  obtain ⟨r, h1, h2⟩ := h
  rw [kiV_str] at h1
  exact dt_tu h1 (dta_cons dt_str (dta_cons dt_int (dta_cons dt_int (dta_cons dt_int (dta_cons (dt_tu h2 (dt_rs x.r)) dta_nil)))))
theorem dt_lns {v : V} {l : List K95.Ln} (h : LnsV H v l) : Dt H (lnsD l) v := by
  obtain ⟨a, vs, rfl, h1, h2⟩ := h
  exact dt_lst h1 (dta_map (f := lnD) (F := LnV H) (fun _ _ q => dt_ln q) h2)
def prD (p : Int × Int) : PyData := .tuple [.int p.1, .int p.2]
def trD (p : Int × Int × Int) : PyData := .tuple [.int p.1, .int p.2.1, .int p.2.2]
def brD (B : K95.Br) : PyData := .tuple [.tuple [.tuple (B.tasks.map prD), .tuple (B.arrows.map prD)], .tuple (B.limits.map trD), .int B.dl]
def siD (t : Int) (hs : List (Int × Int)) : PyData := .tuple [.int t, .dict (hs.map fun p => (.int p.1, .int p.2))]
theorem dt_tus {α : Type} {f : α → List V} {g : α → PyData} (h : ∀ v x, Tu H v (f x) → Dt H (g x) v) {v : V} {l : List α} (t : Tus f H v l) : Dt H (.tuple (l.map g)) v := by
  obtain ⟨vs, a, b⟩ := t
  exact dt_tu a (dta_map h b)
theorem dt_pr (v : V) (p : Int × Int) (h : Tu H v (pV p)) : Dt H (prD p) v := dt_tu h (dta_cons dt_int (dta_cons dt_int dta_nil))
theorem dt_tr (v : V) (p : Int × Int × Int) (h : Tu H v (tV p)) : Dt H (trD p) v := dt_tu h (dta_cons dt_int (dta_cons dt_int (dta_cons dt_int dta_nil)))
theorem dt_br {v : V} {B : K95.Br} (h : IsBr H v B) : Dt H (brD B) v := by
  obtain ⟨vp, vl, h1, ⟨vt, va, h2, h3, h4⟩, h5⟩ := h
  exact dt_tu h1 (dta_cons (dt_tu h2 (dta_cons (dt_tus dt_pr h3) (dta_cons (dt_tus dt_pr h4) dta_nil))) (dta_cons (dt_tus dt_tr h5) (dta_cons dt_int dta_nil)))
theorem dt_si {v : V} {t : Int} {hs : List (Int × Int)} (h : IsSit H v t hs) : Dt H (siD t hs) v := by
  obtain ⟨d, h1, h2⟩ := h
  exact dt_tu h1 (dta_cons dt_int (dta_cons (dt_dict h2) dta_nil))
/-! ### how long the texts are -/
def rsN (r : K95.Rs) : List Nat := k1R r :: k2R r
theorem nat_abs (k : Nat) : ((k : Nat) : Int).natAbs = k := Int.natAbs_natCast k
theorem tx_rs {r : K95.Rs} (h : ∀ k ∈ rsN r, k < 10 ^ 5) : Tx 27 1 (.tuple (rsD r)) := by
  have e1 : k1R r < 10 ^ 5 := h _ List.mem_cons_self
  have key : ∃ n, n ≤ 25 ∧ TxA 0 n (rsD r) := by
    cases r with
    | sum k l => exact ⟨_, by decide, .cons (n := 7) ⟨by decide +kernel, rfl, Nat.le_refl _⟩ (.cons (.sm (by rw [nat_abs]; exact e1)) (.cons (.sm (by rw [nat_abs]; exact h l (by simp [rsN, k2R]))) .nil))⟩
    | delay k l => exact ⟨_, by decide, .cons (n := 7) ⟨by decide +kernel, rfl, Nat.le_refl _⟩ (.cons (.sm (by rw [nat_abs]; exact e1)) (.cons (.sm (by rw [nat_abs]; exact h l (by simp [rsN, k2R]))) .nil))⟩
    | _ => exact ⟨_, by decide, .cons (n := 7) ⟨by decide +kernel, rfl, Nat.le_refl _⟩ (.cons (.sm (by rw [nat_abs]; exact e1)) .nil)⟩
  obtain ⟨n, ln, t⟩ := key
  exact t.tup.mono (by omega) (Nat.le_refl _)
structure LnSm (x : K95.Ln) : Prop where
  a : x.a.natAbs < 10 ^ 5
  b : x.b.natAbs < 10 ^ 5
  w : x.w.natAbs < 10 ^ 241
  r : ∀ k ∈ rsN x.r, k < 10 ^ 5
theorem tx_ln {x : K95.Ln} (h : LnSm x) : Tx 301 2 (lnD x) := by
  have t := TxA.cons (k := 1) (n := 6) (d := .str (kiS x.wt)) ⟨by cases x.wt <;> decide +kernel, rfl, Nat.zero_le _⟩ (.cons ((Tx.sm h.a).mono (Nat.le_refl _) (Nat.zero_le _)) (.cons ((Tx.sm h.b).mono (Nat.le_refl _) (Nat.zero_le _)) (.cons ((Tx.int (by decide) h.w h.w).mono (Nat.le_refl _) (Nat.zero_le _)) (.cons (tx_rs h.r) .nil))))
  exact t.tup.mono (by decide) (Nat.le_refl _)
theorem shows_lns {l : List K95.Ln} (hl : l.length ≤ 20000) (h : ∀ x ∈ l, LnSm x) : Shows (lnsD l) := by
  have t := (TxA.map (f := lnD) (n := 301) (k := 2) fun x hx => tx_ln (h x hx)).lst
  refine ⟨t.sh, Nat.le_trans t.len ?_, Nat.le_trans t.dp (by decide), fun z => ?_⟩
  · have : (301 + 2) * l.length + 2 ≤ 303 * 20000 + 2 := by omega
    exact Nat.le_trans this (by decide)
  · exfalso
    have key : ∀ l : List K95.Ln, PyData.hasDictAll (l.map lnD) = false := fun l => by
      induction l with
      | nil => rfl
      | cons x r ih =>
        show ((lnD x).hasDict || PyData.hasDictAll (r.map lnD)) = false
        rw [ih, Bool.or_false]
        show (false || (false || (false || (false || (PyData.hasDictAll (rsD x.r) || false))))) = false
        cases x.r <;> rfl
    have z : PyData.hasDictAll (l.map lnD) = true := z
    rw [key] at z
    cases z
theorem hasL_map {α : Type} {f : α → PyData} (h : ∀ x, hasL (f x) = false) : ∀ l : List α, hasLA (l.map f) = false
  | [] => by simp [hasLA]
  | x :: r => by rw [List.map_cons, hasLA, h x, hasL_map h r]; rfl
theorem shows_both {B : K95.Br} (wf : B.WF) {t : Int} {hs : List (Int × Int)} (t0 : t.natAbs < 10 ^ 5) (lh : hs.length ≤ 100) (hh : ∀ p ∈ hs, p.1.natAbs < 10 ^ 5 ∧ p.2.natAbs < 10 ^ 5) : Shows (.tuple [brD B, siD t hs]) := by
  have tp : ∀ p : Int × Int, p.1.natAbs < 10 ^ 5 → p.2.natAbs < 10 ^ 5 → Tx 18 1 (prD p) := fun p a b => (TxA.cons (Tx.sm a) (.cons (Tx.sm b) .nil)).tup
  have m4 := wf.m4
  have t1 := (TxA.map (f := prD) (n := 18) (k := 1) (l := B.tasks) fun p hp => by
    obtain ⟨i, hi⟩ := List.mem_iff_getElem?.mp hp
    obtain ⟨elo, ehi⟩ := lo_at hi
    have li : i < B.tasks.length := K95.lt_of_get hi
    have d := wf.dur (i : Int) ⟨by omega, by unfold K95.Br.m; omega⟩
    rw [elo, ehi] at d
    exact tp p (by omega) (by omega)).tup
  have t2 := (TxA.map (f := prD) (n := 18) (k := 1) (l := B.arrows) fun p hp => by
    obtain ⟨a, b, _⟩ := wf.arr p hp
    unfold K95.Br.Tk at a b
    exact tp p (by omega) (by omega)).tup
  have t3 := (TxA.map (f := trD) (n := 26) (k := 1) (l := B.limits) fun p hp => by
    obtain ⟨a, b, _, c, d⟩ := wf.lim p hp
    unfold K95.Br.Ev at a b
    exact (TxA.cons (Tx.sm (i := p.1) (by omega)) (.cons (Tx.sm (i := p.2.1) (by omega)) (.cons (Tx.sm (i := p.2.2) (by omega)) .nil))).tup).tup
  have m := wf.arl
  have lm := wf.lil
  have d0 := wf.dl0
  have d1 := wf.dl1
  have e : B.tasks.length = B.m := rfl
  have t4 := (TxA.cons t1 (.cons t2 .nil)).tup
  have t5 := (TxA.cons (t4.mono (Nat.le_refl _) (Nat.le_refl 3)) (.cons (t3.mono (Nat.le_refl _) (show 2 ≤ 3 by decide)) (.cons ((Tx.sm (i := B.dl) (by omega)).mono (Nat.le_refl _) (Nat.zero_le 3)) .nil))).tup
  have t6 := (TxA.cons ((Tx.sm t0).mono (Nat.le_refl _) (Nat.zero_le 1)) (.cons (tx_dict hh) .nil)).tup
  have t7 := (TxA.cons t5 (.cons (t6.mono (Nat.le_refl _) (show 2 ≤ 4 by decide)) .nil)).tup
  refine ⟨t7.sh, Nat.le_trans t7.len ?_, Nat.le_trans t7.dp (by decide), fun _ => ?_⟩
  · refine Nat.le_trans (m := 10000) ?_ (by decide)
    omega
  · have h1 : hasLA (B.tasks.map prD) = false := hasL_map (fun x => by simp [prD, hasL, hasLA]) _
    have h2 : hasLA (B.arrows.map prD) = false := hasL_map (fun x => by simp [prD, hasL, hasLA]) _
    have h3 : hasLA (B.limits.map trD) = false := hasL_map (fun x => by simp [trD, hasL, hasLA]) _
    simp [hasL, hasLA, brD, siD, h1, h2, h3]
end
section
variable {P : Program} {w : World} {K : PySem.W.Frag} {mg : Str → Option Value} {base : Heap} {f C : Addr} {fd : FuncData}
theorem re_and {s u : TT} {σ σ' : L2.St} {H : Hp} {B C : L2.St → Hp → Prop} (e : σ = σ') (h : tAnd s u σ' H fun b H1 => if b = true then B σ' H1 else C σ' H1) : tAnd s u σ H fun b H1 => if b = true then B σ H1 else C σ H1 := by
  subst e
  exact h
def spGives : Sp := fun vs H Q _ => ∃ vb vl vr B l r k wt a b w, vs = [vb, vl, .int ((k : Nat) : Int), vr] ∧ IsBr H vb B ∧ B.WF ∧ LnsV H vl l ∧ K95.Rng B l ∧ k ≤ l.length ∧ Tu H vr (rsV r) ∧ K95.gives B (l.take k) r = some (wt, a, b, w) ∧
  ∀ v H', Same H H' → Tu H' v [kiV wt, .int a, .int b, .int w] → Q v H'
abbrev N__law_gives : List Str := ["_law_brief", "_law_earlier", "_law_many", "_law_reason", "_law_tasks", "_law_word", "_law_k", "_law_one", "_law_kind", "_law_event", "_law_w", "_law_kind_of", "_law_first", "_law_second", "_law_more", "_law_task"]
theorem sc__law_gives : FnScope N__law_gives ["_law_brief", "_law_earlier", "_law_many", "_law_reason"] (defScope (top 39)) := ⟨rfl, rfl, rfl, by decide +kernel, rfl, by decide +kernel, by decide +kernel⟩
-- slots: _law_brief 0, _law_earlier 1, _law_many 2, _law_reason 3, _law_tasks 4, _law_word 5, _law_k 6, _law_one 7, _law_kind 8, _law_event 9, _law_w 10, _law_kind_of 11, _law_first 12, _law_second 13, _law_more 14, _law_task 15
set_option maxHeartbeats 16000000 in
theorem k__law_gives (A : At K mg "_law_gives" (top 39) ["_law_brief", "_law_earlier", "_law_many", "_law_reason"] f fd) (bi : Bi mg) (D_law_between : Def P w K mg base "_law_between" 1 ["_law_value", "_law_low", "_law_high"] spBetw)
    (D_law_gives_alone : Def P w K mg base "_law_gives_alone" 2 ["_law_brief", "_law_word", "_law_k"] spAlone) (D_law_owner : Def P w K mg base "_law_owner" 1 ["_law_event"] (spI fun i => .int ((i - 1) / 2))) (D_law_is_end : Def P w K mg base "_law_is_end" 2 ["_law_event"] (spI fun i => .bl (K95.isE i))) :
    Def P w K mg base "_law_gives" 3 ["_law_brief", "_law_earlier", "_law_many", "_law_reason"] spGives := by
  refine A.ok sc__law_gives (fun vs H Q E h => ?_) (fun cdv A outer s H vs Q E hr h => ?_)
  · obtain ⟨vb, vl, vr, B, l, r, k, wt, a, b, w, rfl, _⟩ := h
    rfl
  obtain ⟨vb, vl, vr, B, l, r, k, wt, a, b, w, rfl, hB, wf, hL, rg, lk, hR, hg, q⟩ := h
  have D_law_between := D_law_between.mono (j := 2) (by decide)
  have D_law_owner := D_law_owner.mono (j := 2) (by decide)
  have hB0 := hB
  obtain ⟨ba, ap, at', ts, vl', rfl, ⟨va, b1, b2⟩, b3, pt, lts⟩ := hB.parts
  obtain ⟨ra, rfl, hra⟩ := hR
  rw [rs_k] at hra
  have m4 := wf.m4
  have l2 := k2_len r
  refine ⟨_, (pss_cons (ps_set (i := 4) sc__law_gives.nd rfl (.inl rfl) (pe_ix ix_tup (pe_ix ix_tup (pv 0) pe_int (fun _ _ => rfl)) pe_int (fun _ _ => rfl)))
    (pss_cons (ps_if (PW.pt (pw_or (pt_not (pt_val (pe_callB call_isi (by rfl) bi.isinstance (by decide +kernel) (pa_cons (pv 3) (pa_cons (pe_bltn (by rfl) bi.tuple (by decide +kernel) (v := .ty "tuple") rfl) pa_nil))))) (pw_or (pt_not (pt_chain op_le op_le pe_int (pe_callB call_len_seq (by rfl) bi.len PySem.boot_len (pa_cons (pv 3) pa_nil)) pe_int)) (pw_or1 (pt_not (pt_val (pe_callB call_isi (by rfl) bi.isinstance (by decide +kernel) (pa_cons (pe_ix ix_tup (pv 3) pe_int (fun _ _ => rfl)) (pa_cons (pe_bltn (by rfl) bi.str (by decide +kernel) (v := .ty "str") rfl) pa_nil)))))))))
      (pss_one (ps_ret pe_non))
      pss_nil)
    (pss_cons (ps_par (i := 5) (j := 6) (by rfl) sc__law_gives.nd rfl rfl (by decide) rfl rfl (pa_cons (pe_ix ix_tup (pv 3) pe_int (fun _ _ => rfl)) (pa_cons (pe_ix ix_tup (pv 3) pe_int (fun _ _ => rfl)) pa_nil)) (by rfl))
    (pss_cons (ps_if (pt_cmpR op_in_seq (pv 5) (pe_lst (pa_cons pe_str (pa_cons pe_str pa_nil))) (by with_unfolding_all rfl))
      (pss_one (ps_ret (pe_ifExp (pt_cmpR op_eq (pe_callB call_len_seq (by rfl) bi.len PySem.boot_len (pa_cons (pv 3) pa_nil)) pe_int (nomark _)) (pe_d D_law_gives_alone hr (by rfl) (pa_cons (pv 0) (pa_cons (pv 5) (pa_cons (pv 6) pa_nil)))) pe_non)))
      pss_nil)
    (pss_cons (ps_if (pt_cmpR op_in_seq pe_bl (pe_lc (own := [("_law_one", 7)]) (g := gName 7) rfl sc__law_gives.nd (pi_tup (pe_slice sl_tupA (pv 3) (po_some pe_int) po_none)) (blkOk_by (own := [("_law_one", 7)]) (N := N__law_gives) (sc := defScope (top 39)) (by decide +kernel)) (fun _ _ _ _ _ => (pg_name (i := 7) sc__law_gives.nd rfl (.inl rfl))) (fun _ _ _ _ _ => pts_nil) (fun _ _ _ _ _ => (pe_d D_law_between hr (by rfl) (pa_cons (pv 7) (pa_cons pe_int (pa_cons (pe_op op_sub (pv 2) pe_int) pa_nil)))))) (by with_unfolding_all rfl))
      (pss_one (ps_ret pe_non))
      pss_nil)
    (pss_cons (ps_asg (pe_slice sl_tupA (pe_ix ix_list (pv 1) (pv 6) (fun _ _ => rfl)) po_none (po_some pe_int)) (pg_tup rfl (pgs_cons (pg_name (i := 8) sc__law_gives.nd rfl (.inl rfl)) (pgs_cons (pg_name (i := 7) sc__law_gives.nd rfl (.inl rfl)) (pgs_cons (pg_name (i := 9) sc__law_gives.nd rfl (.inl rfl)) (pgs_cons (pg_name (i := 10) sc__law_gives.nd rfl (.inl rfl)) pgs_nil))))))
    (pss_cons (ps_if (PW.pt (pw_and (pt_cmpR op_in_seq (pv 5) (pe_lst (pa_cons pe_str (pa_cons pe_str pa_nil))) (by with_unfolding_all rfl)) (pw_and1 (pt_cmpR op_eq (pe_callB call_len_seq (by rfl) bi.len PySem.boot_len (pa_cons (pv 3) pa_nil)) pe_int (nomark _)))))
      (pss_cons (ps_asg (pe_slice sl_tupA (pe_ix ix_list (pv 1) (pe_ix ix_tup (pv 3) pe_int (fun _ _ => rfl)) (fun _ _ => rfl)) po_none (po_some pe_int)) (pg_tup rfl (pgs_cons (pg_name (i := 11) sc__law_gives.nd rfl (.inl rfl)) (pgs_cons (pg_name (i := 12) sc__law_gives.nd rfl (.inl rfl)) (pgs_cons (pg_name (i := 13) sc__law_gives.nd rfl (.inl rfl)) (pgs_cons (pg_name (i := 14) sc__law_gives.nd rfl (.inl rfl)) pgs_nil))))))
      (pss_cons (ps_if (PW.pt (pw_and (pt_cmpR op_eq (pv 5) pe_str (nomark _)) (pw_and (pt_cmpR op_eq (pv 8) pe_str (nomark _)) (pw_and (pt_cmpR op_eq (pv 11) pe_str (nomark _)) (pw_and1 (pt_cmpR op_eq (pv 12) (pv 9) (nomark _)))))))
        (pss_one (ps_ret (pe_tup (pa_cons pe_str (pa_cons (pv 7) (pa_cons (pv 13) (pa_cons (pe_op op_add (pv 10) (pv 14)) pa_nil)))))))
        pss_nil)
      (pss_one (ps_if (PW.pt (pw_and (pt_cmpR op_eq (pv 5) pe_str (nomark _)) (pw_and (pt_cmpR op_eq (pv 8) pe_str (nomark _)) (pw_and (pt_cmpR op_eq (pv 11) pe_str (nomark _)) (pw_and (pt_cmpR op_eq (pv 13) (pv 9) (nomark _)) (pw_and1 (pt_cmpR op_ne (pv 12) (pe_op op_add (pe_op op_mul pe_int (pv 7)) pe_int) (nomark _))))))))
        (pss_one (ps_ret (pe_tup (pa_cons pe_str (pa_cons (pv 7) (pa_cons (pv 12) (pa_cons (pe_callB (call_min2 rfl) (by rfl) bi.min (by decide +kernel) (pa_cons (pe_ix ix_tup (pe_ix ix_tup (pv 4) (pv 7) (fun _ _ => rfl)) pe_int (fun _ _ => rfl)) (pa_cons (pe_op op_sub (pv 10) (pv 14)) pa_nil))) pa_nil)))))))
        pss_nil))))
      pss_nil)
    (pss_cons (ps_if (pt_cmpR op_eq (pe_callB call_len_seq (by rfl) bi.len PySem.boot_len (pa_cons (pv 3) pa_nil)) pe_int (nomark _))
      (pss_one (ps_ret pe_non))
      pss_nil)
    (pss_cons (ps_set (i := 15) sc__law_gives.nd rfl (.inl rfl) (pe_d D_law_owner hr (by rfl) (pa_cons (pv 9) pa_nil)))
    (pss_cons (ps_if (PW.pt (pw_and (pt_cmpR op_eq (pv 5) pe_str (nomark _)) (pw_and (pt_cmpR op_eq (pv 8) pe_str (nomark _)) (pw_and (pt_val (pe_d D_law_is_end hr (by rfl) (pa_cons (pv 7) pa_nil))) (pw_and1 (pt_cmpR op_lt (pv 10) pe_int (nomark _)))))))
      (pss_one (ps_ret (pe_tup (pa_cons pe_str (pa_cons (pe_op op_sub (pv 7) pe_int) (pa_cons (pv 9) (pa_cons (pe_op op_add (pe_ix ix_tup (pe_ix ix_tup (pv 4) (pe_d D_law_owner hr (by rfl) (pa_cons (pv 7) pa_nil)) (fun _ _ => rfl)) pe_int (fun _ _ => rfl)) (pv 10)) pa_nil)))))))
      pss_nil)
    (pss_cons (ps_if (PW.pt (pw_and (pt_cmpR op_eq (pv 5) pe_str (nomark _)) (pw_and (pt_cmpR op_eq (pv 8) pe_str (nomark _)) (pw_and (pt_val (pe_d D_law_is_end hr (by rfl) (pa_cons (pv 9) pa_nil))) (pw_and (pt_cmpR op_ne (pv 15) (pv 7) (nomark _)) (pw_and1 (pt_cmpR op_gt (pv 10) pe_int (nomark _))))))))
      (pss_one (ps_ret (pe_tup (pa_cons pe_str (pa_cons (pv 7) (pa_cons (pe_op op_sub (pv 9) pe_int) (pa_cons (pe_op op_sub (pv 10) (pe_ix ix_tup (pe_ix ix_tup (pv 4) (pv 15) (fun _ _ => rfl)) pe_int (fun _ _ => rfl))) pa_nil)))))))
      pss_nil)
    (pss_cons (ps_if (PW.pt (pw_and (pt_cmpR op_eq (pv 5) pe_str (nomark _)) (pw_and1 (pt_cmpR op_eq (pv 8) pe_str (nomark _)))))
      (pss_one (ps_ret (pe_tup (pa_cons pe_str (pa_cons (pv 9) (pa_cons (pe_op op_add (pe_op op_mul pe_int (pv 7)) pe_int) (pa_cons (pe_un un_neg (pe_callB (call_min2 rfl) (by rfl) bi.min (by decide +kernel) (pa_cons (pv 10) (pa_cons (pe_ix ix_tup (pe_ix ix_tup (pv 4) (pv 7) (fun _ _ => rfl)) pe_int (fun _ _ => rfl)) pa_nil)))) pa_nil)))))))
      pss_nil)
    (pss_one (ps_ret pe_non)))))))))))))), ?_⟩
  walk_at "rd"
  refine q_ixT (SqT.of b1) rfl ?_
  walk_at "rd"
  refine q_ixT (SqT.of b2) rfl ?_
  walk_at "rd"
  have e2 : (V.str (wdR r) :: (k1R r :: k2R r).map nV).length = (k2R r).length + 2 := by simp
  refine useT (c := !true || (!true || !true)) (tst_or (tst_not (fun Qb q => ?_)) fun _ => tst_or (tst_not (fun Qb q => ?_)) fun _ => tst_not (fun Qb q => ?_)) ?_
  · walk_at "rd"
    refine q_isi (.base (.tup hra)) (b := true) (by decide +kernel) ?_
    walk_at "rd"
    exact q
  · walk_at "rd"
    refine q_chain ?_
    walk_at "rd"
    refine ⟨ra, _, rfl, .inr (SqT.of hra), ?_⟩
    walk_at "rd"
    rw [e2, show decide ((2 : Int) ≤ (((k2R r).length + 2 : Nat) : Int)) = true by simp; omega]
    refine iteT ?_
    walk_at "rd"
    rw [show decide ((((k2R r).length + 2 : Nat) : Int) ≤ (3 : Int)) = true by simp; omega]
    exact q
  · walk_at "rd"
    refine q_ixT (SqT.of hra) at0 ?_
    walk_at "rd"
    refine q_isi (.base (.str _)) (b := true) (by decide +kernel) ?_
    walk_at "rd"
    exact q
  refine iteF ?_
  walk_at "rd"
  refine q_ixT (SqT.of hra) at0 ?_
  walk_at "rd"
  refine q_ixT (SqT.of hra) (atI_nat (j := 1) rfl) ?_
  walk_at "rd"
  refine ⟨Nat.le_of_ble_eq_true rfl, fun p1 np1 => ?_⟩
  have s1 := same_new (o := .lst [.str "bound", .str "high"]) np1
  refine inS_val (wd_al r) p1 (SqL.of upd_same) rfl ?_
  generalize upd H p1 (.lst [.str "bound", .str "high"]) = H1 at s1
  walk_at "rd"
  have hra1 := s1 _ _ hra
  have hB1 := hB0.same s1
  cases ha : isAl r with
  | true =>
    refine iteT ?_
    walk_at "rd"
    refine ⟨ra, _, rfl, .inr (SqT.of hra1), ?_⟩
    walk_at "rd"
    cases r with
    | bound n =>
      refine iteT ?_
      walk_at "rd"
      obtain ⟨p, hb, e⟩ := gv_bound hg
      injection e with g1 g2
      subst g1 g2
      exact ⟨_, B, wf, hB1, .inl ⟨n, _, rfl, hb, fun v H' s' t => q v H' (s1.trans s') t⟩⟩
    | high n =>
      refine iteT ?_
      walk_at "rd"
      obtain ⟨hn, hg⟩ := gv_high hg
      injection hg with g1 hg
      injection hg with g2 hg
      injection hg with g3 g4
      subst g1 g2 g3 g4
      exact ⟨_, B, wf, hB1, .inr ⟨n, rfl, hn, fun v H' s' t => q v H' (s1.trans s') t⟩⟩
    | _ => cases ha
  | false =>
    refine iteF ?_
    walk_at "rd"
    refine ⟨ra, _, rfl, SqT.of hra1, fun h => absurd h (sl1 _ _), fun _ z nz => ?_⟩
    rw [cut1]
    have s2 := same_new (o := .tup ((k1R r :: k2R r).map nV)) nz
    have hz : (upd H1 z (.tup ((k1R r :: k2R r).map nV))) z = some (.tup ((k1R r :: k2R r).map nV)) := upd_same
    have s12 := s1.trans s2
    generalize upd H1 z (.tup ((k1R r :: k2R r).map nV)) = H2 at s12 hz
    clear s2
    refine ⟨z, rfl, ⟨_, SqT.of hz⟩, fun D nD => ?_⟩
    have glt : ∀ n ∈ k1R r :: k2R r, n < k := fun n hn => Nat.lt_of_lt_of_le (gives_lt hg ha n hn) (List.length_take_le _ _)
    refine lc_it (walk_tup (xs := (k1R r :: k2R r).map nV)) (fun i H' => Same H2 H' ∧ H' D = some (.lst (List.replicate i (.bl true)))) ⟨same_new nD, upd_same⟩ (fun i H' _ ⟨s, _⟩ => SqT.of (s _ _ hz)) (fun i x H3 H3' hi ⟨s3, h3⟩ hy => ?_) (fun H3 ⟨s3, h3⟩ => ?_)
    · obtain ⟨rfl, hx⟩ := hy
      obtain ⟨n, hn, rfl⟩ := get_map hx
      have ln := glt n (List.mem_of_getElem? hn)
      rw [List.length_map, List.length_cons] at hi
      walk_at "rd"
      refine ⟨rfl, ?_⟩
      walk_at "rd"
      refine iteT ?_
      walk_at "rd"
      refine ⟨_, _, _, rfl, ?_⟩
      rw [show (decide ((0 : Int) ≤ (n : Int)) && decide ((n : Int) ≤ (k : Int) - 1)) = true by simp; omega]
      refine ⟨_, h3, size_ok (by rw [List.length_replicate]; omega), same_upd0 s3 nD, ?_⟩
      rw [← List.replicate_succ']
      exact upd_same
    have s13 := s12.trans s3
    walk_at "rd"
    refine ⟨D, _, rfl, .inl (SqL.of h3), rfl, flat_rep, ?_⟩
    rw [if_neg (fun h => nomatch h), inV_rep]
    walk_at "rd"
    refine iteF ?_
    walk_at "rd"
    -- the line named first
    obtain ⟨la, lvs, rfl, hla, pl⟩ := hL
    have ln1 := glt (k1R r) List.mem_cons_self
    have hx1 : l[k1R r]? = some (l[k1R r]'(by omega)) := List.getElem?_eq_getElem (by omega)
    generalize l[k1R r]'(by omega) = x at hx1
    obtain ⟨u1, hu1, ⟨rr1, ⟨xa, rfl, hxa⟩, _⟩⟩ := paired_get2 _ _ pl hx1
    refine q_ixL (SqL.of (s13 _ _ hla)) (atN hu1) ?_
    walk_at "rd"
    refine ⟨xa, _, rfl, SqT.of (s13 _ _ hxa), fun h => absurd h (sl4 _ _ _ _ _), fun _ z1 nz1 => ?_⟩
    have s4 := same_new (o := .tup (cutV [kiV x.wt, .int x.a, .int x.b, .int x.w, rr1] none (some 4))) nz1
    have hz1 : (upd H3 z1 (.tup (cutV [kiV x.wt, .int x.a, .int x.b, .int x.w, rr1] none (some 4)))) z1 = some (.tup [kiV x.wt, .int x.a, .int x.b, .int x.w]) := upd_same
    generalize upd H3 z1 (.tup (cutV [kiV x.wt, .int x.a, .int x.b, .int x.w, rr1] none (some 4))) = H4 at s4 hz1
    have s14 := s13.trans s4
    refine q_gtup (SqT.of hz1) rfl ?_
    walk_at "rd"
    have rx := rg _ _ hx1
    have lx : k1R r < l.length := by omega
    refine re_and (σ' := [some (.ref ba), some (.ref la), some (.int (k : Int)), some (.ref ra), some (.ref at'), some (.str (wdR r)), some (.int (k1R r : Int)), some (.int x.a), some (kiV x.wt), some (.int x.b), some (.int x.w), none, none, none, none, none]) rfl ?_
    refine q_and ?_
    walk_at "rd"
    cases r with
    | bound n => cases ha
    | high n => cases ha
    | sum n j =>
      obtain ⟨x', y, hx', hy, wx, wy, ey, eq⟩ := gv_sum hg
      have hx'' := (K95.take_get hx').2
      rw [show l[n]? = some x from hx1] at hx''
      cases hx''
      rw [show kiV x.wt = V.str "most" by rw [wx]; rfl]
      refine ⟨Nat.le_of_ble_eq_true rfl, fun p5 np5 => ?_⟩
      have s5 := same_new (o := .lst [.str "sum", .str "delay"]) np5
      refine inS_val (a := "sum") (c := true) (by decide +kernel) p5 (SqL.of upd_same) rfl ?_
      generalize upd H4 p5 (.lst [.str "sum", .str "delay"]) = H5 at s5
      have s15 := s14.trans s5
      walk_at "rd"
      refine iteT ?_
      walk_at "rd"
      refine ⟨ra, _, rfl, .inr (SqT.of (s15 _ _ hra)), ?_⟩
      walk_at "rd"
      refine iteT ?_
      -- the second line
      walk_at "rd"
      have hx2 : l[j]? = some y := (K95.take_get hy).2
      obtain ⟨u2, hu2, ⟨rr2, ⟨ya, rfl, hya⟩, _⟩⟩ := paired_get2 _ _ pl hx2
      refine q_ixT (SqT.of (s15 _ _ hra)) (atI_nat (j := 2) rfl) ?_
      refine q_ixL (SqL.of (s15 _ _ hla)) (atN hu2) ?_
      walk_at "rd"
      refine ⟨ya, _, rfl, SqT.of (s15 _ _ hya), fun h => absurd h (sl4 _ _ _ _ _), fun _ z2 nz2 => ?_⟩
      have s6 := same_new (o := .tup (cutV [kiV y.wt, .int y.a, .int y.b, .int y.w, rr2] none (some 4))) nz2
      have hz2 : (upd H5 z2 (.tup (cutV [kiV y.wt, .int y.a, .int y.b, .int y.w, rr2] none (some 4)))) z2 = some (.tup [kiV y.wt, .int y.a, .int y.b, .int y.w]) := upd_same
      generalize upd H5 z2 (.tup (cutV [kiV y.wt, .int y.a, .int y.b, .int y.w, rr2] none (some 4))) = H6 at s6 hz2
      have s16 := s15.trans s6
      rw [show kiV y.wt = V.str "most" by rw [wy]; rfl] at hz2
      refine q_gtup (SqT.of hz2) rfl ?_
      walk_at "rd"
      refine useT (c := true && (true && (true && decide (y.a = x.b)))) (tst_and (tst_s (a := "sum") rfl (by decide +kernel)) fun _ => tst_and (tst_s (a := "most") rfl (by decide +kernel)) fun _ => tst_and (tst_s (a := "most") rfl (by decide +kernel)) fun _ => fun Qb q => ?_) ?_
      · walk_at "rd"
        exact q
      rw [decide_eq_true ey]
      refine iteT ?_
      walk_at "rd"
      refine ⟨Nat.le_of_ble_eq_true rfl, fun y ny => ?_⟩
      injection eq with g1 eq
      injection eq with g2 eq
      injection eq with g3 g4
      subst g1 g2 g3 g4
      exact q _ _ (s16.trans (same_new ny)) Tu.new
    | delay n j =>
      obtain ⟨x', y, hx', hy, wx, wy, ey, en, eq⟩ := gv_delay hg
      have hx'' := (K95.take_get hx').2
      rw [show l[n]? = some x from hx1] at hx''
      cases hx''
      rw [show kiV x.wt = V.str "wait" by rw [wx]; rfl]
      refine ⟨Nat.le_of_ble_eq_true rfl, fun p5 np5 => ?_⟩
      have s5 := same_new (o := .lst [.str "sum", .str "delay"]) np5
      refine inS_val (a := "delay") (c := true) (by decide +kernel) p5 (SqL.of upd_same) rfl ?_
      generalize upd H4 p5 (.lst [.str "sum", .str "delay"]) = H5 at s5
      have s15 := s14.trans s5
      walk_at "rd"
      refine iteT ?_
      walk_at "rd"
      refine ⟨ra, _, rfl, .inr (SqT.of (s15 _ _ hra)), ?_⟩
      walk_at "rd"
      refine iteT ?_
      -- the second line
      walk_at "rd"
      have hx2 : l[j]? = some y := (K95.take_get hy).2
      obtain ⟨u2, hu2, ⟨rr2, ⟨ya, rfl, hya⟩, _⟩⟩ := paired_get2 _ _ pl hx2
      refine q_ixT (SqT.of (s15 _ _ hra)) (atI_nat (j := 2) rfl) ?_
      refine q_ixL (SqL.of (s15 _ _ hla)) (atN hu2) ?_
      walk_at "rd"
      refine ⟨ya, _, rfl, SqT.of (s15 _ _ hya), fun h => absurd h (sl4 _ _ _ _ _), fun _ z2 nz2 => ?_⟩
      have s6 := same_new (o := .tup (cutV [kiV y.wt, .int y.a, .int y.b, .int y.w, rr2] none (some 4))) nz2
      have hz2 : (upd H5 z2 (.tup (cutV [kiV y.wt, .int y.a, .int y.b, .int y.w, rr2] none (some 4)))) z2 = some (.tup [kiV y.wt, .int y.a, .int y.b, .int y.w]) := upd_same
      generalize upd H5 z2 (.tup (cutV [kiV y.wt, .int y.a, .int y.b, .int y.w, rr2] none (some 4))) = H6 at s6 hz2
      have s16 := s15.trans s6
      rw [show kiV y.wt = V.str "most" by rw [wy]; rfl] at hz2
      refine q_gtup (SqT.of hz2) rfl ?_
      walk_at "rd"
      refine useT (c := false && true) (tst_and (tst_s (a := "delay") rfl (by decide +kernel)) fun h => nomatch h) ?_
      refine iteF ?_
      walk_at "rd"
      refine useT (c := true && (true && (true && (decide (y.b = x.b) && !decide (y.a = 2 * x.a + 2))))) (tst_and (tst_s (a := "delay") rfl (by decide +kernel)) fun _ => tst_and (tst_s (a := "wait") rfl (by decide +kernel)) fun _ => tst_and (tst_s (a := "most") rfl (by decide +kernel)) fun _ => tst_and (fun Qb q => ?_) fun _ => fun Qb q => ?_) ?_
      · walk_at "rd"
        exact q
      · walk_at "rd"
        exact q
      rw [decide_eq_true ey, decide_eq_false en]
      refine iteT ?_
      walk_at "rd"
      obtain ⟨u, hu, hub⟩ := dur_at pt (rx.2.1 wx)
      refine q_ixT (SqT.of (s16 _ _ b3)) hu ?_
      walk_at "rd"
      refine q_ixT (SqT.of (s16 _ _ hub)) rfl ?_
      walk_at "rd"
      refine ⟨_, _, rfl, ?_⟩
      rw [min_if]
      walk_at "rd"
      refine ⟨Nat.le_of_ble_eq_true rfl, fun y ny => ?_⟩
      injection eq with g1 eq
      injection eq with g2 eq
      injection eq with g3 g4
      subst g1 g2 g3 g4
      exact q _ _ (s16.trans (same_new ny)) Tu.new
    | early n =>
      obtain ⟨x', hx', wx, hE, wn, eq⟩ := gv_early hg
      have hx'' := (K95.take_get hx').2
      rw [show l[n]? = some x from hx1] at hx''
      cases hx''
      rw [show kiV x.wt = V.str "most" by rw [wx]; rfl]
      refine ⟨Nat.le_of_ble_eq_true rfl, fun p5 np5 => ?_⟩
      have s5 := same_new (o := .lst [.str "sum", .str "delay"]) np5
      refine inS_val (a := "early") (c := false) (by decide +kernel) p5 (SqL.of upd_same) rfl ?_
      generalize upd H4 p5 (.lst [.str "sum", .str "delay"]) = H5 at s5
      have s15 := s14.trans s5
      walk_at "rd"
      refine iteF ?_
      refine iteF ?_
      walk_at "rd"
      refine ⟨ra, _, rfl, .inr (SqT.of (s15 _ _ hra)), ?_⟩
      walk_at "rd"
      refine iteF ?_
      walk_at "rd"
      refine ⟨_, rfl, ?_⟩
      walk_at "rd"
      refine useT (c := true && (true && (true && true))) (tst_and (tst_s (a := "early") rfl (by decide +kernel)) fun _ => tst_and (tst_s (a := "most") rfl (by decide +kernel)) fun _ => tst_and (fun Qb q => ?_) fun _ => fun Qb q => ?_) ?_
      · walk_at "rd"
        refine ⟨_, rfl, ?_⟩
        exact ⟨true, congrArg V.bl hE, q⟩
      · walk_at "rd"
        rw [decide_eq_true wn]
        exact q
      refine iteT ?_
      walk_at "rd"
      refine ⟨_, rfl, ?_⟩
      obtain ⟨u, hu, hub⟩ := dur_at pt (K95.own_tk hE (rx.1 wx))
      walk_at "rd"
      refine q_ixT (SqT.of (s15 _ _ b3)) hu ?_
      walk_at "rd"
      refine q_ixT (SqT.of (s15 _ _ hub)) rfl ?_
      walk_at "rd"
      refine ⟨Nat.le_of_ble_eq_true rfl, fun y ny => ?_⟩
      injection eq with g1 eq
      injection eq with g2 eq
      injection eq with g3 g4
      subst g1 g2 g3 g4
      exact q _ _ (s15.trans (same_new ny)) Tu.new
    | ahead n =>
      obtain ⟨x', hx', wx, hE, ne, wn, eq⟩ := gv_ahead hg
      have hx'' := (K95.take_get hx').2
      rw [show l[n]? = some x from hx1] at hx''
      cases hx''
      rw [show kiV x.wt = V.str "wait" by rw [wx]; rfl]
      refine ⟨Nat.le_of_ble_eq_true rfl, fun p5 np5 => ?_⟩
      have s5 := same_new (o := .lst [.str "sum", .str "delay"]) np5
      refine inS_val (a := "ahead") (c := false) (by decide +kernel) p5 (SqL.of upd_same) rfl ?_
      generalize upd H4 p5 (.lst [.str "sum", .str "delay"]) = H5 at s5
      have s15 := s14.trans s5
      walk_at "rd"
      refine iteF ?_
      refine iteF ?_
      walk_at "rd"
      refine ⟨ra, _, rfl, .inr (SqT.of (s15 _ _ hra)), ?_⟩
      walk_at "rd"
      refine iteF ?_
      walk_at "rd"
      refine ⟨_, rfl, ?_⟩
      walk_at "rd"
      refine useT (c := false && true) (tst_and (tst_s (a := "ahead") (b := "early") rfl (by decide +kernel)) fun h => nomatch h) ?_
      refine iteF ?_
      walk_at "rd"
      refine useT (c := true && (true && (true && (true && true)))) (tst_and (tst_s (a := "ahead") rfl (by decide +kernel)) fun _ => tst_and (tst_s (a := "wait") rfl (by decide +kernel)) fun _ => tst_and (fun Qb q => ?_) fun _ => tst_and (fun Qb q => ?_) fun _ => fun Qb q => ?_) ?_
      · walk_at "rd"
        refine ⟨_, rfl, ?_⟩
        exact ⟨true, congrArg V.bl hE, q⟩
      · walk_at "rd"
        rw [decide_eq_false (show ¬ (x.b - 1) / 2 = x.a from ne)]
        exact q
      · walk_at "rd"
        rw [decide_eq_true wn]
        exact q
      refine iteT ?_
      walk_at "rd"
      obtain ⟨u, hu, hub⟩ := dur_at pt (K95.own_tk hE rx.2.2)
      refine q_ixT (SqT.of (s15 _ _ b3)) hu ?_
      walk_at "rd"
      refine q_ixT (SqT.of (s15 _ _ hub)) rfl ?_
      walk_at "rd"
      refine ⟨Nat.le_of_ble_eq_true rfl, fun y ny => ?_⟩
      injection eq with g1 eq
      injection eq with g2 eq
      injection eq with g3 g4
      subst g1 g2 g3 g4
      exact q _ _ (s15.trans (same_new ny)) Tu.new
    | floor n =>
      obtain ⟨x', hx', wx, eq⟩ := gv_floor hg
      have hx'' := (K95.take_get hx').2
      rw [show l[n]? = some x from hx1] at hx''
      cases hx''
      rw [show kiV x.wt = V.str "wait" by rw [wx]; rfl]
      refine ⟨Nat.le_of_ble_eq_true rfl, fun p5 np5 => ?_⟩
      have s5 := same_new (o := .lst [.str "sum", .str "delay"]) np5
      refine inS_val (a := "floor") (c := false) (by decide +kernel) p5 (SqL.of upd_same) rfl ?_
      generalize upd H4 p5 (.lst [.str "sum", .str "delay"]) = H5 at s5
      have s15 := s14.trans s5
      walk_at "rd"
      refine iteF ?_
      refine iteF ?_
      walk_at "rd"
      refine ⟨ra, _, rfl, .inr (SqT.of (s15 _ _ hra)), ?_⟩
      walk_at "rd"
      refine iteF ?_
      walk_at "rd"
      refine ⟨_, rfl, ?_⟩
      walk_at "rd"
      refine useT (c := false && true) (tst_and (tst_s (a := "floor") (b := "early") rfl (by decide +kernel)) fun h => nomatch h) ?_
      refine iteF ?_
      walk_at "rd"
      refine useT (c := false && true) (tst_and (tst_s (a := "floor") (b := "ahead") rfl (by decide +kernel)) fun h => nomatch h) ?_
      refine iteF ?_
      walk_at "rd"
      refine useT (c := true && true) (tst_and (tst_s (a := "floor") rfl (by decide +kernel)) fun _ => tst_s (a := "wait") rfl (by decide +kernel)) ?_
      refine iteT ?_
      walk_at "rd"
      obtain ⟨u, hu, hub⟩ := dur_at pt (rx.2.1 wx)
      refine q_ixT (SqT.of (s15 _ _ b3)) hu ?_
      walk_at "rd"
      refine q_ixT (SqT.of (s15 _ _ hub)) rfl ?_
      walk_at "rd"
      refine ⟨_, _, rfl, ?_⟩
      rw [min_if]
      walk_at "rd"
      refine ⟨Nat.le_of_ble_eq_true rfl, fun y ny => ?_⟩
      injection eq with g1 eq
      injection eq with g2 eq
      injection eq with g3 g4
      subst g1 g2 g3 g4
      exact q _ _ (s15.trans (same_new ny)) Tu.new
end
section
variable {P : Program} {w : World} {K : PySem.W.Frag} {mg : Str → Option Value} {base : Heap} {f C : Addr} {fd : FuncData}
theorem dp_rs {H : Hp} (r : K95.Rs) : DpAll K H (rsV r) (rsD r) := by
  cases r <;> first | exact .cons (.str _) (.cons (.int _) .nil) | exact .cons (.str _) (.cons (.int _) (.cons (.int _) .nil))
theorem dp_ln {H : Hp} {v : V} {x : K95.Ln} (h : LnV H v x) : Dp K H v (lnD x) := by
  obtain ⟨r, ⟨a, rfl, h1⟩, ⟨b, rfl, h2⟩⟩ := h
  rw [kiV_str] at h1
  exact .tup (SqT.of h1) (.cons (.str _) (.cons (.int _) (.cons (.int _) (.cons (.int _) (.cons (.tup (SqT.of h2) (dp_rs x.r)) .nil)))))
theorem dp_map {H : Hp} : ∀ {vs : List V} {l : List K95.Ln}, Paired (LnV H) vs l → DpAll K H vs (l.map lnD)
  | _, _, .nil => .nil
  | _, _, .cons a b => .cons (dp_ln a) (dp_map b)
theorem dp_lns {H : Hp} {a : Addr} {vs : List V} {l : List K95.Ln} (h : H a = some (.lst vs)) (p : Paired (LnV H) vs l) : Dp K H (.ref a) (lnsD l) := .lst (SqL.of h) (dp_map p)
theorem shaped_lns (l : List K95.Ln) : SeqAt.shaped (lnsD l) = true := by
  have h1 : ∀ x, (lnD x).canLay0 = true ∧ (lnD x).depth ≤ 2 := fun x => by
    refine ⟨?_, ?_⟩
    · show (PyData.strOk (kiS x.wt) && (true && (true && (true && (PyData.canLayAll0 (rsD x.r) && true))))) = true
      have e1 : PyData.strOk (kiS x.wt) = true := by cases x.wt <;> decide +kernel
      have e2 : PyData.canLayAll0 (rsD x.r) = true := by
        have g1 : PyData.strOk "bound" = true := by decide +kernel
        have g2 : PyData.strOk "high" = true := by decide +kernel
        have g3 : PyData.strOk "sum" = true := by decide +kernel
        have g4 : PyData.strOk "delay" = true := by decide +kernel
        have g5 : PyData.strOk "early" = true := by decide +kernel
        have g6 : PyData.strOk "ahead" = true := by decide +kernel
        have g7 : PyData.strOk "floor" = true := by decide +kernel
        cases x.r with
        | bound k => show (PyData.strOk "bound" && (true && true)) = true; rw [g1]; rfl
        | high k => show (PyData.strOk "high" && (true && true)) = true; rw [g2]; rfl
        | sum k l => show (PyData.strOk "sum" && (true && (true && true))) = true; rw [g3]; rfl
        | delay k l => show (PyData.strOk "delay" && (true && (true && true))) = true; rw [g4]; rfl
        | early k => show (PyData.strOk "early" && (true && true)) = true; rw [g5]; rfl
        | ahead k => show (PyData.strOk "ahead" && (true && true)) = true; rw [g6]; rfl
        | floor k => show (PyData.strOk "floor" && (true && true)) = true; rw [g7]; rfl
      rw [e1, e2]; rfl
    · cases x with
      | mk wt a b w r => cases r <;> exact (by decide : (2 : Nat) ≤ 2)
  have h2 : PyData.canLayAll0 (l.map lnD) = true ∧ PyData.depthAll (l.map lnD) ≤ 2 := by
    induction l with
    | nil => exact ⟨rfl, Nat.zero_le _⟩
    | cons x r ih =>
      refine ⟨?_, Nat.max_le.mpr ⟨(h1 x).2, ih.2⟩⟩
      show ((lnD x).canLay0 && PyData.canLayAll0 (r.map lnD)) = true
      rw [(h1 x).1, ih.1]; rfl
  show (PyData.canLayAll0 (l.map lnD) && decide (PyData.depthAll (l.map lnD) + 1 ≤ 64)) = true
  rw [h2.1, Bool.true_and, decide_eq_true_eq]
  omega
def spLines : Sp := fun vs H Q _ => ∃ vb vl B l, vs = [vb, vl] ∧ IsBr H vb B ∧ B.WF ∧ LnsV H vl l ∧ K95.Lines B l ∧ K95.Rng B l ∧ ∀ H', Same H H' → Q (.bl true) H'
abbrev N__law_are_lines : List Str := ["_law_brief", "_law_value", "_law_k", "_law_line", "_law_due"]
theorem sc__law_are_lines : FnScope N__law_are_lines ["_law_brief", "_law_value"] (defScope (top 40)) := ⟨rfl, rfl, rfl, by decide +kernel, rfl, by decide +kernel, by decide +kernel⟩
-- slots: _law_brief 0, _law_value 1, _law_k 2, _law_line 3, _law_due 4
set_option maxHeartbeats 8000000 in
theorem k__law_are_lines (A : At K mg "_law_are_lines" (top 40) ["_law_brief", "_law_value"] f fd) (bi : Bi mg) (D_law_gives : Def P w K mg base "_law_gives" 3 ["_law_brief", "_law_earlier", "_law_many", "_law_reason"] spGives) (D_law_same : Def P w K mg base "_law_same" 3 ["_law_found", "_law_due"] spSm2) :
    Def P w K mg base "_law_are_lines" 4 ["_law_brief", "_law_value"] spLines := by
  refine A.ok sc__law_are_lines (fun vs H Q E h => ?_) (fun cdv A outer s H vs Q E hr h => ?_)
  · obtain ⟨vb, vl, B, l, rfl, _⟩ := h
    rfl
  obtain ⟨vb, vl, B, l, rfl, hB, wf, hL, ln, rg, q⟩ := h
  refine ⟨_, (pss_cons (ps_if (pt_not (pt_val (pe_callB call_isi (by rfl) bi.isinstance (by decide +kernel) (pa_cons (pv 1) (pa_cons (pe_bltn (by rfl) bi.list (by decide +kernel) (v := .ty "list") rfl) pa_nil)))))
      (pss_one (ps_ret pe_bl))
      pss_nil)
    (pss_cons (ps_for PassesOwn.never rfl (pi_enum (by rfl) bi.enumerate (pa_cons (pv 1) pa_nil)) (pg_tup rfl (pgs_cons (pg_name (i := 2) sc__law_are_lines.nd rfl (.inl rfl)) (pgs_cons (pg_name (i := 3) sc__law_are_lines.nd rfl (.inl rfl)) pgs_nil)))
      (pss_cons (ps_if (PW.pt (pw_or (pt_not (pt_val (pe_callB call_isi (by rfl) bi.isinstance (by decide +kernel) (pa_cons (pv 3) (pa_cons (pe_bltn (by rfl) bi.tuple (by decide +kernel) (v := .ty "tuple") rfl) pa_nil))))) (pw_or1 (pt_cmpR op_ne (pe_callB call_len_seq (by rfl) bi.len PySem.boot_len (pa_cons (pv 3) pa_nil)) pe_int (nomark _)))))
        (pss_one (ps_ret pe_bl))
        pss_nil)
      (pss_cons (ps_set (i := 4) sc__law_are_lines.nd rfl (.inl rfl) (pe_d D_law_gives hr (by rfl) (pa_cons (pv 0) (pa_cons (pv 1) (pa_cons (pv 2) (pa_cons (pe_ix ix_tup (pv 3) pe_int (fun _ _ => rfl)) pa_nil))))))
      (pss_one (ps_if (PW.pt (pw_or (pt_cmpR op_isN (pv 4) pe_non (nomark _)) (pw_or1 (pt_not (pt_val (pe_d D_law_same hr (by rfl) (pa_cons (pe_slice sl_tupA (pv 3) po_none (po_some pe_int)) (pa_cons (pv 4) pa_nil))))))))
        (pss_one (ps_ret pe_bl))
        pss_nil)))))
    (pss_one (ps_ret pe_bl)))), ?_⟩
  have hL0 := hL
  obtain ⟨la, lvs, rfl, hla, pl⟩ := hL
  walk_at "rd"
  refine q_isi (.base (.lst hla)) (b := true) (by decide +kernel) ?_
  walk_at "rd"
  refine iteF ?_
  walk_at "rd"
  refine ⟨la, _, rfl, SqL.of hla, ?_⟩
  refine for_it (walk_enum (xs := lvs)) (fun i σ H' => ∃ y2 y3 y4, σ = [some vb, some (.ref la), y2, y3, y4] ∧ Same H H') ⟨none, none, none, rfl, Same.refl _⟩ (fun i σ H' _ ⟨_, _, _, _, s⟩ => SqL.of (s _ _ hla)) (fun i v σ H1 H1' hi ⟨y2, y3, y4, eσ, s1⟩ hy => ?_) (fun σ H1 ⟨y2, y3, y4, eσ, s1⟩ => ?_)
  · subst eσ
    obtain ⟨T, ix, kv, rfl, nT, rfl, hix, hkv⟩ := hy
    cases hix
    obtain ⟨x, hx, rr, ⟨xa, rfl, hxa⟩, hrr⟩ := paired_get i kv pl hkv
    have hi2 : i < l.length := K95.lt_of_get hx
    have sT := same_new (o := .tup [.int (i : Nat), .ref xa]) nT
    have hT : (upd H1 T (.tup [.int (i : Nat), .ref xa])) T = some (.tup [.int (i : Nat), .ref xa]) := upd_same
    have s2 := s1.trans sT
    generalize upd H1 T (.tup [.int (i : Nat), .ref xa]) = H2 at sT hT s2
    refine q_gtup (SqT.of hT) rfl ?_
    walk_at "rd"
    refine useT (c := !true || false) (tst_or (tst_not (fun Qb q => ?_)) fun _ => fun Qb q => ?_) ?_
    · walk_at "rd"
      refine q_isi (.base (.tup (s2 _ _ hxa))) (b := true) (by decide +kernel) ?_
      walk_at "rd"
      exact q
    · walk_at "rd"
      refine ⟨xa, _, rfl, .inr (SqT.of (s2 _ _ hxa)), ?_⟩
      walk_at "rd"
      exact q
    refine iteF ?_
    walk_at "rd"
    refine q_ixT (SqT.of (s2 _ _ hxa)) (atI_nat (j := 4) rfl) ?_
    walk_at "rd"
    refine ⟨vb, .ref la, rr, B, l, x.r, i, x.wt, x.a, x.b, x.w, rfl, hB.same s2, wf, hL0.same s2, rg, Nat.le_of_lt hi2, hrr.tps (same_tps s2), ln i x hx, fun v H3 s3 hv => ?_⟩
    obtain ⟨va, rfl, hva⟩ := hv
    have s23 := s2.trans s3
    walk_at "rd"
    refine q_or ?_
    walk_at "rd"
    refine ⟨rfl, ?_⟩
    walk_at "rd"
    refine iteF ?_
    walk_at "rd"
    refine ⟨xa, _, rfl, SqT.of (s23 _ _ hxa), fun h => absurd h (sl4 _ _ _ _ _), fun _ z nz => ?_⟩
    have s4 := same_new (o := .tup (cutV [kiV x.wt, .int x.a, .int x.b, .int x.w, rr] none (some 4))) nz
    have hz : (upd H3 z (.tup (cutV [kiV x.wt, .int x.a, .int x.b, .int x.w, rr] none (some 4)))) z = some (.tup [kiV x.wt, .int x.a, .int x.b, .int x.w]) := upd_same
    generalize upd H3 z (.tup (cutV [kiV x.wt, .int x.a, .int x.b, .int x.w, rr] none (some 4))) = H4 at s4 hz
    walk_at "rd"
    refine ⟨z, va, _, rfl, hz, s4 _ _ hva, Nat.le_of_ble_eq_true rfl, fun y hy => ?_, fun H5 s5 => ?_⟩
    · simp only [List.mem_cons, List.not_mem_nil, or_false] at hy
      rcases hy with rfl | rfl | rfl | rfl
      · rw [kiV_str]; trivial
      all_goals trivial
    walk_at "rd"
    refine iteF ?_
    exact ⟨_, _, _, rfl, s23.trans (s4.trans s5)⟩
  · subst eσ
    walk_at "rd"
    exact q _ s1
theorem at_last {xs : List V} {v : V} (h : xs.getLast? = some v) : atI xs (-1) = some v := by
  obtain ⟨ys, rfl⟩ := List.getLast?_eq_some_iff.mp h
  exact atI_last ys v
theorem paired_last {α β : Type} {F : α → β → Prop} {l : List α} {r : List β} {y : β} (p : Paired F l r) (h : r.getLast? = some y) : ∃ x, l.getLast? = some x ∧ F x y := by
  rw [List.getLast?_eq_getElem?] at h
  obtain ⟨x, hx, f⟩ := paired_get2 _ _ p h
  refine ⟨x, ?_, f⟩
  rw [List.getLast?_eq_getElem?, p.length]
  exact hx
def spBreach : Sp := fun vs H Q _ => ∃ vb v vl t B hs l y, vs = [vb, v, vl] ∧ IsBr H vb B ∧ B.WF ∧ IsSit H v t hs ∧ LnsV H vl l ∧ K95.Lines B l ∧ K95.Rng B l ∧ l.getLast? = some y ∧ K95.Brk t (K95.look hs) y ∧ ∀ H', Same H H' → Q (.bl true) H'
abbrev N__law_is_breach : List Str := ["_law_brief", "_law_situation", "_law_value"]
theorem sc__law_is_breach : FnScope N__law_is_breach ["_law_brief", "_law_situation", "_law_value"] (defScope (top 50)) := ⟨rfl, rfl, rfl, by decide +kernel, rfl, by decide +kernel, by decide +kernel⟩
-- slots: _law_brief 0, _law_situation 1, _law_value 2
theorem k__law_is_breach (A : At K mg "_law_is_breach" (top 50) ["_law_brief", "_law_situation", "_law_value"] f fd) (D_law_are_lines : Def P w K mg base "_law_are_lines" 4 ["_law_brief", "_law_value"] spLines) (D_law_breaks : Def P w K mg base "_law_breaks" 1 ["_law_situation", "_law_line"] spBrk) :
    Def P w K mg base "_law_is_breach" 5 ["_law_brief", "_law_situation", "_law_value"] spBreach := by
  refine A.ok sc__law_is_breach (fun vs H Q E h => ?_) (fun cdv A outer s H vs Q E hr h => ?_)
  · obtain ⟨vb, v, vl, t, B, hs, l, y, rfl, _⟩ := h
    rfl
  obtain ⟨vb, v, vl, t, B, hs, l, y, rfl, hB, wf, hS, hL, ln, rg, hy, br, q⟩ := h
  have D_law_breaks := D_law_breaks.mono (j := 4) (by decide)
  refine ⟨_, (pss_one (ps_ret (pe_and (pe_d D_law_are_lines hr (by rfl) (pa_cons (pv 0) (pa_cons (pv 2) pa_nil))) (pe_and (pe_cmpR (op_neD hr.units) (pv 2) (pe_lst pa_nil) (nomark _)) (pe_one (pe_d D_law_breaks hr (by rfl) (pa_cons (pv 1) (pa_cons (pe_ix ix_list (pv 2) (pe_un un_neg pe_int) (fun _ _ => rfl)) pa_nil)))))))), ?_⟩
  walk_at "rd"
  refine ⟨_, _, B, l, rfl, hB, wf, hL, ln, rg, fun H1 s1 => ?_⟩
  walk_at "rd"
  refine iteT ?_
  have hL1 := hL.same s1
  obtain ⟨la, lvs, rfl, hla, pl⟩ := hL1
  walk_at "rd"
  refine ⟨Nat.le_of_ble_eq_true rfl, fun p np => ?_⟩
  have s2 := same_new (o := .lst []) np
  have hp : (upd H1 p (.lst [])) p = some (.lst []) := upd_same
  generalize upd H1 p (.lst []) = H2 at s2 hp
  have pl2 : Paired (LnV H2) lvs l := paired_imp (fun _ _ q => q.tps (same_tps s2)) pl
  refine ⟨lnsD l, .list [], dp_lns (s2 _ _ hla) pl2, .lst (SqL.of hp) .nil, shaped_lns l, by decide +kernel, ?_⟩
  have en : PyData.eqv (lnsD l) (.list []) = false := by
    cases l with
    | nil => cases hy
    | cons x r => rfl
  rw [en]
  walk_at "rd"
  refine iteT ?_
  obtain ⟨vy, hvy, hly⟩ := paired_last pl2 hy
  walk_at "rd"
  refine q_ixL (SqL.of (s2 _ _ hla)) (at_last hvy) ?_
  walk_at "rd"
  refine ⟨_, _, t, hs, y, rfl, hS.same (s1.trans s2), hly, fun r H3 hr3 s3 => ?_⟩
  rw [hr3.mpr br]
  exact q _ (s1.trans (s2.trans s3))
end
section
variable {P : Program} {w : World} {K : PySem.W.Frag} {mg : Str → Option Value} {base : Heap} {f C : Addr} {fd : FuncData}
/-! ### what is drawn -/
section
variable {H H1 H2 : Hp} {p c D z : Addr} {n m k : Nat} {o : HO}
theorem PenAt.pen (q : PenAt H p c n) : ∃ u, H p = some u := by
  obtain ⟨cells, a, r, h1, _⟩ := q
  exact ⟨_, h1⟩
theorem PenAt.ne_p (q : PenAt H p c n) (h : H D = none) : D ≠ p := fun e => by
  obtain ⟨u, hu⟩ := q.pen
  rw [e, hu] at h
  cases h
theorem PenAt.ne_c (q : PenAt H p c n) (h : H D = none) : D ≠ c := fun e => by
  obtain ⟨cells, a, r, h1, h2, _⟩ := q
  rw [e, h2] at h
  cases h
theorem PenAt.upd (q : PenAt H p c n) (np : D ≠ p) (nc : D ≠ c) : PenAt (upd H D o) p c n := by
  obtain ⟨cells, a, r, h1, h2, h3⟩ := q
  exact ⟨cells, a, r, by rw [upd_ne np.symm]; exact h1, by rw [upd_ne nc.symm]; exact h2, h3⟩
/-- the pen alone has changed -/
structure Dr (H : Hp) (p c : Addr) (n : Nat) (H' : Hp) : Prop where
  off : Off p H H'
  pen : PenAt H' p c n
theorem Dr.refl (q : PenAt H p c n) : Dr H p c n H := ⟨Off.refl _ _, q⟩
theorem Dr.same (d : Dr H p c n H1) (s : Same H1 H2) : Dr H p c n H2 := ⟨d.off.trans (same_off s), d.pen.same s⟩
theorem Dr.new (d : Dr H p c n H1) (nz : H1 z = none) : Dr H p c n (upd H1 z o) := d.same (same_new nz)
theorem Dr.take (d : Dr H p c n H1) (of : Off p H1 H2) (q : PenAt H2 p c m) : Dr H p c m H2 := ⟨d.off.trans of, q⟩
theorem Dr.trans (d : Dr H p c n H1) (e : Dr H1 p c m H2) : Dr H p c m H2 := ⟨d.off.trans e.off, e.pen⟩
theorem Dr.mono (d : Dr H p c n H1) (l : n ≤ m) : Dr H p c m H1 := ⟨d.off, d.pen.mono l⟩
theorem Dr.acc (d : Dr H p c n H1) (q : PenAt H p c k) (h0 : H D = none) : Dr H p c n (upd H1 D o) :=
  ⟨fun b u e ne => by rw [upd_ne (ne_of_none e h0)]; exact d.off b u e ne, d.pen.upd (q.ne_p h0) (q.ne_c h0)⟩
theorem Dr.tps (d : Dr H p c n H1) (q : PenAt H p c k) : Tps H H1 := d.off.tps q.notT
theorem Dr.free (d : Dr H p c n H1) (q : PenAt H p c k) (h : H1 z = none) : H z = none := by
  obtain ⟨u, hu⟩ := d.pen.pen
  exact d.off.free hu h
theorem Dr.at (d : Dr H p c n H1) {a : Addr} {u : HO} (h : H a = some u) (ne : a ≠ p) : H1 a = some u := d.off _ _ h ne
end
section
variable {α : Type} {f : α → List V} {H H1 : Hp} {D E p c : Addr} {ds es : List α} {d : α} {y : V}
theorem Rows.off (r : Rows f H D ds) (of : Off p H H1) (nt : ∀ xs, H p ≠ some (.tup xs)) (ne : D ≠ p) : Rows f H1 D ds := by
  obtain ⟨vs, h, q⟩ := r
  exact ⟨vs, of _ _ h ne, paired_imp (fun _ _ t => t.tps (of.tps nt)) q⟩
theorem Rows.dr {n m : Nat} (r : Rows f H D ds) (d : Dr H p c n H1) (q : PenAt H p c m) (ne : D ≠ p) : Rows f H1 D ds := r.off d.off q.notT ne
theorem rows_snoc (r : Rows f H D ds) (t : Tu H y (f d)) : ∃ acc, H D = some (.lst acc) ∧ acc.length = ds.length ∧ Rows f (upd H D (.lst (acc ++ [y]))) D (ds ++ [d]) := by
  obtain ⟨vs, h, q⟩ := r
  exact ⟨vs, h, q.length, vs ++ [y], upd_same, paired_imp (fun _ _ t => t.tps (tps_lst h)) (paired_snoc q t)⟩
theorem rows_cat2 (r : Rows f H D ds) (r' : Rows f H E es) : ∃ xs zs, H D = some (.lst xs) ∧ H E = some (.lst zs) ∧ xs.length = ds.length ∧ zs.length = es.length ∧ ∀ p, H p = none → Rows f (upd H p (.lst (xs ++ zs))) p (ds ++ es) := by
  obtain ⟨xs, h1, p1⟩ := r
  obtain ⟨zs, h2, p2⟩ := r'
  exact ⟨xs, zs, h1, h2, p1.length, p2.length, fun p np => ⟨xs ++ zs, upd_same, paired_imp (fun _ _ q => q.tps (same_tps (same_new np))) (paired_append p1 p2)⟩⟩
theorem rows_upd {o : HO} (r : Rows f H D ds) (ne : E ≠ D) (nt : ∀ xs, H E ≠ some (.tup xs)) : Rows f (upd H E o) D ds := by
  obtain ⟨xs, h1, p1⟩ := r
  exact ⟨xs, by rw [upd_ne ne.symm]; exact h1, paired_imp (fun _ _ q => q.tps (tps_upd nt)) p1⟩
theorem rows_tus (r : Rows f H D ds) {xs : List V} (h : H D = some (.lst xs)) (np : H E = none) : Tus f (upd H E (.tup xs)) (.ref E) ds := by
  obtain ⟨vs, h1, p1⟩ := r
  rw [h] at h1
  cases h1
  exact ⟨xs, Tu.new, paired_imp (fun _ _ q => q.tps (same_tps (same_new np))) p1⟩
end
/-- drawn projects -/
structure PrOk (ts as : List (Int × Int)) : Prop where
  dur : ∀ t ∈ ts, 1 ≤ t.1 ∧ t.1 ≤ t.2 ∧ t.2 ≤ 20
  arr : ∀ p ∈ as, 0 ≤ p.1 ∧ p.1 < p.2 ∧ p.2 < (ts.length : Int)
  arl : as.length ≤ 16
def PrV (H : Hp) (v : V) (ts as : List (Int × Int)) : Prop := ∃ vt va, Tu H v [vt, va] ∧ Tus pV H vt ts ∧ Tus pV H va as
theorem PrV.tps {H H' : Hp} {v : V} {ts as : List (Int × Int)} (h : PrV H v ts as) (t : Tps H H') : PrV H' v ts as := by
  obtain ⟨vt, va, a, b, d⟩ := h
  exact ⟨vt, va, a.tps t, b.tps t, d.tps t⟩
def spDP : Sp := fun vs H Q _ => ∃ p c n many lm wd, vs = [.ref p, .int many, .int lm, .int wd] ∧ PenAt H p c n ∧ n ≤ 1000000 ∧ 1 ≤ many ∧ many ≤ 4 ∧ 1 ≤ lm ∧ lm ≤ 19 ∧ 0 ≤ wd ∧ wd ≤ 19 ∧
  ∀ v H' ts as, Dr H p c (n + 40) H' → PrV H' v ts as → (ts.length : Int) = many → PrOk ts as → Q v H'
abbrev N__law_draw_project : List Str := ["_law_pen", "_law_many", "_law_low_most", "_law_wide", "_law_tasks", "_law_i", "_law_low", "_law_more", "_law_arrows", "_law_j"]
theorem sc__law_draw_project : FnScope N__law_draw_project ["_law_pen", "_law_many", "_law_low_most", "_law_wide"] (defScope (top 41)) := ⟨rfl, rfl, rfl, by decide +kernel, rfl, by decide +kernel, by decide +kernel⟩
-- slots: _law_pen 0, _law_many 1, _law_low_most 2, _law_wide 3, _law_tasks 4, _law_i 5, _law_low 6, _law_more 7, _law_arrows 8, _law_j 9
set_option maxHeartbeats 16000000 in
theorem k__law_draw_project (A : At K mg "_law_draw_project" (top 41) ["_law_pen", "_law_many", "_law_low_most", "_law_wide"] f fd) (bi : Bi mg) (D_law_take : Def P w K mg base "_law_take" 2 ["_law_pen", "_law_amount"] spTake) (D_law_one_of : Def P w K mg base "_law_one_of" 3 ["_law_pen", "_law_some"] spOne) :
    Def P w K mg base "_law_draw_project" 4 ["_law_pen", "_law_many", "_law_low_most", "_law_wide"] spDP := by
  refine A.ok sc__law_draw_project (fun vs H Q E h => ?_) (fun cdv A outer s H vs Q E hr h => ?_)
  · obtain ⟨p, c, n, many, lm, wd, rfl, _⟩ := h
    rfl
  obtain ⟨p, c, n, many, lm, wd, rfl, hp, hn, m1, m4, l1, l2, w0, w1, q⟩ := h
  have D_law_take := D_law_take.mono (j := 3) (by decide)
  refine ⟨_, (pss_cons (ps_set (i := 4) sc__law_draw_project.nd rfl (.inl rfl) (pe_lst pa_nil))
    (pss_cons (ps_for PassesOwn.never rfl (pi_range1 (by rfl) bi.range (pa_cons (pv 1) pa_nil)) (pg_name (i := 5) sc__law_draw_project.nd rfl (.inr rfl))
      (pss_cons (ps_set (i := 6) sc__law_draw_project.nd rfl (.inl rfl) (pe_op op_add pe_int (pe_d D_law_take hr (by rfl) (pa_cons (pv 0) (pa_cons (pv 2) pa_nil)))))
      (pss_cons (ps_set (i := 7) sc__law_draw_project.nd rfl (.inl rfl) (pe_d D_law_one_of hr (by rfl) (pa_cons (pv 0) (pa_cons (pe_lst (pa_cons pe_int (pa_cons (pe_d D_law_take hr (by rfl) (pa_cons (pv 0) (pa_cons (pe_op op_add (pv 3) pe_int) pa_nil))) (pa_cons (pe_d D_law_take hr (by rfl) (pa_cons (pv 0) (pa_cons (pe_op op_add (pv 3) pe_int) pa_nil))) pa_nil)))) pa_nil))))
      (pss_one (ps_expr (pe_bm PySem.F.plainAttrs_list PySem.F.slot_list_append PySem.F.type_list_append mt_append (pv 4) (pa_cons (pe_tup (pa_cons (pv 6) (pa_cons (pe_callB (call_min2 rfl) (by rfl) bi.min (by decide +kernel) (pa_cons pe_int (pa_cons (pe_op op_add (pv 6) (pv 7)) pa_nil))) pa_nil))) pa_nil)))))))
    (pss_cons (ps_set (i := 8) sc__law_draw_project.nd rfl (.inl rfl) (pe_lst pa_nil))
    (pss_cons (ps_for PassesOwn.never rfl (pi_range1 (by rfl) bi.range (pa_cons (pv 1) pa_nil)) (pg_name (i := 5) sc__law_draw_project.nd rfl (.inr rfl))
      (pss_one (ps_set (i := 8) sc__law_draw_project.nd rfl (.inl rfl) (pe_op op_cat (pv 8) (pe_lc (own := [("_law_j", 9)]) (g := gName 9) rfl sc__law_draw_project.nd (pi_range2 (by rfl) bi.range (pa_cons (pe_op op_add (pv 5) pe_int) (pa_cons (pv 1) pa_nil))) (blkOk_by (own := [("_law_j", 9)]) (N := N__law_draw_project) (sc := defScope (top 41)) (by decide +kernel)) (fun _ _ _ _ _ => (pg_name (i := 9) sc__law_draw_project.nd rfl (.inl rfl))) (fun _ _ _ _ _ => pts_one (pt_cmpR op_eq (pe_d D_law_take hr (by rfl) (pa_cons (pv 0) (pa_cons pe_int pa_nil))) pe_int (nomark _))) (fun _ _ _ _ _ => (pe_tup (pa_cons (pv 5) (pa_cons (pv 9) pa_nil)))))))))
    (pss_one (ps_ret (pe_tup (pa_cons (pe_callTy call_tuple_of (by rfl) bi.tuple (by decide +kernel) (pa_cons (pv 4) pa_nil)) (pa_cons (pe_callTy call_tuple_of (by rfl) bi.tuple (by decide +kernel) (pa_cons (pv 8) pa_nil)) pa_nil))))))))), ?_⟩
  obtain ⟨mn, rfl⟩ : ∃ mn : Nat, many = (mn : Int) := ⟨many.toNat, by omega⟩
  walk_at "rd"
  refine ⟨Nat.le_of_ble_eq_true rfl, fun D nD => ?_⟩
  walk_at "rd"
  refine ⟨_, rfl, (i62 (by omega)).1, (i62 (by omega)).2, ?_⟩
  rw [Int.toNat_natCast]
  refine for_it walk_r0 (fun i σ H' => ∃ y5 y6 y7 ts, σ = [some (.ref p), some (.int mn), some (.int lm), some (.int wd), some (.ref D), y5, y6, y7, none, none] ∧ Dr H p c (n + 4 * i) H' ∧ Rows pV H' D ts ∧ ts.length = i ∧ ∀ t ∈ ts, 1 ≤ t.1 ∧ t.1 ≤ t.2 ∧ t.2 ≤ 20)
    ⟨none, none, none, [], rfl, (Dr.refl hp).acc hp nD, Rows.nil D, rfl, fun t h => nomatch h⟩ (fun _ _ _ _ _ => trivial) (fun i v σ H1 H1' hi ⟨y5, y6, y7, ts, eσ, d1, r1, lt, tok⟩ hy => ?_) (fun σ H1 ⟨y5, y6, y7, ts, eσ, d1, r1, lt, tok⟩ => ?_)
  · subst eσ
    obtain ⟨rfl, rfl⟩ := hy
    have nDp := hp.ne_p nD
    walk_at "rd"
    refine ⟨p, c, _, lm, rfl, d1.pen, by omega, by omega, by omega, fun a H2 a0 a1 of2 p2 => ?_⟩
    have d2 := d1.take of2 p2
    have r2 := r1.off of2 d1.pen.notT nDp
    walk_at "rd"
    refine ⟨p, c, _, wd + 1, rfl, p2, by omega, by omega, by omega, fun b H3 b0 b1 of3 p3 => ?_⟩
    have d3 := d2.take of3 p3
    have r3 := r2.off of3 p2.notT nDp
    walk_at "rd"
    refine ⟨p, c, _, wd + 1, rfl, p3, by omega, by omega, by omega, fun e H4 e0 e1 of4 p4 => ?_⟩
    have d4 := d3.take of4 p4
    have r4 := r3.off of4 p3.notT nDp
    walk_at "rd"
    refine ⟨Nat.le_of_ble_eq_true rfl, fun L nL => ?_⟩
    have d5 := d4.new (o := .lst [.int 0, .int b, .int e]) nL
    have r5 := r4.same (same_new (o := .lst [.int 0, .int b, .int e]) nL)
    have hL : (upd H4 L (.lst [.int 0, .int b, .int e])) L = some (.lst [.int 0, .int b, .int e]) := upd_same
    have neL := p4.ne_p nL
    generalize upd H4 L (.lst [.int 0, .int b, .int e]) = H5 at d5 r5 hL
    walk_at "rd"
    refine ⟨p, c, _, L, _, rfl, d5.pen, by omega, hL, neL, Nat.le_of_ble_eq_true rfl, Nat.le_of_ble_eq_true rfl, fun j v H6 hj of6 p6 => ?_⟩
    have d6 := d5.take of6 p6
    have r6 := r5.off of6 d5.pen.notT nDp
    obtain ⟨mo, rfl, mo0, mo1⟩ : ∃ mo, v = .int mo ∧ 0 ≤ mo ∧ mo ≤ wd := by
      match j with
      | 0 => exact ⟨0, (Option.some.inj hj).symm, Int.le_refl _, w0⟩
      | 1 => exact ⟨b, (Option.some.inj hj).symm, b0, by omega⟩
      | 2 => exact ⟨e, (Option.some.inj hj).symm, e0, by omega⟩
      | j + 3 => cases hj
    walk_at "rd"
    refine ⟨isL r6.len.choose_spec.1, ?_⟩
    walk_at "rd"
    refine ⟨_, _, rfl, ?_⟩
    rw [min_if]
    walk_at "rd"
    refine ⟨Nat.le_of_ble_eq_true rfl, fun z nz => ?_⟩
    have t7 : Tu _ (.ref z) _ := Tu.new (H := H6) (p := z) (xs := pV (1 + a, min 20 (1 + a + mo)))
    have r7 := r6.same (same_new (o := .tup (pV (1 + a, min 20 (1 + a + mo)))) nz)
    have d7 := d6.new (o := .tup (pV (1 + a, min 20 (1 + a + mo)))) nz
    obtain ⟨acc, e1, e2, r8⟩ := rows_snoc r7 t7
    walk_at "rd"
    refine ⟨D, acc, _, rfl, rfl, e1, size_ok (by omega), ?_⟩
    refine ⟨_, _, _, _, rfl, (d7.acc hp nD).mono (by omega), r8, by rw [List.length_append]; simp [lt], fun t ht => ?_⟩
    rcases List.mem_append.mp ht with h | h
    · exact tok t h
    · rw [List.mem_singleton] at h
      subst h
      show 1 ≤ 1 + a ∧ 1 + a ≤ min 20 (1 + a + mo) ∧ min 20 (1 + a + mo) ≤ 20
      omega
  · subst eσ
    have nDp := hp.ne_p nD
    walk_at "rd"
    refine ⟨Nat.le_of_ble_eq_true rfl, fun E nE => ?_⟩
    have neE := d1.pen.ne_p nE
    have d2 := d1.new (o := .lst []) nE
    have r2 := r1.same (same_new (o := .lst []) nE)
    have rE : Rows pV (upd H1 E (.lst [])) E [] := Rows.nil E
    generalize upd H1 E (.lst []) = H2 at d2 r2 rE
    walk_at "rd"
    refine ⟨_, rfl, (i62 (by omega)).1, (i62 (by omega)).2, ?_⟩
    rw [Int.toNat_natCast]
    refine for_it walk_r0 (fun i σ H' => ∃ y5 y6 y7 E as, σ = [some (.ref p), some (.int mn), some (.int lm), some (.int wd), some (.ref D), y5, y6, y7, some (.ref E), none] ∧ Dr H p c (n + 16 + 4 * i) H' ∧ Rows pV H' D ts ∧ Rows pV H' E as ∧ E ≠ p ∧ as.length ≤ 4 * i ∧ ∀ t ∈ as, 0 ≤ t.1 ∧ t.1 < t.2 ∧ t.2 < (mn : Int))
      ⟨_, _, _, E, [], rfl, d2.mono (by omega), r2, rE, neE, Nat.le_refl _, fun t h => nomatch h⟩ (fun _ _ _ _ _ => trivial) (fun i v σ H30 H3 hi ⟨y5, y6, y7, E, as, eσ, d3, r3, rE, neE, la, aok⟩ hy => ?_) (fun σ H3 ⟨y5, y6, y7, E, as, eσ, d3, r3, rE, neE, la, aok⟩ => ?_)
    · subst eσ
      obtain ⟨rfl, rfl⟩ := hy
      walk_at "rd"
      refine ⟨_, _, rfl, ⟨(i62' (by omega) (by omega)).1, (i62' (by omega) (by omega)).2, (i62 (by omega)).1, (i62 (by omega)).2⟩, fun F nF => ?_⟩
      have en : ((mn : Int) - ((i : Int) + 1)).toNat = mn - (i + 1) := by omega
      rw [en]
      have d30 : Dr H3 p c (n + 16 + 4 * i) H3 := Dr.refl d3.pen
      refine lc_it walk_range (fun k H' => ∃ es, Dr H3 p c (n + 16 + 4 * i + k) H' ∧ Rows pV H' F es ∧ es.length ≤ k ∧ ∀ t ∈ es, 0 ≤ t.1 ∧ t.1 < t.2 ∧ t.2 < (mn : Int)) ⟨[], d30.acc d3.pen nF, Rows.nil F, Nat.le_refl _, fun t h => nomatch h⟩ (fun _ _ _ _ => trivial) (fun k x H4 H4' hk ⟨es, d4, r4, le, eok⟩ hy => ?_) (fun H4 ⟨es, d4, r4, le, eok⟩ => ?_)
      · obtain ⟨rfl, rfl⟩ := hy
        have nFp := d3.pen.ne_p nF
        walk_at "rd"
        refine ⟨rfl, ?_⟩
        walk_at "rd"
        refine ⟨p, c, _, 4, rfl, d4.pen, by omega, by omega, by omega, fun a H5 a0 a1 of5 p5 => ?_⟩
        have d5 := d4.take of5 p5
        have r5 := r4.off of5 d4.pen.notT nFp
        walk_at "rd"
        refine ite2 (fun _ => ?_) (fun _ => ?_)
        · walk_at "rd"
          refine ⟨Nat.le_of_ble_eq_true rfl, fun z nz => ?_⟩
          have t7 : Tu _ (.ref z) _ := Tu.new (H := H5) (p := z) (xs := pV ((i : Int), (i : Int) + 1 + (k : Int)))
          have r7 := r5.same (same_new (o := .tup (pV ((i : Int), (i : Int) + 1 + (k : Int)))) nz)
          have d7 := d5.new (o := .tup (pV ((i : Int), (i : Int) + 1 + (k : Int)))) nz
          obtain ⟨acc, e1, e2, r8⟩ := rows_snoc r7 t7
          refine ⟨acc, e1, size_ok (by omega), es ++ [((i : Int), (i : Int) + 1 + (k : Int))], (d7.acc d3.pen nF).mono (by omega), r8, by rw [List.length_append]; exact Nat.succ_le_succ le, fun t ht => ?_⟩
          rcases List.mem_append.mp ht with h | h
          · exact eok t h
          · rw [List.mem_singleton] at h
            subst h
            show (0 : Int) ≤ i ∧ (i : Int) < i + 1 + k ∧ (i : Int) + 1 + k < mn
            omega
        · exact ⟨es, d5.mono (by omega), r5, by omega, eok⟩
      · have rE4 := rE.dr d4 d3.pen neE
        have r34 := r3.dr d4 d3.pen nDp
        obtain ⟨xs, zs, e1, e2, e3, e4, gg⟩ := rows_cat2 rE4 r4
        refine ⟨E, F, xs, zs, rfl, rfl, e1, e2, Nat.le_of_lt (size_ok (by omega)), fun G nG => ?_⟩
        refine ⟨_, _, _, G, as ++ es, rfl, ((d3.trans d4).new nG).mono (by omega), r34.same (same_new nG), gg G nG, d4.pen.ne_p nG, by rw [List.length_append]; omega, fun t ht => ?_⟩
        rcases List.mem_append.mp ht with h | h
        · exact aok t h
        · exact eok t h
    · subst eσ
      walk_at "rd"
      obtain ⟨xs, hx⟩ := r3.len
      refine ⟨D, xs, rfl, .inl ⟨SqL.of hx.1, fun z1 nz1 => ?_⟩⟩
      have u1 := rows_tus r3 hx.1 nz1
      have d4 := d3.new (o := .tup xs) nz1
      have rE4 := rE.same (same_new (o := .tup xs) nz1)
      generalize upd H3 z1 (.tup xs) = H4 at u1 d4 rE4
      walk_at "rd"
      obtain ⟨ys, hy⟩ := rE4.len
      refine ⟨E, ys, rfl, .inl ⟨SqL.of hy.1, fun z2 nz2 => ?_⟩⟩
      have u2 := rows_tus rE4 hy.1 nz2
      have d5 := d4.new (o := .tup ys) nz2
      have u1 := u1.tps (same_tps (same_new (o := .tup ys) nz2))
      generalize upd H4 z2 (.tup ys) = H5 at u1 u2 d5
      walk_at "rd"
      refine ⟨Nat.le_of_ble_eq_true rfl, fun z3 nz3 => ?_⟩
      have t3 := same_tps (same_new (o := .tup [.ref z1, .ref z2]) nz3)
      exact q _ _ ts as ((d5.new nz3).mono (by omega)) ⟨_, _, Tu.new, u1.tps t3, u2.tps t3⟩ (by rw [lt]) ⟨tok, fun t ht => by rw [lt]; exact aok t ht, by omega⟩
end
section
variable {P : Program} {w : World} {K : PySem.W.Frag} {mg : Str → Option Value} {base : Heap} {f C : Addr} {fd : FuncData}
/-- D holds the ints ns -/
def Ints (H : Hp) (D : Addr) (ns : List Int) : Prop := H D = some (.lst (ns.map V.int))
theorem Ints.app {H : Hp} {D : Addr} {ns : List Int} {x : Int} : Ints (upd H D (.lst (ns.map V.int ++ [.int x]))) D (ns ++ [x]) := by
  unfold Ints
  rw [upd_same, List.map_append]
  rfl
theorem PrV.parts {H : Hp} {v : V} {ts as : List (Int × Int)} (h : PrV H v ts as) : ∃ a at' aa vts vas, v = .ref a ∧ H a = some (.tup [.ref at', .ref aa]) ∧ H at' = some (.tup vts) ∧ H aa = some (.tup vas) ∧ Paired (fun v d => Tu H v (pV d)) vts ts ∧ Paired (fun v d => Tu H v (pV d)) vas as := by
  obtain ⟨vt, va, ⟨a, rfl, ha⟩, ⟨vts, ⟨at', rfl, h1⟩, p1⟩, ⟨vas, ⟨aa, rfl, h2⟩, p2⟩⟩ := h
  exact ⟨a, at', aa, vts, vas, rfl, ha, h1, h2, p1, p2⟩
def spDN : Sp := fun vs H Q _ => ∃ p c n vp ts as, vs = [.ref p, vp] ∧ PenAt H p c n ∧ n ≤ 1000000 ∧ PrV H vp ts as ∧ PrOk ts as ∧ ts.length ≤ 4 ∧
  ∀ D H' ms, Dr H p c (n + 10) H' → D ≠ p → Ints H' D ms → ms.length = 2 * ts.length + 1 → (∀ x ∈ ms, 0 ≤ x ∧ x ≤ 200) → Q (.ref D) H'
abbrev N__law_draw_nominal : List Str := ["_law_pen", "_law_project", "_law_found", "_law_j", "_law_times", "_law_ends", "_law_i", "_law_other", "_law_begin"]
theorem sc__law_draw_nominal : FnScope N__law_draw_nominal ["_law_pen", "_law_project"] (defScope (top 42)) := ⟨rfl, rfl, rfl, by decide +kernel, rfl, by decide +kernel, by decide +kernel⟩
-- slots: _law_pen 0, _law_project 1, _law_found 2, _law_j 3, _law_times 4, _law_ends 5, _law_i 6, _law_other 7, _law_begin 8
set_option maxHeartbeats 16000000 in
theorem k__law_draw_nominal (A : At K mg "_law_draw_nominal" (top 42) ["_law_pen", "_law_project"] f fd) (bi : Bi mg) (D_law_take : Def P w K mg base "_law_take" 2 ["_law_pen", "_law_amount"] spTake) (D_law_one_of : Def P w K mg base "_law_one_of" 3 ["_law_pen", "_law_some"] spOne) :
    Def P w K mg base "_law_draw_nominal" 4 ["_law_pen", "_law_project"] spDN := by
  refine A.ok sc__law_draw_nominal (fun vs H Q E h => ?_) (fun cdv A outer s H vs Q E hr h => ?_)
  · obtain ⟨p, c, n, vp, ts, as, rfl, _⟩ := h
    rfl
  obtain ⟨p, c, n, vp, ts, as, rfl, hp, hn, hP, ok, l4, q⟩ := h
  have D_law_take := D_law_take.mono (j := 3) (by decide)
  refine ⟨_, (pss_cons (ps_set (i := 2) sc__law_draw_nominal.nd rfl (.inr rfl) (pe_lst (pa_cons pe_int pa_nil)))
    (pss_cons (ps_for PassesOwn.never rfl (pi_enumT (by rfl) bi.enumerate (pa_cons (pe_ix ix_tup (pv 1) pe_int (fun _ _ => rfl)) pa_nil)) (pg_tup rfl (pgs_cons (pg_name (i := 3) sc__law_draw_nominal.nd rfl (.inr rfl)) (pgs_cons (pg_name (i := 4) sc__law_draw_nominal.nd rfl (.inl rfl)) pgs_nil)))
      (pss_cons (ps_setLc (i := 5) (own := [("_law_i", 6), ("_law_other", 7)]) (g := gTup K 2 (gCons (gName 6) (gCons (gName 7) gNil))) rfl sc__law_draw_nominal.nd rfl rfl (sw_true rfl rfl rfl (by decide +kernel)) (pi_tup (pe_ix ix_tup (pv 1) pe_int (fun _ _ => rfl))) (blkOk_by (own := [("_law_i", 6), ("_law_other", 7)]) (N := N__law_draw_nominal) (sc := defScope (top 42)) (by decide +kernel)) (fun _ _ _ _ _ => (pg_tup rfl (pgs_cons (pg_name (i := 6) sc__law_draw_nominal.nd rfl (.inl rfl)) (pgs_cons (pg_name (i := 7) sc__law_draw_nominal.nd rfl (.inl rfl)) pgs_nil)))) (fun _ _ _ _ _ => pts_one (pt_cmpR op_eq (pv 7) (pv 3) (nomark _))) (fun _ _ _ _ _ => (pe_ix (ixlK K) (pv 2) (pe_op op_add (pe_op op_mul pe_int (pv 6)) pe_int) (fun _ _ => rfl))))
      (pss_cons (ps_set (i := 8) sc__law_draw_nominal.nd rfl (.inl rfl) (pe_op op_add (pe_callB (cr_max rfl) (by rfl) bi.max (by decide +kernel) (pa_cons (pe_op op_cat (pe_lst (pa_cons pe_int pa_nil)) (pv 5)) pa_nil)) (pe_d D_law_one_of hr (by rfl) (pa_cons (pv 0) (pa_cons (pe_lst (pa_cons pe_int (pa_cons pe_int (pa_cons pe_int (pa_cons pe_int (pa_cons pe_int (pa_cons pe_int pa_nil))))))) pa_nil)))))
      (pss_one (ps_set (i := 2) sc__law_draw_nominal.nd rfl (.inr rfl) (pe_op op_cat (pv 2) (pe_lst (pa_cons (pv 8) (pa_cons (pe_op op_add (pe_op op_add (pv 8) (pe_ix ix_tup (pv 4) pe_int (fun _ _ => rfl))) (pe_d D_law_take hr (by rfl) (pa_cons (pv 0) (pa_cons (pe_op op_add (pe_op op_sub (pe_ix ix_tup (pv 4) pe_int (fun _ _ => rfl)) (pe_ix ix_tup (pv 4) pe_int (fun _ _ => rfl))) pe_int) pa_nil)))) pa_nil)))))))))
    (pss_one (ps_ret (pv 2))))), ?_⟩
  obtain ⟨a, at', aa, vts, vas, rfl, ha, hat, haa, pt, pa⟩ := hP.parts
  have lvt := pt.length
  walk_at "rd"
  refine ⟨Nat.le_of_ble_eq_true rfl, fun D nD => ?_⟩
  have nDp := hp.ne_p nD
  have d0 : Dr H p c n (upd H D (.lst [.int 0])) := (Dr.refl hp).new nD
  have h0 : Ints (upd H D (.lst [.int 0])) D [0] := upd_same
  generalize upd H D (.lst [.int 0]) = H0 at d0 h0
  have tps := d0.tps hp
  walk_at "rd"
  refine q_ixT (SqT.of (tps _ _ ha)) rfl ?_
  walk_at "rd"
  refine ⟨at', vts, rfl, SqT.of (tps _ _ hat), ?_⟩
  refine for_it walk_enumT (fun i σ H' => ∃ D ms y3 y4 y5 y8, σ = [some (.ref p), some (.ref a), some (.ref D), y3, y4, y5, none, none, y8] ∧ Dr H p c (n + 2 * i) H' ∧ Ints H' D ms ∧ D ≠ p ∧ ms.length = 2 * i + 1 ∧ ∀ x ∈ ms, 0 ≤ x ∧ x ≤ 25 * (i : Int))
    ⟨D, [0], none, none, none, none, rfl, d0, h0, nDp, rfl, fun x hx => by rw [List.mem_singleton] at hx; omega⟩ (fun i σ H' _ ⟨_, _, _, _, _, _, _, d, _⟩ => d.tps hp _ _ hat) (fun i v σ H1 H1' hi ⟨D, ms, y3, y4, y5, y8, eσ, d1, h1, nDp, lm, mok⟩ hy => ?_) (fun σ H1 ⟨D, ms, y3, y4, y5, y8, eσ, d1, h1, nDp, lm, mok⟩ => ?_)
  · subst eσ
    obtain ⟨T, ix, kv, rfl, nT, rfl, hix, hkv⟩ := hy
    cases hix
    obtain ⟨t, ht, ta, rfl, hta⟩ := paired_get i kv pt hkv
    obtain ⟨t1, t2, t3⟩ := ok.dur t (List.mem_of_getElem? ht)
    have d2 := d1.new (o := .tup [.int (i : Nat), .ref ta]) nT
    have h2 : Ints (upd H1 T (.tup [.int (i : Nat), .ref ta])) D ms := same_new nT _ _ h1
    have hT : (upd H1 T (.tup [.int (i : Nat), .ref ta])) T = some (.tup [.int (i : Nat), .ref ta]) := upd_same
    generalize upd H1 T (.tup [.int (i : Nat), .ref ta]) = H2 at d2 h2 hT
    have tp2 := d2.tps hp
    refine q_gtup (SqT.of hT) rfl ?_
    walk_at "rd"
    refine q_ixT (SqT.of (tp2 _ _ ha)) (atI_nat (j := 1) rfl) ?_
    walk_at "rd"
    refine ⟨aa, rfl, ⟨vas, SqT.of (tp2 _ _ haa)⟩, fun F nF => ?_⟩
    refine lc_it (walk_tup (xs := vas)) (fun k H' => Same H2 H' ∧ ∃ es, Ints H' F es ∧ es.length ≤ k ∧ ∀ x ∈ es, 0 ≤ x ∧ x ≤ 25 * (i : Int)) ⟨same_new nF, [], upd_same, Nat.le_refl _, fun x h => nomatch h⟩ (fun k H' _ ⟨s, _⟩ => SqT.of (s _ _ (tp2 _ _ haa))) (fun k x H4 H4' hk ⟨s4, es, h4, le, eok⟩ hy => ?_) (fun H4 ⟨s4, es, h4, le, eok⟩ => ?_)
    · obtain ⟨rfl, hx⟩ := hy
      obtain ⟨e, he, ea, rfl, hea⟩ := paired_get k x pa hx
      obtain ⟨e1, e2, e3⟩ := ok.arr e (List.mem_of_getElem? he)
      have lk : k < 16 := Nat.lt_of_lt_of_le (K95.lt_of_get he) ok.arl
      refine q_gtup (SqT.of (s4 _ _ (tp2 _ _ hea))) rfl ?_
      walk_at "rd"
      refine ⟨rfl, ?_⟩
      walk_at "rd"
      refine ite2 (fun c1 => ?_) (fun c1 => ?_)
      · have c1 := of_decide_eq_true c1
        walk_at "rd"
        have hj : (2 * e.1 + 2).toNat < ms.length := by omega
        have ej : (((2 * e.1 + 2).toNat : Nat) : Int) = 2 * e.1 + 2 := by omega
        have hm : ms[(2 * e.1 + 2).toNat]? = some (ms[(2 * e.1 + 2).toNat]'hj) := List.getElem?_eq_getElem hj
        generalize ms[(2 * e.1 + 2).toNat]'hj = m at hm
        have hat2 : atI (ms.map V.int) (2 * e.1 + 2) = some (.int m) := by
          rw [← ej]
          exact atI_nat (by rw [List.getElem?_map, hm]; rfl)
        refine q_ixL (SqL.of (s4 _ _ h2)) hat2 ?_
        refine ⟨_, h4, size_ok (by rw [List.length_map]; omega), same_upd0 s4 nF, es ++ [m], Ints.app, by rw [List.length_append]; exact Nat.succ_le_succ le, fun x hx => ?_⟩
        rcases List.mem_append.mp hx with h | h
        · exact eok x h
        · rw [List.mem_singleton] at h
          subst h
          exact mok _ (List.mem_of_getElem? hm)
      · exact ⟨s4, es, h4, by omega, eok⟩
    · have la : vas.length ≤ 16 := by rw [pa.length]; exact ok.arl
      walk_at "rd"
      refine ⟨Nat.le_of_ble_eq_true rfl, fun G nG => ?_⟩
      have d5 := (d2.same s4).new (o := .lst [.int 0]) nG
      have h5 : Ints (upd H4 G (.lst [.int 0])) D ms := same_new nG _ _ (s4 _ _ h2)
      have e5 : Ints (upd H4 G (.lst [.int 0])) F es := same_new nG _ _ h4
      have g5 : Ints (upd H4 G (.lst [.int 0])) G [0] := upd_same
      generalize upd H4 G (.lst [.int 0]) = H5 at d5 h5 e5 g5
      walk_at "rd"
      refine ⟨G, F, _, _, rfl, rfl, g5, e5, Nat.le_of_lt (size_ok (by rw [List.length_map, List.length_map]; show 1 + es.length ≤ _; omega)), fun U nU => ?_⟩
      rw [← List.map_append]
      have d6 := d5.new (o := .lst (([0] ++ es).map V.int)) nU
      have h6 : Ints (upd H5 U (.lst (([0] ++ es).map V.int))) D ms := same_new nU _ _ h5
      have u6 : Ints (upd H5 U (.lst (([0] ++ es).map V.int))) U ([0] ++ es) := upd_same
      generalize upd H5 U (.lst (([0] ++ es).map V.int)) = H6 at d6 h6 u6
      walk_at "rd"
      refine ⟨U, [0] ++ es, rfl, SqL.of u6, Nat.succ_pos _, fun m hm _ => ?_⟩
      have mb : 0 ≤ m ∧ m ≤ 25 * (i : Int) := by
        rcases List.mem_append.mp hm with h | h
        · rw [List.mem_singleton] at h
          omega
        · exact eok m h
      walk_at "rd"
      refine ⟨Nat.le_of_ble_eq_true rfl, fun L nL => ?_⟩
      have d7 := d6.new (o := .lst [.int 0, .int 0, .int 0, .int 1, .int 2, .int 5]) nL
      have h7 : Ints (upd H6 L (.lst [.int 0, .int 0, .int 0, .int 1, .int 2, .int 5])) D ms := same_new nL _ _ h6
      have l7 : (upd H6 L (.lst [.int 0, .int 0, .int 0, .int 1, .int 2, .int 5])) L = some (.lst [.int 0, .int 0, .int 0, .int 1, .int 2, .int 5]) := upd_same
      have neL := d6.pen.ne_p nL
      generalize upd H6 L (.lst [.int 0, .int 0, .int 0, .int 1, .int 2, .int 5]) = H7 at d7 h7 l7
      walk_at "rd"
      refine ⟨p, c, _, L, _, rfl, d7.pen, by omega, l7, neL, Nat.le_of_ble_eq_true rfl, Nat.le_of_ble_eq_true rfl, fun j v H8 hj of8 p8 => ?_⟩
      have d8 := d7.take of8 p8
      have h8 : Ints H8 D ms := of8 _ _ h7 nDp
      obtain ⟨z, rfl, z0, z5⟩ : ∃ z : Int, v = .int z ∧ 0 ≤ z ∧ z ≤ 5 := by
        match j with
        | 0 => exact ⟨0, (Option.some.inj hj).symm, by decide, by decide⟩
        | 1 => exact ⟨0, (Option.some.inj hj).symm, by decide, by decide⟩
        | 2 => exact ⟨0, (Option.some.inj hj).symm, by decide, by decide⟩
        | 3 => exact ⟨1, (Option.some.inj hj).symm, by decide, by decide⟩
        | 4 => exact ⟨2, (Option.some.inj hj).symm, by decide, by decide⟩
        | 5 => exact ⟨5, (Option.some.inj hj).symm, by decide, by decide⟩
        | j + 6 => cases hj
      have tp8 := d8.tps hp
      walk_at "rd"
      refine q_ixT (SqT.of (tp8 _ _ hta)) rfl ?_
      walk_at "rd"
      refine q_ixT (SqT.of (tp8 _ _ hta)) (atI_nat (j := 1) rfl) ?_
      walk_at "rd"
      refine q_ixT (SqT.of (tp8 _ _ hta)) rfl ?_
      walk_at "rd"
      refine ⟨p, c, _, _, rfl, p8, by omega, by omega, by omega, fun r H9 r0 r1 of9 p9 => ?_⟩
      have d9 := d8.take of9 p9
      have h9 : Ints H9 D ms := of9 _ _ h8 nDp
      walk_at "rd"
      refine ⟨Nat.le_of_ble_eq_true rfl, fun M nM => ?_⟩
      have da := d9.new (o := .lst [.int (m + z), .int (m + z + t.1 + r)]) nM
      have hha : Ints (upd H9 M (.lst [.int (m + z), .int (m + z + t.1 + r)])) D ms := same_new nM _ _ h9
      have ma : Ints (upd H9 M (.lst [.int (m + z), .int (m + z + t.1 + r)])) M [m + z, m + z + t.1 + r] := upd_same
      generalize upd H9 M (.lst [.int (m + z), .int (m + z + t.1 + r)]) = Ha at da hha ma
      walk_at "rd"
      refine ⟨D, M, _, _, rfl, rfl, hha, ma, Nat.le_of_lt (size_ok (by rw [List.length_map, List.length_map]; show ms.length + 2 ≤ _; omega)), fun N nN => ?_⟩
      rw [← List.map_append]
      refine ⟨N, ms ++ [m + z, m + z + t.1 + r], _, _, _, _, rfl, (da.new nN).mono (by omega), upd_same, da.pen.ne_p nN, by rw [List.length_append]; show _ + 2 = _; omega, fun x hx => ?_⟩
      rcases List.mem_append.mp hx with h | h
      · have := mok x h
        omega
      · simp only [List.mem_cons, List.not_mem_nil, or_false] at h
        rcases h with rfl | rfl <;> omega
  · subst eσ
    rw [lvt] at d1 lm mok
    walk_at "rd"
    exact q D H1 ms (d1.mono (by omega)) nDp h1 lm fun x hx => by
      have := mok x hx
      omega
end
section
variable {P : Program} {w : World} {K : PySem.W.Frag} {mg : Str → Option Value} {base : Heap} {f C : Addr} {fd : FuncData}
theorem paired_drop {α β : Type} {F : α → β → Prop} : ∀ (n : Nat) {l : List α} {r : List β}, Paired F l r → Paired F (l.drop n) (r.drop n)
  | 0, _, _, p => p
  | _ + 1, _, _, .nil => .nil
  | n + 1, _, _, .cons _ p => paired_drop n p
theorem paired_take {α β : Type} {F : α → β → Prop} : ∀ (n : Nat) {l : List α} {r : List β}, Paired F l r → Paired F (l.take n) (r.take n)
  | 0, _, _, _ => .nil
  | _ + 1, _, _, .nil => .nil
  | n + 1, _, _, .cons a p => .cons a (paired_take n p)
theorem Ints.at {H : Hp} {D : Addr} {ns : List Int} (h : Ints H D ns) {k : Int} (h0 : 0 ≤ k) (h1 : k < (ns.length : Int)) : ∃ v, atI (ns.map V.int) k = some (.int v) ∧ v ∈ ns := by
  have e : ((k.toNat : Nat) : Int) = k := by omega
  have lt : k.toNat < ns.length := by omega
  refine ⟨ns[k.toNat]'lt, ?_, List.getElem_mem lt⟩
  have g : (ns.map V.int)[k.toNat]? = some (.int (ns[k.toNat]'lt)) := by rw [List.getElem?_map, List.getElem?_eq_getElem lt]; rfl
  have h2 := atI_nat g
  rw [e] at h2
  exact h2
/-- a limit between events -/
structure LiOk (m : Nat) (l : Int × Int × Int) : Prop where
  a0 : 0 ≤ l.1
  a1 : l.1 < (m : Int)
  b0 : 0 ≤ l.2.1
  b1 : l.2.1 < (m : Int)
  ne : l.1 ≠ l.2.1
  w0 : -60 ≤ l.2.2
  w1 : l.2.2 ≤ 60
def spDL : Sp := fun vs H Q _ => ∃ p c n M most L ms lo, vs = [.ref p, .ref M, .int most, .ref L] ∧ PenAt H p c n ∧ n ≤ 900000 ∧ Ints H M ms ∧ M ≠ p ∧ 3 ≤ ms.length ∧ ms.length ≤ 9 ∧ 1 ≤ most ∧ most ≤ 20 ∧ Ints H L lo ∧ L ≠ p ∧ 0 < lo.length ∧ lo.length ≤ 10 ∧
  ∀ z H' ls, Dr H p c (n + 200) H' → Tus tV H' z ls → ls.length ≤ 20 → (∀ l ∈ ls, LiOk ms.length l) → Q z H'
abbrev N__law_draw_limits : List Str := ["_law_pen", "_law_moments", "_law_most", "_law_loose", "_law_found", "_law_events", "_law_again", "_law_a", "_law_b", "_law_event", "_law_gap", "_law_one", "_law_other"]
theorem sc__law_draw_limits : FnScope N__law_draw_limits ["_law_pen", "_law_moments", "_law_most", "_law_loose"] (defScope (top 43)) := ⟨rfl, rfl, rfl, by decide +kernel, rfl, by decide +kernel, by decide +kernel⟩
-- slots: _law_pen 0, _law_moments 1, _law_most 2, _law_loose 3, _law_found 4, _law_events 5, _law_again 6, _law_a 7, _law_b 8, _law_event 9, _law_gap 10, _law_one 11, _law_other 12
set_option maxHeartbeats 16000000 in
theorem k__law_draw_limits (A : At K mg "_law_draw_limits" (top 43) ["_law_pen", "_law_moments", "_law_most", "_law_loose"] f fd) (bi : Bi mg) (D_law_take : Def P w K mg base "_law_take" 2 ["_law_pen", "_law_amount"] spTake) (D_law_one_of : Def P w K mg base "_law_one_of" 3 ["_law_pen", "_law_some"] spOne) :
    Def P w K mg base "_law_draw_limits" 4 ["_law_pen", "_law_moments", "_law_most", "_law_loose"] spDL := by
  refine A.ok sc__law_draw_limits (fun vs H Q E h => ?_) (fun cdv A outer s H vs Q E hr h => ?_)
  · obtain ⟨p, c, n, M, most, L, ms, lo, rfl, _⟩ := h
    rfl
  obtain ⟨p, c, n, M, most, L, ms, lo, rfl, hp, hn, hM, nM, m3, m9, o1, o2, hL, nL, lo0, lo1, q⟩ := h
  have D_law_take := D_law_take.mono (j := 3) (by decide)
  refine ⟨_, (pss_cons (ps_par (i := 4) (j := 5) (by rfl) sc__law_draw_limits.nd rfl rfl (by decide) rfl rfl (pa_cons (pe_lst pa_nil) (pa_cons (pe_callB call_len_seq (by rfl) bi.len PySem.boot_len (pa_cons (pv 1) pa_nil)) pa_nil)) (by rfl))
    (pss_cons (ps_for PassesOwn.never rfl (pi_range1 (by rfl) bi.range (pa_cons (pe_d D_law_take hr (by rfl) (pa_cons (pv 0) (pa_cons (pe_op op_add (pv 2) pe_int) pa_nil))) pa_nil)) (pg_name (i := 6) sc__law_draw_limits.nd rfl (.inl rfl))
      (pss_cons (ps_set (i := 7) sc__law_draw_limits.nd rfl (.inr rfl) (pe_d D_law_take hr (by rfl) (pa_cons (pv 0) (pa_cons (pv 5) pa_nil))))
      (pss_cons (ps_set (i := 8) sc__law_draw_limits.nd rfl (.inl rfl) (pe_d D_law_one_of hr (by rfl) (pa_cons (pv 0) (pa_cons (pe_lc (own := [("_law_event", 9)]) (g := gName 9) rfl sc__law_draw_limits.nd (pi_range1 (by rfl) bi.range (pa_cons (pv 5) pa_nil)) (blkOk_by (own := [("_law_event", 9)]) (N := N__law_draw_limits) (sc := defScope (top 43)) (by decide +kernel)) (fun _ _ _ _ _ => (pg_name (i := 9) sc__law_draw_limits.nd rfl (.inl rfl))) (fun _ _ _ _ _ => pts_one (pt_cmpR op_ne (pv 9) (pv 7) (nomark _))) (fun _ _ _ _ _ => (pv 9))) pa_nil))))
      (pss_cons (ps_set (i := 10) sc__law_draw_limits.nd rfl (.inl rfl) (pe_op op_sub (pe_ix ix_list (pv 1) (pv 8) (fun _ _ => rfl)) (pe_ix ix_list (pv 1) (pv 7) (fun _ _ => rfl))))
      (pss_cons (ps_par (i := 11) (j := 12) (by rfl) sc__law_draw_limits.nd rfl rfl (by decide) rfl rfl (pa_cons (pe_d D_law_one_of hr (by rfl) (pa_cons (pv 0) (pa_cons (pv 3) pa_nil))) (pa_cons (pe_d D_law_one_of hr (by rfl) (pa_cons (pv 0) (pa_cons (pv 3) pa_nil))) pa_nil)) (by rfl))
      (pss_cons (ps_expr (pe_bm PySem.F.plainAttrs_list PySem.F.slot_list_append PySem.F.type_list_append mt_append (pv 4) (pa_cons (pe_tup (pa_cons (pv 7) (pa_cons (pv 8) (pa_cons (pe_callB (call_max2 rfl) (by rfl) bi.max (by decide +kernel) (pa_cons (pe_un un_neg pe_int) (pa_cons (pe_callB (call_min2 rfl) (by rfl) bi.min (by decide +kernel) (pa_cons pe_int (pa_cons (pe_op op_add (pv 10) (pv 11)) pa_nil))) pa_nil))) pa_nil)))) pa_nil)))
      (pss_one (ps_if (pt_cmpR op_eq (pe_d D_law_take hr (by rfl) (pa_cons (pv 0) (pa_cons pe_int pa_nil))) pe_int (nomark _))
        (pss_one (ps_expr (pe_bm PySem.F.plainAttrs_list PySem.F.slot_list_append PySem.F.type_list_append mt_append (pv 4) (pa_cons (pe_tup (pa_cons (pv 8) (pa_cons (pv 7) (pa_cons (pe_callB (call_max2 rfl) (by rfl) bi.max (by decide +kernel) (pa_cons (pe_un un_neg pe_int) (pa_cons (pe_callB (call_min2 rfl) (by rfl) bi.min (by decide +kernel) (pa_cons pe_int (pa_cons (pe_op op_sub (pv 12) (pv 10)) pa_nil))) pa_nil))) pa_nil)))) pa_nil))))
        pss_nil))))))))
    (pss_one (ps_ret (pe_callTy call_tuple_of (by rfl) bi.tuple (by decide +kernel) (pa_cons (pe_slice sl_list (pv 4) po_none (po_some (pv 2))) pa_nil)))))), ?_⟩
  obtain ⟨mo, rfl⟩ : ∃ mo : Nat, most = (mo : Int) := ⟨most.toNat, by omega⟩
  walk_at "rd"
  refine ⟨Nat.le_of_ble_eq_true rfl, fun D nD => ?_⟩
  have nDp := hp.ne_p nD
  have d0 : Dr H p c n (upd H D (.lst [])) := (Dr.refl hp).new nD
  have r0 : Rows tV (upd H D (.lst [])) D [] := Rows.nil D
  generalize upd H D (.lst []) = H0 at d0 r0
  walk_at "rd"
  refine ⟨M, _, rfl, .inl (SqL.of (d0.at hM nM)), ?_⟩
  rw [List.length_map]
  walk_at "rd"
  refine ⟨p, c, _, _, rfl, d0.pen, by omega, by omega, by omega, fun r H1 r0' r1 of1 p1 => ?_⟩
  have d1 := d0.take of1 p1
  have rr1 := r0.off of1 d0.pen.notT nDp
  obtain ⟨rn, rfl⟩ : ∃ rn : Nat, r = (rn : Int) := ⟨r.toNat, by omega⟩
  refine ⟨_, rfl, (i62 (by omega)).1, (i62 (by omega)).2, ?_⟩
  rw [Int.toNat_natCast]
  refine for_it walk_r0 (fun i σ H' => ∃ y6 y7 y8 y10 y11 y12 ls, σ = [some (.ref p), some (.ref M), some (.int mo), some (.ref L), some (.ref D), some (.int (ms.length : Nat)), y6, y7, y8, none, y10, y11, y12] ∧ Dr H p c (n + 1 + 5 * i) H' ∧ Rows tV H' D ls ∧ ls.length ≤ 2 * i ∧ ∀ l ∈ ls, LiOk ms.length l)
    ⟨none, none, none, none, none, none, [], rfl, d1.mono (by omega), rr1, Nat.le_refl _, fun t h => nomatch h⟩ (fun _ _ _ _ _ => trivial) (fun i v σ H2 H2' hi ⟨y6, y7, y8, y10, y11, y12, ls, eσ, d2, r2, ll, lok⟩ hy => ?_) (fun σ H2 ⟨y6, y7, y8, y10, y11, y12, ls, eσ, d2, r2, ll, lok⟩ => ?_)
  · subst eσ
    obtain ⟨rfl, rfl⟩ := hy
    walk_at "rd"
    refine ⟨p, c, _, _, rfl, d2.pen, by omega, by omega, by omega, fun a H3 a0 a1 of3 p3 => ?_⟩
    have d3 := d2.take of3 p3
    have r3 := r2.off of3 d2.pen.notT nDp
    walk_at "rd"
    refine ⟨_, rfl, (i62 (by omega)).1, (i62 (by omega)).2, fun F nF => ?_⟩
    rw [Int.toNat_natCast]
    refine lc_it walk_r0 (fun k H' => Same H3 H' ∧ ∃ es, Ints H' F es ∧ (a < (k : Int) → es.length + 1 = k) ∧ ((k : Int) ≤ a → es.length = k) ∧ ∀ x ∈ es, 0 ≤ x ∧ x < (ms.length : Int) ∧ x ≠ a) ⟨same_new nF, [], upd_same, fun h => by omega, fun _ => rfl, fun x h => nomatch h⟩ (fun _ _ _ _ => trivial) (fun k x H4 H4' hk ⟨s4, es, h4, le1, le2, eok⟩ hy => ?_) (fun H4 ⟨s4, es, h4, le1, le2, eok⟩ => ?_)
    · obtain ⟨rfl, rfl⟩ := hy
      walk_at "rd"
      refine ⟨rfl, ?_⟩
      walk_at "rd"
      refine ite2 (fun c1 => ?_) (fun c1 => ?_)
      · have c1 : ¬ (k : Int) = a := fun z => by rw [decide_eq_true z] at c1; cases c1
        walk_at "rd"
        refine ⟨_, h4, size_ok (by rw [List.length_map]; omega), same_upd0 s4 nF, es ++ [(k : Int)], Ints.app, fun h => by rw [List.length_append]; have := le1 (by omega); show es.length + 1 + 1 = k + 1; omega, fun h => by rw [List.length_append]; have := le2 (by omega); show es.length + 1 = k + 1; omega, fun x hx => ?_⟩
        rcases List.mem_append.mp hx with h | h
        · exact eok x h
        · rw [List.mem_singleton] at h
          subst h
          exact ⟨by omega, by omega, c1⟩
      · have c1 : (k : Int) = a := Classical.byContradiction fun z => c1 (by rw [decide_eq_false z]; rfl)
        exact ⟨s4, es, h4, fun h => by have := le2 (by omega); omega, fun h => by omega, eok⟩
    · have nFp := d3.pen.ne_p nF
      have d4 := d3.same s4
      have r4 := r3.same s4
      have le : es.length + 1 = ms.length := le1 (by omega)
      walk_at "rd"
      refine ⟨p, c, _, F, _, rfl, d4.pen, by omega, h4, nFp, by rw [List.length_map]; omega, by rw [List.length_map]; omega, fun j v H5 hj of5 p5 => ?_⟩
      have d5 := d4.take of5 p5
      have r5 := r4.off of5 d4.pen.notT nDp
      obtain ⟨b, hb, rfl⟩ := get_map hj
      obtain ⟨b0, b1, bne⟩ := eok b (List.mem_of_getElem? hb)
      obtain ⟨mb, hmb, _⟩ := hM.at b0 b1
      obtain ⟨ma, hma, _⟩ := hM.at a0 a1
      walk_at "rd"
      refine q_ixL (SqL.of (d5.at hM nM)) hmb ?_
      walk_at "rd"
      refine q_ixL (SqL.of (d5.at hM nM)) hma ?_
      walk_at "rd"
      refine ⟨p, c, _, L, _, rfl, d5.pen, by omega, d5.at hL nL, nL, by rw [List.length_map]; omega, by rw [List.length_map]; omega, fun j6 v6 H6 hj6 of6 p6 => ?_⟩
      have d6 := d5.take of6 p6
      have r6 := r5.off of6 d5.pen.notT nDp
      obtain ⟨one, _, rfl⟩ := get_map hj6
      walk_at "rd"
      refine ⟨p, c, _, L, _, rfl, d6.pen, by omega, d6.at hL nL, nL, by rw [List.length_map]; omega, by rw [List.length_map]; omega, fun j7 v7 H7 hj7 of7 p7 => ?_⟩
      have d7 := d6.take of7 p7
      have r7 := r6.off of7 d6.pen.notT nDp
      obtain ⟨other, _, rfl⟩ := get_map hj7
      walk_at "rd"
      refine ⟨isL r7.len.choose_spec.1, ?_⟩
      walk_at "rd"
      refine ⟨_, _, rfl, ?_⟩
      rw [min_if]
      walk_at "rd"
      refine ⟨_, _, rfl, ?_⟩
      rw [max_if]
      walk_at "rd"
      have w1 : -60 ≤ max (-60) (min 60 (mb - ma + one)) ∧ max (-60) (min 60 (mb - ma + one)) ≤ 60 := by omega
      generalize max (-60) (min 60 (mb - ma + one)) = w1v at w1
      refine ⟨Nat.le_of_ble_eq_true rfl, fun z nz => ?_⟩
      have t8 : Tu _ (.ref z) _ := Tu.new (H := H7) (p := z) (xs := tV (a, b, w1v))
      have r8 := r7.same (same_new (o := .tup (tV (a, b, w1v))) nz)
      have d8 := d7.new (o := .tup (tV (a, b, w1v))) nz
      generalize upd H7 z (.tup (tV (a, b, w1v))) = H8 at t8 r8 d8
      obtain ⟨acc, e1, e2, r9⟩ := rows_snoc (d := (a, b, w1v)) r8 t8
      walk_at "rd"
      refine ⟨D, acc, _, rfl, rfl, e1, size_ok (by omega), ?_⟩
      have d9 := d8.acc (o := .lst (acc ++ [.ref z])) hp nD
      generalize upd H8 D (.lst (acc ++ [.ref z])) = H9 at r9 d9
      have ok1 : ∀ l ∈ ls ++ [(a, b, w1v)], LiOk ms.length l := fun l hl => by
        rcases List.mem_append.mp hl with h | h
        · exact lok l h
        · rw [List.mem_singleton] at h
          subst h
          exact ⟨a0, a1, b0, b1, fun z => bne z.symm, w1.1, w1.2⟩
      have len1 : (ls ++ [(a, b, w1v)]).length ≤ 2 * i + 1 := by rw [List.length_append]; exact Nat.succ_le_succ ll
      generalize ls ++ [(a, b, w1v)] = ls1 at r9 ok1 len1
      walk_at "rd"
      refine ⟨p, c, _, 3, rfl, d9.pen, by omega, by omega, by omega, fun e Ha e0 e1 ofa pa => ?_⟩
      have da := d9.take ofa pa
      have ra := r9.off ofa d9.pen.notT nDp
      walk_at "rd"
      refine ite2 (fun _ => ?_) (fun _ => ?_)
      · walk_at "rd"
        refine ⟨isL ra.len.choose_spec.1, ?_⟩
        walk_at "rd"
        refine ⟨_, _, rfl, ?_⟩
        rw [min_if]
        walk_at "rd"
        refine ⟨_, _, rfl, ?_⟩
        rw [max_if]
        walk_at "rd"
        have w2 : -60 ≤ max (-60) (min 60 (other - (mb - ma))) ∧ max (-60) (min 60 (other - (mb - ma))) ≤ 60 := by omega
        generalize max (-60) (min 60 (other - (mb - ma))) = w2v at w2
        refine ⟨Nat.le_of_ble_eq_true rfl, fun z2 nz2 => ?_⟩
        have tb : Tu _ (.ref z2) _ := Tu.new (H := Ha) (p := z2) (xs := tV (b, a, w2v))
        have rb := ra.same (same_new (o := .tup (tV (b, a, w2v))) nz2)
        have db := da.new (o := .tup (tV (b, a, w2v))) nz2
        generalize upd Ha z2 (.tup (tV (b, a, w2v))) = Hb at tb rb db
        obtain ⟨acc2, f1, f2, rc⟩ := rows_snoc (d := (b, a, w2v)) rb tb
        walk_at "rd"
        refine ⟨D, acc2, _, rfl, rfl, f1, size_ok (by omega), ?_⟩
        refine ⟨_, _, _, _, _, _, ls1 ++ [(b, a, w2v)], rfl, (db.acc hp nD).mono (by omega), rc, by rw [List.length_append]; show ls1.length + 1 ≤ _; omega, fun l hl => ?_⟩
        rcases List.mem_append.mp hl with h | h
        · exact ok1 l h
        · rw [List.mem_singleton] at h
          subst h
          exact ⟨b0, b1, a0, a1, bne, w2.1, w2.2⟩
      · exact ⟨_, _, _, _, _, _, ls1, rfl, da.mono (by omega), ra, by omega, ok1⟩
  · subst eσ
    obtain ⟨vs, hv, pv'⟩ := r2
    walk_at "rd"
    refine ⟨D, _, rfl, SqL.of hv, fun z nz => ?_⟩
    have lcut : HT.sIx vs.length vs.length (some (mo : Int)) - HT.sIx vs.length 0 none ≤ mo := by
      rw [HT.sIx_nat]
      omega
    have pc : Paired (fun v d => Tu H2 v (tV d)) (cutV vs none (some (mo : Int))) ((ls.drop (HT.sIx vs.length 0 none)).take (HT.sIx vs.length vs.length (some (mo : Int)) - HT.sIx vs.length 0 none)) := paired_take _ (paired_drop _ pv')
    have lsl : ((ls.drop (HT.sIx vs.length 0 none)).take (HT.sIx vs.length vs.length (some (mo : Int)) - HT.sIx vs.length 0 none)).length ≤ 20 := by
      rw [List.length_take]
      omega
    have lok2 : ∀ l ∈ (ls.drop (HT.sIx vs.length 0 none)).take (HT.sIx vs.length vs.length (some (mo : Int)) - HT.sIx vs.length 0 none), LiOk ms.length l := fun l hl => lok l (List.mem_of_mem_drop (List.mem_of_mem_take hl))
    generalize (ls.drop (HT.sIx vs.length 0 none)).take (HT.sIx vs.length vs.length (some (mo : Int)) - HT.sIx vs.length 0 none) = ls2 at pc lsl lok2
    generalize cutV vs none (some (mo : Int)) = vs2 at pc
    have sz := same_new (o := .lst vs2) nz
    have d3 := d2.same sz
    have hz : (upd H2 z (.lst vs2)) z = some (.lst vs2) := upd_same
    have r3 : Rows tV (upd H2 z (.lst vs2)) z ls2 := ⟨vs2, hz, paired_imp (fun _ _ t => t.tps (same_tps sz)) pc⟩
    generalize upd H2 z (.lst vs2) = H3 at sz d3 hz r3
    walk_at "rd"
    refine ⟨z, vs2, rfl, .inl ⟨SqL.of hz, fun y ny => ?_⟩⟩
    exact q _ _ ls2 ((d3.new ny).mono (by omega)) (rows_tus r3 hz ny) lsl lok2
end
section
variable {P : Program} {w : World} {K : PySem.W.Frag} {mg : Str → Option Value} {base : Heap} {f C : Addr} {fd : FuncData}
theorem Ints.same {H H' : Hp} {D : Addr} {ns : List Int} (h : Ints H D ns) (s : Same H H') : Ints H' D ns := s _ _ h
theorem wf_of {ts as : List (Int × Int)} {ls : List (Int × Int × Int)} {dl : Int} (ok : PrOk ts as) (t1 : 1 ≤ ts.length) (t4 : ts.length ≤ 4) (ll : ls.length ≤ 20) (lok : ∀ l ∈ ls, LiOk (2 * ts.length + 1) l) (d0 : 0 ≤ dl) (d1 : dl ≤ 60) : K95.Br.WF ⟨ts, as, ls, dl⟩ := by
  refine ⟨t1, t4, fun i tk => ?_, fun q hq => ?_, ok.arl, fun q hq => ?_, ll, d0, d1⟩
  · unfold K95.Br.Tk K95.Br.m at tk
    have tk : 0 ≤ i ∧ i < (ts.length : Int) := tk
    have e : ((i.toNat : Nat) : Int) = i := by omega
    have lt : i.toNat < ts.length := by omega
    have hg : ts[i.toNat]? = some (ts[i.toNat]'lt) := List.getElem?_eq_getElem lt
    obtain ⟨elo, ehi⟩ := lo_at (B := ⟨ts, as, ls, dl⟩) hg
    rw [e] at elo ehi
    rw [elo, ehi]
    exact ok.dur _ (List.mem_of_getElem? hg)
  · obtain ⟨a, b, d⟩ := ok.arr q hq
    refine ⟨⟨a, ?_⟩, ⟨?_, ?_⟩, b⟩
    · show q.1 < (ts.length : Int)
      omega
    · omega
    · exact d
  · obtain ⟨a0, a1, b0, b1, ne, w0, w1⟩ := lok q hq
    refine ⟨⟨a0, ?_⟩, ⟨b0, ?_⟩, ne, by omega, by omega⟩
    · show q.1 ≤ 2 * (ts.length : Int)
      omega
    · show q.2.1 ≤ 2 * (ts.length : Int)
      omega
theorem wf_dl {B : K95.Br} {d : Int} (wf : B.WF) (d0 : 0 ≤ d) (d1 : d ≤ 60) : K95.Br.WF ⟨B.tasks, B.arrows, B.limits, d⟩ := ⟨wf.m1, wf.m4, wf.dur, wf.arr, wf.arl, wf.lim, wf.lil, d0, d1⟩
def spDB : Sp := fun vs H Q _ => ∃ p c n many lm wd most, vs = [.ref p, .int many, .int lm, .int wd, .int most] ∧ PenAt H p c n ∧ n ≤ 800000 ∧ 1 ≤ many ∧ many ≤ 4 ∧ 1 ≤ lm ∧ lm ≤ 19 ∧ 0 ≤ wd ∧ wd ≤ 19 ∧ 1 ≤ most ∧ most ≤ 20 ∧
  ∀ v H' B, Dr H p c (n + 300) H' → IsBr H' v B → B.WF → (B.m : Int) = many → 1 ≤ B.dl → Q v H'
abbrev N__law_draw_brief : List Str := ["_law_pen", "_law_many", "_law_low_most", "_law_wide", "_law_most", "_law_project", "_law_moments", "_law_loose", "_law_limits", "_law_spare"]
theorem sc__law_draw_brief : FnScope N__law_draw_brief ["_law_pen", "_law_many", "_law_low_most", "_law_wide", "_law_most"] (defScope (top 44)) := ⟨rfl, rfl, rfl, by decide +kernel, rfl, by decide +kernel, by decide +kernel⟩
-- slots: _law_pen 0, _law_many 1, _law_low_most 2, _law_wide 3, _law_most 4, _law_project 5, _law_moments 6, _law_loose 7, _law_limits 8, _law_spare 9
set_option maxHeartbeats 16000000 in
theorem k__law_draw_brief (A : At K mg "_law_draw_brief" (top 44) ["_law_pen", "_law_many", "_law_low_most", "_law_wide", "_law_most"] f fd) (bi : Bi mg) (D_law_one_of : Def P w K mg base "_law_one_of" 3 ["_law_pen", "_law_some"] spOne)
    (D_law_draw_project : Def P w K mg base "_law_draw_project" 4 ["_law_pen", "_law_many", "_law_low_most", "_law_wide"] spDP) (D_law_draw_nominal : Def P w K mg base "_law_draw_nominal" 4 ["_law_pen", "_law_project"] spDN) (D_law_draw_limits : Def P w K mg base "_law_draw_limits" 4 ["_law_pen", "_law_moments", "_law_most", "_law_loose"] spDL) :
    Def P w K mg base "_law_draw_brief" 5 ["_law_pen", "_law_many", "_law_low_most", "_law_wide", "_law_most"] spDB := by
  refine A.ok sc__law_draw_brief (fun vs H Q E h => ?_) (fun cdv A outer s H vs Q E hr h => ?_)
  · obtain ⟨p, c, n, many, lm, wd, most, rfl, _⟩ := h
    rfl
  obtain ⟨p, c, n, many, lm, wd, most, rfl, hp, hn, m1, m4, l1, l2, w0, w1, o1, o2, q⟩ := h
  have D_law_one_of := D_law_one_of.mono (j := 4) (by decide)
  refine ⟨_, (pss_cons (ps_set (i := 5) sc__law_draw_brief.nd rfl (.inl rfl) (pe_d D_law_draw_project hr (by rfl) (pa_cons (pv 0) (pa_cons (pv 1) (pa_cons (pv 2) (pa_cons (pv 3) pa_nil))))))
    (pss_cons (ps_set (i := 6) sc__law_draw_brief.nd rfl (.inl rfl) (pe_d D_law_draw_nominal hr (by rfl) (pa_cons (pv 0) (pa_cons (pv 5) pa_nil))))
    (pss_cons (ps_set (i := 7) sc__law_draw_brief.nd rfl (.inl rfl) (pe_d D_law_one_of hr (by rfl) (pa_cons (pv 0) (pa_cons (pe_lst (pa_cons (pe_lst (pa_cons pe_int pa_nil)) (pa_cons (pe_lst (pa_cons pe_int (pa_cons pe_int (pa_cons pe_int (pa_cons (pe_un un_neg pe_int) pa_nil))))) (pa_cons (pe_lst (pa_cons pe_int (pa_cons pe_int (pa_cons pe_int (pa_cons pe_int pa_nil))))) (pa_cons (pe_lst (pa_cons pe_int (pa_cons pe_int (pa_cons pe_int (pa_cons pe_int pa_nil))))) (pa_cons (pe_lst (pa_cons pe_int (pa_cons pe_int (pa_cons pe_int (pa_cons pe_int (pa_cons pe_int (pa_cons (pe_un un_neg pe_int) pa_nil))))))) pa_nil)))))) pa_nil))))
    (pss_cons (ps_set (i := 8) sc__law_draw_brief.nd rfl (.inl rfl) (pe_d D_law_draw_limits hr (by rfl) (pa_cons (pv 0) (pa_cons (pv 6) (pa_cons (pv 4) (pa_cons (pv 7) pa_nil))))))
    (pss_cons (ps_set (i := 9) sc__law_draw_brief.nd rfl (.inl rfl) (pe_d D_law_one_of hr (by rfl) (pa_cons (pv 0) (pa_cons (pe_lst (pa_cons pe_int (pa_cons pe_int (pa_cons pe_int (pa_cons pe_int (pa_cons pe_int pa_nil)))))) pa_nil))))
    (pss_one (ps_ret (pe_tup (pa_cons (pv 5) (pa_cons (pv 8) (pa_cons (pe_callB (call_max2 rfl) (by rfl) bi.max (by decide +kernel) (pa_cons pe_int (pa_cons (pe_callB (call_min2 rfl) (by rfl) bi.min (by decide +kernel) (pa_cons pe_int (pa_cons (pe_op op_add (pe_callB (cr_max rfl) (by rfl) bi.max (by decide +kernel) (pa_cons (pv 6) pa_nil)) (pv 9)) pa_nil))) pa_nil))) pa_nil))))))))))), ?_⟩
  walk_at "rd"
  refine ⟨p, c, n, many, lm, wd, rfl, hp, by omega, m1, m4, l1, l2, w0, w1, fun vp H1 ts as d1 hP lt ok => ?_⟩
  walk_at "rd"
  refine ⟨p, c, _, vp, ts, as, rfl, d1.pen, by omega, hP, ok, by omega, fun M H2 ms d2 nM hM lms mok => ?_⟩
  have d02 := d1.trans d2
  have hP2 := hP.tps (d2.tps d1.pen)
  walk_at "rd"
  refine ⟨Nat.le_of_ble_eq_true rfl, fun L1 nL1 => ?_⟩
  have n1 := d02.pen.ne_p nL1
  have i1 : Ints (upd H2 L1 (.lst [.int 0])) L1 [0] := upd_same
  have s1 := same_new (o := .lst [.int 0]) nL1
  generalize upd H2 L1 (.lst [.int 0]) = H3 at i1 s1
  have d3 := d02.same s1
  walk_at "rd"
  refine ⟨Nat.le_of_ble_eq_true rfl, fun L2 nL2 => ?_⟩
  have n2 := d3.pen.ne_p nL2
  have i2 : Ints (upd H3 L2 (.lst [.int 0, .int 0, .int 1, .int (-1)])) L2 [0, 0, 1, -1] := upd_same
  have s2 := same_new (o := .lst [.int 0, .int 0, .int 1, .int (-1)]) nL2
  generalize upd H3 L2 (.lst [.int 0, .int 0, .int 1, .int (-1)]) = H4 at i2 s2
  have d4 := d3.same s2
  walk_at "rd"
  refine ⟨Nat.le_of_ble_eq_true rfl, fun L3 nL3 => ?_⟩
  have n3 := d4.pen.ne_p nL3
  have i3 : Ints (upd H4 L3 (.lst [.int 0, .int 1, .int 2, .int 3])) L3 [0, 1, 2, 3] := upd_same
  have s3 := same_new (o := .lst [.int 0, .int 1, .int 2, .int 3]) nL3
  generalize upd H4 L3 (.lst [.int 0, .int 1, .int 2, .int 3]) = H5 at i3 s3
  have d5 := d4.same s3
  walk_at "rd"
  refine ⟨Nat.le_of_ble_eq_true rfl, fun L4 nL4 => ?_⟩
  have n4 := d5.pen.ne_p nL4
  have i4 : Ints (upd H5 L4 (.lst [.int 2, .int 5, .int 9, .int 30])) L4 [2, 5, 9, 30] := upd_same
  have s4 := same_new (o := .lst [.int 2, .int 5, .int 9, .int 30]) nL4
  generalize upd H5 L4 (.lst [.int 2, .int 5, .int 9, .int 30]) = H6 at i4 s4
  have d6 := d5.same s4
  walk_at "rd"
  refine ⟨Nat.le_of_ble_eq_true rfl, fun L5 nL5 => ?_⟩
  have n5 := d6.pen.ne_p nL5
  have i5 : Ints (upd H6 L5 (.lst [.int 0, .int 0, .int 1, .int 2, .int 60, .int (-60)])) L5 [0, 0, 1, 2, 60, -60] := upd_same
  have s5 := same_new (o := .lst [.int 0, .int 0, .int 1, .int 2, .int 60, .int (-60)]) nL5
  generalize upd H6 L5 (.lst [.int 0, .int 0, .int 1, .int 2, .int 60, .int (-60)]) = H7 at i5 s5
  have d7 := d6.same s5
  walk_at "rd"
  refine ⟨Nat.le_of_ble_eq_true rfl, fun L nL => ?_⟩
  have nLp := d7.pen.ne_p nL
  have hL : (upd H7 L (.lst [.ref L1, .ref L2, .ref L3, .ref L4, .ref L5])) L = some (.lst [.ref L1, .ref L2, .ref L3, .ref L4, .ref L5]) := upd_same
  have s6 := same_new (o := .lst [.ref L1, .ref L2, .ref L3, .ref L4, .ref L5]) nL
  generalize upd H7 L (.lst [.ref L1, .ref L2, .ref L3, .ref L4, .ref L5]) = H8 at hL s6
  have d8 := d7.same s6
  have sa := s1.trans (s2.trans (s3.trans (s4.trans (s5.trans s6))))
  walk_at "rd"
  refine ⟨p, c, _, L, _, rfl, d8.pen, by omega, hL, nLp, Nat.le_of_ble_eq_true rfl, Nat.le_of_ble_eq_true rfl, fun j v H9 hj of9 p9 => ?_⟩
  have d9 := d8.take of9 p9
  have hM9 : Ints H9 M ms := of9 _ _ (hM.same sa) nM
  have hP9 := (hP2.tps (same_tps sa)).tps (of9.tps d8.pen.notT)
  obtain ⟨U, lo, rfl, hU, nU, lo0, lo1⟩ : ∃ U lo, v = .ref U ∧ Ints H9 U lo ∧ U ≠ p ∧ 0 < lo.length ∧ lo.length ≤ 10 := by
    match j with
    | 0 => exact ⟨L1, _, (Option.some.inj hj).symm, of9 _ _ (i1.same (s2.trans (s3.trans (s4.trans (s5.trans s6))))) n1, n1, Nat.le_of_ble_eq_true rfl, Nat.le_of_ble_eq_true rfl⟩
    | 1 => exact ⟨L2, _, (Option.some.inj hj).symm, of9 _ _ (i2.same (s3.trans (s4.trans (s5.trans s6)))) n2, n2, Nat.le_of_ble_eq_true rfl, Nat.le_of_ble_eq_true rfl⟩
    | 2 => exact ⟨L3, _, (Option.some.inj hj).symm, of9 _ _ (i3.same (s4.trans (s5.trans s6))) n3, n3, Nat.le_of_ble_eq_true rfl, Nat.le_of_ble_eq_true rfl⟩
    | 3 => exact ⟨L4, _, (Option.some.inj hj).symm, of9 _ _ (i4.same (s5.trans s6)) n4, n4, Nat.le_of_ble_eq_true rfl, Nat.le_of_ble_eq_true rfl⟩
    | 4 => exact ⟨L5, _, (Option.some.inj hj).symm, of9 _ _ (i5.same s6) n5, n5, Nat.le_of_ble_eq_true rfl, Nat.le_of_ble_eq_true rfl⟩
    | j + 5 => cases hj
  clear i1 i2 i3 i4 i5 s1 s2 s3 s4 s5 s6 sa hL
  walk_at "rd"
  refine ⟨p, c, _, M, most, U, ms, lo, rfl, d9.pen, by omega, hM9, nM, by omega, by omega, o1, o2, hU, nU, lo0, lo1, fun vl Ha ls da hls lls lok => ?_⟩
  have d0a := d9.trans da
  have hMa : Ints Ha M ms := da.at hM9 nM
  have hPa := hP9.tps (da.tps d9.pen)
  walk_at "rd"
  refine ⟨Nat.le_of_ble_eq_true rfl, fun S nS => ?_⟩
  have nSp := d0a.pen.ne_p nS
  have hS : (upd Ha S (.lst [.int 0, .int 1, .int 3, .int 9, .int 60])) S = some (.lst [.int 0, .int 1, .int 3, .int 9, .int 60]) := upd_same
  have sS := same_new (o := .lst [.int 0, .int 1, .int 3, .int 9, .int 60]) nS
  generalize upd Ha S (.lst [.int 0, .int 1, .int 3, .int 9, .int 60]) = Hb at hS sS
  have db := d0a.same sS
  walk_at "rd"
  refine ⟨p, c, _, S, _, rfl, db.pen, by omega, hS, nSp, Nat.le_of_ble_eq_true rfl, Nat.le_of_ble_eq_true rfl, fun j2 v2 Hc hj2 ofc pc => ?_⟩
  have dc := db.take ofc pc
  have hMc : Ints Hc M ms := ofc _ _ (hMa.same sS) nM
  have hPc := (hPa.tps (same_tps sS)).tps (ofc.tps db.pen.notT)
  have hlc := (hls.tps (same_tps sS)).tps (ofc.tps db.pen.notT)
  obtain ⟨z, rfl⟩ : ∃ z : Int, v2 = .int z := by
    match j2 with
    | 0 => exact ⟨0, (Option.some.inj hj2).symm⟩
    | 1 => exact ⟨1, (Option.some.inj hj2).symm⟩
    | 2 => exact ⟨3, (Option.some.inj hj2).symm⟩
    | 3 => exact ⟨9, (Option.some.inj hj2).symm⟩
    | 4 => exact ⟨60, (Option.some.inj hj2).symm⟩
    | j + 5 => cases hj2
  walk_at "rd"
  refine ⟨M, ms, rfl, SqL.of hMc, by omega, fun m _ _ => ?_⟩
  walk_at "rd"
  refine ⟨_, _, rfl, ?_⟩
  rw [min_if]
  walk_at "rd"
  refine ⟨_, _, rfl, ?_⟩
  rw [max_if]
  walk_at "rd"
  have dl : 1 ≤ max 1 (min 60 (m + z)) ∧ max 1 (min 60 (m + z)) ≤ 60 := by omega
  generalize max 1 (min 60 (m + z)) = dv at dl
  refine ⟨Nat.le_of_ble_eq_true rfl, fun y ny => ?_⟩
  have sy := same_tps (same_new (o := .tup [vp, vl, .int dv]) ny)
  exact q _ _ ⟨ts, as, ls, dv⟩ ((dc.new ny).mono (by omega)) ⟨vp, vl, Tu.new, hPc.tps sy, hlc.tps sy⟩ (wf_of ok (by omega) (by omega) lls (by rw [← lms]; exact lok) (by omega) dl.2) lt dl.1
end
section
variable {P : Program} {w : World} {K : PySem.W.Frag} {mg : Str → Option Value} {base : Heap} {f C : Addr} {fd : FuncData}
theorem hw_iff {W : Int → Int → Int} {T : Int → Option Int} {k p j : Int} (h : 0 < W j (2 * k + 1)) : HW W T k p j ↔ ¬ (p < (T (2 * j + 2)).getD (p + 1) ∧ p - W j (2 * k + 1) < (T (2 * j + 1)).getD p) := by
  unfold HW
  constructor
  · intro g ⟨c1, c2⟩
    rcases g h with ⟨e, h1, h2⟩ | ⟨q, h1, h2⟩
    · rw [h1] at c1
      have c1 : p < e := c1
      omega
    · rw [h1] at c2
      have c2 : p - W j (2 * k + 1) < q := c2
      omega
  · intro g _
    cases he : T (2 * j + 2) with
    | some e =>
      by_cases c : e ≤ p
      · exact .inl ⟨e, rfl, c⟩
      · cases hb : T (2 * j + 1) with
        | some b =>
          refine .inr ⟨b, rfl, ?_⟩
          rw [he, hb] at g
          apply Classical.byContradiction
          intro c2
          exact g ⟨show p < e by omega, show p - W j (2 * k + 1) < b by omega⟩
        | none =>
          rw [he, hb] at g
          exact (g ⟨show p < e by omega, show p - W j (2 * k + 1) < p by omega⟩).elim
    | none =>
      cases hb : T (2 * j + 1) with
      | some b =>
        refine .inr ⟨b, rfl, ?_⟩
        rw [he, hb] at g
        apply Classical.byContradiction
        intro c2
        exact g ⟨show p < p + 1 by omega, show p - W j (2 * k + 1) < b by omega⟩
      | none =>
        rw [he, hb] at g
        exact (g ⟨show p < p + 1 by omega, show p - W j (2 * k + 1) < p by omega⟩).elim
theorem getD_int {o : Option Int} {x : Int} : (o.map V.int).getD (.int x) = .int (o.getD x) := by cases o <;> rfl
abbrev N__law_stays : List Str := ["_law_brief", "_law_table", "_law_situation", "_law_tasks", "_law_mosts", "_law_waits", "_law_t", "_law_happened", "_law_a", "_law_x", "_law_k", "_law_p", "_law_j"]
theorem sc__law_stays : FnScope N__law_stays ["_law_brief", "_law_table", "_law_situation"] (defScope (top 45)) := ⟨rfl, rfl, rfl, by decide +kernel, rfl, by decide +kernel, by decide +kernel⟩
-- slots: _law_brief 0, _law_table 1, _law_situation 2, _law_tasks 3, _law_mosts 4, _law_waits 5, _law_t 6, _law_happened 7, _law_a 8, _law_x 9, _law_k 10, _law_p 11, _law_j 12
set_option maxHeartbeats 16000000 in
theorem k__law_stays (A : At K mg "_law_stays" (top 45) ["_law_brief", "_law_table", "_law_situation"] f fd) (bi : Bi mg) : Def P w K mg base "_law_stays" 1 ["_law_brief", "_law_table", "_law_situation"] spStay := by
  refine A.ok sc__law_stays (fun vs H Q E h => ?_) (fun cdv A outer s H vs Q E hr h => ?_)
  · obtain ⟨vb, vt, v, t, B, M, W, hs, rfl, _⟩ := h
    rfl
  obtain ⟨vb, vt, v, t, B, M, W, hs, rfl, hB, wf, cl, hT, hS, sit, lhs, q⟩ := h
  have hu := hu_of hr
  have m4 := wf.m4
  obtain ⟨a, ap, at', ts, vl, rfl, ⟨va, b1, b2⟩, b3, _, lts⟩ := hB.parts
  obtain ⟨d1, d2, k1, k2, ⟨tb, rfl, t1⟩, t2, t3, tm, tw⟩ := hT
  obtain ⟨d, ⟨sa, rfl, hs1⟩, hd⟩ := hS
  have en : ((ts.length : Int)).toNat = B.m := by omega
  refine ⟨_, (pss_cons (ps_asg (pe_tup (pa_cons (pe_ix ix_tup (pe_ix ix_tup (pv 0) pe_int (fun _ _ => rfl)) pe_int (fun _ _ => rfl)) (pa_cons (pv 1) (pa_cons (pv 2) pa_nil)))) (pg_tup rfl (pgs_cons (pg_name (i := 3) sc__law_stays.nd rfl (.inl rfl)) (pgs_cons (pg_tup rfl (pgs_cons (pg_name (i := 4) sc__law_stays.nd rfl (.inl rfl)) (pgs_cons (pg_name (i := 5) sc__law_stays.nd rfl (.inr rfl)) pgs_nil))) (pgs_cons (pg_tup rfl (pgs_cons (pg_name (i := 6) sc__law_stays.nd rfl (.inl rfl)) (pgs_cons (pg_name (i := 7) sc__law_stays.nd rfl (.inr rfl)) pgs_nil))) pgs_nil)))))
    (pss_cons (ps_lock (ps_for PassesOwn.never rfl (pi_keys (pv 7)) (pg_name (i := 8) sc__law_stays.nd rfl (.inl rfl))
      (pss_one (ps_for PassesOwn.never rfl (pi_range1 (by rfl) bi.range (pa_cons (pe_op op_add (pe_op op_mul pe_int (pe_callB call_len_seq (by rfl) bi.len PySem.boot_len (pa_cons (pv 3) pa_nil))) pe_int) pa_nil)) (pg_name (i := 9) sc__law_stays.nd rfl (.inl rfl))
        (pss_one (ps_if (pt_cmpR op_gt (pe_op op_sub (pe_dget2 hu (pv 7) (pv 9) (pe_op op_add (pv 6) pe_int) ⟨rfl, rfl, rfl, rfl⟩) (pe_dget hu (pv 7) (pv 8) (fun _ _ => rfl))) (pe_dget hu (pv 4) (pe_tup (pa_cons (pv 8) (pa_cons (pv 9) pa_nil))) (fun _ _ => rfl)) (nomark _))
          (pss_one (ps_ret pe_bl))
          pss_nil))))))
    (pss_cons (ps_for PassesOwn.never rfl (pi_list (pe_lc (own := [("_law_k", 10)]) (g := gName 10) rfl sc__law_stays.nd (pi_range1 (by rfl) bi.range (pa_cons (pe_callB call_len_seq (by rfl) bi.len PySem.boot_len (pa_cons (pv 3) pa_nil)) pa_nil)) (blkOk_by (own := [("_law_k", 10)]) (N := N__law_stays) (sc := defScope (top 45)) (by decide +kernel)) (fun _ _ _ _ _ => (pg_name (i := 10) sc__law_stays.nd rfl (.inl rfl))) (fun _ _ _ _ _ => pts_one (pt_cmp (pc_din hu (pe_op op_add (pe_op op_mul pe_int (pv 10)) pe_int) (pv 7)))) (fun _ _ _ _ _ => (pv 10)))) (pg_name (i := 10) sc__law_stays.nd rfl (.inr rfl))
      (pss_cons (ps_set (i := 11) sc__law_stays.nd rfl (.inl rfl) (pe_dget hu (pv 7) (pe_op op_add (pe_op op_mul pe_int (pv 10)) pe_int) (fun _ _ => rfl)))
      (pss_one (ps_for PassesOwn.never rfl (pi_list (pe_lc (own := [("_law_j", 12)]) (g := gName 12) rfl sc__law_stays.nd (pi_range1 (by rfl) bi.range (pa_cons (pe_callB call_len_seq (by rfl) bi.len PySem.boot_len (pa_cons (pv 3) pa_nil)) pa_nil)) (blkOk_by (own := [("_law_j", 12)]) (N := N__law_stays) (sc := defScope (top 45)) (by decide +kernel)) (fun _ _ _ _ _ => (pg_name (i := 12) sc__law_stays.nd rfl (.inl rfl))) (fun _ _ _ _ _ => pts_one (PW.pt (pw_and (pt_cmpR op_ne (pv 12) (pv 10) (nomark _)) (pw_and1 (pt_cmpR op_gt (pe_dget hu (pv 5) (pe_tup (pa_cons (pv 12) (pa_cons (pe_op op_add (pe_op op_mul pe_int (pv 10)) pe_int) pa_nil))) (fun _ _ => rfl)) pe_int (nomark _)))))) (fun _ _ _ _ _ => (pv 12)))) (pg_name (i := 12) sc__law_stays.nd rfl (.inl rfl))
        (pss_one (ps_if (PW.pt (pw_and (pt_cmpR op_gt (pe_dget2 hu (pv 7) (pe_op op_add (pe_op op_mul pe_int (pv 12)) pe_int) (pe_op op_add (pv 11) pe_int) ⟨rfl, rfl, rfl, rfl⟩) (pv 11) (nomark _)) (pw_and1 (pt_cmpR op_gt (pe_dget2 hu (pv 7) (pe_op op_add (pe_op op_mul pe_int (pv 12)) pe_int) (pv 11) ⟨rfl, rfl, rfl, rfl⟩) (pe_op op_sub (pv 11) (pe_dget hu (pv 5) (pe_tup (pa_cons (pv 12) (pa_cons (pe_op op_add (pe_op op_mul pe_int (pv 10)) pe_int) pa_nil))) (fun _ _ => rfl))) (nomark _)))))
          (pss_one (ps_ret pe_bl))
          pss_nil))))))
    (pss_one (ps_ret pe_bl))))), ?_⟩
  walk_at "rd"
  refine q_ixT (SqT.of b1) rfl ?_
  walk_at "rd"
  refine q_ixT (SqT.of b2) rfl ?_
  walk_at "rd"
  refine ⟨Nat.le_of_ble_eq_true rfl, fun z nz => ?_⟩
  have s0 := same_new (o := .tup [.ref at', .ref tb, .ref sa]) nz
  have hz : (upd H z (.tup [.ref at', .ref tb, .ref sa])) z = some (.tup [.ref at', .ref tb, .ref sa]) := upd_same
  generalize upd H z (.tup [.ref at', .ref tb, .ref sa]) = H0 at s0 hz
  refine q_gtup (SqT.of hz) rfl ?_
  walk_at "rd"
  refine q_gtup (SqT.of (s0 _ _ t1)) rfl ?_
  walk_at "rd"
  refine q_gtup (SqT.of (s0 _ _ hs1)) rfl ?_
  walk_at "rd"
  have b3 := s0 _ _ b3
  have t2 := s0 _ _ t2
  have t3 := s0 _ _ t3
  have hd := s0 _ _ hd
  clear hz b1 b2 t1 hs1
  refine q_lock hd trivial fun od => ?_
  have hd1 : (upd H0 d (.frz od (.dK (hap hs)))) d = some (.frz od (.dK (hap hs))) := upd_same
  have o1 : Off d H0 (upd H0 d (.frz od (.dK (hap hs)))) := off_set
  have un : ∀ H', Same (upd H0 d (.frz od (.dK (hap hs)))) H' → Same H0 (upd H' d (.dK (hap hs))) := fun H' s => unlock hd s
  have tp1 : Tps H0 (upd H0 d (.frz od (.dK (hap hs)))) := o1.tps fun xs e => by rw [hd] at e; cases e
  have t2' := o1 _ _ t2 (ne_of t2 hd (fun z => by cases z))
  generalize upd H0 d (.frz od (.dK (hap hs))) = H1 at hd1 o1 un tp1 t2'
  walk_at "rd"
  refine ⟨d, od, rfl, .inl ⟨_, hd1, ?_⟩⟩
  refine for_it (walk_keys (kvs := hap hs)) (fun n σ H' => ∃ y8 y9, σ = [some (.ref a), some (.ref tb), some (.ref sa), some (.ref at'), some (.ref d1), some (.ref d2), some (.int t), some (.ref d), y8, y9, none, none, none] ∧ Same H1 H' ∧ ∀ a p, (a, p) ∈ hs.take n → ∀ q, K95.look hs a = some q → ∀ x, B.Ev x → K95.hat t (K95.look hs) x - q ≤ M a x)
    ⟨none, none, rfl, Same.refl _, fun a p h => by simp at h⟩ (fun n σ H' _ ⟨_, _, _, s, _⟩ => s _ _ hd1) (fun n v σ H2 H2' hn ⟨y8, y9, eσ, s2, ih⟩ hy => ?_) (fun σ H2 ⟨y8, y9, eσ, s2, ih⟩ => ?_)
  · subst eσ
    obtain ⟨rfl, kk, kv, hkv, rfl⟩ := hy
    obtain ⟨⟨ka, kp⟩, hka, ekv⟩ := get_map hkv
    injection ekv with ek _
    subst ek
    obtain ⟨qa, hqa⟩ := K95.look_some_of_key (List.mem_map.mpr ⟨_, List.mem_of_getElem? hka, rfl⟩)
    have hqa : K95.look hs ka = some qa := hqa
    have eva := (sit.rng ka qa hqa).1
    have hd2 := s2 _ _ hd1
    show gName 8 (V.int ka) _ _ _
    walk_at "rd"
    refine ⟨at', ts, rfl, .inr (SqT.of ((same_tps s2) _ _ (tp1 _ _ b3))), ?_⟩
    walk_at "rd"
    refine ⟨_, rfl, (i62' (by omega) (by omega)).1, (i62' (by omega) (by omega)).2, ?_⟩
    have en2 : (2 * (ts.length : Int) + 1).toNat = 2 * B.m + 1 := by omega
    rw [en2]
    refine for_it walk_r0 (fun m σ H' => ∃ y9, σ = [some (.ref a), some (.ref tb), some (.ref sa), some (.ref at'), some (.ref d1), some (.ref d2), some (.int t), some (.ref d), some (.int ka), y9, none, none, none] ∧ Same H1 H' ∧ ∀ x, 0 ≤ x → x < (m : Int) → K95.hat t (K95.look hs) x - qa ≤ M ka x)
      ⟨_, rfl, s2, fun x h1 h2 => by omega⟩ (fun _ _ _ _ _ => trivial) (fun m v σ H3 H3' hm ⟨y9, eσ, s3, im⟩ hy => ?_) (fun σ H3 ⟨y9, eσ, s3, im⟩ => ?_)
    · subst eσ
      obtain ⟨rfl, rfl⟩ := hy
      have evm : B.Ev (m : Int) := by unfold K95.Br.Ev; omega
      have hd3 := s3 _ _ hd1
      walk_at "rd"
      refine ⟨d, rfl, .inl ⟨_, .inr ⟨_, hd3⟩⟩, ?_⟩
      walk_at "rd"
      refine ⟨_, hget (.inr ⟨_, hd3⟩) (m : Int), ?_⟩
      rw [hat_get]
      walk_at "rd"
      have g0 := hget (.inr ⟨_, hd3⟩) ka
      rw [hqa] at g0
      refine ⟨d, _, rfl, g0, ?_⟩
      walk_at "rd"
      refine ⟨Nat.le_of_ble_eq_true rfl, fun z nz => ?_⟩
      have s4 := same_new (o := .tup [.int ka, .int (m : Int)]) nz
      have hz : (upd H3' z (.tup [.int ka, .int (m : Int)])) z = some (.tup [.int ka, .int (m : Int)]) := upd_same
      generalize upd H3' z (.tup [.int ka, .int (m : Int)]) = H4 at s4 hz
      have s34 := s3.trans s4
      refine ⟨d1, _, rfl, tget (s34 _ _ t2') hz (tm _ _ eva evm), ?_⟩
      walk_at "rd"
      refine ite2 (fun c => ?_) (fun c => ?_)
      · walk_at "rd"
        refine ⟨s34 _ _ hd1, q false _ ⟨(fun h => nomatch h), fun Y => ?_⟩ (s0.trans (un _ s34))⟩
        have h1 := Y.mo ka (m : Int) qa hqa evm
        have h2 := of_decide_eq_true c
        omega
      · refine ⟨_, rfl, s34, fun x h1 h2 => ?_⟩
        by_cases e : x = (m : Int)
        · rw [e]
          have : ¬ M ka (m : Int) < K95.hat t (K95.look hs) (m : Int) - qa := fun z => c (decide_eq_true z)
          omega
        · exact im x h1 (by omega)
    · subst eσ
      refine ⟨_, _, rfl, s3, fun a' p' h q' hq x ex => ?_⟩
      rw [take_snoc hka, List.mem_append] at h
      rcases h with h | h
      · exact ih a' p' h q' hq x ex
      · rw [List.mem_singleton] at h
        injection h with h1 h2
        rw [h1, hqa] at hq
        cases hq
        rw [h1]
        unfold K95.Br.Ev at ex
        exact im x ex.1 (by omega)
  · subst eσ
    rw [hap_len, List.take_length] at ih
    refine ⟨s2 _ _ hd1, ?_⟩
    have s5 := un _ s2
    have mo : ∀ a x p, K95.look hs a = some p → B.Ev x → K95.hat t (K95.look hs) x - p ≤ M a x := fun a x p h e => ih a p (K95.look_mem h) p h x e
    generalize upd H2 d (.dK (hap hs)) = H5 at s5
    clear s2 ih un hd1 o1 tp1 t2'
    have hd5 := s5 _ _ hd
    have b35 := s5 _ _ b3
    have t35 := s5 _ _ t3
    have s05 := s0.trans s5
    clear s5 s0
    walk_at "rd"
    refine ⟨at', ts, rfl, .inr (SqT.of b35), ?_⟩
    walk_at "rd"
    refine ⟨_, rfl, (i62 (by omega)).1, (i62 (by omega)).2, fun D nD => ?_⟩
    rw [en]
    refine lc_it walk_r0 (fun n H' => Same H5 H' ∧ Ints H' D (((K95.itsL B.m).take n).filter fun k => (K95.look hs (2 * k + 1)).isSome)) ⟨same_new nD, upd_same⟩ (fun _ _ _ _ => trivial) (fun n v H6 H6' hn ⟨s6, hD⟩ hy => ?_) (fun H6 ⟨s6, hD⟩ => ?_)
    · obtain ⟨rfl, rfl⟩ := hy
      walk_at "rd"
      refine ⟨rfl, ?_⟩
      walk_at "rd"
      refine ⟨d, _, rfl, hget (.inl (s6 _ _ hd5)) (2 * (n : Int) + 1), ?_⟩
      rw [Option.isSome_map]
      have et : ((K95.itsL B.m).take (n + 1)).filter (fun k => (K95.look hs (2 * k + 1)).isSome) = ((K95.itsL B.m).take n).filter (fun k => (K95.look hs (2 * k + 1)).isSome) ++ if (K95.look hs (2 * (n : Int) + 1)).isSome = true then [(n : Int)] else [] := by
        rw [take_snoc (ints_take hn), List.filter_append, List.filter_cons, List.filter_nil]
      walk_at "rd"
      refine ite2 (fun c => ?_) (fun c => ?_)
      · walk_at "rd"
        refine ⟨_, hD, size_ok (by rw [List.length_map]; exact Nat.le_trans (List.length_filter_le _ _) (by rw [List.length_take]; omega)), same_upd0 s6 nD, ?_⟩
        rw [et, if_pos c]
        exact Ints.app
      · refine ⟨s6, ?_⟩
        rw [et, if_neg c, List.append_nil]
        exact hD
    · rw [List.take_of_length_le (by rw [K95.ints_len]; exact Nat.le_refl _)] at hD
      have mem : ∀ k : Int, k ∈ (K95.itsL B.m).filter (fun k => (K95.look hs (2 * k + 1)).isSome) ↔ B.Tk k ∧ (K95.look hs (2 * k + 1)).isSome = true := fun k => by
        rw [List.mem_filter, K95.mem_ints]
        rfl
      have lb : ((K95.itsL B.m).filter (fun k => (K95.look hs (2 * k + 1)).isSome)).length ≤ 4 := Nat.le_trans (List.length_filter_le _ _) (by rw [K95.ints_len]; exact m4)
      generalize (K95.itsL B.m).filter (fun k => (K95.look hs (2 * k + 1)).isSome) = bg at hD mem lb
      refine ⟨D, rfl, ⟨_, SqL.of hD⟩, ?_⟩
      have s06 := s05.trans s6
      have hd6 := s6 _ _ hd5
      have b36 := s6 _ _ b35
      have t36 := s6 _ _ t35
      refine for_it (walk_list (xs := bg.map V.int)) (fun n σ H' => ∃ y8 y9 y10 y11 y12, σ = [some (.ref a), some (.ref tb), some (.ref sa), some (.ref at'), some (.ref d1), some (.ref d2), some (.int t), some (.ref d), y8, y9, y10, y11, y12] ∧ Same H6 H' ∧ ∀ k ∈ bg.take n, ∀ p, K95.look hs (2 * k + 1) = some p → ∀ j, B.Tk j → j ≠ k → HW W (K95.look hs) k p j)
        ⟨_, _, _, _, _, rfl, Same.refl _, fun k h => by simp at h⟩ (fun n σ H' _ ⟨_, _, _, _, _, _, s, _⟩ => SqL.of (s _ _ hD)) (fun n v σ H7 H7' hn ⟨y8, y9, y10, y11, y12, eσ, s7, ib⟩ hy => ?_) (fun σ H7 ⟨y8, y9, y10, y11, y12, eσ, s7, ib⟩ => ?_)
      · subst eσ
        obtain ⟨rfl, hv⟩ := hy
        obtain ⟨k, hk, rfl⟩ := get_map hv
        obtain ⟨tkk, ksome⟩ := (mem k).mp (List.mem_of_getElem? hk)
        obtain ⟨p, hp⟩ := Option.isSome_iff_exists.mp ksome
        have evk := K95.ev_beg tkk
        rw [List.length_map] at hn
        have hd7 := s7 _ _ hd6
        walk_at "rd"
        have g0 := hget (.inl hd7) (2 * k + 1)
        rw [hp] at g0
        refine ⟨d, _, rfl, g0, ?_⟩
        walk_at "rd"
        refine ⟨at', ts, rfl, .inr (SqT.of (s7 _ _ b36)), ?_⟩
        walk_at "rd"
        refine ⟨_, rfl, (i62 (by omega)).1, (i62 (by omega)).2, fun E nE => ?_⟩
        rw [en]
        refine lc_it walk_r0 (fun n H' => Same H7' H' ∧ Ints H' E (((K95.itsL B.m).take n).filter fun j => !decide (j = k) && decide (0 < W j (2 * k + 1)))) ⟨same_new nE, upd_same⟩ (fun _ _ _ _ => trivial) (fun n v H8 H8' hn ⟨s8, hE⟩ hy => ?_) (fun H8 ⟨s8, hE⟩ => ?_)
        · obtain ⟨rfl, rfl⟩ := hy
          have tkn : B.Tk (n : Int) := by unfold K95.Br.Tk; omega
          walk_at "rd"
          refine ⟨rfl, ?_⟩
          have et : ((K95.itsL B.m).take (n + 1)).filter (fun j => !decide (j = k) && decide (0 < W j (2 * k + 1))) = ((K95.itsL B.m).take n).filter (fun j => !decide (j = k) && decide (0 < W j (2 * k + 1))) ++ if (!decide ((n : Int) = k) && decide (0 < W (n : Int) (2 * k + 1))) = true then [(n : Int)] else [] := by
            rw [take_snoc (ints_take hn), List.filter_append, List.filter_cons, List.filter_nil]
          have lf : (((K95.itsL B.m).take n).filter (fun j => !decide (j = k) && decide (0 < W j (2 * k + 1)))).length ≤ 100 := Nat.le_trans (List.length_filter_le _ _) (by rw [List.length_take]; omega)
          rw [et]
          generalize ((K95.itsL B.m).take n).filter (fun j => !decide (j = k) && decide (0 < W j (2 * k + 1))) = fl at hE lf
          refine useG (c := !decide ((n : Int) = k) && decide (0 < W (n : Int) (2 * k + 1))) (tsg_and (fun Qb q => ?_) fun _ Hx sx => fun Qb q => ?_) (fun H9 s9 => ?_)
          · walk_at "rd"
            exact q _ (Same.refl _)
          · walk_at "rd"
            refine ⟨Nat.le_of_ble_eq_true rfl, fun z nz => ?_⟩
            refine ⟨d2, _, rfl, tget ((s7.trans (s8.trans (sx.trans (same_new nz)))) _ _ t36) upd_same (tw _ _ tkn evk (by omega)), ?_⟩
            walk_at "rd"
            exact q _ (same_new nz)
          have s89 := s8.trans s9
          refine ite2 (fun c => ?_) (fun c => ?_)
          · walk_at "rd"
            refine ⟨_, s9 _ _ hE, size_ok (by rw [List.length_map]; omega), same_upd0 s89 nE, ?_⟩
            rw [if_pos c]
            exact Ints.app
          · refine ⟨s89, ?_⟩
            rw [if_neg c, List.append_nil]
            exact s9 _ _ hE
        · rw [List.take_of_length_le (by rw [K95.ints_len]; exact Nat.le_refl _)] at hE
          have memj : ∀ j : Int, j ∈ (K95.itsL B.m).filter (fun j => !decide (j = k) && decide (0 < W j (2 * k + 1))) ↔ B.Tk j ∧ j ≠ k ∧ 0 < W j (2 * k + 1) := fun j => by
            rw [List.mem_filter, K95.mem_ints, Bool.and_eq_true, decide_eq_true_eq, Bool.not_eq_true', decide_eq_false_iff_not]
            rfl
          generalize (K95.itsL B.m).filter (fun j => !decide (j = k) && decide (0 < W j (2 * k + 1))) = jl at hE memj
          have s78 := s7.trans s8
          refine ⟨E, rfl, ⟨_, SqL.of hE⟩, ?_⟩
          refine for_it (walk_list (xs := jl.map V.int)) (fun m σ H' => ∃ y12, σ = [some (.ref a), some (.ref tb), some (.ref sa), some (.ref at'), some (.ref d1), some (.ref d2), some (.int t), some (.ref d), y8, y9, some (.int k), some (.int p), y12] ∧ Same H8 H' ∧ ∀ j ∈ jl.take m, HW W (K95.look hs) k p j)
            ⟨_, rfl, Same.refl _, fun k h => by simp at h⟩ (fun m σ H' _ ⟨_, _, s, _⟩ => SqL.of (s _ _ hE)) (fun m v σ H9 H9' hm ⟨y12, eσ, s9, ij⟩ hy => ?_) (fun σ H9 ⟨y12, eσ, s9, ij⟩ => ?_)
          · subst eσ
            obtain ⟨rfl, hv⟩ := hy
            obtain ⟨j, hj, rfl⟩ := get_map hv
            obtain ⟨tkj, jne, jpos⟩ := (memj j).mp (List.mem_of_getElem? hj)
            have hd9 := s9 _ _ (s8 _ _ hd7)
            have e1 := hget (.inl hd9) (2 * j + 2)
            have e2 := hget (.inl hd9) (2 * j + 1)
            walk_at "rd"
            refine useG (c := decide (p < (K95.look hs (2 * j + 2)).getD (p + 1)) && decide (p - W j (2 * k + 1) < (K95.look hs (2 * j + 1)).getD p)) (tsg_and (fun Qb q => ?_) fun _ Hx sx => fun Qb q => ?_) (fun Ha sa' => ?_)
            · walk_at "rd"
              refine ⟨d, rfl, .inl ⟨_, .inl hd9⟩, ?_⟩
              walk_at "rd"
              refine ⟨_, e1, ?_⟩
              rw [getD_int]
              walk_at "rd"
              exact q _ (Same.refl _)
            · walk_at "rd"
              refine ⟨d, rfl, .inl ⟨_, .inl (sx _ _ hd9)⟩, ?_⟩
              walk_at "rd"
              refine ⟨_, hget (.inl (sx _ _ hd9)) (2 * j + 1), ?_⟩
              rw [getD_int]
              walk_at "rd"
              refine ⟨Nat.le_of_ble_eq_true rfl, fun z nz => ?_⟩
              refine ⟨d2, _, rfl, tget ((s78.trans (s9.trans (sx.trans (same_new nz)))) _ _ t36) upd_same (tw _ _ tkj evk (by omega)), ?_⟩
              walk_at "rd"
              exact q _ (same_new nz)
            have s9a := s9.trans sa'
            refine ite2 (fun c => ?_) (fun c => ?_)
            · walk_at "rd"
              refine q false _ ⟨(fun h => nomatch h), fun Y => ?_⟩ (s06.trans (s78.trans s9a))
              rw [Bool.and_eq_true, decide_eq_true_eq, decide_eq_true_eq] at c
              exact absurd c ((hw_iff jpos).mp fun pos => Y.wa k p j tkk hp tkj jne pos)
            · refine ⟨_, rfl, s9a, fun j' hj' => ?_⟩
              rw [take_snoc hj, List.mem_append] at hj'
              rcases hj' with h | h
              · exact ij j' h
              · rw [List.mem_singleton] at h
                subst h
                rw [Bool.and_eq_true, decide_eq_true_eq, decide_eq_true_eq] at c
                exact (hw_iff jpos).mpr c
          · subst eσ
            rw [List.length_map, List.take_length] at ij
            refine ⟨_, _, _, _, _, rfl, s78.trans s9, fun k' hk' p' hp' j tj jne => ?_⟩
            rw [take_snoc hk, List.mem_append] at hk'
            rcases hk' with h | h
            · exact ib k' h p' hp' j tj jne
            · rw [List.mem_singleton] at h
              subst h
              rw [hp] at hp'
              cases hp'
              intro pos
              exact ij j ((memj j).mpr ⟨tj, jne, pos⟩) pos
      · subst eσ
        rw [List.length_map, List.take_length] at ib
        walk_at "rd"
        exact q true _ ⟨fun _ => ⟨mo, fun k p j tk hp tj ne pos => ib k ((mem k).mpr ⟨tk, by rw [hp]; rfl⟩) p hp j tj ne pos⟩, fun _ => rfl⟩ (s06.trans s7)
end
section
variable {P : Program} {w : World} {K : PySem.W.Frag} {mg : Str → Option Value} {base : Heap} {f C : Addr} {fd : FuncData}
theorem nodup_snoc {α : Type} {l : List α} {x : α} (h : l.Nodup) (n : x ∉ l) : (l ++ [x]).Nodup := by
  rw [List.nodup_append]
  refine ⟨h, by simp, fun a ha b hb => ?_⟩
  rw [List.mem_singleton] at hb
  subst hb
  intro e
  subst e
  exact n ha
structure DEi (B : K95.Br) (t1 : Int) (T : Int → Option Int) (n : Nat) (is : List Int) : Prop where
  may : ∀ i ∈ is, (0 ≤ i ∧ i < (n : Int)) ∧ ∃ p, T (2 * i + 1) = some p ∧ B.lo i ≤ t1 - p ∧ t1 - p ≤ B.hi i
  must : ∀ i p, 0 ≤ i → i < (n : Int) → T (2 * i + 1) = some p → T (2 * i + 2) = none → i ∉ is → t1 - p < B.hi i
  len : is.length ≤ n
  nd : is.Nodup
section
variable {B : K95.Br} {t1 : Int} {T : Int → Option Int} {n : Nat} {is : List Int}
theorem DEi.app (h : DEi B t1 T n is) {p : Int} (hp : T (2 * (n : Int) + 1) = some p) (l : B.lo n ≤ t1 - p) (u : t1 - p ≤ B.hi n) : DEi B t1 T (n + 1) (is ++ [(n : Int)]) := by
  refine ⟨fun i hi => ?_, fun i q i0 i1 hq he hn => ?_, by rw [List.length_append]; exact Nat.succ_le_succ h.len, nodup_snoc h.nd fun z => by have := (h.may _ z).1; omega⟩
  · rcases List.mem_append.mp hi with g | g
    · obtain ⟨a, b⟩ := h.may i g
      exact ⟨⟨a.1, by omega⟩, b⟩
    · rw [List.mem_singleton] at g
      subst g
      exact ⟨⟨by omega, by omega⟩, p, hp, l, u⟩
  · by_cases e : i = (n : Int)
    · subst e
      exact absurd (List.mem_append_right _ List.mem_cons_self) hn
    · exact h.must i q i0 (by omega) hq he fun z => hn (List.mem_append_left _ z)
theorem DEi.skip (h : DEi B t1 T n is) (g : ∀ p, T (2 * (n : Int) + 1) = some p → T (2 * (n : Int) + 2) = none → t1 - p < B.hi n) : DEi B t1 T (n + 1) is := by
  refine ⟨fun i hi => ?_, fun i q i0 i1 hq he hn => ?_, Nat.le_succ_of_le h.len, h.nd⟩
  · obtain ⟨a, b⟩ := h.may i hi
    exact ⟨⟨a.1, by omega⟩, b⟩
  · by_cases e : i = (n : Int)
    · subst e
      exact g q hq he
    · exact h.must i q i0 (by omega) hq he hn
end
def ev2 (i : Int) : Int := 2 * i + 2
def spDE : Sp := fun vs H Q _ => ∃ p c n at' vts t d B hs, vs = [.ref p, .ref at', .int (t + 1), .ref d] ∧ PenAt H p c n ∧ n ≤ 900000 ∧ H at' = some (.tup vts) ∧ Paired (fun v d => Tu H v (pV d)) vts B.tasks ∧ B.WF ∧ H d = some (.dK (hap hs)) ∧ d ≠ p ∧ K95.Sl B t hs ∧
  ∀ D H' is, Dr H p c (n + 4) H' → D ≠ p → Ints H' D (is.map ev2) → is.length ≤ 4 → is.Nodup → K95.EndsOk B (t + 1) (K95.look hs) is → Q (.ref D) H'
abbrev N__law_draw_ends : List Str := ["_law_pen", "_law_tasks", "_law_t", "_law_happened", "_law_found", "_law_i", "_law_times", "_law_age"]
theorem sc__law_draw_ends : FnScope N__law_draw_ends ["_law_pen", "_law_tasks", "_law_t", "_law_happened"] (defScope (top 46)) := ⟨rfl, rfl, rfl, by decide +kernel, rfl, by decide +kernel, by decide +kernel⟩
-- slots: _law_pen 0, _law_tasks 1, _law_t 2, _law_happened 3, _law_found 4, _law_i 5, _law_times 6, _law_age 7
set_option maxHeartbeats 16000000 in
theorem k__law_draw_ends (A : At K mg "_law_draw_ends" (top 46) ["_law_pen", "_law_tasks", "_law_t", "_law_happened"] f fd) (bi : Bi mg) (D_law_take : Def P w K mg base "_law_take" 2 ["_law_pen", "_law_amount"] spTake) : Def P w K mg base "_law_draw_ends" 3 ["_law_pen", "_law_tasks", "_law_t", "_law_happened"] spDE := by
  refine A.ok sc__law_draw_ends (fun vs H Q E h => ?_) (fun cdv A outer s H vs Q E hr h => ?_)
  · obtain ⟨p, c, n, at', vts, t, d, B, hs, rfl, _⟩ := h
    rfl
  obtain ⟨p, c, n, at', vts, t, d, B, hs, rfl, hp, hn, hat, pt, wf, hd, ndp, sl, q⟩ := h
  have hu := hu_of hr
  have m4 := wf.m4
  have lvt : vts.length = B.m := pt.length
  refine ⟨_, (pss_cons (ps_set (i := 4) sc__law_draw_ends.nd rfl (.inl rfl) (pe_lst pa_nil))
    (pss_cons (ps_for PassesOwn.never rfl (pi_enumT (by rfl) bi.enumerate (pa_cons (pv 1) pa_nil)) (pg_tup rfl (pgs_cons (pg_name (i := 5) sc__law_draw_ends.nd rfl (.inl rfl)) (pgs_cons (pg_name (i := 6) sc__law_draw_ends.nd rfl (.inl rfl)) pgs_nil)))
      (pss_one (ps_if (PW.pt (pw_and (pt_cmp (pc_din hu (pe_op op_add (pe_op op_mul pe_int (pv 5)) pe_int) (pv 3))) (pw_and1 (pt_cmp (pc_dnotin hu (pe_op op_add (pe_op op_mul pe_int (pv 5)) pe_int) (pv 3))))))
        (pss_cons (ps_set (i := 7) sc__law_draw_ends.nd rfl (.inl rfl) (pe_op op_sub (pv 2) (pe_dget hu (pv 3) (pe_op op_add (pe_op op_mul pe_int (pv 5)) pe_int) (fun _ _ => rfl))))
        (pss_one (ps_if (PW.pt (pw_or (pt_cmpR op_eq (pv 7) (pe_ix ix_tup (pv 6) pe_int (fun _ _ => rfl)) (nomark _)) (pw_or1 (PW.pt (pw_and (pt_cmpR op_ge (pv 7) (pe_ix ix_tup (pv 6) pe_int (fun _ _ => rfl)) (nomark _)) (pw_and1 (pt_cmpR op_eq (pe_d D_law_take hr (by rfl) (pa_cons (pv 0) (pa_cons pe_int pa_nil))) pe_int (nomark _))))))))
          (pss_one (ps_expr (pe_bm PySem.F.plainAttrs_list PySem.F.slot_list_append PySem.F.type_list_append mt_append (pv 4) (pa_cons (pe_op op_add (pe_op op_mul pe_int (pv 5)) pe_int) pa_nil))))
          pss_nil)))
        pss_nil)))
    (pss_one (ps_ret (pv 4))))), ?_⟩
  walk_at "rd"
  refine ⟨Nat.le_of_ble_eq_true rfl, fun D nD => ?_⟩
  have nDp := hp.ne_p nD
  have d0 : Dr H p c n (upd H D (.lst [])) := (Dr.refl hp).new nD
  have h0 : Ints (upd H D (.lst [])) D [] := upd_same
  generalize upd H D (.lst []) = H0 at d0 h0
  walk_at "rd"
  refine ⟨at', vts, rfl, SqT.of (d0.tps hp _ _ hat), ?_⟩
  refine for_it walk_enumT (fun i σ H' => ∃ y5 y6 y7 is, σ = [some (.ref p), some (.ref at'), some (.int (t + 1)), some (.ref d), some (.ref D), y5, y6, y7] ∧ Dr H p c (n + i) H' ∧ Ints H' D (is.map ev2) ∧ DEi B (t + 1) (K95.look hs) i is)
    ⟨none, none, none, [], rfl, d0, h0, ⟨(fun i h => nomatch h), fun i q a b => by omega, Nat.le_refl _, List.nodup_nil⟩⟩ (fun i σ H' _ ⟨_, _, _, _, _, d, _⟩ => d.tps hp _ _ hat) (fun i v σ H1 H1' hi ⟨y5, y6, y7, is, eσ, d1, h1, ei⟩ hy => ?_) (fun σ H1 ⟨y5, y6, y7, is, eσ, d1, h1, ei⟩ => ?_)
  · subst eσ
    obtain ⟨T, ix, kv, rfl, nT, rfl, hix, hkv⟩ := hy
    cases hix
    obtain ⟨tt, ht, ta, rfl, hta⟩ := paired_get i kv pt hkv
    obtain ⟨elo, ehi⟩ := lo_at ht
    have lei := ei.len
    have tki : B.Tk (i : Int) := ⟨by omega, by omega⟩
    have d2 := d1.new (o := .tup [.int (i : Nat), .ref ta]) nT
    have h2 : Ints (upd H1 T (.tup [.int (i : Nat), .ref ta])) D (is.map ev2) := same_new nT _ _ h1
    have hT : (upd H1 T (.tup [.int (i : Nat), .ref ta])) T = some (.tup [.int (i : Nat), .ref ta]) := upd_same
    generalize upd H1 T (.tup [.int (i : Nat), .ref ta]) = H2 at d2 h2 hT
    have hd2 := d2.at hd ndp
    have g1 := hget (.inl hd2) (2 * (i : Int) + 1)
    have g2 := hget (.inl hd2) (2 * (i : Int) + 2)
    refine q_gtup (SqT.of hT) rfl ?_
    walk_at "rd"
    refine useT (c := (K95.look hs (2 * (i : Int) + 1)).isSome && !(K95.look hs (2 * (i : Int) + 2)).isSome) (tst_and (fun Qb q => ?_) fun _ => fun Qb q => ?_) ?_
    · walk_at "rd"
      refine ⟨d, _, rfl, g1, ?_⟩
      rw [Option.isSome_map]
      walk_at "rd"
      exact q
    · walk_at "rd"
      refine ⟨d, _, rfl, g2, ?_⟩
      rw [Option.isSome_map]
      walk_at "rd"
      exact q
    cases hb : K95.look hs (2 * (i : Int) + 1) with
    | none =>
      refine iteF ?_
      exact ⟨_, _, _, is, rfl, d2.mono (by omega), h2, ei.skip fun p hp' => by rw [hb] at hp'; cases hp'⟩
    | some b =>
      cases he : K95.look hs (2 * (i : Int) + 2) with
      | some e =>
        refine iteF ?_
        exact ⟨_, _, _, is, rfl, d2.mono (by omega), h2, ei.skip fun p _ he' => by rw [he] at he'; cases he'⟩
      | none =>
        rw [hb] at g1
        have age := sl.sit.run (i : Int) b tki hb he
        rw [ehi] at age
        refine iteT ?_
        walk_at "rd"
        refine ⟨d, _, rfl, g1, ?_⟩
        walk_at "rd"
        refine q_or ?_
        walk_at "rd"
        refine q_ixT (SqT.of (d2.tps hp _ _ hta)) (atI_nat (j := 1) rfl) ?_
        walk_at "rd"
        have yes : ∀ (H3 : Hp), Dr H p c (n + (i + 1)) H3 → Ints H3 D (is.map ev2) → tt.1 ≤ t + 1 - b → ∃ y5 y6 y7 is', [some (V.ref p), some (V.ref at'), some (V.int (t + 1)), some (V.ref d), some (V.ref D), some (V.int (i : Int)), some (V.ref ta), some (V.int (t + 1 - b))] = [some (V.ref p), some (V.ref at'), some (V.int (t + 1)), some (V.ref d), some (V.ref D), y5, y6, y7] ∧ Dr H p c (n + (i + 1)) (upd H3 D (.lst ((is.map ev2).map V.int ++ [.int (2 * (i : Int) + 2)]))) ∧ Ints (upd H3 D (.lst ((is.map ev2).map V.int ++ [.int (2 * (i : Int) + 2)]))) D (is'.map ev2) ∧ DEi B (t + 1) (K95.look hs) (i + 1) is' := fun H3 d3 h3 la =>
          ⟨_, _, _, is ++ [(i : Int)], rfl, d3.acc hp nD, by rw [List.map_append]; exact Ints.app, ei.app hb (by rw [elo]; exact la) (by rw [ehi]; omega)⟩
        have no : ¬ (t + 1 - b = tt.2) → DEi B (t + 1) (K95.look hs) (i + 1) is := fun ne => ei.skip fun p hp' _ => by
          rw [hb] at hp'
          cases hp'
          rw [ehi]
          omega
        refine ite2 (fun c1 => ?_) (fun c1 => ?_)
        · have c1 := of_decide_eq_true c1
          have dd := wf.dur (i : Int) tki
          rw [elo, ehi] at dd
          refine iteT ?_
          walk_at "rd"
          refine ⟨isL h2, ?_⟩
          walk_at "rd"
          refine ⟨D, _, _, rfl, rfl, h2, size_ok (by simp only [List.length_map]; omega), ?_⟩
          exact yes H2 (d2.mono (by omega)) h2 (by omega)
        · have c1 : ¬ (t + 1 - b = tt.2) := fun z => c1 (decide_eq_true z)
          walk_at "rd"
          refine q_and ?_
          walk_at "rd"
          refine q_ixT (SqT.of (d2.tps hp _ _ hta)) rfl ?_
          walk_at "rd"
          refine ite2 (fun c2 => ?_) (fun c2 => ?_)
          · have c2 := of_decide_eq_true c2
            walk_at "rd"
            refine ⟨p, c, _, 3, rfl, d2.pen, by omega, by omega, by omega, fun r H3 r0 r1 of3 p3 => ?_⟩
            have d3 := (d2.take of3 p3).mono (show n + i + 1 ≤ n + (i + 1) by omega)
            have h3 : Ints H3 D (is.map ev2) := of3 _ _ h2 nDp
            walk_at "rd"
            refine ite2 (fun _ => ?_) (fun _ => ?_)
            · walk_at "rd"
              refine ⟨isL h3, ?_⟩
              walk_at "rd"
              refine ⟨D, _, _, rfl, rfl, h3, size_ok (by simp only [List.length_map]; omega), ?_⟩
              exact yes H3 d3 h3 (by omega)
            · exact ⟨_, _, _, is, rfl, d3, h3, no c1⟩
          · refine iteF ?_
            exact ⟨_, _, _, is, rfl, d2.mono (by omega), h2, no c1⟩
  · subst eσ
    rw [lvt] at d1 ei
    walk_at "rd"
    have := ei.len
    exact q D H1 is (d1.mono (by omega)) nDp h1 (by omega) ei.nd ⟨fun i hi => by
      obtain ⟨a, b⟩ := ei.may i hi
      exact ⟨a, b⟩, fun i p tk hp he hn => ei.must i p tk.1 tk.2 hp he hn⟩
end
section
variable {P : Program} {w : World} {K : PySem.W.Frag} {mg : Str → Option Value} {base : Heap} {f C : Addr} {fd : FuncData}
theorem q_rev {K : PySem.W.Frag} {te : TE} {σ : L2.St} {H : Hp} {Q : VK} (h : te σ H fun x H1 => ∃ a xs, x = .ref a ∧ SqL K H1 a xs ∧ ∀ p, H1 p = none → Q (.ref p) (upd H1 p (.lst xs.reverse))) : tRevL K te σ H Q := h
def putAll (hs rows : List (Int × Int)) : List (Int × Int) := rows.foldl (fun a p => K95.put a p.1 p.2) hs
theorem put_new {l : List (Int × Int)} {k v : Int} (h : k ∉ l.map (·.1)) : K95.put l k v = l ++ [(k, v)] := by
  unfold K95.put
  rw [if_neg]
  intro e
  rw [List.any_eq_true] at e
  obtain ⟨p, hp, hk⟩ := e
  exact h (List.mem_map.mpr ⟨p, hp, of_decide_eq_true hk⟩)
theorem putAll_new : ∀ (rows hs : List (Int × Int)), ((hs ++ rows).map (·.1)).Nodup → putAll hs rows = hs ++ rows
  | [], hs, _ => (List.append_nil hs).symm
  | p :: r, hs, h => by
    have hn : p.1 ∉ hs.map (·.1) := by
      rw [List.map_append, List.map_cons, List.nodup_append] at h
      intro hm
      exact h.2.2 p.1 hm p.1 List.mem_cons_self rfl
    show putAll (K95.put hs p.1 p.2) r = _
    rw [put_new hn]
    have e : hs ++ [(p.1, p.2)] ++ r = hs ++ p :: r := by simp
    rw [putAll_new r (hs ++ [(p.1, p.2)]) (by rw [e]; exact h), e]
theorem look_perm {hs hs' : List (Int × Int)} (nd : (hs.map (·.1)).Nodup) (p : hs'.Perm hs) : K95.look hs' = K95.look hs := by
  have nd' : (hs'.map (·.1)).Nodup := (p.map _).nodup_iff.mpr nd
  funext x
  cases h : K95.look hs x with
  | some v => exact K95.look_of_mem nd' (p.mem_iff.mpr (K95.look_mem h))
  | none =>
    cases h' : K95.look hs' x with
    | none => rfl
    | some v =>
      have := K95.look_of_mem nd (p.mem_iff.mp (K95.look_mem h'))
      rw [h] at this
      cases this
theorem Sl_perm {B : K95.Br} {t : Int} {hs hs' : List (Int × Int)} (s : K95.Sl B t hs) (p : hs'.Perm hs) : K95.Sl B t hs' := ⟨by rw [look_perm s.nd p]; exact s.sit, (p.map _).nodup_iff.mpr s.nd⟩
theorem paired_hap {H : Hp} : ∀ {ps : List Addr} {rows : List (Int × Int)}, Paired (fun a q => H a = some (.tup (pV q))) ps rows → Paired (fun p kv => SqT K H p [kV kv.1, kv.2]) ps (hap rows)
  | _, _, .nil => .nil
  | _, _, .cons a b => .cons (SqT.of a) (paired_hap b)
theorem paired_refs {H : Hp} : ∀ {vs : List V} {rows : List (Int × Int)}, Paired (fun v q => Tu H v (pV q)) vs rows → ∃ ps : List Addr, vs = ps.map V.ref ∧ Paired (fun a q => H a = some (.tup (pV q))) ps rows
  | _, _, .nil => ⟨[], rfl, .nil⟩
  | _, _, .cons a b => by
    obtain ⟨p, rfl, h⟩ := a
    obtain ⟨ps, rfl, q⟩ := paired_refs b
    exact ⟨p :: ps, rfl, .cons h q⟩
theorem paired_rev {α β : Type} {F : α → β → Prop} : ∀ {l : List α} {r : List β}, Paired F l r → Paired F l.reverse r.reverse
  | _, _, .nil => .nil
  | _, _, .cons a b => by
    rw [List.reverse_cons, List.reverse_cons]
    exact paired_snoc (paired_rev b) a
def spRO : Sp := fun vs H Q _ => ∃ p c n d hs, vs = [.ref p, .ref d] ∧ PenAt H p c n ∧ n ≤ 1000000 ∧ H d = some (.dK (hap hs)) ∧ d ≠ p ∧ (hs.map (·.1)).Nodup ∧ hs.length ≤ 100 ∧
  ∀ d' H' hs', Dr H p c (n + 1) H' → H' d' = some (.dK (hap hs')) → hs'.Perm hs → Q (.ref d') H'
abbrev N__law_reordered : List Str := ["_law_pen", "_law_happened", "_law_rows"]
theorem sc__law_reordered : FnScope N__law_reordered ["_law_pen", "_law_happened"] (defScope (top 47)) := ⟨rfl, rfl, rfl, by decide +kernel, rfl, by decide +kernel, by decide +kernel⟩
-- slots: _law_pen 0, _law_happened 1, _law_rows 2
set_option maxHeartbeats 16000000 in
theorem k__law_reordered (A : At K mg "_law_reordered" (top 47) ["_law_pen", "_law_happened"] f fd) (bi : Bi mg) (D_law_one_of : Def P w K mg base "_law_one_of" 3 ["_law_pen", "_law_some"] spOne) : Def P w K mg base "_law_reordered" 4 ["_law_pen", "_law_happened"] spRO := by
  refine A.ok sc__law_reordered (fun vs H Q E h => ?_) (fun cdv A outer s H vs Q E hr h => ?_)
  · obtain ⟨p, c, n, d, hs, rfl, _⟩ := h
    rfl
  obtain ⟨p, c, n, d, hs, rfl, hp, hn, hd, ndp, nd, lh, q⟩ := h
  refine ⟨_, (pss_cons (ps_set (i := 2) sc__law_reordered.nd rfl (.inl rfl) (pe_sortItems rfl (by rfl) bi.sorted (pv 1)))
    (pss_one (ps_ret (pe_d D_law_one_of hr (by rfl) (pa_cons (pv 0) (pa_cons (pe_lst (pa_cons (pv 1) (pa_cons (pv 1) (pa_cons (pe_callTy (call_dictP rfl) (by rfl) bi.dict (by decide +kernel) (pa_cons (pv 2) pa_nil)) (pa_cons (pe_callTy (call_dictP rfl) (by rfl) bi.dict (by decide +kernel) (pa_cons (pe_revL (pv 2)) pa_nil)) pa_nil))))) pa_nil)))))), ?_⟩
  walk_at "rd"
  refine ⟨d, hs, rfl, hd, fun H1 R ts rows s1 nR hR perm pr => ?_⟩
  have d1 : Dr H p c n H1 := (Dr.refl hp).same s1
  have hd1 := s1 _ _ hd
  have ndr : (rows.map (·.1)).Nodup := (perm.map _).nodup_iff.mpr nd
  have e1 : ∀ rs : List (Int × Int), (rs.map (·.1)).Nodup → mergeK [] (hap rs) = hap rs := fun rs h => by
    show mergeK (hap []) (hap rs) = hap rs
    rw [hap_merge]
    have := putAll_new rs [] h
    rw [List.nil_append] at this
    exact congrArg hap this
  walk_at "rd"
  refine ⟨R, ts, hap rows, rfl, SqL.of hR, paired_hap pr, fun E nE => ?_⟩
  rw [e1 rows ndr]
  have s2 := same_new (o := .dK (hap rows)) nE
  have hE : (upd H1 E (.dK (hap rows))) E = some (.dK (hap rows)) := upd_same
  have nEp := d1.pen.ne_p nE
  generalize upd H1 E (.dK (hap rows)) = H2 at s2 hE
  have d2 := d1.same s2
  walk_at "rd"
  refine q_rev ?_
  walk_at "rd"
  refine ⟨R, _, rfl, SqL.of (s2 _ _ hR), fun G nG => ?_⟩
  have eG : (ts.map V.ref).reverse = ts.reverse.map V.ref := by rw [List.map_reverse]
  rw [eG]
  have s3 := same_new (o := .lst (ts.reverse.map V.ref)) nG
  have hG : (upd H2 G (.lst (ts.reverse.map V.ref))) G = some (.lst (ts.reverse.map V.ref)) := upd_same
  generalize upd H2 G (.lst (ts.reverse.map V.ref)) = H3 at s3 hG
  have d3 := d2.same s3
  have ndr2 : (rows.reverse.map (·.1)).Nodup := ((List.reverse_perm rows).map _).nodup_iff.mpr ndr
  walk_at "rd"
  refine ⟨G, ts.reverse, hap rows.reverse, rfl, SqL.of hG, paired_hap (paired_rev (paired_imp (fun _ _ h => s3 _ _ (s2 _ _ h)) pr)), fun F nF => ?_⟩
  rw [e1 rows.reverse ndr2]
  have s4 := same_new (o := .dK (hap rows.reverse)) nF
  have hF : (upd H3 F (.dK (hap rows.reverse))) F = some (.dK (hap rows.reverse)) := upd_same
  have nFp := d3.pen.ne_p nF
  generalize upd H3 F (.dK (hap rows.reverse)) = H4 at s4 hF
  have d4 := d3.same s4
  walk_at "rd"
  refine ⟨Nat.le_of_ble_eq_true rfl, fun L nL => ?_⟩
  have s5 := same_new (o := .lst [.ref d, .ref d, .ref E, .ref F]) nL
  have hL : (upd H4 L (.lst [.ref d, .ref d, .ref E, .ref F])) L = some (.lst [.ref d, .ref d, .ref E, .ref F]) := upd_same
  have nLp := d4.pen.ne_p nL
  generalize upd H4 L (.lst [.ref d, .ref d, .ref E, .ref F]) = H5 at s5 hL
  have d5 := d4.same s5
  walk_at "rd"
  refine ⟨p, c, _, L, _, rfl, d5.pen, by omega, hL, nLp, Nat.le_of_ble_eq_true rfl, Nat.le_of_ble_eq_true rfl, fun j v H6 hj of6 p6 => ?_⟩
  have d6 := d5.take of6 p6
  match j with
  | 0 => cases hj; exact q _ _ hs d6 (d6.at hd ndp) (List.Perm.refl _)
  | 1 => cases hj; exact q _ _ hs d6 (d6.at hd ndp) (List.Perm.refl _)
  | 2 => cases hj; exact q _ _ rows d6 (of6 _ _ (s5 _ _ (s4 _ _ (s3 _ _ hE))) nEp) perm
  | 3 => cases hj; exact q _ _ rows.reverse d6 (of6 _ _ (s5 _ _ hF) nFp) ((List.reverse_perm rows).trans perm)
  | j + 4 => cases hj
end
section
variable {P : Program} {w : World} {K : PySem.W.Frag} {mg : Str → Option Value} {base : Heap} {f C : Addr} {fd : FuncData}
theorem ends_rows {t : Int} {is : List Int} {hs : List (Int × Int)} : putAll hs (is.map fun i => (ev2 i, t)) = K95.endAll t hs is := by
  unfold putAll K95.endAll
  rw [List.foldl_map]
  rfl
theorem ends_new {t : Int} {is : List Int} (nd : is.Nodup) : putAll [] (is.map fun i => (ev2 i, t)) = is.map fun i => (ev2 i, t) := by
  have h := putAll_new (is.map fun i => (ev2 i, t)) [] (by
    rw [List.nil_append, List.map_map]
    show (is.map ev2).Nodup
    exact List.Pairwise.map ev2 (fun a b h e => h (by unfold ev2 at e; omega)) nd)
  rwa [List.nil_append] at h
theorem merge_ends {t : Int} {is : List Int} {hs : List (Int × Int)} (nd : is.Nodup) : mergeK (hap hs) (mergeK [] (hap (is.map fun i => (ev2 i, t)))) = hap (K95.endAll t hs is) := by
  have e1 : mergeK [] (hap (is.map fun i => (ev2 i, t))) = hap (is.map fun i => (ev2 i, t)) := by
    show mergeK (hap []) _ = _
    rw [hap_merge]
    exact congrArg hap (ends_new nd)
  rw [e1, hap_merge]
  exact congrArg hap ends_rows
theorem isD {H : Hp} {a : Addr} {kvs : List (Key × V)} {K : PySem.W.Frag} (h : H a = some (.dK kvs)) : tyV K "dict" (.ref a) H := .inr (.inr (.inl ⟨rfl, .inl ⟨kvs, h⟩⟩))
def spDS : Sp := fun vs H Q _ => ∃ p c n at' vts, ∃ rn : Nat, ∃ rare B, vs = [.ref p, .ref at', .int (rn : Int), .int rare] ∧ PenAt H p c n ∧ n ≤ 800000 ∧ H at' = some (.tup vts) ∧ Paired (fun v d => Tu H v (pV d)) vts B.tasks ∧ B.WF ∧ rn ≤ 60 ∧ 1 ≤ rare ∧ rare ≤ 200 ∧
  ∀ v H' hs, Dr H p c (n + 1000) H' → IsSit H' v rn hs → K95.Sl B rn hs → Q v H'
abbrev N__law_draw_situation : List Str := ["_law_pen", "_law_tasks", "_law_rounds", "_law_rare", "_law_t", "_law_happened", "_law_again", "_law_i", "_law_event"]
theorem sc__law_draw_situation : FnScope N__law_draw_situation ["_law_pen", "_law_tasks", "_law_rounds", "_law_rare"] (defScope (top 48)) := ⟨rfl, rfl, rfl, by decide +kernel, rfl, by decide +kernel, by decide +kernel⟩
-- slots: _law_pen 0, _law_tasks 1, _law_rounds 2, _law_rare 3, _law_t 4, _law_happened 5, _law_again 6, _law_i 7, _law_event 8
set_option maxHeartbeats 16000000 in
theorem k__law_draw_situation (A : At K mg "_law_draw_situation" (top 48) ["_law_pen", "_law_tasks", "_law_rounds", "_law_rare"] f fd) (bi : Bi mg) (D_law_take : Def P w K mg base "_law_take" 2 ["_law_pen", "_law_amount"] spTake)
    (D_law_draw_ends : Def P w K mg base "_law_draw_ends" 3 ["_law_pen", "_law_tasks", "_law_t", "_law_happened"] spDE) (D_law_reordered : Def P w K mg base "_law_reordered" 4 ["_law_pen", "_law_happened"] spRO) :
    Def P w K mg base "_law_draw_situation" 5 ["_law_pen", "_law_tasks", "_law_rounds", "_law_rare"] spDS := by
  refine A.ok sc__law_draw_situation (fun vs H Q E h => ?_) (fun cdv A outer s H vs Q E hr h => ?_)
  · obtain ⟨p, c, n, at', vts, rn, rare, B, rfl, _⟩ := h
    rfl
  obtain ⟨p, c, n, at', vts, rn, rare, B, rfl, hp, hn, hat, pt, wf, lr, r1, r2, q⟩ := h
  have D_law_take := D_law_take.mono (j := 4) (by decide)
  have D_law_draw_ends := D_law_draw_ends.mono (j := 4) (by decide)
  have hu := hu_of hr
  have m4 := wf.m4
  have lvt : vts.length = B.m := pt.length
  refine ⟨_, (pss_cons (ps_asg (pe_tup (pa_cons pe_int (pa_cons (pe_disp (pps_cons pe_int pe_int pps_nil) (by rfl) (by rfl) (fun z => by cases z) (by decide)) pa_nil))) (pg_tup rfl (pgs_cons (pg_name (i := 4) sc__law_draw_situation.nd rfl (.inr rfl)) (pgs_cons (pg_name (i := 5) sc__law_draw_situation.nd rfl (.inl rfl)) pgs_nil))))
    (pss_cons (ps_for PassesOwn.never rfl (pi_range1 (by rfl) bi.range (pa_cons (pe_op op_add (pv 2) pe_int) pa_nil)) (pg_name (i := 6) sc__law_draw_situation.nd rfl (.inl rfl))
      (pss_cons (ps_for PassesOwn.never rfl (pi_range1 (by rfl) bi.range (pa_cons (pe_callB call_len_seq (by rfl) bi.len PySem.boot_len (pa_cons (pv 1) pa_nil)) pa_nil)) (pg_name (i := 7) sc__law_draw_situation.nd rfl (.inl rfl))
        (pss_one (ps_if (PW.pt (pw_and (pt_cmp (pc_dnotin hu (pe_op op_add (pe_op op_mul pe_int (pv 7)) pe_int) (pv 5))) (pw_and1 (pt_cmpR op_eq (pe_d D_law_take hr (by rfl) (pa_cons (pv 0) (pa_cons (pv 3) pa_nil))) pe_int (nomark _)))))
          (pss_one (ps_dput hu (pv 5) (pe_op op_add (pe_op op_mul pe_int (pv 7)) pe_int) (pv 4) rfl))
          pss_nil)))
      (pss_one (ps_if (pt_cmpR op_lt (pv 6) (pv 2) (nomark _))
        (pss_cons (ps_set (i := 4) sc__law_draw_situation.nd rfl (.inr rfl) (pe_op op_add (pv 4) pe_int))
        (pss_one (ps_expr (pe_bm PySem.F.plainAttrs_dict PySem.F.slot_dict_update PySem.F.type_dict_update mt_updK (pv 5) (pa_cons (pe_callTy (call_dictP rfl) (by rfl) bi.dict (by decide +kernel) (pa_cons (pe_lc (own := [("_law_event", 8)]) (g := gName 8) rfl sc__law_draw_situation.nd (pi_list (pe_d D_law_draw_ends hr (by rfl) (pa_cons (pv 0) (pa_cons (pv 1) (pa_cons (pv 4) (pa_cons (pv 5) pa_nil)))))) (blkOk_by (own := [("_law_event", 8)]) (N := N__law_draw_situation) (sc := defScope (top 48)) (by decide +kernel)) (fun _ _ _ _ _ => (pg_name (i := 8) sc__law_draw_situation.nd rfl (.inl rfl))) (fun _ _ _ _ _ => pts_nil) (fun _ _ _ _ _ => (pe_tup (pa_cons (pv 8) (pa_cons (pv 4) pa_nil))))) pa_nil)) pa_nil)))))
        pss_nil))))
    (pss_one (ps_ret (pe_tup (pa_cons (pv 4) (pa_cons (pe_d D_law_reordered hr (by rfl) (pa_cons (pv 0) (pa_cons (pv 5) pa_nil))) pa_nil))))))), ?_⟩
  walk_at "rd"
  intro d nd
  refine ⟨upd_same, [((.inl 0 : Key), .int 0)], rfl, by decide, ?_⟩
  have ndp := hp.ne_p nd
  have s2 : Same H (upd (upd H d (.dK [])) d (.dK (mergeK [] [((.inl 0 : Key), .int 0)]))) := same_upd0 (same_new nd) nd
  have hd : (upd (upd H d (.dK [])) d (.dK (mergeK [] [((.inl 0 : Key), .int 0)]))) d = some (.dK (hap [(0, 0)])) := by rw [upd_same]; rfl
  generalize upd (upd H d (.dK [])) d (.dK (mergeK [] [((.inl 0 : Key), .int 0)])) = H1 at s2 hd
  have d1 : Dr H p c n H1 := (Dr.refl hp).same s2
  walk_at "rd"
  refine ⟨Nat.le_of_ble_eq_true rfl, fun z nz => ?_⟩
  have s3 := same_new (o := .tup [.int 0, .ref d]) nz
  have hz : (upd H1 z (.tup [.int 0, .ref d])) z = some (.tup [.int 0, .ref d]) := upd_same
  generalize upd H1 z (.tup [.int 0, .ref d]) = H2 at s3 hz
  have d2 := d1.same s3
  have hd2 := s3 _ _ hd
  refine q_gtup (SqT.of hz) rfl ?_
  walk_at "rd"
  refine ⟨_, rfl, (i62' (by omega) (by omega)).1, (i62' (by omega) (by omega)).2, ?_⟩
  have en : ((rn : Int) + 1).toNat = rn + 1 := by omega
  rw [en]
  refine for_it walk_r0 (fun i σ H' => ∃ y6 y7 hs, σ = [some (.ref p), some (.ref at'), some (.int (rn : Int)), some (.int rare), some (.int ((min i rn : Nat) : Int)), some (.ref d), y6, y7, none] ∧ Dr H p c (n + 8 * i) H' ∧ H' d = some (.dK (hap hs)) ∧ K95.Sl B ((min i rn : Nat) : Int) hs)
    ⟨none, none, [(0, 0)], by rw [Nat.zero_min]; rfl, d2, hd2, by rw [Nat.zero_min]; exact K95.sl_zero⟩ (fun _ _ _ _ _ => trivial) (fun i v σ H3 H3' hi ⟨y6, y7, hs, eσ, d3, hd3, sl3⟩ hy => ?_) (fun σ H3 ⟨y6, y7, hs, eσ, d3, hd3, sl3⟩ => ?_)
  · subst eσ
    obtain ⟨rfl, rfl⟩ := hy
    have ei : min i rn = i := by omega
    rw [ei] at sl3 ⊢
    walk_at "rd"
    refine ⟨at', vts, rfl, .inr (SqT.of (d3.tps hp _ _ hat)), ?_⟩
    walk_at "rd"
    refine ⟨_, rfl, (i62 (by omega)).1, (i62 (by omega)).2, ?_⟩
    rw [Int.toNat_natCast, lvt]
    refine for_it walk_r0 (fun k σ H' => ∃ y7 hs, σ = [some (.ref p), some (.ref at'), some (.int (rn : Int)), some (.int rare), some (.int (i : Int)), some (.ref d), some (.int (i : Int)), y7, none] ∧ Dr H p c (n + 8 * i + k) H' ∧ H' d = some (.dK (hap hs)) ∧ K95.Sl B (i : Int) hs)
      ⟨_, hs, rfl, d3, hd3, sl3⟩ (fun _ _ _ _ _ => trivial) (fun k v σ H4 H4' hk ⟨y7, hs, eσ, d4, hd4, sl4⟩ hy => ?_) (fun σ H4 ⟨y7, hs, eσ, d4, hd4, sl4⟩ => ?_)
    · subst eσ
      obtain ⟨rfl, rfl⟩ := hy
      have tkk : B.Tk (k : Int) := ⟨by omega, by omega⟩
      have g1 := hget (.inl hd4) (2 * (k : Int) + 1)
      walk_at "rd"
      refine q_and ?_
      walk_at "rd"
      refine ⟨d, _, rfl, g1, ?_⟩
      rw [Option.isSome_map]
      walk_at "rd"
      cases hb : K95.look hs (2 * (k : Int) + 1) with
      | some b =>
        refine iteF ?_
        refine iteF ?_
        exact ⟨_, hs, rfl, d4.mono (by omega), hd4, sl4⟩
      | none =>
        refine iteT ?_
        walk_at "rd"
        refine ⟨p, c, _, rare, rfl, d4.pen, by omega, by omega, by omega, fun r H5 r0 r1 of5 p5 => ?_⟩
        have d5 := d4.take of5 p5
        have hd5 := of5 _ _ hd4 ndp
        walk_at "rd"
        refine ite2 (fun _ => ?_) (fun _ => ?_)
        · walk_at "rd"
          have lh := sl4.len wf
          refine ⟨d, _, rfl, hput hd5 (by omega) _ _, ?_⟩
          obtain ⟨sl6, _⟩ := sl4.begin wf tkk (sl4.noend tkk hb)
          exact ⟨_, _, rfl, d5.acc hp nd, upd_same, sl6⟩
        · exact ⟨_, hs, rfl, d5, hd5, sl4⟩
    · subst eσ
      walk_at "rd"
      refine ite2 (fun cc => ?_) (fun cc => ?_)
      · have cc : (i : Int) < (rn : Int) := of_decide_eq_true cc
        walk_at "rd"
        refine ⟨isD hd4, ?_⟩
        walk_at "rd"
        refine ⟨p, c, _, at', vts, (i : Int), d, B, hs, rfl, d4.pen, by omega, d4.tps hp _ _ hat, paired_imp (fun _ _ t => t.tps (d4.tps hp)) pt, wf, hd4, ndp, sl4, fun D H5 is d5 nDp h5 lis nis eo => ?_⟩
        have hd5 := d5.at hd4 ndp
        have d05 := d4.trans d5
        refine ⟨D, rfl, ⟨_, SqL.of h5⟩, fun F nF => ?_⟩
        refine lc_it (walk_list (xs := (is.map ev2).map V.int)) (fun m H' => Same H5 H' ∧ Rows pV H' F ((is.take m).map fun i_1 => (ev2 i_1, (i : Int) + 1))) ⟨same_new nF, Rows.nil F⟩ (fun m H' _ ⟨s, _⟩ => SqL.of (s _ _ h5)) (fun m v H6 H6' hm ⟨s6, r6⟩ hy => ?_) (fun H6 ⟨s6, r6⟩ => ?_)
        · obtain ⟨rfl, hv⟩ := hy
          obtain ⟨e, he, rfl⟩ := get_map hv
          obtain ⟨ii, hii, rfl⟩ := get_map he
          walk_at "rd"
          refine ⟨rfl, ?_⟩
          walk_at "rd"
          refine iteT ?_
          walk_at "rd"
          refine ⟨Nat.le_of_ble_eq_true rfl, fun z nz => ?_⟩
          obtain ⟨acc, e1, e2, r7⟩ := rows_snoc (d := (ev2 ii, (i : Int) + 1)) (r6.same (same_new (o := .tup (pV (ev2 ii, (i : Int) + 1))) nz)) (Tu.new (H := H6') (p := z) (xs := pV (ev2 ii, (i : Int) + 1)))
          refine ⟨acc, e1, size_ok (by rw [e2, List.length_map, List.length_take]; omega), same_upd0 (s6.trans (same_new nz)) nF, ?_⟩
          rw [take_snoc hii, List.map_append]
          exact r7
        · rw [List.length_map, List.length_map, List.take_length] at r6
          obtain ⟨vs, hv, pv'⟩ := r6
          obtain ⟨ps, rfl, pp⟩ := paired_refs pv'
          have d06 := d05.same s6
          walk_at "rd"
          refine ⟨F, ps, hap _, rfl, SqL.of hv, paired_hap pp, fun E nE => ?_⟩
          have hE : (upd H6 E (.dK (mergeK [] (hap (is.map fun i_1 => (ev2 i_1, (i : Int) + 1)))))) E = some (.dK (mergeK [] (hap (is.map fun i_1 => (ev2 i_1, (i : Int) + 1))))) := upd_same
          have s7 := same_new (o := .dK (mergeK [] (hap (is.map fun i_1 => (ev2 i_1, (i : Int) + 1))))) nE
          generalize upd H6 E (.dK (mergeK [] (hap (is.map fun i_1 => (ev2 i_1, (i : Int) + 1))))) = H7 at hE s7
          have d07 := d06.same s7
          have hd7 := s7 _ _ (s6 _ _ hd5)
          have lh := sl4.len wf
          have ndE : d ≠ E := ne_of_none (s6 _ _ hd5) nE
          walk_at "rd"
          refine ⟨d, E, _, _, rfl, rfl, ndE, hd7, hE, ?_, ?_⟩
          · have e1 : mergeK [] (hap (is.map fun i_1 => (ev2 i_1, (i : Int) + 1))) = hap (is.map fun i_1 => (ev2 i_1, (i : Int) + 1)) := by
              show mergeK (hap []) _ = _
              rw [hap_merge]
              exact congrArg hap (ends_new nis)
            rw [e1, hap_len, hap_len, List.length_map]
            exact Nat.le_of_lt (size_ok (by omega))
          rw [merge_ends nis]
          have e3 : min (i + 1) rn = i + 1 := by omega
          rw [e3]
          exact ⟨_, _, _, rfl, (d07.acc hp nd).mono (by omega), upd_same, sl4.ends eo⟩
      · have cc : ¬ (i : Int) < (rn : Int) := fun z => cc (decide_eq_true z)
        have e3 : min (i + 1) rn = i := by omega
        rw [e3]
        exact ⟨_, _, hs, rfl, d4.mono (by omega), hd4, sl4⟩
  · subst eσ
    have e3 : min (rn + 1) rn = rn := by omega
    rw [e3] at sl3 ⊢
    walk_at "rd"
    have lh := sl3.len wf
    refine ⟨p, c, _, d, hs, rfl, d3.pen, by omega, hd3, ndp, sl3.nd, by omega, fun d' H4 hs' d4 hd4 perm => ?_⟩
    walk_at "rd"
    refine ⟨Nat.le_of_ble_eq_true rfl, fun z nz => ?_⟩
    exact q _ _ hs' (((d3.trans d4).new nz).mono (by omega)) ⟨d', Tu.new, same_new nz _ _ hd4⟩ (Sl_perm sl3 perm)
end
section
variable {P : Program} {w : World} {K : PySem.W.Frag} {mg : Str → Option Value} {base : Heap} {f C : Addr} {fd : FuncData}
theorem PenAt.notX {H : Hp} {p c a : Addr} {n : Nat} {o : HO} (h : PenAt H p c n) (e : H a = some o) (nl : ∀ xs, o ≠ .lst xs) : a ≠ p := fun z => by
  obtain ⟨cells, x, r, h1, _⟩ := h
  rw [z, h1] at e
  exact nl _ (Option.some.inj e).symm
theorem IsTab.dr {B : K95.Br} {H H' : Hp} {v : V} {M W : Int → Int → Int} {p c : Addr} {n m : Nat} (h : IsTab B H v M W) (d : Dr H p c n H') (q : PenAt H p c m) : IsTab B H' v M W := by
  obtain ⟨d1, d2, k1, k2, a, b, e, g⟩ := h
  exact ⟨d1, d2, k1, k2, a.tps (d.tps q), d.at b (q.notX b fun _ z => by cases z), d.at e (q.notX e fun _ z => by cases z), g⟩
theorem IsSit.dr {H H' : Hp} {v : V} {t : Int} {hs : List (Int × Int)} {p c : Addr} {n m : Nat} (h : IsSit H v t hs) (d : Dr H p c n H') (q : PenAt H p c m) : IsSit H' v t hs := by
  obtain ⟨x, a, b⟩ := h
  exact ⟨x, a.tps (d.tps q), d.at b (q.notX b fun _ z => by cases z)⟩
def spDT : Sp := fun vs H Q _ => ∃ p c n vb vt B M W, vs = [.ref p, vb, vt] ∧ PenAt H p c n ∧ n ≤ 800000 ∧ IsBr H vb B ∧ B.WF ∧ 1 ≤ B.dl ∧ IsTab B H vt M W ∧
  ∀ v H' t hs, Dr H p c (n + 1000) H' → IsSit H' v t hs → K95.Sl B t hs → t ≤ 70 → Q v H'
abbrev N__law_draw_there : List Str := ["_law_pen", "_law_brief", "_law_table", "_law_tasks", "_law_there", "_law_again", "_law_ends", "_law_event", "_law_t", "_law_happened", "_law_i"]
theorem sc__law_draw_there : FnScope N__law_draw_there ["_law_pen", "_law_brief", "_law_table"] (defScope (top 51)) := ⟨rfl, rfl, rfl, by decide +kernel, rfl, by decide +kernel, by decide +kernel⟩
-- slots: _law_pen 0, _law_brief 1, _law_table 2, _law_tasks 3, _law_there 4, _law_again 5, _law_ends 6, _law_event 7, _law_t 8, _law_happened 9, _law_i 10
set_option maxHeartbeats 16000000 in
theorem k__law_draw_there (A : At K mg "_law_draw_there" (top 51) ["_law_pen", "_law_brief", "_law_table"] f fd) (bi : Bi mg) (D_law_take : Def P w K mg base "_law_take" 2 ["_law_pen", "_law_amount"] spTake) (D_law_one_of : Def P w K mg base "_law_one_of" 3 ["_law_pen", "_law_some"] spOne)
    (D_law_owner : Def P w K mg base "_law_owner" 1 ["_law_event"] (spI fun i => .int ((i - 1) / 2))) (D_opening : Def P w K mg base "opening" 5 ["brief", "table"] spOpen) (D_followed : Def P w K mg base "followed" 5 ["brief", "table", "situation", "tick"] spFoll)
    (D_law_draw_ends : Def P w K mg base "_law_draw_ends" 3 ["_law_pen", "_law_tasks", "_law_t", "_law_happened"] spDE) (D_law_reordered : Def P w K mg base "_law_reordered" 4 ["_law_pen", "_law_happened"] spRO) :
    Def P w K mg base "_law_draw_there" 6 ["_law_pen", "_law_brief", "_law_table"] spDT := by
  refine A.ok sc__law_draw_there (fun vs H Q E h => ?_) (fun cdv A outer s H vs Q E hr h => ?_)
  · obtain ⟨p, c, n, vb, vt, B, M, W, rfl, _⟩ := h
    rfl
  obtain ⟨p, c, n, vb, vt, B, M, W, rfl, hp, hn, hB, wf, dl1, hT, q⟩ := h
  have D_law_take := D_law_take.mono (j := 5) (by decide)
  have D_law_one_of := D_law_one_of.mono (j := 5) (by decide)
  have D_law_owner := D_law_owner.mono (j := 5) (by decide)
  have D_law_draw_ends := D_law_draw_ends.mono (j := 5) (by decide)
  have D_law_reordered := D_law_reordered.mono (j := 5) (by decide)
  have hu := hu_of hr
  have m4 := wf.m4
  have dl2 := wf.dl1
  have hB0 := hB
  obtain ⟨a, ap, at', ts, vl, rfl, ⟨va, b1, b2⟩, b3, pt, lts⟩ := hB.parts
  refine ⟨_, (pss_cons (ps_par (i := 3) (j := 4) (by rfl) sc__law_draw_there.nd rfl rfl (by decide) rfl rfl (pa_cons (pe_ix ix_tup (pe_ix ix_tup (pv 1) pe_int (fun _ _ => rfl)) pe_int (fun _ _ => rfl)) (pa_cons (pe_d D_opening hr (by rfl) (pa_cons (pv 1) (pa_cons (pv 2) pa_nil))) pa_nil)) (by rfl))
    (pss_cons (ps_for PassesOwn.never rfl (pi_range1 (by rfl) bi.range (pa_cons (pe_d D_law_take hr (by rfl) (pa_cons (pv 0) (pa_cons (pe_d D_law_one_of hr (by rfl) (pa_cons (pv 0) (pa_cons (pe_lst (pa_cons pe_int (pa_cons (pe_op op_add (pe_ix ix_tup (pv 1) pe_int (fun _ _ => rfl)) pe_int) pa_nil))) pa_nil))) pa_nil))) pa_nil)) (pg_name (i := 5) sc__law_draw_there.nd rfl (.inl rfl))
      (pss_cons (ps_set (i := 6) sc__law_draw_there.nd rfl (.inl rfl) (pe_d D_law_draw_ends hr (by rfl) (pa_cons (pv 0) (pa_cons (pv 3) (pa_cons (pe_op op_add (pe_ix ix_tup (pv 4) pe_int (fun _ _ => rfl)) pe_int) (pa_cons (pe_ix ix_tup (pv 4) pe_int (fun _ _ => rfl)) pa_nil))))))
      (pss_one (ps_set (i := 4) sc__law_draw_there.nd rfl (.inl rfl) (pe_d D_followed hr (by rfl) (pa_cons (pv 1) (pa_cons (pv 2) (pa_cons (pv 4) (pa_cons (pe_callTy call_tuple_of (by rfl) bi.tuple (by decide +kernel) (pa_cons (pe_lc (own := [("_law_event", 7)]) (g := gName 7) rfl sc__law_draw_there.nd (pi_list (pv 6)) (blkOk_by (own := [("_law_event", 7)]) (N := N__law_draw_there) (sc := defScope (top 51)) (by decide +kernel)) (fun _ _ _ _ _ => (pg_name (i := 7) sc__law_draw_there.nd rfl (.inl rfl))) (fun _ _ _ _ _ => pts_nil) (fun _ _ _ _ _ => (pe_d D_law_owner hr (by rfl) (pa_cons (pv 7) pa_nil)))) pa_nil)) pa_nil)))))))))
    (pss_cons (ps_asg (pe_tup (pa_cons (pe_ix ix_tup (pv 4) pe_int (fun _ _ => rfl)) (pa_cons (pe_callTy call_dictD (by rfl) bi.dict (by decide +kernel) (pa_cons (pe_ix ix_tup (pv 4) pe_int (fun _ _ => rfl)) pa_nil)) pa_nil))) (pg_tup rfl (pgs_cons (pg_name (i := 8) sc__law_draw_there.nd rfl (.inr rfl)) (pgs_cons (pg_name (i := 9) sc__law_draw_there.nd rfl (.inl rfl)) pgs_nil))))
    (pss_cons (ps_for PassesOwn.never rfl (pi_range1 (by rfl) bi.range (pa_cons (pe_d D_law_take hr (by rfl) (pa_cons (pv 0) (pa_cons pe_int pa_nil))) pa_nil)) (pg_name (i := 5) sc__law_draw_there.nd rfl (.inl rfl))
      (pss_cons (ps_set (i := 8) sc__law_draw_there.nd rfl (.inr rfl) (pe_op op_add (pv 8) pe_int))
      (pss_cons (ps_expr (pe_bm PySem.F.plainAttrs_dict PySem.F.slot_dict_update PySem.F.type_dict_update mt_updK (pv 9) (pa_cons (pe_callTy (call_dictP rfl) (by rfl) bi.dict (by decide +kernel) (pa_cons (pe_lc (own := [("_law_event", 7)]) (g := gName 7) rfl sc__law_draw_there.nd (pi_list (pe_d D_law_draw_ends hr (by rfl) (pa_cons (pv 0) (pa_cons (pv 3) (pa_cons (pv 8) (pa_cons (pv 9) pa_nil)))))) (blkOk_by (own := [("_law_event", 7)]) (N := N__law_draw_there) (sc := defScope (top 51)) (by decide +kernel)) (fun _ _ _ _ _ => (pg_name (i := 7) sc__law_draw_there.nd rfl (.inl rfl))) (fun _ _ _ _ _ => pts_nil) (fun _ _ _ _ _ => (pe_tup (pa_cons (pv 7) (pa_cons (pv 8) pa_nil))))) pa_nil)) pa_nil)))
      (pss_one (ps_for PassesOwn.never rfl (pi_range1 (by rfl) bi.range (pa_cons (pe_callB call_len_seq (by rfl) bi.len PySem.boot_len (pa_cons (pv 3) pa_nil)) pa_nil)) (pg_name (i := 10) sc__law_draw_there.nd rfl (.inl rfl))
        (pss_one (ps_if (PW.pt (pw_and (pt_cmp (pc_dnotin hu (pe_op op_add (pe_op op_mul pe_int (pv 10)) pe_int) (pv 9))) (pw_and1 (pt_cmpR op_eq (pe_d D_law_take hr (by rfl) (pa_cons (pv 0) (pa_cons pe_int pa_nil))) pe_int (nomark _)))))
          (pss_one (ps_dput hu (pv 9) (pe_op op_add (pe_op op_mul pe_int (pv 10)) pe_int) (pv 8) rfl))
          pss_nil)))))))
    (pss_one (ps_ret (pe_tup (pa_cons (pv 8) (pa_cons (pe_d D_law_reordered hr (by rfl) (pa_cons (pv 0) (pa_cons (pv 9) pa_nil))) pa_nil))))))))), ?_⟩
  walk_at "rd"
  refine q_ixT (SqT.of b1) rfl ?_
  walk_at "rd"
  refine q_ixT (SqT.of b2) rfl ?_
  walk_at "rd"
  refine ⟨_, vt, B, M, W, rfl, hB0, wf, hT, fun v hs H1 s1 hS sl => ?_⟩
  have d1 : Dr H p c n H1 := (Dr.refl hp).same s1
  walk_at "rd"
  refine q_ixT (SqT.of (s1 _ _ b1)) (atI_nat (j := 2) rfl) ?_
  walk_at "rd"
  refine ⟨Nat.le_of_ble_eq_true rfl, fun L nL => ?_⟩
  have sL := same_new (o := .lst [.int 8, .int (B.dl + 1)]) nL
  have hL : (upd H1 L (.lst [.int 8, .int (B.dl + 1)])) L = some (.lst [.int 8, .int (B.dl + 1)]) := upd_same
  have nLp := d1.pen.ne_p nL
  generalize upd H1 L (.lst [.int 8, .int (B.dl + 1)]) = H2 at sL hL
  have d2 := d1.same sL
  have hS2 := hS.same sL
  walk_at "rd"
  refine ⟨p, c, _, L, _, rfl, d2.pen, by omega, hL, nLp, Nat.le_of_ble_eq_true rfl, Nat.le_of_ble_eq_true rfl, fun j u H3 hj of3 p3 => ?_⟩
  have e3 : Dr H2 p c (n + 1) H3 := ⟨of3, p3⟩
  have d3 := d2.trans e3
  have hS3 := hS2.dr e3 d2.pen
  obtain ⟨am, rfl, am1, am2⟩ : ∃ am : Int, u = .int am ∧ 1 ≤ am ∧ am ≤ 61 := by
    match j with
    | 0 => exact ⟨8, (Option.some.inj hj).symm, by decide, by decide⟩
    | 1 => exact ⟨B.dl + 1, (Option.some.inj hj).symm, by omega, by omega⟩
    | j + 2 => cases hj
  walk_at "rd"
  refine ⟨p, c, _, am, rfl, p3, by omega, by omega, by omega, fun r H4 r0 r1 of4 p4 => ?_⟩
  have e4 : Dr H3 p c (n + 1 + 1) H4 := ⟨of4, p4⟩
  have d4 := d3.trans e4
  have hS4 := hS3.dr e4 p3
  obtain ⟨rn, rfl⟩ : ∃ rn : Nat, r = (rn : Int) := ⟨r.toNat, by omega⟩
  refine ⟨_, rfl, (i62 (by omega)).1, (i62 (by omega)).2, ?_⟩
  rw [Int.toNat_natCast]
  refine for_it walk_r0 (fun i σ H' => ∃ v t hs y5 y6, σ = [some (.ref p), some (.ref a), some vt, some (.ref at'), some v, y5, y6, none, none, none, none] ∧ Dr H p c (n + 2 + 4 * i) H' ∧ IsSit H' v t hs ∧ K95.Sl B t hs ∧ t ≤ (i : Int))
    ⟨v, 0, hs, none, none, rfl, d4.mono (by omega), hS4, sl, Int.le_refl _⟩ (fun _ _ _ _ _ => trivial) (fun i x σ H5 H5' hi ⟨v, t, hs, y5, y6, eσ, d5, hS5, sl5, lt5⟩ hy => ?_) (fun σ H5 ⟨v, t, hs, y5, y6, eσ, d5, hS5, sl5, lt5⟩ => ?_)
  · subst eσ
    obtain ⟨rfl, rfl⟩ := hy
    have hS50 := hS5
    obtain ⟨d, ⟨sa, rfl, hs1⟩, hd⟩ := hS5
    have ndp := d5.pen.notX hd fun _ z => by cases z
    have tp5 := d5.tps hp
    have lh := sl5.len wf
    walk_at "rd"
    refine q_ixT (SqT.of hs1) rfl ?_
    walk_at "rd"
    refine q_ixT (SqT.of hs1) (atI_nat (j := 1) rfl) ?_
    walk_at "rd"
    refine ⟨p, c, _, at', ts, t, d, B, hs, rfl, d5.pen, by omega, tp5 _ _ b3, paired_imp (fun _ _ t => t.tps tp5) pt, wf, hd, ndp, sl5, fun D H6 is e6 nDp h6 lis nis eo => ?_⟩
    have d6 := d5.trans e6
    walk_at "rd"
    refine ⟨D, rfl, ⟨_, SqL.of h6⟩, fun F nF => ?_⟩
    refine lc_it (walk_list (xs := (is.map ev2).map V.int)) (fun m H' => Same H6 H' ∧ Ints H' F (is.take m)) ⟨same_new nF, upd_same⟩ (fun m H' _ ⟨s, _⟩ => SqL.of (s _ _ h6)) (fun m v H7 H7' hm ⟨s7, h7⟩ hy => ?_) (fun H7 ⟨s7, h7⟩ => ?_)
    · obtain ⟨rfl, hv⟩ := hy
      obtain ⟨e, he, rfl⟩ := get_map hv
      obtain ⟨ii, hii, rfl⟩ := get_map he
      walk_at "rd"
      refine ⟨rfl, ?_⟩
      walk_at "rd"
      refine iteT ?_
      walk_at "rd"
      refine ⟨_, rfl, ?_⟩
      refine ⟨_, h7, size_ok (by rw [List.length_map, List.length_take]; omega), same_upd0 s7 nF, ?_⟩
      have eo2 : (ev2 ii - 1) / 2 = ii := by unfold ev2; omega
      rw [take_snoc hii]
      show Ints (upd H7' F (.lst ((is.take m).map V.int ++ [.int ((ev2 ii - 1) / 2)]))) F (is.take m ++ [ii])
      rw [eo2]
      exact Ints.app
    · rw [List.length_map, List.length_map, List.take_length] at h7
      have d7 := d6.same s7
      walk_at "rd"
      refine ⟨F, _, rfl, .inl ⟨SqL.of h7, fun z nz => ?_⟩⟩
      have sz := same_new (o := .tup (is.map V.int)) nz
      have tz : Tu (upd H7 z (.tup (is.map V.int))) (.ref z) (is.map V.int) := Tu.new
      generalize upd H7 z (.tup (is.map V.int)) = H8 at sz tz
      have e8 : Dr H5' p c _ H8 := (e6.same s7).same sz
      have d8 := d7.same sz
      walk_at "rd"
      refine ⟨_, vt, .ref sa, _, t, B, M, W, hs, is, rfl, hB0.tps (d8.tps hp), wf, hT.dr d8 hp, hS50.dr e8 d5.pen, sl5, tz, by omega, eo, fun v' hs' H9 s9 hS9 sl9 => ?_⟩
      exact ⟨v', t + 1, hs', _, _, rfl, (d8.same s9).mono (by omega), hS9, sl9, by omega⟩
  · subst eσ
    obtain ⟨d, ⟨sa, rfl, hs1⟩, hd⟩ := hS5
    walk_at "rd"
    refine q_ixT (SqT.of hs1) rfl ?_
    walk_at "rd"
    refine q_ixT (SqT.of hs1) (atI_nat (j := 1) rfl) ?_
    walk_at "rd"
    refine ⟨d, hap hs, rfl, .inl hd, fun E nE => ?_⟩
    have nEp := d5.pen.ne_p nE
    have hE : (upd H5 E (.dK (hap hs))) E = some (.dK (hap hs)) := upd_same
    have i6 : Dr H5 p c (n + 2 + 4 * rn) (upd H5 E (.dK (hap hs))) := (Dr.refl d5.pen).new nE
    generalize upd H5 E (.dK (hap hs)) = H6 at hE i6
    walk_at "rd"
    refine ⟨Nat.le_of_ble_eq_true rfl, fun z nz => ?_⟩
    have sz := same_new (o := .tup [.int t, .ref E]) nz
    have hz : (upd H6 z (.tup [.int t, .ref E])) z = some (.tup [.int t, .ref E]) := upd_same
    have hE7 := sz _ _ hE
    generalize upd H6 z (.tup [.int t, .ref E]) = H7 at sz hz hE7
    have i7 := i6.same sz
    refine q_gtup (SqT.of hz) rfl ?_
    walk_at "rd"
    refine ⟨p, c, _, 3, rfl, i7.pen, by omega, by omega, by omega, fun r H8 r0' r1' of8 p8 => ?_⟩
    have i8 := i7.take of8 p8
    have hE8 := of8 _ _ hE7 nEp
    obtain ⟨rm, rfl⟩ : ∃ rm : Nat, r = (rm : Int) := ⟨r.toNat, by omega⟩
    refine ⟨_, rfl, (i62 (by omega)).1, (i62 (by omega)).2, ?_⟩
    rw [Int.toNat_natCast]
    refine for_it walk_r0 (fun i σ H' => ∃ y5 y6 t hs y10, σ = [some (.ref p), some (.ref a), some vt, some (.ref at'), some (.ref sa), y5, y6, none, some (.int t), some (.ref E), y10] ∧ Dr H5 p c (n + 3 + 4 * rn + 8 * i) H' ∧ H' E = some (.dK (hap hs)) ∧ K95.Sl B t hs ∧ t ≤ (rn : Int) + (i : Int))
      ⟨_, _, t, hs, none, rfl, i8.mono (by omega), hE8, sl5, by omega⟩ (fun _ _ _ _ _ => trivial) (fun i x σ H9 H9' hi ⟨y5, y6, t, hs, y10, eσ, d9, hE9, sl9, lt9⟩ hy => ?_) (fun σ H9 ⟨y5, y6, t, hs, y10, eσ, d9, hE9, sl9, lt9⟩ => ?_)
    · subst eσ
      obtain ⟨rfl, rfl⟩ := hy
      have d09 := d5.trans d9
      have tp9 := d09.tps hp
      have lh := sl9.len wf
      walk_at "rd"
      refine ⟨isD hE9, ?_⟩
      walk_at "rd"
      refine ⟨p, c, _, at', ts, t, E, B, hs, rfl, d9.pen, by omega, tp9 _ _ b3, paired_imp (fun _ _ t => t.tps tp9) pt, wf, hE9, nEp, sl9, fun D Ha is da nDp ha lis nis eo => ?_⟩
      have d9a := d9.trans da
      have hEa := da.at hE9 nEp
      refine ⟨D, rfl, ⟨_, SqL.of ha⟩, fun F nF => ?_⟩
      refine lc_it (walk_list (xs := (is.map ev2).map V.int)) (fun m H' => Same Ha H' ∧ Rows pV H' F ((is.take m).map fun i_1 => (ev2 i_1, t + 1))) ⟨same_new nF, Rows.nil F⟩ (fun m H' _ ⟨s, _⟩ => SqL.of (s _ _ ha)) (fun m v Hb Hb' hm ⟨sb, rb⟩ hy => ?_) (fun Hb ⟨sb, rb⟩ => ?_)
      · obtain ⟨rfl, hv⟩ := hy
        obtain ⟨e, he, rfl⟩ := get_map hv
        obtain ⟨ii, hii, rfl⟩ := get_map he
        walk_at "rd"
        refine ⟨rfl, ?_⟩
        walk_at "rd"
        refine iteT ?_
        walk_at "rd"
        refine ⟨Nat.le_of_ble_eq_true rfl, fun z nz => ?_⟩
        obtain ⟨acc, e1, e2, r7⟩ := rows_snoc (d := (ev2 ii, t + 1)) (rb.same (same_new (o := .tup (pV (ev2 ii, t + 1))) nz)) (Tu.new (H := Hb') (p := z) (xs := pV (ev2 ii, t + 1)))
        refine ⟨acc, e1, size_ok (by rw [e2, List.length_map, List.length_take]; omega), same_upd0 (sb.trans (same_new nz)) nF, ?_⟩
        rw [take_snoc hii, List.map_append]
        exact r7
      · rw [List.length_map, List.length_map, List.take_length] at rb
        obtain ⟨vs, hv, pv'⟩ := rb
        obtain ⟨ps, rfl, pp⟩ := paired_refs pv'
        have d9b := d9a.same sb
        walk_at "rd"
        refine ⟨F, ps, hap _, rfl, SqL.of hv, paired_hap pp, fun G nG => ?_⟩
        have hG : (upd Hb G (.dK (mergeK [] (hap (is.map fun i_1 => (ev2 i_1, t + 1)))))) G = some (.dK (mergeK [] (hap (is.map fun i_1 => (ev2 i_1, t + 1))))) := upd_same
        have sc := same_new (o := .dK (mergeK [] (hap (is.map fun i_1 => (ev2 i_1, t + 1))))) nG
        generalize upd Hb G (.dK (mergeK [] (hap (is.map fun i_1 => (ev2 i_1, t + 1))))) = Hc at hG sc
        have d9c := d9b.same sc
        have hEc := sc _ _ (sb _ _ hEa)
        have nEG : E ≠ G := ne_of_none (sb _ _ hEa) nG
        walk_at "rd"
        refine ⟨E, G, _, _, rfl, rfl, nEG, hEc, hG, ?_, ?_⟩
        · have e1 : mergeK [] (hap (is.map fun i_1 => (ev2 i_1, t + 1))) = hap (is.map fun i_1 => (ev2 i_1, t + 1)) := by
            show mergeK (hap []) _ = _
            rw [hap_merge]
            exact congrArg hap (ends_new nis)
          rw [e1, hap_len, hap_len, List.length_map]
          exact Nat.le_of_lt (size_ok (by omega))
        rw [merge_ends nis]
        have sld := sl9.ends eo
        have hEd : (upd Hc E (.dK (hap (K95.endAll (t + 1) hs is)))) E = some (.dK (hap (K95.endAll (t + 1) hs is))) := upd_same
        have d9d := d9c.acc (o := .dK (hap (K95.endAll (t + 1) hs is))) d5.pen nE
        generalize upd Hc E (.dK (hap (K95.endAll (t + 1) hs is))) = Hd at hEd d9d
        generalize K95.endAll (t + 1) hs is = hs2 at sld hEd
        walk_at "rd"
        refine ⟨at', ts, rfl, .inr (SqT.of ((d5.trans d9d).tps hp _ _ b3)), ?_⟩
        walk_at "rd"
        refine ⟨_, rfl, (i62 (by omega)).1, (i62 (by omega)).2, ?_⟩
        rw [Int.toNat_natCast, lts]
        refine for_it walk_r0 (fun k σ H' => ∃ hs y10, σ = [some (.ref p), some (.ref a), some vt, some (.ref at'), some (.ref sa), some (.int (i : Int)), y6, none, some (.int (t + 1)), some (.ref E), y10] ∧ Dr H5 p c (n + 3 + 4 * rn + 8 * i + 4 + k) H' ∧ H' E = some (.dK (hap hs)) ∧ K95.Sl B (t + 1) hs)
          ⟨hs2, _, rfl, d9d, hEd, sld⟩ (fun _ _ _ _ _ => trivial) (fun k x σ He He' hk ⟨hs, y10, eσ, de, hEe, sle⟩ hy => ?_) (fun σ He ⟨hs, y10, eσ, de, hEe, sle⟩ => ?_)
        · subst eσ
          obtain ⟨rfl, rfl⟩ := hy
          have tkk : B.Tk (k : Int) := ⟨by omega, by omega⟩
          have g1 := hget (.inl hEe) (2 * (k : Int) + 1)
          walk_at "rd"
          refine q_and ?_
          walk_at "rd"
          refine ⟨E, _, rfl, g1, ?_⟩
          rw [Option.isSome_map]
          walk_at "rd"
          cases hb : K95.look hs (2 * (k : Int) + 1) with
          | some b =>
            refine iteF ?_
            refine iteF ?_
            exact ⟨hs, _, rfl, de.mono (by omega), hEe, sle⟩
          | none =>
            refine iteT ?_
            walk_at "rd"
            refine ⟨p, c, _, 2, rfl, de.pen, by omega, by omega, by omega, fun r Hf r0 r1 off pf => ?_⟩
            have df := de.take off pf
            have hEf := off _ _ hEe nEp
            walk_at "rd"
            refine ite2 (fun _ => ?_) (fun _ => ?_)
            · walk_at "rd"
              have lhe := sle.len wf
              refine ⟨E, _, rfl, hput hEf (by omega) _ _, ?_⟩
              obtain ⟨sl6, _⟩ := sle.begin wf tkk (sle.noend tkk hb)
              exact ⟨_, _, rfl, df.acc d5.pen nE, upd_same, sl6⟩
            · exact ⟨hs, _, rfl, df, hEf, sle⟩
        · subst eσ
          exact ⟨_, _, t + 1, hs, _, rfl, de.mono (by omega), hEe, sle, by omega⟩
    · subst eσ
      have lh := sl9.len wf
      walk_at "rd"
      refine ⟨p, c, _, E, hs, rfl, d9.pen, by omega, hE9, nEp, sl9.nd, by omega, fun d' Ha hs' da hda perm => ?_⟩
      walk_at "rd"
      refine ⟨Nat.le_of_ble_eq_true rfl, fun z2 nz2 => ?_⟩
      exact q _ _ t hs' ((((d5.trans d9).trans da).new nz2).mono (by omega)) ⟨d', Tu.new, same_new nz2 _ _ hda⟩ (Sl_perm sl9 perm) (by omega)
end
section
variable {P : Program} {w : World} {K : PySem.W.Frag} {mg : Str → Option Value} {base : Heap} {f C : Addr} {fd : FuncData}
theorem res_sm {B : K95.Br} (wf : B.WF) {s : K95.Cl} (F : K95.Fin B s) {t : Int} {T : Int → Option Int} {l : List K95.Ln} (h : K95.Res s t T (some l)) : l.length ≤ 20000 ∧ ∀ x ∈ l, LnSm x := by
  obtain ⟨ll, lw⟩ := K95.res_len F h
  obtain ⟨ln, _⟩ := K95.res_lines F h
  have rg := K95.res_rng F h
  have m4 := wf.m4
  refine ⟨ll, fun x hx => ?_⟩
  obtain ⟨k, hk⟩ := List.mem_iff_getElem?.mp hx
  obtain ⟨ra, rt, rb⟩ := rg k x hk
  have hk2 : k < l.length := K95.lt_of_get hk
  unfold K95.Br.Ev at ra rb
  unfold K95.Br.Tk at rt
  refine ⟨?_, ?_, ?_, ?_⟩
  · cases hw : x.wt with
    | false => have := ra hw; omega
    | true => have := rt hw; omega
  · omega
  · obtain ⟨j, y, _, hy, e⟩ := lw x hx
    obtain ⟨b1, b2⟩ := F.bnd y (List.mem_of_getElem? hy)
    rw [e]
    have : y.w.natAbs ≤ 2 ^ 800 := by omega
    exact Nat.lt_of_le_of_lt this (by decide +kernel)
  · intro d hd
    have g := ln k x hk
    cases ha : isAl x.r with
    | false =>
      have := gives_lt g ha d hd
      rw [List.length_take] at this
      omega
    | true =>
      cases hr : x.r with
      | bound n =>
        rw [hr] at g hd
        obtain ⟨q, hq, _⟩ := gv_bound g
        have := K95.bounds_len wf
        have := K95.lt_of_get hq
        simp only [rsN, k1R, k2R, List.mem_cons, List.not_mem_nil, or_false] at hd
        omega
      | high n =>
        rw [hr] at g hd
        obtain ⟨q, _⟩ := gv_high g
        simp only [rsN, k1R, k2R, List.mem_cons, List.not_mem_nil, or_false] at hd
        omega
      | _ => rw [hr] at ha; cases ha
def oD : Option (List K95.Ln) → PyData
  | none => .none
  | some l => lnsD l
theorem dt_o {H : Hp} {v : V} {o : Option (List K95.Ln)} (h : BrV H v o) : Dt H (oD o) v ∧ (oD o = .none ∨ ∃ a, v = .ref a) := by
  cases o with
  | none =>
    have h : v = .non := h
    subst h
    exact ⟨by simp only [oD, Dt], .inl rfl⟩
  | some l =>
    have h : LnsV H v l := h
    obtain ⟨a, vs, e, _⟩ := id h
    exact ⟨dt_lns h, .inr ⟨a, e⟩⟩
theorem shows_o {B : K95.Br} (wf : B.WF) {s : K95.Cl} (F : K95.Fin B s) {t : Int} {T : Int → Option Int} {o : Option (List K95.Ln)} (h : K95.Res s t T o) : Shows (oD o) := by
  cases o with
  | none => exact ⟨rfl, by decide +kernel, by decide +kernel, fun z => by cases z⟩
  | some l =>
    obtain ⟨a, b⟩ := res_sm wf F h
    exact shows_lns a b
theorem brV_same {H H' : Hp} {v : V} {o : Option (List K95.Ln)} (h : BrV H v o) (s : Same H H') : BrV H' v o := by
  cases o with
  | none => exact h
  | some l => exact LnsV.same h s
theorem brV_non {H : Hp} {v : V} {o : Option (List K95.Ln)} (h : BrV H v o) : decide (v = .non) = o.isNone := by
  cases o with
  | none =>
    have h : v = .non := h
    subst h
    exact decide_eq_true rfl
  | some l =>
    obtain ⟨a, vs, e, _⟩ := (show LnsV H v l from h)
    subst e
    exact decide_eq_false fun z => by cases z
/-- the table, or none -/
def TabOr (B : K95.Br) (H : Hp) (v : V) : Prop := ((K95.fin B).fault = none ∧ v ≠ .non ∧ IsTab B H v (K95.fin B).M (K95.fin B).W) ∨ ((∃ k, (K95.fin B).fault = some k) ∧ v = .non)
theorem find_use {vs : List V} {H : Hp} {Q : VK} {E : XK} (h : ∃ v B, vs = [v] ∧ IsBr H v B ∧ B.WF ∧ ∀ tv H', Same H H' → TabOr B H' tv → Q tv H') : spFind vs H Q E := by
  obtain ⟨v, B, e, hB, wf, g⟩ := h
  exact ⟨v, B, e, hB, wf, fun hf v' H' s t ne => g v' H' s (.inl ⟨hf, ne, t⟩), fun k hk H' s => g _ H' s (.inr ⟨⟨k, hk⟩, rfl⟩)⟩
theorem TabOr.same {B : K95.Br} {H H' : Hp} {v : V} (h : TabOr B H v) (s : Same H H') : TabOr B H' v := by
  rcases h with ⟨a, b, d⟩ | h
  · exact .inl ⟨a, b, d.same s⟩
  · exact .inr h
theorem TabOr.dr {B : K95.Br} {H H' : Hp} {v : V} {p c : Addr} {n m : Nat} (h : TabOr B H v) (d : Dr H p c n H') (q : PenAt H p c m) : TabOr B H' v := by
  rcases h with ⟨a, b, e⟩ | h
  · exact .inl ⟨a, b, e.dr d q⟩
  · exact .inr h
theorem q_both {c : Bool} {σ : L2.St} {H : Hp} {Q : VK} (h : ∀ k : Nat, 1 ≤ k → k ≤ 2 → Q (.int (k : Int)) H) : if c = true then tC (.int 2) σ H Q else tC (.int 1) σ H Q := by
  cases c with
  | true => exact h 2 (by decide) (by decide)
  | false => exact h 1 (by decide) (by decide)
theorem keepN {tt : TT} {σ : L2.St} {H : Hp} {blk : Hp → Prop} {D : Ends} (R : L2.St → Hp → Prop) (hr : ∀ σ2 H2, R σ2 H2 → D.nx σ2 H2) (g : (∀ σ2 H2, R σ2 H2 → D.nx σ2 H2) → tt σ H (fun b H1 => if b = true then blk H1 else tNext D σ H1)) : tt σ H (fun b H1 => if b = true then blk H1 else tNext D σ H1) := g hr
theorem q_keep {t : TS} {D : Ends} {σ : L2.St} {H : Hp} (R : L2.St → Hp → Prop) (hr : ∀ σ2 H2, R σ2 H2 → D.nx σ2 H2) (g : (∀ σ2 H2, R σ2 H2 → D.nx σ2 H2) → t D σ H) : t D σ H := g hr
theorem q_due {σ : L2.St} {H : Hp} {Q : VK} {vb v tv : V} {t : Int} {B : K95.Br} {hs : List (Int × Int)} (h5 : σ[5]? = some (some vb)) (h9 : σ[9]? = some (some tv)) (h8 : σ[8]? = some (some v)) (hB : IsBr H vb B) (wf : B.WF) (tab : TabOr B H tv) (hS : IsSit H v t hs) (sl : K95.Sl B t hs)
    (q : ∀ (due : Bool) H', (due = true ↔ (K95.fin B).fault = none ∧ K95.Stay B (K95.fin B).M (K95.fin B).W t (K95.look hs)) → Same H H' → Q (.bl due) H') :
    tAndV (tOp (fun x y H Q => y = V.non ∧ Q (.bl (!decide (x = .non))) H) (tVar 9) (tC .non)) (tCall spStay [] E0 (tCons (tVar 5) (tCons (tVar 9) (tCons (tVar 8) tNil)))) σ H Q := by
  refine q_andV (q_op (q_var h9 (q_c ⟨rfl, ?_⟩)))
  rcases tab with ⟨hf, ne, ht⟩ | ⟨⟨k, hk⟩, e⟩
  · rw [decide_eq_false ne]
    refine ⟨true, rfl, iteT (q_call (q_cons (q_var h5 (q_cons (q_var h9 (q_cons (q_var h8 (q_nil ?_))))))))⟩
    exact ⟨vb, tv, v, t, B, _, _, hs, rfl, hB, wf, K95.closed_of wf (K95.fin_is wf).2 hf, ht, hS, sl.sit, by have := sl.len wf; omega, fun r H' hr s => q r H' (by rw [hr]; exact ⟨fun h => ⟨hf, h⟩, fun h => h.2⟩) s⟩
  · rw [e, decide_eq_true rfl]
    exact ⟨false, rfl, iteF (q false H ⟨(fun z => nomatch z), fun z => by rw [hk] at z; cases z.1⟩ (Same.refl _))⟩
end
section
variable {P : Program} {w : World} {K : PySem.W.Frag} {mg : Str → Option Value} {base : Heap} {f C : Addr} {fd : FuncData}
def spLaw (K : PySem.W.Frag) : Sp := fun vs H Q _ => ∃ a ns, vs = [.ref a] ∧ SqL K H a (List.map V.int ns) ∧ ns.length ≤ 63 ∧ ∀ H', Q (.bl true) H'
abbrev N_law : List Str := ["_law_script", "_law_pen", "_law_many", "_law_turn", "_law_size", "_law_brief", "_law_rounds", "_law_rare", "_law_there", "_law_table", "_law_text", "_law_told", "_law_lines", "_law_due", "_law_turned"]
theorem sc_law : FnScope N_law ["_law_script"] (defScope (top 52)) := ⟨rfl, rfl, rfl, by decide +kernel, rfl, by decide +kernel, by decide +kernel⟩
-- slots: _law_script 0, _law_pen 1, _law_many 2, _law_turn 3, _law_size 4, _law_brief 5, _law_rounds 6, _law_rare 7, _law_there 8, _law_table 9, _law_text 10, _law_told 11, _law_lines 12, _law_due 13, _law_turned 14
set_option maxHeartbeats 16000000 in
theorem k_law (A : At K mg "law" (top 52) ["_law_script"] f fd) (bi : Bi mg) (D_law_open : Def P w K mg base "_law_open" 1 ["_law_script"] (spOp (K := K))) (D_law_take : Def P w K mg base "_law_take" 2 ["_law_pen", "_law_amount"] spTake) (D_law_one_of : Def P w K mg base "_law_one_of" 3 ["_law_pen", "_law_some"] spOne)
    (D_law_draw_brief : Def P w K mg base "_law_draw_brief" 5 ["_law_pen", "_law_many", "_law_low_most", "_law_wide", "_law_most"] spDB) (D_law_draw_situation : Def P w K mg base "_law_draw_situation" 5 ["_law_pen", "_law_tasks", "_law_rounds", "_law_rare"] spDS)
    (D_find_table : Def P w K mg base "find_table" 6 ["brief"] spFind) (D_law_draw_there : Def P w K mg base "_law_draw_there" 6 ["_law_pen", "_law_brief", "_law_table"] spDT) (D_is_fair : Def P w K mg base "is_fair" 7 ["brief", "situation"] spFair)
    (D_find_breach : Def P w K mg base "find_breach" 6 ["brief", "situation"] spFB) (D_law_stays : Def P w K mg base "_law_stays" 1 ["_law_brief", "_law_table", "_law_situation"] spStay) (D_law_same : Def P w K mg base "_law_same" 2 ["_law_found", "_law_due"] spSm1)
    (D_law_is_breach : Def P w K mg base "_law_is_breach" 5 ["_law_brief", "_law_situation", "_law_value"] spBreach) (D_can_go_on : Def P w K mg base "can_go_on" 7 ["brief", "situation"] spGo) :
    FnG P w K mg base 8 f fd ["_law_script"] (spLaw K) := by
  refine fnG_ok A.fn sc_law (fun vs H Q E h => ?_) (fun cdv A outer s H vs Q E hg hr h => ?_)
  · obtain ⟨a, ns, rfl, _⟩ := h
    rfl
  obtain ⟨a, ns, rfl, ha, ln, q⟩ := h
  have D_law_open := D_law_open.mono (j := 7) (by decide)
  have D_law_take := D_law_take.mono (j := 7) (by decide)
  have D_law_one_of := D_law_one_of.mono (j := 7) (by decide)
  have D_law_draw_brief := D_law_draw_brief.mono (j := 7) (by decide)
  have D_law_draw_situation := D_law_draw_situation.mono (j := 7) (by decide)
  have D_find_table := D_find_table.mono (j := 7) (by decide)
  have D_law_draw_there := D_law_draw_there.mono (j := 7) (by decide)
  have D_find_breach := D_find_breach.mono (j := 7) (by decide)
  have D_law_stays := D_law_stays.mono (j := 7) (by decide)
  have D_law_same := D_law_same.mono (j := 7) (by decide)
  have D_law_is_breach := D_law_is_breach.mono (j := 7) (by decide)
  have hu := hu_of hr
  have hg : (A.deeper (envOfC "law" (defScope (top 52)) s.heap.objs.size f cdv)).guards = some [] := hg
  refine ⟨_, (pss_cons (ps_set (i := 1) sc_law.nd rfl (.inl rfl) (pe_d D_law_open hr (by rfl) (pa_cons (pv 0) pa_nil)))
    (pss_cons (ps_set (i := 2) sc_law.nd rfl (.inl rfl) (pe_d D_law_one_of hr (by rfl) (pa_cons (pv 1) (pa_cons (pe_lst (pa_cons pe_int (pa_cons pe_int (pa_cons pe_int (pa_cons pe_int (pa_cons pe_int (pa_cons pe_int pa_nil))))))) pa_nil))))
    (pss_cons (ps_for PassesOwn.never rfl (pi_range1 (by rfl) bi.range (pa_cons (pe_ifExp (pt_cmpR op_lt (pv 2) pe_int (nomark _)) pe_int pe_int) pa_nil)) (pg_name (i := 3) sc_law.nd rfl (.inl rfl))
      (pss_cons (ps_set (i := 4) sc_law.nd rfl (.inl rfl) (pe_d D_law_one_of hr (by rfl) (pa_cons (pv 1) (pa_cons (pe_lst (pa_cons (pe_tup (pa_cons pe_int (pa_cons pe_int pa_nil))) (pa_cons (pe_tup (pa_cons pe_int (pa_cons pe_int pa_nil))) (pa_cons (pe_tup (pa_cons pe_int (pa_cons pe_int pa_nil))) pa_nil)))) pa_nil))))
      (pss_cons (ps_set (i := 5) sc_law.nd rfl (.inl rfl) (pe_d D_law_draw_brief hr (by rfl) (pa_cons (pv 1) (pa_cons (pv 2) (pa_cons (pe_ix ix_tup (pv 4) pe_int (fun _ _ => rfl)) (pa_cons (pe_ix ix_tup (pv 4) pe_int (fun _ _ => rfl)) (pa_cons (pe_d D_law_one_of hr (by rfl) (pa_cons (pv 1) (pa_cons (pe_lst (pa_cons pe_int (pa_cons pe_int (pa_cons pe_int (pa_cons pe_int pa_nil))))) pa_nil))) pa_nil)))))))
      (pss_cons (ps_set (i := 5) sc_law.nd rfl (.inl rfl) (pe_tup (pa_cons (pe_ix ix_tup (pv 5) pe_int (fun _ _ => rfl)) (pa_cons (pe_ix ix_tup (pv 5) pe_int (fun _ _ => rfl)) (pa_cons (pe_d D_law_one_of hr (by rfl) (pa_cons (pv 1) (pa_cons (pe_lst (pa_cons (pe_ix ix_tup (pv 5) pe_int (fun _ _ => rfl)) (pa_cons (pe_ix ix_tup (pv 5) pe_int (fun _ _ => rfl)) (pa_cons (pe_op op_add pe_int (pe_d D_law_take hr (by rfl) (pa_cons (pv 1) (pa_cons pe_int pa_nil)))) pa_nil)))) pa_nil))) pa_nil)))))
      (pss_cons (ps_par (i := 6) (j := 7) (by rfl) sc_law.nd rfl rfl (by decide) rfl rfl (pa_cons (pe_d D_law_take hr (by rfl) (pa_cons (pv 1) (pa_cons (pe_d D_law_one_of hr (by rfl) (pa_cons (pv 1) (pa_cons (pe_lst (pa_cons pe_int (pa_cons pe_int (pa_cons pe_int pa_nil)))) pa_nil))) pa_nil))) (pa_cons (pe_d D_law_one_of hr (by rfl) (pa_cons (pv 1) (pa_cons (pe_lst (pa_cons pe_int (pa_cons pe_int (pa_cons pe_int (pa_cons pe_int pa_nil))))) pa_nil))) pa_nil)) (by rfl))
      (pss_cons (ps_set (i := 8) sc_law.nd rfl (.inl rfl) (pe_d D_law_draw_situation hr (by rfl) (pa_cons (pv 1) (pa_cons (pe_ix ix_tup (pe_ix ix_tup (pv 5) pe_int (fun _ _ => rfl)) pe_int (fun _ _ => rfl)) (pa_cons (pv 6) (pa_cons (pv 7) pa_nil))))))
      (pss_cons (ps_set (i := 9) sc_law.nd rfl (.inl rfl) (pe_d D_find_table hr (by rfl) (pa_cons (pv 5) pa_nil)))
      (pss_cons (ps_if (PW.pt (pw_and (pt_cmpR op_notN (pv 9) pe_non (nomark _)) (pw_and1 (pt_cmpR op_gt (pe_d D_law_take hr (by rfl) (pa_cons (pv 1) (pa_cons pe_int pa_nil))) pe_int (nomark _)))))
        (pss_one (ps_set (i := 8) sc_law.nd rfl (.inl rfl) (pe_d D_law_draw_there hr (by rfl) (pa_cons (pv 1) (pa_cons (pv 5) (pa_cons (pv 9) pa_nil))))))
        pss_nil)
      (pss_cons (ps_par3 (i := 10) (j := 11) (l := 12) (by rfl) sc_law.nd rfl rfl rfl (by decide) (by decide) (by decide) rfl rfl rfl (pa_cons (pe_callB (call_reprD hg hr.units) (by rfl) bi.repr (by decide +kernel) (pa_cons (pe_tup (pa_cons (pv 5) (pa_cons (pv 8) pa_nil))) pa_nil)) (pa_cons (pe_d D_is_fair hr (by rfl) (pa_cons (pv 5) (pa_cons (pv 8) pa_nil))) (pa_cons (pe_d D_find_breach hr (by rfl) (pa_cons (pv 5) (pa_cons (pv 8) pa_nil))) pa_nil))) (by rfl))
      (pss_cons (ps_set (i := 13) sc_law.nd rfl (.inl rfl) (pe_and (pe_cmpR op_notN (pv 9) pe_non (nomark _)) (pe_one (pe_d D_law_stays hr (by rfl) (pa_cons (pv 5) (pa_cons (pv 9) (pa_cons (pv 8) pa_nil)))))))
      (pss_cons (ps_if (PW.pt (pw_or (pt_not (pt_val (pe_d D_law_same hr (by rfl) (pa_cons (pv 11) (pa_cons (pv 13) pa_nil))))) (pw_or (pt_cmpR op_ne (pe_cmpR op_isN (pv 12) pe_non (nomark _)) (pv 13) (nomark _)) (pw_or1 (pt_cmpR op_ne (pe_callB (call_reprD hg hr.units) (by rfl) bi.repr (by decide +kernel) (pa_cons (pe_tup (pa_cons (pv 5) (pa_cons (pv 8) pa_nil))) pa_nil)) (pv 10) (nomark _))))))
        (pss_one (ps_ret pe_bl))
        pss_nil)
      (pss_cons (ps_if (PW.pt (pw_and (pt_cmpR op_notN (pv 12) pe_non (nomark _)) (pw_and1 (pt_not (pt_val (pe_d D_law_is_breach hr (by rfl) (pa_cons (pv 5) (pa_cons (pv 8) (pa_cons (pv 12) pa_nil)))))))))
        (pss_one (ps_ret pe_bl))
        pss_nil)
      (pss_cons (ps_set (i := 14) sc_law.nd rfl (.inl rfl) (pe_callTy (call_dictP rfl) (by rfl) bi.dict (by decide +kernel) (pa_cons (pe_revL (pe_sortItems rfl (by rfl) bi.sorted (pe_ix ix_tup (pv 8) pe_int (fun _ _ => rfl)))) pa_nil)))
      (pss_cons (ps_if (pt_cmpR op_ne (pe_callB (call_reprD hg hr.units) (by rfl) bi.repr (by decide +kernel) (pa_cons (pe_d D_find_breach hr (by rfl) (pa_cons (pv 5) (pa_cons (pe_tup (pa_cons (pe_ix ix_tup (pv 8) pe_int (fun _ _ => rfl)) (pa_cons (pv 14) pa_nil))) pa_nil))) pa_nil)) (pe_callB (call_reprD hg hr.units) (by rfl) bi.repr (by decide +kernel) (pa_cons (pv 12) pa_nil)) (nomark _))
        (pss_one (ps_ret pe_bl))
        pss_nil)
      (pss_one (ps_if (PW.pt (pw_and (pt_val (pv 13)) (pw_and (pt_cmpR op_lt (pe_callB call_len_seq (by rfl) bi.len PySem.boot_len (pa_cons (pe_ix ix_tup (pv 5) pe_int (fun _ _ => rfl)) pa_nil)) pe_int (nomark _)) (pw_and1 (pt_cmpR op_notBl (pe_d D_can_go_on hr (by rfl) (pa_cons (pv 5) (pa_cons (pv 8) pa_nil))) pe_bl (nomark _))))))
        (pss_one (ps_ret pe_bl))
        pss_nil))))))))))))))))
    (pss_one (ps_ret pe_bl))))), ?_⟩
  walk_at "rd"
  refine ⟨a, ns, rfl, ha, ln, fun p c H1 _ _ hp1 => ?_⟩
  walk_at "rd"
  refine ⟨Nat.le_of_ble_eq_true rfl, fun L nL => ?_⟩
  have sL := same_new (o := .lst [.int 1, .int 2, .int 2, .int 2, .int 3, .int 4]) nL
  have hL : (upd H1 L (.lst [.int 1, .int 2, .int 2, .int 2, .int 3, .int 4])) L = some (.lst [.int 1, .int 2, .int 2, .int 2, .int 3, .int 4]) := upd_same
  have nLp := hp1.ne_p nL
  generalize upd H1 L (.lst [.int 1, .int 2, .int 2, .int 2, .int 3, .int 4]) = H2 at sL hL
  walk_at "rd"
  refine ⟨p, c, _, L, _, rfl, hp1.same sL, by decide, hL, nLp, Nat.le_of_ble_eq_true rfl, Nat.le_of_ble_eq_true rfl, fun j u H3 hj _ p3 => ?_⟩
  obtain ⟨mn, rfl, mn1, mn4⟩ : ∃ mn : Int, u = .int mn ∧ 1 ≤ mn ∧ mn ≤ 4 := by
    match j with
    | 0 => exact ⟨1, (Option.some.inj hj).symm, by decide, by decide⟩
    | 1 => exact ⟨2, (Option.some.inj hj).symm, by decide, by decide⟩
    | 2 => exact ⟨2, (Option.some.inj hj).symm, by decide, by decide⟩
    | 3 => exact ⟨2, (Option.some.inj hj).symm, by decide, by decide⟩
    | 4 => exact ⟨3, (Option.some.inj hj).symm, by decide, by decide⟩
    | 5 => exact ⟨4, (Option.some.inj hj).symm, by decide, by decide⟩
    | j + 6 => cases hj
  walk_at "rd"
  refine q_both fun kt _ kt2 => ?_
  walk_at "rd"
  refine ⟨_, rfl, (i62 (by omega)).1, (i62 (by omega)).2, ?_⟩
  rw [Int.toNat_natCast]
  refine for_it walk_r0 (fun i σ H' => ∃ y3 y4 y5 y6 y7 y8 y9 y10 y11 y12 y13 y14, σ = [some (.ref a), some (.ref p), some (.int mn), y3, y4, y5, y6, y7, y8, y9, y10, y11, y12, y13, y14] ∧ PenAt H' p c (1 + 5000 * i))
    ⟨none, none, none, none, none, none, none, none, none, none, none, none, rfl, p3⟩ (fun _ _ _ _ _ => trivial) (fun i v σ H4 H4' hi ⟨y3, y4, y5, y6, y7, y8, y9, y10, y11, y12, y13, y14, eσ, p4⟩ hy => ?_) (fun σ H4 ⟨y3, y4, y5, y6, y7, y8, y9, y10, y11, y12, y13, y14, eσ, p4⟩ => ?_)
  · subst eσ
    obtain ⟨rfl, rfl⟩ := hy
    have hn : 1 + 5000 * i ≤ 10000 := by omega
    generalize hN : 1 + 5000 * i = n at p4 hn
    -- the size
    walk_at "rd"
    refine ⟨Nat.le_of_ble_eq_true rfl, fun z1 nz1 => ?_⟩
    have s1 := same_new (o := .tup [.int 1, .int 2]) nz1
    have h1 : (upd H4' z1 (.tup [.int 1, .int 2])) z1 = some (.tup [.int 1, .int 2]) := upd_same
    generalize upd H4' z1 (.tup [.int 1, .int 2]) = H5 at s1 h1
    walk_at "rd"
    refine ⟨Nat.le_of_ble_eq_true rfl, fun z2 nz2 => ?_⟩
    have s2 := same_new (o := .tup [.int 3, .int 4]) nz2
    have h2 : (upd H5 z2 (.tup [.int 3, .int 4])) z2 = some (.tup [.int 3, .int 4]) := upd_same
    generalize upd H5 z2 (.tup [.int 3, .int 4]) = H6 at s2 h2
    walk_at "rd"
    refine ⟨Nat.le_of_ble_eq_true rfl, fun z3 nz3 => ?_⟩
    have s3 := same_new (o := .tup [.int 19, .int 19]) nz3
    have h3 : (upd H6 z3 (.tup [.int 19, .int 19])) z3 = some (.tup [.int 19, .int 19]) := upd_same
    generalize upd H6 z3 (.tup [.int 19, .int 19]) = H7 at s3 h3
    walk_at "rd"
    refine ⟨Nat.le_of_ble_eq_true rfl, fun L1 nL1 => ?_⟩
    have s4 := same_new (o := .lst [.ref z1, .ref z2, .ref z3]) nL1
    have hL1 : (upd H7 L1 (.lst [.ref z1, .ref z2, .ref z3])) L1 = some (.lst [.ref z1, .ref z2, .ref z3]) := upd_same
    have p7 := p4.same (s1.trans (s2.trans s3))
    have nL1p := p7.ne_p nL1
    generalize upd H7 L1 (.lst [.ref z1, .ref z2, .ref z3]) = H8 at s4 hL1
    have p8 := p7.same s4
    walk_at "rd"
    refine ⟨p, c, _, L1, _, rfl, p8, by omega, hL1, nL1p, Nat.le_of_ble_eq_true rfl, Nat.le_of_ble_eq_true rfl, fun j1 u1 H9 hj1 of9 p9 => ?_⟩
    have d9 : Dr H8 p c (n + 1) H9 := ⟨of9, p9⟩
    obtain ⟨zs, lm, wd, rfl, hzs, lm1, lm2, wd1, wd2⟩ : ∃ zs lm wd, u1 = .ref zs ∧ H9 zs = some (.tup [.int lm, .int wd]) ∧ 1 ≤ lm ∧ lm ≤ 19 ∧ 0 ≤ wd ∧ wd ≤ 19 := by
      have tp := d9.tps p8
      match j1 with
      | 0 => exact ⟨z1, 1, 2, (Option.some.inj hj1).symm, tp _ _ (s4 _ _ (s3 _ _ (s2 _ _ h1))), by decide, by decide, by decide, by decide⟩
      | 1 => exact ⟨z2, 3, 4, (Option.some.inj hj1).symm, tp _ _ (s4 _ _ (s3 _ _ h2)), by decide, by decide, by decide, by decide⟩
      | 2 => exact ⟨z3, 19, 19, (Option.some.inj hj1).symm, tp _ _ (s4 _ _ h3), by decide, by decide, by decide, by decide⟩
      | j + 3 => cases hj1
    clear s1 s2 s3 s4 h1 h2 h3 d9 hL1
    -- the brief
    walk_at "rd"
    refine q_ixT (SqT.of hzs) rfl ?_
    walk_at "rd"
    refine q_ixT (SqT.of hzs) (atI_nat (j := 1) rfl) ?_
    walk_at "rd"
    refine ⟨Nat.le_of_ble_eq_true rfl, fun L2 nL2 => ?_⟩
    have s5 := same_new (o := .lst [.int 3, .int 6, .int 12, .int 20]) nL2
    have hL2 : (upd H9 L2 (.lst [.int 3, .int 6, .int 12, .int 20])) L2 = some (.lst [.int 3, .int 6, .int 12, .int 20]) := upd_same
    have nL2p := p9.ne_p nL2
    generalize upd H9 L2 (.lst [.int 3, .int 6, .int 12, .int 20]) = Ha at s5 hL2
    walk_at "rd"
    refine ⟨p, c, _, L2, _, rfl, p9.same s5, by omega, hL2, nL2p, Nat.le_of_ble_eq_true rfl, Nat.le_of_ble_eq_true rfl, fun j2 u2 Hb hj2 _ pb => ?_⟩
    obtain ⟨mo, rfl, mo1, mo2⟩ : ∃ mo : Int, u2 = .int mo ∧ 1 ≤ mo ∧ mo ≤ 20 := by
      match j2 with
      | 0 => exact ⟨3, (Option.some.inj hj2).symm, by decide, by decide⟩
      | 1 => exact ⟨6, (Option.some.inj hj2).symm, by decide, by decide⟩
      | 2 => exact ⟨12, (Option.some.inj hj2).symm, by decide, by decide⟩
      | 3 => exact ⟨20, (Option.some.inj hj2).symm, by decide, by decide⟩
      | j + 4 => cases hj2
    walk_at "rd"
    refine ⟨p, c, _, mn, lm, wd, mo, rfl, pb, by omega, mn1, mn4, lm1, lm2, wd1, wd2, mo1, mo2, fun vb0 Hc B0 dc hB0 wf0 hm0 dl0 => ?_⟩
    obtain ⟨vp, vl, ⟨b0, rfl, hb0⟩, hP0, hl0⟩ := hB0
    have pc := dc.pen
    have dl60 := wf0.dl1
    clear s5 hL2 dc
    walk_at "rd"
    refine q_ixT (SqT.of hb0) rfl ?_
    walk_at "rd"
    refine q_ixT (SqT.of hb0) (atI_nat (j := 1) rfl) ?_
    walk_at "rd"
    refine q_ixT (SqT.of hb0) (atI_nat (j := 2) rfl) ?_
    walk_at "rd"
    refine q_ixT (SqT.of hb0) (atI_nat (j := 2) rfl) ?_
    walk_at "rd"
    refine ⟨p, c, _, 60, rfl, pc, by omega, by omega, by omega, fun r1 Hd r10 r11 ofd pd => ?_⟩
    have dd : Dr Hc p c _ Hd := ⟨ofd, pd⟩
    walk_at "rd"
    refine ⟨Nat.le_of_ble_eq_true rfl, fun L3 nL3 => ?_⟩
    have s6 := same_new (o := .lst [.int B0.dl, .int B0.dl, .int (1 + r1)]) nL3
    have hL3 : (upd Hd L3 (.lst [.int B0.dl, .int B0.dl, .int (1 + r1)])) L3 = some (.lst [.int B0.dl, .int B0.dl, .int (1 + r1)]) := upd_same
    have nL3p := pd.ne_p nL3
    generalize upd Hd L3 (.lst [.int B0.dl, .int B0.dl, .int (1 + r1)]) = He at s6 hL3
    have de := dd.same s6
    walk_at "rd"
    refine ⟨p, c, _, L3, _, rfl, de.pen, by omega, hL3, nL3p, Nat.le_of_ble_eq_true rfl, Nat.le_of_ble_eq_true rfl, fun j3 u3 Hf hj3 off pf => ?_⟩
    have df := de.take off pf
    obtain ⟨dl, rfl, dl1, dl2⟩ : ∃ dl : Int, u3 = .int dl ∧ 1 ≤ dl ∧ dl ≤ 60 := by
      match j3 with
      | 0 => exact ⟨_, (Option.some.inj hj3).symm, dl0, dl60⟩
      | 1 => exact ⟨_, (Option.some.inj hj3).symm, dl0, dl60⟩
      | 2 => exact ⟨_, (Option.some.inj hj3).symm, by omega, by omega⟩
      | j + 3 => cases hj3
    have hPf := hP0.tps (df.tps pc)
    have hlf := hl0.tps (df.tps pc)
    have wf := wf_dl wf0 (show 0 ≤ dl by omega) dl2
    walk_at "rd"
    refine ⟨Nat.le_of_ble_eq_true rfl, fun b nb => ?_⟩
    have s7 := same_new (o := .tup [vp, vl, .int dl]) nb
    have hB : IsBr (upd Hf b (.tup [vp, vl, .int dl])) (.ref b) ⟨B0.tasks, B0.arrows, B0.limits, dl⟩ := ⟨vp, vl, Tu.new, hPf.tps (same_tps s7), hlf.tps (same_tps s7)⟩
    generalize upd Hf b (.tup [vp, vl, .int dl]) = Hg at s7 hB
    have pg := pf.same s7
    have hdl : (⟨B0.tasks, B0.arrows, B0.limits, dl⟩ : K95.Br).dl = dl := rfl
    generalize (⟨B0.tasks, B0.arrows, B0.limits, dl⟩ : K95.Br) = B at wf hB hdl
    rw [← hdl] at dl1
    clear hdl hPf hlf s7 df de dd hL3 s6 hj3 hj2 hj1 hb0 hP0 hl0 wf0
    -- rounds, rare
    walk_at "rd"
    refine ⟨Nat.le_of_ble_eq_true rfl, fun L4 nL4 => ?_⟩
    have s8 := same_new (o := .lst [.int 10, .int 10, .int 60]) nL4
    have hL4 : (upd Hg L4 (.lst [.int 10, .int 10, .int 60])) L4 = some (.lst [.int 10, .int 10, .int 60]) := upd_same
    have nL4p := pg.ne_p nL4
    generalize upd Hg L4 (.lst [.int 10, .int 10, .int 60]) = Hh at s8 hL4
    have hBh := hB.same s8
    have ph := pg.same s8
    walk_at "rd"
    refine ⟨p, c, _, L4, _, rfl, ph, by omega, hL4, nL4p, Nat.le_of_ble_eq_true rfl, Nat.le_of_ble_eq_true rfl, fun j4 u4 Hi hj4 ofi p_i => ?_⟩
    have hBi := hBh.tps (ofi.tps ph.notT)
    obtain ⟨ro, rfl, ro1, ro2⟩ : ∃ ro : Int, u4 = .int ro ∧ 1 ≤ ro ∧ ro ≤ 60 := by
      match j4 with
      | 0 => exact ⟨_, (Option.some.inj hj4).symm, by decide, by decide⟩
      | 1 => exact ⟨_, (Option.some.inj hj4).symm, by decide, by decide⟩
      | 2 => exact ⟨_, (Option.some.inj hj4).symm, by decide, by decide⟩
      | j + 3 => cases hj4
    walk_at "rd"
    refine ⟨p, c, _, ro, rfl, p_i, by omega, by omega, by omega, fun r2 Hj r20 r21 ofj pj => ?_⟩
    have hBj := hBi.tps (ofj.tps p_i.notT)
    obtain ⟨rn, rfl⟩ : ∃ rn : Nat, r2 = (rn : Int) := ⟨r2.toNat, by omega⟩
    walk_at "rd"
    refine ⟨Nat.le_of_ble_eq_true rfl, fun L5 nL5 => ?_⟩
    have s9 := same_new (o := .lst [.int 1, .int 2, .int 4, .int 200]) nL5
    have hL5 : (upd Hj L5 (.lst [.int 1, .int 2, .int 4, .int 200])) L5 = some (.lst [.int 1, .int 2, .int 4, .int 200]) := upd_same
    have nL5p := pj.ne_p nL5
    generalize upd Hj L5 (.lst [.int 1, .int 2, .int 4, .int 200]) = Hk at s9 hL5
    have hBk := hBj.same s9
    have pk := pj.same s9
    walk_at "rd"
    refine ⟨p, c, _, L5, _, rfl, pk, by omega, hL5, nL5p, Nat.le_of_ble_eq_true rfl, Nat.le_of_ble_eq_true rfl, fun j5 u5 Hl hj5 ofl pl => ?_⟩
    have hBl := hBk.tps (ofl.tps pk.notT)
    obtain ⟨ra, rfl, ra1, ra2⟩ : ∃ ra : Int, u5 = .int ra ∧ 1 ≤ ra ∧ ra ≤ 200 := by
      match j5 with
      | 0 => exact ⟨_, (Option.some.inj hj5).symm, by decide, by decide⟩
      | 1 => exact ⟨_, (Option.some.inj hj5).symm, by decide, by decide⟩
      | 2 => exact ⟨_, (Option.some.inj hj5).symm, by decide, by decide⟩
      | 3 => exact ⟨_, (Option.some.inj hj5).symm, by decide, by decide⟩
      | j + 4 => cases hj5
    clear hBh hBi hBj hBk s8 s9 hL4 hL5 hB ofi ofj ofl hj4 hj5 ph pk pj pg p_i
    have hB0 := hBl
    obtain ⟨b', ap, at', ts, vl', eb, ⟨va, b1, b2⟩, b3, pt, lts⟩ := hBl.parts
    cases eb
    walk_at "rd"
    refine q_ixT (SqT.of b1) rfl ?_
    walk_at "rd"
    refine q_ixT (SqT.of b2) rfl ?_
    walk_at "rd"
    refine ⟨p, c, _, at', ts, rn, ra, B, rfl, pl, by omega, b3, pt, wf, by omega, ra1, ra2, fun v Hm hs dm hS sl => ?_⟩
    have hBm := hB0.tps (dm.tps pl)
    have pm := dm.pen
    have lrn : (rn : Int) ≤ 70 := by omega
    clear hB0 b1 b2 b3 pt dm
    walk_at "rd"
    refine find_use ⟨_, B, rfl, hBm, wf, fun tv Hn sn tab => ?_⟩
    have hBn := hBm.same sn
    have hSn := hS.same sn
    have pn := pm.same sn
    clear hBm hS pm sn pl
    walk_at "rd"
    refine keepN (fun σ2 H2 => ∃ v t hs, σ2 = [some (.ref a), some (.ref p), some (.int mn), some (.int (i : Int)), some (.ref zs), some (.ref b), some (.int (rn : Int)), some (.int ra), some v, some tv, y10, y11, y12, y13, y14] ∧ PenAt H2 p c (n + 4000) ∧ IsBr H2 (.ref b) B ∧ TabOr B H2 tv ∧ IsSit H2 v t hs ∧ K95.Sl B t hs ∧ t ≤ 70)
      (fun σ2 H2 ⟨v, t, hs, eσ, p2, hB, tab, hS, sl, t70⟩ => ?_) (fun hk => ?_)
    · subst eσ
      have lh := sl.len wf
      have sit := sl.sit
      have F := (K95.fin_is wf).2
      have t0 := sit.t0
      have sh : Shows (.tuple [brD B, siD t hs]) := shows_both wf (by omega) (by omega) fun q hq => by
        obtain ⟨ev, l0, l1⟩ := sit.rng q.1 q.2 (K95.look_of_mem sl.nd hq)
        unfold K95.Br.Ev at ev
        have m4 := wf.m4
        omega
      walk_at "rd"
      refine ⟨Nat.le_of_ble_eq_true rfl, fun z nz => ?_⟩
      have sz := same_new (o := .tup [.ref b, v]) nz
      have hz : (upd H2 z (.tup [.ref b, v])) z = some (.tup [.ref b, v]) := upd_same
      generalize upd H2 z (.tup [.ref b, v]) = H3 at sz hz
      have hB := hB.same sz
      have hS := hS.same sz
      have tab := tab.same sz
      have p3 := p2.same sz
      refine ⟨_, .tuple [brD B, siD t hs], rfl, dt_tup hz (dta_cons (dt_br hB) (dta_cons (dt_si hS) dta_nil)), sh, .inr ⟨z, rfl⟩, ?_⟩
      walk_at "rd"
      refine ⟨_, _, t, B, hs, rfl, hB, wf, hS, sit, by omega, fun told H4 htold s4 => ?_⟩
      have hB := hB.same s4
      have hS := hS.same s4
      have tab := tab.same s4
      have p4 := p3.same s4
      walk_at "rd"
      refine ⟨_, _, t, B, hs, rfl, hB, wf, hS, fun vo H5 o s5 hvo res => ?_⟩
      have hB := hB.same s5
      have hS := hS.same s5
      have tab := tab.same s5
      have p5 := p4.same s5
      clear sz s4 s5 hz p2 p3 p4
      repeat (fail_if_success (with_reducible apply q_andV)
              walk_at "rd1")
      refine q_due rfl rfl rfl hB wf tab hS sl fun due H6 hdue s6 => ?_
      obtain rfl : due = told := Bool.eq_iff_iff.mpr (hdue.trans htold.symm)
      have hB := hB.same s6
      have hS := hS.same s6
      have p6 := p5.same s6
      have hvo := brV_same hvo s6
      have fair : o.isNone = due := Bool.eq_iff_iff.mpr (by rw [hdue, Option.isNone_iff_eq_none]; exact K95.res_fair wf F sit res)
      clear tab p5 s6 htold
      walk_at "rd"
      refine q_or ?_
      walk_at "rd"
      refine ⟨.bl due, rfl, trivial, fun H7 s7 => ?_⟩
      have hB := hB.same s7
      have hS := hS.same s7
      have p7 := p6.same s7
      have hvo := brV_same hvo s7
      walk_at "rd"
      refine iteF ?_
      refine q_or ?_
      walk_at "rd"
      refine ⟨rfl, ?_⟩
      rw [brV_non hvo, fair]
      walk_at "rd"
      refine ⟨rfl, ?_⟩
      rw [decide_eq_true rfl]
      walk_at "rd"
      refine iteF ?_
      walk_at "rd"
      refine ⟨Nat.le_of_ble_eq_true rfl, fun z2 nz2 => ?_⟩
      have s8 := same_new (o := .tup [.ref b, v]) nz2
      have hz2 : (upd H7 z2 (.tup [.ref b, v])) z2 = some (.tup [.ref b, v]) := upd_same
      generalize upd H7 z2 (.tup [.ref b, v]) = H8 at s8 hz2
      have hB := hB.same s8
      have hS := hS.same s8
      have p8 := p7.same s8
      have hvo := brV_same hvo s8
      refine ⟨_, .tuple [brD B, siD t hs], rfl, dt_tup hz2 (dta_cons (dt_br hB) (dta_cons (dt_si hS) dta_nil)), sh, .inr ⟨z2, rfl⟩, ?_⟩
      walk_at "rd"
      refine ⟨rfl, ?_⟩
      rw [decide_eq_true rfl]
      walk_at "rd"
      refine iteF ?_
      clear p6 p7 s7 s8 hz2
      walk_at "rd"
      generalize PyData.shown (.tuple [brD B, siD t hs]) = tx
      refine keepN (fun σ2 H2 => σ2 = [some (.ref a), some (.ref p), some (.int mn), some (.int (i : Int)), some (.ref zs), some (.ref b), some (.int (rn : Int)), some (.int ra), some v, some tv, some (.str tx), some (.bl due), some vo, some (.bl due), y14] ∧ PenAt H2 p c (n + 4000) ∧ IsBr H2 (.ref b) B ∧ IsSit H2 v t hs ∧ BrV H2 vo o)
        (fun σ2 H9 ⟨eσ, p9, hB, hS, hvo⟩ => ?_) (fun hk => ?_)
      · subst eσ
        walk_at "rd"
        refine q_rev ?_
        walk_at "rd"
        obtain ⟨d, ⟨sa, rfl, hs1⟩, hd⟩ := hS
        refine q_ixT (SqT.of hs1) (atI_nat (j := 1) rfl) ?_
        walk_at "rd"
        refine ⟨d, hs, rfl, hd, fun Ha R tt rows sa' nR hR perm pr => ?_⟩
        have eG : (tt.map V.ref).reverse = tt.reverse.map V.ref := by rw [List.map_reverse]
        walk_at "rd"
        refine ⟨R, _, rfl, SqL.of hR, fun G nG => ?_⟩
        rw [eG]
        have sb := same_new (o := .lst (tt.reverse.map V.ref)) nG
        have hG : (upd Ha G (.lst (tt.reverse.map V.ref))) G = some (.lst (tt.reverse.map V.ref)) := upd_same
        generalize upd Ha G (.lst (tt.reverse.map V.ref)) = Hb at sb hG
        have perm2 : rows.reverse.Perm hs := (List.reverse_perm rows).trans perm
        have ndr : (rows.reverse.map (·.1)).Nodup := (perm2.map _).nodup_iff.mpr sl.nd
        have e1 : mergeK [] (hap rows.reverse) = hap rows.reverse := by
          show mergeK (hap []) (hap rows.reverse) = hap rows.reverse
          rw [hap_merge]
          have := putAll_new rows.reverse [] ndr
          rw [List.nil_append] at this
          exact congrArg hap this
        walk_at "rd"
        refine ⟨G, tt.reverse, hap rows.reverse, rfl, SqL.of hG, paired_hap (paired_rev (paired_imp (fun _ _ h => sb _ _ h) pr)), fun U nU => ?_⟩
        rw [e1]
        have sc := same_new (o := .dK (hap rows.reverse)) nU
        have hU : (upd Hb U (.dK (hap rows.reverse))) U = some (.dK (hap rows.reverse)) := upd_same
        generalize upd Hb U (.dK (hap rows.reverse)) = Hc at sc hU
        have s9c := sa'.trans (sb.trans sc)
        have hBc := hB.same s9c
        have pc' := p9.same s9c
        have hvoc := brV_same hvo s9c
        have hs1c := s9c _ _ hs1
        have hdc := s9c _ _ hd
        clear hB hvo hs1 hd hR hG sa' sb sc s9c p9
        walk_at "rd"
        refine q_ixT (SqT.of hs1c) rfl ?_
        walk_at "rd"
        refine ⟨Nat.le_of_ble_eq_true rfl, fun z3 nz3 => ?_⟩
        have sd := same_new (o := .tup [.int t, .ref U]) nz3
        have hz3 : (upd Hc z3 (.tup [.int t, .ref U])) z3 = some (.tup [.int t, .ref U]) := upd_same
        generalize upd Hc z3 (.tup [.int t, .ref U]) = Hd at sd hz3
        have hBd := hBc.same sd
        have pd' := pc'.same sd
        have hvod := brV_same hvoc sd
        have hSd : IsSit Hd (.ref sa) t hs := ⟨d, ⟨sa, rfl, sd _ _ hs1c⟩, sd _ _ hdc⟩
        walk_at "rd"
        refine ⟨_, _, t, B, rows.reverse, rfl, hBd, wf, ⟨U, ⟨z3, rfl, hz3⟩, sd _ _ hU⟩, fun vo2 He o2 se hvo2 res2 => ?_⟩
        rw [look_perm sl.nd perm2] at res2
        obtain rfl := K95.res_one res2 res
        have hBe := hBd.same se
        have pe' := pd'.same se
        have hvoe := brV_same hvod se
        have hSe := hSd.same se
        walk_at "rd"
        refine ⟨_, oD o2, rfl, (dt_o hvo2).1, shows_o wf F res, (dt_o hvo2).2, ?_⟩
        walk_at "rd"
        refine ⟨_, oD o2, rfl, (dt_o hvoe).1, shows_o wf F res, (dt_o hvoe).2, ?_⟩
        walk_at "rd"
        refine ⟨rfl, ?_⟩
        rw [decide_eq_true rfl]
        walk_at "rd"
        refine iteF ?_
        walk_at "rd"
        have nxt : ∀ Hx, PenAt Hx p c (n + 4000) → PenAt Hx p c (1 + 5000 * (i + 1)) := fun Hx h => h.mono (by omega)
        refine q_and ?_
        walk_at "rd"
        cases due with
        | false =>
          refine iteF ?_
          refine iteF ?_
          exact ⟨_, _, _, _, _, _, _, _, _, _, _, _, rfl, nxt _ pe'⟩
        | true =>
          obtain ⟨hf, st⟩ := hdue.mp rfl
          obtain ⟨vp', vl', ⟨b', eb, hb'⟩, _, ⟨ls, ⟨al, rfl, hal⟩, pls⟩⟩ := id hBe
          cases eb
          refine iteT ?_
          refine q_and ?_
          walk_at "rd"
          refine q_ixT (SqT.of hb') (atI_nat (j := 1) rfl) ?_
          walk_at "rd"
          refine ⟨al, ls, rfl, .inr (SqT.of hal), ?_⟩
          walk_at "rd"
          refine ite2 (fun c13 => ?_) (fun _ => ?_)
          · have c13 := of_decide_eq_true c13
            have l12 : B.limits.length ≤ 12 := by rw [← pls.length]; omega
            walk_at "rd"
            refine ⟨_, _, t, B, _, _, hs, rfl, hBe, wf, K95.closed_of wf F hf, hSe, sit, st, l12, by omega, fun Hf sf => ?_⟩
            walk_at "rd"
            refine ⟨_, _, rfl, rfl, ?_⟩
            walk_at "rd"
            refine iteF ?_
            exact ⟨_, _, _, _, _, _, _, _, _, _, _, _, rfl, nxt _ (pe'.same sf)⟩
          · refine iteF ?_
            exact ⟨_, _, _, _, _, _, _, _, _, _, _, _, rfl, nxt _ pe'⟩
      · refine q_and ?_
        walk_at "rd"
        refine ⟨rfl, ?_⟩
        rw [brV_non hvo]
        cases o with
        | none =>
          walk_at "rd"
          refine iteF ?_
          refine iteF ?_
          exact hk _ _ ⟨rfl, p8, hB, hS, hvo⟩
        | some l =>
          obtain ⟨lnl, y, hy, br⟩ := K95.res_lines F res
          walk_at "rd"
          refine iteT ?_
          walk_at "rd"
          refine ⟨_, _, _, t, B, hs, l, y, rfl, hB, wf, hS, hvo, lnl, K95.res_rng F res, hy, br, fun H9 s9 => ?_⟩
          walk_at "rd"
          refine iteF ?_
          exact hk _ _ ⟨rfl, p8.same s9, hB.same s9, hS.same s9, brV_same hvo s9⟩
    · refine q_and ?_
      walk_at "rd"
      refine ⟨rfl, ?_⟩
      rcases tab with ⟨hf, ne, ht⟩ | ⟨hk', e⟩
      · rw [decide_eq_false ne]
        walk_at "rd"
        refine iteT ?_
        walk_at "rd"
        refine ⟨p, c, _, 4, rfl, pn, by omega, by omega, by omega, fun r3 Ho r30 r31 ofo po => ?_⟩
        have dO : Dr Hn p c _ Ho := ⟨ofo, po⟩
        have hBo := hBn.tps (dO.tps pn)
        have hto := ht.dr dO pn
        walk_at "rd"
        refine ite2 (fun _ => ?_) (fun _ => ?_)
        · walk_at "rd"
          refine ⟨p, c, _, .ref b, tv, B, _, _, rfl, po, by omega, hBo, wf, dl1, hto, fun v2 Hp t2 hs2 dp hS2 sl2 t70 => ?_⟩
          exact hk _ _ ⟨v2, t2, hs2, rfl, dp.pen.mono (by omega), hBo.tps (dp.tps po), .inl ⟨hf, ne, hto.dr dp po⟩, hS2, sl2, t70⟩
        · exact hk _ _ ⟨v, _, hs, rfl, po.mono (by omega), hBo, .inl ⟨hf, ne, hto⟩, hSn.dr dO pn, sl, lrn⟩
      · subst e
        rw [decide_eq_true rfl]
        walk_at "rd"
        refine iteF ?_
        refine iteF ?_
        exact hk _ _ ⟨v, _, hs, rfl, pn.mono (by omega), hBn, .inr ⟨hk', rfl⟩, hSn, sl, lrn⟩
  · subst eσ
    walk_at "rd"
    exact q H4
end
section
variable {P : Program} {w : World} {K : PySem.W.Frag} {mg : Str → Option Value} {base h : Heap}
theorem bi_mk (X : K.In h) (G : h.Ns mainGlobals mg) (z0 : PySem.W.nsIn K mainGlobals "len" = some none) (z1 : PySem.W.nsIn K mainGlobals "range" = some none) (z2 : PySem.W.nsIn K mainGlobals "list" = some none) (z3 : PySem.W.nsIn K mainGlobals "tuple" = some none) (z4 : PySem.W.nsIn K mainGlobals "dict" = some none) (z5 : PySem.W.nsIn K mainGlobals "int" = some none) (z6 : PySem.W.nsIn K mainGlobals "str" = some none) (z7 : PySem.W.nsIn K mainGlobals "bool" = some none) (z8 : PySem.W.nsIn K mainGlobals "enumerate" = some none) (z9 : PySem.W.nsIn K mainGlobals "zip" = some none) (z10 : PySem.W.nsIn K mainGlobals "min" = some none) (z11 : PySem.W.nsIn K mainGlobals "max" = some none) (z12 : PySem.W.nsIn K mainGlobals "any" = some none) (z13 : PySem.W.nsIn K mainGlobals "all" = some none) (z14 : PySem.W.nsIn K mainGlobals "sorted" = some none) (z15 : PySem.W.nsIn K mainGlobals "isinstance" = some none) (z16 : PySem.W.nsIn K mainGlobals "repr" = some none) : Bi mg := ⟨PySem.W.mg_none_of X G z0, PySem.W.mg_none_of X G z1, PySem.W.mg_none_of X G z2, PySem.W.mg_none_of X G z3, PySem.W.mg_none_of X G z4, PySem.W.mg_none_of X G z5, PySem.W.mg_none_of X G z6, PySem.W.mg_none_of X G z7, PySem.W.mg_none_of X G z8, PySem.W.mg_none_of X G z9, PySem.W.mg_none_of X G z10, PySem.W.mg_none_of X G z11, PySem.W.mg_none_of X G z12, PySem.W.mg_none_of X G z13, PySem.W.mg_none_of X G z14, PySem.W.mg_none_of X G z15, PySem.W.mg_none_of X G z16⟩
theorem at_A_begin_of {f : Addr} {oc : Value} {od an : Option Addr} {osl : Array (Option Value)} {kV doc pm cdv ct : Value} (X : K.In h) (G : h.Ns mainGlobals mg) (a : PySem.W.nsIn K mainGlobals "begin_of" = some (some (.ref f))) (l : K.lookup f = some ⟨oc, od, .func (PySem.W.fnOf "begin_of" "begin_of" (defArgs (top 1)) (defBody (top 1)) (defScope (top 1)) .none kV doc pm an cdv ct), osl⟩) (c : PySem.W.codeIn K cdv "begin_of" = true) (k : PySem.W.keepIn K (.ref f) = true) : ∃ f fd, At K mg "begin_of" (top 1) ["task"] f fd :=
  ⟨f, _, fun_mk l c k, PySem.W.mg_of X G a, (fun_mk l c k).binds (ps := ["task"]) fun _ _ _ _ _ _ us hl => match us, hl with | [_], _ => rfl⟩
theorem at_A_end_of {f : Addr} {oc : Value} {od an : Option Addr} {osl : Array (Option Value)} {kV doc pm cdv ct : Value} (X : K.In h) (G : h.Ns mainGlobals mg) (a : PySem.W.nsIn K mainGlobals "end_of" = some (some (.ref f))) (l : K.lookup f = some ⟨oc, od, .func (PySem.W.fnOf "end_of" "end_of" (defArgs (top 2)) (defBody (top 2)) (defScope (top 2)) .none kV doc pm an cdv ct), osl⟩) (c : PySem.W.codeIn K cdv "end_of" = true) (k : PySem.W.keepIn K (.ref f) = true) : ∃ f fd, At K mg "end_of" (top 2) ["task"] f fd :=
  ⟨f, _, fun_mk l c k, PySem.W.mg_of X G a, (fun_mk l c k).binds (ps := ["task"]) fun _ _ _ _ _ _ us hl => match us, hl with | [_], _ => rfl⟩
theorem at_A_is_end {f : Addr} {oc : Value} {od an : Option Addr} {osl : Array (Option Value)} {kV doc pm cdv ct : Value} (X : K.In h) (G : h.Ns mainGlobals mg) (a : PySem.W.nsIn K mainGlobals "is_end" = some (some (.ref f))) (l : K.lookup f = some ⟨oc, od, .func (PySem.W.fnOf "is_end" "is_end" (defArgs (top 3)) (defBody (top 3)) (defScope (top 3)) .none kV doc pm an cdv ct), osl⟩) (c : PySem.W.codeIn K cdv "is_end" = true) (k : PySem.W.keepIn K (.ref f) = true) : ∃ f fd, At K mg "is_end" (top 3) ["event"] f fd :=
  ⟨f, _, fun_mk l c k, PySem.W.mg_of X G a, (fun_mk l c k).binds (ps := ["event"]) fun _ _ _ _ _ _ us hl => match us, hl with | [_], _ => rfl⟩
theorem at_A_owner_of {f : Addr} {oc : Value} {od an : Option Addr} {osl : Array (Option Value)} {kV doc pm cdv ct : Value} (X : K.In h) (G : h.Ns mainGlobals mg) (a : PySem.W.nsIn K mainGlobals "owner_of" = some (some (.ref f))) (l : K.lookup f = some ⟨oc, od, .func (PySem.W.fnOf "owner_of" "owner_of" (defArgs (top 4)) (defBody (top 4)) (defScope (top 4)) .none kV doc pm an cdv ct), osl⟩) (c : PySem.W.codeIn K cdv "owner_of" = true) (k : PySem.W.keepIn K (.ref f) = true) : ∃ f fd, At K mg "owner_of" (top 4) ["event"] f fd :=
  ⟨f, _, fun_mk l c k, PySem.W.mg_of X G a, (fun_mk l c k).binds (ps := ["event"]) fun _ _ _ _ _ _ us hl => match us, hl with | [_], _ => rfl⟩
theorem at_A_all_bounds {f : Addr} {oc : Value} {od an : Option Addr} {osl : Array (Option Value)} {kV doc pm cdv ct : Value} (X : K.In h) (G : h.Ns mainGlobals mg) (a : PySem.W.nsIn K mainGlobals "all_bounds" = some (some (.ref f))) (l : K.lookup f = some ⟨oc, od, .func (PySem.W.fnOf "all_bounds" "all_bounds" (defArgs (top 5)) (defBody (top 5)) (defScope (top 5)) .none kV doc pm an cdv ct), osl⟩) (c : PySem.W.codeIn K cdv "all_bounds" = true) (k : PySem.W.keepIn K (.ref f) = true) : ∃ f fd, At K mg "all_bounds" (top 5) ["brief"] f fd :=
  ⟨f, _, fun_mk l c k, PySem.W.mg_of X G a, (fun_mk l c k).binds (ps := ["brief"]) fun _ _ _ _ _ _ us hl => match us, hl with | [_], _ => rfl⟩
theorem at_M_offer_most {f : Addr} {oc : Value} {od an : Option Addr} {osl : Array (Option Value)} {kV doc pm cdv ct : Value} {C : Addr} (a : PySem.W.findIn K (.ref C) "offer_most" = some (some (.ref f))) (i : PySem.W.isFn K (.ref f) = true) (l : K.lookup f = some ⟨oc, od, .func (PySem.W.fnOf "offer_most" "Closing.offer_most" (defArgs (inClass (top 7) 1)) (defBody (inClass (top 7) 1)) (defScope (inClass (top 7) 1)) .none kV doc pm an cdv ct), osl⟩) (c : PySem.W.codeIn K cdv "Closing.offer_most" = true) (k : PySem.W.keepIn K (.ref f) = true) : ∃ f fd, MAt K C "offer_most" "Closing.offer_most" (inClass (top 7) 1) ["self", "a", "b", "w", "reason"] f fd :=
  ⟨f, _, fun_mk l c k, ⟨a, i, k⟩, (fun_mk l c k).binds (ps := ["self", "a", "b", "w", "reason"]) fun _ _ _ _ _ _ us hl => match us, hl with | [_, _, _, _, _], _ => rfl⟩
theorem at_M_offer_wait {f : Addr} {oc : Value} {od an : Option Addr} {osl : Array (Option Value)} {kV doc pm cdv ct : Value} {C : Addr} (a : PySem.W.findIn K (.ref C) "offer_wait" = some (some (.ref f))) (i : PySem.W.isFn K (.ref f) = true) (l : K.lookup f = some ⟨oc, od, .func (PySem.W.fnOf "offer_wait" "Closing.offer_wait" (defArgs (inClass (top 7) 2)) (defBody (inClass (top 7) 2)) (defScope (inClass (top 7) 2)) .none kV doc pm an cdv ct), osl⟩) (c : PySem.W.codeIn K cdv "Closing.offer_wait" = true) (k : PySem.W.keepIn K (.ref f) = true) : ∃ f fd, MAt K C "offer_wait" "Closing.offer_wait" (inClass (top 7) 2) ["self", "task", "event", "w", "reason"] f fd :=
  ⟨f, _, fun_mk l c k, ⟨a, i, k⟩, (fun_mk l c k).binds (ps := ["self", "task", "event", "w", "reason"]) fun _ _ _ _ _ _ us hl => match us, hl with | [_, _, _, _, _], _ => rfl⟩
theorem at_M_add_up {f : Addr} {oc : Value} {od an : Option Addr} {osl : Array (Option Value)} {kV doc pm cdv ct : Value} {C : Addr} (a : PySem.W.findIn K (.ref C) "add_up" = some (some (.ref f))) (i : PySem.W.isFn K (.ref f) = true) (l : K.lookup f = some ⟨oc, od, .func (PySem.W.fnOf "add_up" "Closing.add_up" (defArgs (inClass (top 7) 3)) (defBody (inClass (top 7) 3)) (defScope (inClass (top 7) 3)) .none kV doc pm an cdv ct), osl⟩) (c : PySem.W.codeIn K cdv "Closing.add_up" = true) (k : PySem.W.keepIn K (.ref f) = true) : ∃ f fd, MAt K C "add_up" "Closing.add_up" (inClass (top 7) 3) ["self", "a", "b", "c"] f fd :=
  ⟨f, _, fun_mk l c k, ⟨a, i, k⟩, (fun_mk l c k).binds (ps := ["self", "a", "b", "c"]) fun _ _ _ _ _ _ us hl => match us, hl with | [_, _, _, _], _ => rfl⟩
theorem at_M_use_most {f : Addr} {oc : Value} {od an : Option Addr} {osl : Array (Option Value)} {kV doc pm cdv ct : Value} {C : Addr} (a : PySem.W.findIn K (.ref C) "use_most" = some (some (.ref f))) (i : PySem.W.isFn K (.ref f) = true) (l : K.lookup f = some ⟨oc, od, .func (PySem.W.fnOf "use_most" "Closing.use_most" (defArgs (inClass (top 7) 4)) (defBody (inClass (top 7) 4)) (defScope (inClass (top 7) 4)) .none kV doc pm an cdv ct), osl⟩) (c : PySem.W.codeIn K cdv "Closing.use_most" = true) (k : PySem.W.keepIn K (.ref f) = true) : ∃ f fd, MAt K C "use_most" "Closing.use_most" (inClass (top 7) 4) ["self", "a", "b"] f fd :=
  ⟨f, _, fun_mk l c k, ⟨a, i, k⟩, (fun_mk l c k).binds (ps := ["self", "a", "b"]) fun _ _ _ _ _ _ us hl => match us, hl with | [_, _, _], _ => rfl⟩
theorem at_M_use_wait {f : Addr} {oc : Value} {od an : Option Addr} {osl : Array (Option Value)} {kV doc pm cdv ct : Value} {C : Addr} (a : PySem.W.findIn K (.ref C) "use_wait" = some (some (.ref f))) (i : PySem.W.isFn K (.ref f) = true) (l : K.lookup f = some ⟨oc, od, .func (PySem.W.fnOf "use_wait" "Closing.use_wait" (defArgs (inClass (top 7) 5)) (defBody (inClass (top 7) 5)) (defScope (inClass (top 7) 5)) .none kV doc pm an cdv ct), osl⟩) (c : PySem.W.codeIn K cdv "Closing.use_wait" = true) (k : PySem.W.keepIn K (.ref f) = true) : ∃ f fd, MAt K C "use_wait" "Closing.use_wait" (inClass (top 7) 5) ["self", "task", "event"] f fd :=
  ⟨f, _, fun_mk l c k, ⟨a, i, k⟩, (fun_mk l c k).binds (ps := ["self", "task", "event"]) fun _ _ _ _ _ _ us hl => match us, hl with | [_, _, _], _ => rfl⟩
theorem at_M_close_once {f : Addr} {oc : Value} {od an : Option Addr} {osl : Array (Option Value)} {kV doc pm cdv ct : Value} {C : Addr} (a : PySem.W.findIn K (.ref C) "close_once" = some (some (.ref f))) (i : PySem.W.isFn K (.ref f) = true) (l : K.lookup f = some ⟨oc, od, .func (PySem.W.fnOf "close_once" "Closing.close_once" (defArgs (inClass (top 7) 6)) (defBody (inClass (top 7) 6)) (defScope (inClass (top 7) 6)) .none kV doc pm an cdv ct), osl⟩) (c : PySem.W.codeIn K cdv "Closing.close_once" = true) (k : PySem.W.keepIn K (.ref f) = true) : ∃ f fd, MAt K C "close_once" "Closing.close_once" (inClass (top 7) 6) ["self"] f fd :=
  ⟨f, _, fun_mk l c k, ⟨a, i, k⟩, (fun_mk l c k).binds (ps := ["self"]) fun _ _ _ _ _ _ us hl => match us, hl with | [_], _ => rfl⟩
theorem at_M_init__ {f : Addr} {oc : Value} {od an : Option Addr} {osl : Array (Option Value)} {kV doc pm cdv ct : Value} {C : Addr} (a : PySem.W.findIn K (.ref C) "__init__" = some (some (.ref f))) (i : PySem.W.isFn K (.ref f) = true) (l : K.lookup f = some ⟨oc, od, .func (PySem.W.fnOf "__init__" "Closing.__init__" (defArgs (inClass (top 7) 0)) (defBody (inClass (top 7) 0)) (defScope (inClass (top 7) 0)) .none kV doc pm an cdv ct), osl⟩) (c : PySem.W.codeIn K cdv "Closing.__init__" = true) (k : PySem.W.keepIn K (.ref f) = true) : ∃ f fd, MAt K C "__init__" "Closing.__init__" (inClass (top 7) 0) ["self", "brief"] f fd :=
  ⟨f, _, fun_mk l c k, ⟨a, i, k⟩, (fun_mk l c k).binds (ps := ["self", "brief"]) fun _ _ _ _ _ _ us hl => match us, hl with | [_, _], _ => rfl⟩
theorem at_M_table {f : Addr} {oc : Value} {od an : Option Addr} {osl : Array (Option Value)} {kV doc pm cdv ct : Value} {C : Addr} (a : PySem.W.findIn K (.ref C) "table" = some (some (.ref f))) (i : PySem.W.isFn K (.ref f) = true) (l : K.lookup f = some ⟨oc, od, .func (PySem.W.fnOf "table" "Closing.table" (defArgs (inClass (top 7) 7)) (defBody (inClass (top 7) 7)) (defScope (inClass (top 7) 7)) .none kV doc pm an cdv ct), osl⟩) (c : PySem.W.codeIn K cdv "Closing.table" = true) (k : PySem.W.keepIn K (.ref f) = true) : ∃ f fd, MAt K C "table" "Closing.table" (inClass (top 7) 7) ["self"] f fd :=
  ⟨f, _, fun_mk l c k, ⟨a, i, k⟩, (fun_mk l c k).binds (ps := ["self"]) fun _ _ _ _ _ _ us hl => match us, hl with | [_], _ => rfl⟩
theorem at_A_has_waited {f : Addr} {oc : Value} {od an : Option Addr} {osl : Array (Option Value)} {kV doc pm cdv ct : Value} (X : K.In h) (G : h.Ns mainGlobals mg) (a : PySem.W.nsIn K mainGlobals "has_waited" = some (some (.ref f))) (l : K.lookup f = some ⟨oc, od, .func (PySem.W.fnOf "has_waited" "has_waited" (defArgs (top 9)) (defBody (top 9)) (defScope (top 9)) .none kV doc pm an cdv ct), osl⟩) (c : PySem.W.codeIn K cdv "has_waited" = true) (k : PySem.W.keepIn K (.ref f) = true) : ∃ f fd, At K mg "has_waited" (top 9) ["brief", "table", "happened", "task"] f fd :=
  ⟨f, _, fun_mk l c k, PySem.W.mg_of X G a, (fun_mk l c k).binds (ps := ["brief", "table", "happened", "task"]) fun _ _ _ _ _ _ us hl => match us, hl with | [_, _, _, _], _ => rfl⟩
theorem at_A_stays {f : Addr} {oc : Value} {od an : Option Addr} {osl : Array (Option Value)} {kV doc pm cdv ct : Value} (X : K.In h) (G : h.Ns mainGlobals mg) (a : PySem.W.nsIn K mainGlobals "stays" = some (some (.ref f))) (l : K.lookup f = some ⟨oc, od, .func (PySem.W.fnOf "stays" "stays" (defArgs (top 10)) (defBody (top 10)) (defScope (top 10)) .none kV doc pm an cdv ct), osl⟩) (c : PySem.W.codeIn K cdv "stays" = true) (k : PySem.W.keepIn K (.ref f) = true) : ∃ f fd, At K mg "stays" (top 10) ["brief", "table", "situation"] f fd :=
  ⟨f, _, fun_mk l c k, PySem.W.mg_of X G a, (fun_mk l c k).binds (ps := ["brief", "table", "situation"]) fun _ _ _ _ _ _ us hl => match us, hl with | [_, _, _], _ => rfl⟩
theorem at_A_may_begin {f : Addr} {oc : Value} {od an : Option Addr} {osl : Array (Option Value)} {kV doc pm cdv ct : Value} (X : K.In h) (G : h.Ns mainGlobals mg) (a : PySem.W.nsIn K mainGlobals "may_begin" = some (some (.ref f))) (l : K.lookup f = some ⟨oc, od, .func (PySem.W.fnOf "may_begin" "may_begin" (defArgs (top 11)) (defBody (top 11)) (defScope (top 11)) .none kV doc pm an cdv ct), osl⟩) (c : PySem.W.codeIn K cdv "may_begin" = true) (k : PySem.W.keepIn K (.ref f) = true) : ∃ f fd, At K mg "may_begin" (top 11) ["brief", "table", "moment", "happened", "task"] f fd :=
  ⟨f, _, fun_mk l c k, PySem.W.mg_of X G a, (fun_mk l c k).binds (ps := ["brief", "table", "moment", "happened", "task"]) fun _ _ _ _ _ _ us hl => match us, hl with | [_, _, _, _, _], _ => rfl⟩
theorem at_A_with_begins {f : Addr} {oc : Value} {od an : Option Addr} {osl : Array (Option Value)} {kV doc pm cdv ct : Value} (X : K.In h) (G : h.Ns mainGlobals mg) (a : PySem.W.nsIn K mainGlobals "with_begins" = some (some (.ref f))) (l : K.lookup f = some ⟨oc, od, .func (PySem.W.fnOf "with_begins" "with_begins" (defArgs (top 12)) (defBody (top 12)) (defScope (top 12)) .none kV doc pm an cdv ct), osl⟩) (c : PySem.W.codeIn K cdv "with_begins" = true) (k : PySem.W.keepIn K (.ref f) = true) : ∃ f fd, At K mg "with_begins" (top 12) ["brief", "table", "moment", "happened"] f fd :=
  ⟨f, _, fun_mk l c k, PySem.W.mg_of X G a, (fun_mk l c k).binds (ps := ["brief", "table", "moment", "happened"]) fun _ _ _ _ _ _ us hl => match us, hl with | [_, _, _, _], _ => rfl⟩
theorem at_A_opening {f : Addr} {oc : Value} {od an : Option Addr} {osl : Array (Option Value)} {kV doc pm cdv ct : Value} (X : K.In h) (G : h.Ns mainGlobals mg) (a : PySem.W.nsIn K mainGlobals "opening" = some (some (.ref f))) (l : K.lookup f = some ⟨oc, od, .func (PySem.W.fnOf "opening" "opening" (defArgs (top 13)) (defBody (top 13)) (defScope (top 13)) .none kV doc pm an cdv ct), osl⟩) (c : PySem.W.codeIn K cdv "opening" = true) (k : PySem.W.keepIn K (.ref f) = true) : ∃ f fd, At K mg "opening" (top 13) ["brief", "table"] f fd :=
  ⟨f, _, fun_mk l c k, PySem.W.mg_of X G a, (fun_mk l c k).binds (ps := ["brief", "table"]) fun _ _ _ _ _ _ us hl => match us, hl with | [_, _], _ => rfl⟩
theorem at_A_followed {f : Addr} {oc : Value} {od an : Option Addr} {osl : Array (Option Value)} {kV doc pm cdv ct : Value} (X : K.In h) (G : h.Ns mainGlobals mg) (a : PySem.W.nsIn K mainGlobals "followed" = some (some (.ref f))) (l : K.lookup f = some ⟨oc, od, .func (PySem.W.fnOf "followed" "followed" (defArgs (top 14)) (defBody (top 14)) (defScope (top 14)) .none kV doc pm an cdv ct), osl⟩) (c : PySem.W.codeIn K cdv "followed" = true) (k : PySem.W.keepIn K (.ref f) = true) : ∃ f fd, At K mg "followed" (top 14) ["brief", "table", "situation", "tick"] f fd :=
  ⟨f, _, fun_mk l c k, PySem.W.mg_of X G a, (fun_mk l c k).binds (ps := ["brief", "table", "situation", "tick"]) fun _ _ _ _ _ _ us hl => match us, hl with | [_, _, _, _], _ => rfl⟩
theorem at_A_lines_in {f : Addr} {oc : Value} {od an : Option Addr} {osl : Array (Option Value)} {kV doc pm cdv ct : Value} (X : K.In h) (G : h.Ns mainGlobals mg) (a : PySem.W.nsIn K mainGlobals "lines_in" = some (some (.ref f))) (l : K.lookup f = some ⟨oc, od, .func (PySem.W.fnOf "lines_in" "lines_in" (defArgs (top 16)) (defBody (top 16)) (defScope (top 16)) .none kV doc pm an cdv ct), osl⟩) (c : PySem.W.codeIn K cdv "lines_in" = true) (k : PySem.W.keepIn K (.ref f) = true) : ∃ f fd, At K mg "lines_in" (top 16) ["line"] f fd :=
  ⟨f, _, fun_mk l c k, PySem.W.mg_of X G a, (fun_mk l c k).binds (ps := ["line"]) fun _ _ _ _ _ _ us hl => match us, hl with | [_], _ => rfl⟩
theorem at_A_renumbered {f : Addr} {oc : Value} {od an : Option Addr} {osl : Array (Option Value)} {kV doc pm cdv ct : Value} (X : K.In h) (G : h.Ns mainGlobals mg) (a : PySem.W.nsIn K mainGlobals "renumbered" = some (some (.ref f))) (l : K.lookup f = some ⟨oc, od, .func (PySem.W.fnOf "renumbered" "renumbered" (defArgs (top 17)) (defBody (top 17)) (defScope (top 17)) .none kV doc pm an cdv ct), osl⟩) (c : PySem.W.codeIn K cdv "renumbered" = true) (k : PySem.W.keepIn K (.ref f) = true) : ∃ f fd, At K mg "renumbered" (top 17) ["line", "places"] f fd :=
  ⟨f, _, fun_mk l c k, PySem.W.mg_of X G a, (fun_mk l c k).binds (ps := ["line", "places"]) fun _ _ _ _ _ _ us hl => match us, hl with | [_, _], _ => rfl⟩
theorem at_A_lines_up_to {f : Addr} {oc : Value} {od an : Option Addr} {osl : Array (Option Value)} {kV doc pm cdv ct : Value} (X : K.In h) (G : h.Ns mainGlobals mg) (a : PySem.W.nsIn K mainGlobals "lines_up_to" = some (some (.ref f))) (l : K.lookup f = some ⟨oc, od, .func (PySem.W.fnOf "lines_up_to" "lines_up_to" (defArgs (top 18)) (defBody (top 18)) (defScope (top 18)) .none kV doc pm an cdv ct), osl⟩) (c : PySem.W.codeIn K cdv "lines_up_to" = true) (k : PySem.W.keepIn K (.ref f) = true) : ∃ f fd, At K mg "lines_up_to" (top 18) ["lines", "last"] f fd :=
  ⟨f, _, fun_mk l c k, PySem.W.mg_of X G a, (fun_mk l c k).binds (ps := ["lines", "last"]) fun _ _ _ _ _ _ us hl => match us, hl with | [_, _], _ => rfl⟩
theorem at_A_find_table {f : Addr} {oc : Value} {od an : Option Addr} {osl : Array (Option Value)} {kV doc pm cdv ct : Value} (X : K.In h) (G : h.Ns mainGlobals mg) (a : PySem.W.nsIn K mainGlobals "find_table" = some (some (.ref f))) (l : K.lookup f = some ⟨oc, od, .func (PySem.W.fnOf "find_table" "find_table" (defArgs (top 20)) (defBody (top 20)) (defScope (top 20)) .none kV doc pm an cdv ct), osl⟩) (c : PySem.W.codeIn K cdv "find_table" = true) (k : PySem.W.keepIn K (.ref f) = true) : ∃ f fd, At K mg "find_table" (top 20) ["brief"] f fd :=
  ⟨f, _, fun_mk l c k, PySem.W.mg_of X G a, (fun_mk l c k).binds (ps := ["brief"]) fun _ _ _ _ _ _ us hl => match us, hl with | [_], _ => rfl⟩
theorem at_A_present_times {f : Addr} {oc : Value} {od an : Option Addr} {osl : Array (Option Value)} {kV doc pm cdv ct : Value} (X : K.In h) (G : h.Ns mainGlobals mg) (a : PySem.W.nsIn K mainGlobals "present_times" = some (some (.ref f))) (l : K.lookup f = some ⟨oc, od, .func (PySem.W.fnOf "present_times" "present_times" (defArgs (top 22)) (defBody (top 22)) (defScope (top 22)) .none kV doc pm an cdv ct), osl⟩) (c : PySem.W.codeIn K cdv "present_times" = true) (k : PySem.W.keepIn K (.ref f) = true) : ∃ f fd, At K mg "present_times" (top 22) ["situation", "task", "low", "high"] f fd :=
  ⟨f, _, fun_mk l c k, PySem.W.mg_of X G a, (fun_mk l c k).binds (ps := ["situation", "task", "low", "high"]) fun _ _ _ _ _ _ us hl => match us, hl with | [_, _, _, _], _ => rfl⟩
theorem at_A_present_brief {f : Addr} {oc : Value} {od an : Option Addr} {osl : Array (Option Value)} {kV doc pm cdv ct : Value} (X : K.In h) (G : h.Ns mainGlobals mg) (a : PySem.W.nsIn K mainGlobals "present_brief" = some (some (.ref f))) (l : K.lookup f = some ⟨oc, od, .func (PySem.W.fnOf "present_brief" "present_brief" (defArgs (top 23)) (defBody (top 23)) (defScope (top 23)) .none kV doc pm an cdv ct), osl⟩) (c : PySem.W.codeIn K cdv "present_brief" = true) (k : PySem.W.keepIn K (.ref f) = true) : ∃ f fd, At K mg "present_brief" (top 23) ["brief", "situation"] f fd :=
  ⟨f, _, fun_mk l c k, PySem.W.mg_of X G a, (fun_mk l c k).binds (ps := ["brief", "situation"]) fun _ _ _ _ _ _ us hl => match us, hl with | [_, _], _ => rfl⟩
theorem at_A_can_go_on {f : Addr} {oc : Value} {od an : Option Addr} {osl : Array (Option Value)} {kV doc pm cdv ct : Value} (X : K.In h) (G : h.Ns mainGlobals mg) (a : PySem.W.nsIn K mainGlobals "can_go_on" = some (some (.ref f))) (l : K.lookup f = some ⟨oc, od, .func (PySem.W.fnOf "can_go_on" "can_go_on" (defArgs (top 24)) (defBody (top 24)) (defScope (top 24)) .none kV doc pm an cdv ct), osl⟩) (c : PySem.W.codeIn K cdv "can_go_on" = true) (k : PySem.W.keepIn K (.ref f) = true) : ∃ f fd, At K mg "can_go_on" (top 24) ["brief", "situation"] f fd :=
  ⟨f, _, fun_mk l c k, PySem.W.mg_of X G a, (fun_mk l c k).binds (ps := ["brief", "situation"]) fun _ _ _ _ _ _ us hl => match us, hl with | [_, _], _ => rfl⟩
theorem at_A_is_fair {f : Addr} {oc : Value} {od an : Option Addr} {osl : Array (Option Value)} {kV doc pm cdv ct : Value} (X : K.In h) (G : h.Ns mainGlobals mg) (a : PySem.W.nsIn K mainGlobals "is_fair" = some (some (.ref f))) (l : K.lookup f = some ⟨oc, od, .func (PySem.W.fnOf "is_fair" "is_fair" (defArgs (top 25)) (defBody (top 25)) (defScope (top 25)) .none kV doc pm an cdv ct), osl⟩) (c : PySem.W.codeIn K cdv "is_fair" = true) (k : PySem.W.keepIn K (.ref f) = true) : ∃ f fd, At K mg "is_fair" (top 25) ["brief", "situation"] f fd :=
  ⟨f, _, fun_mk l c k, PySem.W.mg_of X G a, (fun_mk l c k).binds (ps := ["brief", "situation"]) fun _ _ _ _ _ _ us hl => match us, hl with | [_, _], _ => rfl⟩
theorem at_A_breaks {f : Addr} {oc : Value} {od an : Option Addr} {osl : Array (Option Value)} {kV doc pm cdv ct : Value} (X : K.In h) (G : h.Ns mainGlobals mg) (a : PySem.W.nsIn K mainGlobals "breaks" = some (some (.ref f))) (l : K.lookup f = some ⟨oc, od, .func (PySem.W.fnOf "breaks" "breaks" (defArgs (top 26)) (defBody (top 26)) (defScope (top 26)) .none kV doc pm an cdv ct), osl⟩) (c : PySem.W.codeIn K cdv "breaks" = true) (k : PySem.W.keepIn K (.ref f) = true) : ∃ f fd, At K mg "breaks" (top 26) ["situation", "line"] f fd :=
  ⟨f, _, fun_mk l c k, PySem.W.mg_of X G a, (fun_mk l c k).binds (ps := ["situation", "line"]) fun _ _ _ _ _ _ us hl => match us, hl with | [_, _], _ => rfl⟩
theorem at_A_find_breach {f : Addr} {oc : Value} {od an : Option Addr} {osl : Array (Option Value)} {kV doc pm cdv ct : Value} (X : K.In h) (G : h.Ns mainGlobals mg) (a : PySem.W.nsIn K mainGlobals "find_breach" = some (some (.ref f))) (l : K.lookup f = some ⟨oc, od, .func (PySem.W.fnOf "find_breach" "find_breach" (defArgs (top 27)) (defBody (top 27)) (defScope (top 27)) .none kV doc pm an cdv ct), osl⟩) (c : PySem.W.codeIn K cdv "find_breach" = true) (k : PySem.W.keepIn K (.ref f) = true) : ∃ f fd, At K mg "find_breach" (top 27) ["brief", "situation"] f fd :=
  ⟨f, _, fun_mk l c k, PySem.W.mg_of X G a, (fun_mk l c k).binds (ps := ["brief", "situation"]) fun _ _ _ _ _ _ us hl => match us, hl with | [_, _], _ => rfl⟩
theorem at_A_law_owner_l {f : Addr} {oc : Value} {od an : Option Addr} {osl : Array (Option Value)} {kV doc pm cdv ct : Value} (X : K.In h) (G : h.Ns mainGlobals mg) (a : PySem.W.nsIn K mainGlobals "_law_owner" = some (some (.ref f))) (l : K.lookup f = some ⟨oc, od, .func (PySem.W.fnOf "_law_owner" "_law_owner" (defArgs (top 35)) (defBody (top 35)) (defScope (top 35)) .none kV doc pm an cdv ct), osl⟩) (c : PySem.W.codeIn K cdv "_law_owner" = true) (k : PySem.W.keepIn K (.ref f) = true) : ∃ f fd, At K mg "_law_owner" (top 35) ["_law_event"] f fd :=
  ⟨f, _, fun_mk l c k, PySem.W.mg_of X G a, (fun_mk l c k).binds (ps := ["_law_event"]) fun _ _ _ _ _ _ us hl => match us, hl with | [_], _ => rfl⟩
theorem at_A_law_is_end_l {f : Addr} {oc : Value} {od an : Option Addr} {osl : Array (Option Value)} {kV doc pm cdv ct : Value} (X : K.In h) (G : h.Ns mainGlobals mg) (a : PySem.W.nsIn K mainGlobals "_law_is_end" = some (some (.ref f))) (l : K.lookup f = some ⟨oc, od, .func (PySem.W.fnOf "_law_is_end" "_law_is_end" (defArgs (top 36)) (defBody (top 36)) (defScope (top 36)) .none kV doc pm an cdv ct), osl⟩) (c : PySem.W.codeIn K cdv "_law_is_end" = true) (k : PySem.W.keepIn K (.ref f) = true) : ∃ f fd, At K mg "_law_is_end" (top 36) ["_law_event"] f fd :=
  ⟨f, _, fun_mk l c k, PySem.W.mg_of X G a, (fun_mk l c k).binds (ps := ["_law_event"]) fun _ _ _ _ _ _ us hl => match us, hl with | [_], _ => rfl⟩
theorem at_A_law_spread_l {f : Addr} {oc : Value} {od an : Option Addr} {osl : Array (Option Value)} {kV doc pm cdv ct : Value} (X : K.In h) (G : h.Ns mainGlobals mg) (a : PySem.W.nsIn K mainGlobals "_law_spread" = some (some (.ref f))) (l : K.lookup f = some ⟨oc, od, .func (PySem.W.fnOf "_law_spread" "_law_spread" (defArgs (top 30)) (defBody (top 30)) (defScope (top 30)) .none kV doc pm an cdv ct), osl⟩) (c : PySem.W.codeIn K cdv "_law_spread" = true) (k : PySem.W.keepIn K (.ref f) = true) : ∃ f fd, At K mg "_law_spread" (top 30) ["_law_cell", "_law_at"] f fd :=
  ⟨f, _, fun_mk l c k, PySem.W.mg_of X G a, (fun_mk l c k).binds (ps := ["_law_cell", "_law_at"]) fun _ _ _ _ _ _ us hl => match us, hl with | [_, _], _ => rfl⟩
theorem at_A_law_take_l {f : Addr} {oc : Value} {od an : Option Addr} {osl : Array (Option Value)} {kV doc pm cdv ct : Value} (X : K.In h) (G : h.Ns mainGlobals mg) (a : PySem.W.nsIn K mainGlobals "_law_take" = some (some (.ref f))) (l : K.lookup f = some ⟨oc, od, .func (PySem.W.fnOf "_law_take" "_law_take" (defArgs (top 31)) (defBody (top 31)) (defScope (top 31)) .none kV doc pm an cdv ct), osl⟩) (c : PySem.W.codeIn K cdv "_law_take" = true) (k : PySem.W.keepIn K (.ref f) = true) : ∃ f fd, At K mg "_law_take" (top 31) ["_law_pen", "_law_amount"] f fd :=
  ⟨f, _, fun_mk l c k, PySem.W.mg_of X G a, (fun_mk l c k).binds (ps := ["_law_pen", "_law_amount"]) fun _ _ _ _ _ _ us hl => match us, hl with | [_, _], _ => rfl⟩
theorem at_A_law_one_of_l {f : Addr} {oc : Value} {od an : Option Addr} {osl : Array (Option Value)} {kV doc pm cdv ct : Value} (X : K.In h) (G : h.Ns mainGlobals mg) (a : PySem.W.nsIn K mainGlobals "_law_one_of" = some (some (.ref f))) (l : K.lookup f = some ⟨oc, od, .func (PySem.W.fnOf "_law_one_of" "_law_one_of" (defArgs (top 33)) (defBody (top 33)) (defScope (top 33)) .none kV doc pm an cdv ct), osl⟩) (c : PySem.W.codeIn K cdv "_law_one_of" = true) (k : PySem.W.keepIn K (.ref f) = true) : ∃ f fd, At K mg "_law_one_of" (top 33) ["_law_pen", "_law_some"] f fd :=
  ⟨f, _, fun_mk l c k, PySem.W.mg_of X G a, (fun_mk l c k).binds (ps := ["_law_pen", "_law_some"]) fun _ _ _ _ _ _ us hl => match us, hl with | [_, _], _ => rfl⟩
theorem at_A_law_open_l {f : Addr} {oc : Value} {od an : Option Addr} {osl : Array (Option Value)} {kV doc pm cdv ct : Value} (X : K.In h) (G : h.Ns mainGlobals mg) (a : PySem.W.nsIn K mainGlobals "_law_open" = some (some (.ref f))) (l : K.lookup f = some ⟨oc, od, .func (PySem.W.fnOf "_law_open" "_law_open" (defArgs (top 29)) (defBody (top 29)) (defScope (top 29)) .none kV doc pm an cdv ct), osl⟩) (c : PySem.W.codeIn K cdv "_law_open" = true) (k : PySem.W.keepIn K (.ref f) = true) : ∃ f fd, At K mg "_law_open" (top 29) ["_law_script"] f fd :=
  ⟨f, _, fun_mk l c k, PySem.W.mg_of X G a, (fun_mk l c k).binds (ps := ["_law_script"]) fun _ _ _ _ _ _ us hl => match us, hl with | [_], _ => rfl⟩
theorem at_A_law_same_l {f : Addr} {oc : Value} {od an : Option Addr} {osl : Array (Option Value)} {kV doc pm cdv ct : Value} (X : K.In h) (G : h.Ns mainGlobals mg) (a : PySem.W.nsIn K mainGlobals "_law_same" = some (some (.ref f))) (l : K.lookup f = some ⟨oc, od, .func (PySem.W.fnOf "_law_same" "_law_same" (defArgs (top 32)) (defBody (top 32)) (defScope (top 32)) .none kV doc pm an cdv ct), osl⟩) (c : PySem.W.codeIn K cdv "_law_same" = true) (k : PySem.W.keepIn K (.ref f) = true) : ∃ f fd, At K mg "_law_same" (top 32) ["_law_found", "_law_due"] f fd :=
  ⟨f, _, fun_mk l c k, PySem.W.mg_of X G a, (fun_mk l c k).binds (ps := ["_law_found", "_law_due"]) fun _ _ _ _ _ _ us hl => match us, hl with | [_, _], _ => rfl⟩
theorem at_A_law_between_l {f : Addr} {oc : Value} {od an : Option Addr} {osl : Array (Option Value)} {kV doc pm cdv ct : Value} (X : K.In h) (G : h.Ns mainGlobals mg) (a : PySem.W.nsIn K mainGlobals "_law_between" = some (some (.ref f))) (l : K.lookup f = some ⟨oc, od, .func (PySem.W.fnOf "_law_between" "_law_between" (defArgs (top 34)) (defBody (top 34)) (defScope (top 34)) .none kV doc pm an cdv ct), osl⟩) (c : PySem.W.codeIn K cdv "_law_between" = true) (k : PySem.W.keepIn K (.ref f) = true) : ∃ f fd, At K mg "_law_between" (top 34) ["_law_value", "_law_low", "_law_high"] f fd :=
  ⟨f, _, fun_mk l c k, PySem.W.mg_of X G a, (fun_mk l c k).binds (ps := ["_law_value", "_law_low", "_law_high"]) fun _ _ _ _ _ _ us hl => match us, hl with | [_, _, _], _ => rfl⟩
theorem at_A_law_bounds_l {f : Addr} {oc : Value} {od an : Option Addr} {osl : Array (Option Value)} {kV doc pm cdv ct : Value} (X : K.In h) (G : h.Ns mainGlobals mg) (a : PySem.W.nsIn K mainGlobals "_law_bounds" = some (some (.ref f))) (l : K.lookup f = some ⟨oc, od, .func (PySem.W.fnOf "_law_bounds" "_law_bounds" (defArgs (top 37)) (defBody (top 37)) (defScope (top 37)) .none kV doc pm an cdv ct), osl⟩) (c : PySem.W.codeIn K cdv "_law_bounds" = true) (k : PySem.W.keepIn K (.ref f) = true) : ∃ f fd, At K mg "_law_bounds" (top 37) ["_law_brief"] f fd :=
  ⟨f, _, fun_mk l c k, PySem.W.mg_of X G a, (fun_mk l c k).binds (ps := ["_law_brief"]) fun _ _ _ _ _ _ us hl => match us, hl with | [_], _ => rfl⟩
theorem at_A_law_breaks_l {f : Addr} {oc : Value} {od an : Option Addr} {osl : Array (Option Value)} {kV doc pm cdv ct : Value} (X : K.In h) (G : h.Ns mainGlobals mg) (a : PySem.W.nsIn K mainGlobals "_law_breaks" = some (some (.ref f))) (l : K.lookup f = some ⟨oc, od, .func (PySem.W.fnOf "_law_breaks" "_law_breaks" (defArgs (top 49)) (defBody (top 49)) (defScope (top 49)) .none kV doc pm an cdv ct), osl⟩) (c : PySem.W.codeIn K cdv "_law_breaks" = true) (k : PySem.W.keepIn K (.ref f) = true) : ∃ f fd, At K mg "_law_breaks" (top 49) ["_law_situation", "_law_line"] f fd :=
  ⟨f, _, fun_mk l c k, PySem.W.mg_of X G a, (fun_mk l c k).binds (ps := ["_law_situation", "_law_line"]) fun _ _ _ _ _ _ us hl => match us, hl with | [_, _], _ => rfl⟩
theorem at_A_law_gives_alone_l {f : Addr} {oc : Value} {od an : Option Addr} {osl : Array (Option Value)} {kV doc pm cdv ct : Value} (X : K.In h) (G : h.Ns mainGlobals mg) (a : PySem.W.nsIn K mainGlobals "_law_gives_alone" = some (some (.ref f))) (l : K.lookup f = some ⟨oc, od, .func (PySem.W.fnOf "_law_gives_alone" "_law_gives_alone" (defArgs (top 38)) (defBody (top 38)) (defScope (top 38)) .none kV doc pm an cdv ct), osl⟩) (c : PySem.W.codeIn K cdv "_law_gives_alone" = true) (k : PySem.W.keepIn K (.ref f) = true) : ∃ f fd, At K mg "_law_gives_alone" (top 38) ["_law_brief", "_law_word", "_law_k"] f fd :=
  ⟨f, _, fun_mk l c k, PySem.W.mg_of X G a, (fun_mk l c k).binds (ps := ["_law_brief", "_law_word", "_law_k"]) fun _ _ _ _ _ _ us hl => match us, hl with | [_, _, _], _ => rfl⟩
theorem at_A_law_gives_l {f : Addr} {oc : Value} {od an : Option Addr} {osl : Array (Option Value)} {kV doc pm cdv ct : Value} (X : K.In h) (G : h.Ns mainGlobals mg) (a : PySem.W.nsIn K mainGlobals "_law_gives" = some (some (.ref f))) (l : K.lookup f = some ⟨oc, od, .func (PySem.W.fnOf "_law_gives" "_law_gives" (defArgs (top 39)) (defBody (top 39)) (defScope (top 39)) .none kV doc pm an cdv ct), osl⟩) (c : PySem.W.codeIn K cdv "_law_gives" = true) (k : PySem.W.keepIn K (.ref f) = true) : ∃ f fd, At K mg "_law_gives" (top 39) ["_law_brief", "_law_earlier", "_law_many", "_law_reason"] f fd :=
  ⟨f, _, fun_mk l c k, PySem.W.mg_of X G a, (fun_mk l c k).binds (ps := ["_law_brief", "_law_earlier", "_law_many", "_law_reason"]) fun _ _ _ _ _ _ us hl => match us, hl with | [_, _, _, _], _ => rfl⟩
theorem at_A_law_are_lines_l {f : Addr} {oc : Value} {od an : Option Addr} {osl : Array (Option Value)} {kV doc pm cdv ct : Value} (X : K.In h) (G : h.Ns mainGlobals mg) (a : PySem.W.nsIn K mainGlobals "_law_are_lines" = some (some (.ref f))) (l : K.lookup f = some ⟨oc, od, .func (PySem.W.fnOf "_law_are_lines" "_law_are_lines" (defArgs (top 40)) (defBody (top 40)) (defScope (top 40)) .none kV doc pm an cdv ct), osl⟩) (c : PySem.W.codeIn K cdv "_law_are_lines" = true) (k : PySem.W.keepIn K (.ref f) = true) : ∃ f fd, At K mg "_law_are_lines" (top 40) ["_law_brief", "_law_value"] f fd :=
  ⟨f, _, fun_mk l c k, PySem.W.mg_of X G a, (fun_mk l c k).binds (ps := ["_law_brief", "_law_value"]) fun _ _ _ _ _ _ us hl => match us, hl with | [_, _], _ => rfl⟩
theorem at_A_law_is_breach_l {f : Addr} {oc : Value} {od an : Option Addr} {osl : Array (Option Value)} {kV doc pm cdv ct : Value} (X : K.In h) (G : h.Ns mainGlobals mg) (a : PySem.W.nsIn K mainGlobals "_law_is_breach" = some (some (.ref f))) (l : K.lookup f = some ⟨oc, od, .func (PySem.W.fnOf "_law_is_breach" "_law_is_breach" (defArgs (top 50)) (defBody (top 50)) (defScope (top 50)) .none kV doc pm an cdv ct), osl⟩) (c : PySem.W.codeIn K cdv "_law_is_breach" = true) (k : PySem.W.keepIn K (.ref f) = true) : ∃ f fd, At K mg "_law_is_breach" (top 50) ["_law_brief", "_law_situation", "_law_value"] f fd :=
  ⟨f, _, fun_mk l c k, PySem.W.mg_of X G a, (fun_mk l c k).binds (ps := ["_law_brief", "_law_situation", "_law_value"]) fun _ _ _ _ _ _ us hl => match us, hl with | [_, _, _], _ => rfl⟩
theorem at_A_law_draw_project_l {f : Addr} {oc : Value} {od an : Option Addr} {osl : Array (Option Value)} {kV doc pm cdv ct : Value} (X : K.In h) (G : h.Ns mainGlobals mg) (a : PySem.W.nsIn K mainGlobals "_law_draw_project" = some (some (.ref f))) (l : K.lookup f = some ⟨oc, od, .func (PySem.W.fnOf "_law_draw_project" "_law_draw_project" (defArgs (top 41)) (defBody (top 41)) (defScope (top 41)) .none kV doc pm an cdv ct), osl⟩) (c : PySem.W.codeIn K cdv "_law_draw_project" = true) (k : PySem.W.keepIn K (.ref f) = true) : ∃ f fd, At K mg "_law_draw_project" (top 41) ["_law_pen", "_law_many", "_law_low_most", "_law_wide"] f fd :=
  ⟨f, _, fun_mk l c k, PySem.W.mg_of X G a, (fun_mk l c k).binds (ps := ["_law_pen", "_law_many", "_law_low_most", "_law_wide"]) fun _ _ _ _ _ _ us hl => match us, hl with | [_, _, _, _], _ => rfl⟩
theorem at_A_law_draw_nominal_l {f : Addr} {oc : Value} {od an : Option Addr} {osl : Array (Option Value)} {kV doc pm cdv ct : Value} (X : K.In h) (G : h.Ns mainGlobals mg) (a : PySem.W.nsIn K mainGlobals "_law_draw_nominal" = some (some (.ref f))) (l : K.lookup f = some ⟨oc, od, .func (PySem.W.fnOf "_law_draw_nominal" "_law_draw_nominal" (defArgs (top 42)) (defBody (top 42)) (defScope (top 42)) .none kV doc pm an cdv ct), osl⟩) (c : PySem.W.codeIn K cdv "_law_draw_nominal" = true) (k : PySem.W.keepIn K (.ref f) = true) : ∃ f fd, At K mg "_law_draw_nominal" (top 42) ["_law_pen", "_law_project"] f fd :=
  ⟨f, _, fun_mk l c k, PySem.W.mg_of X G a, (fun_mk l c k).binds (ps := ["_law_pen", "_law_project"]) fun _ _ _ _ _ _ us hl => match us, hl with | [_, _], _ => rfl⟩
theorem at_A_law_draw_limits_l {f : Addr} {oc : Value} {od an : Option Addr} {osl : Array (Option Value)} {kV doc pm cdv ct : Value} (X : K.In h) (G : h.Ns mainGlobals mg) (a : PySem.W.nsIn K mainGlobals "_law_draw_limits" = some (some (.ref f))) (l : K.lookup f = some ⟨oc, od, .func (PySem.W.fnOf "_law_draw_limits" "_law_draw_limits" (defArgs (top 43)) (defBody (top 43)) (defScope (top 43)) .none kV doc pm an cdv ct), osl⟩) (c : PySem.W.codeIn K cdv "_law_draw_limits" = true) (k : PySem.W.keepIn K (.ref f) = true) : ∃ f fd, At K mg "_law_draw_limits" (top 43) ["_law_pen", "_law_moments", "_law_most", "_law_loose"] f fd :=
  ⟨f, _, fun_mk l c k, PySem.W.mg_of X G a, (fun_mk l c k).binds (ps := ["_law_pen", "_law_moments", "_law_most", "_law_loose"]) fun _ _ _ _ _ _ us hl => match us, hl with | [_, _, _, _], _ => rfl⟩
theorem at_A_law_draw_brief_l {f : Addr} {oc : Value} {od an : Option Addr} {osl : Array (Option Value)} {kV doc pm cdv ct : Value} (X : K.In h) (G : h.Ns mainGlobals mg) (a : PySem.W.nsIn K mainGlobals "_law_draw_brief" = some (some (.ref f))) (l : K.lookup f = some ⟨oc, od, .func (PySem.W.fnOf "_law_draw_brief" "_law_draw_brief" (defArgs (top 44)) (defBody (top 44)) (defScope (top 44)) .none kV doc pm an cdv ct), osl⟩) (c : PySem.W.codeIn K cdv "_law_draw_brief" = true) (k : PySem.W.keepIn K (.ref f) = true) : ∃ f fd, At K mg "_law_draw_brief" (top 44) ["_law_pen", "_law_many", "_law_low_most", "_law_wide", "_law_most"] f fd :=
  ⟨f, _, fun_mk l c k, PySem.W.mg_of X G a, (fun_mk l c k).binds (ps := ["_law_pen", "_law_many", "_law_low_most", "_law_wide", "_law_most"]) fun _ _ _ _ _ _ us hl => match us, hl with | [_, _, _, _, _], _ => rfl⟩
theorem at_A_law_stays_l {f : Addr} {oc : Value} {od an : Option Addr} {osl : Array (Option Value)} {kV doc pm cdv ct : Value} (X : K.In h) (G : h.Ns mainGlobals mg) (a : PySem.W.nsIn K mainGlobals "_law_stays" = some (some (.ref f))) (l : K.lookup f = some ⟨oc, od, .func (PySem.W.fnOf "_law_stays" "_law_stays" (defArgs (top 45)) (defBody (top 45)) (defScope (top 45)) .none kV doc pm an cdv ct), osl⟩) (c : PySem.W.codeIn K cdv "_law_stays" = true) (k : PySem.W.keepIn K (.ref f) = true) : ∃ f fd, At K mg "_law_stays" (top 45) ["_law_brief", "_law_table", "_law_situation"] f fd :=
  ⟨f, _, fun_mk l c k, PySem.W.mg_of X G a, (fun_mk l c k).binds (ps := ["_law_brief", "_law_table", "_law_situation"]) fun _ _ _ _ _ _ us hl => match us, hl with | [_, _, _], _ => rfl⟩
theorem at_A_law_draw_ends_l {f : Addr} {oc : Value} {od an : Option Addr} {osl : Array (Option Value)} {kV doc pm cdv ct : Value} (X : K.In h) (G : h.Ns mainGlobals mg) (a : PySem.W.nsIn K mainGlobals "_law_draw_ends" = some (some (.ref f))) (l : K.lookup f = some ⟨oc, od, .func (PySem.W.fnOf "_law_draw_ends" "_law_draw_ends" (defArgs (top 46)) (defBody (top 46)) (defScope (top 46)) .none kV doc pm an cdv ct), osl⟩) (c : PySem.W.codeIn K cdv "_law_draw_ends" = true) (k : PySem.W.keepIn K (.ref f) = true) : ∃ f fd, At K mg "_law_draw_ends" (top 46) ["_law_pen", "_law_tasks", "_law_t", "_law_happened"] f fd :=
  ⟨f, _, fun_mk l c k, PySem.W.mg_of X G a, (fun_mk l c k).binds (ps := ["_law_pen", "_law_tasks", "_law_t", "_law_happened"]) fun _ _ _ _ _ _ us hl => match us, hl with | [_, _, _, _], _ => rfl⟩
theorem at_A_law_reordered_l {f : Addr} {oc : Value} {od an : Option Addr} {osl : Array (Option Value)} {kV doc pm cdv ct : Value} (X : K.In h) (G : h.Ns mainGlobals mg) (a : PySem.W.nsIn K mainGlobals "_law_reordered" = some (some (.ref f))) (l : K.lookup f = some ⟨oc, od, .func (PySem.W.fnOf "_law_reordered" "_law_reordered" (defArgs (top 47)) (defBody (top 47)) (defScope (top 47)) .none kV doc pm an cdv ct), osl⟩) (c : PySem.W.codeIn K cdv "_law_reordered" = true) (k : PySem.W.keepIn K (.ref f) = true) : ∃ f fd, At K mg "_law_reordered" (top 47) ["_law_pen", "_law_happened"] f fd :=
  ⟨f, _, fun_mk l c k, PySem.W.mg_of X G a, (fun_mk l c k).binds (ps := ["_law_pen", "_law_happened"]) fun _ _ _ _ _ _ us hl => match us, hl with | [_, _], _ => rfl⟩
theorem at_A_law_draw_situation_l {f : Addr} {oc : Value} {od an : Option Addr} {osl : Array (Option Value)} {kV doc pm cdv ct : Value} (X : K.In h) (G : h.Ns mainGlobals mg) (a : PySem.W.nsIn K mainGlobals "_law_draw_situation" = some (some (.ref f))) (l : K.lookup f = some ⟨oc, od, .func (PySem.W.fnOf "_law_draw_situation" "_law_draw_situation" (defArgs (top 48)) (defBody (top 48)) (defScope (top 48)) .none kV doc pm an cdv ct), osl⟩) (c : PySem.W.codeIn K cdv "_law_draw_situation" = true) (k : PySem.W.keepIn K (.ref f) = true) : ∃ f fd, At K mg "_law_draw_situation" (top 48) ["_law_pen", "_law_tasks", "_law_rounds", "_law_rare"] f fd :=
  ⟨f, _, fun_mk l c k, PySem.W.mg_of X G a, (fun_mk l c k).binds (ps := ["_law_pen", "_law_tasks", "_law_rounds", "_law_rare"]) fun _ _ _ _ _ _ us hl => match us, hl with | [_, _, _, _], _ => rfl⟩
theorem at_A_law_draw_there_l {f : Addr} {oc : Value} {od an : Option Addr} {osl : Array (Option Value)} {kV doc pm cdv ct : Value} (X : K.In h) (G : h.Ns mainGlobals mg) (a : PySem.W.nsIn K mainGlobals "_law_draw_there" = some (some (.ref f))) (l : K.lookup f = some ⟨oc, od, .func (PySem.W.fnOf "_law_draw_there" "_law_draw_there" (defArgs (top 51)) (defBody (top 51)) (defScope (top 51)) .none kV doc pm an cdv ct), osl⟩) (c : PySem.W.codeIn K cdv "_law_draw_there" = true) (k : PySem.W.keepIn K (.ref f) = true) : ∃ f fd, At K mg "_law_draw_there" (top 51) ["_law_pen", "_law_brief", "_law_table"] f fd :=
  ⟨f, _, fun_mk l c k, PySem.W.mg_of X G a, (fun_mk l c k).binds (ps := ["_law_pen", "_law_brief", "_law_table"]) fun _ _ _ _ _ _ us hl => match us, hl with | [_, _, _], _ => rfl⟩
theorem at_law {f : Addr} {oc : Value} {od an : Option Addr} {osl : Array (Option Value)} {kV doc pm cdv ct : Value} {fa : Addr} (X : K.In h) (G : h.Ns mainGlobals mg) (hfa : mg "law" = some (.ref fa)) (a : PySem.W.nsIn K mainGlobals "law" = some (some (.ref f))) (l : K.lookup f = some ⟨oc, od, .func (PySem.W.fnOf "law" "law" (defArgs (top 52)) (defBody (top 52)) (defScope (top 52)) .none kV doc pm an cdv ct), osl⟩) (c : PySem.W.codeIn K cdv "law" = true) (k : PySem.W.keepIn K (.ref f) = true) :
    ∃ fd : FuncData, (∀ (s : Shared) (u : Value), BindsTo s fd ⟨[u], []⟩ [("_law_script", u)]) ∧ At K mg "law" (top 52) ["_law_script"] fa fd := by
  have e := hfa.symm.trans (PySem.W.mg_of X G a)
  cases e
  exact ⟨_, fun s v => .of_eq rfl, fun_mk l c k, PySem.W.mg_of X G a, (fun_mk l c k).binds (ps := ["_law_script"]) fun _ _ _ _ _ _ us hl => match us, hl with | [_], _ => rfl⟩
theorem cl_mk {C : Addr} (pg : PySem.W.plainGet K C Str.empty = true) (hd : PySem.W.hasDictIn K C = true) (po : PySem.W.plainOver K C = true) (sa : PySem.W.findIn K (.ref C) "__setattr__" = some (some (.builtin "object.__setattr__"))) (n0 : PySem.W.findIn K (.ref C) "tasks" = some none) (n1 : PySem.W.findIn K (.ref C) "every" = some none) (n2 : PySem.W.findIn K (.ref C) "lines" = some none) (n3 : PySem.W.findIn K (.ref C) "mosts" = some none) (n4 : PySem.W.findIn K (.ref C) "waits" = some none) (n5 : PySem.W.findIn K (.ref C) "fault" = some none) : ClT K C := ⟨⟨pg, hd, po, sa⟩, n0, n1, n2, n3, n4, n5⟩
theorem w_bi {Q : Prop} (X : K.In h) (G : h.Ns mainGlobals mg) (z0 : PySem.W.nsIn K mainGlobals "len" = some none) (z1 : PySem.W.nsIn K mainGlobals "range" = some none) (z2 : PySem.W.nsIn K mainGlobals "list" = some none) (z3 : PySem.W.nsIn K mainGlobals "tuple" = some none) (z4 : PySem.W.nsIn K mainGlobals "dict" = some none) (z5 : PySem.W.nsIn K mainGlobals "int" = some none) (z6 : PySem.W.nsIn K mainGlobals "str" = some none) (z7 : PySem.W.nsIn K mainGlobals "bool" = some none) (z8 : PySem.W.nsIn K mainGlobals "enumerate" = some none) (z9 : PySem.W.nsIn K mainGlobals "zip" = some none) (z10 : PySem.W.nsIn K mainGlobals "min" = some none) (z11 : PySem.W.nsIn K mainGlobals "max" = some none) (z12 : PySem.W.nsIn K mainGlobals "any" = some none) (z13 : PySem.W.nsIn K mainGlobals "all" = some none) (z14 : PySem.W.nsIn K mainGlobals "sorted" = some none) (z15 : PySem.W.nsIn K mainGlobals "isinstance" = some none) (z16 : PySem.W.nsIn K mainGlobals "repr" = some none) (q : Bi mg → Q) : Q := q (bi_mk X G z0 z1 z2 z3 z4 z5 z6 z7 z8 z9 z10 z11 z12 z13 z14 z15 z16)
theorem w_A_begin_of {Q : Prop} {f : Addr} {oc : Value} {od an : Option Addr} {osl : Array (Option Value)} {kV doc pm cdv ct : Value} (X : K.In h) (G : h.Ns mainGlobals mg) (a : PySem.W.nsIn K mainGlobals "begin_of" = some (some (.ref f))) (l : K.lookup f = some ⟨oc, od, .func (PySem.W.fnOf "begin_of" "begin_of" (defArgs (top 1)) (defBody (top 1)) (defScope (top 1)) .none kV doc pm an cdv ct), osl⟩) (c : PySem.W.codeIn K cdv "begin_of" = true) (k : PySem.W.keepIn K (.ref f) = true) (q : (∃ f fd, At K mg "begin_of" (top 1) ["task"] f fd) → Q) : Q := q (at_A_begin_of X G a l c k)
theorem w_A_end_of {Q : Prop} {f : Addr} {oc : Value} {od an : Option Addr} {osl : Array (Option Value)} {kV doc pm cdv ct : Value} (X : K.In h) (G : h.Ns mainGlobals mg) (a : PySem.W.nsIn K mainGlobals "end_of" = some (some (.ref f))) (l : K.lookup f = some ⟨oc, od, .func (PySem.W.fnOf "end_of" "end_of" (defArgs (top 2)) (defBody (top 2)) (defScope (top 2)) .none kV doc pm an cdv ct), osl⟩) (c : PySem.W.codeIn K cdv "end_of" = true) (k : PySem.W.keepIn K (.ref f) = true) (q : (∃ f fd, At K mg "end_of" (top 2) ["task"] f fd) → Q) : Q := q (at_A_end_of X G a l c k)
theorem w_A_is_end {Q : Prop} {f : Addr} {oc : Value} {od an : Option Addr} {osl : Array (Option Value)} {kV doc pm cdv ct : Value} (X : K.In h) (G : h.Ns mainGlobals mg) (a : PySem.W.nsIn K mainGlobals "is_end" = some (some (.ref f))) (l : K.lookup f = some ⟨oc, od, .func (PySem.W.fnOf "is_end" "is_end" (defArgs (top 3)) (defBody (top 3)) (defScope (top 3)) .none kV doc pm an cdv ct), osl⟩) (c : PySem.W.codeIn K cdv "is_end" = true) (k : PySem.W.keepIn K (.ref f) = true) (q : (∃ f fd, At K mg "is_end" (top 3) ["event"] f fd) → Q) : Q := q (at_A_is_end X G a l c k)
theorem w_A_owner_of {Q : Prop} {f : Addr} {oc : Value} {od an : Option Addr} {osl : Array (Option Value)} {kV doc pm cdv ct : Value} (X : K.In h) (G : h.Ns mainGlobals mg) (a : PySem.W.nsIn K mainGlobals "owner_of" = some (some (.ref f))) (l : K.lookup f = some ⟨oc, od, .func (PySem.W.fnOf "owner_of" "owner_of" (defArgs (top 4)) (defBody (top 4)) (defScope (top 4)) .none kV doc pm an cdv ct), osl⟩) (c : PySem.W.codeIn K cdv "owner_of" = true) (k : PySem.W.keepIn K (.ref f) = true) (q : (∃ f fd, At K mg "owner_of" (top 4) ["event"] f fd) → Q) : Q := q (at_A_owner_of X G a l c k)
theorem w_A_all_bounds {Q : Prop} {f : Addr} {oc : Value} {od an : Option Addr} {osl : Array (Option Value)} {kV doc pm cdv ct : Value} (X : K.In h) (G : h.Ns mainGlobals mg) (a : PySem.W.nsIn K mainGlobals "all_bounds" = some (some (.ref f))) (l : K.lookup f = some ⟨oc, od, .func (PySem.W.fnOf "all_bounds" "all_bounds" (defArgs (top 5)) (defBody (top 5)) (defScope (top 5)) .none kV doc pm an cdv ct), osl⟩) (c : PySem.W.codeIn K cdv "all_bounds" = true) (k : PySem.W.keepIn K (.ref f) = true) (q : (∃ f fd, At K mg "all_bounds" (top 5) ["brief"] f fd) → Q) : Q := q (at_A_all_bounds X G a l c k)
theorem w_A_has_waited {Q : Prop} {f : Addr} {oc : Value} {od an : Option Addr} {osl : Array (Option Value)} {kV doc pm cdv ct : Value} (X : K.In h) (G : h.Ns mainGlobals mg) (a : PySem.W.nsIn K mainGlobals "has_waited" = some (some (.ref f))) (l : K.lookup f = some ⟨oc, od, .func (PySem.W.fnOf "has_waited" "has_waited" (defArgs (top 9)) (defBody (top 9)) (defScope (top 9)) .none kV doc pm an cdv ct), osl⟩) (c : PySem.W.codeIn K cdv "has_waited" = true) (k : PySem.W.keepIn K (.ref f) = true) (q : (∃ f fd, At K mg "has_waited" (top 9) ["brief", "table", "happened", "task"] f fd) → Q) : Q := q (at_A_has_waited X G a l c k)
theorem w_A_stays {Q : Prop} {f : Addr} {oc : Value} {od an : Option Addr} {osl : Array (Option Value)} {kV doc pm cdv ct : Value} (X : K.In h) (G : h.Ns mainGlobals mg) (a : PySem.W.nsIn K mainGlobals "stays" = some (some (.ref f))) (l : K.lookup f = some ⟨oc, od, .func (PySem.W.fnOf "stays" "stays" (defArgs (top 10)) (defBody (top 10)) (defScope (top 10)) .none kV doc pm an cdv ct), osl⟩) (c : PySem.W.codeIn K cdv "stays" = true) (k : PySem.W.keepIn K (.ref f) = true) (q : (∃ f fd, At K mg "stays" (top 10) ["brief", "table", "situation"] f fd) → Q) : Q := q (at_A_stays X G a l c k)
theorem w_A_may_begin {Q : Prop} {f : Addr} {oc : Value} {od an : Option Addr} {osl : Array (Option Value)} {kV doc pm cdv ct : Value} (X : K.In h) (G : h.Ns mainGlobals mg) (a : PySem.W.nsIn K mainGlobals "may_begin" = some (some (.ref f))) (l : K.lookup f = some ⟨oc, od, .func (PySem.W.fnOf "may_begin" "may_begin" (defArgs (top 11)) (defBody (top 11)) (defScope (top 11)) .none kV doc pm an cdv ct), osl⟩) (c : PySem.W.codeIn K cdv "may_begin" = true) (k : PySem.W.keepIn K (.ref f) = true) (q : (∃ f fd, At K mg "may_begin" (top 11) ["brief", "table", "moment", "happened", "task"] f fd) → Q) : Q := q (at_A_may_begin X G a l c k)
theorem w_A_with_begins {Q : Prop} {f : Addr} {oc : Value} {od an : Option Addr} {osl : Array (Option Value)} {kV doc pm cdv ct : Value} (X : K.In h) (G : h.Ns mainGlobals mg) (a : PySem.W.nsIn K mainGlobals "with_begins" = some (some (.ref f))) (l : K.lookup f = some ⟨oc, od, .func (PySem.W.fnOf "with_begins" "with_begins" (defArgs (top 12)) (defBody (top 12)) (defScope (top 12)) .none kV doc pm an cdv ct), osl⟩) (c : PySem.W.codeIn K cdv "with_begins" = true) (k : PySem.W.keepIn K (.ref f) = true) (q : (∃ f fd, At K mg "with_begins" (top 12) ["brief", "table", "moment", "happened"] f fd) → Q) : Q := q (at_A_with_begins X G a l c k)
theorem w_A_opening {Q : Prop} {f : Addr} {oc : Value} {od an : Option Addr} {osl : Array (Option Value)} {kV doc pm cdv ct : Value} (X : K.In h) (G : h.Ns mainGlobals mg) (a : PySem.W.nsIn K mainGlobals "opening" = some (some (.ref f))) (l : K.lookup f = some ⟨oc, od, .func (PySem.W.fnOf "opening" "opening" (defArgs (top 13)) (defBody (top 13)) (defScope (top 13)) .none kV doc pm an cdv ct), osl⟩) (c : PySem.W.codeIn K cdv "opening" = true) (k : PySem.W.keepIn K (.ref f) = true) (q : (∃ f fd, At K mg "opening" (top 13) ["brief", "table"] f fd) → Q) : Q := q (at_A_opening X G a l c k)
theorem w_A_followed {Q : Prop} {f : Addr} {oc : Value} {od an : Option Addr} {osl : Array (Option Value)} {kV doc pm cdv ct : Value} (X : K.In h) (G : h.Ns mainGlobals mg) (a : PySem.W.nsIn K mainGlobals "followed" = some (some (.ref f))) (l : K.lookup f = some ⟨oc, od, .func (PySem.W.fnOf "followed" "followed" (defArgs (top 14)) (defBody (top 14)) (defScope (top 14)) .none kV doc pm an cdv ct), osl⟩) (c : PySem.W.codeIn K cdv "followed" = true) (k : PySem.W.keepIn K (.ref f) = true) (q : (∃ f fd, At K mg "followed" (top 14) ["brief", "table", "situation", "tick"] f fd) → Q) : Q := q (at_A_followed X G a l c k)
theorem w_A_lines_in {Q : Prop} {f : Addr} {oc : Value} {od an : Option Addr} {osl : Array (Option Value)} {kV doc pm cdv ct : Value} (X : K.In h) (G : h.Ns mainGlobals mg) (a : PySem.W.nsIn K mainGlobals "lines_in" = some (some (.ref f))) (l : K.lookup f = some ⟨oc, od, .func (PySem.W.fnOf "lines_in" "lines_in" (defArgs (top 16)) (defBody (top 16)) (defScope (top 16)) .none kV doc pm an cdv ct), osl⟩) (c : PySem.W.codeIn K cdv "lines_in" = true) (k : PySem.W.keepIn K (.ref f) = true) (q : (∃ f fd, At K mg "lines_in" (top 16) ["line"] f fd) → Q) : Q := q (at_A_lines_in X G a l c k)
theorem w_A_renumbered {Q : Prop} {f : Addr} {oc : Value} {od an : Option Addr} {osl : Array (Option Value)} {kV doc pm cdv ct : Value} (X : K.In h) (G : h.Ns mainGlobals mg) (a : PySem.W.nsIn K mainGlobals "renumbered" = some (some (.ref f))) (l : K.lookup f = some ⟨oc, od, .func (PySem.W.fnOf "renumbered" "renumbered" (defArgs (top 17)) (defBody (top 17)) (defScope (top 17)) .none kV doc pm an cdv ct), osl⟩) (c : PySem.W.codeIn K cdv "renumbered" = true) (k : PySem.W.keepIn K (.ref f) = true) (q : (∃ f fd, At K mg "renumbered" (top 17) ["line", "places"] f fd) → Q) : Q := q (at_A_renumbered X G a l c k)
theorem w_A_lines_up_to {Q : Prop} {f : Addr} {oc : Value} {od an : Option Addr} {osl : Array (Option Value)} {kV doc pm cdv ct : Value} (X : K.In h) (G : h.Ns mainGlobals mg) (a : PySem.W.nsIn K mainGlobals "lines_up_to" = some (some (.ref f))) (l : K.lookup f = some ⟨oc, od, .func (PySem.W.fnOf "lines_up_to" "lines_up_to" (defArgs (top 18)) (defBody (top 18)) (defScope (top 18)) .none kV doc pm an cdv ct), osl⟩) (c : PySem.W.codeIn K cdv "lines_up_to" = true) (k : PySem.W.keepIn K (.ref f) = true) (q : (∃ f fd, At K mg "lines_up_to" (top 18) ["lines", "last"] f fd) → Q) : Q := q (at_A_lines_up_to X G a l c k)
theorem w_A_find_table {Q : Prop} {f : Addr} {oc : Value} {od an : Option Addr} {osl : Array (Option Value)} {kV doc pm cdv ct : Value} (X : K.In h) (G : h.Ns mainGlobals mg) (a : PySem.W.nsIn K mainGlobals "find_table" = some (some (.ref f))) (l : K.lookup f = some ⟨oc, od, .func (PySem.W.fnOf "find_table" "find_table" (defArgs (top 20)) (defBody (top 20)) (defScope (top 20)) .none kV doc pm an cdv ct), osl⟩) (c : PySem.W.codeIn K cdv "find_table" = true) (k : PySem.W.keepIn K (.ref f) = true) (q : (∃ f fd, At K mg "find_table" (top 20) ["brief"] f fd) → Q) : Q := q (at_A_find_table X G a l c k)
theorem w_A_present_times {Q : Prop} {f : Addr} {oc : Value} {od an : Option Addr} {osl : Array (Option Value)} {kV doc pm cdv ct : Value} (X : K.In h) (G : h.Ns mainGlobals mg) (a : PySem.W.nsIn K mainGlobals "present_times" = some (some (.ref f))) (l : K.lookup f = some ⟨oc, od, .func (PySem.W.fnOf "present_times" "present_times" (defArgs (top 22)) (defBody (top 22)) (defScope (top 22)) .none kV doc pm an cdv ct), osl⟩) (c : PySem.W.codeIn K cdv "present_times" = true) (k : PySem.W.keepIn K (.ref f) = true) (q : (∃ f fd, At K mg "present_times" (top 22) ["situation", "task", "low", "high"] f fd) → Q) : Q := q (at_A_present_times X G a l c k)
theorem w_A_present_brief {Q : Prop} {f : Addr} {oc : Value} {od an : Option Addr} {osl : Array (Option Value)} {kV doc pm cdv ct : Value} (X : K.In h) (G : h.Ns mainGlobals mg) (a : PySem.W.nsIn K mainGlobals "present_brief" = some (some (.ref f))) (l : K.lookup f = some ⟨oc, od, .func (PySem.W.fnOf "present_brief" "present_brief" (defArgs (top 23)) (defBody (top 23)) (defScope (top 23)) .none kV doc pm an cdv ct), osl⟩) (c : PySem.W.codeIn K cdv "present_brief" = true) (k : PySem.W.keepIn K (.ref f) = true) (q : (∃ f fd, At K mg "present_brief" (top 23) ["brief", "situation"] f fd) → Q) : Q := q (at_A_present_brief X G a l c k)
theorem w_A_can_go_on {Q : Prop} {f : Addr} {oc : Value} {od an : Option Addr} {osl : Array (Option Value)} {kV doc pm cdv ct : Value} (X : K.In h) (G : h.Ns mainGlobals mg) (a : PySem.W.nsIn K mainGlobals "can_go_on" = some (some (.ref f))) (l : K.lookup f = some ⟨oc, od, .func (PySem.W.fnOf "can_go_on" "can_go_on" (defArgs (top 24)) (defBody (top 24)) (defScope (top 24)) .none kV doc pm an cdv ct), osl⟩) (c : PySem.W.codeIn K cdv "can_go_on" = true) (k : PySem.W.keepIn K (.ref f) = true) (q : (∃ f fd, At K mg "can_go_on" (top 24) ["brief", "situation"] f fd) → Q) : Q := q (at_A_can_go_on X G a l c k)
theorem w_A_is_fair {Q : Prop} {f : Addr} {oc : Value} {od an : Option Addr} {osl : Array (Option Value)} {kV doc pm cdv ct : Value} (X : K.In h) (G : h.Ns mainGlobals mg) (a : PySem.W.nsIn K mainGlobals "is_fair" = some (some (.ref f))) (l : K.lookup f = some ⟨oc, od, .func (PySem.W.fnOf "is_fair" "is_fair" (defArgs (top 25)) (defBody (top 25)) (defScope (top 25)) .none kV doc pm an cdv ct), osl⟩) (c : PySem.W.codeIn K cdv "is_fair" = true) (k : PySem.W.keepIn K (.ref f) = true) (q : (∃ f fd, At K mg "is_fair" (top 25) ["brief", "situation"] f fd) → Q) : Q := q (at_A_is_fair X G a l c k)
theorem w_A_breaks {Q : Prop} {f : Addr} {oc : Value} {od an : Option Addr} {osl : Array (Option Value)} {kV doc pm cdv ct : Value} (X : K.In h) (G : h.Ns mainGlobals mg) (a : PySem.W.nsIn K mainGlobals "breaks" = some (some (.ref f))) (l : K.lookup f = some ⟨oc, od, .func (PySem.W.fnOf "breaks" "breaks" (defArgs (top 26)) (defBody (top 26)) (defScope (top 26)) .none kV doc pm an cdv ct), osl⟩) (c : PySem.W.codeIn K cdv "breaks" = true) (k : PySem.W.keepIn K (.ref f) = true) (q : (∃ f fd, At K mg "breaks" (top 26) ["situation", "line"] f fd) → Q) : Q := q (at_A_breaks X G a l c k)
theorem w_A_find_breach {Q : Prop} {f : Addr} {oc : Value} {od an : Option Addr} {osl : Array (Option Value)} {kV doc pm cdv ct : Value} (X : K.In h) (G : h.Ns mainGlobals mg) (a : PySem.W.nsIn K mainGlobals "find_breach" = some (some (.ref f))) (l : K.lookup f = some ⟨oc, od, .func (PySem.W.fnOf "find_breach" "find_breach" (defArgs (top 27)) (defBody (top 27)) (defScope (top 27)) .none kV doc pm an cdv ct), osl⟩) (c : PySem.W.codeIn K cdv "find_breach" = true) (k : PySem.W.keepIn K (.ref f) = true) (q : (∃ f fd, At K mg "find_breach" (top 27) ["brief", "situation"] f fd) → Q) : Q := q (at_A_find_breach X G a l c k)
theorem w_A_law_owner_l {Q : Prop} {f : Addr} {oc : Value} {od an : Option Addr} {osl : Array (Option Value)} {kV doc pm cdv ct : Value} (X : K.In h) (G : h.Ns mainGlobals mg) (a : PySem.W.nsIn K mainGlobals "_law_owner" = some (some (.ref f))) (l : K.lookup f = some ⟨oc, od, .func (PySem.W.fnOf "_law_owner" "_law_owner" (defArgs (top 35)) (defBody (top 35)) (defScope (top 35)) .none kV doc pm an cdv ct), osl⟩) (c : PySem.W.codeIn K cdv "_law_owner" = true) (k : PySem.W.keepIn K (.ref f) = true) (q : (∃ f fd, At K mg "_law_owner" (top 35) ["_law_event"] f fd) → Q) : Q := q (at_A_law_owner_l X G a l c k)
theorem w_A_law_is_end_l {Q : Prop} {f : Addr} {oc : Value} {od an : Option Addr} {osl : Array (Option Value)} {kV doc pm cdv ct : Value} (X : K.In h) (G : h.Ns mainGlobals mg) (a : PySem.W.nsIn K mainGlobals "_law_is_end" = some (some (.ref f))) (l : K.lookup f = some ⟨oc, od, .func (PySem.W.fnOf "_law_is_end" "_law_is_end" (defArgs (top 36)) (defBody (top 36)) (defScope (top 36)) .none kV doc pm an cdv ct), osl⟩) (c : PySem.W.codeIn K cdv "_law_is_end" = true) (k : PySem.W.keepIn K (.ref f) = true) (q : (∃ f fd, At K mg "_law_is_end" (top 36) ["_law_event"] f fd) → Q) : Q := q (at_A_law_is_end_l X G a l c k)
theorem w_A_law_spread_l {Q : Prop} {f : Addr} {oc : Value} {od an : Option Addr} {osl : Array (Option Value)} {kV doc pm cdv ct : Value} (X : K.In h) (G : h.Ns mainGlobals mg) (a : PySem.W.nsIn K mainGlobals "_law_spread" = some (some (.ref f))) (l : K.lookup f = some ⟨oc, od, .func (PySem.W.fnOf "_law_spread" "_law_spread" (defArgs (top 30)) (defBody (top 30)) (defScope (top 30)) .none kV doc pm an cdv ct), osl⟩) (c : PySem.W.codeIn K cdv "_law_spread" = true) (k : PySem.W.keepIn K (.ref f) = true) (q : (∃ f fd, At K mg "_law_spread" (top 30) ["_law_cell", "_law_at"] f fd) → Q) : Q := q (at_A_law_spread_l X G a l c k)
theorem w_A_law_take_l {Q : Prop} {f : Addr} {oc : Value} {od an : Option Addr} {osl : Array (Option Value)} {kV doc pm cdv ct : Value} (X : K.In h) (G : h.Ns mainGlobals mg) (a : PySem.W.nsIn K mainGlobals "_law_take" = some (some (.ref f))) (l : K.lookup f = some ⟨oc, od, .func (PySem.W.fnOf "_law_take" "_law_take" (defArgs (top 31)) (defBody (top 31)) (defScope (top 31)) .none kV doc pm an cdv ct), osl⟩) (c : PySem.W.codeIn K cdv "_law_take" = true) (k : PySem.W.keepIn K (.ref f) = true) (q : (∃ f fd, At K mg "_law_take" (top 31) ["_law_pen", "_law_amount"] f fd) → Q) : Q := q (at_A_law_take_l X G a l c k)
theorem w_A_law_one_of_l {Q : Prop} {f : Addr} {oc : Value} {od an : Option Addr} {osl : Array (Option Value)} {kV doc pm cdv ct : Value} (X : K.In h) (G : h.Ns mainGlobals mg) (a : PySem.W.nsIn K mainGlobals "_law_one_of" = some (some (.ref f))) (l : K.lookup f = some ⟨oc, od, .func (PySem.W.fnOf "_law_one_of" "_law_one_of" (defArgs (top 33)) (defBody (top 33)) (defScope (top 33)) .none kV doc pm an cdv ct), osl⟩) (c : PySem.W.codeIn K cdv "_law_one_of" = true) (k : PySem.W.keepIn K (.ref f) = true) (q : (∃ f fd, At K mg "_law_one_of" (top 33) ["_law_pen", "_law_some"] f fd) → Q) : Q := q (at_A_law_one_of_l X G a l c k)
theorem w_A_law_open_l {Q : Prop} {f : Addr} {oc : Value} {od an : Option Addr} {osl : Array (Option Value)} {kV doc pm cdv ct : Value} (X : K.In h) (G : h.Ns mainGlobals mg) (a : PySem.W.nsIn K mainGlobals "_law_open" = some (some (.ref f))) (l : K.lookup f = some ⟨oc, od, .func (PySem.W.fnOf "_law_open" "_law_open" (defArgs (top 29)) (defBody (top 29)) (defScope (top 29)) .none kV doc pm an cdv ct), osl⟩) (c : PySem.W.codeIn K cdv "_law_open" = true) (k : PySem.W.keepIn K (.ref f) = true) (q : (∃ f fd, At K mg "_law_open" (top 29) ["_law_script"] f fd) → Q) : Q := q (at_A_law_open_l X G a l c k)
theorem w_A_law_same_l {Q : Prop} {f : Addr} {oc : Value} {od an : Option Addr} {osl : Array (Option Value)} {kV doc pm cdv ct : Value} (X : K.In h) (G : h.Ns mainGlobals mg) (a : PySem.W.nsIn K mainGlobals "_law_same" = some (some (.ref f))) (l : K.lookup f = some ⟨oc, od, .func (PySem.W.fnOf "_law_same" "_law_same" (defArgs (top 32)) (defBody (top 32)) (defScope (top 32)) .none kV doc pm an cdv ct), osl⟩) (c : PySem.W.codeIn K cdv "_law_same" = true) (k : PySem.W.keepIn K (.ref f) = true) (q : (∃ f fd, At K mg "_law_same" (top 32) ["_law_found", "_law_due"] f fd) → Q) : Q := q (at_A_law_same_l X G a l c k)
theorem w_A_law_between_l {Q : Prop} {f : Addr} {oc : Value} {od an : Option Addr} {osl : Array (Option Value)} {kV doc pm cdv ct : Value} (X : K.In h) (G : h.Ns mainGlobals mg) (a : PySem.W.nsIn K mainGlobals "_law_between" = some (some (.ref f))) (l : K.lookup f = some ⟨oc, od, .func (PySem.W.fnOf "_law_between" "_law_between" (defArgs (top 34)) (defBody (top 34)) (defScope (top 34)) .none kV doc pm an cdv ct), osl⟩) (c : PySem.W.codeIn K cdv "_law_between" = true) (k : PySem.W.keepIn K (.ref f) = true) (q : (∃ f fd, At K mg "_law_between" (top 34) ["_law_value", "_law_low", "_law_high"] f fd) → Q) : Q := q (at_A_law_between_l X G a l c k)
theorem w_A_law_bounds_l {Q : Prop} {f : Addr} {oc : Value} {od an : Option Addr} {osl : Array (Option Value)} {kV doc pm cdv ct : Value} (X : K.In h) (G : h.Ns mainGlobals mg) (a : PySem.W.nsIn K mainGlobals "_law_bounds" = some (some (.ref f))) (l : K.lookup f = some ⟨oc, od, .func (PySem.W.fnOf "_law_bounds" "_law_bounds" (defArgs (top 37)) (defBody (top 37)) (defScope (top 37)) .none kV doc pm an cdv ct), osl⟩) (c : PySem.W.codeIn K cdv "_law_bounds" = true) (k : PySem.W.keepIn K (.ref f) = true) (q : (∃ f fd, At K mg "_law_bounds" (top 37) ["_law_brief"] f fd) → Q) : Q := q (at_A_law_bounds_l X G a l c k)
theorem w_A_law_breaks_l {Q : Prop} {f : Addr} {oc : Value} {od an : Option Addr} {osl : Array (Option Value)} {kV doc pm cdv ct : Value} (X : K.In h) (G : h.Ns mainGlobals mg) (a : PySem.W.nsIn K mainGlobals "_law_breaks" = some (some (.ref f))) (l : K.lookup f = some ⟨oc, od, .func (PySem.W.fnOf "_law_breaks" "_law_breaks" (defArgs (top 49)) (defBody (top 49)) (defScope (top 49)) .none kV doc pm an cdv ct), osl⟩) (c : PySem.W.codeIn K cdv "_law_breaks" = true) (k : PySem.W.keepIn K (.ref f) = true) (q : (∃ f fd, At K mg "_law_breaks" (top 49) ["_law_situation", "_law_line"] f fd) → Q) : Q := q (at_A_law_breaks_l X G a l c k)
theorem w_A_law_gives_alone_l {Q : Prop} {f : Addr} {oc : Value} {od an : Option Addr} {osl : Array (Option Value)} {kV doc pm cdv ct : Value} (X : K.In h) (G : h.Ns mainGlobals mg) (a : PySem.W.nsIn K mainGlobals "_law_gives_alone" = some (some (.ref f))) (l : K.lookup f = some ⟨oc, od, .func (PySem.W.fnOf "_law_gives_alone" "_law_gives_alone" (defArgs (top 38)) (defBody (top 38)) (defScope (top 38)) .none kV doc pm an cdv ct), osl⟩) (c : PySem.W.codeIn K cdv "_law_gives_alone" = true) (k : PySem.W.keepIn K (.ref f) = true) (q : (∃ f fd, At K mg "_law_gives_alone" (top 38) ["_law_brief", "_law_word", "_law_k"] f fd) → Q) : Q := q (at_A_law_gives_alone_l X G a l c k)
theorem w_A_law_gives_l {Q : Prop} {f : Addr} {oc : Value} {od an : Option Addr} {osl : Array (Option Value)} {kV doc pm cdv ct : Value} (X : K.In h) (G : h.Ns mainGlobals mg) (a : PySem.W.nsIn K mainGlobals "_law_gives" = some (some (.ref f))) (l : K.lookup f = some ⟨oc, od, .func (PySem.W.fnOf "_law_gives" "_law_gives" (defArgs (top 39)) (defBody (top 39)) (defScope (top 39)) .none kV doc pm an cdv ct), osl⟩) (c : PySem.W.codeIn K cdv "_law_gives" = true) (k : PySem.W.keepIn K (.ref f) = true) (q : (∃ f fd, At K mg "_law_gives" (top 39) ["_law_brief", "_law_earlier", "_law_many", "_law_reason"] f fd) → Q) : Q := q (at_A_law_gives_l X G a l c k)
theorem w_A_law_are_lines_l {Q : Prop} {f : Addr} {oc : Value} {od an : Option Addr} {osl : Array (Option Value)} {kV doc pm cdv ct : Value} (X : K.In h) (G : h.Ns mainGlobals mg) (a : PySem.W.nsIn K mainGlobals "_law_are_lines" = some (some (.ref f))) (l : K.lookup f = some ⟨oc, od, .func (PySem.W.fnOf "_law_are_lines" "_law_are_lines" (defArgs (top 40)) (defBody (top 40)) (defScope (top 40)) .none kV doc pm an cdv ct), osl⟩) (c : PySem.W.codeIn K cdv "_law_are_lines" = true) (k : PySem.W.keepIn K (.ref f) = true) (q : (∃ f fd, At K mg "_law_are_lines" (top 40) ["_law_brief", "_law_value"] f fd) → Q) : Q := q (at_A_law_are_lines_l X G a l c k)
theorem w_A_law_is_breach_l {Q : Prop} {f : Addr} {oc : Value} {od an : Option Addr} {osl : Array (Option Value)} {kV doc pm cdv ct : Value} (X : K.In h) (G : h.Ns mainGlobals mg) (a : PySem.W.nsIn K mainGlobals "_law_is_breach" = some (some (.ref f))) (l : K.lookup f = some ⟨oc, od, .func (PySem.W.fnOf "_law_is_breach" "_law_is_breach" (defArgs (top 50)) (defBody (top 50)) (defScope (top 50)) .none kV doc pm an cdv ct), osl⟩) (c : PySem.W.codeIn K cdv "_law_is_breach" = true) (k : PySem.W.keepIn K (.ref f) = true) (q : (∃ f fd, At K mg "_law_is_breach" (top 50) ["_law_brief", "_law_situation", "_law_value"] f fd) → Q) : Q := q (at_A_law_is_breach_l X G a l c k)
theorem w_A_law_draw_project_l {Q : Prop} {f : Addr} {oc : Value} {od an : Option Addr} {osl : Array (Option Value)} {kV doc pm cdv ct : Value} (X : K.In h) (G : h.Ns mainGlobals mg) (a : PySem.W.nsIn K mainGlobals "_law_draw_project" = some (some (.ref f))) (l : K.lookup f = some ⟨oc, od, .func (PySem.W.fnOf "_law_draw_project" "_law_draw_project" (defArgs (top 41)) (defBody (top 41)) (defScope (top 41)) .none kV doc pm an cdv ct), osl⟩) (c : PySem.W.codeIn K cdv "_law_draw_project" = true) (k : PySem.W.keepIn K (.ref f) = true) (q : (∃ f fd, At K mg "_law_draw_project" (top 41) ["_law_pen", "_law_many", "_law_low_most", "_law_wide"] f fd) → Q) : Q := q (at_A_law_draw_project_l X G a l c k)
theorem w_A_law_draw_nominal_l {Q : Prop} {f : Addr} {oc : Value} {od an : Option Addr} {osl : Array (Option Value)} {kV doc pm cdv ct : Value} (X : K.In h) (G : h.Ns mainGlobals mg) (a : PySem.W.nsIn K mainGlobals "_law_draw_nominal" = some (some (.ref f))) (l : K.lookup f = some ⟨oc, od, .func (PySem.W.fnOf "_law_draw_nominal" "_law_draw_nominal" (defArgs (top 42)) (defBody (top 42)) (defScope (top 42)) .none kV doc pm an cdv ct), osl⟩) (c : PySem.W.codeIn K cdv "_law_draw_nominal" = true) (k : PySem.W.keepIn K (.ref f) = true) (q : (∃ f fd, At K mg "_law_draw_nominal" (top 42) ["_law_pen", "_law_project"] f fd) → Q) : Q := q (at_A_law_draw_nominal_l X G a l c k)
theorem w_A_law_draw_limits_l {Q : Prop} {f : Addr} {oc : Value} {od an : Option Addr} {osl : Array (Option Value)} {kV doc pm cdv ct : Value} (X : K.In h) (G : h.Ns mainGlobals mg) (a : PySem.W.nsIn K mainGlobals "_law_draw_limits" = some (some (.ref f))) (l : K.lookup f = some ⟨oc, od, .func (PySem.W.fnOf "_law_draw_limits" "_law_draw_limits" (defArgs (top 43)) (defBody (top 43)) (defScope (top 43)) .none kV doc pm an cdv ct), osl⟩) (c : PySem.W.codeIn K cdv "_law_draw_limits" = true) (k : PySem.W.keepIn K (.ref f) = true) (q : (∃ f fd, At K mg "_law_draw_limits" (top 43) ["_law_pen", "_law_moments", "_law_most", "_law_loose"] f fd) → Q) : Q := q (at_A_law_draw_limits_l X G a l c k)
theorem w_A_law_draw_brief_l {Q : Prop} {f : Addr} {oc : Value} {od an : Option Addr} {osl : Array (Option Value)} {kV doc pm cdv ct : Value} (X : K.In h) (G : h.Ns mainGlobals mg) (a : PySem.W.nsIn K mainGlobals "_law_draw_brief" = some (some (.ref f))) (l : K.lookup f = some ⟨oc, od, .func (PySem.W.fnOf "_law_draw_brief" "_law_draw_brief" (defArgs (top 44)) (defBody (top 44)) (defScope (top 44)) .none kV doc pm an cdv ct), osl⟩) (c : PySem.W.codeIn K cdv "_law_draw_brief" = true) (k : PySem.W.keepIn K (.ref f) = true) (q : (∃ f fd, At K mg "_law_draw_brief" (top 44) ["_law_pen", "_law_many", "_law_low_most", "_law_wide", "_law_most"] f fd) → Q) : Q := q (at_A_law_draw_brief_l X G a l c k)
theorem w_A_law_stays_l {Q : Prop} {f : Addr} {oc : Value} {od an : Option Addr} {osl : Array (Option Value)} {kV doc pm cdv ct : Value} (X : K.In h) (G : h.Ns mainGlobals mg) (a : PySem.W.nsIn K mainGlobals "_law_stays" = some (some (.ref f))) (l : K.lookup f = some ⟨oc, od, .func (PySem.W.fnOf "_law_stays" "_law_stays" (defArgs (top 45)) (defBody (top 45)) (defScope (top 45)) .none kV doc pm an cdv ct), osl⟩) (c : PySem.W.codeIn K cdv "_law_stays" = true) (k : PySem.W.keepIn K (.ref f) = true) (q : (∃ f fd, At K mg "_law_stays" (top 45) ["_law_brief", "_law_table", "_law_situation"] f fd) → Q) : Q := q (at_A_law_stays_l X G a l c k)
theorem w_A_law_draw_ends_l {Q : Prop} {f : Addr} {oc : Value} {od an : Option Addr} {osl : Array (Option Value)} {kV doc pm cdv ct : Value} (X : K.In h) (G : h.Ns mainGlobals mg) (a : PySem.W.nsIn K mainGlobals "_law_draw_ends" = some (some (.ref f))) (l : K.lookup f = some ⟨oc, od, .func (PySem.W.fnOf "_law_draw_ends" "_law_draw_ends" (defArgs (top 46)) (defBody (top 46)) (defScope (top 46)) .none kV doc pm an cdv ct), osl⟩) (c : PySem.W.codeIn K cdv "_law_draw_ends" = true) (k : PySem.W.keepIn K (.ref f) = true) (q : (∃ f fd, At K mg "_law_draw_ends" (top 46) ["_law_pen", "_law_tasks", "_law_t", "_law_happened"] f fd) → Q) : Q := q (at_A_law_draw_ends_l X G a l c k)
theorem w_A_law_reordered_l {Q : Prop} {f : Addr} {oc : Value} {od an : Option Addr} {osl : Array (Option Value)} {kV doc pm cdv ct : Value} (X : K.In h) (G : h.Ns mainGlobals mg) (a : PySem.W.nsIn K mainGlobals "_law_reordered" = some (some (.ref f))) (l : K.lookup f = some ⟨oc, od, .func (PySem.W.fnOf "_law_reordered" "_law_reordered" (defArgs (top 47)) (defBody (top 47)) (defScope (top 47)) .none kV doc pm an cdv ct), osl⟩) (c : PySem.W.codeIn K cdv "_law_reordered" = true) (k : PySem.W.keepIn K (.ref f) = true) (q : (∃ f fd, At K mg "_law_reordered" (top 47) ["_law_pen", "_law_happened"] f fd) → Q) : Q := q (at_A_law_reordered_l X G a l c k)
theorem w_A_law_draw_situation_l {Q : Prop} {f : Addr} {oc : Value} {od an : Option Addr} {osl : Array (Option Value)} {kV doc pm cdv ct : Value} (X : K.In h) (G : h.Ns mainGlobals mg) (a : PySem.W.nsIn K mainGlobals "_law_draw_situation" = some (some (.ref f))) (l : K.lookup f = some ⟨oc, od, .func (PySem.W.fnOf "_law_draw_situation" "_law_draw_situation" (defArgs (top 48)) (defBody (top 48)) (defScope (top 48)) .none kV doc pm an cdv ct), osl⟩) (c : PySem.W.codeIn K cdv "_law_draw_situation" = true) (k : PySem.W.keepIn K (.ref f) = true) (q : (∃ f fd, At K mg "_law_draw_situation" (top 48) ["_law_pen", "_law_tasks", "_law_rounds", "_law_rare"] f fd) → Q) : Q := q (at_A_law_draw_situation_l X G a l c k)
theorem w_A_law_draw_there_l {Q : Prop} {f : Addr} {oc : Value} {od an : Option Addr} {osl : Array (Option Value)} {kV doc pm cdv ct : Value} (X : K.In h) (G : h.Ns mainGlobals mg) (a : PySem.W.nsIn K mainGlobals "_law_draw_there" = some (some (.ref f))) (l : K.lookup f = some ⟨oc, od, .func (PySem.W.fnOf "_law_draw_there" "_law_draw_there" (defArgs (top 51)) (defBody (top 51)) (defScope (top 51)) .none kV doc pm an cdv ct), osl⟩) (c : PySem.W.codeIn K cdv "_law_draw_there" = true) (k : PySem.W.keepIn K (.ref f) = true) (q : (∃ f fd, At K mg "_law_draw_there" (top 51) ["_law_pen", "_law_brief", "_law_table"] f fd) → Q) : Q := q (at_A_law_draw_there_l X G a l c k)
theorem w_cl {Q : Prop} {C : Addr} {f0 : Addr} {oc0 : Value} {od0 an0 : Option Addr} {osl0 : Array (Option Value)} {kV0 doc0 pm0 cdv0 ct0 : Value} {f1 : Addr} {oc1 : Value} {od1 an1 : Option Addr} {osl1 : Array (Option Value)} {kV1 doc1 pm1 cdv1 ct1 : Value} {f2 : Addr} {oc2 : Value} {od2 an2 : Option Addr} {osl2 : Array (Option Value)} {kV2 doc2 pm2 cdv2 ct2 : Value} {f3 : Addr} {oc3 : Value} {od3 an3 : Option Addr} {osl3 : Array (Option Value)} {kV3 doc3 pm3 cdv3 ct3 : Value} {f4 : Addr} {oc4 : Value} {od4 an4 : Option Addr} {osl4 : Array (Option Value)} {kV4 doc4 pm4 cdv4 ct4 : Value} {f5 : Addr} {oc5 : Value} {od5 an5 : Option Addr} {osl5 : Array (Option Value)} {kV5 doc5 pm5 cdv5 ct5 : Value} {f6 : Addr} {oc6 : Value} {od6 an6 : Option Addr} {osl6 : Array (Option Value)} {kV6 doc6 pm6 cdv6 ct6 : Value} {f7 : Addr} {oc7 : Value} {od7 an7 : Option Addr} {osl7 : Array (Option Value)} {kV7 doc7 pm7 cdv7 ct7 : Value} (X : K.In h) (G : h.Ns mainGlobals mg) (aC : PySem.W.nsIn K mainGlobals "Closing" = some (some (.ref C))) (pg : PySem.W.plainGet K C Str.empty = true) (hd : PySem.W.hasDictIn K C = true) (po : PySem.W.plainOver K C = true) (sa : PySem.W.findIn K (.ref C) "__setattr__" = some (some (.builtin "object.__setattr__"))) (n0 : PySem.W.findIn K (.ref C) "tasks" = some none) (n1 : PySem.W.findIn K (.ref C) "every" = some none) (n2 : PySem.W.findIn K (.ref C) "lines" = some none) (n3 : PySem.W.findIn K (.ref C) "mosts" = some none) (n4 : PySem.W.findIn K (.ref C) "waits" = some none) (n5 : PySem.W.findIn K (.ref C) "fault" = some none) (mk : PySem.W.makesIn K C = true) (kc : PySem.W.keepIn K (.ref C) = true)
    (a0 : PySem.W.findIn K (.ref C) "offer_most" = some (some (.ref f0))) (i0 : PySem.W.isFn K (.ref f0) = true) (l0 : K.lookup f0 = some ⟨oc0, od0, .func (PySem.W.fnOf "offer_most" "Closing.offer_most" (defArgs (inClass (top 7) 1)) (defBody (inClass (top 7) 1)) (defScope (inClass (top 7) 1)) .none kV0 doc0 pm0 an0 cdv0 ct0), osl0⟩) (c0 : PySem.W.codeIn K cdv0 "Closing.offer_most" = true) (k0 : PySem.W.keepIn K (.ref f0) = true)
    (a1 : PySem.W.findIn K (.ref C) "offer_wait" = some (some (.ref f1))) (i1 : PySem.W.isFn K (.ref f1) = true) (l1 : K.lookup f1 = some ⟨oc1, od1, .func (PySem.W.fnOf "offer_wait" "Closing.offer_wait" (defArgs (inClass (top 7) 2)) (defBody (inClass (top 7) 2)) (defScope (inClass (top 7) 2)) .none kV1 doc1 pm1 an1 cdv1 ct1), osl1⟩) (c1 : PySem.W.codeIn K cdv1 "Closing.offer_wait" = true) (k1 : PySem.W.keepIn K (.ref f1) = true)
    (a2 : PySem.W.findIn K (.ref C) "add_up" = some (some (.ref f2))) (i2 : PySem.W.isFn K (.ref f2) = true) (l2 : K.lookup f2 = some ⟨oc2, od2, .func (PySem.W.fnOf "add_up" "Closing.add_up" (defArgs (inClass (top 7) 3)) (defBody (inClass (top 7) 3)) (defScope (inClass (top 7) 3)) .none kV2 doc2 pm2 an2 cdv2 ct2), osl2⟩) (c2 : PySem.W.codeIn K cdv2 "Closing.add_up" = true) (k2 : PySem.W.keepIn K (.ref f2) = true)
    (a3 : PySem.W.findIn K (.ref C) "use_most" = some (some (.ref f3))) (i3 : PySem.W.isFn K (.ref f3) = true) (l3 : K.lookup f3 = some ⟨oc3, od3, .func (PySem.W.fnOf "use_most" "Closing.use_most" (defArgs (inClass (top 7) 4)) (defBody (inClass (top 7) 4)) (defScope (inClass (top 7) 4)) .none kV3 doc3 pm3 an3 cdv3 ct3), osl3⟩) (c3 : PySem.W.codeIn K cdv3 "Closing.use_most" = true) (k3 : PySem.W.keepIn K (.ref f3) = true)
    (a4 : PySem.W.findIn K (.ref C) "use_wait" = some (some (.ref f4))) (i4 : PySem.W.isFn K (.ref f4) = true) (l4 : K.lookup f4 = some ⟨oc4, od4, .func (PySem.W.fnOf "use_wait" "Closing.use_wait" (defArgs (inClass (top 7) 5)) (defBody (inClass (top 7) 5)) (defScope (inClass (top 7) 5)) .none kV4 doc4 pm4 an4 cdv4 ct4), osl4⟩) (c4 : PySem.W.codeIn K cdv4 "Closing.use_wait" = true) (k4 : PySem.W.keepIn K (.ref f4) = true)
    (a5 : PySem.W.findIn K (.ref C) "close_once" = some (some (.ref f5))) (i5 : PySem.W.isFn K (.ref f5) = true) (l5 : K.lookup f5 = some ⟨oc5, od5, .func (PySem.W.fnOf "close_once" "Closing.close_once" (defArgs (inClass (top 7) 6)) (defBody (inClass (top 7) 6)) (defScope (inClass (top 7) 6)) .none kV5 doc5 pm5 an5 cdv5 ct5), osl5⟩) (c5 : PySem.W.codeIn K cdv5 "Closing.close_once" = true) (k5 : PySem.W.keepIn K (.ref f5) = true)
    (a6 : PySem.W.findIn K (.ref C) "__init__" = some (some (.ref f6))) (i6 : PySem.W.isFn K (.ref f6) = true) (l6 : K.lookup f6 = some ⟨oc6, od6, .func (PySem.W.fnOf "__init__" "Closing.__init__" (defArgs (inClass (top 7) 0)) (defBody (inClass (top 7) 0)) (defScope (inClass (top 7) 0)) .none kV6 doc6 pm6 an6 cdv6 ct6), osl6⟩) (c6 : PySem.W.codeIn K cdv6 "Closing.__init__" = true) (k6 : PySem.W.keepIn K (.ref f6) = true)
    (a7 : PySem.W.findIn K (.ref C) "table" = some (some (.ref f7))) (i7 : PySem.W.isFn K (.ref f7) = true) (l7 : K.lookup f7 = some ⟨oc7, od7, .func (PySem.W.fnOf "table" "Closing.table" (defArgs (inClass (top 7) 7)) (defBody (inClass (top 7) 7)) (defScope (inClass (top 7) 7)) .none kV7 doc7 pm7 an7 cdv7 ct7), osl7⟩) (c7 : PySem.W.codeIn K cdv7 "Closing.table" = true) (k7 : PySem.W.keepIn K (.ref f7) = true)
    (q : ∀ C, ClT K C → (PySem.W.makesIn K C = true ∧ PySem.W.keepIn K (.ref C) = true) → mg "Closing" = some (.ref C) → (∃ f fd, MAt K C "offer_most" "Closing.offer_most" (inClass (top 7) 1) ["self", "a", "b", "w", "reason"] f fd) → (∃ f fd, MAt K C "offer_wait" "Closing.offer_wait" (inClass (top 7) 2) ["self", "task", "event", "w", "reason"] f fd) → (∃ f fd, MAt K C "add_up" "Closing.add_up" (inClass (top 7) 3) ["self", "a", "b", "c"] f fd) → (∃ f fd, MAt K C "use_most" "Closing.use_most" (inClass (top 7) 4) ["self", "a", "b"] f fd) → (∃ f fd, MAt K C "use_wait" "Closing.use_wait" (inClass (top 7) 5) ["self", "task", "event"] f fd) → (∃ f fd, MAt K C "close_once" "Closing.close_once" (inClass (top 7) 6) ["self"] f fd) → (∃ f fd, MAt K C "__init__" "Closing.__init__" (inClass (top 7) 0) ["self", "brief"] f fd) → (∃ f fd, MAt K C "table" "Closing.table" (inClass (top 7) 7) ["self"] f fd) → Q) : Q :=
  q C (cl_mk pg hd po sa n0 n1 n2 n3 n4 n5) ⟨mk, kc⟩ (PySem.W.mg_of X G aC) (at_M_offer_most a0 i0 l0 c0 k0) (at_M_offer_wait a1 i1 l1 c1 k1) (at_M_add_up a2 i2 l2 c2 k2) (at_M_use_most a3 i3 l3 c3 k3) (at_M_use_wait a4 i4 l4 c4 k4) (at_M_close_once a5 i5 l5 c5 k5) (at_M_init__ a6 i6 l6 c6 k6) (at_M_table a7 i7 l7 c7 k7)
theorem w_law {Q : Prop} {f : Addr} {oc : Value} {od an : Option Addr} {osl : Array (Option Value)} {kV doc pm cdv ct : Value} {fa : Addr} (X : K.In h) (G : h.Ns mainGlobals mg) (hfa : mg "law" = some (.ref fa)) (a : PySem.W.nsIn K mainGlobals "law" = some (some (.ref f))) (l : K.lookup f = some ⟨oc, od, .func (PySem.W.fnOf "law" "law" (defArgs (top 52)) (defBody (top 52)) (defScope (top 52)) .none kV doc pm an cdv ct), osl⟩) (c : PySem.W.codeIn K cdv "law" = true) (k : PySem.W.keepIn K (.ref f) = true)
    (q : ∀ fd : FuncData, (∀ (s : Shared) (u : Value), BindsTo s fd ⟨[u], []⟩ [("_law_script", u)]) → At K mg "law" (top 52) ["_law_script"] fa fd → Q) : Q := by
  obtain ⟨fd, b, A⟩ := at_law X G hfa a l c k
  exact q fd b A
set_option maxHeartbeats 8000000 in
theorem chain {C fa : Addr} {fdl : FuncData} (bi : Bi mg) (T : ClT K C) (mk : PySem.W.makesIn K C = true ∧ PySem.W.keepIn K (.ref C) = true) (mgC : mg "Closing" = some (.ref C))
    (A_begin_of : ∃ f fd, At K mg "begin_of" (top 1) ["task"] f fd)
    (A_end_of : ∃ f fd, At K mg "end_of" (top 2) ["task"] f fd)
    (A_is_end : ∃ f fd, At K mg "is_end" (top 3) ["event"] f fd)
    (A_owner_of : ∃ f fd, At K mg "owner_of" (top 4) ["event"] f fd)
    (A_all_bounds : ∃ f fd, At K mg "all_bounds" (top 5) ["brief"] f fd)
    (M_offer_most : ∃ f fd, MAt K C "offer_most" "Closing.offer_most" (inClass (top 7) 1) ["self", "a", "b", "w", "reason"] f fd)
    (M_offer_wait : ∃ f fd, MAt K C "offer_wait" "Closing.offer_wait" (inClass (top 7) 2) ["self", "task", "event", "w", "reason"] f fd)
    (M_add_up : ∃ f fd, MAt K C "add_up" "Closing.add_up" (inClass (top 7) 3) ["self", "a", "b", "c"] f fd)
    (M_use_most : ∃ f fd, MAt K C "use_most" "Closing.use_most" (inClass (top 7) 4) ["self", "a", "b"] f fd)
    (M_use_wait : ∃ f fd, MAt K C "use_wait" "Closing.use_wait" (inClass (top 7) 5) ["self", "task", "event"] f fd)
    (M_close_once : ∃ f fd, MAt K C "close_once" "Closing.close_once" (inClass (top 7) 6) ["self"] f fd)
    (M_init__ : ∃ f fd, MAt K C "__init__" "Closing.__init__" (inClass (top 7) 0) ["self", "brief"] f fd)
    (M_table : ∃ f fd, MAt K C "table" "Closing.table" (inClass (top 7) 7) ["self"] f fd)
    (A_has_waited : ∃ f fd, At K mg "has_waited" (top 9) ["brief", "table", "happened", "task"] f fd)
    (A_stays : ∃ f fd, At K mg "stays" (top 10) ["brief", "table", "situation"] f fd)
    (A_may_begin : ∃ f fd, At K mg "may_begin" (top 11) ["brief", "table", "moment", "happened", "task"] f fd)
    (A_with_begins : ∃ f fd, At K mg "with_begins" (top 12) ["brief", "table", "moment", "happened"] f fd)
    (A_opening : ∃ f fd, At K mg "opening" (top 13) ["brief", "table"] f fd)
    (A_followed : ∃ f fd, At K mg "followed" (top 14) ["brief", "table", "situation", "tick"] f fd)
    (A_lines_in : ∃ f fd, At K mg "lines_in" (top 16) ["line"] f fd)
    (A_renumbered : ∃ f fd, At K mg "renumbered" (top 17) ["line", "places"] f fd)
    (A_lines_up_to : ∃ f fd, At K mg "lines_up_to" (top 18) ["lines", "last"] f fd)
    (A_find_table : ∃ f fd, At K mg "find_table" (top 20) ["brief"] f fd)
    (A_present_times : ∃ f fd, At K mg "present_times" (top 22) ["situation", "task", "low", "high"] f fd)
    (A_present_brief : ∃ f fd, At K mg "present_brief" (top 23) ["brief", "situation"] f fd)
    (A_can_go_on : ∃ f fd, At K mg "can_go_on" (top 24) ["brief", "situation"] f fd)
    (A_is_fair : ∃ f fd, At K mg "is_fair" (top 25) ["brief", "situation"] f fd)
    (A_breaks : ∃ f fd, At K mg "breaks" (top 26) ["situation", "line"] f fd)
    (A_find_breach : ∃ f fd, At K mg "find_breach" (top 27) ["brief", "situation"] f fd)
    (A_law_owner_l : ∃ f fd, At K mg "_law_owner" (top 35) ["_law_event"] f fd)
    (A_law_is_end_l : ∃ f fd, At K mg "_law_is_end" (top 36) ["_law_event"] f fd)
    (A_law_spread_l : ∃ f fd, At K mg "_law_spread" (top 30) ["_law_cell", "_law_at"] f fd)
    (A_law_take_l : ∃ f fd, At K mg "_law_take" (top 31) ["_law_pen", "_law_amount"] f fd)
    (A_law_one_of_l : ∃ f fd, At K mg "_law_one_of" (top 33) ["_law_pen", "_law_some"] f fd)
    (A_law_open_l : ∃ f fd, At K mg "_law_open" (top 29) ["_law_script"] f fd)
    (A_law_same_l : ∃ f fd, At K mg "_law_same" (top 32) ["_law_found", "_law_due"] f fd)
    (A_law_between_l : ∃ f fd, At K mg "_law_between" (top 34) ["_law_value", "_law_low", "_law_high"] f fd)
    (A_law_bounds_l : ∃ f fd, At K mg "_law_bounds" (top 37) ["_law_brief"] f fd)
    (A_law_breaks_l : ∃ f fd, At K mg "_law_breaks" (top 49) ["_law_situation", "_law_line"] f fd)
    (A_law_gives_alone_l : ∃ f fd, At K mg "_law_gives_alone" (top 38) ["_law_brief", "_law_word", "_law_k"] f fd)
    (A_law_gives_l : ∃ f fd, At K mg "_law_gives" (top 39) ["_law_brief", "_law_earlier", "_law_many", "_law_reason"] f fd)
    (A_law_are_lines_l : ∃ f fd, At K mg "_law_are_lines" (top 40) ["_law_brief", "_law_value"] f fd)
    (A_law_is_breach_l : ∃ f fd, At K mg "_law_is_breach" (top 50) ["_law_brief", "_law_situation", "_law_value"] f fd)
    (A_law_draw_project_l : ∃ f fd, At K mg "_law_draw_project" (top 41) ["_law_pen", "_law_many", "_law_low_most", "_law_wide"] f fd)
    (A_law_draw_nominal_l : ∃ f fd, At K mg "_law_draw_nominal" (top 42) ["_law_pen", "_law_project"] f fd)
    (A_law_draw_limits_l : ∃ f fd, At K mg "_law_draw_limits" (top 43) ["_law_pen", "_law_moments", "_law_most", "_law_loose"] f fd)
    (A_law_draw_brief_l : ∃ f fd, At K mg "_law_draw_brief" (top 44) ["_law_pen", "_law_many", "_law_low_most", "_law_wide", "_law_most"] f fd)
    (A_law_stays_l : ∃ f fd, At K mg "_law_stays" (top 45) ["_law_brief", "_law_table", "_law_situation"] f fd)
    (A_law_draw_ends_l : ∃ f fd, At K mg "_law_draw_ends" (top 46) ["_law_pen", "_law_tasks", "_law_t", "_law_happened"] f fd)
    (A_law_reordered_l : ∃ f fd, At K mg "_law_reordered" (top 47) ["_law_pen", "_law_happened"] f fd)
    (A_law_draw_situation_l : ∃ f fd, At K mg "_law_draw_situation" (top 48) ["_law_pen", "_law_tasks", "_law_rounds", "_law_rare"] f fd)
    (A_law_draw_there_l : ∃ f fd, At K mg "_law_draw_there" (top 51) ["_law_pen", "_law_brief", "_law_table"] f fd)
    (AL : At K mg "law" (top 52) ["_law_script"] fa fdl) : FnG P w K mg base 8 fa fdl ["_law_script"] (spLaw K) := by
  obtain ⟨_, _, A_begin_of⟩ := A_begin_of
  obtain ⟨_, _, A_end_of⟩ := A_end_of
  obtain ⟨_, _, A_is_end⟩ := A_is_end
  obtain ⟨_, _, A_owner_of⟩ := A_owner_of
  obtain ⟨_, _, A_all_bounds⟩ := A_all_bounds
  obtain ⟨_, _, M_offer_most⟩ := M_offer_most
  obtain ⟨_, _, M_offer_wait⟩ := M_offer_wait
  obtain ⟨_, _, M_add_up⟩ := M_add_up
  obtain ⟨_, _, M_use_most⟩ := M_use_most
  obtain ⟨_, _, M_use_wait⟩ := M_use_wait
  obtain ⟨_, _, M_close_once⟩ := M_close_once
  obtain ⟨_, _, M_init__⟩ := M_init__
  obtain ⟨_, _, M_table⟩ := M_table
  obtain ⟨_, _, A_has_waited⟩ := A_has_waited
  obtain ⟨_, _, A_stays⟩ := A_stays
  obtain ⟨_, _, A_may_begin⟩ := A_may_begin
  obtain ⟨_, _, A_with_begins⟩ := A_with_begins
  obtain ⟨_, _, A_opening⟩ := A_opening
  obtain ⟨_, _, A_followed⟩ := A_followed
  obtain ⟨_, _, A_lines_in⟩ := A_lines_in
  obtain ⟨_, _, A_renumbered⟩ := A_renumbered
  obtain ⟨_, _, A_lines_up_to⟩ := A_lines_up_to
  obtain ⟨_, _, A_find_table⟩ := A_find_table
  obtain ⟨_, _, A_present_times⟩ := A_present_times
  obtain ⟨_, _, A_present_brief⟩ := A_present_brief
  obtain ⟨_, _, A_can_go_on⟩ := A_can_go_on
  obtain ⟨_, _, A_is_fair⟩ := A_is_fair
  obtain ⟨_, _, A_breaks⟩ := A_breaks
  obtain ⟨_, _, A_find_breach⟩ := A_find_breach
  obtain ⟨_, _, A_law_owner_l⟩ := A_law_owner_l
  obtain ⟨_, _, A_law_is_end_l⟩ := A_law_is_end_l
  obtain ⟨_, _, A_law_spread_l⟩ := A_law_spread_l
  obtain ⟨_, _, A_law_take_l⟩ := A_law_take_l
  obtain ⟨_, _, A_law_one_of_l⟩ := A_law_one_of_l
  obtain ⟨_, _, A_law_open_l⟩ := A_law_open_l
  obtain ⟨_, _, A_law_same_l⟩ := A_law_same_l
  obtain ⟨_, _, A_law_between_l⟩ := A_law_between_l
  obtain ⟨_, _, A_law_bounds_l⟩ := A_law_bounds_l
  obtain ⟨_, _, A_law_breaks_l⟩ := A_law_breaks_l
  obtain ⟨_, _, A_law_gives_alone_l⟩ := A_law_gives_alone_l
  obtain ⟨_, _, A_law_gives_l⟩ := A_law_gives_l
  obtain ⟨_, _, A_law_are_lines_l⟩ := A_law_are_lines_l
  obtain ⟨_, _, A_law_is_breach_l⟩ := A_law_is_breach_l
  obtain ⟨_, _, A_law_draw_project_l⟩ := A_law_draw_project_l
  obtain ⟨_, _, A_law_draw_nominal_l⟩ := A_law_draw_nominal_l
  obtain ⟨_, _, A_law_draw_limits_l⟩ := A_law_draw_limits_l
  obtain ⟨_, _, A_law_draw_brief_l⟩ := A_law_draw_brief_l
  obtain ⟨_, _, A_law_stays_l⟩ := A_law_stays_l
  obtain ⟨_, _, A_law_draw_ends_l⟩ := A_law_draw_ends_l
  obtain ⟨_, _, A_law_reordered_l⟩ := A_law_reordered_l
  obtain ⟨_, _, A_law_draw_situation_l⟩ := A_law_draw_situation_l
  obtain ⟨_, _, A_law_draw_there_l⟩ := A_law_draw_there_l
  have D_begin_of := k_begin_of (P := P) (w := w) (base := base) A_begin_of
  have D_end_of := k_end_of (P := P) (w := w) (base := base) A_end_of
  have D_is_end := k_is_end (P := P) (w := w) (base := base) A_is_end
  have D_owner_of := k_owner_of (P := P) (w := w) (base := base) A_owner_of
  have D_all_bounds := k_all_bounds (P := P) (w := w) (base := base) A_all_bounds bi D_begin_of D_end_of
  have D_offer_most := k_offer_most (P := P) (w := w) (base := base) M_offer_most bi T
  have D_offer_wait := k_offer_wait (P := P) (w := w) (base := base) M_offer_wait bi T
  have D_add_up := k_add_up (P := P) (w := w) (base := base) M_add_up bi T D_offer_most
  have D_use_most := k_use_most (P := P) (w := w) (base := base) M_use_most bi T D_begin_of D_is_end D_owner_of D_offer_most
  have D_use_wait := k_use_wait (P := P) (w := w) (base := base) M_use_wait bi T D_begin_of D_end_of D_is_end D_owner_of D_offer_most D_offer_wait
  have D_close_once := k_close_once (P := P) (w := w) (base := base) M_close_once bi T D_use_wait D_use_most D_add_up
  have D_init := k_init (P := P) (w := w) (base := base) M_init__ bi T D_all_bounds D_end_of D_offer_most D_offer_wait D_close_once
  have D_table := k_table (P := P) (w := w) (base := base) M_table bi T D_end_of
  have D_has_waited := k_has_waited (P := P) (w := w) (base := base) A_has_waited bi D_begin_of D_end_of
  have D_stays := k_stays (P := P) (w := w) (base := base) A_stays bi D_begin_of D_has_waited
  have D_may_begin := k_may_begin (P := P) (w := w) (base := base) A_may_begin bi D_begin_of D_is_end D_has_waited
  have D_with_begins := k_with_begins (P := P) (w := w) (base := base) A_with_begins bi D_begin_of D_may_begin
  have D_opening := k_opening (P := P) (w := w) (base := base) A_opening bi D_with_begins
  have D_followed := k_followed (P := P) (w := w) (base := base) A_followed bi D_end_of D_with_begins
  have D_lines_in := k_lines_in (P := P) (w := w) (base := base) A_lines_in bi
  have D_renumbered := k_renumbered (P := P) (w := w) (base := base) A_renumbered bi D_lines_in
  have D_lines_up_to := k_lines_up_to (P := P) (w := w) (base := base) A_lines_up_to bi D_lines_in D_renumbered
  have D_find_table := k_find_table (P := P) (w := w) (base := base) A_find_table bi T mk mgC D_init D_table
  have D_present_times := k_present_times (P := P) (w := w) (base := base) A_present_times bi D_begin_of D_end_of
  have D_present_brief := k_present_brief (P := P) (w := w) (base := base) A_present_brief bi D_begin_of D_present_times
  have D_can_go_on := k_can_go_on (P := P) (w := w) (base := base) A_can_go_on D_find_table D_present_brief
  have D_is_fair := k_is_fair (P := P) (w := w) (base := base) A_is_fair D_find_table D_stays
  have D_breaks := k_breaks (P := P) (w := w) (base := base) A_breaks D_begin_of D_end_of
  have D_find_breach := k_find_breach (P := P) (w := w) (base := base) A_find_breach bi T mk mgC D_init D_lines_up_to D_breaks
  have D_law_owner := k__law_owner (P := P) (w := w) (base := base) A_law_owner_l
  have D_law_is_end := k__law_is_end (P := P) (w := w) (base := base) A_law_is_end_l D_law_owner
  have D_law_spread := k__law_spread (P := P) (w := w) (base := base) A_law_spread_l bi
  have D_law_take := k__law_take (P := P) (w := w) (base := base) A_law_take_l bi D_law_spread
  have D_law_one_of := k__law_one_of (P := P) (w := w) (base := base) A_law_one_of_l bi D_law_take
  have D_law_open := k__law_open (P := P) (w := w) (base := base) A_law_open_l bi
  have D_law_same0 := k__law_same0 (P := P) (w := w) (base := base) A_law_same_l
  have D_law_same1 := k__law_same1 (P := P) (w := w) (base := base) A_law_same_l bi D_law_same0
  have D_law_same2 := k__law_same2 (P := P) (w := w) (base := base) A_law_same_l bi D_law_same1
  have D_law_between := k__law_between (P := P) (w := w) (base := base) A_law_between_l bi
  have D_law_bounds := k__law_bounds (P := P) (w := w) (base := base) A_law_bounds_l bi
  have D_law_breaks := k__law_breaks (P := P) (w := w) (base := base) A_law_breaks_l
  have D_law_gives_alone := k__law_gives_alone (P := P) (w := w) (base := base) A_law_gives_alone_l bi D_law_between D_law_bounds
  have D_law_gives := k__law_gives (P := P) (w := w) (base := base) A_law_gives_l bi D_law_between D_law_gives_alone D_law_owner D_law_is_end
  have D_law_are_lines := k__law_are_lines (P := P) (w := w) (base := base) A_law_are_lines_l bi D_law_gives D_law_same2
  have D_law_is_breach := k__law_is_breach (P := P) (w := w) (base := base) A_law_is_breach_l D_law_are_lines D_law_breaks
  have D_law_draw_project := k__law_draw_project (P := P) (w := w) (base := base) A_law_draw_project_l bi D_law_take D_law_one_of
  have D_law_draw_nominal := k__law_draw_nominal (P := P) (w := w) (base := base) A_law_draw_nominal_l bi D_law_take D_law_one_of
  have D_law_draw_limits := k__law_draw_limits (P := P) (w := w) (base := base) A_law_draw_limits_l bi D_law_take D_law_one_of
  have D_law_draw_brief := k__law_draw_brief (P := P) (w := w) (base := base) A_law_draw_brief_l bi D_law_one_of D_law_draw_project D_law_draw_nominal D_law_draw_limits
  have D_law_stays := k__law_stays (P := P) (w := w) (base := base) A_law_stays_l bi
  have D_law_draw_ends := k__law_draw_ends (P := P) (w := w) (base := base) A_law_draw_ends_l bi D_law_take
  have D_law_reordered := k__law_reordered (P := P) (w := w) (base := base) A_law_reordered_l bi D_law_one_of
  have D_law_draw_situation := k__law_draw_situation (P := P) (w := w) (base := base) A_law_draw_situation_l bi D_law_take D_law_draw_ends D_law_reordered
  have D_law_draw_there := k__law_draw_there (P := P) (w := w) (base := base) A_law_draw_there_l bi D_law_take D_law_one_of D_law_owner D_opening D_followed D_law_draw_ends D_law_reordered
  exact k_law AL bi D_law_open D_law_take D_law_one_of D_law_draw_brief D_law_draw_situation D_find_table D_law_draw_there D_is_fair D_find_breach D_law_stays D_law_same1 D_law_is_breach D_can_go_on
end
end Wk
open PySem PySem.W PyProof.Rows
set_option maxRecDepth 100000 in
set_option maxHeartbeats 0 in
theorem PySem.Challenge.cw_anycritical_k95_whole_fair_or_breach_holds : PySem.Challenge.rw_anycritical_k95_whole_fair_or_breach.Holds := by
  w_on; o_law; k_head; (case hw => w_witness2)
  k_fill
  refine Wk.walkG (l := PySem.Challenge.rw_anycritical_k95_whole_fair_or_breach) (n := 63) (k := 8) (x := "_law_script") (sp := Wk.spLaw) rfl (by decide) rfl ⟨rfl, by decide, by decide⟩ (fun w h Y => PySem.W.kIn_of Y) ?F (fun K H a ns hl _ hS => ⟨a, ns, rfl, hS, hl, fun _ => rfl⟩)
  case F =>
    intro w mg fa h KX G hmg
    refine' Wk.w_bi KX G ?z0 ?z1 ?z2 ?z3 ?z4 ?z5 ?z6 ?z7 ?z8 ?z9 ?z10 ?z11 ?z12 ?z13 ?z14 ?z15 ?z16 fun bi => ?_
    (case z0 => k_is)
    (case z1 => k_is)
    (case z2 => k_is)
    (case z3 => k_is)
    (case z4 => k_is)
    (case z5 => k_is)
    (case z6 => k_is)
    (case z7 => k_is)
    (case z8 => k_is)
    (case z9 => k_is)
    (case z10 => k_is)
    (case z11 => k_is)
    (case z12 => k_is)
    (case z13 => k_is)
    (case z14 => k_is)
    (case z15 => k_is)
    (case z16 => k_is)
    refine' Wk.w_A_begin_of KX G ?a ?l ?c ?k fun A_begin_of => ?_
    (case a => k_is)
    (case l => k_is)
    (case c => k_is)
    (case k => k_is)
    refine' Wk.w_A_end_of KX G ?a ?l ?c ?k fun A_end_of => ?_
    (case a => k_is)
    (case l => k_is)
    (case c => k_is)
    (case k => k_is)
    refine' Wk.w_A_is_end KX G ?a ?l ?c ?k fun A_is_end => ?_
    (case a => k_is)
    (case l => k_is)
    (case c => k_is)
    (case k => k_is)
    refine' Wk.w_A_owner_of KX G ?a ?l ?c ?k fun A_owner_of => ?_
    (case a => k_is)
    (case l => k_is)
    (case c => k_is)
    (case k => k_is)
    refine' Wk.w_A_all_bounds KX G ?a ?l ?c ?k fun A_all_bounds => ?_
    (case a => k_is)
    (case l => k_is)
    (case c => k_is)
    (case k => k_is)
    refine' Wk.w_A_has_waited KX G ?a ?l ?c ?k fun A_has_waited => ?_
    (case a => k_is)
    (case l => k_is)
    (case c => k_is)
    (case k => k_is)
    refine' Wk.w_A_stays KX G ?a ?l ?c ?k fun A_stays => ?_
    (case a => k_is)
    (case l => k_is)
    (case c => k_is)
    (case k => k_is)
    refine' Wk.w_A_may_begin KX G ?a ?l ?c ?k fun A_may_begin => ?_
    (case a => k_is)
    (case l => k_is)
    (case c => k_is)
    (case k => k_is)
    refine' Wk.w_A_with_begins KX G ?a ?l ?c ?k fun A_with_begins => ?_
    (case a => k_is)
    (case l => k_is)
    (case c => k_is)
    (case k => k_is)
    refine' Wk.w_A_opening KX G ?a ?l ?c ?k fun A_opening => ?_
    (case a => k_is)
    (case l => k_is)
    (case c => k_is)
    (case k => k_is)
    refine' Wk.w_A_followed KX G ?a ?l ?c ?k fun A_followed => ?_
    (case a => k_is)
    (case l => k_is)
    (case c => k_is)
    (case k => k_is)
    refine' Wk.w_A_lines_in KX G ?a ?l ?c ?k fun A_lines_in => ?_
    (case a => k_is)
    (case l => k_is)
    (case c => k_is)
    (case k => k_is)
    refine' Wk.w_A_renumbered KX G ?a ?l ?c ?k fun A_renumbered => ?_
    (case a => k_is)
    (case l => k_is)
    (case c => k_is)
    (case k => k_is)
    refine' Wk.w_A_lines_up_to KX G ?a ?l ?c ?k fun A_lines_up_to => ?_
    (case a => k_is)
    (case l => k_is)
    (case c => k_is)
    (case k => k_is)
    refine' Wk.w_A_find_table KX G ?a ?l ?c ?k fun A_find_table => ?_
    (case a => k_is)
    (case l => k_is)
    (case c => k_is)
    (case k => k_is)
    refine' Wk.w_A_present_times KX G ?a ?l ?c ?k fun A_present_times => ?_
    (case a => k_is)
    (case l => k_is)
    (case c => k_is)
    (case k => k_is)
    refine' Wk.w_A_present_brief KX G ?a ?l ?c ?k fun A_present_brief => ?_
    (case a => k_is)
    (case l => k_is)
    (case c => k_is)
    (case k => k_is)
    refine' Wk.w_A_can_go_on KX G ?a ?l ?c ?k fun A_can_go_on => ?_
    (case a => k_is)
    (case l => k_is)
    (case c => k_is)
    (case k => k_is)
    refine' Wk.w_A_is_fair KX G ?a ?l ?c ?k fun A_is_fair => ?_
    (case a => k_is)
    (case l => k_is)
    (case c => k_is)
    (case k => k_is)
    refine' Wk.w_A_breaks KX G ?a ?l ?c ?k fun A_breaks => ?_
    (case a => k_is)
    (case l => k_is)
    (case c => k_is)
    (case k => k_is)
    refine' Wk.w_A_find_breach KX G ?a ?l ?c ?k fun A_find_breach => ?_
    (case a => k_is)
    (case l => k_is)
    (case c => k_is)
    (case k => k_is)
    refine' Wk.w_A_law_owner_l KX G ?a ?l ?c ?k fun A_law_owner_l => ?_
    (case a => k_is)
    (case l => k_is)
    (case c => k_is)
    (case k => k_is)
    refine' Wk.w_A_law_is_end_l KX G ?a ?l ?c ?k fun A_law_is_end_l => ?_
    (case a => k_is)
    (case l => k_is)
    (case c => k_is)
    (case k => k_is)
    refine' Wk.w_A_law_spread_l KX G ?a ?l ?c ?k fun A_law_spread_l => ?_
    (case a => k_is)
    (case l => k_is)
    (case c => k_is)
    (case k => k_is)
    refine' Wk.w_A_law_take_l KX G ?a ?l ?c ?k fun A_law_take_l => ?_
    (case a => k_is)
    (case l => k_is)
    (case c => k_is)
    (case k => k_is)
    refine' Wk.w_A_law_one_of_l KX G ?a ?l ?c ?k fun A_law_one_of_l => ?_
    (case a => k_is)
    (case l => k_is)
    (case c => k_is)
    (case k => k_is)
    refine' Wk.w_A_law_open_l KX G ?a ?l ?c ?k fun A_law_open_l => ?_
    (case a => k_is)
    (case l => k_is)
    (case c => k_is)
    (case k => k_is)
    refine' Wk.w_A_law_same_l KX G ?a ?l ?c ?k fun A_law_same_l => ?_
    (case a => k_is)
    (case l => k_is)
    (case c => k_is)
    (case k => k_is)
    refine' Wk.w_A_law_between_l KX G ?a ?l ?c ?k fun A_law_between_l => ?_
    (case a => k_is)
    (case l => k_is)
    (case c => k_is)
    (case k => k_is)
    refine' Wk.w_A_law_bounds_l KX G ?a ?l ?c ?k fun A_law_bounds_l => ?_
    (case a => k_is)
    (case l => k_is)
    (case c => k_is)
    (case k => k_is)
    refine' Wk.w_A_law_breaks_l KX G ?a ?l ?c ?k fun A_law_breaks_l => ?_
    (case a => k_is)
    (case l => k_is)
    (case c => k_is)
    (case k => k_is)
    refine' Wk.w_A_law_gives_alone_l KX G ?a ?l ?c ?k fun A_law_gives_alone_l => ?_
    (case a => k_is)
    (case l => k_is)
    (case c => k_is)
    (case k => k_is)
    refine' Wk.w_A_law_gives_l KX G ?a ?l ?c ?k fun A_law_gives_l => ?_
    (case a => k_is)
    (case l => k_is)
    (case c => k_is)
    (case k => k_is)
    refine' Wk.w_A_law_are_lines_l KX G ?a ?l ?c ?k fun A_law_are_lines_l => ?_
    (case a => k_is)
    (case l => k_is)
    (case c => k_is)
    (case k => k_is)
    refine' Wk.w_A_law_is_breach_l KX G ?a ?l ?c ?k fun A_law_is_breach_l => ?_
    (case a => k_is)
    (case l => k_is)
    (case c => k_is)
    (case k => k_is)
    refine' Wk.w_A_law_draw_project_l KX G ?a ?l ?c ?k fun A_law_draw_project_l => ?_
    (case a => k_is)
    (case l => k_is)
    (case c => k_is)
    (case k => k_is)
    refine' Wk.w_A_law_draw_nominal_l KX G ?a ?l ?c ?k fun A_law_draw_nominal_l => ?_
    (case a => k_is)
    (case l => k_is)
    (case c => k_is)
    (case k => k_is)
    refine' Wk.w_A_law_draw_limits_l KX G ?a ?l ?c ?k fun A_law_draw_limits_l => ?_
    (case a => k_is)
    (case l => k_is)
    (case c => k_is)
    (case k => k_is)
    refine' Wk.w_A_law_draw_brief_l KX G ?a ?l ?c ?k fun A_law_draw_brief_l => ?_
    (case a => k_is)
    (case l => k_is)
    (case c => k_is)
    (case k => k_is)
    refine' Wk.w_A_law_stays_l KX G ?a ?l ?c ?k fun A_law_stays_l => ?_
    (case a => k_is)
    (case l => k_is)
    (case c => k_is)
    (case k => k_is)
    refine' Wk.w_A_law_draw_ends_l KX G ?a ?l ?c ?k fun A_law_draw_ends_l => ?_
    (case a => k_is)
    (case l => k_is)
    (case c => k_is)
    (case k => k_is)
    refine' Wk.w_A_law_reordered_l KX G ?a ?l ?c ?k fun A_law_reordered_l => ?_
    (case a => k_is)
    (case l => k_is)
    (case c => k_is)
    (case k => k_is)
    refine' Wk.w_A_law_draw_situation_l KX G ?a ?l ?c ?k fun A_law_draw_situation_l => ?_
    (case a => k_is)
    (case l => k_is)
    (case c => k_is)
    (case k => k_is)
    refine' Wk.w_A_law_draw_there_l KX G ?a ?l ?c ?k fun A_law_draw_there_l => ?_
    (case a => k_is)
    (case l => k_is)
    (case c => k_is)
    (case k => k_is)
    refine' Wk.w_cl KX G ?aC ?pg ?hd ?po ?sa ?n0 ?n1 ?n2 ?n3 ?n4 ?n5 ?mk ?kc ?a0 ?i0 ?l0 ?c0 ?k0 ?a1 ?i1 ?l1 ?c1 ?k1 ?a2 ?i2 ?l2 ?c2 ?k2 ?a3 ?i3 ?l3 ?c3 ?k3 ?a4 ?i4 ?l4 ?c4 ?k4 ?a5 ?i5 ?l5 ?c5 ?k5 ?a6 ?i6 ?l6 ?c6 ?k6 ?a7 ?i7 ?l7 ?c7 ?k7 fun C T mk mgC M_offer_most M_offer_wait M_add_up M_use_most M_use_wait M_close_once M_init__ M_table => ?_
    (case aC => k_is)
    (case pg => k_is)
    (case hd => k_is)
    (case po => k_is)
    (case sa => k_is)
    (case n0 => k_is)
    (case n1 => k_is)
    (case n2 => k_is)
    (case n3 => k_is)
    (case n4 => k_is)
    (case n5 => k_is)
    (case mk => k_is)
    (case kc => k_is)
    (case a0 => k_is)
    (case i0 => k_is)
    (case l0 => k_is)
    (case c0 => k_is)
    (case k0 => k_is)
    (case a1 => k_is)
    (case i1 => k_is)
    (case l1 => k_is)
    (case c1 => k_is)
    (case k1 => k_is)
    (case a2 => k_is)
    (case i2 => k_is)
    (case l2 => k_is)
    (case c2 => k_is)
    (case k2 => k_is)
    (case a3 => k_is)
    (case i3 => k_is)
    (case l3 => k_is)
    (case c3 => k_is)
    (case k3 => k_is)
    (case a4 => k_is)
    (case i4 => k_is)
    (case l4 => k_is)
    (case c4 => k_is)
    (case k4 => k_is)
    (case a5 => k_is)
    (case i5 => k_is)
    (case l5 => k_is)
    (case c5 => k_is)
    (case k5 => k_is)
    (case a6 => k_is)
    (case i6 => k_is)
    (case l6 => k_is)
    (case c6 => k_is)
    (case k6 => k_is)
    (case a7 => k_is)
    (case i7 => k_is)
    (case l7 => k_is)
    (case c7 => k_is)
    (case k7 => k_is)
    refine' Wk.w_law KX G hmg ?a ?l ?c ?k fun fd hb AL => ?_
    (case a => k_is)
    (case l => k_is)
    (case c => k_is)
    (case k => k_is)
    exact ⟨fd, hb, fun base _ _ => Wk.chain bi T mk mgC A_begin_of A_end_of A_is_end A_owner_of A_all_bounds M_offer_most M_offer_wait M_add_up M_use_most M_use_wait M_close_once M_init__ M_table A_has_waited A_stays A_may_begin A_with_begins A_opening A_followed A_lines_in A_renumbered A_lines_up_to A_find_table A_present_times A_present_brief A_can_go_on A_is_fair A_breaks A_find_breach A_law_owner_l A_law_is_end_l A_law_spread_l A_law_take_l A_law_one_of_l A_law_open_l A_law_same_l A_law_between_l A_law_bounds_l A_law_breaks_l A_law_gives_alone_l A_law_gives_l A_law_are_lines_l A_law_is_breach_l A_law_draw_project_l A_law_draw_nominal_l A_law_draw_limits_l A_law_draw_brief_l A_law_stays_l A_law_draw_ends_l A_law_reordered_l A_law_draw_situation_l A_law_draw_there_l AL⟩
