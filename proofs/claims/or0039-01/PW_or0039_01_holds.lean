import PyProof.Rows.All
import Wide.All
import OpenK.AllK
import Wide.FinOn
import PySem.Challenge.RW_or0039_01
open PySem PySem.W PyProof.Rows PySem.NumText
set_option Elab.async false
set_option rowWalk.seconds 0
set_option maxRecDepth 100000
set_option maxHeartbeats 8000000
set_option linter.all false
namespace Mine
/-- the law's text without the four statements that bind no name the walk asks for -/
noncomputable def kept (l : List Stmt) : List Stmt := (l.drop 1).take 3 ++ ((l.drop 5).take 1 ++ ((l.drop 7).take 11 ++ l.drop 19))
noncomputable def seenText : Program := { PySem.Challenge.pw_or0039_01 with main := { PySem.Challenge.pw_or0039_01.main with body := kept PySem.Challenge.pw_or0039_01.main.body } }
theorem well_said : PySem.Challenge.rw_or0039_01.wellSaid = true := by
  unfold OpenLaw.wellSaid
  repeat' (with_reducible refine look_both ?_ ?_)
  all_goals (first | (unfold OpenRow.wellSaid; repeat' (with_reducible refine look_both ?_ ?_)) | skip)
  all_goals (first | (unfold OpenRow.partSaid; repeat' (with_reducible refine look_both ?_ ?_)) | skip)
  all_goals decide +kernel
theorem row_head {d : DefRec} {kwd : List (Str × Expr)} (H : Hook)
    (left : LeftO PySem.Challenge.rw_or0039_01.row.prog seenText [Str.ofString "PostError"] (fun s => xlAt seenText [] s && recOk (RowW.records (OpenRow.toRowW PySem.Challenge.rw_or0039_01.row)) s) H.obs H.val 3696)
    (hdef : defOf seenText PySem.Challenge.rw_or0039_01.row.name = some (d, kwd))
    (hp : PySem.Challenge.rw_or0039_01.row.prog.theDef PySem.Challenge.rw_or0039_01.row.name = some (d.params, d.body, d.scope))
    (hk : kwWritten? d.params.kwonlyargs d.params.kw_defaults = some kwd)
    (hw : PySem.Challenge.rw_or0039_01.row.toRowW.promised)
    (call : WalkO seenText [Str.ofString "PostError"] (XL seenText []) H.says PySem.Challenge.rw_or0039_01.row.toRowW d kwd fun f vs => PySem.call f vs) :
    PySem.Challenge.rw_or0039_01.row.Holds :=
  holds_open (Xt := fun s => xlAt seenText [] s && recOk (RowW.records (OpenRow.toRowW PySem.Challenge.rw_or0039_01.row)) s) (XP := XL seenText []) (Yf := H.obs) (Ya := H.val) (YP := H.says) (N := 3696) left H.of H.keeps (fun s e => xl_of s (Bool.and_eq_true_iff.mp e).1) XL.keeps hdef hp hk (fun s e => recFacts_of (Bool.and_eq_true_iff.mp e).2) (by rfl) (row_said well_said) (by decide +kernel) ⟨rfl, rfl, rfl, rfl, rfl, by decide +kernel⟩ hw call
local macro_rules | `(tactic| o_law) => `(tactic| refine holds_law Mine.well_said fun _ => ?_)
local macro_rules | `(tactic| o_head $H) => do
  let (hw, hc) := (Lean.mkIdent `hw, Lean.mkIdent `hc)
  `(tactic| (refine row_head $H (by intro w; kernel_rfl) (by rfl) (by rfl) (by rfl) ?$hw ?$hc))
open_top hd for PySem.Challenge.rw_or0039_01
theorem top_off : True := by
  (w_top off)
  trivial
local macro_rules | `(tactic| k_qdec) => `(tactic| decide +kernel)
local macro_rules | `(tactic| walk_at $s:str) => `(tactic| k_extra $s)
/-- rose trees, first child and next sibling -/
inductive F where
  | nil
  | cons (n : Int) (k r : F)

noncomputable def F.size : F → Nat
  | .nil => 0
  | .cons _ k r => k.size + r.size + 1
noncomputable def F.len : F → Nat
  | .nil => 0
  | .cons _ _ r => r.len + 1
noncomputable def F.app : F → F → F
  | .nil, g => g
  | .cons n k r, g => .cons n k (r.app g)
theorem F.len_le : ∀ f : F, f.len ≤ f.size
  | .nil => Nat.le_refl _
  | .cons _ k r => by have := F.len_le r; simp only [F.len, F.size]; (first | lia | omega)
theorem F.app_nil : ∀ f : F, f.app .nil = f
  | .nil => rfl
  | .cons n k r => by rw [F.app, F.app_nil r]
theorem F.app_assoc : ∀ f g h : F, (f.app g).app h = f.app (g.app h)
  | .nil, _, _ => rfl
  | .cons n k r, g, h => by simp only [F.app, F.app_assoc r]
theorem F.len_zero {f : F} (h : f.len = 0) : f = .nil := by cases f with | nil => rfl | cons n k r => simp [F.len] at h
theorem F.len_one {f : F} (h : f.len = 1) : ∃ n k, f = .cons n k .nil := by
  cases f with
  | nil => simp [F.len] at h
  | cons n k r =>
    have : r.len = 0 := by simpa [F.len] using h
    rw [F.len_zero this]; exact ⟨n, k, rfl⟩

/-! numbers -/
noncomputable def isD (c : Nat) : Bool := decide (48 ≤ c) && decide (c ≤ 57)
noncomputable def dg (n : Nat) : List Nat := if n < 10 then [48 + n] else dg (n / 10) ++ [48 + n % 10]
noncomputable def digs (n : Int) : List Nat := if 0 < n then dg n.toNat else []

noncomputable def num (t : List Nat) : Option (Int × List Nat) :=
  if t.takeWhile isD = [] ∨ t.head? = some 48 ∨ 20 < (t.takeWhile isD).length then none
  else some (((digitsVal (t.takeWhile isD) : Nat) : Int), t.dropWhile isD)

/-! the printed text -/
mutual
noncomputable def inside : Int → F → List Nat
  | n, .nil => digs n
  | n, .cons m k .nil => digs n ++ 32 :: inside m k
  | n, .cons m k (.cons m2 k2 r) => digs n ++ ((if 0 < n then [32] else []) ++ 40 :: (inside m k ++ 41 :: lists (.cons m2 k2 r)))
noncomputable def lists : F → List Nat
  | .nil => []
  | .cons m k r => 40 :: (inside m k ++ 41 :: lists r)
end

/-! the law's reader -/
noncomputable def nums : Nat → List Nat → Option (List Int × List Nat)
  | 0, _ => none
  | f + 1, t => match num t with
    | none => none
    | some (v, r) => match r with
      | 32 :: r' => if r'.head? = some 40 then some ([v], r') else (nums f r').map fun p => (v :: p.1, p.2)
      | 41 :: _ => some ([v], r)
      | _ => none

noncomputable def chainF : List Int → F → F → F
  | [], ks, r => .cons 0 ks r
  | [a], ks, r => .cons a ks r
  | a :: b :: l, ks, r => .cons a (chainF (b :: l) ks .nil) r

/-- one bracket: the tree as a forest of one, and what is behind -/
noncomputable def one (fo : List Nat → Option (F × List Nat)) (nu : List Nat → Option (List Int × List Nat)) : List Nat → Option (F × List Nat)
  | 40 :: t1 => (if t1.head? = some 40 then some ([], t1) else nu t1).bind fun p =>
      (fo p.2).bind fun q => match q.2 with
        | 41 :: t4 => if q.1.len = 1 ∨ (p.1 = [] ∧ q.1.len = 0) then none else some (chainF p.1 q.1 .nil, t4)
        | _ => none
  | _ => none

noncomputable def forest : Nat → List Nat → Option (F × List Nat)
  | 0, _ => none
  | f + 1, t => if t.head? = some 40 then
      (one (forest f) (nums f) t).bind fun p => (forest f p.2).map fun q => (p.1.app q.1, q.2)
    else some (.nil, t)

noncomputable def numsL (t : List Nat) := nums (t.length + 1) t
noncomputable def forestL (t : List Nat) := forest (t.length + 1) t
noncomputable def oneL (t : List Nat) := one forestL numsL t
noncomputable def readL (t : List Nat) : Option F := match forestL t with
  | some (f, []) => some f
  | _ => none

/-! lengths -/
theorem len_takeW (t : List Nat) : (t.takeWhile isD).length + (t.dropWhile isD).length = t.length := by
  rw [← List.length_append, List.takeWhile_append_dropWhile]
theorem num_len {t r : List Nat} {v : Int} (h : num t = some (v, r)) : r.length < t.length := by
  unfold num at h
  split at h
  · cases h
  · rename_i hn
    simp only [Option.some.injEq, Prod.mk.injEq] at h
    obtain ⟨_, rfl⟩ := h
    have h1 := len_takeW t
    have h2 : t.takeWhile isD ≠ [] := fun e => hn (.inl e)
    have h3 := List.length_pos_iff.mpr h2
    (first | lia | omega)
theorem nums_len : ∀ (f : Nat) {t r : List Nat} {ns : List Int}, nums f t = some (ns, r) → r.length < t.length
  | 0, _, _, _, h => by simp [nums] at h
  | f + 1, t, r, ns, h => by
    rw [nums] at h
    split at h
    · cases h
    · rename_i v r0 hv
      have h0 := num_len hv
      split at h
      · rename_i r'
        have h0' : r'.length + 1 < t.length := by simpa using h0
        split at h
        · simp only [Option.some.injEq, Prod.mk.injEq] at h
          obtain ⟨_, rfl⟩ := h
          (first | lia | omega)
        · obtain ⟨p, hp, he⟩ := Option.map_eq_some_iff.mp h
          simp only [Prod.mk.injEq] at he
          obtain ⟨_, rfl⟩ := he
          have := nums_len f hp
          (first | lia | omega)
      · simp only [Option.some.injEq, Prod.mk.injEq] at h
        obtain ⟨_, rfl⟩ := h
        exact h0
      · cases h
theorem nums_stable : ∀ (f g : Nat) (t : List Nat), t.length < f → t.length < g → nums f t = nums g t
  | 0, _, _, h, _ => absurd h (Nat.not_lt_zero _)
  | _, 0, _, _, h => absurd h (Nat.not_lt_zero _)
  | f + 1, g + 1, t, hf, hg => by
    rw [nums, nums]
    cases hv : num t with
    | none => rfl
    | some p =>
      obtain ⟨v, r⟩ := p
      have h0 := num_len hv
      simp only
      split
      · rename_i r'
        have h0' : r'.length + 1 < t.length := by simpa using h0
        split
        · rfl
        · rw [nums_stable f g r' (by (first | lia | omega)) (by (first | lia | omega))]
      · rfl
      · rfl
theorem one_len {fo : List Nat → Option (F × List Nat)} {nu : List Nat → Option (List Int × List Nat)}
    (hfo : ∀ {t g r}, fo t = some (g, r) → r.length ≤ t.length) (hnu : ∀ {t g r}, nu t = some (g, r) → r.length < t.length)
    {t r : List Nat} {g : F} (h : one fo nu t = some (g, r)) : r.length + 1 < t.length := by
  unfold one at h
  split at h
  · rename_i t1
    obtain ⟨p, hp, h⟩ := Option.bind_eq_some_iff.mp h
    obtain ⟨q, hq, h⟩ := Option.bind_eq_some_iff.mp h
    split at h
    · rename_i t4 he
      split at h
      · cases h
      · simp only [Option.some.injEq, Prod.mk.injEq] at h
        obtain ⟨_, rfl⟩ := h
        have h1 : p.2.length ≤ t1.length := by
          split at hp
          · simp only [Option.some.injEq] at hp; rw [← hp]; exact Nat.le_refl _
          · exact Nat.le_of_lt (hnu (g := p.1) hp)
        have h2 := hfo (g := q.1) (r := q.2) hq
        rw [he] at h2
        simp only [List.length_cons] at h2 ⊢
        (first | lia | omega)
    · cases h
  · cases h
theorem forest_len : ∀ (f : Nat) {t r : List Nat} {g : F}, forest f t = some (g, r) → r.length ≤ t.length
  | 0, _, _, _, h => by simp [forest] at h
  | f + 1, t, r, g, h => by
    rw [forest] at h
    split at h
    · obtain ⟨p, hp, h⟩ := Option.bind_eq_some_iff.mp h
      obtain ⟨q, hq, he⟩ := Option.map_eq_some_iff.mp h
      simp only [Prod.mk.injEq] at he
      obtain ⟨_, rfl⟩ := he
      have h1 := one_len (fun h => forest_len f h) (fun h => nums_len f h) (g := p.1) (r := p.2) hp
      have h2 := forest_len f (g := q.1) (r := q.2) hq
      (first | lia | omega)
    · simp only [Option.some.injEq, Prod.mk.injEq] at h
      obtain ⟨_, rfl⟩ := h
      exact Nat.le_refl _
theorem one_congr {fo fo' : List Nat → Option (F × List Nat)} {nu nu' : List Nat → Option (List Int × List Nat)} {t : List Nat}
    (hnl : ∀ {t g r}, nu t = some (g, r) → r.length < t.length)
    (hfo : ∀ u, u.length < t.length → fo u = fo' u) (hnu : ∀ u, u.length < t.length → nu u = nu' u) : one fo nu t = one fo' nu' t := by
  unfold one
  split
  · rename_i t1
    rw [← hnu t1 (by simp)]
    cases hp : (if t1.head? = some 40 then some ([], t1) else nu t1) with
    | none => rfl
    | some p =>
      have h1 : p.2.length ≤ t1.length := by
        split at hp
        · simp only [Option.some.injEq] at hp; rw [← hp]; exact Nat.le_refl _
        · exact Nat.le_of_lt (hnl (g := p.1) hp)
      simp only [Option.bind_some]
      rw [hfo p.2 (by simp only [List.length_cons]; (first | lia | omega))]
  · rfl
theorem forest_stable : ∀ (f g : Nat) (t : List Nat), t.length < f → t.length < g → forest f t = forest g t
  | 0, _, _, h, _ => absurd h (Nat.not_lt_zero _)
  | _, 0, _, _, h => absurd h (Nat.not_lt_zero _)
  | f + 1, g + 1, t, hf, hg => by
    rw [forest, forest]
    split
    · have e : one (forest f) (nums f) t = one (forest g) (nums g) t :=
        one_congr (fun h => nums_len f h) (fun u hu => forest_stable f g u (by (first | lia | omega)) (by (first | lia | omega))) fun u hu => nums_stable f g u (by (first | lia | omega)) (by (first | lia | omega))
      rw [← e]
      cases hp : one (forest f) (nums f) t with
      | none => rfl
      | some p =>
        have h1 := one_len (fun h => forest_len f h) (fun h => nums_len f h) (g := p.1) (r := p.2) hp
        simp only [Option.bind_some]
        rw [forest_stable f g p.2 (by (first | lia | omega)) (by (first | lia | omega))]
    · rfl
theorem numsL_eq (t : List Nat) : numsL t = match num t with
    | none => none
    | some (v, r) => match r with
      | 32 :: r' => if r'.head? = some 40 then some ([v], r') else (numsL r').map fun p => (v :: p.1, p.2)
      | 41 :: _ => some ([v], r)
      | _ => none := by
  unfold numsL
  rw [nums]
  cases hv : num t with
  | none => rfl
  | some p =>
    obtain ⟨v, r⟩ := p
    have h0 := num_len hv
    simp only
    split
    · rename_i r'
      have h0' : r'.length + 1 < t.length := by simpa using h0
      split
      · rfl
      · rw [nums_stable t.length (r'.length + 1) r' (by (first | lia | omega)) (by (first | lia | omega))]
    · rfl
    · rfl
theorem forestL_eq (t : List Nat) : forestL t = if t.head? = some 40 then (oneL t).bind fun p => (forestL p.2).map fun q => (p.1.app q.1, q.2) else some (.nil, t) := by
  unfold forestL
  rw [forest]
  split
  · have e : one (forest t.length) (nums t.length) t = oneL t :=
      one_congr (fun h => nums_len _ h) (fun u hu => forest_stable _ _ u (by (first | lia | omega)) (by (first | lia | omega))) fun u hu => nums_stable _ _ u (by (first | lia | omega)) (by (first | lia | omega))
    rw [e]
    cases hp : oneL t with
    | none => rfl
    | some p =>
      have h1 := one_len (fun h => forest_len _ h) (fun h => nums_len _ h) (g := p.1) (r := p.2) hp
      simp only [Option.bind_some]
      rw [forest_stable _ _ p.2 (by (first | lia | omega)) (Nat.lt_succ_self _)]
  · rfl
theorem forestL_len {t r : List Nat} {g : F} (h : forestL t = some (g, r)) : r.length ≤ t.length := forest_len _ h
theorem numsL_len {t r : List Nat} {g : List Int} (h : numsL t = some (g, r)) : r.length < t.length := nums_len _ h
theorem oneL_len {t r : List Nat} {g : F} (h : oneL t = some (g, r)) : r.length + 1 < t.length := one_len forestL_len numsL_len h

/-! the program's reader: a stack of brackets -/
noncomputable def mach : Nat → List Nat → List Int × F → List (List Int × F) → Option F
  | 0, _, _, _ => none
  | _ + 1, [], (_, inner), st => match st with
    | [] => some inner
    | _ :: _ => none
  | f + 1, c :: t, (ns, inner), st =>
    if c = 40 then mach f t ([], .nil) ((ns, inner) :: st)
    else match st with
      | [] => none
      | (ns', inner') :: st' =>
        if c = 41 then (if inner.len = 1 ∨ (ns = [] ∧ inner.len = 0) then none else mach f t (ns', inner'.app (chainF ns inner .nil)) st')
        else if inner.len ≠ 0 then none
        else if ns ≠ [] then (if c ≠ 32 then none else if t.head? = some 40 then mach f t (ns, inner) ((ns', inner') :: st') else match num t with
            | none => none
            | some (v, r) => if r.head? = some 40 then none else mach f r (ns ++ [v], inner) ((ns', inner') :: st'))
        else match num (c :: t) with
            | none => none
            | some (v, r) => if r.head? = some 40 then none else mach f r (ns ++ [v], inner) ((ns', inner') :: st')

theorem mach_stable : ∀ (f g : Nat) (t : List Nat) (a : List Int × F) (st : List (List Int × F)), t.length < f → t.length < g → mach f t a st = mach g t a st
  | 0, _, _, _, _, h, _ => absurd h (Nat.not_lt_zero _)
  | _, 0, _, _, _, _, h => absurd h (Nat.not_lt_zero _)
  | f + 1, g + 1, [], (ns, inner), st, _, _ => by cases st <;> rfl
  | f + 1, g + 1, c :: t, (ns, inner), st, hf, hg => by
    have hf' : t.length < f := by simpa using hf
    have hg' : t.length < g := by simpa using hg
    rw [mach.eq_def, mach.eq_def]
    dsimp only
    split
    · exact mach_stable f g t _ _ hf' hg'
    · split
      · rfl
      · split
        · split
          · rfl
          · exact mach_stable f g t _ _ hf' hg'
        · split
          · rfl
          · split
            · split
              · rfl
              · split
                · exact mach_stable f g t _ _ hf' hg'
                · cases hv : num t with
                  | none => rfl
                  | some p =>
                    obtain ⟨v, r⟩ := p
                    have h0 := num_len hv
                    simp only
                    split
                    · rfl
                    · exact mach_stable f g r _ _ (by (first | lia | omega)) (by (first | lia | omega))
            · cases hv : num (c :: t) with
              | none => rfl
              | some p =>
                obtain ⟨v, r⟩ := p
                have h0 := num_len hv
                simp only [List.length_cons] at h0
                simp only
                split
                · rfl
                · exact mach_stable f g r _ _ (by (first | lia | omega)) (by (first | lia | omega))
noncomputable def machL (t : List Nat) (a : List Int × F) (st : List (List Int × F)) := mach (t.length + 1) t a st
theorem machL_nil (a : List Int × F) (st : List (List Int × F)) : machL [] a st = match st with | [] => some a.2 | _ :: _ => none := by
  obtain ⟨ns, inner⟩ := a
  cases st <;> rfl
theorem mach_to (f : Nat) (t : List Nat) (a : List Int × F) (st : List (List Int × F)) (h : t.length < f) : mach f t a st = machL t a st := mach_stable _ _ _ _ _ h (Nat.lt_succ_self _)
theorem machL_cons (c : Nat) (t : List Nat) (ns : List Int) (inner : F) (st : List (List Int × F)) : machL (c :: t) (ns, inner) st =
    if c = 40 then machL t ([], .nil) ((ns, inner) :: st)
    else match st with
      | [] => none
      | (ns', inner') :: st' =>
        if c = 41 then (if inner.len = 1 ∨ (ns = [] ∧ inner.len = 0) then none else machL t (ns', inner'.app (chainF ns inner .nil)) st')
        else if inner.len ≠ 0 then none
        else if ns ≠ [] then (if c ≠ 32 then none else if t.head? = some 40 then machL t (ns, inner) ((ns', inner') :: st') else match num t with
            | none => none
            | some (v, r) => if r.head? = some 40 then none else machL r (ns ++ [v], inner) ((ns', inner') :: st'))
        else match num (c :: t) with
            | none => none
            | some (v, r) => if r.head? = some 40 then none else machL r (ns ++ [v], inner) ((ns', inner') :: st') := by
  unfold machL
  rw [mach.eq_def]
  simp only [List.length_cons]
  split
  · rfl
  · split
    · rfl
    · split
      · rfl
      · split
        · rfl
        · split
          · split
            · rfl
            · split
              · rfl
              · cases hv : num t with
                | none => rfl
                | some p =>
                  obtain ⟨v, r⟩ := p
                  have h0 := num_len hv
                  simp only
                  rw [mach_stable _ (r.length + 1) r _ _ (by (first | lia | omega)) (Nat.lt_succ_self _)]
          · cases hv : num (c :: t) with
            | none => rfl
            | some p =>
              obtain ⟨v, r⟩ := p
              have h0 := num_len hv
              simp only [List.length_cons] at h0
              simp only
              rw [mach_stable _ (r.length + 1) r _ _ (by (first | lia | omega)) (Nat.lt_succ_self _)]

theorem num_head {t r : List Nat} {v : Int} (h : num t = some (v, r)) : t.head? ≠ some 40 ∧ t.head? ≠ some 41 := by
  unfold num at h
  split at h
  · cases h
  · rename_i hn
    have h2 : t.takeWhile isD ≠ [] := fun e => hn (.inl e)
    cases t with
    | nil => exact absurd rfl h2
    | cons c t =>
      constructor
      · intro e
        simp only [List.head?_cons, Option.some.injEq] at e
        subst e
        exact h2 rfl
      · intro e
        simp only [List.head?_cons, Option.some.injEq] at e
        subst e
        exact h2 rfl

/-- the members behind a number that stands in the frame -/
theorem mach_behind : ∀ (n : Nat) (r : List Nat) (ns : List Int) (p : List Int × F) (st : List (List Int × F)), r.length < n → ns ≠ [] → r.head? ≠ some 40 →
    machL r (ns, .nil) (p :: st) = (match r with
      | 32 :: r' => if r'.head? = some 40 then machL r' (ns, .nil) (p :: st) else (match numsL r' with
          | none => none
          | some (ms, t2) => machL t2 (ns ++ ms, .nil) (p :: st))
      | 41 :: _ => machL r (ns, .nil) (p :: st)
      | _ => none) := by
  intro n
  induction n with
  | zero => intro r _ _ _ h; exact absurd h (Nat.not_lt_zero _)
  | succ n ih =>
    intro r ns p st hn hne h40
    obtain ⟨ns', inner'⟩ := p
    cases r with
    | nil => rw [machL_nil]
    | cons c r' =>
      have hc : c ≠ 40 := fun e => h40 (by rw [e]; rfl)
      by_cases h41 : c = 41
      · subst h41; rfl
      · by_cases h32 : c = 32
        · subst h32
          rw [machL_cons]
          simp only [hc, if_false, h41, F.len, ne_eq, not_true_eq_false, hne, not_false_eq_true, if_true]
          split
          · rfl
          · rename_i hr
            rw [numsL_eq]
            cases hv : num r' with
            | none => rfl
            | some q =>
              obtain ⟨v, r2⟩ := q
              have hl := num_len hv
              simp only
              by_cases h2 : r2.head? = some 40
              · rw [if_pos h2]
                cases r2 with
                | nil => cases h2
                | cons c2 r2 =>
                  simp only [List.head?_cons, Option.some.injEq] at h2
                  subst h2
                  rfl
              · rw [if_neg h2]
                rw [ih r2 (ns ++ [v]) (ns', inner') st (by simp only [List.length_cons] at hn; (first | lia | omega)) (by simp) h2]
                split
                · rename_i r3
                  split
                  · rfl
                  · cases hq : numsL r3 with
                    | none => rfl
                    | some z => simp [List.append_assoc]
                · rfl
                · rename_i h1 h2
                  split
                  · rfl
                  · rename_i h3; cases h3
        · rw [machL_cons]
          simp only [hc, if_false, h41, F.len, ne_eq, not_true_eq_false, hne, not_false_eq_true, if_true, h32]
          split
          · rename_i r3 e; simp only [List.cons.injEq] at e; exact absurd e.1 h32
          · rename_i e; simp only [List.cons.injEq] at e; exact absurd e.1 h41
          · rfl

/-- the members of a bracket that begins with no bracket -/
theorem mach_members (t : List Nat) (p : List Int × F) (st : List (List Int × F)) (h : t.head? ≠ some 40) :
    machL t ([], .nil) (p :: st) = match numsL t with
      | none => none
      | some (ns, t2) => machL t2 (ns, .nil) (p :: st) := by
  obtain ⟨ns', inner'⟩ := p
  rw [numsL_eq]
  cases t with
  | nil => rfl
  | cons c t =>
    have hc : c ≠ 40 := fun e => h (by rw [e]; rfl)
    rw [machL_cons]
    by_cases h41 : c = 41
    · subst h41
      simp [F.len, num, isD]
    · simp only [hc, if_false, h41, F.len, ne_eq, not_true_eq_false]
      cases hv : num (c :: t) with
      | none => rfl
      | some q =>
        obtain ⟨v, r⟩ := q
        simp only
        by_cases h2 : r.head? = some 40
        · rw [if_pos h2]
          cases r with
          | nil => cases h2
          | cons c2 r2 =>
            simp only [List.head?_cons, Option.some.injEq] at h2
            subst h2
            rfl
        · rw [if_neg h2, mach_behind (r.length + 1) r ([] ++ [v]) (ns', inner') st (Nat.lt_succ_self _) (by simp) h2]
          split
          · rename_i r3
            split
            · rfl
            · cases hq : numsL r3 with
              | none => rfl
              | some z => simp
          · rfl
          · rename_i h1 h2
            split
            · rfl
            · rename_i h3; cases h3

theorem app_one (inner : F) (g h : F) : (inner.app g).app h = inner.app (g.app h) := F.app_assoc _ _ _

/-- brackets upon any frame -/
theorem mach_forest : ∀ (n : Nat) (t : List Nat) (ns : List Int) (inner : F) (st : List (List Int × F)), t.length < n →
    machL t (ns, inner) st = match forestL t with
      | none => none
      | some (g, t2) => machL t2 (ns, inner.app g) st := by
  intro n
  induction n with
  | zero => intro t _ _ _ h; exact absurd h (Nat.not_lt_zero _)
  | succ n ih =>
    intro t ns inner st hn
    rw [forestL_eq]
    by_cases h40 : t.head? = some 40
    · rw [if_pos h40]
      cases t with
      | nil => cases h40
      | cons c t1 =>
        simp only [List.head?_cons, Option.some.injEq] at h40
        subst h40
        have hn1 : t1.length < n := by simpa using hn
        rw [machL_cons, if_pos rfl]
        have members : machL t1 ([], .nil) ((ns, inner) :: st) = match (if t1.head? = some 40 then some (([] : List Int), t1) else numsL t1) with
            | none => none
            | some (ms, t2) => machL t2 (ms, .nil) ((ns, inner) :: st) := by
          by_cases h1 : t1.head? = some 40
          · rw [if_pos h1]
          · rw [if_neg h1]; exact mach_members t1 _ _ h1
        rw [members]
        simp only [oneL, one]
        cases hp : (if t1.head? = some 40 then some (([] : List Int), t1) else numsL t1) with
        | none => rfl
        | some p =>
          obtain ⟨ms, t2⟩ := p
          have hl2 : t2.length ≤ t1.length := by
            split at hp
            · simp only [Option.some.injEq, Prod.mk.injEq] at hp; rw [← hp.2]; exact Nat.le_refl _
            · exact Nat.le_of_lt (numsL_len hp)
          simp only [Option.bind_some]
          rw [ih t2 ms .nil ((ns, inner) :: st) (by (first | lia | omega))]
          cases hq : forestL t2 with
          | none => simp
          | some q =>
            obtain ⟨ks, t3⟩ := q
            have hl3 := forestL_len hq
            simp only [Option.bind_some, F.app]
            have hm : ks.len = 0 → t3 = t2 := by
              intro hk
              rw [forestL_eq] at hq
              split at hq
              · obtain ⟨a, ha, hb⟩ := Option.bind_eq_some_iff.mp hq
                obtain ⟨b, hb', hc⟩ := Option.map_eq_some_iff.mp hb
                simp only [Prod.mk.injEq] at hc
                obtain ⟨rfl, rfl⟩ := hc
                have : 0 < a.1.len := by
                  unfold oneL one at ha
                  split at ha
                  · obtain ⟨x, _, ha⟩ := Option.bind_eq_some_iff.mp ha
                    obtain ⟨y, _, ha⟩ := Option.bind_eq_some_iff.mp ha
                    split at ha
                    · split at ha
                      · cases ha
                      · simp only [Option.some.injEq] at ha
                        rw [← ha]
                        show 0 < (chainF x.1 y.1 .nil).len
                        cases x.1 with
                        | nil => simp [chainF, F.len]
                        | cons a l => cases l <;> simp [chainF, F.len]
                    · cases ha
                  · cases ha
                cases hz : a.1 with
                | nil => rw [hz] at this; simp [F.len] at this
                | cons x k r => rw [hz] at hk; simp [F.app, F.len] at hk
              · simp only [Option.some.injEq, Prod.mk.injEq] at hq; exact hq.2.symm
            have hh : t3.head? ≠ some 40 := by
              intro e
              have : ∀ (m : Nat) (u : List Nat) {g r}, u.length < m → forestL u = some (g, r) → r.head? ≠ some 40 := by
                intro m
                induction m with
                | zero => intro u _ _ h; exact absurd h (Nat.not_lt_zero _)
                | succ m im =>
                  intro u g r hu hf
                  rw [forestL_eq] at hf
                  split at hf
                  · obtain ⟨a, ha, hb⟩ := Option.bind_eq_some_iff.mp hf
                    obtain ⟨b, hb', hc⟩ := Option.map_eq_some_iff.mp hb
                    simp only [Prod.mk.injEq] at hc
                    obtain ⟨_, rfl⟩ := hc
                    have := oneL_len (g := a.1) (r := a.2) ha
                    exact im a.2 (by (first | lia | omega)) hb'
                  · rename_i hx
                    simp only [Option.some.injEq, Prod.mk.injEq] at hf
                    rw [← hf.2]; exact hx
              exact this _ t2 (Nat.lt_succ_self _) hq e
            cases t3 with
            | nil => rw [machL_nil]; rfl
            | cons c t4 =>
              have hc : c ≠ 40 := fun e => hh (by rw [e]; rfl)
              by_cases h41 : c = 41
              · subst h41
                rw [machL_cons]
                simp only [hc, if_false, if_true]
                by_cases hbad : ks.len = 1 ∨ (ms = [] ∧ ks.len = 0)
                · rw [if_pos hbad, if_pos hbad]; rfl
                · rw [if_neg hbad, if_neg hbad]
                  simp only [List.length_cons] at hl3
                  rw [ih t4 ns (inner.app (chainF ms ks .nil)) st (by (first | lia | omega))]
                  simp only [Option.bind_some]
                  cases hz : forestL t4 with
                  | none => rfl
                  | some z => simp [F.app_assoc]
              · have : (match c :: t4 with
                      | 41 :: t4 => if ks.len = 1 ∨ (ms = [] ∧ ks.len = 0) then none else some (chainF ms ks F.nil, t4)
                      | _ => (none : Option (F × List Nat))) = none := by
                  split
                  · rename_i e; simp only [List.cons.injEq] at e; exact absurd e.1 h41
                  · rfl
                rw [this]
                rw [machL_cons]
                simp only [hc, if_false, h41]
                by_cases hk : ks.len = 0
                · have e2 := hm hk
                  rw [F.len_zero hk]
                  -- no bracket was read: the members are over, and no closing bracket stands here
                  by_cases h1 : t1.head? = some 40
                  · rw [if_pos h1] at hp
                    simp only [Option.some.injEq, Prod.mk.injEq] at hp
                    rw [← hp.2] at e2
                    rw [← e2] at h1
                    simp only [List.head?_cons, Option.some.injEq] at h1
                    exact absurd h1 hc
                  · rw [if_neg h1] at hp
                    -- numsL ends at a closing bracket or ahead of an opening one
                    have hend : ∀ (m : Nat) (u : List Nat) {g r}, u.length < m → numsL u = some (g, r) → r.head? = some 41 ∨ r.head? = some 40 := by
                      intro m
                      induction m with
                      | zero => intro u _ _ h; exact absurd h (Nat.not_lt_zero _)
                      | succ m im =>
                        intro u g r hu hf
                        rw [numsL_eq] at hf
                        split at hf
                        · cases hf
                        · rename_i v r0 hv
                          have h0 := num_len hv
                          split at hf
                          · rename_i r'
                            split at hf
                            · rename_i hx
                              simp only [Option.some.injEq, Prod.mk.injEq] at hf
                              rw [← hf.2]; exact .inr hx
                            · obtain ⟨a, ha, hb⟩ := Option.map_eq_some_iff.mp hf
                              simp only [Prod.mk.injEq] at hb
                              obtain ⟨_, rfl⟩ := hb
                              simp only [List.length_cons] at h0
                              exact im r' (by (first | lia | omega)) (g := a.1) ha
                          · simp only [Option.some.injEq, Prod.mk.injEq] at hf
                            rw [← hf.2]; exact .inl rfl
                          · cases hf
                    rcases hend _ t1 (Nat.lt_succ_self _) hp with e | e
                    · rw [← e2] at e
                      simp only [List.head?_cons, Option.some.injEq] at e
                      exact absurd e h41
                    · rw [← e2] at e
                      simp only [List.head?_cons, Option.some.injEq] at e
                      exact absurd e hc
                · simp [hk]
    · rw [if_neg h40]
      simp only [F.app_nil]

theorem mach_read (t : List Nat) : machL t ([], .nil) [] = readL t := by
  rw [mach_forest (t.length + 1) t [] .nil [] (Nat.lt_succ_self _)]
  unfold readL
  cases hf : forestL t with
  | none => rfl
  | some p =>
    obtain ⟨g, r⟩ := p
    simp only [F.app]
    cases r with
    | nil => rw [machL_nil]
    | cons c r =>
      have hh : c ≠ 40 := by
        intro e
        subst e
        have : ∀ (m : Nat) (u : List Nat) {g r}, u.length < m → forestL u = some (g, r) → r.head? ≠ some 40 := by
          intro m
          induction m with
          | zero => intro u _ _ h; exact absurd h (Nat.not_lt_zero _)
          | succ m im =>
            intro u g r hu hf
            rw [forestL_eq] at hf
            split at hf
            · obtain ⟨a, ha, hb⟩ := Option.bind_eq_some_iff.mp hf
              obtain ⟨b, hb', hc⟩ := Option.map_eq_some_iff.mp hb
              simp only [Prod.mk.injEq] at hc
              obtain ⟨_, rfl⟩ := hc
              have := oneL_len (g := a.1) (r := a.2) ha
              exact im a.2 (by (first | lia | omega)) hb'
            · rename_i hx
              simp only [Option.some.injEq, Prod.mk.injEq] at hf
              rw [← hf.2]; exact hx
        exact this _ t (Nat.lt_succ_self _) hf rfl
      rw [machL_cons]
      simp only [hh, if_false]
theorem dg_small {n : Nat} (h : n < 10) : dg n = [48 + n] := by rw [dg, if_pos h]
theorem dg_big {n : Nat} (h : ¬ n < 10) : dg n = dg (n / 10) ++ [48 + n % 10] := by rw [dg, if_neg h]
theorem dg_ne (n : Nat) : dg n ≠ [] := by
  by_cases h : n < 10
  · rw [dg_small h]; simp
  · rw [dg_big h]; simp
theorem dg_all : ∀ n : Nat, ∀ c ∈ dg n, 48 ≤ c ∧ c ≤ 57 := by
  intro n
  induction n using Nat.strongRecOn with
  | ind n ih =>
    by_cases h : n < 10
    · rw [dg_small h]
      intro c hc
      rw [List.mem_singleton.mp hc]
      (first | lia | omega)
    · rw [dg_big h]
      intro c hc
      rcases List.mem_append.mp hc with hc | hc
      · exact ih (n / 10) (by (first | lia | omega)) c hc
      · rw [List.mem_singleton.mp hc]
        (first | lia | omega)
theorem dg_val : ∀ n : Nat, digitsVal (dg n) = n := by
  intro n
  induction n using Nat.strongRecOn with
  | ind n ih =>
    by_cases h : n < 10
    · rw [dg_small h]
      show 0 * 10 + (48 + n - 48) = n
      (first | lia | omega)
    · rw [dg_big h, digitsVal_snoc, ih (n / 10) (by (first | lia | omega))]
      (first | lia | omega)
theorem dg_head : ∀ n : Nat, 0 < n → ∃ c r, dg n = c :: r ∧ c ≠ 48 := by
  intro n
  induction n using Nat.strongRecOn with
  | ind n ih =>
    intro hp
    by_cases h : n < 10
    · exact ⟨48 + n, [], dg_small h, by (first | lia | omega)⟩
    · obtain ⟨c, r, e, hc⟩ := ih (n / 10) (by (first | lia | omega)) (by (first | lia | omega))
      exact ⟨c, r ++ [48 + n % 10], by rw [dg_big h, e]; rfl, hc⟩
theorem dg_len : ∀ (k n : Nat), n < 10 ^ (k + 1) → (dg n).length ≤ k + 1 := by
  intro k
  induction k with
  | zero =>
    intro n h
    rw [dg_small (by simpa using h)]
    simp
  | succ k ih =>
    intro n h
    by_cases hs : n < 10
    · rw [dg_small hs]; simp
    · rw [dg_big hs, List.length_append, List.length_singleton]
      have : n / 10 < 10 ^ (k + 1) := by
        rw [Nat.div_lt_iff_lt_mul (by decide)]
        rw [Nat.pow_succ] at h
        exact h
      have := ih (n / 10) this
      (first | lia | omega)
theorem isD_iff (c : Nat) : isD c = true ↔ 48 ≤ c ∧ c ≤ 57 := by simp [isD]

noncomputable def okN (n : Int) : Prop := 0 < n ∧ n < 10 ^ 20
theorem takeW_app (l r : List Nat) (h : ∀ c ∈ l, isD c = true) (hr : ∀ c, r.head? = some c → isD c = false) : (l ++ r).takeWhile isD = l ∧ (l ++ r).dropWhile isD = r := by
  induction l with
  | nil =>
    cases r with
    | nil => exact ⟨rfl, rfl⟩
    | cons c r =>
      have := hr c rfl
      simp [List.takeWhile_cons, List.dropWhile_cons, this]
  | cons c l ih =>
    have h1 := h c List.mem_cons_self
    have h2 := ih fun x hx => h x (List.mem_cons_of_mem _ hx)
    simp [List.takeWhile_cons, List.dropWhile_cons, h1, h2.1, h2.2]
theorem num_dg {n : Int} (h : okN n) (r : List Nat) (hr : ∀ c, r.head? = some c → isD c = false) : num (digs n ++ r) = some (n, r) := by
  obtain ⟨h0, h1⟩ := h
  have hd : digs n = dg n.toNat := by unfold digs; rw [if_pos h0]
  rw [hd]
  have hp : 0 < n.toNat := by (first | lia | omega)
  obtain ⟨c, l, e, hc⟩ := dg_head n.toNat hp
  have hall : ∀ c ∈ dg n.toNat, isD c = true := fun c hm => (isD_iff c).mpr (dg_all _ c hm)
  obtain ⟨t1, t2⟩ := takeW_app (dg n.toNat) r hall hr
  have hlen : (dg n.toNat).length ≤ 20 := dg_len 19 n.toNat (by
    have : n.toNat < 10 ^ 20 := by
      have e : ((10 ^ 20 : Nat) : Int) = 10 ^ 20 := by norm_cast
      (first | lia | omega)
    exact this)
  unfold num
  rw [t1, t2, if_neg, dg_val]
  · congr 2; (first | lia | omega)
  · rintro (q | q | q)
    · exact dg_ne _ q
    · rw [e] at q; simp at q; exact hc q
    · (first | lia | omega)

noncomputable def F.ok : F → Prop
  | .nil => True
  | .cons n k r => okN n ∧ k.ok ∧ r.ok
noncomputable def F.okT : F → Prop
  | .nil => True
  | .cons n k r => (okN n ∨ (n = 0 ∧ 2 ≤ k.len)) ∧ k.ok ∧ r.okT
theorem F.ok.top : ∀ {f : F}, f.ok → f.okT
  | .nil, _ => trivial
  | .cons _ _ _, h => ⟨.inl h.1, h.2.1, F.ok.top h.2.2⟩

/-- the numbers of a bracket that holds a chain, and the brackets behind them -/
noncomputable def chain : Int → F → List Int × F
  | n, .nil => ([n], .nil)
  | n, .cons m k .nil => ((n :: (chain m k).1), (chain m k).2)
  | n, .cons m k (.cons m2 k2 r) => ([n], .cons m k (.cons m2 k2 r))
theorem chain_ne (n : Int) (k : F) : (chain n k).1 ≠ [] := by
  cases k with
  | nil => simp [chain]
  | cons m k r => cases r <;> simp [chain]
theorem chain_back : ∀ (n : Int) (k r : F), chainF (chain n k).1 (chain n k).2 r = .cons n k r
  | n, .nil, r => rfl
  | n, .cons m k .nil, r => by
    have ih := chain_back m k .nil
    have hne := chain_ne m k
    simp only [chain]
    cases h : (chain m k).1 with
    | nil => exact absurd h hne
    | cons a l =>
      rw [h] at ih
      simp only [chainF]
      rw [ih]
  | n, .cons m k (.cons m2 k2 r2), r => rfl
theorem chain_len : ∀ (n : Int) (k : F), (chain n k).2.len ≠ 1
  | _, .nil => by simp [chain, F.len]
  | _, .cons m k .nil => by simp only [chain]; exact chain_len m k
  | _, .cons m k (.cons m2 k2 r2) => by simp [chain, F.len]
theorem chain_ok : ∀ (n : Int) (k : F), k.ok → (chain n k).2.ok
  | _, .nil, _ => by simp [chain, F.ok]
  | _, .cons m k .nil, h => by simp only [chain]; exact chain_ok m k h.2.1
  | _, .cons m k (.cons m2 k2 r2), h => by simpa [chain] using h
theorem chain_size : ∀ (n : Int) (k : F), (chain n k).2.size ≤ k.size
  | _, .nil => by simp [chain, F.size]
  | _, .cons m k .nil => by simp only [chain, F.size]; have := chain_size m k; (first | lia | omega)
  | _, .cons m k (.cons m2 k2 r2) => by simp [chain]
theorem lists_cons (m : Int) (k r : F) : lists (.cons m k r) = 40 :: (inside m k ++ 41 :: lists r) := by rw [lists]
/-- the text inside a bracket is its numbers, then its brackets -/
theorem nums_inside : ∀ (n : Int) (k : F), okN n → k.ok → ∀ rest, numsL (inside n k ++ 41 :: rest) = some ((chain n k).1, lists (chain n k).2 ++ 41 :: rest)
  | n, .nil, hn, _, rest => by
    rw [inside, numsL_eq, num_dg hn (41 :: rest) (by intro c hc; simp only [List.head?_cons, Option.some.injEq] at hc; subst hc; rfl)]
    simp [chain, lists]
  | n, .cons m k .nil, hn, hk, rest => by
    rw [inside, List.append_assoc, List.cons_append, numsL_eq, num_dg hn _ (by intro c hc; simp only [List.head?_cons, Option.some.injEq] at hc; subst hc; rfl)]
    have ih := nums_inside m k hk.1 hk.2.1 rest
    have h40 : (inside m k ++ 41 :: rest).head? ≠ some 40 := by
      obtain ⟨h0, h1⟩ := hk.1
      obtain ⟨c, l, e, hc⟩ := dg_head m.toNat (by (first | lia | omega))
      have hd : digs m = c :: l := by unfold digs; rw [if_pos h0]; exact e
      have hc' := dg_all m.toNat c (by rw [e]; exact List.mem_cons_self)
      have : ∀ k : F, ∃ x, inside m k = c :: x := by
        intro k
        cases k with
        | nil => exact ⟨l, by rw [inside, hd]⟩
        | cons a b d => cases d <;> (rw [inside, hd]; exact ⟨_, rfl⟩)
      obtain ⟨x, hx⟩ := this k
      rw [hx]
      simp only [List.cons_append, List.head?_cons, ne_eq, Option.some.injEq]
      (first | lia | omega)
    simp only [if_neg h40, ih, Option.map_some, chain]
  | n, .cons m k (.cons m2 k2 r), hn, hk, rest => by
    rw [inside, if_pos hn.1, List.append_assoc, List.append_assoc, List.singleton_append, numsL_eq, num_dg hn _ (by intro c hc; simp only [List.head?_cons, Option.some.injEq] at hc; subst hc; rfl)]
    simp only [List.cons_append, List.head?_cons, if_true, chain]
    simp [lists_cons]
theorem inside_zero (k : F) (h : 2 ≤ k.len) : inside 0 k = lists k := by
  cases k with
  | nil => simp [F.len] at h
  | cons m k r =>
    cases r with
    | nil => simp [F.len] at h
    | cons m2 k2 r => rw [inside]; simp [digs, lists_cons]
theorem inside_head {n : Int} (h : okN n) (k : F) (rest : List Nat) : (inside n k ++ rest).head? ≠ some 40 := by
  obtain ⟨h0, h1⟩ := h
  obtain ⟨c, l, e, hc⟩ := dg_head n.toNat (by (first | lia | omega))
  have hd : digs n = c :: l := by unfold digs; rw [if_pos h0]; exact e
  have hc' := dg_all n.toNat c (by rw [e]; exact List.mem_cons_self)
  have : ∀ k : F, ∃ x, inside n k = c :: x := by
    intro k
    cases k with
    | nil => exact ⟨l, by rw [inside, hd]⟩
    | cons a b d => cases d <;> (rw [inside, hd]; exact ⟨_, rfl⟩)
  obtain ⟨x, hx⟩ := this k
  rw [hx]
  simp only [List.cons_append, List.head?_cons, ne_eq, Option.some.injEq]
  (first | lia | omega)

theorem forest_lists : ∀ (sz : Nat) (f : F), f.size < sz → f.okT → ∀ rest : List Nat, rest.head? ≠ some 40 → forestL (lists f ++ rest) = some (f, rest) := by
  intro sz
  induction sz with
  | zero => intro f h; exact absurd h (Nat.not_lt_zero _)
  | succ sz ih =>
    intro f hs ho rest hr
    cases f with
    | nil => rw [forestL_eq, lists, List.nil_append, if_neg hr]
    | cons n k r =>
      simp only [F.size] at hs
      have ihr := ih r (by (first | lia | omega)) ho.2.2 rest hr
      rw [lists_cons, List.cons_append, List.append_assoc, List.cons_append, forestL_eq]
      simp only [List.head?_cons, if_true]
      have key : oneL (40 :: (inside n k ++ 41 :: (lists r ++ rest))) = some (.cons n k .nil, lists r ++ rest) := by
        simp only [oneL, one]
        rcases ho.1 with hn | ⟨hn, hk⟩
        · rw [if_neg (inside_head hn k _), nums_inside n k hn ho.2.1]
          simp only [Option.bind_some]
          rw [ih (chain n k).2 (by have := chain_size n k; (first | lia | omega)) (chain_ok n k ho.2.1).top _ (by simp)]
          simp only [Option.bind_some]
          rw [if_neg, chain_back]
          rintro (h | h)
          · exact chain_len n k h
          · exact chain_ne n k h.1
        · subst hn
          rw [inside_zero k hk]
          have h40 : (lists k ++ 41 :: (lists r ++ rest)).head? = some 40 := by
            cases k with
            | nil => simp [F.len] at hk
            | cons a b c => rw [lists_cons]; rfl
          rw [if_pos h40]
          simp only [Option.bind_some]
          rw [ih k (by (first | lia | omega)) ho.2.1.top _ (by simp)]
          simp only [Option.bind_some]
          rw [if_neg (by rintro (h | h) <;> (first | lia | omega))]
          rfl
      rw [key]
      simp only [Option.bind_some, ihr, Option.map_some, F.app]
theorem read_lists (f : F) (h : f.okT) : readL (lists f) = some f := by
  have := forest_lists (f.size + 1) f (Nat.lt_succ_self _) h [] (by simp)
  rw [List.append_nil] at this
  unfold readL
  rw [this]

noncomputable def F.at : F → Nat → Option (Int × F)
  | .nil, _ => none
  | .cons n k _, 0 => some (n, k)
  | .cons _ _ r, i + 1 => r.at i
theorem F.at_size : ∀ {f : F} {i : Nat} {n : Int} {k : F}, f.at i = some (n, k) → k.size < f.size
  | .cons n k r, 0, _, _, h => by simp only [F.at, Option.some.injEq, Prod.mk.injEq] at h; obtain ⟨_, rfl⟩ := h; simp only [F.size]; (first | lia | omega)
  | .cons n k r, i + 1, _, _, h => by simp only [F.at] at h; have := F.at_size h; simp only [F.size]; (first | lia | omega)
theorem F.at_ok : ∀ {f : F} {i : Nat} {n : Int} {k : F}, f.ok → f.at i = some (n, k) → okN n ∧ k.ok
  | .cons n k r, 0, _, _, o, h => by simp only [F.at, Option.some.injEq, Prod.mk.injEq] at h; obtain ⟨rfl, rfl⟩ := h; exact ⟨o.1, o.2.1⟩
  | .cons n k r, i + 1, _, _, o, h => by simp only [F.at] at h; exact F.at_ok o.2.2 h
theorem F.at_okT : ∀ {f : F} {i : Nat} {n : Int} {k : F}, f.okT → f.at i = some (n, k) → (okN n ∨ (n = 0 ∧ 2 ≤ k.len)) ∧ k.ok
  | .cons n k r, 0, _, _, o, h => by simp only [F.at, Option.some.injEq, Prod.mk.injEq] at h; obtain ⟨rfl, rfl⟩ := h; exact ⟨o.1, o.2.1⟩
  | .cons n k r, i + 1, _, _, o, h => by simp only [F.at] at h; exact F.at_okT o.2.2 h
theorem F.at_some : ∀ {f : F} {i : Nat}, i < f.len → ∃ n k, f.at i = some (n, k)
  | .cons n k r, 0, _ => ⟨n, k, rfl⟩
  | .cons n k r, i + 1, h => by simp only [F.len] at h; exact F.at_some (f := r) (by (first | lia | omega))
theorem F.at_lt : ∀ {f : F} {i : Nat} {n : Int} {k : F}, f.at i = some (n, k) → i < f.len
  | .cons n k r, 0, _, _, _ => by simp [F.len]
  | .cons n k r, i + 1, _, _, h => by simp only [F.at] at h; have := F.at_lt h; simp only [F.len]; (first | lia | omega)

/-- the printed brackets, one by one -/
noncomputable def pieces : F → List (List Nat)
  | .nil => []
  | .cons n k r => (40 :: (inside n k ++ [41])) :: pieces r
theorem pieces_flat : ∀ f : F, (pieces f).flatten = lists f
  | .nil => by rw [lists]; rfl
  | .cons n k r => by rw [lists, pieces, List.flatten_cons, pieces_flat r]; simp
theorem pieces_len : ∀ f : F, (pieces f).length = f.len
  | .nil => rfl
  | .cons _ _ r => by simp [pieces, F.len, pieces_len r]
theorem F.at_pieces : ∀ {f : F} {i : Nat} {n : Int} {k : F}, f.at i = some (n, k) → (pieces f)[i]? = some (40 :: (inside n k ++ [41]))
  | .cons n k r, 0, _, _, h => by simp only [F.at, Option.some.injEq, Prod.mk.injEq] at h; obtain ⟨rfl, rfl⟩ := h; rfl
  | .cons n k r, i + 1, _, _, h => by simp only [F.at] at h; simpa [pieces] using F.at_pieces h

theorem digs_ne {n : Int} : digs n ≠ [] ↔ 0 < n := by
  unfold digs
  split
  · rename_i h; simp [dg_ne, h]
  · rename_i h; simp; (first | lia | omega)
theorem inside_multi (n : Int) (k : F) (h : k.len ≠ 1) : inside n k = digs n ++ ((if digs n ≠ [] ∧ lists k ≠ [] then [32] else []) ++ lists k) := by
  cases k with
  | nil => rw [inside, lists]; simp
  | cons m k r =>
    cases r with
    | nil => exact absurd rfl h
    | cons m2 k2 r =>
      rw [inside, lists_cons m k]
      by_cases h0 : 0 < n
      · rw [if_pos h0, if_pos ⟨digs_ne.mpr h0, by simp⟩]
      · rw [if_neg h0, if_neg (fun q => h0 (digs_ne.mp q.1))]
-- small proofs ahead of the big engines
theorem ar_lt0 {x n r : Nat} (h : x + n < r) : x < r := Nat.lt_of_le_of_lt (Nat.le_add_right x n) h
theorem ar_lt1 {x a n r : Nat} (h : x + n < r) (d : a ≤ n) : x + a < r := Nat.lt_of_le_of_lt (Nat.add_le_add_left d x) h
theorem ar_lt2 {x a b n r : Nat} (h : x + n < r) (d : a + b ≤ n) : x + a + b < r := by rw [Nat.add_assoc]; exact ar_lt1 h d
theorem ar_lt3 {x a b c n r : Nat} (h : x + n < r) (d : a + b + c ≤ n) : x + a + b + c < r := by rw [Nat.add_assoc x]; exact ar_lt2 h d
theorem mm_lt {t a b : Nat} (h : t - a < t - b) : b < a := Nat.lt_of_not_le fun k => Nat.not_lt_of_le (Nat.sub_le_sub_left k t) h
theorem mm_lt2 {t a b : Nat} (h : t - a + 1 < t - b) : b + 1 < a := mm_lt (t := t) (show t - a < t - b - 1 from Nat.lt_sub_of_add_lt h)
theorem mm_s {t p q s : Nat} (h : t - p < s + 1) (h2 : p < q) (h3 : q ≤ t) : t - q < s := Nat.lt_of_lt_of_le (Nat.sub_lt_sub_left (Nat.lt_of_lt_of_le h2 h3) h2) (Nat.le_of_lt_succ h)
theorem mm_ne {p k : Nat} (h : k ≤ p) (h2 : k ≠ p) : p - (k + 1) < p - k := Nat.sub_lt_sub_left (Nat.lt_of_le_of_ne h h2) (Nat.lt_succ_self k)
theorem units_min {x n a r : Nat} (h : x + 16 * (n + 1 + 5) < r) : x + 3 + min a 1 < r := by have := Nat.min_le_right a 1; generalize min a 1 = z at *; lia
theorem sub_depth {x t q r : Nat} (h : x + (t + 8) < r) : x + 1 + (t - q + 1 + 5) < r := by have := Nat.sub_le t q; generalize t - q = z at *; lia
theorem sub_units {x t q r : Nat} (h : x + 16 * (t + 8) < r) : x + 3 + 16 * (t - q + 1 + 5) < r := by have := Nat.sub_le t q; generalize t - q = z at *; lia
theorem min_pred {n : Nat} : min (n - 1) n = n - 1 := Nat.min_eq_left (Nat.sub_le n 1)
theorem pred2_lt {n i : Nat} (h : i < n - 1) : n - 2 - i < n - 1 := Nat.lt_of_le_of_lt (Nat.sub_le _ i) (Nat.sub_lt (Nat.lt_of_le_of_lt (Nat.zero_le i) h) Nat.one_pos)
theorem pred2_succ {n i : Nat} (h : i < n - 1) : n - 2 - i + 1 = n - 1 - i := by
  show n - 1 - 1 - i + 1 = n - 1 - i
  rw [Nat.sub_right_comm]
  exact Nat.sub_add_cancel (Nat.sub_pos_of_lt h)
theorem pred2_comm {n i : Nat} : n - 1 - (i + 1) = n - 2 - i := (Nat.sub_right_comm (n - 1) 1 i).symm
theorem down_pos {n i p : Nat} (h : i < n) (e : n - 1 - i = p) : p < n ∧ n - i = p + 1 := by
  have h1 : n - i = p + 1 := by
    rw [← e, Nat.sub_right_comm]
    exact (Nat.sub_add_cancel (Nat.sub_pos_of_lt h)).symm
  exact ⟨Nat.lt_of_succ_le (Nat.le_trans (Nat.le_of_eq h1.symm) (Nat.sub_le n i)), h1⟩
theorem down_int {n i p : Nat} {z : Int} (h : i < n) (e : n - 1 - i = p) (hz : z = (n : Int)) : z - 1 - (i : Int) = (p : Int) := by
  have h1 : n = p + 1 + i := by rw [← (down_pos h e).2]; exact (Nat.sub_add_cancel (Nat.le_of_lt h)).symm
  clear e h
  subst h1
  lia
theorem told_size {a b k : Nat} (h : a + b = 1 + k) (hk : k < 250) : a ≤ 250 := Nat.le_trans (Nat.le_add_right a b) (by rw [h, Nat.add_comm]; exact hk)
theorem pred_le {a c n : Nat} (h : c + (a - 1) < n) : a ≤ n := Nat.le_of_pred_lt (Nat.lt_of_le_of_lt (Nat.le_add_left _ c) h)
theorem cut_min {α : Type} (t : List α) (a b : Nat) : List.take (min b t.length - min a t.length) (List.drop (min a t.length) t) = (t.drop a).take (b - a) := by
  rcases Nat.le_total a t.length with h1 | h1
  · rw [Nat.min_eq_left h1]
    rcases Nat.le_total b t.length with h2 | h2
    · rw [Nat.min_eq_left h2]
    · rw [Nat.min_eq_right h2, List.take_of_length_le (by rw [List.length_drop]; exact Nat.le_refl _), List.take_of_length_le (by rw [List.length_drop]; exact Nat.sub_le_sub_right h2 a)]
  · rw [List.drop_of_length_le h1, Nat.min_eq_right h1, List.drop_length, List.take_nil, List.take_nil]
theorem min_mono {x a b n k r : Nat} (h : x + min n k < r) (ha : a ≤ n) (hb : b ≤ k) : x + min a b < r :=
  Nat.lt_of_le_of_lt (Nat.add_le_add_left (Nat.le_min.mpr ⟨Nat.le_trans (Nat.min_le_left a b) ha, Nat.le_trans (Nat.min_le_right a b) hb⟩) x) h
theorem clip_min (a n : Nat) : min ((min a n : Nat) : Int) (n : Int) = min (a : Int) (n : Int) := by
  rcases Nat.le_total a n with h | h
  · rw [Nat.min_eq_left h]
  · rw [Nat.min_eq_right h, Int.min_eq_right (Int.le_refl _), Int.min_eq_right (Int.ofNat_le.mpr h)]
theorem ne_twice {a b : Nat} (_ : a = b) (h : a ≠ b) : a ≠ b := h
theorem rows1 : True := by
  (k_with "conj9" => first | with_reducible assumption | exact And.left (by with_reducible assumption) | exact And.left (And.right (by with_reducible assumption)) | exact And.left (And.right (And.right (by with_reducible assumption))) | exact And.left (And.right (And.right (And.right (by with_reducible assumption)))) | exact And.left (And.right (And.right (And.right (And.right (by with_reducible assumption))))) | exact And.left (And.right (And.right (And.right (And.right (And.right (by with_reducible assumption)))))) | exact And.left (And.right (And.right (And.right (And.right (And.right (And.right (by with_reducible assumption))))))) | exact And.left (And.right (And.right (And.right (And.right (And.right (And.right (And.right (by with_reducible assumption)))))))) | exact And.left (And.right (And.right (And.right (And.right (And.right (And.right (And.right (And.right (by with_reducible assumption))))))))) | exact And.left (And.right (And.right (And.right (And.right (And.right (And.right (And.right (And.right (And.right (by with_reducible assumption)))))))))))
  (k_with "lt9" => first | k_extra "conj9" | exact Nat.lt_succ_self _ | (refine Nat.lt_trans ?_ (by with_reducible assumption); k_extra "conj9"))
  trivial
local macro_rules | `(tactic| k_ne) => `(tactic| k_extra "k_ne")
theorem rows2 : True := by
  (k_with "k_ne" => (refine neN ?_; (try dsimp only); (fail_if_success refine ne_twice (by with_reducible rfl) ?_); first | k_extra "conj9" | exact Ne.symm (by k_extra "conj9") | exact Nat.ne_of_lt (by k_extra "lt9") | exact Nat.ne_of_gt (by k_extra "lt9") | omega))
  (k_with "ar9" => first | with_reducible assumption | ((with_reducible show @LT.lt Nat _ _ _); first | exact Nat.lt_of_lt_of_le (by with_reducible assumption) (by decide) | exact Nat.lt_of_le_of_lt (by with_reducible assumption) (by decide) | exact ar_lt1 (by with_reducible assumption) (by decide) | exact ar_lt2 (by with_reducible assumption) (by decide) | exact ar_lt3 (by with_reducible assumption) (by decide) | exact ar_lt0 (by with_reducible assumption) | exact Nat.lt_of_succ_lt (by with_reducible assumption) | exact Nat.sub_lt_sub_left (by with_reducible assumption) (Nat.lt_succ_self _) | exact Nat.sub_lt_sub_left (by with_reducible assumption) (by with_reducible assumption) | exact mm_ne (by with_reducible assumption) (by with_reducible assumption) | exact mm_s (by with_reducible assumption) (by with_reducible assumption) (by with_reducible assumption) | k_extra "conj9") | ((with_reducible show @LE.le Nat _ _ _); first | exact Nat.le_trans (by with_reducible assumption) (by decide) | exact Nat.le_of_lt (by with_reducible assumption) | exact And.left (by with_reducible assumption) | exact And.left (And.right (by with_reducible assumption)) | exact Nat.le_of_lt (by k_extra "conj9")) | ((with_reducible show @Ne _ _ _); first | k_extra "conj9" | exact Ne.symm (by k_extra "conj9") | exact Nat.ne_of_lt (by k_extra "lt9") | exact Nat.ne_of_gt (by k_extra "lt9")) | ((with_reducible show @LT.lt Int _ _ _); first | with_reducible exact Int.ofNat_lt.mpr (by assumption)) | lia | omega)
  trivial
theorem sub_nil {big : List (Addr × Obj)} : ∀ p ∈ ([] : List (Addr × Obj)), p ∈ big := fun _ h => nomatch h
theorem sub_cons {a : Addr × Obj} {l big : List (Addr × Obj)} (h : a ∈ big) (k : ∀ p ∈ l, p ∈ big) : ∀ p ∈ a :: l, p ∈ big := fun p hp => by
  rcases List.mem_cons.mp hp with rfl | hp
  · exact h
  · exact k p hp
theorem sub_app {l r big : List (Addr × Obj)} (h : ∀ p ∈ l, p ∈ big) (k : ∀ p ∈ r, p ∈ big) : ∀ p ∈ l ++ r, p ∈ big := fun p hp => (List.mem_append.mp hp).elim (h p) (k p)
theorem lt_sub {d : Nat} {l l' : List (Addr × Obj)} (h : ∀ p ∈ l, p.1 < d) (k : ∀ p ∈ l', p ∈ l) : ∀ p ∈ l', p.1 < d := fun p hp => h p (k p hp)
theorem ne_sub {d : Nat} {l l' : List (Addr × Obj)} (h : ∀ p ∈ l, p.1 ≠ d) (k : ∀ p ∈ l', p ∈ l) : ∀ p ∈ l', p.1 ≠ d := fun p hp => h p (k p hp)
local macro_rules | `(tactic| k_mem) => `(tactic| k_extra "k_mem")
theorem rows3 : True := by
  (k_with "k_mem" => first | with_reducible assumption | assumption | (refine' List.mem_append_left _ ?_; k_mem) | (refine' List.mem_append_right _ ?_; k_mem))
  (k_with "sub9" => first | exact fun _ h => h | exact sub_nil | (refine sub_cons ?_ ?_; (focus k_mem); k_extra "sub9") | (refine sub_app ?_ ?_; (focus k_extra "sub9"); k_extra "sub9") | (intro zp9 zhp9; k_mem))
  trivial
/-- several witnesses at once: one constructor in place of a nest (smaller proof terms) -/
inductive Ex2 {T1 T2 : Type} (P : T1 → T2 → Prop) : Prop where
  | mk (x1 : T1) (x2 : T2) (h : P x1 x2) : Ex2 P
inductive Ex3 {T1 T2 T3 : Type} (P : T1 → T2 → T3 → Prop) : Prop where
  | mk (x1 : T1) (x2 : T2) (x3 : T3) (h : P x1 x2 x3) : Ex3 P
inductive Ex4 {T1 T2 T3 T4 : Type} (P : T1 → T2 → T3 → T4 → Prop) : Prop where
  | mk (x1 : T1) (x2 : T2) (x3 : T3) (x4 : T4) (h : P x1 x2 x3 x4) : Ex4 P
inductive Ex5 {T1 T2 T3 T4 T5 : Type} (P : T1 → T2 → T3 → T4 → T5 → Prop) : Prop where
  | mk (x1 : T1) (x2 : T2) (x3 : T3) (x4 : T4) (x5 : T5) (h : P x1 x2 x3 x4 x5) : Ex5 P
inductive Ex6 {T1 T2 T3 T4 T5 T6 : Type} (P : T1 → T2 → T3 → T4 → T5 → T6 → Prop) : Prop where
  | mk (x1 : T1) (x2 : T2) (x3 : T3) (x4 : T4) (x5 : T5) (x6 : T6) (h : P x1 x2 x3 x4 x5 x6) : Ex6 P
inductive Ex7 {T1 T2 T3 T4 T5 T6 T7 : Type} (P : T1 → T2 → T3 → T4 → T5 → T6 → T7 → Prop) : Prop where
  | mk (x1 : T1) (x2 : T2) (x3 : T3) (x4 : T4) (x5 : T5) (x6 : T6) (x7 : T7) (h : P x1 x2 x3 x4 x5 x6 x7) : Ex7 P
inductive Ex8 {T1 T2 T3 T4 T5 T6 T7 T8 : Type} (P : T1 → T2 → T3 → T4 → T5 → T6 → T7 → T8 → Prop) : Prop where
  | mk (x1 : T1) (x2 : T2) (x3 : T3) (x4 : T4) (x5 : T5) (x6 : T6) (x7 : T7) (x8 : T8) (h : P x1 x2 x3 x4 x5 x6 x7 x8) : Ex8 P
inductive Ex9 {T1 T2 T3 T4 T5 T6 T7 T8 T9 : Type} (P : T1 → T2 → T3 → T4 → T5 → T6 → T7 → T8 → T9 → Prop) : Prop where
  | mk (x1 : T1) (x2 : T2) (x3 : T3) (x4 : T4) (x5 : T5) (x6 : T6) (x7 : T7) (x8 : T8) (x9 : T9) (h : P x1 x2 x3 x4 x5 x6 x7 x8 x9) : Ex9 P
inductive Ex10 {T1 T2 T3 T4 T5 T6 T7 T8 T9 T10 : Type} (P : T1 → T2 → T3 → T4 → T5 → T6 → T7 → T8 → T9 → T10 → Prop) : Prop where
  | mk (x1 : T1) (x2 : T2) (x3 : T3) (x4 : T4) (x5 : T5) (x6 : T6) (x7 : T7) (x8 : T8) (x9 : T9) (x10 : T10) (h : P x1 x2 x3 x4 x5 x6 x7 x8 x9 x10) : Ex10 P
inductive Ex11 {T1 T2 T3 T4 T5 T6 T7 T8 T9 T10 T11 : Type} (P : T1 → T2 → T3 → T4 → T5 → T6 → T7 → T8 → T9 → T10 → T11 → Prop) : Prop where
  | mk (x1 : T1) (x2 : T2) (x3 : T3) (x4 : T4) (x5 : T5) (x6 : T6) (x7 : T7) (x8 : T8) (x9 : T9) (x10 : T10) (x11 : T11) (h : P x1 x2 x3 x4 x5 x6 x7 x8 x9 x10 x11) : Ex11 P
inductive Ex16 {T1 T2 T3 T4 T5 T6 T7 T8 T9 T10 T11 T12 T13 T14 T15 T16 : Type} (P : T1 → T2 → T3 → T4 → T5 → T6 → T7 → T8 → T9 → T10 → T11 → T12 → T13 → T14 → T15 → T16 → Prop) : Prop where
  | mk (x1 : T1) (x2 : T2) (x3 : T3) (x4 : T4) (x5 : T5) (x6 : T6) (x7 : T7) (x8 : T8) (x9 : T9) (x10 : T10) (x11 : T11) (x12 : T12) (x13 : T13) (x14 : T14) (x15 : T15) (x16 : T16) (h : P x1 x2 x3 x4 x5 x6 x7 x8 x9 x10 x11 x12 x13 x14 x15 x16) : Ex16 P
inductive Al3 (p1 p2 p3 : Prop) : Prop where
  | mk (h1 : p1) (h2 : p2) (h3 : p3) : Al3 p1 p2 p3
inductive Al4 (p1 p2 p3 p4 : Prop) : Prop where
  | mk (h1 : p1) (h2 : p2) (h3 : p3) (h4 : p4) : Al4 p1 p2 p3 p4
inductive Al5 (p1 p2 p3 p4 p5 : Prop) : Prop where
  | mk (h1 : p1) (h2 : p2) (h3 : p3) (h4 : p4) (h5 : p5) : Al5 p1 p2 p3 p4 p5
inductive Al6 (p1 p2 p3 p4 p5 p6 : Prop) : Prop where
  | mk (h1 : p1) (h2 : p2) (h3 : p3) (h4 : p4) (h5 : p5) (h6 : p6) : Al6 p1 p2 p3 p4 p5 p6
inductive Al7 (p1 p2 p3 p4 p5 p6 p7 : Prop) : Prop where
  | mk (h1 : p1) (h2 : p2) (h3 : p3) (h4 : p4) (h5 : p5) (h6 : p6) (h7 : p7) : Al7 p1 p2 p3 p4 p5 p6 p7
inductive Al8 (p1 p2 p3 p4 p5 p6 p7 p8 : Prop) : Prop where
  | mk (h1 : p1) (h2 : p2) (h3 : p3) (h4 : p4) (h5 : p5) (h6 : p6) (h7 : p7) (h8 : p8) : Al8 p1 p2 p3 p4 p5 p6 p7 p8
inductive Al9 (p1 p2 p3 p4 p5 p6 p7 p8 p9 : Prop) : Prop where
  | mk (h1 : p1) (h2 : p2) (h3 : p3) (h4 : p4) (h5 : p5) (h6 : p6) (h7 : p7) (h8 : p8) (h9 : p9) : Al9 p1 p2 p3 p4 p5 p6 p7 p8 p9
inductive Al10 (p1 p2 p3 p4 p5 p6 p7 p8 p9 p10 : Prop) : Prop where
  | mk (h1 : p1) (h2 : p2) (h3 : p3) (h4 : p4) (h5 : p5) (h6 : p6) (h7 : p7) (h8 : p8) (h9 : p9) (h10 : p10) : Al10 p1 p2 p3 p4 p5 p6 p7 p8 p9 p10
inductive Al11 (p1 p2 p3 p4 p5 p6 p7 p8 p9 p10 p11 : Prop) : Prop where
  | mk (h1 : p1) (h2 : p2) (h3 : p3) (h4 : p4) (h5 : p5) (h6 : p6) (h7 : p7) (h8 : p8) (h9 : p9) (h10 : p10) (h11 : p11) : Al11 p1 p2 p3 p4 p5 p6 p7 p8 p9 p10 p11
inductive Al14 (p1 p2 p3 p4 p5 p6 p7 p8 p9 p10 p11 p12 p13 p14 : Prop) : Prop where
  | mk (h1 : p1) (h2 : p2) (h3 : p3) (h4 : p4) (h5 : p5) (h6 : p6) (h7 : p7) (h8 : p8) (h9 : p9) (h10 : p10) (h11 : p11) (h12 : p12) (h13 : p13) (h14 : p14) : Al14 p1 p2 p3 p4 p5 p6 p7 p8 p9 p10 p11 p12 p13 p14
inductive Al15 (p1 p2 p3 p4 p5 p6 p7 p8 p9 p10 p11 p12 p13 p14 p15 : Prop) : Prop where
  | mk (h1 : p1) (h2 : p2) (h3 : p3) (h4 : p4) (h5 : p5) (h6 : p6) (h7 : p7) (h8 : p8) (h9 : p9) (h10 : p10) (h11 : p11) (h12 : p12) (h13 : p13) (h14 : p14) (h15 : p15) : Al15 p1 p2 p3 p4 p5 p6 p7 p8 p9 p10 p11 p12 p13 p14 p15
inductive Al17 (p1 p2 p3 p4 p5 p6 p7 p8 p9 p10 p11 p12 p13 p14 p15 p16 p17 : Prop) : Prop where
  | mk (h1 : p1) (h2 : p2) (h3 : p3) (h4 : p4) (h5 : p5) (h6 : p6) (h7 : p7) (h8 : p8) (h9 : p9) (h10 : p10) (h11 : p11) (h12 : p12) (h13 : p13) (h14 : p14) (h15 : p15) (h16 : p16) (h17 : p17) : Al17 p1 p2 p3 p4 p5 p6 p7 p8 p9 p10 p11 p12 p13 p14 p15 p16 p17
noncomputable abbrev LOOSE : List Str := looseW seenText [Str.ofString "PostError"]

noncomputable def Apart (tl news : List (Addr × Obj)) : Prop := ∀ p ∈ tl, ∀ q ∈ news, p.1 ≠ q.1
theorem Apart.nil {news : List (Addr × Obj)} : Apart [] news := fun _ h => nomatch h
theorem Apart.trans {tl tl' news : List (Addr × Obj)} (h' : Apart tl' (tl ++ news)) (h : Apart tl news) : Apart (tl' ++ tl) news := by
  intro p hp q hq
  rcases List.mem_append.mp hp with hp | hp
  · exact h' p hp q (List.mem_append.mpr (.inr hq))
  · exact h p hp q hq
theorem Apart.one {a : Addr} {o : Obj} {news : List (Addr × Obj)} (h : ∀ p ∈ news, p.1 < a) : Apart [(a, o)] news := by
  intro p hp q hq
  rw [List.mem_singleton.mp hp]
  exact Ne.symm (Nat.ne_of_lt (h q hq))
theorem Apart.cons {a : Addr} {o : Obj} {tl news : List (Addr × Obj)} (h : ∀ p ∈ news, p.1 ≠ a) (k : Apart tl news) : Apart ((a, o) :: tl) news := by
  intro p hp q hq
  rcases List.mem_cons.mp hp with rfl | hp
  · exact Ne.symm (h q hq)
  · exact k p hp q hq
theorem Apart.sub {tl news tl' news' : List (Addr × Obj)} (h : Apart tl news) (h1 : ∀ p ∈ tl', p ∈ tl) (h2 : ∀ p ∈ news', p ∈ news) : Apart tl' news' := fun p hp q hq => h p (h1 p hp) q (h2 q hq)

section
variable {prog : Program} {w : World} {A : Around} {E : Value → Shared → Prop} {s : Shared} {h₀ : Heap} {L : Addr} {m : Str → Option Value} {news : List (Addr × Obj)}

theorem my_item {value slice : PySem.Expr} {a : Addr} {l : List Value} {e : Nat} {k : Int} {u : Tok} {x : Value} {Q : Value → Shared → Prop} (N : News h₀ L s.heap news) (hm : (a, W.listOf l.toArray e) ∈ news)
    (h0 : 0 ≤ k) (hfit : k < 2 ^ 63) (hx : l[k.toNat]? = some x) (h : Q x s)
    (hs : subscripted slice false (.ref a) (.int k u) = operate [.ref a, .int k u] (getItem (.ref a) (.int k u)) := by with_unfolding_all rfl) :
    wpAny (model prog w) A (subscriptTail value slice (.ref a) (.int k u)) Q E s :=
  have hl : s.heap.IsList a l.toArray := ⟨_, (N _ hm).1, rfl, _, rfl⟩
  tail_any hl.typeIs slot_list_getitem.lookup (wpAny_getItem_list hl h0 hfit (by simpa using hx) h) hs

/-- a comprehension's turns by an invariant over what was made -/
theorem rest_inv {env : Env} {elt : PySem.Expr} {x : Str} {scope : Scope} {cl : List (Str × Addr)} {S : List (Addr × Obj) → Prop} {P : Nat → Value → Prop} {Fin : List Value → List (Addr × Obj) → Prop} {n : Nat}
    (J : Nat → List Value → List (Addr × Obj) → Prop) (start : J 0 [] news)
    (turn : ∀ i v ys news₁ I oI oC C D m₂ h tk (E' : Value → Shared → Prop), i < n → P i v → J i ys news₁ → LCg.NsObj oC m₂ → m₂ x = some v → Fr h₀ L h m → News h₀ L h ((I, oI) :: (C, oC) :: (D, LCg.lst ys) :: news₁) → LCg.Off3 I C D news₁ → ((@Ne Nat I C) ∧ (@Ne Nat I D) ∧ (@Ne Nat C D)) →
      wpAny (model prog w) A (eval elt (compEnvC scope cl C env)) (LCg.CompEnd h₀ L m { s with heap := h, toks := tk } I oI C oC D (LCg.lst ys) S (fun y news' => J (i + 1) (ys ++ [y]) news')) E' { s with heap := h, toks := tk })
    (fin : ∀ ys news', J n ys news' → Fin ys news') : LCg.CompRest prog w A h₀ L m env elt x scope cl s S P Fin n 0 [] news := by
  have key : ∀ (j i : Nat) (ys : List Value) (nw : List (Addr × Obj)), i + j = n → J i ys nw → LCg.CompRest prog w A h₀ L m env elt x scope cl s S P Fin j i ys nw := by
    intro j
    induction j with
    | zero =>
      intro i ys nw hi hj
      have e : i = n := by k_extra "ar9"
      subst e
      exact LCg.CompRest.zero (fin ys nw hj)
    | succ j ih =>
      intro i ys nw hi hj
      refine LCg.CompRest.succ ?_
      intro v I oI C oC D m₂ h tk E' hv hC hx F N off ne
      refine wpAny_mono (turn i v ys nw I oI oC C D m₂ h tk E' (by k_extra "ar9") hv hj hC hx F N off ne) (fun y s₂ hq => ?_) fun _ _ e => e
      obtain ⟨h', tk', nw', e, F', N', off', hS, hJ⟩ := hq
      exact ⟨h', tk', nw', e, F', N', off', hS, ih (i + 1) _ _ (by k_extra "ar9") hJ⟩
  exact key n 0 [] news (by k_extra "ar9") start
end

theorem rows4 : True := by
  (k_with "subscriptTail" => (k_here; (with_reducible show wpAny _ _ (subscriptTail _ _ (Value.ref _) (Value.int _ _)) _ _ _); k_dflt (refine' my_item ?zqN ?zqm ?zqa ?zqb ?zqd ?_; (case zqN => k_asm); (case zqm => k_mem); (case zqa => decide); (case zqb => decide); (case zqd => rfl))))
  (k_with "eval ListComp" => (k_here; lcg_look; k_dflt (refine LCg.ListComp_U (F₀ := by k_asm) (by rfl) (by decide) (by rfl) (by decide) (by rfl) ?_)))
  trivial
section
variable {prog : Program} {w : World} {A A₀ : Around} {E : Value → Shared → Prop} {s : Shared} {K : Frag} {L : Addr} {h₀ base : Heap} {m mg mb : Str → Option Value} {news : List (Addr × Obj)} {p : Program} {loose : List Str} {mean : ExcName → Option Value}

/-- a frame's names, by place -/
noncomputable def nm : List Str → List Value → Str → Option Value
  | x :: xs, v :: vs => fun y => if y = x then some v else nm xs vs y
  | _, _ => fun _ => none
theorem nm_zip (xs : List Str) (vs : List Value) (hx : xs.Nodup) : (fun y => (xs.zip vs).reverse.lookup y) = nm xs vs := by
  induction xs generalizing vs with
  | nil => cases vs <;> rfl
  | cons x xs ih =>
    cases vs with
    | nil => rfl
    | cons v vs =>
      have hx' := List.nodup_cons.mp hx
      funext y
      have q := congrFun (ih vs hx'.2) y
      simp only [List.zip_cons_cons, List.reverse_cons, nm, List.lookup_append]
      by_cases hy : y = x
      · subst hy
        have : (xs.zip vs).reverse.lookup y = none := by
          rw [q]
          clear q ih
          have hn := hx'.1
          clear hx hx'
          induction xs generalizing vs with
          | nil => cases vs <;> rfl
          | cons z xs ih =>
            cases vs with
            | nil => rfl
            | cons u vs =>
              have hz : y ≠ z := fun e => hn (e ▸ List.mem_cons_self)
              simp only [nm, if_neg hz]
              exact ih vs fun e => hn (List.mem_cons_of_mem _ e)
        rw [this]
        simp [List.lookup]
      · have hb : (y == x) = false := by simpa using hy
        rw [if_neg hy, ← q]
        cases h : (xs.zip vs).reverse.lookup y <;> simp [List.lookup, hb]

theorem enter_pos {env : Env} {outer : List Env} {R : Result → Shared → Prop} {name qual : Str} {as : List PySem.Arg} {ds : List PySem.Expr} {body : List Stmt} {scope : Scope} {dV kV doc pm cdv ct oc : Value} {an od : Option Addr} {osl : Array (Option Value)} {f : Addr} {vs : List Value} {xs : List Str}
    (B : Below A₀ base outer h₀) (F : Fr h₀ L s.heap m) (X₀ : K.In h₀) (N : News h₀ L s.heap news) (T : Top p loose mean mg mb h₀) (hA : A.frames = some (env :: outer)) (hf : env.frame = some L) (hke : env.scope.kind = .function)
    (ho : K.lookup f = some ⟨oc, od, .func (fnOf name qual { posonlyargs := [], args := as, vararg := none, kwonlyargs := [], kw_defaults := [], kwarg := none, defaults := ds } body scope dV kV doc pm an cdv ct), osl⟩) (hcd : codeIn K cdv qual = true) (hroom : A.depth < recursionLimit)
    (hxs : as.map (·.arg) = xs)
    (hbind : bindArgs (fnOf name qual { posonlyargs := [], args := as, vararg := none, kwonlyargs := [], kw_defaults := [], kwarg := none, defaults := ds } body scope dV kV doc pm an cdv ct) ⟨vs, []⟩ = pure (xs.zip vs)) (hnd : xs.Nodup) (hloc : ∀ y ∈ xs, scope.names.lookup y = some .local)
    (h : ∀ g L' h₁ tk, Fr h₀ L g m → Fr g L' h₁ (nm xs vs) → News g L' h₁ news → Below A base (env :: outer) g → K.In g → Top p loose mean mg mb g →
      wpAny (model prog w) (A.deeper (envOf qual scope L' f cdv)) (execs body (envOf qual scope L' f cdv))
        (fun fl s' => LeaveK h₀ L m g R (match fl with | .ret v => v | _ => .none) s')
        (fun e s' => wpAny (model prog w) (A.deeper (envOf qual scope L' f cdv)) (leaving (envOf qual scope L' f cdv) e) (fun _ s'' => R (.error e) s'') (fun e' s'' => R (.error e') s'') s')
        { s with heap := h₁, toks := tk })
    (hco : scope.isCoroutine = false) (hgen : scope.isGenerator = false) (hk : scope.kind = .function)
    (hcell : ∀ x ∈ scope.names, x.2 ≠ .cell) : codeAny (model prog w) A (.call (.ref f) ⟨vs, []⟩) R s :=
  code_def B F X₀ N T hA hf hke ho hcd hroom (BindsTo.of_eq hbind) (fun y hy => hloc _ (List.of_mem_zip hy).1)
    (fun g L' h₁ FG F' N' B' X' T' => h g L' h₁ _ FG (nm_zip xs vs hnd ▸ F') N' B' X' T') hco hgen hk hcell
end

local macro_rules | `(tactic| k_room) => `(tactic| k_extra "k_room")
theorem rows5 : True := by
  (k_with "k_room" => first | ((try simp only [depth_under_make, depth_under_kw, depth_in1, depth_deeper]); k_extra "ar9") | ((try simp only [depth_under_make, depth_under_kw, depth_in1, depth_deeper] at *); k_extra "ar9"))
  trivial
local macro_rules | `(tactic| k_enter) => `(tactic| k_extra "k_enter")
theorem rows6 : True := by
  (k_with "k_enter" => first | (k_dflt (refine' enter_pos ?zqk1 ?zqk2 ?zqk3 ?zqk4 ?zqk5 ?zqkA ?zqkF ?zqkK ?zqk6 ?zqk7 ?zqk8 ?zqkX ?zqk9 ?zqkN ?zqkB ?_ ?zqc2 ?zqc3 ?zqc4 ?zqc5; (case zqkA => first | assumption | exact rfl | exact Around.frames_deeper (by assumption) | exact Around.frames_deeper (Around.frames_deeper (by assumption)) | exact Around.frames_deeper (Around.frames_deeper (Around.frames_deeper (by assumption)))); (case zqkF => first | assumption | exact rfl); (case zqkK => first | assumption | exact rfl); (case zqk1 => k_asm); (case zqk2 => k_asm); (case zqk3 => k_asm); (case zqk4 => k_asm); (case zqk5 => k_asm); (case zqk6 => k_is); (case zqk7 => k_is); (case zqk8 => k_room); (case zqkX => exact rfl); (case zqk9 => exact rfl); (case zqkN => decide); (case zqkB => decide); (case zqc5 => decide); (case zqc2 => exact rfl); (case zqc3 => exact rfl); (case zqc4 => exact rfl); k_whole; intro zg' zL' zh' ztk' zFG' zF' zN' zB' zX' zT'; (try k_fold))) | (k_dflt (refine' code_defC ?zqk1 ?zqk2 ?zqk3 ?zqk4 ?zqk5 ?zqkA ?zqkF ?zqkK ?zqk6 ?zqk7 ?zqk8 ?zqk9 ?zqkB ?zqkD ?_ ?zqc2 ?zqc3 ?zqc4; (case zqkA => first | assumption | exact rfl | exact Around.frames_deeper (by assumption) | exact Around.frames_deeper (Around.frames_deeper (by assumption)) | exact Around.frames_deeper (Around.frames_deeper (Around.frames_deeper (by assumption)))); (case zqkF => first | assumption | exact rfl); (case zqkK => first | assumption | exact rfl); (case zqk1 => k_asm); (case zqk2 => k_asm); (case zqk3 => k_asm); (case zqk4 => k_asm); (case zqk5 => k_asm); (case zqk6 => k_is); (case zqk7 => k_is); (case zqk8 => k_room); (case zqk9 => first | exact BindsTo.of_eq rfl | exact binds_K (by k_in) rfl (by k_is) rfl rfl rfl | fail "k_enter: no rule for these arguments"); (case zqkB => exact rfl); (case zqkD => decide +kernel); (case zqc2 => exact rfl); (case zqc3 => exact rfl); (case zqc4 => exact rfl); k_whole; intro zg' zL' zh' ztk' zcells' zFG' zF' zN' zY' zB' zX' zT' zl1; (try k_lt zl1); k_cells zY'; (try simp only [List.cons_append, List.nil_append] at zN'); (try dsimp only); (try k_fold))))
  trivial
noncomputable def dats : F → List Dat
  | .nil => []
  | .cons n k r => .tuple [.int n, .tuple (dats k)] :: dats r

/-- list trees -/
inductive LIn (news : List (Addr × Obj)) : List Value → F → Prop
  | nil : LIn news [] .nil
  | cons {a b : Addr} {n : Int} {tk : Tok} {ea eb : Nat} {kv vs : List Value} {k r : F} :
      (a, W.listOf [Value.int n tk, Value.ref b].toArray ea) ∈ news → (b, W.listOf kv.toArray eb) ∈ news → LIn news kv k → LIn news vs r → LIn news (.ref a :: vs) (.cons n k r)
theorem LIn.mono {news news' : List (Addr × Obj)} (hs : ∀ p ∈ news, p ∈ news') {vs : List Value} {f : F} (h : LIn news vs f) : LIn news' vs f := by
  induction h with
  | nil => exact .nil
  | cons h1 h2 _ _ i3 i4 => exact .cons (hs _ h1) (hs _ h2) i3 i4
theorem LIn.len {news : List (Addr × Obj)} {vs : List Value} {f : F} (h : LIn news vs f) : vs.length = f.len := by
  induction h with
  | nil => rfl
  | cons h1 h2 _ _ i3 i4 => simp [F.len, i4]
theorem LIn.at {news : List (Addr × Obj)} {vs : List Value} {f : F} (h : LIn news vs f) : ∀ {i : Nat} {v : Value}, vs[i]? = some v →
    ∃ n k, f.at i = some (n, k) ∧ LIn news [v] (.cons n k .nil) := by
  induction h with
  | nil => intro i v hv; simp at hv
  | @cons a b n tk ea eb kv vs k r h1 h2 h3 h4 i3 i4 =>
    intro i v hv
    cases i with
    | zero =>
      simp only [List.getElem?_cons_zero, Option.some.injEq] at hv
      subst hv
      exact ⟨n, k, rfl, .cons h1 h2 h3 .nil⟩
    | succ i =>
      simp only [List.getElem?_cons_succ] at hv
      obtain ⟨n', k', hs, hl⟩ := i4 hv
      exact ⟨n', k', hs, hl⟩
theorem F.at_dats : ∀ {f : F} {i : Nat} {n : Int} {k : F}, f.at i = some (n, k) → (dats f)[i]? = some (.tuple [.int n, .tuple (dats k)])
  | .cons n k r, 0, _, _, h => by simp only [F.at, Option.some.injEq, Prod.mk.injEq] at h; obtain ⟨rfl, rfl⟩ := h; rfl
  | .cons n k r, i + 1, _, _, h => by simp only [F.at] at h; simpa [dats] using F.at_dats h
theorem dats_len : ∀ f : F, (dats f).length = f.len
  | .nil => rfl
  | .cons _ _ r => by simp [dats, F.len, dats_len r]

noncomputable def Fun (w : World) (mean : ExcName → Option Value) (mg mb : Str → Option Value) (f : Addr) (need : Nat) (Pre : List (Addr × Obj) → List Value → Prop) (Post : List (Addr × Obj) → Value → Prop) : Prop :=
  ∀ (A A₀ : Around) (base h₀ : Heap) (outer : List Env) (L : Addr) (m : Str → Option Value) (news : List (Addr × Obj)) (s : Shared) (env : Env) (Q E : Value → Shared → Prop) (vs : List Value),
    Below A₀ base outer h₀ → Fr h₀ L s.heap m → (hd.heap_1 w.params).In h₀ → News h₀ L s.heap news → Top seenText LOOSE mean mg mb h₀ →
    A.frames = some (env :: outer) → env.frame = some L → env.scope.kind = .function → A.handled = none →
    A.depth + need < recursionLimit → A.units + 16 * need < cLine → Pre news vs →
    (∀ r tl h' tk', Fr h₀ L h' m → News h₀ L h' (tl ++ news) → Apart tl news → Post tl r → Q r { s with heap := h', toks := tk' }) →
    wpAny (model Challenge.rw_or0039_01.row.prog w) A (call (.ref f) vs) Q E s

theorem Fun.use {w : World} {mean : ExcName → Option Value} {mg mb : Str → Option Value} {f : Addr} {need : Nat} {Pre : List (Addr × Obj) → List Value → Prop} {Post : List (Addr × Obj) → Value → Prop} (C : Fun w mean mg mb f need Pre Post)
    {A A₀ : Around} {base h₀ : Heap} {outer : List Env} {L : Addr} {m : Str → Option Value} {news : List (Addr × Obj)} {s : Shared} {env : Env} {Q E : Value → Shared → Prop} {vs : List Value}
    (B : Below A₀ base outer h₀) (hF : Fr h₀ L s.heap m) (X : (hd.heap_1 w.params).In h₀) (N : News h₀ L s.heap news) (T : Top seenText LOOSE mean mg mb h₀)
    (hA : A.frames = some (env :: outer)) (hf : env.frame = some L) (hk : env.scope.kind = .function) (hh : A.handled = none)
    (hd : A.depth + need < recursionLimit) (hu : A.units + 16 * need < cLine) (hp : Pre news vs)
    (ret : ∀ r tl h' tk', Fr h₀ L h' m → News h₀ L h' (tl ++ news) → Apart tl news → Post tl r → Q r { s with heap := h', toks := tk' }) :
    wpAny (model Challenge.rw_or0039_01.row.prog w) A (call (.ref f) vs) Q E s := C _ _ _ _ _ _ _ _ _ _ _ _ _ B hF X N T hA hf hk hh hd hu hp ret

theorem off3_of {I C D : Addr} {oI oC oD : Obj} {tl news : List (Addr × Obj)} (ha : Apart tl ((I, oI) :: (C, oC) :: (D, oD) :: news)) (ho : LCg.Off3 I C D news) : LCg.Off3 I C D (tl ++ news) := by
  refine LCg.Off3.of fun p hp => ?_
  rcases List.mem_append.mp hp with hp | hp
  · exact ⟨ha p hp _ (.head _), ha p hp _ (.tail _ (.head _)), ha p hp _ (.tail _ (.tail _ (.head _)))⟩
  · exact ho.mem p hp
theorem DatAll.snoc' {news news' : List (Addr × Obj)} {vs : List Value} {ds : List Dat} {v : Value} {d : Dat} (h : DatAll news vs ds) (hs : ∀ p ∈ news, p ∈ news') (hv : DatIn news' v d) : DatAll news' (vs ++ [v]) (ds ++ [d]) := (h.mono hs).append (.one hv)
theorem perm3 {a b c : Addr × Obj} {tl nw : List (Addr × Obj)} : ∀ p ∈ a :: b :: c :: (tl ++ nw), p ∈ tl ++ a :: b :: c :: nw := by
  intro p hp
  simp only [List.mem_cons, List.mem_append] at hp ⊢
  rcases hp with h | h | h | h | h <;> simp [h]
theorem ap_lt {d : Addr} {l : List (Addr × Obj)} {q : Addr × Obj} (h : ∀ p ∈ l, p.1 < d) (m : q ∈ l) : d ≠ q.1 := Ne.symm (Nat.ne_of_lt (h q m))
theorem ap_lt2 {d x : Addr} {l : List (Addr × Obj)} {q : Addr × Obj} (h2 : @LT.lt Nat _ d x) (h : ∀ p ∈ l, p.1 < d) (m : q ∈ l) : x ≠ q.1 := Ne.symm (Nat.ne_of_lt (Nat.lt_trans (h q m) h2))
theorem ap_off {d : Addr} {q : Addr × Obj} : ∀ {l : List (Addr × Obj)}, LCg.Off1 d l → q ∈ l → d ≠ q.1
  | [], _, h => nomatch h
  | _ :: _, x, h => by
    rcases List.mem_cons.mp h with rfl | h
    · exact Ne.symm x.1
    · exact ap_off x.2 h
theorem ap_use {tl news : List (Addr × Obj)} {p q : Addr × Obj} (h : Apart tl news) (hp : p ∈ tl) (hq : q ∈ news) : p.1 ≠ q.1 := h p hp q hq

-- keeps the plain fact beside the library's own form
local macro_rules | `(tactic| k_lt $h:ident) => `(tactic| ((have l9 := $h); (replace $h := allLt_of $h); (try simp only [AllLt, and_true] at $h:ident)))
-- sizes
local macro_rules | `(tactic| tb_start) => `(tactic| k_extra "tb_start")
theorem rows7 : True := by
  (k_with "tb_start" => first | k_extra "ar9" | ((try simp only [List.size_toArray, Array.size_push, List.length_append, List.length_cons, List.length_nil, sizeLine_eq] at *); k_extra "ar9"))
  trivial
-- apart
theorem ap_cons {p : Addr × Obj} {tl news : List (Addr × Obj)} (h : ∀ q ∈ news, p.1 ≠ q.1) (k : Apart tl news) : Apart (p :: tl) news := by
  intro x hx q hq
  rcases List.mem_cons.mp hx with rfl | hx
  · exact h q hq
  · exact k x hx q hq
theorem ap_app {tl tl' news : List (Addr × Obj)} (h : Apart tl news) (k : Apart tl' news) : Apart (tl ++ tl') news := by
  intro x hx q hq
  rcases List.mem_append.mp hx with hx | hx
  · exact h x hx q hq
  · exact k x hx q hq
theorem ap_get {tl news news' : List (Addr × Obj)} (h : Apart tl news) (k : ∀ p ∈ news', p ∈ news) : Apart tl news' := fun p hp q hq => h p hp q (k q hq)
local macro_rules | `(tactic| tb_rel) => `(tactic| k_extra "tb_rel")
theorem rows8 : True := by
  (k_with "tb_rel" => first | exact Apart.nil | with_reducible assumption | exact ap_get (by with_reducible assumption) (by k_extra "sub9") | (refine ap_cons (fun q9 hq9 => ?_) ?_; (first | exact ap_lt (by with_reducible assumption) (by k_mem) | exact ap_off (by with_reducible assumption) (by k_mem) | exact ap_lt2 (by assumption) (by with_reducible assumption) (by k_mem)); tb_rel) | (refine ap_app ?_ ?_ <;> tb_rel))
  (k_with "call type:tuple" => (k_here; (with_reducible show wpAny _ _ (call (Value.type _) [Value.ref _]) _ _ _); k_dflt (refine' kde_tupleOf ?zqk1 ?zqk2 ?zqk3 ?zqk4 ?zqk5 ?_; (case zqk1 => k_asm); (case zqk2 => k_asm); (case zqk3 => exact News.isList (by k_asm) (by k_mem)); (case zqk4 => tb_start); (case zqk5 => exact rfl); k_whole); intro zD' zh' zF' zN' zl1; (try k_lt zl1)))
  trivial
/-- a place where the walk waits for a hand -/
inductive Halt (P : Prop) : Prop
  | mk (h : P) : Halt P
theorem Halt.out {P : Prop} : Halt P → P := fun ⟨h⟩ => h
theorem rows9 : True := by
  (k_with "exec While" => (k_here; refine Halt.out ?_))
  (k_with "exec For" => (k_here; refine Halt.out ?_))
  (k_with "exec Raise" => (k_here; refine Halt.out ?_))
  (k_with "call ref" => (k_here; (with_reducible show wpAny _ _ (call (Value.ref 177) _) _ _ _); refine Halt.out ?_))
  (k_with "call ref" => (k_here; (with_reducible show wpAny _ _ (call (Value.ref 187) _) _ _ _); refine Halt.out ?_))
  trivial
noncomputable def S (l : List Nat) : Str := ⟨l.toArray⟩

section
variable {prog : Program} {w : World} {A : Around} {E : Value → Shared → Prop} {s : Shared} {h₀ : Heap} {L : Addr} {m : Str → Option Value} {news : List (Addr × Obj)}
theorem my_len {a : Addr} {l : List Value} {e : Nat} {Q : Value → Shared → Prop} (N : News h₀ L s.heap news) (hm : (a, W.listOf l.toArray e) ∈ news) (hfit : l.length < 4000000)
    (h : ∀ t tk, Q (.int (l.length : Int) t) { s with toks := tk }) : wpAny (model prog w) A (call (.builtin "len") [.ref a]) Q E s := by
  have hl : s.heap.IsList a l.toArray := ⟨_, (N _ hm).1, rfl, _, rfl⟩
  have hz : l.toArray.size = l.length := List.size_toArray
  exact PySem.Calls.call_len_list hl (by rw [hz]; k_extra "ar9") (by rw [hz]; exact h _ _)
end
theorem rows10 : True := by
  (k_with "call builtin:len" => (k_here; (with_reducible show wpAny _ _ (call (Value.builtin "len") [Value.ref _]) _ _ _); k_dflt (refine' my_len ?zqk1 ?zqk2 ?zqk3 ?_; (case zqk1 => k_asm); (case zqk2 => k_mem); (case zqk3 => tb_start); k_whole); intro zt' ztk'; (try dsimp only)))
  trivial
section
theorem told_ct (w : World) (mean : ExcName → Option Value) (mg mb : Str → Option Value) (sz : Nat) :
    ∀ n k, F.size k < sz → Fun w mean mg mb 177 sz (fun news vs => ∃ v, vs = [v] ∧ LIn news [v] (.cons n k .nil)) (fun news v => DatIn news v (.tuple [.int n, .tuple (dats k)])) := by
  induction sz with
  | zero => exact fun _ _ h => absurd h (Nat.not_lt_zero _)
  | succ sz ih =>
    intro n k hk
    unfold Fun
    k_fill
    intro A A₀ base h₀ outer L m news s env Q E vs B hF X N T hA hf hke hh hdp hu hp hret
    obtain ⟨v, rfl, hp⟩ := hp
    cases hp with
    | cons h1 h2 h3 h4 =>
    cases h4
    have hlen := h3.len
    have hle := F.len_le k
    have hrl : recursionLimit = 1000 := rfl
    refine wpAny_call ?_
    k_enter
    k_steps
    refine LCg.CompSrc.ledger ?hh (by k_asm) (by k_asm) h2 ?hsz ?_
    case hh => exact hh
    case hsz => rw [List.size_toArray, sizeLine_eq]; k_extra "ar9"
    intro g2
    refine rest_inv (fun i ys news₁ => ∃ tl, Al4 (news₁ = tl ++ news) (Apart tl news) (DatAll tl ys ((dats k).take i)) (ys.length = i)) ⟨[], rfl, Apart.nil, .nil, rfl⟩ ?_ ?_
    · intro i v ys news₁ I oI oC C D m₂ h tk E' hi hv hJ9 hoC hm₂ F₂ N₂ hoff hne
      (try k_fold)
      rcases hJ9 with ⟨tl, rfl, hap, hd, hyl⟩
      obtain ⟨n', k', hat, hl'⟩ := h3.at (by simpa using hv)
      have hs' := F.at_size hat
      have hd' := F.at_dats hat
      k_steps
      refine Halt.mk ?_
      refine Fun.use (ih n' k' (by k_extra "ar9")) (by k_asm) F₂ (by k_asm) N₂ (by k_asm) (Around.frames_deeper hA) rfl rfl hh ?_ ?_ ⟨v, rfl, hl'.mono ?_⟩ ?_
      · simp only [depth_deeper]; k_extra "ar9"
      · simp only [units_deeper]; k_extra "ar9"
      · exact fun p hp => .tail _ (.tail _ (.tail _ (List.mem_append_right _ hp)))
      intro r tl' h' tk' F₃ N₃ hap' hr
      refine LCg.CompEnd.intro F₃ N₃ (tl' ++ (tl ++ news)) perm3 (off3_of hap' hoff) ?_ ?_
      · exact Or.inr ⟨_, List.mem_append_right _ (List.mem_append_right _ h2), rfl, _, rfl⟩
      · refine ⟨tl' ++ tl, by rw [List.append_assoc], (hap'.sub (fun _ h => h) (fun _ h => .tail _ (.tail _ (.tail _ h)))).trans hap, ?_, by rw [List.length_append, hyl]; rfl⟩
        rw [List.take_add_one, hd']
        exact DatAll.snoc' hd (fun _ h => List.mem_append_right _ h) (hr.mono fun _ h => List.mem_append_left _ h)
    · intro ys news' hJ9
      (try k_fold)
      rcases hJ9 with ⟨tl, rfl, hap, hd, hyl⟩
      k_steps
      dsimp only at *
      rename News h₀ L _ _ => kN
      rename Fr h₀ L _ _ => kF
      refine hret _ ((_, _) :: (_, _) :: (_, _) :: tl) _ _ kF kN ?_ ?_
      · tb_rel
      · refine DatIn.tuple (.head _) (.cons (.int _ _) (.cons (DatIn.tuple (.tail _ (.head _)) ?_) .nil))
        refine DatAll.mono (fun p hp => .tail _ (.tail _ (.tail _ hp))) ?_
        rw [List.take_of_length_le (by rw [dats_len, List.size_toArray]; k_extra "ar9")] at hd
        exact hd
end
theorem S_app (a b : List Nat) : S a ++ S b = S (a ++ b) := by
  show Str.append _ _ = _
  simp [Str.append, S]
theorem S_len (a : List Nat) : (S a).length = a.length := by simp [S, Str.length]
theorem S_cps (a : List Nat) : (S a).cps.toList = a := by simp [S]
theorem S_nil : Str.empty = S [] := rfl
theorem S_eq (x : Str) : x = S x.cps.toList := by simp [S]
theorem S_inj {a b : List Nat} : S a = S b ↔ a = b := by
  constructor
  · intro h; have := congrArg (fun x => x.cps.toList) h; simpa [S] using this
  · intro h; rw [h]
theorem S_join (ls : List (List Nat)) : Str.join (S []) (ls.map S) = S ls.flatten := by
  induction ls with
  | nil => rfl
  | cons a r ih =>
    cases r with
    | nil => simp [Str.join]
    | cons b r =>
      rw [List.map_cons, List.map_cons, Str.join, ← List.map_cons, ih, S_app, S_app]
      · simp
      · simp
noncomputable def glue (sep : List Nat) : List (List Nat) → List Nat
  | [] => []
  | [x] => x
  | x :: y :: r => x ++ (sep ++ glue sep (y :: r))
theorem S_glue (sep : List Nat) (ls : List (List Nat)) : Str.join (S sep) (ls.map S) = S (glue sep ls) := by
  induction ls with
  | nil => rfl
  | cons a r ih =>
    cases r with
    | nil => simp [Str.join, glue]
    | cons b r =>
      rw [List.map_cons, List.map_cons, Str.join, ← List.map_cons, ih, S_app, S_app]
      · simp [glue]
      · simp
theorem glue_nil (ls : List (List Nat)) : glue [] ls = ls.flatten := by
  induction ls with
  | nil => rfl
  | cons a r ih =>
    cases r with
    | nil => simp [glue]
    | cons b r => simp [glue, ih]
theorem join_len (sep : List Nat) (ls : List (List Nat)) : (glue sep ls).length ≤ (ls.map List.length).sum + ls.length * sep.length := by
  induction ls with
  | nil => simp [glue]
  | cons a r ih =>
    cases r with
    | nil => simp [glue]
    | cons b r =>
      simp only [glue, List.length_append, List.map_cons, List.sum_cons, List.length_cons] at ih ⊢
      simp only [Nat.add_mul, Nat.one_mul] at ih ⊢
      k_extra "ar9"

theorem toDigits_dg (n : Nat) : Nat.toDigits 10 n = (dg n).map Char.ofNat := by
  by_cases h0 : n = 0
  · subst h0; rw [dg_small (by decide)]; rfl
  · obtain ⟨c, r, e, hc⟩ := dg_head n (by k_extra "ar9")
    have hall : AllDigits (dg n) := dg_all n
    have hv := dg_val n
    have hc2 := dg_all n c (by rw [e]; exact List.mem_cons_self)
    have hl : (dg n).length = r.length + 1 := by rw [e]; rfl
    have := toDigits_digitsVal r.length (dg n) hl hall (.inr ⟨c, r, e, by k_extra "ar9"⟩)
    rw [hv] at this
    exact this
theorem ofString_int (n : Int) (h : 0 < n) : Str.ofString (toString n) = S (digs n) := by
  obtain ⟨k, rfl⟩ := Int.eq_ofNat_of_zero_le (Int.le_of_lt h)
  rw [Str.ofString_eq_toList]
  unfold digs S
  rw [if_pos h]
  congr 1
  have e1 : toString (k : Int) = toString k := rfl
  have e2 : (toString k : String) = String.ofList (Nat.toDigits 10 k) := rfl
  rw [e1, e2, String.toList_ofList, toDigits_dg]
  simp only [Int.toNat_natCast, List.map_map]
  congr 1
  have : (dg k).map (Char.toNat ∘ Char.ofNat) = (dg k).map id := by
    apply List.map_congr_left
    intro c hc
    have := dg_all k c hc
    show (Char.ofNat c).toNat = c
    have hv : c.isValidChar := Or.inl (by k_extra "ar9")
    simp [Char.ofNat, hv, Char.toNat, Char.ofNatAux]
  rw [this, List.map_id]

theorem digs_len {n : Int} (h : n < 10 ^ 20) : (digs n).length ≤ 20 := by
  unfold digs
  split
  · exact dg_len 19 n.toNat (by
      have e : ((10 ^ 20 : Nat) : Int) = 10 ^ 20 := by norm_cast
      k_extra "ar9")
  · simp
mutual
theorem inside_len : ∀ (n : Int) (k : F), n < 10 ^ 20 → k.ok → (inside n k).length ≤ 26 * k.size + 20
  | n, .nil, hn, _ => by rw [inside]; have := digs_len hn; simp only [F.size]; k_extra "ar9"
  | n, .cons m k .nil, hn, h => by
    rw [inside]
    have h1 := digs_len hn
    have h2 := inside_len m k h.1.2 h.2.1
    simp only [List.length_append, List.length_cons, F.size] at *
    k_extra "ar9"
  | n, .cons m k (.cons m2 k2 r), hn, h => by
    rw [inside]
    have h1 := digs_len hn
    have h2 := inside_len m k h.1.2 h.2.1
    have h3 := lists_len (.cons m2 k2 r) h.2.2
    have h4 : ((if 0 < n then [32] else []) : List Nat).length ≤ 1 := by split <;> simp
    simp only [List.length_append, List.length_cons, F.size] at *
    k_extra "ar9"
theorem lists_len : ∀ (f : F), f.ok → (lists f).length ≤ 26 * f.size
  | .nil, _ => by rw [lists]; simp
  | .cons m k r, h => by
    rw [lists]
    have h2 := inside_len m k h.1.2 h.2.1
    have h3 := lists_len r h.2.2
    simp only [List.length_append, List.length_cons, F.size] at *
    k_extra "ar9"
end

theorem lit_0 : Str.ofString "" = S [] := by decide +kernel
theorem lit_1 : Str.ofString " " = S [32] := by decide +kernel
theorem lit_2 : Str.ofString "(" = S [40] := by decide +kernel
theorem lit_3 : Str.ofString ")" = S [41] := by decide +kernel
theorem lit_4 : Str.ofString "0" = S [48] := by decide +kernel
theorem lit_5 : Str.ofString "9" = S [57] := by decide +kernel
theorem lit_6 : Str.ofString "0123456789" = S [48, 49, 50, 51, 52, 53, 54, 55, 56, 57] := by decide +kernel
theorem lit_7 : Str.ofString "() 01 ()a" = S [40, 41, 32, 48, 49, 32, 40, 41, 97] := by decide +kernel
local macro_rules | `(tactic| size_fits) => `(tactic| k_extra "size_fits")
theorem rows11 : True := by
  (k_with "size_fits" => ((try simp only [lit_0, lit_1, lit_2, lit_3, lit_4, lit_5, lit_6, lit_7, S_app, S_len, Str.length_append, List.length_append, List.length_cons, List.length_nil, PySem.sizeLine_eq, List.size_toArray]); k_extra "ar9"))
  trivial

/-- what an expression gives, nothing but tokens spent -/
inductive CutEnd (P : Value → Prop) (s : Shared) (v : Value) (s' : Shared) : Prop
  | mk (h : P v) (tk : Nat) (e : s' = { s with toks := tk }) : CutEnd P s v s'
theorem cut {M : Model} {A : Around} {E : Value → Shared → Prop} {s : Shared} {t : Sem Value} {Q : Value → Shared → Prop} (P : Value → Prop)
    (h : wpAny M A t (CutEnd P s) E s) (k : ∀ v tk, P v → Q v { s with toks := tk }) : wpAny M A t Q E s :=
  wpAny_mono h (fun v s' hc => by obtain ⟨h, tk, rfl⟩ := hc; exact k v tk h) fun _ _ e => e
section
variable {prog : Program} {w : World} {A : Around} {E : Value → Shared → Prop} {s : Shared} {h₀ : Heap} {L : Addr} {m : Str → Option Value} {news : List (Addr × Obj)}
theorem my_str_int {n : Int} {t : Tok} {Q : Value → Shared → Prop} (h0 : 0 < n) (h1 : n < 10 ^ 20) (h : ∀ t' tk, Q (.str (S (digs n)) t') { s with toks := tk }) : wpAny (model prog w) A (call (.type "str") [.int n t]) Q E s := by
  refine P.str_of_int ?_ ?_
  · have hn : n.natAbs < 2 ^ 1920 := by
      have h3 : n.natAbs < 10 ^ 20 := by k_extra "ar9"
      exact Nat.lt_of_lt_of_le (Nat.lt_trans h3 (by decide : (10 : Nat) ^ 20 < 2 ^ 67)) (Nat.pow_le_pow_right (by decide) (by decide))
    exact (Nat.log2_lt (by k_extra "ar9")).mpr hn
  · have e : ((toString n : String) : Str) = S (digs n) := ofString_int n h0
    rw [e]
    exact h _ _
end
/-- a list's values are these texts -/
inductive SAre : List Value → List (List Nat) → Prop
  | nil : SAre [] []
  | cons {l : List Nat} {t : Tok} {vs : List Value} {ls : List (List Nat)} : SAre vs ls → SAre (.str (S l) t :: vs) (l :: ls)
theorem SAre.app {vs ws : List Value} {ls ms : List (List Nat)} (h : SAre vs ls) (k : SAre ws ms) : SAre (vs ++ ws) (ls ++ ms) := by
  induction h with
  | nil => exact k
  | cons _ ih => exact .cons ih
theorem SAre.len {vs : List Value} {ls : List (List Nat)} (h : SAre vs ls) : vs.length = ls.length := by
  induction h with
  | nil => rfl
  | cons _ ih => simp [ih]
theorem SAre.vals {vs : List Value} {ls : List (List Nat)} (h : SAre vs ls) : ∃ l : List (Str × Tok), vs = strValues l ∧ l.map (·.1) = ls.map S := by
  induction h with
  | nil => exact ⟨[], rfl, rfl⟩
  | @cons l t vs ls h ih =>
    obtain ⟨r, rfl, e⟩ := ih
    exact ⟨(S l, t) :: r, rfl, by simp [e]⟩

section
variable {prog : Program} {w : World} {A : Around} {E : Value → Shared → Prop} {s : Shared} {h₀ : Heap} {L : Addr} {m : Str → Option Value} {news : List (Addr × Obj)}
theorem my_join {x : Str} {D : Addr} {ys : List Value} {ls : List (List Nat)} {sep : List Nat} {e : Nat} {t : Tok} {Q : Value → Shared → Prop} (N : News h₀ L s.heap news) (hm : (D, W.listOf ys.toArray e) ∈ news)
    (hx : x = S sep) (hd : SAre ys ls) (hz : (ls.map List.length).sum + ls.length * sep.length < 16000000) (h : ∀ t' tk, Q (.str (S (glue sep ls)) t') { s with toks := tk }) :
    wpAny (model prog w) A (call (.builtin "str.join") [.str x t, .ref D]) Q E s := by
  subst hx
  obtain ⟨l, rfl, hl⟩ := hd.vals
  have hi : s.heap.IsList D (strValues l).toArray := ⟨_, (N _ hm).1, rfl, _, rfl⟩
  refine SC.join hi hl ?_ fun t' k => ?_
  · unfold JoinOk
    rw [Bool.not_eq_true', StrLaws.joinTotal]
    refine KBy.tooLong_not ?_
    rw [List.map_map, List.length_map]
    have : (Str.length ∘ S) = List.length := by funext x; exact S_len x
    rw [this, S_len]
    k_extra "ar9"
  · have := h t' k
    rw [← S_glue, ← StrLaws.glued_eq_join] at this
    exact this
end
theorem rows12 : True := by
  (k_with "eval IfExp" => (k_here; refine Halt.out ?_))
  trivial
section
theorem nums_sz : ∀ (f : Nat) {t r : List Nat} {ns : List Int}, nums f t = some (ns, r) → 2 * ns.length + r.length ≤ t.length + 1
  | 0, _, _, _, h => by simp [nums] at h
  | f + 1, t, r, ns, h => by
    rw [nums] at h
    split at h
    · cases h
    · rename_i v r0 hv
      have h0 := num_len hv
      split at h
      · rename_i r'
        have h0' : r'.length + 1 < t.length := by simpa using h0
        split at h
        · simp only [Option.some.injEq, Prod.mk.injEq] at h
          obtain ⟨rfl, rfl⟩ := h
          simp only [List.length_cons, List.length_nil]
          k_extra "ar9"
        · obtain ⟨p, hp, he⟩ := Option.map_eq_some_iff.mp h
          simp only [Prod.mk.injEq] at he
          obtain ⟨rfl, rfl⟩ := he
          have := nums_sz f hp
          simp only [List.length_cons]
          k_extra "ar9"
      · simp only [Option.some.injEq, Prod.mk.injEq] at h
        obtain ⟨rfl, rfl⟩ := h
        simp only [List.length_cons, List.length_nil] at h0 ⊢
        k_extra "ar9"
      · cases h
theorem chainF_sz : ∀ (ns : List Int) (ks r : F), (chainF ns ks r).size = ks.size + r.size + (if ns = [] then 1 else ns.length)
  | [], ks, r => by simp [chainF, F.size]
  | [a], ks, r => by simp [chainF, F.size]
  | a :: b :: l, ks, r => by
    have := chainF_sz (b :: l) ks .nil
    simp only [chainF, F.size, this]
    simp [F.size]
    k_extra "ar9"
theorem app_sz : ∀ f g : F, (f.app g).size = f.size + g.size
  | .nil, g => by simp [F.app, F.size]
  | .cons n k r, g => by simp only [F.app, F.size, app_sz r g]; k_extra "ar9"
theorem one_sz {fo : List Nat → Option (F × List Nat)} {nu : List Nat → Option (List Int × List Nat)}
    (hfo : ∀ {t g r}, fo t = some (g, r) → 2 * g.size + r.length ≤ t.length) (hnu : ∀ {t g r}, nu t = some (g, r) → 2 * g.length + r.length ≤ t.length + 1 ∧ r.length < t.length)
    {t r : List Nat} {g : F} (h : one fo nu t = some (g, r)) : 2 * g.size + r.length ≤ t.length := by
  unfold one at h
  split at h
  · rename_i t1
    obtain ⟨p, hp, h⟩ := Option.bind_eq_some_iff.mp h
    obtain ⟨q, hq, h⟩ := Option.bind_eq_some_iff.mp h
    split at h
    · rename_i t4 he
      split at h
      · cases h
      · simp only [Option.some.injEq, Prod.mk.injEq] at h
        obtain ⟨rfl, rfl⟩ := h
        have h2 := hfo (g := q.1) (r := q.2) hq
        rw [he] at h2
        rw [chainF_sz]
        simp only [List.length_cons, F.size] at h2 ⊢
        split at hp
        · simp only [Option.some.injEq] at hp
          subst hp
          simp only [if_true] at h2 ⊢
          k_extra "ar9"
        · have h3 := hnu (g := p.1) hp
          have h4 := h3.1
          have h5 := h3.2
          split <;> k_extra "ar9"
    · cases h
  · cases h
theorem forest_sz : ∀ (f : Nat) {t r : List Nat} {g : F}, forest f t = some (g, r) → 2 * g.size + r.length ≤ t.length
  | 0, _, _, _, h => by simp [forest] at h
  | f + 1, t, r, g, h => by
    rw [forest] at h
    split at h
    · obtain ⟨p, hp, h⟩ := Option.bind_eq_some_iff.mp h
      obtain ⟨q, hq, he⟩ := Option.map_eq_some_iff.mp h
      simp only [Prod.mk.injEq] at he
      obtain ⟨rfl, rfl⟩ := he
      have h1 := one_sz (fun h => forest_sz f h) (fun h => ⟨nums_sz f h, nums_len f h⟩) (g := p.1) (r := p.2) hp
      have h2 := forest_sz f (g := q.1) (r := q.2) hq
      rw [app_sz]
      k_extra "ar9"
    · simp only [Option.some.injEq, Prod.mk.injEq] at h
      obtain ⟨rfl, rfl⟩ := h
      simp [F.size]
theorem read_sz {t : List Nat} {f : F} (h : readL t = some f) : 2 * f.size ≤ t.length := by
  unfold readL at h
  split at h
  · rename_i g he
    simp only [Option.some.injEq] at h
    subst h
    have := forest_sz _ he
    simp only [List.length_nil] at this
    k_extra "ar9"
  · cases h
theorem digs_asc (n : Int) : ∀ c ∈ digs n, c ≤ 127 := by
  intro c hc
  unfold digs at hc
  split at hc
  · have := dg_all _ c hc; k_extra "ar9"
  · exact nomatch hc
mutual
theorem inside_asc : ∀ (n : Int) (k : F), ∀ c ∈ inside n k, c ≤ 127
  | n, .nil, c, h => by rw [inside] at h; exact digs_asc n c h
  | n, .cons m k .nil, c, h => by
    rw [inside] at h
    rcases List.mem_append.mp h with h | h
    · exact digs_asc n c h
    · rcases List.mem_cons.mp h with rfl | h
      · decide
      · exact inside_asc m k c h
  | n, .cons m k (.cons m2 k2 r), c, h => by
    rw [inside] at h
    rcases List.mem_append.mp h with h | h
    · exact digs_asc n c h
    rcases List.mem_append.mp h with h | h
    · split at h
      · rw [List.mem_singleton.mp h]; decide
      · exact nomatch h
    rcases List.mem_cons.mp h with rfl | h
    · decide
    rcases List.mem_append.mp h with h | h
    · exact inside_asc m k c h
    rcases List.mem_cons.mp h with rfl | h
    · decide
    · exact lists_asc (.cons m2 k2 r) c h
theorem lists_asc : ∀ (f : F), ∀ c ∈ lists f, c ≤ 127
  | .nil, c, h => by rw [lists] at h; exact nomatch h
  | .cons m k r, c, h => by
    rw [lists] at h
    rcases List.mem_cons.mp h with rfl | h
    · decide
    rcases List.mem_append.mp h with h | h
    · exact inside_asc m k c h
    rcases List.mem_cons.mp h with rfl | h
    · decide
    · exact lists_asc r c h
end
theorem listsT_len : ∀ (f : F), f.okT → (lists f).length ≤ 26 * f.size
  | .nil, _ => by rw [lists]; simp
  | .cons m k r, h => by
    rw [lists]
    have hm : m < 10 ^ 20 := by
      rcases h.1 with h | h
      · exact h.2
      · rw [h.1]; decide
    have h2 := inside_len m k hm h.2.1
    have h3 := listsT_len r h.2.2
    simp only [List.length_append, List.length_cons, F.size] at *
    k_extra "ar9"
end
section
theorem LIn.one_ {news : List (Addr × Obj)} {vs : List Value} {n : Int} {k : F} (h : LIn news vs (.cons n k .nil)) : ∃ v, vs = [v] := by
  cases h with
  | cons h1 h2 h3 h4 => cases h4; exact ⟨_, rfl⟩


theorem rows13 : True := by
  (k_with "subscriptTail Subscript Name Constant Constant ref int" => (k_here; refine Halt.out ?_))
  (k_with "subscriptTail Subscript Name Constant Constant ref int" => (k_here; (with_reducible show wpAny _ _ (subscriptTail _ _ (Value.ref _) (Value.int _ _)) _ _ _); k_dflt (refine' my_item ?zqN ?zqm ?zqa ?zqb ?zqd ?_; (case zqN => k_asm); (case zqm => k_mem); (case zqa => decide); (case zqb => decide); (case zqd => rfl))))
  trivial
theorem inside_ct (w : World) (mean : ExcName → Option Value) (mg mb : Str → Option Value) (sz : Nat) :
    ∀ n k, F.size k < sz → (0 ≤ n ∧ n < 10 ^ 20) → k.ok → Fun w mean mg mb 187 sz (fun news vs => ∃ v, vs = [v] ∧ LIn news [v] (.cons n k .nil)) (fun _ v => ∃ t, v = .str (S (inside n k)) t) := by
  induction sz with
  | zero => exact fun _ _ h => absurd h (Nat.not_lt_zero _)
  | succ sz ih =>
    intro n k hk hn hok
    unfold Fun
    k_fill
    intro A A₀ base h₀ outer L m news s env Q E vs B hF X N T hA hf hke hh hdp hu hp hret
    obtain ⟨v, rfl, hp⟩ := hp
    cases hp with
    | @cons a b n tk ea eb kv vs k r h1 h2 h3 h4 =>
    cases h4
    have hlen := h3.len
    have hle := F.len_le k
    have hrl : recursionLimit = 1000 := rfl
    have hil := inside_len n k hn.2 hok
    have hdl := digs_len hn.2
    refine wpAny_call ?_
    k_enter
    k_steps
    refine Halt.mk ?_
    refine cut (fun v => ∃ t, v = .str (S (digs n)) t) ?_ ?_
    · refine IfExp_ ?_
      k_steps
      · exact .mk ⟨_, congrArg (Value.str · _) (ofString_int n (by k_extra "ar9"))⟩ _ rfl
      · refine .mk ⟨_, congrArg (Value.str · _) ?_⟩ _ rfl
        rw [lit_0]
        unfold digs
        rw [if_neg (by k_extra "ar9")]
    intro _ tk1 hJ9
    (try k_fold)
    rcases hJ9 with ⟨t1, rfl⟩
    dsimp only
    by_cases h1k : k.len = 1
    · obtain ⟨m', k', rfl⟩ := F.len_one h1k
      obtain ⟨v0, rfl⟩ := h3.one_
      have hil2 := inside_len m' k' hok.1.2 hok.2.1
      have hk2 : k'.size < sz := by simp only [F.size] at hk; k_extra "ar9"
      k_steps
      any_goals (exfalso; tb_start)
      refine Halt.mk ?_
      refine Fun.use (ih m' k' hk2 ⟨by have := hok.1.1; k_extra "ar9", hok.1.2⟩ hok.2.1) (by k_asm) (by k_asm) (by k_asm) (by k_asm) (by k_asm) (Around.frames_deeper hA) rfl rfl hh ?_ ?_ ⟨_, rfl, h3⟩ ?_
      · simp only [depth_deeper]; k_extra "ar9"
      · simp only [units_deeper]; k_extra "ar9"
      intro _ tl' h' tk' F₃ N₃ hap' hJ9
      (try k_fold)
      rcases hJ9 with ⟨t', rfl⟩
      k_steps
      dsimp only at *
      rename News h₀ L _ _ => kN
      rename Fr h₀ L _ _ => kF
      refine hret _ tl' _ _ kF kN hap' ⟨_, congrArg (Value.str · _) ?_⟩
      rw [lit_1, S_app, S_app, inside, List.append_assoc]
      rfl
    · have hlk : kv.length ≠ 1 := by k_extra "ar9"
      k_steps
      any_goals (exfalso; tb_start)
      refine LCg.CompSrc.ledger hh (by k_asm) (by k_asm) h2 ?hsz ?_
      case hsz => rw [List.size_toArray, sizeLine_eq]; k_extra "ar9"
      intro g2
      dsimp only
      refine rest_inv (fun i ys news₁ => ∃ tl, Al3 (news₁ = tl ++ news) (Apart tl news) (SAre ys ((pieces k).take i))) ⟨[], rfl, Apart.nil, .nil⟩ ?_ ?_
      · intro i v ys news₁ I oI oC C D m₂ h tk E' hi hv hJ9 hoC hm₂ F₂ N₂ hoff hne
        (try k_fold)
        rcases hJ9 with ⟨tl, rfl, hap, hd⟩
        obtain ⟨n', k', hat, hl'⟩ := h3.at (by simpa using hv)
        have hs' := F.at_size hat
        have ho' := F.at_ok hok hat
        have hil2 := inside_len n' k' ho'.1.2 ho'.2
        k_steps
        refine Halt.mk ?_
        refine Fun.use (ih n' k' (by k_extra "ar9") ⟨by have := ho'.1.1; k_extra "ar9", ho'.1.2⟩ ho'.2) (by k_asm) F₂ (by k_asm) N₂ (by k_asm) (Around.frames_deeper hA) rfl rfl hh ?_ ?_ ⟨v, rfl, hl'.mono ?_⟩ ?_
        · simp only [depth_deeper]; k_extra "ar9"
        · simp only [units_deeper]; k_extra "ar9"
        · exact fun p hp => .tail _ (.tail _ (.tail _ (List.mem_append_right _ hp)))
        intro _ tl' h' tk' F₃ N₃ hap' hJ9
        (try k_fold)
        rcases hJ9 with ⟨t', rfl⟩
        k_steps
        refine LCg.CompEnd.intro F₃ N₃ (tl' ++ (tl ++ news)) perm3 (off3_of hap' hoff) ?_ ?_
        · exact Or.inr ⟨_, List.mem_append_right _ (List.mem_append_right _ h2), rfl, _, rfl⟩
        · refine ⟨tl' ++ tl, by rw [List.append_assoc], (hap'.sub (fun _ h => h) (fun _ h => .tail _ (.tail _ (.tail _ h)))).trans hap, ?_⟩
          rw [List.take_add_one, F.at_pieces hat]
          refine hd.app ?_
          rw [lit_2, lit_3, S_app, S_app]
          exact .cons .nil
      · intro ys news' hJ9
        (try k_fold)
        rcases hJ9 with ⟨tl, rfl, hap, hd⟩
        rw [List.take_of_length_le (by rw [pieces_len, List.size_toArray]; k_extra "ar9")] at hd
        have hll := lists_len k hok
        k_steps
        refine my_join (by k_asm) (.head _) lit_0 hd ?_ ?_
        · rw [← List.length_flatten, pieces_flat, pieces_len, List.length_nil]; k_extra "ar9"
        intro t9 tk9
        have e9 : glue [] (pieces k) = lists k := by rw [← pieces_flat, glue_nil]
        rw [e9]
        k_steps
        refine Halt.mk ?_
        refine cut (fun v => ∃ t, v = .str (S (if digs n ≠ [] ∧ lists k ≠ [] then [32] else [])) t) ?_ ?_
        · refine IfExp_ ?_
          k_steps
          all_goals (refine .mk ⟨_, congrArg (Value.str · _) ?_⟩ _ rfl)
          all_goals simp_all [lit_0, lit_1, S_inj]
        intro _ tk2 hJ9
        (try k_fold)
        rcases hJ9 with ⟨t2, rfl⟩
        dsimp only
        have hsp : (if digs n ≠ [] ∧ lists k ≠ [] then [32] else []).length ≤ 1 := by split <;> simp
        have hin := inside_multi n k h1k
        generalize (if digs n ≠ [] ∧ lists k ≠ [] then [32] else []) = sp at hsp hin
        k_steps
        dsimp only at *
        rename News h₀ L _ _ => kN
        rename Fr h₀ L _ _ => kF
        refine hret _ ((_, _) :: tl) _ _ kF kN (by tb_rel) ⟨_, congrArg (Value.str · _) ?_⟩
        rw [S_app, S_app, hin, List.append_assoc]
end
theorem rows14 : True := by
  k_with_none
  (k_with "conj9" => first | with_reducible assumption | exact And.left (by with_reducible assumption) | exact And.left (And.right (by with_reducible assumption)) | exact And.left (And.right (And.right (by with_reducible assumption))) | exact And.left (And.right (And.right (And.right (by with_reducible assumption)))) | exact And.left (And.right (And.right (And.right (And.right (by with_reducible assumption))))) | exact And.left (And.right (And.right (And.right (And.right (And.right (by with_reducible assumption)))))) | exact And.left (And.right (And.right (And.right (And.right (And.right (And.right (by with_reducible assumption))))))) | exact And.left (And.right (And.right (And.right (And.right (And.right (And.right (And.right (by with_reducible assumption)))))))) | exact And.left (And.right (And.right (And.right (And.right (And.right (And.right (And.right (And.right (by with_reducible assumption))))))))) | exact And.left (And.right (And.right (And.right (And.right (And.right (And.right (And.right (And.right (And.right (by with_reducible assumption)))))))))))
  (k_with "lt9" => first | k_extra "conj9" | exact Nat.lt_succ_self _ | (refine Nat.lt_trans ?_ (by with_reducible assumption); k_extra "conj9"))
  (k_with "k_ne" => (refine neN ?_; (try dsimp only); (fail_if_success refine ne_twice (by with_reducible rfl) ?_); first | k_extra "conj9" | exact Ne.symm (by k_extra "conj9") | exact Nat.ne_of_lt (by k_extra "lt9") | exact Nat.ne_of_gt (by k_extra "lt9") | omega))
  (k_with "ar9" => first | with_reducible assumption | ((with_reducible show @LT.lt Nat _ _ _); first | exact Nat.lt_of_lt_of_le (by with_reducible assumption) (by decide) | exact Nat.lt_of_le_of_lt (by with_reducible assumption) (by decide) | exact ar_lt1 (by with_reducible assumption) (by decide) | exact ar_lt2 (by with_reducible assumption) (by decide) | exact ar_lt3 (by with_reducible assumption) (by decide) | exact ar_lt0 (by with_reducible assumption) | exact Nat.lt_of_succ_lt (by with_reducible assumption) | exact Nat.sub_lt_sub_left (by with_reducible assumption) (Nat.lt_succ_self _) | exact Nat.sub_lt_sub_left (by with_reducible assumption) (by with_reducible assumption) | exact mm_ne (by with_reducible assumption) (by with_reducible assumption) | exact mm_s (by with_reducible assumption) (by with_reducible assumption) (by with_reducible assumption) | k_extra "conj9") | ((with_reducible show @LE.le Nat _ _ _); first | exact Nat.le_trans (by with_reducible assumption) (by decide) | exact Nat.le_of_lt (by with_reducible assumption) | exact And.left (by with_reducible assumption) | exact And.left (And.right (by with_reducible assumption)) | exact Nat.le_of_lt (by k_extra "conj9")) | ((with_reducible show @Ne _ _ _); first | k_extra "conj9" | exact Ne.symm (by k_extra "conj9") | exact Nat.ne_of_lt (by k_extra "lt9") | exact Nat.ne_of_gt (by k_extra "lt9")) | ((with_reducible show @LT.lt Int _ _ _); first | with_reducible exact Int.ofNat_lt.mpr (by assumption)) | lia | omega)
  (k_with "k_mem" => first | with_reducible assumption | assumption | (refine' List.mem_append_left _ ?_; k_mem) | (refine' List.mem_append_right _ ?_; k_mem))
  (k_with "sub9" => first | exact fun _ h => h | exact sub_nil | (refine sub_cons ?_ ?_; (focus k_mem); k_extra "sub9") | (refine sub_app ?_ ?_; (focus k_extra "sub9"); k_extra "sub9") | (intro zp9 zhp9; k_mem))
  (k_with "subscriptTail" => (k_here; (with_reducible show wpAny _ _ (subscriptTail _ _ (Value.ref _) (Value.int _ _)) _ _ _); k_dflt (refine' my_item ?zqN ?zqm ?zqa ?zqb ?zqd ?_; (case zqN => k_asm); (case zqm => k_mem); (case zqa => decide); (case zqb => decide); (case zqd => rfl))))
  (k_with "eval ListComp" => (k_here; lcg_look; k_dflt (refine LCg.ListComp_U (F₀ := by k_asm) (by rfl) (by decide) (by rfl) (by decide) (by rfl) ?_)))
  (k_with "k_room" => first | ((try simp only [depth_under_make, depth_under_kw, depth_in1, depth_deeper]); k_extra "ar9") | ((try simp only [depth_under_make, depth_under_kw, depth_in1, depth_deeper] at *); k_extra "ar9"))
  (k_with "k_enter" => first | (k_dflt (refine' enter_pos ?zqk1 ?zqk2 ?zqk3 ?zqk4 ?zqk5 ?zqkA ?zqkF ?zqkK ?zqk6 ?zqk7 ?zqk8 ?zqkX ?zqk9 ?zqkN ?zqkB ?_ ?zqc2 ?zqc3 ?zqc4 ?zqc5; (case zqkA => first | assumption | exact rfl | exact Around.frames_deeper (by assumption) | exact Around.frames_deeper (Around.frames_deeper (by assumption)) | exact Around.frames_deeper (Around.frames_deeper (Around.frames_deeper (by assumption)))); (case zqkF => first | assumption | exact rfl); (case zqkK => first | assumption | exact rfl); (case zqk1 => k_asm); (case zqk2 => k_asm); (case zqk3 => k_asm); (case zqk4 => k_asm); (case zqk5 => k_asm); (case zqk6 => k_is); (case zqk7 => k_is); (case zqk8 => k_room); (case zqkX => exact rfl); (case zqk9 => exact rfl); (case zqkN => decide); (case zqkB => decide); (case zqc5 => decide); (case zqc2 => exact rfl); (case zqc3 => exact rfl); (case zqc4 => exact rfl); k_whole; intro zg' zL' zh' ztk' zFG' zF' zN' zB' zX' zT'; (try k_fold))) | (k_dflt (refine' code_defC ?zqk1 ?zqk2 ?zqk3 ?zqk4 ?zqk5 ?zqkA ?zqkF ?zqkK ?zqk6 ?zqk7 ?zqk8 ?zqk9 ?zqkB ?zqkD ?_ ?zqc2 ?zqc3 ?zqc4; (case zqkA => first | assumption | exact rfl | exact Around.frames_deeper (by assumption) | exact Around.frames_deeper (Around.frames_deeper (by assumption)) | exact Around.frames_deeper (Around.frames_deeper (Around.frames_deeper (by assumption)))); (case zqkF => first | assumption | exact rfl); (case zqkK => first | assumption | exact rfl); (case zqk1 => k_asm); (case zqk2 => k_asm); (case zqk3 => k_asm); (case zqk4 => k_asm); (case zqk5 => k_asm); (case zqk6 => k_is); (case zqk7 => k_is); (case zqk8 => k_room); (case zqk9 => first | exact BindsTo.of_eq rfl | exact binds_K (by k_in) rfl (by k_is) rfl rfl rfl | fail "k_enter: no rule for these arguments"); (case zqkB => exact rfl); (case zqkD => decide +kernel); (case zqc2 => exact rfl); (case zqc3 => exact rfl); (case zqc4 => exact rfl); k_whole; intro zg' zL' zh' ztk' zcells' zFG' zF' zN' zY' zB' zX' zT' zl1; (try k_lt zl1); k_cells zY'; (try simp only [List.cons_append, List.nil_append] at zN'); (try dsimp only); (try k_fold))))
  (k_with "tb_start" => first | k_extra "ar9" | ((try simp only [List.size_toArray, Array.size_push, List.length_append, List.length_cons, List.length_nil, sizeLine_eq] at *); k_extra "ar9"))
  (k_with "tb_rel" => first | exact Apart.nil | with_reducible assumption | exact ap_get (by with_reducible assumption) (by k_extra "sub9") | (refine ap_cons (fun q9 hq9 => ?_) ?_; (first | exact ap_lt (by with_reducible assumption) (by k_mem) | exact ap_off (by with_reducible assumption) (by k_mem) | exact ap_lt2 (by assumption) (by with_reducible assumption) (by k_mem)); tb_rel) | (refine ap_app ?_ ?_ <;> tb_rel))
  (k_with "call type:tuple" => (k_here; (with_reducible show wpAny _ _ (call (Value.type _) [Value.ref _]) _ _ _); k_dflt (refine' kde_tupleOf ?zqk1 ?zqk2 ?zqk3 ?zqk4 ?zqk5 ?_; (case zqk1 => k_asm); (case zqk2 => k_asm); (case zqk3 => exact News.isList (by k_asm) (by k_mem)); (case zqk4 => tb_start); (case zqk5 => exact rfl); k_whole); intro zD' zh' zF' zN' zl1; (try k_lt zl1)))
  (k_with "exec While" => (k_here; refine Halt.out ?_))
  (k_with "exec For" => (k_here; refine Halt.out ?_))
  (k_with "exec Raise" => (k_here; refine Halt.out ?_))
  (k_with "call ref" => (k_here; (with_reducible show wpAny _ _ (call (Value.ref 177) _) _ _ _); refine Halt.out ?_))
  (k_with "call ref" => (k_here; (with_reducible show wpAny _ _ (call (Value.ref 187) _) _ _ _); refine Halt.out ?_))
  (k_with "call builtin:len" => (k_here; (with_reducible show wpAny _ _ (call (Value.builtin "len") [Value.ref _]) _ _ _); k_dflt (refine' my_len ?zqk1 ?zqk2 ?zqk3 ?_; (case zqk1 => k_asm); (case zqk2 => k_mem); (case zqk3 => tb_start); k_whole); intro zt' ztk'; (try dsimp only)))
  (k_with "size_fits" => ((try simp only [lit_0, lit_1, lit_2, lit_3, lit_4, lit_5, lit_6, lit_7, S_app, S_len, Str.length_append, List.length_append, List.length_cons, List.length_nil, PySem.sizeLine_eq, List.size_toArray]); k_extra "ar9"))
  (k_with "eval IfExp" => (k_here; refine Halt.out ?_))
  trivial
open Builtin Builtin.Str in
theorem idx_clip (a b len : Nat) : strSliceIndices (some (a : Int)) (some (b : Int)) 1 len = strSliceIndices (some ((min a len : Nat) : Int)) (some ((min b len : Nat) : Int)) 1 len := by
  have a1 : ¬ ((a : Int) < 0) := Int.not_lt.mpr (Int.natCast_nonneg _)
  have a2 : ¬ ((b : Int) < 0) := Int.not_lt.mpr (Int.natCast_nonneg _)
  have a3 : ¬ (((min a len : Nat) : Int) < 0) := Int.not_lt.mpr (Int.natCast_nonneg _)
  have a4 : ¬ (((min b len : Nat) : Int) < 0) := Int.not_lt.mpr (Int.natCast_nonneg _)
  have e1 : min (((min a len : Nat)) : Int) (len : Int) = min (a : Int) (len : Int) := clip_min a len
  have e2 : min (((min b len : Nat)) : Int) (len : Int) = min (b : Int) (len : Int) := clip_min b len
  unfold strSliceIndices
  simp only [if_neg a1, if_neg a2, if_neg a3, if_neg a4, e1, e2, show ((1 : Int) > 0) = True from by simp, if_true]
open Builtin Builtin.Str in
theorem sel_none {a b : Nat} (h : b ≤ a) (len : Nat) : strSliceIndices (some (a : Int)) (some (b : Int)) 1 len = [] := by
  have a1 : ¬ ((a : Int) < 0) := Int.not_lt.mpr (Int.natCast_nonneg _)
  have a2 : ¬ ((b : Int) < 0) := Int.not_lt.mpr (Int.natCast_nonneg _)
  unfold strSliceIndices sliceRange
  simp only [if_neg a1, if_neg a2, show ((1 : Int) > 0) = True from by simp, if_true]
  rw [if_neg (Int.not_lt.mpr (Int.max_le.mpr ⟨Int.le_max_left _ _, Int.le_trans (Int.le_min.mpr ⟨Int.le_trans (Int.min_le_left _ _) (Int.ofNat_le.mpr h), Int.min_le_right _ _⟩) (Int.le_max_right _ _)⟩))]
  rfl
theorem cut_S (t : List Nat) (a b : Nat) : StrLaws.sliceText (S t) (some (a : Int)) (some (b : Int)) = S ((t.drop a).take (b - a)) := by
  have hl : (S t).length = t.length := S_len t
  have e : StrLaws.sliceText (S t) (some (a : Int)) (some (b : Int)) = StrLaws.sliceText (S t) (some ((min a t.length : Nat) : Int)) (some ((min b t.length : Nat) : Int)) := by
    unfold StrLaws.sliceText
    rw [hl, idx_clip]
  rw [e]
  by_cases hab : min a t.length ≤ min b t.length
  · rw [StrLaws.sliceText_nat (S t) hab (by rw [hl]; exact Nat.min_le_right _ _)]
    show S _ = S _
    rw [S_inj]
    show List.take _ (List.drop _ (S t).cps.toList) = _
    rw [S_cps]
    exact cut_min t a b
  · have h1 : b < a := Nat.lt_of_not_le fun k => hab (Nat.le_min.mpr ⟨Nat.le_trans (Nat.min_le_left _ _) k, Nat.min_le_right _ _⟩)
    have h2 : b - a = 0 := Nat.sub_eq_zero_of_le (Nat.le_of_lt h1)
    rw [h2, List.take_zero]
    unfold StrLaws.sliceText
    rw [hl]
    have z := sel_none (Nat.le_of_lt (Nat.lt_of_not_le hab)) t.length
    rw [z]
    split
    · rename_i h
      simp at h
      rw [List.length_eq_zero_iff.mp h.symm]
    · rfl
theorem item_S {t : List Nat} {i : Int} {c : Nat} (h0 : 0 ≤ i) (h : t[i.toNat]? = some c) : Txt.item (S t) i = S [c] := by
  have hc : (S t).cps[i.toNat]? = some c := by show t.toArray[i.toNat]? = _; simpa using h
  unfold Txt.item Txt.charAt
  rw [StrLaws.at_nonneg h0 hc]
  rfl
theorem in_digits (c : Nat) : Txt.contains (S [48, 49, 50, 51, 52, 53, 54, 55, 56, 57]) (S [c]) = isD c := by
  have h := StrLaws.found_one (S [48, 49, 50, 51, 52, 53, 54, 55, 56, 57]) c
  unfold Txt.contains
  show (!(Builtin.Str.occurrences _ ⟨#[c]⟩ 0 _ 1).isEmpty) = _
  rw [h, S_cps]
  unfold isD
  rw [← Bool.decide_and]
  congr 1
  simp only [List.mem_cons, List.not_mem_nil, or_false]
  apply propext
  constructor
  · intro h
    rcases h with rfl | rfl | rfl | rfl | rfl | rfl | rfl | rfl | rfl | rfl <;> decide
  · intro h
    have k := (show ∀ k : Nat, k < 10 → (48 + k = 48 ∨ 48 + k = 49 ∨ 48 + k = 50 ∨ 48 + k = 51 ∨ 48 + k = 52 ∨ 48 + k = 53 ∨ 48 + k = 54 ∨ 48 + k = 55 ∨ 48 + k = 56 ∨ 48 + k = 57) by decide) (c - 48) (by omega)
    rw [Nat.add_sub_cancel' h.1] at k
    exact k
theorem cutI_S (t : List Nat) {a b : Int} (h0 : 0 ≤ a) (h1 : 0 ≤ b) : StrLaws.sliceText (S t) (some a) (some b) = S ((t.drop a.toNat).take (b.toNat - a.toNat)) := by
  obtain ⟨x, rfl⟩ := Int.eq_ofNat_of_zero_le h0
  obtain ⟨y, rfl⟩ := Int.eq_ofNat_of_zero_le h1
  exact cut_S t x y
/-- names known to have these values -/
noncomputable def Pin (m : Str → Option Value) : List (Str × Value) → Prop
  | [] => True
  | (x, v) :: r => m x = some v ∧ Pin m r
noncomputable def pinM (m : Str → Option Value) : List (Str × Value) → Str → Option Value
  | [] => m
  | (x, v) :: r => fun y => if y = x then some v else pinM m r y
theorem Pin.eq {m : Str → Option Value} : ∀ {l : List (Str × Value)}, Pin m l → pinM m l = m
  | [], _ => rfl
  | (x, v) :: r, h => by
    funext y
    show (if y = x then some v else pinM m r y) = m y
    rw [h.2.eq]
    by_cases e : y = x
    · subst e; rw [if_pos rfl, h.1]
    · rw [if_neg e]
theorem Fr.pin {h₀ : Heap} {L : Addr} {h : Heap} {m : Str → Option Value} {l : List (Str × Value)} (F : Fr h₀ L h m) (hp : Pin m l) : Fr h₀ L h (pinM m l) := by rw [hp.eq]; exact F
theorem Fr.pin1 {h₀ : Heap} {L : Addr} {h : Heap} {m : Str → Option Value} {x : Str} {v : Value} {l : List (Str × Value)} (F : Fr h₀ L h (fun y => if y = x then some v else m y)) (hp : Pin m l) : Fr h₀ L h (fun y => if y = x then some v else pinM m l y) := by rw [hp.eq]; exact F
theorem nget {h₀ : Heap} {L : Addr} {h : Heap} {l l' : List (Addr × Obj)} (N : News h₀ L h l) (hs : ∀ p ∈ l', p ∈ l) : News h₀ L h l' := fun p hp => N p (hs p hp)
theorem take1_iff {l : List Nat} {c : Nat} : l.take 1 = [c] ↔ l.head? = some c := by cases l <;> simp
section
variable {prog : Program} {w : World} {A : Around} {E : Value → Shared → Prop} {s : Shared} {h₀ : Heap} {L : Addr} {m : Str → Option Value} {news : List (Addr × Obj)} {value slice : PySem.Expr} {t : List Nat} {tk u : Tok} {Q : Value → Shared → Prop}
theorem my_str_item {i : Int} {n : Nat} (hi : i = (n : Int)) (h1 : n < t.length) (hn : t.length ≤ 16777216) (h : ∀ t' k, Q (.str (S [t.getD n 0]) t') { s with toks := k })
    (hs : subscripted slice false (.str (S t) tk) (.int i u) = operate [.str (S t) tk, .int i u] (getItem (.str (S t) tk) (.int i u)) := by with_unfolding_all rfl)
    (ht : ∀ r, letTemporaryGo value (.str (S t) tk) r = pure () := by intro _; with_unfolding_all rfl) :
    wpAny (model prog w) A (subscriptTail value slice (.str (S t) tk) (.int i u)) Q E s := by
  subst hi
  have hl : (S t).length = t.length := S_len t
  have hc : t[((n : Int)).toNat]? = some (t.getD n 0) := by
    simp [List.getD_eq_getElem?_getD, h1]
  refine item_str (fitsSsize_of (N := 9223372036854775808) (by k_extra "ar9") (by k_extra "ar9") (Int.le_refl _)) (by k_extra "ar9") (by k_extra "ar9") (fun _ => ?_) hs ht
  rw [item_S (by k_extra "ar9") hc]
  exact h _ _
theorem my_str_cut {i j : Int} {a b : Nat} {ui uj : Tok} (hF : Fr h₀ L s.heap m) (hN : News h₀ L s.heap news) (h0 : i = (a : Int)) (h1 : j = (b : Int)) (hn : t.length ≤ 16777216) (h : ∀ h' t' k, Fr h₀ L h' m → News h₀ L h' news → Q (.str (S ((t.drop a).take (b - a))) t') { s with heap := h', toks := k })
    (hs : subscripted slice false (.str (S t) tk) (.ref s.heap.objs.size) = operate [.ref s.heap.objs.size, .str (S t) tk] (getItem (.str (S t) tk) (.ref s.heap.objs.size)) := by with_unfolding_all rfl)
    (ht : ∀ r, letTemporaryGo value (.str (S t) tk) r = pure () := by intro _; with_unfolding_all rfl) :
    wpAny (model prog w) A (subscriptTail value slice (.str (S t) tk) (.ref s.heap.objs.size)) Q E { s with heap := s.heap.push { cls := .type "slice", data := .fields #[.int i ui, .int j uj, .none] } } := by
  subst h0 h1
  have hl : (S t).length = t.length := S_len t
  refine slice_strN_ss hF hN (fun h' t' k F N => ?_) hs ht (by rw [hl, sizeLine_eq]; k_extra "ar9")
  have e : Txt.slice (S t) (some (a : Int)) (some (b : Int)) = S ((t.drop a).take (b - a)) := cut_S t a b
  rw [e]
  exact h h' t' k F N
theorem my_str_sign {i j : Int} {a : Nat} {ui uj : Tok} (hF : Fr h₀ L s.heap m) (hN : News h₀ L s.heap news) (h0 : i = (a : Int)) (h1 : j = (a : Int) + 1) (hn : t.length ≤ 16777216) (h : ∀ h' t' k, Fr h₀ L h' m → News h₀ L h' news → Q (.str (S ((t.drop a).take 1)) t') { s with heap := h', toks := k })
    (hs : subscripted slice false (.str (S t) tk) (.ref s.heap.objs.size) = operate [.ref s.heap.objs.size, .str (S t) tk] (getItem (.str (S t) tk) (.ref s.heap.objs.size)) := by with_unfolding_all rfl)
    (ht : ∀ r, letTemporaryGo value (.str (S t) tk) r = pure () := by intro _; with_unfolding_all rfl) :
    wpAny (model prog w) A (subscriptTail value slice (.str (S t) tk) (.ref s.heap.objs.size)) Q E { s with heap := s.heap.push { cls := .type "slice", data := .fields #[.int i ui, .int j uj, .none] } } := by
  have e : a + 1 - a = 1 := by k_extra "ar9"
  exact my_str_cut (b := a + 1) hF hN h0 h1 hn (by rw [e]; exact h) hs ht
theorem my_in {c : Nat} (h : Q (.bool (isD c)) s) : wpAny (model prog w) A (compareOp .In (.str (S [c]) u) (.str (Str.ofString "0123456789") tk)) Q E s := by
  refine SB.contains ?_
  rw [lit_6, in_digits]
  exact h
theorem my_int (hd : AllDigits t) (hne : t ≠ []) (hl : t.length ≤ 640) (h : ∀ t' k, Q (.int ((digitsVal t : Nat) : Int) t') { s with toks := k }) : wpAny (model prog w) A (call (.type "int") [.str (S t) tk]) Q E s := by
  have hl' : (S t).length = t.length := S_len t
  have hc : (S t).cps.toList = t := S_cps t
  refine KIN.call_text (n := ((digitsVal t : Nat) : Int)) ?_ (by k_extra "ar9") (h _ _)
  have := intText_digits (x := S t) (by rw [hc]; exact hd) (by rw [hc]; exact hne) (by k_extra "ar9")
  rw [hc] at this
  exact this
theorem my_str_len (hn : t.length ≤ 16777216) (h : ∀ t' k, Q (.int (t.length : Int) t') { s with toks := k }) : wpAny (model prog w) A (call (.builtin "len") [.str (S t) tk]) Q E s := by
  have hl' : (S t).length = t.length := S_len t
  refine P.len_str (by rw [hl']; k_extra "ar9") ?_
  rw [hl']
  exact h _ _
theorem my_seq {x y : Str} {a b : List Nat} (hx : x = S a) (hy : y = S b) (h : Q (.bool (decide (a = b))) s) : wpAny (model prog w) A (compareOp .Eq (.str x tk) (.str y u)) Q E s := by
  subst hx hy
  refine P.eq_str ?_
  have : ((S a).cps.toList == (S b).cps.toList) = decide (a = b) := by
    rw [S_cps, S_cps, Bool.eq_iff_iff]; simp
  rw [this]; exact h
theorem my_sne {x y : Str} {a b : List Nat} (hx : x = S a) (hy : y = S b) (h : Q (.bool (decide (a ≠ b))) s) : wpAny (model prog w) A (compareOp .NotEq (.str x tk) (.str y u)) Q E s := by
  subst hx hy
  refine P.ne_str ?_
  have : ((S a).cps.toList != (S b).cps.toList) = decide (a ≠ b) := by
    rw [S_cps, S_cps, Bool.eq_iff_iff]; simp
  rw [this]; exact h

noncomputable def WDone (h₀ : Heap) (L : Addr) (D : (Str → Option Value) → List (Addr × Obj) → Prop) (s s₂ : Shared) : Prop := ∃ h' tk m' news', s₂ = { s with heap := h', toks := tk } ∧ Fr h₀ L h' m' ∧ News h₀ L h' news' ∧ D m' news'
theorem WDone.intro {D : (Str → Option Value) → List (Addr × Obj) → Prop} {h' : Heap} {tk : Nat} {m' : Str → Option Value} {news' : List (Addr × Obj)} (F : Fr h₀ L h' m') (N : News h₀ L h' news') (d : D m' news') : WDone h₀ L D s { s with heap := h', toks := tk } := ⟨_, _, _, _, rfl, F, N, d⟩
/-- what a turn leaves: the invariant below the measure, or the end, or a return -/
noncomputable def WTurn (h₀ : Heap) (L : Addr) (J : Nat → (Str → Option Value) → List (Addr × Obj) → Prop) (D : (Str → Option Value) → List (Addr × Obj) → Prop) (Q : Flow → Shared → Prop) (s : Shared) (n : Nat) : Flow → Shared → Prop
  | .next, s₃ | .cont, s₃ => ∃ h' tk m₂ news₂ n', s₃ = { s with heap := h', toks := tk } ∧ Fr h₀ L h' m₂ ∧ News h₀ L h' news₂ ∧ n' < n ∧ J n' m₂ news₂
  | .brk, s₃ => WDone h₀ L D s s₃
  | .ret v, s₃ => Q (.ret v) s₃
theorem my_while {env : Env} {test : PySem.Expr} {body : List Stmt} {pos : Pos} {Q : Flow → Shared → Prop} (J : Nat → (Str → Option Value) → List (Addr × Obj) → Prop) (D : (Str → Option Value) → List (Addr × Obj) → Prop) {n₀ : Nat}
    (F : Fr h₀ L s.heap m) (N : News h₀ L s.heap news) (hJ : J n₀ m news)
    (turn : ∀ n m₁ news₁ h₁ tk₁, Fr h₀ L h₁ m₁ → News h₀ L h₁ news₁ → J n m₁ news₁ →
      wpAny (model prog w) A (isTrue test env (eval test env)) (fun b s₂ =>
        if b = true then wpAny (model prog w) A (execs body env) (WTurn h₀ L J D Q s n) E s₂ else WDone h₀ L D s s₂) E { s with heap := h₁, toks := tk₁ })
    (done : ∀ m₁ news₁ h₁ tk₁, Fr h₀ L h₁ m₁ → News h₀ L h₁ news₁ → D m₁ news₁ → Q .next { s with heap := h₁, toks := tk₁ })
    (hE : PassesOwn (model prog w) A env E := by passes_own) :
    wpAny (model prog w) A (exec (.While test body [] pos) env) Q E s := by
  refine wpAny_mono (While_inv2 (Q := fun f s₃ => match f with | .ret v => Q (.ret v) s₃ | .next => WDone h₀ L D s s₃ | _ => False) J F N hJ (fun n m₁ news₁ h₁ tk₁ F₁ N₁ J₁ => ?_) hE) (fun f s₃ hq => ?_) fun _ _ e => e
  · refine wpAny_mono (turn n m₁ news₁ h₁ tk₁ F₁ N₁ J₁) (fun b s₂ hb => ?_) fun _ _ e => e
    cases b with
    | false => simpa using hb
    | true =>
      simp only [if_true] at hb ⊢
      refine wpAny_mono hb (fun f s₃ hq => ?_) fun _ _ e => e
      cases f with
      | next => exact hq
      | cont => exact hq
      | brk => exact hq
      | ret v => exact hq
  · cases f with
    | ret v => exact hq
    | next =>
      obtain ⟨h', tk, m', news', rfl, F', N', d⟩ := hq
      exact done m' news' h' tk F' N' d
    | brk => exact hq.elim
    | cont => exact hq.elim
theorem WTurn.out {J : Nat → (Str → Option Value) → List (Addr × Obj) → Prop} {D : (Str → Option Value) → List (Addr × Obj) → Prop} {Q : Flow → Shared → Prop} {n : Nat} {v : Value} {s₃ : Shared} (h : Q (.ret v) s₃) : WTurn h₀ L J D Q s n (.ret v) s₃ := h
theorem WTurn.go {J : Nat → (Str → Option Value) → List (Addr × Obj) → Prop} {D : (Str → Option Value) → List (Addr × Obj) → Prop} {Q : Flow → Shared → Prop} {n n' : Nat} {h' : Heap} {tk : Nat} {m' : Str → Option Value} {news' : List (Addr × Obj)}
    (F : Fr h₀ L h' m') (N : News h₀ L h' news') (hn : n' < n) (j : J n' m' news') : WTurn h₀ L J D Q s n .next { s with heap := h', toks := tk } := ⟨_, _, _, _, _, rfl, F, N, hn, j⟩
end
/-- an expression that may make things: the ledger stays -/
noncomputable def EDone (h₀ : Heap) (L : Addr) (m : Str → Option Value) (news : List (Addr × Obj)) (P : Value → Prop) (s : Shared) (v : Value) (s' : Shared) : Prop := ∃ h' tk, s' = { s with heap := h', toks := tk } ∧ Fr h₀ L h' m ∧ News h₀ L h' news ∧ P v
theorem EDone.intro {h₀ : Heap} {L : Addr} {m : Str → Option Value} {news : List (Addr × Obj)} {P : Value → Prop} {s : Shared} {v : Value} {h' : Heap} {tk : Nat} (F : Fr h₀ L h' m) (N : News h₀ L h' news) (p : P v) : EDone h₀ L m news P s v { s with heap := h', toks := tk } := ⟨_, _, rfl, F, N, p⟩
theorem cutF {M : Model} {A : Around} {E : Value → Shared → Prop} {s : Shared} {t : Sem Value} {Q : Value → Shared → Prop} {h₀ : Heap} {L : Addr} {m : Str → Option Value} {news : List (Addr × Obj)} (_ : Fr h₀ L s.heap m) (_ : News h₀ L s.heap news) (P : Value → Prop)
    (h : wpAny M A t (EDone h₀ L m news P s) E s) (k : ∀ v h' tk, Fr h₀ L h' m → News h₀ L h' news → P v → Q v { s with heap := h', toks := tk }) : wpAny M A t Q E s :=
  wpAny_mono h (fun v s' hc => by obtain ⟨h', tk, rfl, F, N, p⟩ := hc; exact k v h' tk F N p) fun _ _ e => e
theorem kqdOk_mono : ∀ (n : Nat) (d : Dat) (k : Nat), kqdOk n d = true → n ≤ k → kqdOk k d = true := by
  intro n
  induction n with
  | zero => intro d k h _; cases d <;> cases k <;> simp_all [kqdOk]
  | succ n ih =>
    intro d k h hk
    cases k with
    | zero => k_extra "ar9"
    | succ k =>
      cases d with
      | tuple ds =>
        simp only [kqdOk, List.all_eq_true] at h ⊢
        exact fun x hx => ih x k (h x hx) (by k_extra "ar9")
      | list ds =>
        simp only [kqdOk, List.all_eq_true] at h ⊢
        exact fun x hx => ih x k (h x hx) (by k_extra "ar9")
      | _ => simp_all [kqdOk]
theorem dats_ok : ∀ f : F, ∀ d ∈ dats f, kqdOk (2 * f.size) d = true
  | .nil, _, h => nomatch h
  | .cons n k r, d, h => by
    rw [dats] at h
    rcases List.mem_cons.mp h with rfl | h
    · have h1 : ∀ d ∈ dats k, kqdOk (2 * k.size) d = true := dats_ok k
      have e : 2 * (F.cons n k r).size = (2 * k.size + 2 * r.size) + 1 + 1 := by simp only [F.size]; k_extra "ar9"
      rw [e]
      simp only [kqdOk, List.all_cons, List.all_nil, Bool.and_true, Bool.true_and, List.all_eq_true]
      exact fun d hd => kqdOk_mono _ d _ (h1 d hd) (by k_extra "ar9")
    · exact kqdOk_mono _ d _ (dats_ok r d h) (by simp only [F.size]; k_extra "ar9")
section
variable {prog : Program} {w : World} {A : Around} {E : Value → Shared → Prop} {s : Shared} {h₀ : Heap} {L : Addr} {m : Str → Option Value} {news : List (Addr × Obj)}
theorem my_eq {v u : Value} {d e : Dat} {n k : Nat} {Q : Value → Shared → Prop} (N : News h₀ L s.heap news) (Dv : DatIn news v d) (Du : DatIn news u e) (hd : kqdOk n d = true) (he : kqdOk k e = true) (hu : A.units + min n k < cLine)
    (h : ∀ b, (b = true ↔ d = e) → Q (.bool b) s) : wpAny (model prog w) A (compareOp .Eq v u) Q E s := by
  obtain ⟨as, ra⟩ := kqd_in N n Dv hd
  obtain ⟨bs, rb⟩ := kqd_in N k Du he
  have la := kqd_lay n d hd
  have lb := kqd_lay k e he
  refine SeqAt.compareEq_reads ra rb la.1 lb.1 ?_ (h _ (kqd_eqv n d e k hd he))
  exact min_mono hu la.2 lb.2
theorem my_ne {v u : Value} {d e : Dat} {n k : Nat} {Q : Value → Shared → Prop} (N : News h₀ L s.heap news) (Dv : DatIn news v d) (Du : DatIn news u e) (hd : kqdOk n d = true) (he : kqdOk k e = true) (hu : A.units + min n k < cLine)
    (h : ∀ b, (b = true ↔ d ≠ e) → Q (.bool b) s) : wpAny (model prog w) A (compareOp .NotEq v u) Q E s := by
  obtain ⟨as, ra⟩ := kqd_in N n Dv hd
  obtain ⟨bs, rb⟩ := kqd_in N k Du he
  have la := kqd_lay n d hd
  have lb := kqd_lay k e he
  refine SeqAt.compareNe_reads ra rb la.1 lb.1 ?_ (h _ ?_)
  · exact min_mono hu la.2 lb.2
  · have := kqd_eqv n d e k hd he
    rw [Bool.not_eq_true', ← Bool.not_eq_true, this]
end
theorem my_ints_nil {prog : Program} {w : World} {A : Around} {E : Value → Shared → Prop} {s : Shared} {h₀ : Heap} {L : Addr} {news : List (Addr × Obj)} {a b : Addr} {vs : List Value} {ns : List Int} {e e2 : Nat} {Q : Value → Shared → Prop} (N : News h₀ L s.heap news) (ha : (a, W.listOf vs.toArray e) ∈ news) (hb : (b, W.listOf (#[] : Array Value) e2) ∈ news)
    (hi : IntsAre vs ns) (hu : A.units + 64 < cLine) (h : ∀ r, (r = true ↔ ns = []) → Q (.bool r) s) : wpAny (model prog w) A (compareOp .Eq (.ref a) (.ref b)) Q E s :=
  ke_eq_ints (ys := []) (News.isList N ha) (News.isList N hb) hi .nil hu (h _ (by simp))
theorem my_ints_notnil {prog : Program} {w : World} {A : Around} {E : Value → Shared → Prop} {s : Shared} {h₀ : Heap} {L : Addr} {news : List (Addr × Obj)} {a b : Addr} {vs : List Value} {ns : List Int} {e e2 : Nat} {Q : Value → Shared → Prop} (N : News h₀ L s.heap news) (ha : (a, W.listOf vs.toArray e) ∈ news) (hb : (b, W.listOf (#[] : Array Value) e2) ∈ news)
    (hi : IntsAre vs ns) (hu : A.units + 64 < cLine) (h : ∀ r, (r = true ↔ ns ≠ []) → Q (.bool r) s) : wpAny (model prog w) A (compareOp .NotEq (.ref a) (.ref b)) Q E s :=
  ke_ne_ints (ys := []) (News.isList N ha) (News.isList N hb) hi .nil hu (h _ (by simp))
theorem my_last {prog : Program} {w : World} {A : Around} {E : Value → Shared → Prop} {s : Shared} {h₀ : Heap} {L : Addr} {news : List (Addr × Obj)} {value slice : PySem.Expr} {a : Addr} {vs : List Value} {ns : List Int} {e : Nat} {u : Tok} {Q : Value → Shared → Prop} (N : News h₀ L s.heap news) (ha : (a, W.listOf vs.toArray e) ∈ news)
    (hi : IntsAre vs ns) (hne : ns ≠ []) (h : ∀ t, Q (.int (ns.getLastD 0) t) s)
    (hs : subscripted slice false (.ref a) (.int (-1) u) = operate [.ref a, .int (-1) u] (getItem (.ref a) (.int (-1) u)) := by with_unfolding_all rfl) :
    wpAny (model prog w) A (subscriptTail value slice (.ref a) (.int (-1) u)) Q E s := by
  have hl : 0 < ns.length := List.length_pos_iff.mpr hne
  refine item_list_ints_negR (News.isList N ha) hi (by decide) (by k_extra "ar9") (by decide) (fun t => ?_) hs
  have e1 : ((-1 : Int) + (ns.length : Int)).toNat = ns.length - 1 := by rw [Int.add_comm, ← Int.sub_eq_add_neg]; exact Int.toNat_sub ns.length 1
  have e2 : ns.getD (ns.length - 1) 0 = ns.getLastD 0 := by
    rw [List.getLastD_eq_getLast?, List.getLast?_eq_getElem?, List.getD_eq_getElem?_getD]
  rw [e1, e2]
  exact h t
theorem my_append {D : Addr} {ys : List Value} {n : Nat} {x : Value} {news' : List (Addr × Obj)} {prog : Program} {w : World} {A : Around} {E : Value → Shared → Prop} {s : Shared} {h₀ : Heap} {L : Addr} {m : Str → Option Value} {news : List (Addr × Obj)} {Q : Value → Shared → Prop} (F : Fr h₀ L s.heap m) (N : News h₀ L s.heap news) (U : Upd D (W.listOf ys.toArray n) (W.listOf (ys ++ [x]).toArray (n + 1)) news news')
    (hsz : ys.length ≤ 4000000) (h : ∀ h', Fr h₀ L h' m → News h₀ L h' news' → Q .none { s with heap := h' }) : wpAny (model prog w) A (call (.builtin "list.append") [.ref D, x]) Q E s := by
  have e : (ys ++ [x]).toArray = ys.toArray.push x := by simp
  rw [e] at U
  exact append_K F N U h (by rw [List.size_toArray, sizeLine_eq]; k_extra "ar9")
theorem drop_cons {t : List Nat} {n c : Nat} (h : (t.drop n).take 1 = [c]) : t.drop n = c :: t.drop (n + 1) ∧ n < t.length := by
  have hn : n < t.length := by
    apply Nat.lt_of_not_le
    intro k
    rw [List.drop_of_length_le k] at h
    cases h
  refine ⟨?_, hn⟩
  rw [List.drop_eq_getElem_cons hn] at h ⊢
  have e := List.head_eq_of_cons_eq h
  rw [e]
theorem TbEnd.go {h₀ : Heap} {L : Addr} {J : (Str → Option Value) → List (Addr × Obj) → Prop} {own news' nx : List (Addr × Obj)} {s₁ : Shared} {h' : Heap} {tk : Nat} {m' : Str → Option Value} (F : Fr h₀ L h' m') (N : News h₀ L h' news') (j : J m' nx)
    (h1 : ∀ p ∈ nx, p ∈ news') (h2 : ∀ p ∈ own, p ∈ news') (h3 : TbOff own nx) : TbEnd h₀ L J own s₁ { s₁ with heap := h', toks := tk } := ⟨h', tk, m', news', nx, rfl, F, N, h1, h2, h3, j⟩
theorem led_end {h₀ : Heap} {L : Addr} {J : (Str → Option Value) → List (Addr × Obj) → Prop} {own new old : List (Addr × Obj)} {s₁ : Shared} {h' : Heap} {tk : Nat} {m' : Str → Option Value} (F : Fr h₀ L h' m') (N : News h₀ L h' (new ++ (old ++ own)))
    (hnew : Apart new own) (hown : OwnOff own (old.map (·.1))) (hj : J m' (new ++ old)) : InvEndG h₀ L J own s₁ { s₁ with heap := h', toks := tk } := by
  refine InvEndG.intro F N hj ?_ ?_ ?_
  · intro p hp b hb
    rw [List.map_append] at hb
    rcases List.mem_append.mp hb with hb | hb
    · obtain ⟨q, hq, rfl⟩ := List.mem_map.mp hb
      exact Ne.symm (hnew q hq p hp)
    · exact hown p hp b hb
  · intro p hp
    rcases List.mem_append.mp hp with hp | hp
    · exact List.mem_append_left _ hp
    · exact List.mem_append_right _ (List.mem_append_left _ hp)
  · exact fun p hp => List.mem_append_right _ (List.mem_append_right _ hp)
theorem my_down {prog : Program} {w : World} {A : Around} {E : Value → Shared → Prop} {s : Shared} {env : Env} {h₀ : Heap} {x : Str} {body : List Stmt} {Q : Flow → Shared → Prop} {r : Addr} {a₀ b₀ : Int} {t₀ u₀ v₀ : Tok} {n : Nat} {m₀ : Str → Option Value} {news : List (Addr × Obj)} (J : Nat → (Str → Option Value) → List (Addr × Obj) → Prop)
    (hh : A.handled = none) (hr : IsRange s.heap r a₀ b₀ (-1) t₀ u₀ v₀) (hsmall : Builtin.Range.small a₀ b₀ (-1) = true) (hn : Builtin.Range.rangeSize a₀ b₀ (-1) = (n : Int)) (F : Fr h₀ env.locals s.heap m₀) (N : News h₀ env.locals s.heap news) (hj : J 0 m₀ news)
    (turn : ∀ i t m₁ nx h tk own, i < n → TbOff own nx → J i m₁ nx → Fr h₀ env.locals h (fun y => if y = x then some (.int (a₀ - (i : Int)) t) else m₁ y) → News h₀ env.locals h (nx ++ own) →
      wpAny (model prog w) A (execs body env) (TbPost h₀ env.locals (J (i + 1)) own { s with heap := h, toks := tk } Q) E { s with heap := h, toks := tk })
    (done : ∀ m₁ nx h tk, J n m₁ nx → Fr h₀ env.locals h m₁ → News h₀ env.locals h nx → Q .next { s with heap := h, toks := tk }) :
    wpAny (model prog w) A (pyIter (.ref r)) (fun it s₂ => LoopAtV prog w A h₀ env x body Q E it s₂) E s := by
  refine wpAny_pyIter_range hr hsmall ?_
  have W : Walks prog w A s.heap.objs.size [s.heap.objs.size] [s.heap.objs.size] n (fun i v => i < n ∧ ∃ t, v = .int (a₀ + i * (-1)) t)
      (fun i h => IsRangeIter h s.heap.objs.size (a₀ + (i : Nat) * (-1)) ((n : Int) - (i : Nat)) (-1)) := (Walks.range hh _ a₀ (-1) n).bound
  refine tbr_loop J W (fun _ h => h) (fun _ h => h) ?_ ?_ ?_ ?_ (by show IsRangeIter _ _ _ _ _; rw [hn]; simpa using Heap.get?_push_size _ rfl) (F.push _) (fun p hp => ⟨Heap.get?_push_of_some _ (N p hp).1, (N p hp).2⟩) hj ?_ ?_
  · intro i h hi b hb
    rw [List.mem_singleton.mp hb]
    exact ⟨_, hi⟩
  · intro hm
    exact absurd F.ns.lt ((List.mem_singleton.mp hm) ▸ Nat.lt_irrefl _)
  · intro b hb
    rw [List.mem_singleton.mp hb]
    exact next_is_new F
  · intro p hp hI
    exact absurd (Heap.lt_size (N p hp).1) ((List.mem_singleton.mp hI) ▸ Nat.lt_irrefl _)
  · rintro i v m₁ nx h tk own hi ⟨_, t, rfl⟩ hoff hJ F₁ N₁
    have e1 : a₀ + (i : Int) * (-1) = a₀ - (i : Int) := by k_extra "ar9"
    rw [e1] at F₁
    exact turn i t m₁ nx h tk own hi hoff hJ F₁ N₁
  · exact done
theorem setL_at : ∀ {l : List Value} {k : Nat} {v : Value}, k < l.length → ki_setL l k v = some (l.set k v)
  | [], _, _, h => absurd h (Nat.not_lt_zero _)
  | _ :: r, 0, _, _ => rfl
  | x :: r, k + 1, v, h => by
    unfold ki_setL
    rw [setL_at (l := r) (by simpa using h)]
    rfl
theorem my_setItem {prog : Program} {w : World} {A : Around} {E : Value → Shared → Prop} {s : Shared} {h₀ : Heap} {L D : Addr} {m : Str → Option Value} {news news' : List (Addr × Obj)} {l : List Value} {e n : Nat} {k : Int} {t : Tok} {v : Value} {Q : Unit → Shared → Prop} (F : Fr h₀ L s.heap m) (N : News h₀ L s.heap news) (hk : k = (n : Int)) (hn : n < l.length) (hz : n < 2 ^ 62)
    (U : Upd D (W.listOf l.toArray e) (W.listOf (l.set n v).toArray e) news news') (h : ∀ h', Fr h₀ L h' m → News h₀ L h' news' → Q () { s with heap := h' }) : wpAny (model prog w) A (setItem (.ref D) (.int k t) v) Q E s := by
  subst hk
  refine ki_set (q := l.set n v) F N (by k_extra "ar9") (by k_extra "ar9") ?_ U h
  have : ((n : Int)).toNat = n := by k_extra "ar9"
  rw [this]
  exact setL_at hn
theorem off_consN {D a : Addr} {o : Obj} {r : List (Addr × Obj)} (h : @Ne Nat a D) (k : ∀ p ∈ r, p.1 ≠ D) : ∀ p ∈ (a, o) :: r, p.1 ≠ D := by
  intro p hp
  rcases List.mem_cons.mp hp with rfl | hp
  · exact h
  · exact k p hp
theorem nrot23 {h₀ : Heap} {L : Addr} {h : Heap} {a b c d e : Addr × Obj} {r : List (Addr × Obj)} (N : News h₀ L h (a :: b :: c :: d :: e :: r)) : News h₀ L h (c :: d :: e :: a :: b :: r) := by
  exact nget N (by k_extra "sub9")
theorem nget_tail {h₀ : Heap} {L : Addr} {h : Heap} {a : Addr × Obj} {l : List (Addr × Obj)} (N : News h₀ L h (a :: l)) : News h₀ L h l := fun p hp => N p (.tail _ hp)
theorem nget_own {h₀ : Heap} {L : Addr} {h : Heap} {l news own : List (Addr × Obj)} (N : News h₀ L h (l ++ (news ++ own))) : News h₀ L h (l ++ news) := by
  intro p hp
  refine N p ?_
  rcases List.mem_append.mp hp with hp | hp
  · exact List.mem_append_left _ hp
  · exact List.mem_append_right _ (List.mem_append_left _ hp)
theorem DatAll_len {news : List (Addr × Obj)} : ∀ {vs : List Value} {ds : List Dat}, DatAll news vs ds → vs.length = ds.length
  | _, _, .nil => rfl
  | _, _, .cons _ h => by simp [DatAll_len h]
theorem off_nil {D : Addr} : ∀ p ∈ ([] : List (Addr × Obj)), p.1 ≠ D := fun _ h => nomatch h
theorem off_cons {D a : Addr} {o : Obj} {r : List (Addr × Obj)} (h : a ≠ D) (k : ∀ p ∈ r, p.1 ≠ D) : ∀ p ∈ (a, o) :: r, p.1 ≠ D := by
  intro p hp
  rcases List.mem_cons.mp hp with rfl | hp
  · exact h
  · exact k p hp
theorem off_app {D : Addr} {l r : List (Addr × Obj)} (h : ∀ p ∈ l, p.1 ≠ D) (k : ∀ p ∈ r, p.1 ≠ D) : ∀ p ∈ l ++ r, p.1 ≠ D := by
  intro p hp
  rcases List.mem_append.mp hp with hp | hp
  · exact h p hp
  · exact k p hp
theorem off_lt {D : Addr} {l : List (Addr × Obj)} (h : ∀ p ∈ l, p.1 < D) : ∀ p ∈ l, p.1 ≠ D := fun p hp => Nat.ne_of_lt (h p hp)
theorem off_le {d D : Addr} {l : List (Addr × Obj)} (h : ∀ p ∈ l, p.1 < d) (hd : @LE.le Nat _ d D) : ∀ p ∈ l, p.1 ≠ D := fun p hp => Nat.ne_of_lt (Nat.lt_of_lt_of_le (h p hp) hd)
theorem off_ap {D : Addr} {o : Obj} {l r : List (Addr × Obj)} (h : ∀ p ∈ l, ∀ q ∈ r, p.1 ≠ q.1) (hm : (D, o) ∈ r) : ∀ p ∈ l, p.1 ≠ D := fun p hp => h p hp _ hm
theorem off_ap' {D : Addr} {o : Obj} {l r : List (Addr × Obj)} (h : ∀ p ∈ l, ∀ q ∈ r, p.1 ≠ q.1) (hm : (D, o) ∈ l) : ∀ p ∈ r, p.1 ≠ D := fun q hq => Ne.symm (h _ hm q hq)
theorem cast_add {i : Int} {n k : Nat} (h : i = (n : Int)) : i + (k : Int) = ((n + k : Nat) : Int) := by k_extra "ar9"
theorem cast_add1 {i : Int} {n : Nat} (h : i = (n : Int)) : i + 1 = ((n + 1 : Nat) : Int) := by k_extra "ar9"
theorem cast_add' {i : Int} {n : Nat} (h : i = (n : Int)) : i + 1 = (n : Int) + 1 := by k_extra "ar9"
theorem cast_1 : (1 : Int) = ((1 : Nat) : Int) := rfl
theorem cast_0 : (0 : Int) = ((0 : Nat) : Int) := rfl
theorem rows15 : True := by
  (k_with "nat_is" => first | exact cast_0 | exact cast_1 | with_reducible assumption | exact rfl | exact cast_add1 rfl | exact cast_add1 (cast_add1 rfl) | exact cast_0)
  (k_with "WTurn ret" => (k_here; refine WTurn.out ?_))
  (k_with "subscriptTail Subscript" => (k_here; (with_reducible show wpAny _ _ (subscriptTail _ (PySem.Expr.Slice none none (some _) _) (Value.ref _) (Value.ref _)) _ _ _); k_dflt (refine' krv_ints ?zqF ?zqN ?zql ?zqk ?zqi ?_ ?zqs ?zqt ?zqz; (case zqF => k_asm); (case zqN => k_asm); (case zql => exact News.isList (by k_asm) (by k_mem)); (case zqk => exact IsPart.int _ _); (case zqi => k_asm); (case zqs => with_unfolding_all rfl); (case zqt => kmk_pure); (case zqz => (rw [List.size_toArray, sizeLine_eq]; k_extra "ar9")); k_whole); intro zD' zws' zh' zF' zN' zl9 zhi' zhl'))
  (k_with "subscriptTail Name Slice ref ref" => (k_here; (with_reducible show wpAny _ _ (subscriptTail _ (PySem.Expr.Slice none (some (Expr.UnaryOp _ _ _)) none _) (Value.ref _) (Value.ref _)) _ _ _); k_dflt (refine' kmk_slice_ints ?zqF ?zqN ?zql ?zqp ?zqq ?zqi ?zqm ?zqc ?_ ?zqs ?zqt ?zqz; (case zqF => k_asm); (case zqN => k_asm); (case zql => exact News.isList (by k_asm) (by k_mem)); (case zqp => kmk_part); (case zqq => kmk_part); (case zqi => k_asm); (case zqm => exact kmk_upto_neg (by k_asm) (by decide)); (case zqc => exact rfl); (case zqs => with_unfolding_all rfl); (case zqt => kmk_pure); (case zqz => (rw [List.size_toArray, sizeLine_eq]; k_extra "ar9")); k_whole); intro zD' zws' zh' zF' zN' zl9 zhi' zhl' zhc'; (have zhw' := IntsAre.length zhi')))
  (k_with "setItem ref int" => (k_here; k_dflt (refine' my_setItem ?zqF ?zqN ?zqk ?zqn ?zqz ?zqU ?_; (case zqF => k_asm); (case zqN => k_asm); (case zqk => k_extra "nat_is"); (case zqU => k_upd); (case zqn => k_extra "ar9"); (case zqz => k_extra "ar9"); k_whole); intro zh' zF' zN'; (try dsimp only [List.nil_append, List.cons_append] at zN')))
  (k_with "unpackItems ref" => (k_here; k_dflt (refine' unpackItemsN_ ?zqk1 ?zqk2 ?zqk3 ?zqk4 ?zqk5 ?_; (case zqk1 => k_asm); (case zqk2 => k_asm); (case zqk3 => kun_tup); (case zqk4 => k_asm); (case zqk5 => exact rfl); k_whole); intro zh' zF' zN'; (try k_sweep)))
  (k_with "assign Tuple" => (k_here; (with_reducible show wpAny _ _ (assign (Expr.Tuple _ _ _) _ (Value.ref _)) _ _ _); k_dflt (refine' unpackN_ ?zqk1 ?zqk2 ?zqk3 ?zqk4 ?zqk5 ?zqk6 ?_; (case zqk1 => k_asm); (case zqk2 => k_asm); (case zqk3 => kun_tup); (case zqk4 => k_asm); (case zqk5 => exact rfl); (case zqk6 => exact rfl); k_whole); intro zh' zF' zN'; (try k_sweep)))
  trivial
local macro_rules | `(tactic| walk_at "pyIter ref") => `(tactic| (k_here; (with_reducible show wpAny _ _ (pyIter (Value.ref _)) (fun it s₂ => LoopAtV _ _ _ _ _ _ _ _ _ it s₂) _ _); refine Halt.out ?_))
theorem rows16 : True := by
  (k_with "s_is" => first | exact rfl | exact lit_0 | exact lit_1 | exact lit_2 | exact lit_3 | exact lit_4 | exact lit_5 | exact lit_6 | exact lit_7)
  trivial
local macro_rules | `(tactic| k_all) => `(tactic| k_extra "k_all")
theorem rows17 : True := by
  (k_with "k_all" => first | with_reducible assumption | exact off_le (by with_reducible assumption) (by k_extra "ar9") | (refine off_app ?_ ?_ <;> k_all))
  (k_with "my_upd" => first | exact Upd.head (by with_reducible assumption) | exact Upd.tail (by with_reducible assumption) (Upd.head (by with_reducible assumption)))
  (k_with "call builtin:list.append" => (k_here; (with_reducible show wpAny _ _ (call (Value.builtin _) [Value.ref _, _]) _ _ _); k_dflt (refine' my_append ?zqk1 ?zqk2 ?zqk3 ?zqz ?_; (case zqk1 => k_asm); (case zqk2 => k_asm); (case zqk3 => first | k_extra "my_upd" | k_upd); (case zqz => k_extra "ar9"); k_whole); intro zh' zF' zN'))
  (k_with "call builtin:len" => (k_here; (with_reducible show wpAny _ _ (call (Value.builtin "len") [Value.str (S _) _]) _ _ _); k_dflt (refine' my_str_len ?zqk3 ?_; (case zqk3 => k_extra "ar9"); k_whole); intro zt' ztk'; (try dsimp only)))
  (k_with "subscriptTail Name Slice str ref" => (k_here; (with_reducible show wpAny _ _ (subscriptTail _ (Expr.Slice (some _) (some _) none _) (Value.str (S _) _) (Value.ref _)) _ _ _); (with_reducible rename Fr _ _ _ _ => zF'); (with_reducible rename News _ _ _ _ => zN'); (first | refine my_str_sign (s := ⟨_, _, _, _, _⟩) zF' zN' (by k_extra "nat_is") (by first | exact rfl | exact cast_add' rfl) (by k_extra "ar9") ?_ | refine my_str_cut (s := ⟨_, _, _, _, _⟩) zF' zN' (by k_extra "nat_is") (by k_extra "nat_is") (by k_extra "ar9") ?_); intro zh' zt' zk' zF' zN'))
  (k_with "subscriptTail" => (k_here; (with_reducible show wpAny _ _ (subscriptTail _ _ (Value.str (S _) _) (Value.int _ _)) _ _ _); (refine my_str_item (by k_extra "nat_is") (by k_extra "ar9") (by k_extra "ar9") ?_); intro zt' ztk'; (try dsimp only)))
  (k_with "subscriptTail Name Name str int" => (k_here; (with_reducible show wpAny _ _ (subscriptTail _ _ (Value.str (S _) _) (Value.int _ _)) _ _ _); (refine my_str_item (by k_extra "nat_is") (by k_extra "ar9") (by k_extra "ar9") ?_); intro zt' ztk'; (try dsimp only)))
  (k_with "compareOp In str str" => (k_here; (with_reducible show wpAny _ _ (compareOp CmpOp.In (Value.str (S [_]) _) (Value.str _ _)) _ _ _); refine my_in ?_))
  (k_with "compareOp Eq str str" => (k_here; (with_reducible show wpAny _ _ (compareOp CmpOp.Eq (Value.str _ _) (Value.str _ _)) _ _ _); refine my_seq (by k_extra "s_is") (by k_extra "s_is") ?_))
  (k_with "compareOp NotEq str str" => (k_here; (with_reducible show wpAny _ _ (compareOp CmpOp.NotEq (Value.str _ _) (Value.str _ _)) _ _ _); refine my_sne (by k_extra "s_is") (by k_extra "s_is") ?_))
  (k_with "call type:int" => (k_here; (with_reducible show wpAny _ _ (call (Value.type "int") [Value.str (S _) _]) _ _ _); refine Halt.out ?_))
  trivial
/-- stop at the test that stands on this line -/
structure StopLine (n : Nat) : Prop
theorem stop_if {n a b c : Nat} {M : Model} {A : Around} {env : Env} {test : PySem.Expr} {body orelse : List Stmt} {Q : Flow → Shared → Prop} {E : Value → Shared → Prop} {s : Shared} (_ : StopLine n) (h : Halt (wpAny M A (exec (.If test body orelse ⟨n, a, b, c⟩) env) Q E s)) :
    wpAny M A (exec (.If test body orelse ⟨n, a, b, c⟩) env) Q E s := h.out
theorem rows18 : True := by
  (k_with "exec If" => (k_here; (rename StopLine _ => zsl9); with_reducible refine stop_if zsl9 ?_))
  trivial
section
variable {prog : Program} {w : World} {A : Around} {E : Value → Shared → Prop} {s : Shared} {h₀ : Heap} {L : Addr} {m : Str → Option Value} {news : List (Addr × Obj)} {env : Env} {Q : Flow → Shared → Prop}
theorem my_join_at {st : Stmt} (_ : Fr h₀ L s.heap m) (D : (Str → Option Value) → List (Addr × Obj) → Prop)
    (h : wpAny (model prog w) A (exec st env) (fun f s₂ => match f with | .next => WDone h₀ L D s s₂ | f => Q f s₂) E s)
    (done : ∀ m₁ news₁ h₁ tk₁, Fr h₀ L h₁ m₁ → News h₀ L h₁ news₁ → D m₁ news₁ → Q .next { s with heap := h₁, toks := tk₁ }) : wpAny (model prog w) A (exec st env) Q E s := by
  refine wpAny_mono h (fun f s₂ hq => ?_) fun _ _ e => e
  cases f with
  | next =>
    obtain ⟨h', tk, m', news', rfl, F', N', d⟩ := hq
    exact done m' news' h' tk F' N' d
  | ret v => exact hq
  | brk => exact hq
  | cont => exact hq
end
theorem tw_in {t P : List Nat} {q k : Nat} (hP : (t.drop q).takeWhile isD = P) (hk : k < P.length) : isD (t.getD (q + k) 0) = true := by
  have h1 : P <+: t.drop q := hP ▸ List.takeWhile_prefix _
  have h2 : (t.drop q)[k]? = P[k]? := by
    obtain ⟨r, hr⟩ := h1
    rw [← hr, List.getElem?_append_left hk]
  rw [List.getElem?_drop] at h2
  rw [List.getD_eq_getElem?_getD, h2, List.getElem?_eq_getElem hk]
  have h3 : P[k] ∈ P := List.getElem_mem hk
  generalize P[k] = x at h3
  rw [← hP] at h3
  exact List.all_eq_true.mp List.all_takeWhile _ h3
theorem tw_out {t P : List Nat} {q : Nat} (hP : (t.drop q).takeWhile isD = P) (hk : q + P.length < t.length) : isD (t.getD (q + P.length) 0) = false := by
  have h2 : t.drop q = P ++ (t.drop q).dropWhile isD := by rw [← hP, List.takeWhile_append_dropWhile]
  have h3 : t.drop (q + P.length) = (t.drop q).dropWhile isD := by
    rw [← List.drop_drop]
    conv => lhs; rw [h2]
    rw [List.drop_left]
  cases hd : (t.drop q).dropWhile isD with
  | nil =>
    rw [hd] at h3
    have := congrArg List.length h3
    rw [List.length_drop, List.length_nil] at this
    k_extra "ar9"
  | cons c r =>
    have h5 := List.head?_dropWhile_not isD (t.drop q)
    rw [hd] at h3 h5
    have h4 : (t.drop (q + P.length))[0]? = some c := by rw [h3]; rfl
    rw [List.getElem?_drop, Nat.add_zero] at h4
    rw [List.getD_eq_getElem?_getD, h4]
    simpa using h5
theorem tw_drop {t P : List Nat} {q : Nat} (hP : (t.drop q).takeWhile isD = P) : t.drop (q + P.length) = (t.drop q).dropWhile isD := by
  have h2 : t.drop q = P ++ (t.drop q).dropWhile isD := by rw [← hP, List.takeWhile_append_dropWhile]
  rw [← List.drop_drop]
  conv => lhs; rw [h2]
  rw [List.drop_left]
theorem tw_take {t P : List Nat} {q : Nat} (hP : (t.drop q).takeWhile isD = P) : (t.drop q).take (q + P.length - q) = P := by
  have h2 : t.drop q = P ++ (t.drop q).dropWhile isD := by rw [← hP, List.takeWhile_append_dropWhile]
  rw [Nat.add_sub_cancel_left]
  conv => lhs; rw [h2]
  rw [List.take_left]
theorem tw_all {t P : List Nat} {q : Nat} (hP : (t.drop q).takeWhile isD = P) : AllDigits P := by
  intro c hc
  rw [← hP] at hc
  have := List.all_eq_true.mp List.all_takeWhile _ hc
  unfold isD at this
  simp only [Bool.and_eq_true, decide_eq_true_eq] at this
  exact this
theorem tw_head {t P : List Nat} {q : Nat} (hP : (t.drop q).takeWhile isD = P) (h0 : P ≠ []) : (t.drop q).head? = some (t.getD q 0) := by
  have h1 : q < t.length := by
    apply Nat.lt_of_not_le
    intro h
    rw [List.drop_of_length_le h] at hP
    exact h0 hP.symm
  rw [List.head?_drop, List.getD_eq_getElem?_getD, List.getElem?_eq_getElem h1]
  rfl
theorem num_no {t P : List Nat} {q : Nat} (hP : (t.drop q).takeWhile isD = P) (h : P = [] ∨ t.getD q 0 = 48 ∨ 20 < P.length) : num (t.drop q) = none := by
  unfold num
  rw [hP, if_pos]
  by_cases h0 : P = []
  · exact .inl h0
  · rcases h with h | h | h
    · exact .inl h
    · exact .inr (.inl (by rw [tw_head hP h0, h]))
    · exact .inr (.inr h)
theorem num_yes {t P : List Nat} {q : Nat} (hP : (t.drop q).takeWhile isD = P) (h0 : P ≠ []) (h1 : t.getD q 0 ≠ 48) (h2 : P.length ≤ 20) : num (t.drop q) = some (((digitsVal P : Nat) : Int), t.drop (q + P.length)) := by
  unfold num
  rw [hP, if_neg, tw_drop hP]
  rw [tw_head hP h0]
  rintro (h | h | h)
  · exact h0 h
  · exact h1 (Option.some.inj h)
  · k_extra "ar9"

abbrev tupO (l : List Value) (e : Nat) : Obj := { cls := .type "tuple", data := .seq l.toArray e }
noncomputable def NumsPost (t : List Nat) (p : Nat) (tl : List (Addr × Obj)) (v : Value) : Prop :=
  (numsL (t.drop p) = none ∧ v = .none) ∨ Ex8 fun ns q a b vs e e2 t' => Al6 (numsL (t.drop p) = some (ns, t.drop q)) (q ≤ t.length) (v = .ref a) ((a, tupO [.ref b, .int (q : Nat) t'] e2) ∈ tl) ((b, W.listOf vs.toArray e) ∈ tl) (IntsAre vs ns)
theorem nums_ct (w : World) (mean : ExcName → Option Value) (mg mb : Str → Option Value) (t : List Nat) (p : Nat) (hp0 : p ≤ t.length) (ht : t.length ≤ 100000) :
    Fun w mean mg mb 194 2 (fun _ vs => Ex2 fun t1 t2 => vs = [.str (S t) t1, .int (p : Int) t2]) (NumsPost t p) := by
  unfold Fun
  k_fill
  intro A A₀ base h₀ outer L m news s env Q E vs B hF X N T hA hf hke hh hdp hu hp hret
  obtain ⟨t1, t2, rfl⟩ := hp
  have hrl : recursionLimit = 1000 := rfl
  refine wpAny_call ?_
  k_enter
  k_steps
  refine Halt.mk ?_
  rename IsRange _ _ _ _ _ _ _ _ => rg
  rename Fr _ _ _ _ => kF
  rename News _ _ _ _ => kN
  refine tbr_invG (fun i m nx => Ex6 fun l q ys ns e tq => Al8 (nx = (l, W.listOf ys.toArray e) :: news) ((∀ p ∈ news, p.1 < l)) (IntsAre ys ns) (ns.length = i) (Pin m [("text", .str (S t) t1), ("at", .int (q : Nat) tq), ("found", .ref l)]) (q ≤ t.length) (2 * i ≤ q) (numsL (t.drop p) = (numsL (t.drop q)).map (fun z => (ns ++ z.1, z.2)))) hh rg (small_one (by k_extra "ar9") (by k_extra "ar9") (by k_extra "ar9") (by k_extra "ar9")) (rangeSize_nat _ _) kF kN ⟨_, p, [], [], _, _, rfl, by assumption, .nil, rfl, ⟨rfl, rfl, rfl, trivial⟩, hp0, by k_extra "ar9", by simp⟩ ?_ ?_
  · rintro i k' tk' m₁ nx h₁ tk₁ own hk hoff ⟨l, q, ys, ns, e, tq, rfl, hlt, hys, hnl, hpin, hq, hiq, hnum⟩ F₁ N₁
    have F₂ := Fr.pin1 F₁ hpin
    clear F₁
    rw [List.cons_append] at N₁
    k_steps
    refine Halt.mk ?_
    have hP := len_takeW (t.drop q)
    rw [List.length_drop] at hP
    generalize hPe : (t.drop q).takeWhile isD = P at hP
    rename Fr _ _ _ _ => kF
    rename News _ _ _ _ => kN
    refine my_while (fun n m nx => Ex2 fun k tk => Al4 (nx = (l, W.listOf ys.toArray e) :: (news ++ own)) (k ≤ P.length) (n = P.length - k) (Pin m [("text", .str (S t) t1), ("at", .int (q : Nat) tq), ("found", .ref l), ("end", .int (q + k : Nat) tk)]))
      (fun m nx => ∃ tk, nx = (l, W.listOf ys.toArray e) :: (news ++ own) ∧ Pin m [("text", .str (S t) t1), ("at", .int (q : Nat) tq), ("found", .ref l), ("end", .int (q + P.length : Nat) tk)])
      kF kN ⟨0, tq, rfl, Nat.zero_le _, rfl, ⟨rfl, rfl, rfl, rfl, trivial⟩⟩ ?_ ?_
    · rintro n m₃ nx₃ h₃ tk₃ F₃ N₃ ⟨k, tk, rfl, hk1, rfl, hpin₃⟩
      have F₄ := Fr.pin F₃ hpin₃
      clear F₃
      k_steps
      · dsimp only at *
        rename Fr _ _ _ (fun _ => _) => kF'
        rename News _ _ _ _ => kN'
        refine WTurn.go kF' kN' (n' := P.length - (k + 1)) ?_ ⟨k + 1, _, rfl, ?_, rfl, ⟨rfl, rfl, rfl, rfl, trivial⟩⟩
        all_goals
          have : k ≠ P.length := fun e => by subst e; have := tw_out hPe (by k_extra "ar9"); simp_all
          k_extra "ar9"
      · refine WDone.intro F₄ N₃ ⟨tk, rfl, ?_⟩
        have : ¬ k < P.length := fun e => by have := tw_in hPe e; simp_all
        have e : k = P.length := by k_extra "ar9"
        subst e
        exact hpin₃.eq ▸ hpin₃
      · refine WDone.intro F₄ N₃ ⟨tk, rfl, ?_⟩
        have e : k = P.length := by k_extra "ar9"
        subst e
        exact hpin₃.eq ▸ hpin₃
    rintro m₃ nx₃ h₃ tk₃ F₃ N₃ ⟨tk, rfl, hpin₃⟩
    have F₄ := Fr.pin F₃ hpin₃
    clear F₃ kF kN
    have no : P = [] ∨ t.getD q 0 = 48 ∨ 20 < P.length → numsL (t.drop p) = none := by
      intro h
      rw [hnum, numsL_eq, num_no hPe h]; rfl
    k_steps
    any_goals
      dsimp only at *
      rename Fr h₀ L _ _ => kF
      rename News h₀ L _ _ => kN
      refine hret _ [] _ _ kF (nget kN fun p hp => .tail _ (List.mem_append_left _ hp)) Apart.nil (.inl ⟨no ?_, rfl⟩)
    · exact .inl (List.length_eq_zero_iff.mp (by k_extra "ar9"))
    · refine .inr (.inl ?_)
      simp_all
    · exact .inr (.inr (by k_extra "ar9"))
    refine Halt.mk ?_
    rw [tw_take hPe]
    have hne : P ≠ [] := fun e => by subst e; simp at *
    have yes := num_yes hPe hne (by simp_all) (by k_extra "ar9")
    refine my_int (tw_all hPe) hne (by k_extra "ar9") ?_
    intro t9 tk9
    generalize ((digitsVal P : Nat) : Int) = v at yes
    clear no
    rw [numsL_eq (t.drop q), yes] at hnum
    dsimp only at hnum
    have off1 : ∀ p ∈ news ++ own, p.1 ≠ l := off_app (off_lt hlt) (off_ap hoff (.head _))
    have hyl := hys.length
    k_steps
    · refine Halt.mk ?_
      refine IfExp_ ?_
      k_steps
      · dsimp only at *
        rename News h₀ L _ _ => kN
        rename Fr h₀ L _ _ => kF
        rename _ = [41] => hc
        refine hret _ [_, _] _ _ kF (nget_own (l := [_, _]) kN) ?_ (.inr ⟨ns ++ [v], q + P.length, _, _, _, _, _, _, ?_, by k_extra "ar9", rfl, .head _, .tail _ (.head _), ?_⟩)
        · tb_rel
        · rw [hnum, (drop_cons hc).1]; rfl
        · exact hys.append (IntsAre.cons _ _ IntsAre.nil)
      · dsimp only at *
        rename News h₀ L _ _ => kN
        rename Fr h₀ L _ _ => kF
        refine hret _ [] _ _ kF (nget kN fun p hp => .tail _ (List.mem_append_left _ hp)) Apart.nil (.inl ⟨?_, rfl⟩)
        rename ¬(_ = [41]) => hc
        rename _ ≠ [32] => hc2
        rw [hnum]
        generalize List.drop (q + P.length) t = u at hc hc2
        split
        · rename_i r; exact absurd rfl hc2
        · rename_i r; exact absurd rfl hc
        · rfl
    · dsimp only at *
      rename News h₀ L _ _ => kN
      rename Fr h₀ L _ _ => kF
      rename ¬(_ ≠ [32]) => hc
      rename _ = [40] => hc2
      refine hret _ [_, _] _ _ kF (nget_own (l := [_, _]) kN) ?_ (.inr ⟨ns ++ [v], q + P.length + 1, _, _, _, _, _, _, ?_, ?_, rfl, .head _, .tail _ (.head _), ?_⟩)
      · tb_rel
      · have hd := (drop_cons (Decidable.not_not.mp hc)).1
        rw [hnum, hd]
        simp only
        rw [if_pos (take1_iff.mp hc2)]
        rfl
      · have := (drop_cons hc2).2; k_extra "ar9"
      · exact hys.append (IntsAre.cons _ _ IntsAre.nil)
    · dsimp only at *
      rename ¬(_ ≠ [32]) => hc
      rename ¬(_ = [40]) => hc2
      rename Fr _ _ _ (fun _ => _) => kF'
      rename News _ _ _ _ => kN'
      have hd := drop_cons (Decidable.not_not.mp hc)
      have hpos : 0 < P.length := List.length_pos_iff.mpr hne
      refine TbEnd.go kF' kN' ⟨l, q + P.length + 1, _, ns ++ [v], e + 1, _, rfl, hlt, hys.append (IntsAre.cons _ t9 IntsAre.nil), by rw [List.length_append, hnl]; rfl, ⟨rfl, rfl, rfl, trivial⟩, by k_extra "ar9", by k_extra "ar9", ?_⟩ ?_ ?_ ?_
      · rw [hnum, hd.1]
        simp only
        rw [if_neg (fun h => hc2 (take1_iff.mpr h)), Option.map_map]
        congr 1
        funext z
        simp
      · k_extra "sub9"
      · k_extra "sub9"
      · intro p hp q hq
        rcases List.mem_cons.mp hq with rfl | hq
        · exact hoff p hp (l, W.listOf ys.toArray e) (.head _)
        · exact hoff p hp _ (.tail _ hq)
  · rintro m₁ nx h₁ tk₁ ⟨l, q, ys, ns, e, tq, rfl, hlt, hys, hnl, hpin, hq, hiq, hnum⟩ F₁ N₁
    have F₂ := Fr.pin F₁ hpin
    clear F₁
    k_steps
    dsimp only at *
    rename News h₀ L _ _ => kN'
    rename Fr h₀ L _ _ => kF'
    refine hret _ [] _ _ kF' (nget kN' fun p hp => .tail _ hp) Apart.nil (.inl ⟨?_, rfl⟩)
    have hz : t.length = 0 := by k_extra "ar9"
    rw [List.length_eq_zero_iff.mp hz]
    simp [numsL_eq, num]
section
noncomputable def ListPost (t : List Nat) (p : Nat) (tl : List (Addr × Obj)) (v : Value) : Prop :=
  (oneL (t.drop p) = none ∧ v = .none) ∨ Ex6 fun f q a x e t' => Al5 (oneL (t.drop p) = some (f, t.drop q)) (q ≤ t.length) (v = .ref a) ((a, tupO [x, .int (q : Nat) t'] e) ∈ tl) (DatAll tl [x] (dats f))
theorem rows19 : True := by
  (k_with "compareOp Eq ref ref" => (k_here; refine Halt.out ?_))
  (k_with "compareOp NotEq ref ref" => (k_here; refine Halt.out ?_))
  (k_with "call ref" => (k_here; (with_reducible show wpAny _ _ (call (Value.ref 194) _) _ _ _); refine Halt.out ?_))
  (k_with "call ref" => (k_here; (with_reducible show wpAny _ _ (call (Value.ref 201) _) _ _ _); refine Halt.out ?_))
  trivial
theorem oneL_no {t : List Nat} (h : t.head? ≠ some 40) : oneL t = none := by
  unfold oneL one
  split
  · exact absurd rfl h
  · rfl
theorem oneL_go (t : List Nat) : oneL (40 :: t) = (if t.head? = some 40 then some ([], t) else numsL t).bind fun p =>
      (forestL p.2).bind fun q => match q.2 with
        | 41 :: t4 => if q.1.len = 1 ∨ (p.1 = [] ∧ q.1.len = 0) then none else some (chainF p.1 q.1 .nil, t4)
        | _ => none := rfl
theorem dats_app : ∀ f g : F, dats (f.app g) = dats f ++ dats g
  | .nil, _ => rfl
  | .cons n k r, g => by simp only [F.app, dats, dats_app r g, List.cons_append]
theorem Apart.app' {tl tl2 news : List (Addr × Obj)} (h : Apart tl (tl2 ++ news)) (k : Apart tl2 news) : Apart (tl ++ tl2) news := h.trans k
theorem nums_count : ∀ (f : Nat) {t r : List Nat} {ns : List Int}, nums f t = some (ns, r) → ns.length + r.length ≤ t.length
  | 0, _, _, _, h => by simp [nums] at h
  | f + 1, t, r, ns, h => by
    rw [nums] at h
    split at h
    · cases h
    · rename_i v r0 hv
      have h0 := num_len hv
      split at h
      · rename_i r'
        have h0' : r'.length + 1 < t.length := by simpa using h0
        split at h
        · simp only [Option.some.injEq, Prod.mk.injEq] at h
          obtain ⟨rfl, rfl⟩ := h
          simp; k_extra "ar9"
        · cases hn : nums f r' with
          | none => rw [hn] at h; cases h
          | some z =>
            rw [hn] at h
            simp only [Option.map_some, Option.some.injEq, Prod.mk.injEq] at h
            obtain ⟨rfl, rfl⟩ := h
            have := nums_count f (r := z.2) (ns := z.1) hn
            simp; k_extra "ar9"
      · simp only [Option.some.injEq, Prod.mk.injEq] at h
        obtain ⟨rfl, rfl⟩ := h
        simp at h0 ⊢; k_extra "ar9"
      · cases h
theorem chain_start (ns : List Int) (g : F) : chainF (ns.drop (ns.length - 1)) g .nil = .cons (ns.getLastD 0) g .nil := by
  cases h : ns with
  | nil => rfl
  | cons a r =>
    have hne : ns ≠ [] := by rw [h]; exact fun e => nomatch e
    rw [← h]
    obtain ⟨l, b, rfl⟩ : ∃ l b, ns = l ++ [b] := ⟨_, _, (List.dropLast_concat_getLast hne).symm⟩
    simp [chainF, List.getLastD_eq_getLast?]
theorem chain_step (ns : List Int) (g : F) {k : Nat} (hk : k + 1 < ns.length) : chainF (ns.drop k) g .nil = .cons (ns.getD k 0) (chainF (ns.drop (k + 1)) g .nil) .nil := by
  have h1 : k < ns.length := by k_extra "ar9"
  rw [List.drop_eq_getElem_cons h1]
  have h2 : ns.drop (k + 1) ≠ [] := by
    intro e
    have := congrArg List.length e
    rw [List.length_drop] at this
    simp at this; k_extra "ar9"
  have e1 : ns.getD k 0 = ns[k] := by rw [List.getD_eq_getElem?_getD, List.getElem?_eq_getElem h1]; rfl
  rw [e1]
  cases h3 : ns.drop (k + 1) with
  | nil => exact absurd h3 h2
  | cons b l => rfl
theorem rest_at (ns : List Int) {i : Nat} (hi : i < ns.length - 1) : (ns.take (ns.length - (- (-1 : Int)).toNat)).reverse[i]? = some (ns.getD (ns.length - 2 - i) 0) := by
  have e1 : (- (-1 : Int)).toNat = 1 := rfl
  have hm : (ns.take (ns.length - 1)).length = ns.length - 1 := by rw [List.length_take, min_pred]
  have h2 : ns.length - 1 - 1 - i < ns.length - 1 := pred2_lt hi
  rw [e1, List.getElem?_reverse (by rw [hm]; exact hi), hm, List.getElem?_take_of_lt h2, List.getD_eq_getElem?_getD]
  show ns[ns.length - 1 - 1 - i]? = some (ns[ns.length - 1 - 1 - i]?.getD 0)
  rw [List.getElem?_eq_getElem (Nat.lt_of_lt_of_le h2 (Nat.sub_le _ _))]
  rfl
theorem rest_zero (ns : List Int) : ns.length - 1 - (ns.take (ns.length - (- (-1 : Int)).toNat)).reverse.length = 0 := by
  have e1 : (- (-1 : Int)).toNat = 1 := rfl
  rw [e1, List.length_reverse, List.length_take, min_pred, Nat.sub_self]
theorem rows20 : True := by
  (k_with "subscriptTail Name UnaryOp ref int" => (k_here; refine Halt.out ?_))
  trivial
theorem list_ct (w : World) (mean : ExcName → Option Value) (mg mb : Str → Option Value) (t : List Nat) (ht : t.length ≤ 400) (sz : Nat) :
    ∀ p, p ≤ t.length → t.length - p < sz → Fun w mean mg mb 201 (sz + 5) (fun _ vs => Ex2 fun t1 t2 => vs = [.str (S t) t1, .int (p : Nat) t2]) (ListPost t p) := by
  induction sz with
  | zero => exact fun _ _ h => absurd h (Nat.not_lt_zero _)
  | succ sz ih =>
    intro p hp0 hpz
    unfold Fun
    k_fill
    intro A A₀ base h₀ outer L m news s env Q E vs B hF X N T hA hf hke hh hdp hu hp hret
    obtain ⟨t1, t2, rfl⟩ := hp
    have hrl : recursionLimit = 1000 := rfl
    refine wpAny_call ?_
    k_enter
    have sl : StopLine 168 := ⟨⟩
    k_steps
    · dsimp only at *
      rename Fr h₀ L _ _ => kF
      rename News h₀ L _ _ => kN
      refine hret _ [] _ _ kF kN Apart.nil (.inl ⟨?_, rfl⟩)
      rename _ ≠ [40] => hc
      rw [oneL_no (fun h => hc (take1_iff.mpr h))]
    rename ¬ (_ ≠ [40]) => hc
    have hd := drop_cons (Decidable.not_not.mp hc)
    rename StopLine _ => sl
    clear sl
    refine Halt.mk ?_
    rename Fr _ _ _ (fun _ => _) => kF
    refine my_join_at kF (fun m nx => Ex8 fun nb kd q ns vs e tl tq => Al9 (nx = (kd, W.listOf ([] : List Value).toArray 0) :: (tl ++ news)) ((nb, W.listOf vs.toArray e) ∈ tl) (IntsAre vs ns) ((∀ p ∈ tl ++ news, p.1 ≠ kd)) (Apart tl news) (Pin m [("text", .str (S t) t1), ("at", .int (q : Nat) tq), ("numbers", .ref nb), ("kids", .ref kd)]) ((if (t.drop (p + 1)).head? = some 40 then some ([], t.drop (p + 1)) else numsL (t.drop (p + 1))) = some (ns, t.drop q)) (q ≤ t.length) (p < q)) ?_ ?_
    · k_steps
      · refine Halt.mk ?_
        rename News _ _ _ (_ :: _ :: _ :: news) => kN
        rename Fr _ _ _ (fun _ => _) => kF
        rename (∀ p ∈ (_, _) :: news, p.1 < _) => lkd
        rename _ ≠ [40] => hc2
        refine Fun.use (nums_ct w mean mg mb t (p + 1) (by k_extra "ar9") (by k_extra "ar9")) (by k_asm) kF (by k_asm) kN (by k_asm) (Around.frames_deeper hA) rfl rfl hh ?_ ?_ ⟨_, _, rfl⟩ ?_
        · simp only [depth_deeper]; k_extra "ar9"
        · simp only [units_deeper]; k_extra "ar9"
        intro r tl' h' tk' F₃ N₃ hap' hJ9
        (try k_fold)
        rcases hJ9 with (⟨hno, rfl⟩ | ⟨ns, q, a, b, vs, e, e2, t', hyes, hq, rfl, ha, hb, hvs⟩)
        · k_steps
          dsimp only at *
          rename Fr h₀ L _ _ => kF
          rename News h₀ L _ _ => kN
          refine hret _ [] _ _ kF (nget kN fun p hp => List.mem_append_right _ (.tail _ (.tail _ (.tail _ hp)))) Apart.nil (.inl ⟨?_, rfl⟩)
          rw [hd.1, oneL_go, if_neg (fun h => hc2 (take1_iff.mpr h)), hno]; rfl
        · have hlen := numsL_len hyes
          rw [List.length_drop, List.length_drop] at hlen
          have hlt := Nat.lt_of_succ_lt (mm_lt hlen)
          clear hlen
          k_steps
          rename News _ _ _ (_ ++ _ :: _ :: _ :: news) => kN
          rename Fr _ _ _ (fun _ => _) => kF
          refine WDone.intro kF (nget (l' := (_, _) :: (tl' ++ news)) kN ?_) ⟨b, _, q, ns, vs, e, tl', _, rfl, hb, hvs, ?_, ?_, ⟨rfl, rfl, rfl, rfl, trivial⟩, ?_, hq, by k_extra "ar9"⟩
          · intro p hp
            rcases List.mem_cons.mp hp with rfl | hp
            · exact List.mem_append_right _ (.tail _ (.head _))
            · rcases List.mem_append.mp hp with hp | hp
              · exact List.mem_append_left _ hp
              · exact List.mem_append_right _ (.tail _ (.tail _ (.tail _ hp)))
          · exact off_app (off_ap hap' (.tail _ (.head _))) fun p hp => Nat.ne_of_lt (lkd p (.tail _ hp))
          · exact hap'.sub (fun _ h => h) fun _ h => .tail _ (.tail _ (.tail _ h))
          · rw [if_neg (fun h => hc2 (take1_iff.mpr h)), hyes]
      · dsimp only at *
        rename News _ _ _ (_ :: _ :: _ :: news) => kN
        rename Fr _ _ _ (fun _ => _) => kF
        rename (∀ p ∈ (_, _) :: news, p.1 < _) => lkd
        rename (∀ p ∈ news, p.1 < _) => lnb
        rename ¬ (_ ≠ [40]) => hc2
        refine WDone.intro kF (nget_tail kN) ⟨_, _, p + 1, [], [], 0, [(_, _)], _, rfl, .head _, .nil, fun p hp => Nat.ne_of_lt (lkd p hp), ap_cons (fun q hq => Ne.symm (Nat.ne_of_lt (lnb q hq))) Apart.nil, ⟨rfl, rfl, rfl, rfl, trivial⟩, ?_, by k_extra "ar9", by k_extra "ar9"⟩
        rw [if_pos (take1_iff.mp (Decidable.not_not.mp hc2))]
    · intro m₃ nx₃ h₃ tk₃ F₃ N₃ hJ9
      (try k_fold)
      rcases hJ9 with ⟨nb, kd, q, ns, vs, e, tl, tq, rfl, hnb, hvs, hoff, hap, hpin, hpre, hq, hpq⟩
      have F₄ := Fr.pin F₃ hpin
      clear F₃ kF
      have sl : StopLine 179 := ⟨⟩
      k_steps
      refine Halt.mk ?_
      rename Fr _ _ _ _ => kF
      rename News _ _ _ _ => kN
      refine my_while (fun n m nx => Ex6 fun q' g ys e' tl2 tq => Al11 (nx = (kd, W.listOf ys.toArray e') :: (tl2 ++ news)) ((nb, W.listOf vs.toArray e) ∈ tl2) ((∀ p ∈ tl2 ++ news, p.1 ≠ kd)) (Apart tl2 news) (DatAll tl2 ys (dats g)) (Pin m [("text", .str (S t) t1), ("at", .int (q' : Nat) tq), ("numbers", .ref nb), ("kids", .ref kd)]) (forestL (t.drop q) = (forestL (t.drop q')).map (fun z => (g.app z.1, z.2))) (q' ≤ t.length) (q ≤ q') (n = t.length - q') (ys.length ≤ q'))
        (fun m nx => Ex6 fun q' g ys e' tl2 tq => Al10 (nx = (kd, W.listOf ys.toArray e') :: (tl2 ++ news)) ((nb, W.listOf vs.toArray e) ∈ tl2) ((∀ p ∈ tl2 ++ news, p.1 ≠ kd)) (Apart tl2 news) (DatAll tl2 ys (dats g)) (Pin m [("text", .str (S t) t1), ("at", .int (q' : Nat) tq), ("numbers", .ref nb), ("kids", .ref kd)]) (forestL (t.drop q) = some (g, t.drop q')) (q' ≤ t.length) (q ≤ q') (ys.length ≤ q')) kF kN ⟨q, .nil, [], 0, tl, tq, rfl, hnb, hoff, hap, .nil, ⟨rfl, rfl, rfl, rfl, trivial⟩, by cases forestL (t.drop q) <;> simp [F.app], hq, by k_extra "ar9", rfl, by simp⟩ ?_ ?_
      · intro n m₅ nx₅ h₅ tk₅ F₅ N₅ hJ9
        (try k_fold)
        rcases hJ9 with ⟨q', g, ys, e', tl2, tq2, rfl, hnb', hoff', hap2, hys, hpin5, hfor, hq', hqq, rfl, hyl⟩
        have F₆ := Fr.pin F₅ hpin5
        clear F₅
        k_steps
        · refine Halt.mk ?_
          rename _ = [40] => hc5
          rename Fr _ _ _ _ => kF
          rename News _ _ _ _ => kN
          refine Fun.use (ih q' hq' (by k_extra "ar9")) (by k_asm) kF (by k_asm) kN (by k_asm) (Around.frames_deeper hA) rfl rfl hh ?_ ?_ ⟨_, _, rfl⟩ ?_
          · simp only [depth_deeper]; k_extra "ar9"
          · simp only [units_deeper]; k_extra "ar9"
          intro r tl' h' tk' F₇ N₇ hap' hJ9
          (try k_fold)
          rcases hJ9 with (⟨hno, rfl⟩ | ⟨f, q2, a, x, e2, t', hyes, hq2, rfl, ha, hx⟩)
          · k_steps
            dsimp only at *
            rename Fr h₀ L _ _ => kF
            rename News h₀ L _ _ => kN
            refine hret _ [] _ _ kF (nget kN fun p hp => List.mem_append_right _ (.tail _ (List.mem_append_right _ hp))) Apart.nil (.inl ⟨?_, rfl⟩)
            rw [hd.1, oneL_go, hpre, Option.bind_some, hfor, forestL_eq, if_pos (take1_iff.mp hc5), hno]; rfl
          · have hlen := oneL_len hyes
            rw [List.length_drop, List.length_drop] at hlen
            have hl1 := mm_lt2 hlen
            have hl2 : t.length - q2 < t.length - q' := Nat.lt_of_succ_lt hlen
            have hl3 : q ≤ q2 := Nat.le_trans hqq (Nat.le_of_lt (Nat.lt_of_succ_lt hl1))
            have hl4 : ys.length + 1 ≤ q2 := Nat.le_trans (Nat.succ_le_succ hyl) (Nat.le_of_lt hl1)
            clear hlen
            have N₈ : News _ _ _ ((kd, W.listOf ys.toArray e') :: ((tl' ++ tl2) ++ news)) := nget N₇ (by
              k_extra "sub9")
            have off8 : ∀ p ∈ (tl' ++ tl2) ++ news, p.1 ≠ kd := by
              rw [List.append_assoc]
              exact off_app (off_ap hap' (.head _)) hoff'
            clear N₇
            k_steps
            rename Fr _ _ _ (fun _ => _) => kF
            rename News _ _ _ (_ :: _) => kN
            refine WTurn.go kF kN (n' := t.length - q2) (by k_extra "ar9") ⟨q2, g.app f, ys ++ [x], e' + 1, tl' ++ tl2, _, rfl, List.mem_append_right _ hnb', off8, ?_, ?_, ⟨rfl, rfl, rfl, rfl, trivial⟩, ?_, hq2, by k_extra "ar9", rfl, by rw [List.length_append, List.length_singleton]; k_extra "ar9"⟩
            · exact (hap'.sub (fun _ h => h) fun _ h => .tail _ h).app' hap2
            · rw [dats_app]
              exact (hys.mono fun _ h => List.mem_append_right _ h).append (hx.mono fun _ h => List.mem_append_left _ h)
            · rw [hfor, forestL_eq (t.drop q'), if_pos (take1_iff.mp hc5), hyes, Option.bind_some, Option.map_map]
              congr 1
              funext z
              simp [F.app_assoc]
        · rename Fr _ _ _ _ => kF
          rename News _ _ _ _ => kN
          rename ¬ (_ = [40]) => hc5
          refine WDone.intro kF kN ⟨q', g, ys, e', tl2, tq2, rfl, hnb', hoff', hap2, hys, hpin5.eq ▸ hpin5, ?_, hq', hqq, hyl⟩
          rw [hfor, forestL_eq (t.drop q'), if_neg (fun h => hc5 (take1_iff.mpr h))]
          simp [F.app_nil]
      intro m₅ nx₅ h₅ tk₅ F₅ N₅ hJ9
      (try k_fold)
      rcases hJ9 with ⟨q', g, ys, e', tl2, tq2, rfl, hnb', hoff', hap2, hys, hpin5, hfor, hq', hqq, hyl⟩
      have F₆ := Fr.pin F₅ hpin5
      clear F₅
      k_steps
      clear kF kN
      rename StopLine _ => sl
      clear sl
      refine Halt.mk ?_
      have hone : oneL (t.drop p) = match t.drop q' with
        | 41 :: t4 => if g.len = 1 ∨ (ns = [] ∧ g.len = 0) then none else some (chainF ns g .nil, t4)
        | _ => none := by rw [hd.1, oneL_go, hpre, Option.bind_some, hfor]; rfl
      have hone2 : ∀ r, t.drop q' = 41 :: r → oneL (t.drop p) = if g.len = 1 ∨ (ns = [] ∧ g.len = 0) then none else some (chainF ns g .nil, r) := fun r hr => by rw [hone, hr]; rfl
      have hyl2 := DatAll_len hys
      rw [dats_len] at hyl2
      have hvl := hvs.length
      have hnl : ns.length ≤ 400 := by
        by_cases h : (t.drop (p + 1)).head? = some 40
        · rw [if_pos h] at hpre
          simp only [Option.some.injEq, Prod.mk.injEq] at hpre
          rw [← hpre.1]; simp
        · rw [if_neg h] at hpre
          have := nums_count _ hpre
          simp only [List.length_drop] at this
          exact Nat.le_trans (Nat.le_trans (Nat.le_add_right _ _) this) (Nat.le_trans (Nat.sub_le _ _) ht)
      rename Fr _ _ _ _ => kF
      refine my_join_at kF (fun m nx => nx = (kd, W.listOf ys.toArray e') :: (tl2 ++ news) ∧ Pin m [("text", .str (S t) t1), ("at", .int (q' : Nat) tq2), ("numbers", .ref nb), ("kids", .ref kd)] ∧ oneL (t.drop p) = some (chainF ns g .nil, t.drop (q' + 1)) ∧ q' < t.length) ?_ ?_
      · k_steps
        · dsimp only at *
          rename Fr h₀ L _ _ => kF
          rename News h₀ L _ _ => kN
          rename _ ≠ [41] => hc7
          refine hret _ [] _ _ kF (nget kN fun p hp => .tail _ (List.mem_append_right _ hp)) Apart.nil (.inl ⟨?_, rfl⟩)
          rw [hone]
          rw [ne_eq, take1_iff] at hc7
          generalize List.drop q' t = u at hc7
          split
          · exact absurd rfl hc7
          · rfl
        · dsimp only at *
          rename Fr h₀ L _ _ => kF
          rename News h₀ L _ _ => kN
          rename ¬ (_ ≠ [41]) => hc7
          rename _ = 1 => hc8
          refine hret _ [] _ _ kF (nget kN fun p hp => .tail _ (List.mem_append_right _ hp)) Apart.nil (.inl ⟨?_, rfl⟩)
          rw [hone2 _ (drop_cons (Decidable.not_not.mp hc7)).1, if_pos (.inl (by k_extra "ar9"))]
        · rename ¬ (_ ≠ [41]) => hc7
          rename ¬ (_ = 1) => hc8
          have hd7 := drop_cons (Decidable.not_not.mp hc7)
          have hone3 := hone2 _ hd7.1
          refine Halt.mk ?_
          rename News _ _ _ _ => kN
          refine my_ints_nil kN (by k_mem) (.head _) hvs (by simp only [units_deeper]; k_extra "ar9") ?_
          intro r hr
          k_steps
          · refine Halt.mk ?_
            rename _ = true => hns
            have hns := hr.mp hns
            rename News _ _ _ _ => kN
            rename Fr _ _ _ _ => kF
            refine my_eq (d := .list (dats g)) (e := .list []) (n := 2 * g.size + 1) (k := 1) kN (DatIn.list (.tail _ (.tail _ (.head _))) (hys.mono fun _ h => .tail _ (.tail _ (.tail _ (List.mem_append_left _ h))))) (DatIn.list (.head _) .nil) ?_ rfl (by simp only [units_deeper]; exact units_min hu) ?_
            · simp only [kqdOk, List.all_eq_true]; exact dats_ok g
            intro b hb
            rw [Dat.list.injEq] at hb
            k_steps
            · dsimp only at *
              rename Fr h₀ L _ _ => kF
              rename News h₀ L _ _ => kN
              rename b = true => hb2
              have hg := hb.mp hb2
              refine hret _ [] _ _ kF (nget kN fun p hp => .tail _ (.tail _ (.tail _ (List.mem_append_right _ hp)))) Apart.nil (.inl ⟨?_, rfl⟩)
              rw [hone3, if_pos (.inr ⟨hns, by rw [← dats_len, hg]; rfl⟩)]
            · rename b = false => hb2
              rename News _ _ _ _ => kN
              refine WDone.intro kF (nget_tail (nget_tail kN)) ⟨rfl, hpin5.eq ▸ hpin5, ?_, hd7.2⟩
              rw [hone3, if_neg]
              rintro (h | ⟨_, h⟩)
              · k_extra "ar9"
              · rw [hb.mpr (by rw [F.len_zero h]; rfl)] at hb2; cases hb2
          · rename r = false => hr2
            refine WDone.intro (by k_asm) (nget_tail kN) ⟨rfl, hpin5.eq ▸ hpin5, ?_, hd7.2⟩
            rw [hone3, if_neg]
            rintro (h | ⟨h, _⟩)
            · k_extra "ar9"
            · rw [hr.mpr h] at hr2; cases hr2
      intro m₅ nx₅ h₅ tk₅ F₅ N₅ hJ9
      (try k_fold)
      rcases hJ9 with ⟨rfl, hpin6, hone6, hq6⟩
      have F₆ := Fr.pin F₅ hpin6
      clear F₅ kF
      k_steps
      refine Halt.mk ?_
      rename Fr _ _ _ _ => kF
      rename News _ _ _ _ => kN
      refine cutF kF kN (fun v => ∃ tk, v = .int (ns.getLastD 0) tk) ?_ ?_
      · refine IfExp_ ?_
        k_steps
        refine Halt.mk ?_
        rename News _ _ _ _ => kN
        refine my_ints_notnil kN (by k_mem) (.head _) hvs (by simp only [units_deeper]; k_extra "ar9") ?_
        intro r hr
        k_steps
        · refine Halt.mk ?_
          refine my_last kN (by k_mem) hvs (hr.mp (by assumption)) fun t9 => ?_
          exact EDone.intro (by k_asm) (nget_tail kN) ⟨_, rfl⟩
        · rename r = false => hr2
          have : ns = [] := by
            apply Decidable.byContradiction
            intro h
            rw [hr.mpr h] at hr2; cases hr2
          subst this
          exact EDone.intro (by k_asm) (nget_tail kN) ⟨_, rfl⟩
      intro _ h₇ tk₇ F₇ N₇ hJ9
      (try k_fold)
      rcases hJ9 with ⟨tk8, rfl⟩
      clear kF kN
      dsimp only
      k_steps
      refine Halt.mk ?_
      rename Fr _ _ _ _ => kF
      refine For_invVF kF rfl rfl ?_
      k_steps
      rename Fr _ _ _ (fun _ => _) => kF
      rename News _ _ _ (_ :: _) => kN
      refine Halt.mk ?_
      rename IntsAre _ (List.reverse _) => hrv
      refine kdl_iter (fun i m nx => Ex3 fun v tl3 tk => Al4 (nx = tl3 ++ news) (Apart tl3 news) (DatAll tl3 [v] (dats (chainF (ns.drop (ns.length - 1 - i)) g .nil))) (Pin m [("tree", v), ("at", .int (q' : Nat) tk)])) hh (by exact List.Mem.head _) kF kN ⟨_, (_, _) :: (_, _) :: (_, _) :: (_, _) :: (_, _) :: tl2, _, rfl, ?_, ?_, ⟨rfl, rfl, trivial⟩⟩ ?_ ?_
      · have apk : Apart ((kd, W.listOf ys.toArray e') :: tl2) news := ap_cons (fun q hq => Ne.symm (hoff' q (List.mem_append_right _ hq))) hap2
        tb_rel
      · rw [Nat.sub_zero, chain_start, dats, dats]
        exact .cons (DatIn.tuple (.tail _ (.tail _ (.head _))) (.cons (.int _ _) (.cons (DatIn.tuple (.tail _ (.tail _ (.tail _ (.head _)))) (hys.mono fun _ h => .tail _ (.tail _ (.tail _ (.tail _ (.tail _ h)))))) .nil))) .nil
      · intro i v m₇ nx₇ h₇ tk₇ own hv hown hl7 hJ9 F₈ N₈
        (try k_fold)
        rcases hJ9 with ⟨v', tl3, tk, rfl, hap3, hd3, hpin7⟩
        have F₉ := Fr.pin1 F₈ hpin7
        clear F₈
        have hi : i < ns.length - 1 := by
          have := (List.getElem?_eq_some_iff.mp hv).1
          rw [hrv.length, List.length_reverse, List.length_take] at this
          exact Nat.lt_of_lt_of_le this (Nat.min_le_left _ _)
        have hnx := rest_at ns hi
        obtain ⟨tv, hv2⟩ := hrv.get i _ hnx
        rw [hv2] at hv
        obtain rfl := Option.some.inj hv
        k_steps
        rename Fr _ _ _ (fun _ => _) => kF
        rename News _ _ _ (_ :: _ :: _) => kN
        refine led_end (new := [_, _]) kF kN ?_ hown ⟨List.mem_append_right _ hl7, _, _ ++ tl3, _, (List.append_assoc _ _ _).symm, ?_, ?_, ⟨rfl, rfl, trivial⟩⟩
        · tb_rel
        · tb_rel
        · rw [pred2_comm, chain_step ns g (by rw [pred2_succ hi]; exact Nat.lt_of_le_of_lt (Nat.sub_le _ i) (Nat.sub_lt (Nat.lt_of_lt_of_le (Nat.lt_of_le_of_lt (Nat.zero_le i) hi) (Nat.sub_le _ 1)) Nat.one_pos)), pred2_succ hi, dats, dats]
          exact .cons (DatIn.tuple (.head _) (.cons (.int _ _) (.cons (DatIn.tuple (.tail _ (.head _)) (hd3.mono fun _ h => .tail _ (.tail _ h))) .nil))) .nil
      · intro m₇ nx₇ h₇ tk₇ hJ9 F₈ N₈
        (try k_fold)
        rcases hJ9 with ⟨v', tl3, tk, rfl, hap3, hd3, hpin7⟩
        have F₉ := Fr.pin F₈ hpin7
        clear F₈
        k_steps
        dsimp only at *
        rename Fr h₀ L _ _ => kF
        rename News h₀ L _ _ => kN
        refine hret _ ((_, _) :: tl3) _ _ kF kN (by tb_rel) (.inr ⟨_, q' + 1, _, _, _, _, hone6, hq6, rfl, .head _, ?_⟩)
        rw [hrv.length, rest_zero, List.drop_zero] at hd3
        exact hd3.mono fun _ h => .tail _ h
noncomputable def ReadPost (t : List Nat) (tl : List (Addr × Obj)) (v : Value) : Prop :=
  (readL t = none ∧ v = .none) ∨ ∃ f, readL t = some f ∧ DatIn tl v (.list (dats f))
theorem read_ct (w : World) (mean : ExcName → Option Value) (mg mb : Str → Option Value) (t : List Nat) (ht : t.length ≤ 400) :
    Fun w mean mg mb 208 (t.length + 8) (fun _ vs => ∃ t1, vs = [.str (S t) t1]) (ReadPost t) := by
  unfold Fun
  k_fill
  intro A A₀ base h₀ outer L m news s env Q E vs B hF X N T hA hf hke hh hdp hu hp hret
  obtain ⟨t1, rfl⟩ := hp
  have hrl : recursionLimit = 1000 := rfl
  refine wpAny_call ?_
  k_enter
  k_steps
  refine Halt.mk ?_
  rename Fr _ _ _ (fun _ => _) => kF
  rename News _ _ _ (_ :: _ :: _) => kN
  rename (∀ p ∈ news, p.1 < _) => lfd
  refine my_while (fun n m nx => Ex7 fun fd q f ys e' tl tq => Al9 (nx = (fd, W.listOf ys.toArray e') :: (tl ++ news)) ((∀ p ∈ tl ++ news, p.1 ≠ fd)) (Apart tl news) (DatAll tl ys (dats f)) (Pin m [("text", .str (S t) t1), ("at", .int (q : Nat) tq), ("found", .ref fd)]) (forestL t = (forestL (t.drop q)).map (fun z => (f.app z.1, z.2))) (q ≤ t.length) (n = t.length - q) (ys.length ≤ q))
    (fun m nx => Ex5 fun fd f ys e' tl => Al6 (nx = (fd, W.listOf ys.toArray e') :: (tl ++ news)) ((∀ p ∈ tl ++ news, p.1 ≠ fd)) (Apart tl news) (DatAll tl ys (dats f)) (Pin m [("found", .ref fd)]) (readL t = some f)) kF (nget_tail kN) ⟨_, 0, .nil, [], _, [], _, rfl, off_lt lfd, Apart.nil, .nil, ⟨rfl, rfl, rfl, trivial⟩, ?_, by k_extra "ar9", rfl, by simp⟩ ?_ ?_
  · rw [List.drop_zero]
    cases forestL t <;> simp [F.app]
  · intro n m₅ nx₅ h₅ tk₅ F₅ N₅ hJ9
    (try k_fold)
    rcases hJ9 with ⟨fd, q, f, ys, e', tl, tq, rfl, hoff, hap, hys, hpin, hfor, hq, rfl, hyl⟩
    have F₆ := Fr.pin F₅ hpin
    clear F₅ kF kN
    k_steps
    · refine Halt.mk ?_
      rename Fr _ _ _ _ => kF
      rename News _ _ _ _ => kN
      refine Fun.use (list_ct w mean mg mb t ht (t.length - q + 1) q hq (by k_extra "ar9")) (by k_asm) kF (by k_asm) kN (by k_asm) (Around.frames_deeper hA) rfl rfl hh ?_ ?_ ⟨_, _, rfl⟩ ?_
      · simp only [depth_deeper]; exact sub_depth hdp
      · simp only [units_deeper]; exact sub_units hu
      intro r tl' h' tk' F₇ N₇ hap' hJ9
      (try k_fold)
      rcases hJ9 with (⟨hno, rfl⟩ | ⟨g, q2, a, x, e2, t', hyes, hq2, rfl, ha, hx⟩)
      · k_steps
        dsimp only at *
        rename Fr h₀ L _ _ => kF
        rename News h₀ L _ _ => kN
        refine hret _ [] _ _ kF (nget kN fun p hp => List.mem_append_right _ (.tail _ (List.mem_append_right _ hp))) Apart.nil (.inl ⟨?_, rfl⟩)
        unfold readL
        rw [hfor, forestL_eq]
        by_cases h40 : (t.drop q).head? = some 40
        · rw [if_pos h40, hno]; rfl
        · rw [if_neg h40]
          cases h : t.drop q with
          | nil =>
            have := congrArg List.length h
            rw [List.length_drop] at this
            simp at this; k_extra "ar9"
          | cons c r => rfl
      · have hlen := oneL_len hyes
        rw [List.length_drop, List.length_drop] at hlen
        have hl1 := mm_lt2 hlen
        have hl2 : t.length - q2 < t.length - q := Nat.lt_of_succ_lt hlen
        have hl4 : ys.length + 1 ≤ q2 := Nat.le_trans (Nat.succ_le_succ hyl) (Nat.le_of_lt hl1)
        clear hlen
        have N₈ : News _ _ _ ((fd, W.listOf ys.toArray e') :: ((tl' ++ tl) ++ news)) := nget N₇ (by
          k_extra "sub9")
        have off8 : ∀ p ∈ (tl' ++ tl) ++ news, p.1 ≠ fd := by
          rw [List.append_assoc]
          exact off_app (off_ap hap' (.head _)) hoff
        clear N₇
        k_steps
        rename Fr _ _ _ (fun _ => _) => kF
        rename News _ _ _ (_ :: _) => kN
        refine WTurn.go kF kN (n' := t.length - q2) (by k_extra "ar9") ⟨fd, q2, f.app g, ys ++ [x], e' + 1, tl' ++ tl, _, rfl, off8, ?_, ?_, ⟨rfl, rfl, rfl, trivial⟩, ?_, hq2, rfl, by rw [List.length_append, List.length_singleton]; k_extra "ar9"⟩
        · exact (hap'.sub (fun _ h => h) fun _ h => .tail _ h).app' hap
        · rw [dats_app]
          exact (hys.mono fun _ h => List.mem_append_right _ h).append (hx.mono fun _ h => List.mem_append_left _ h)
        · have h40 : (t.drop q).head? = some 40 := by
            apply Decidable.byContradiction
            intro h
            rw [oneL_no h] at hyes; cases hyes
          rw [hfor, forestL_eq (t.drop q), if_pos h40, hyes, Option.bind_some, Option.map_map]
          congr 1
          funext z
          simp [F.app_assoc]
    · rename Fr _ _ _ _ => kF
      rename News _ _ _ _ => kN
      refine WDone.intro kF kN ⟨fd, f, ys, e', tl, rfl, hoff, hap, hys, ⟨hpin.eq ▸ hpin.2.2.1, trivial⟩, ?_⟩
      unfold readL
      rw [hfor, List.drop_of_length_le (by k_extra "ar9"), forestL_eq]
      simp [F.app_nil]
  intro m₅ nx₅ h₅ tk₅ F₅ N₅ hJ9
  (try k_fold)
  rcases hJ9 with ⟨fd, f, ys, e', tl, rfl, hoff, hap, hys, hpin, hre⟩
  have F₆ := Fr.pin F₅ hpin
  clear F₅ kF kN
  k_steps
  dsimp only at *
  rename Fr h₀ L _ _ => kF
  rename News h₀ L _ _ => kN
  refine hret _ ((_, _) :: tl) _ _ kF kN (ap_cons (fun q hq => Ne.symm (hoff q (List.mem_append_right _ hq))) hap) (.inr ⟨f, hre, DatIn.list (.head _) (hys.mono fun _ h => .tail _ h)⟩)
end
theorem rows21 : True := by
  k_with_none
  (k_with "conj9" => first | with_reducible assumption | exact And.left (by with_reducible assumption) | exact And.left (And.right (by with_reducible assumption)) | exact And.left (And.right (And.right (by with_reducible assumption))) | exact And.left (And.right (And.right (And.right (by with_reducible assumption)))) | exact And.left (And.right (And.right (And.right (And.right (by with_reducible assumption))))) | exact And.left (And.right (And.right (And.right (And.right (And.right (by with_reducible assumption)))))) | exact And.left (And.right (And.right (And.right (And.right (And.right (And.right (by with_reducible assumption))))))) | exact And.left (And.right (And.right (And.right (And.right (And.right (And.right (And.right (by with_reducible assumption)))))))) | exact And.left (And.right (And.right (And.right (And.right (And.right (And.right (And.right (And.right (by with_reducible assumption))))))))) | exact And.left (And.right (And.right (And.right (And.right (And.right (And.right (And.right (And.right (And.right (by with_reducible assumption)))))))))))
  (k_with "lt9" => first | k_extra "conj9" | exact Nat.lt_succ_self _ | (refine Nat.lt_trans ?_ (by with_reducible assumption); k_extra "conj9"))
  (k_with "k_ne" => (refine neN ?_; (try dsimp only); (fail_if_success refine ne_twice (by with_reducible rfl) ?_); first | k_extra "conj9" | exact Ne.symm (by k_extra "conj9") | exact Nat.ne_of_lt (by k_extra "lt9") | exact Nat.ne_of_gt (by k_extra "lt9") | omega))
  (k_with "ar9" => first | with_reducible assumption | ((with_reducible show @LT.lt Nat _ _ _); first | exact Nat.lt_of_lt_of_le (by with_reducible assumption) (by decide) | exact Nat.lt_of_le_of_lt (by with_reducible assumption) (by decide) | exact ar_lt1 (by with_reducible assumption) (by decide) | exact ar_lt2 (by with_reducible assumption) (by decide) | exact ar_lt3 (by with_reducible assumption) (by decide) | exact ar_lt0 (by with_reducible assumption) | exact Nat.lt_of_succ_lt (by with_reducible assumption) | exact Nat.sub_lt_sub_left (by with_reducible assumption) (Nat.lt_succ_self _) | exact Nat.sub_lt_sub_left (by with_reducible assumption) (by with_reducible assumption) | exact mm_ne (by with_reducible assumption) (by with_reducible assumption) | exact mm_s (by with_reducible assumption) (by with_reducible assumption) (by with_reducible assumption) | k_extra "conj9") | ((with_reducible show @LE.le Nat _ _ _); first | exact Nat.le_trans (by with_reducible assumption) (by decide) | exact Nat.le_of_lt (by with_reducible assumption) | exact And.left (by with_reducible assumption) | exact And.left (And.right (by with_reducible assumption)) | exact Nat.le_of_lt (by k_extra "conj9")) | ((with_reducible show @Ne _ _ _); first | k_extra "conj9" | exact Ne.symm (by k_extra "conj9") | exact Nat.ne_of_lt (by k_extra "lt9") | exact Nat.ne_of_gt (by k_extra "lt9")) | ((with_reducible show @LT.lt Int _ _ _); first | with_reducible exact Int.ofNat_lt.mpr (by assumption)) | lia | omega)
  (k_with "k_mem" => first | with_reducible assumption | assumption | (refine' List.mem_append_left _ ?_; k_mem) | (refine' List.mem_append_right _ ?_; k_mem))
  (k_with "sub9" => first | exact fun _ h => h | exact sub_nil | (refine sub_cons ?_ ?_; (focus k_mem); k_extra "sub9") | (refine sub_app ?_ ?_; (focus k_extra "sub9"); k_extra "sub9") | (intro zp9 zhp9; k_mem))
  (k_with "subscriptTail" => (k_here; (with_reducible show wpAny _ _ (subscriptTail _ _ (Value.ref _) (Value.int _ _)) _ _ _); k_dflt (refine' my_item ?zqN ?zqm ?zqa ?zqb ?zqd ?_; (case zqN => k_asm); (case zqm => k_mem); (case zqa => decide); (case zqb => decide); (case zqd => rfl))))
  (k_with "eval ListComp" => (k_here; lcg_look; k_dflt (refine LCg.ListComp_U (F₀ := by k_asm) (by rfl) (by decide) (by rfl) (by decide) (by rfl) ?_)))
  (k_with "k_room" => first | ((try simp only [depth_under_make, depth_under_kw, depth_in1, depth_deeper]); k_extra "ar9") | ((try simp only [depth_under_make, depth_under_kw, depth_in1, depth_deeper] at *); k_extra "ar9"))
  (k_with "k_enter" => first | (k_dflt (refine' enter_pos ?zqk1 ?zqk2 ?zqk3 ?zqk4 ?zqk5 ?zqkA ?zqkF ?zqkK ?zqk6 ?zqk7 ?zqk8 ?zqkX ?zqk9 ?zqkN ?zqkB ?_ ?zqc2 ?zqc3 ?zqc4 ?zqc5; (case zqkA => first | assumption | exact rfl | exact Around.frames_deeper (by assumption) | exact Around.frames_deeper (Around.frames_deeper (by assumption)) | exact Around.frames_deeper (Around.frames_deeper (Around.frames_deeper (by assumption)))); (case zqkF => first | assumption | exact rfl); (case zqkK => first | assumption | exact rfl); (case zqk1 => k_asm); (case zqk2 => k_asm); (case zqk3 => k_asm); (case zqk4 => k_asm); (case zqk5 => k_asm); (case zqk6 => k_is); (case zqk7 => k_is); (case zqk8 => k_room); (case zqkX => exact rfl); (case zqk9 => exact rfl); (case zqkN => decide); (case zqkB => decide); (case zqc5 => decide); (case zqc2 => exact rfl); (case zqc3 => exact rfl); (case zqc4 => exact rfl); k_whole; intro zg' zL' zh' ztk' zFG' zF' zN' zB' zX' zT'; (try k_fold))) | (k_dflt (refine' code_defC ?zqk1 ?zqk2 ?zqk3 ?zqk4 ?zqk5 ?zqkA ?zqkF ?zqkK ?zqk6 ?zqk7 ?zqk8 ?zqk9 ?zqkB ?zqkD ?_ ?zqc2 ?zqc3 ?zqc4; (case zqkA => first | assumption | exact rfl | exact Around.frames_deeper (by assumption) | exact Around.frames_deeper (Around.frames_deeper (by assumption)) | exact Around.frames_deeper (Around.frames_deeper (Around.frames_deeper (by assumption)))); (case zqkF => first | assumption | exact rfl); (case zqkK => first | assumption | exact rfl); (case zqk1 => k_asm); (case zqk2 => k_asm); (case zqk3 => k_asm); (case zqk4 => k_asm); (case zqk5 => k_asm); (case zqk6 => k_is); (case zqk7 => k_is); (case zqk8 => k_room); (case zqk9 => first | exact BindsTo.of_eq rfl | exact binds_K (by k_in) rfl (by k_is) rfl rfl rfl | fail "k_enter: no rule for these arguments"); (case zqkB => exact rfl); (case zqkD => decide +kernel); (case zqc2 => exact rfl); (case zqc3 => exact rfl); (case zqc4 => exact rfl); k_whole; intro zg' zL' zh' ztk' zcells' zFG' zF' zN' zY' zB' zX' zT' zl1; (try k_lt zl1); k_cells zY'; (try simp only [List.cons_append, List.nil_append] at zN'); (try dsimp only); (try k_fold))))
  (k_with "tb_start" => first | k_extra "ar9" | ((try simp only [List.size_toArray, Array.size_push, List.length_append, List.length_cons, List.length_nil, sizeLine_eq] at *); k_extra "ar9"))
  (k_with "tb_rel" => first | exact Apart.nil | with_reducible assumption | exact ap_get (by with_reducible assumption) (by k_extra "sub9") | (refine ap_cons (fun q9 hq9 => ?_) ?_; (first | exact ap_lt (by with_reducible assumption) (by k_mem) | exact ap_off (by with_reducible assumption) (by k_mem) | exact ap_lt2 (by assumption) (by with_reducible assumption) (by k_mem)); tb_rel) | (refine ap_app ?_ ?_ <;> tb_rel))
  (k_with "call type:tuple" => (k_here; (with_reducible show wpAny _ _ (call (Value.type _) [Value.ref _]) _ _ _); k_dflt (refine' kde_tupleOf ?zqk1 ?zqk2 ?zqk3 ?zqk4 ?zqk5 ?_; (case zqk1 => k_asm); (case zqk2 => k_asm); (case zqk3 => exact News.isList (by k_asm) (by k_mem)); (case zqk4 => tb_start); (case zqk5 => exact rfl); k_whole); intro zD' zh' zF' zN' zl1; (try k_lt zl1)))
  (k_with "exec While" => (k_here; refine Halt.out ?_))
  (k_with "exec For" => (k_here; refine Halt.out ?_))
  (k_with "exec Raise" => (k_here; refine Halt.out ?_))
  (k_with "call ref" => (k_here; (with_reducible show wpAny _ _ (call (Value.ref 177) _) _ _ _); refine Halt.out ?_))
  (k_with "call ref" => (k_here; (with_reducible show wpAny _ _ (call (Value.ref 187) _) _ _ _); refine Halt.out ?_))
  (k_with "call builtin:len" => (k_here; (with_reducible show wpAny _ _ (call (Value.builtin "len") [Value.ref _]) _ _ _); k_dflt (refine' my_len ?zqk1 ?zqk2 ?zqk3 ?_; (case zqk1 => k_asm); (case zqk2 => k_mem); (case zqk3 => tb_start); k_whole); intro zt' ztk'; (try dsimp only)))
  (k_with "size_fits" => ((try simp only [lit_0, lit_1, lit_2, lit_3, lit_4, lit_5, lit_6, lit_7, S_app, S_len, Str.length_append, List.length_append, List.length_cons, List.length_nil, PySem.sizeLine_eq, List.size_toArray]); k_extra "ar9"))
  (k_with "eval IfExp" => (k_here; refine Halt.out ?_))
  (k_with "nat_is" => first | exact cast_0 | exact cast_1 | with_reducible assumption | exact rfl | exact cast_add1 rfl | exact cast_add1 (cast_add1 rfl) | exact cast_0)
  (k_with "WTurn ret" => (k_here; refine WTurn.out ?_))
  (k_with "subscriptTail Subscript" => (k_here; (with_reducible show wpAny _ _ (subscriptTail _ (PySem.Expr.Slice none none (some _) _) (Value.ref _) (Value.ref _)) _ _ _); k_dflt (refine' krv_ints ?zqF ?zqN ?zql ?zqk ?zqi ?_ ?zqs ?zqt ?zqz; (case zqF => k_asm); (case zqN => k_asm); (case zql => exact News.isList (by k_asm) (by k_mem)); (case zqk => exact IsPart.int _ _); (case zqi => k_asm); (case zqs => with_unfolding_all rfl); (case zqt => kmk_pure); (case zqz => (rw [List.size_toArray, sizeLine_eq]; k_extra "ar9")); k_whole); intro zD' zws' zh' zF' zN' zl9 zhi' zhl'))
  (k_with "subscriptTail Name Slice ref ref" => (k_here; (with_reducible show wpAny _ _ (subscriptTail _ (PySem.Expr.Slice none (some (Expr.UnaryOp _ _ _)) none _) (Value.ref _) (Value.ref _)) _ _ _); k_dflt (refine' kmk_slice_ints ?zqF ?zqN ?zql ?zqp ?zqq ?zqi ?zqm ?zqc ?_ ?zqs ?zqt ?zqz; (case zqF => k_asm); (case zqN => k_asm); (case zql => exact News.isList (by k_asm) (by k_mem)); (case zqp => kmk_part); (case zqq => kmk_part); (case zqi => k_asm); (case zqm => exact kmk_upto_neg (by k_asm) (by decide)); (case zqc => exact rfl); (case zqs => with_unfolding_all rfl); (case zqt => kmk_pure); (case zqz => (rw [List.size_toArray, sizeLine_eq]; k_extra "ar9")); k_whole); intro zD' zws' zh' zF' zN' zl9 zhi' zhl' zhc'; (have zhw' := IntsAre.length zhi')))
  (k_with "setItem ref int" => (k_here; k_dflt (refine' my_setItem ?zqF ?zqN ?zqk ?zqn ?zqz ?zqU ?_; (case zqF => k_asm); (case zqN => k_asm); (case zqk => k_extra "nat_is"); (case zqU => k_upd); (case zqn => k_extra "ar9"); (case zqz => k_extra "ar9"); k_whole); intro zh' zF' zN'; (try dsimp only [List.nil_append, List.cons_append] at zN')))
  (k_with "unpackItems ref" => (k_here; k_dflt (refine' unpackItemsN_ ?zqk1 ?zqk2 ?zqk3 ?zqk4 ?zqk5 ?_; (case zqk1 => k_asm); (case zqk2 => k_asm); (case zqk3 => kun_tup); (case zqk4 => k_asm); (case zqk5 => exact rfl); k_whole); intro zh' zF' zN'; (try k_sweep)))
  (k_with "assign Tuple" => (k_here; (with_reducible show wpAny _ _ (assign (Expr.Tuple _ _ _) _ (Value.ref _)) _ _ _); k_dflt (refine' unpackN_ ?zqk1 ?zqk2 ?zqk3 ?zqk4 ?zqk5 ?zqk6 ?_; (case zqk1 => k_asm); (case zqk2 => k_asm); (case zqk3 => kun_tup); (case zqk4 => k_asm); (case zqk5 => exact rfl); (case zqk6 => exact rfl); k_whole); intro zh' zF' zN'; (try k_sweep)))
  (k_with "s_is" => first | exact rfl | exact lit_0 | exact lit_1 | exact lit_2 | exact lit_3 | exact lit_4 | exact lit_5 | exact lit_6 | exact lit_7)
  (k_with "k_all" => first | with_reducible assumption | exact off_le (by with_reducible assumption) (by k_extra "ar9") | (refine off_app ?_ ?_ <;> k_all))
  (k_with "my_upd" => first | exact Upd.head (by with_reducible assumption) | exact Upd.tail (by with_reducible assumption) (Upd.head (by with_reducible assumption)))
  (k_with "call builtin:list.append" => (k_here; (with_reducible show wpAny _ _ (call (Value.builtin _) [Value.ref _, _]) _ _ _); k_dflt (refine' my_append ?zqk1 ?zqk2 ?zqk3 ?zqz ?_; (case zqk1 => k_asm); (case zqk2 => k_asm); (case zqk3 => first | k_extra "my_upd" | k_upd); (case zqz => k_extra "ar9"); k_whole); intro zh' zF' zN'))
  (k_with "call builtin:len" => (k_here; (with_reducible show wpAny _ _ (call (Value.builtin "len") [Value.str (S _) _]) _ _ _); k_dflt (refine' my_str_len ?zqk3 ?_; (case zqk3 => k_extra "ar9"); k_whole); intro zt' ztk'; (try dsimp only)))
  (k_with "subscriptTail Name Slice str ref" => (k_here; (with_reducible show wpAny _ _ (subscriptTail _ (Expr.Slice (some _) (some _) none _) (Value.str (S _) _) (Value.ref _)) _ _ _); (with_reducible rename Fr _ _ _ _ => zF'); (with_reducible rename News _ _ _ _ => zN'); (first | refine my_str_sign (s := ⟨_, _, _, _, _⟩) zF' zN' (by k_extra "nat_is") (by first | exact rfl | exact cast_add' rfl) (by k_extra "ar9") ?_ | refine my_str_cut (s := ⟨_, _, _, _, _⟩) zF' zN' (by k_extra "nat_is") (by k_extra "nat_is") (by k_extra "ar9") ?_); intro zh' zt' zk' zF' zN'))
  (k_with "subscriptTail" => (k_here; (with_reducible show wpAny _ _ (subscriptTail _ _ (Value.str (S _) _) (Value.int _ _)) _ _ _); (refine my_str_item (by k_extra "nat_is") (by k_extra "ar9") (by k_extra "ar9") ?_); intro zt' ztk'; (try dsimp only)))
  (k_with "subscriptTail Name Name str int" => (k_here; (with_reducible show wpAny _ _ (subscriptTail _ _ (Value.str (S _) _) (Value.int _ _)) _ _ _); (refine my_str_item (by k_extra "nat_is") (by k_extra "ar9") (by k_extra "ar9") ?_); intro zt' ztk'; (try dsimp only)))
  (k_with "compareOp In str str" => (k_here; (with_reducible show wpAny _ _ (compareOp CmpOp.In (Value.str (S [_]) _) (Value.str _ _)) _ _ _); refine my_in ?_))
  (k_with "compareOp Eq str str" => (k_here; (with_reducible show wpAny _ _ (compareOp CmpOp.Eq (Value.str _ _) (Value.str _ _)) _ _ _); refine my_seq (by k_extra "s_is") (by k_extra "s_is") ?_))
  (k_with "compareOp NotEq str str" => (k_here; (with_reducible show wpAny _ _ (compareOp CmpOp.NotEq (Value.str _ _) (Value.str _ _)) _ _ _); refine my_sne (by k_extra "s_is") (by k_extra "s_is") ?_))
  (k_with "call type:int" => (k_here; (with_reducible show wpAny _ _ (call (Value.type "int") [Value.str (S _) _]) _ _ _); refine Halt.out ?_))
  (k_with "exec If" => (k_here; (rename StopLine _ => zsl9); with_reducible refine stop_if zsl9 ?_))
  trivial
theorem rows22 : True := by
  (k_with "call ref" => (k_here; (with_reducible show wpAny _ _ (call (Value.ref 182) _) _ _ _); refine Halt.out ?_))
  trivial
/-- Node objects -/
inductive NIn (w : World) (news : List (Addr × Obj)) : List Value → F → Prop
  | nil : NIn w news [] .nil
  | cons {x dx b : Addr} {n : Int} {tk t1 t2 : Tok} {e : Nat} {kv vs : List Value} {k r : F} :
      (x, instObj 93 dx) ∈ news → (dx, dictOf [⟨PyData.keyHash w.params "number", .str "number" t1, .int n tk⟩, ⟨PyData.keyHash w.params "kids", .str "kids" t2, .ref b⟩] 2) ∈ news → (b, W.listOf kv.toArray e) ∈ news → NIn w news kv k → NIn w news vs r → NIn w news (.ref x :: vs) (.cons n k r)
theorem NIn.mono {w : World} {news news' : List (Addr × Obj)} (hs : ∀ p ∈ news, p ∈ news') {vs : List Value} {f : F} (h : NIn w news vs f) : NIn w news' vs f := by
  induction h with
  | nil => exact .nil
  | cons h1 h2 h3 _ _ i4 i5 => exact .cons (hs _ h1) (hs _ h2) (hs _ h3) i4 i5
theorem NIn.len {w : World} {news : List (Addr × Obj)} {vs : List Value} {f : F} (h : NIn w news vs f) : vs.length = f.len := by
  induction h with
  | nil => rfl
  | cons h1 h2 h3 _ _ i4 i5 => simp [F.len, i5]
theorem NIn.app {w : World} {news : List (Addr × Obj)} {vs us : List Value} {f g : F} (h : NIn w news vs f) (k : NIn w news us g) : NIn w news (vs ++ us) (f.app g) := by
  induction h with
  | nil => exact k
  | cons h1 h2 h3 h4 _ _ i5 => exact .cons h1 h2 h3 h4 i5
theorem NIn.at {w : World} {news : List (Addr × Obj)} {vs : List Value} {f : F} (h : NIn w news vs f) : ∀ {i : Nat} {v : Value}, vs[i]? = some v → ∃ n k, f.at i = some (n, k) ∧ NIn w news [v] (.cons n k .nil) := by
  induction h with
  | nil => intro i v hv; simp at hv
  | @cons x dx b n tk t1 t2 e kv vs k r h1 h2 h3 h4 h5 i4 i5 =>
    intro i v hv
    cases i with
    | zero =>
      simp only [List.getElem?_cons_zero, Option.some.injEq] at hv
      subst hv
      exact ⟨n, k, rfl, .cons h1 h2 h3 h4 .nil⟩
    | succ i =>
      simp only [List.getElem?_cons_succ] at hv
      obtain ⟨n', k', hs, hl⟩ := i5 hv
      exact ⟨n', k', hs, hl⟩
noncomputable def F.take : Nat → F → F
  | 0, _ => .nil
  | _ + 1, .nil => .nil
  | i + 1, .cons n k r => .cons n k (F.take i r)
theorem F.take_succ : ∀ {i : Nat} {f : F} {n : Int} {k : F}, f.at i = some (n, k) → f.take (i + 1) = (f.take i).app (.cons n k .nil)
  | 0, .cons n k r, _, _, h => by simp only [F.at, Option.some.injEq, Prod.mk.injEq] at h; obtain ⟨rfl, rfl⟩ := h; simp [F.take, F.app]
  | i + 1, .cons n k r, _, _, h => by simp only [F.at] at h; rw [show F.take (i + 1 + 1) (.cons n k r) = .cons n k (F.take (i + 1) r) from rfl, F.take_succ h]; rfl
  | _, .nil, _, _, h => by simp [F.at] at h
theorem F.take_all : ∀ (f : F) (i : Nat), f.len ≤ i → f.take i = f
  | .nil, 0, _ => rfl
  | .nil, _ + 1, _ => rfl
  | .cons n k r, 0, h => by simp [F.len] at h
  | .cons n k r, i + 1, h => by simp only [F.take]; rw [F.take_all r i (by simp only [F.len] at h; k_extra "ar9")]
theorem node_ct (w : World) (mean : ExcName → Option Value) (mg mb : Str → Option Value) (sz : Nat) :
    ∀ n k, F.size k < sz → Fun w mean mg mb 182 (sz + 2) (fun news vs => ∃ v, vs = [v] ∧ LIn news [v] (.cons n k .nil)) (fun tl v => NIn w tl [v] (.cons n k .nil)) := by
  induction sz with
  | zero => exact fun _ _ h => absurd h (Nat.not_lt_zero _)
  | succ sz ih =>
    intro n k hk
    unfold Fun
    k_fill
    intro A A₀ base h₀ outer L m news s env Q E vs B hF X N T hA hf hke hh hdp hu hp hret
    obtain ⟨v, rfl, hp⟩ := hp
    cases hp with
    | @cons a b n tk ea eb kv vs k r h1 h2 h3 h4 =>
    cases h4
    have hlen := h3.len
    have hle := F.len_le k
    have hrl : recursionLimit = 1000 := rfl
    refine wpAny_call ?_
    k_enter
    k_steps
    refine LCg.CompSrc.ledger hh (by k_asm) (by k_asm) h2 ?hsz ?_
    case hsz => rw [List.size_toArray, sizeLine_eq]; k_extra "ar9"
    intro g2
    dsimp only
    refine rest_inv (fun i ys news₁ => ∃ tl, Al3 (news₁ = tl ++ news) (Apart tl news) (NIn w tl ys (k.take i))) ⟨[], rfl, Apart.nil, .nil⟩ ?_ ?_
    · intro i v ys news₁ I oI oC C D m₂ h tk E' hi hv hJ9 hoC hm₂ F₂ N₂ hoff hne
      (try k_fold)
      rcases hJ9 with ⟨tl, rfl, hap, hd⟩
      obtain ⟨n', k', hat, hl'⟩ := h3.at (by simpa using hv)
      have hs' := F.at_size hat
      k_steps
      refine Halt.mk ?_
      refine Fun.use (ih n' k' (by k_extra "ar9")) (by k_asm) F₂ (by k_asm) N₂ (by k_asm) (Around.frames_deeper hA) rfl rfl hh ?_ ?_ ⟨v, rfl, hl'.mono ?_⟩ ?_
      · simp only [depth_deeper]; k_extra "ar9"
      · simp only [units_deeper]; k_extra "ar9"
      · exact fun p hp => .tail _ (.tail _ (.tail _ (List.mem_append_right _ hp)))
      intro r tl' h' tk' F₃ N₃ hap' hr
      refine LCg.CompEnd.intro F₃ N₃ (tl' ++ (tl ++ news)) perm3 (off3_of hap' hoff) ?_ ?_
      · exact Or.inr ⟨_, List.mem_append_right _ (List.mem_append_right _ h2), rfl, _, rfl⟩
      · refine ⟨tl' ++ tl, by rw [List.append_assoc], (hap'.sub (fun _ h => h) (fun _ h => .tail _ (.tail _ (.tail _ h)))).trans hap, ?_⟩
        rw [F.take_succ hat]
        exact (hd.mono fun _ h => List.mem_append_right _ h).app (hr.mono fun _ h => List.mem_append_left _ h)
    · intro ys news' hJ9
      (try k_fold)
      rcases hJ9 with ⟨tl, rfl, hap, hyl⟩
      rw [F.take_all k _ (by rw [List.size_toArray]; k_extra "ar9")] at hyl
      k_steps
      dsimp only at *
      rename News h₀ L _ _ => kN
      rename Fr h₀ L _ _ => kF
      refine hret _ ((_, _) :: (_, _) :: (_, _) :: tl) _ _ kF kN ?_ (.cons (.head _) (.tail _ (.head _)) (.tail _ (.tail _ (.head _))) (hyl.mono fun _ h => .tail _ (.tail _ (.tail _ h))) .nil)
      tb_rel
section
variable {prog : Program} {w : World} {A : Around} {E : Value → Shared → Prop} {s : Shared} {h₀ : Heap} {L : Addr} {m : Str → Option Value} {env : Env}
theorem strWalks (hh : A.handled = none) (I : Addr) (x : Str) (t : Tok) : Walks prog w A I [I] [I] x.cps.size (SignAt x) (fun i h => h.IsStrIter I (strIterType x) x t i) := by
  unfold strIterType
  split
  · exact Walks.strAscii hh I x t
  · exact Walks.strWide hh I x t
noncomputable def StrSrc (prog : Program) (w : World) (A : Around) (h₀ : Heap) (L : Addr) (m : Str → Option Value) (env : Env) (elt : PySem.Expr) (x : Str) (scope : Scope) (cl : List (Str × Addr)) (Q : Value → Shared → Prop) (xv : Value) (s₁ : Shared) : Prop := ∃ y t news, xv = .str y t ∧ A.handled = none ∧ Fr h₀ L s₁.heap m ∧ News h₀ L s₁.heap news ∧ y.cps.size ≤ sizeLine ∧
      ∀ s₂ : Shared, (∃ h, s₂ = { s₁ with heap := h }) → LCg.CompRest prog w A h₀ L m env elt x scope cl s₂ (fun _ => True) (SignAt y) (LCg.FinE h₀ L m s₂ Q) y.cps.size 0 [] news
theorem StrSrc.mk {elt : PySem.Expr} {x : Str} {scope : Scope} {cl : List (Str × Addr)} {Q : Value → Shared → Prop} {y : List Nat} {t : Tok} {news : List (Addr × Obj)} {s₁ : Shared} (hh : A.handled = none) (F : Fr h₀ L s₁.heap m) (N : News h₀ L s₁.heap news) (hz : y.length ≤ 4000000)
    (h : ∀ g, LCg.CompRest prog w A h₀ L m env elt x scope cl { s₁ with heap := g } (fun _ => True) (SignAt (S y)) (LCg.FinE h₀ L m { s₁ with heap := g } Q) y.length 0 [] news) : StrSrc prog w A h₀ L m env elt x scope cl Q (.str (S y) t) s₁ :=
  ⟨_, _, news, rfl, hh, F, N, by show y.length ≤ _; rw [sizeLine_eq]; omega, fun s₂ ⟨g, e⟩ => e ▸ h g⟩
theorem ListComp_S {elt iter : PySem.Expr} {x : Str} {px : Pos} {scope : Scope} {cl : List (Str × Addr)} {pos : Pos} {Q : Value → Shared → Prop} (_ : Fr h₀ L s.heap m)
    (hclos : closureFor scope env = pure cl) (hcell : ∀ y ∈ scope.names, y.2 ≠ .cell) (hkind : scope.kind = .function)
    (hnames : ∀ y ∈ scope.names, y.2 = .local → scope.names.lookup y.1 = some .local) (hx : scope.names.lookup x = some .local)
    (h : wpAny (model prog w) A (eval iter env) (StrSrc prog w A h₀ L m env elt x scope cl Q) E s)
    (hs : ∀ x, foldedSetIterable iter env x = pure x := by intro _; rfl) :
    wpAny (model prog w) A (eval (.ListComp elt [⟨.Name x px, iter, [], 0⟩] scope pos) env) Q E s := by
  rw [eval_ListComp]
  refine wpAny_comprehension_free (use := none) rfl hs hclos hkind hnames (wpAny_mono h (fun xv s₁ h₁ => ?_) fun _ _ e => e)
  rcases h₁ with ⟨y, t, news, rfl, hh, F, N, hsz, R⟩
  refine wpAny_pyIter_strU ?_
  refine LCg.block_U (strWalks hh s₁.heap.objs.size y t) hsz (fun i h st => by obtain ⟨o, e, _⟩ := st; exact ⟨o, e⟩) (fun i h h' o nw st e e' _ _ _ => by obtain ⟨o', q, r⟩ := st; rw [e] at q; cases q; exact ⟨o, e', r⟩) hcell hkind hx ⟨_, Heap.get?_push_size _ rfl, rfl, rfl⟩ (fun b hb => ?_)
    (F.keeps fun _ _ e => Heap.get?_push_of_some _ e) (N.grown fun _ _ e => Heap.get?_push_of_some _ e) (Nat.ne_of_lt F.ns.lt) (next_is_new F) (fun p hp => Nat.ne_of_lt (Heap.lt_size (N p hp).1)) trivial (R _ ⟨_, rfl⟩) ?_
  · rw [List.mem_singleton.mp hb]
    show s₁.heap.objs.size < (s₁.heap.push _).objs.size
    rw [Heap.size_push]; exact Nat.lt_succ_self _
  · intro D C h tk m' ys news' F' N' o1 hn hC₀ hD₀ hCL hDL hCD offC fin
    refine ⟨m', hn, fun h'' hs'' => fin D h'' tk (F'.change hs'' hCL hC₀) (fun p hp => ?_) o1⟩
    refine ⟨hs''.extBut _ _ ?_ (N' p hp).1, (N' p hp).2⟩
    rcases List.mem_cons.mp hp with rfl | hp
    · exact Ne.symm hCD
    · exact offC p hp
noncomputable def B8 (t : List Nat) : List UInt8 := t.map UInt8.ofNat
theorem byteArr_B8 (t : List Nat) : byteArr (t.map fun c : Nat => (c : Int)) = (B8 t).toArray := by
  unfold byteArr B8
  simp
theorem my_bytes {D : Addr} {ys : List Value} {e : Nat} {t : List Nat} {news : List (Addr × Obj)} {Q : Value → Shared → Prop} (hh : A.handled = none) (F : Fr h₀ L s.heap m) (N : News h₀ L s.heap news) (hm : (D, W.listOf ys.toArray e) ∈ news) (hi : IntsAre ys (t.map fun c : Nat => (c : Int))) (hr : ∀ c ∈ t, c ≤ 127) (hz : t.length ≤ 4000000)
    (h : ∀ h' t' k, Fr h₀ L h' m → News h₀ L h' news → Q (.bytes (B8 t).toArray t') { s with heap := h', toks := k }) : wpAny (model prog w) A (call (.type "bytes") [.ref D]) Q E s := by
  refine call_bytes_ints (News.isList N hm) hi ?_ (by rw [hi.length, List.length_map, sizeLine_eq]; omega) hh fun h' t' k hk => ?_
  · intro n hn
    obtain ⟨c, hc, rfl⟩ := List.mem_map.mp hn
    have := hr c hc
    omega
  · rw [byteArr_B8]
    exact h h' t' k (F.keeps hk) (N.grown hk)
end
theorem rows23 : True := by
  (k_with "call type:bytes" => (k_here; (with_reducible show wpAny _ _ (call (Value.type "bytes") [Value.ref _]) _ _ _); k_dflt (refine' my_bytes ?zqh ?zqF ?zqN ?zqm ?zqi ?zqr ?zqz ?_; (case zqh => k_asm); (case zqF => k_asm); (case zqN => k_asm); (case zqm => k_mem); (case zqi => k_asm); (case zqr => k_asm); (case zqz => omega); k_whole); intro zh' zt' zk' zF' zN'))
  trivial
section
variable {prog : Program} {w : World} {A : Around} {E : Value → Shared → Prop} {s : Shared} {h₀ : Heap} {L : Addr} {m : Str → Option Value} {news : List (Addr × Obj)}
theorem my_nil_eq {a b : Addr} {l : List Value} {e e2 : Nat} {Q : Value → Shared → Prop} (N : News h₀ L s.heap news) (ha : (a, W.listOf l.toArray e) ∈ news) (hb : (b, W.listOf (#[] : Array Value) e2) ∈ news) (hu : A.units < cLine)
    (h : ∀ r, (r = true ↔ l = []) → Q (.bool r) s) : wpAny (model prog w) A (compareOp .Eq (.ref a) (.ref b)) Q E s := by
  cases l with
  | nil => exact SeqAt.RcAt.lists (e := fun _ => true) (News.isList N ha) (News.isList N hb) rfl hu (fun j j1 => absurd j1 (Nat.not_lt_zero _)) prog w E Q (h _ (by simp))
  | cons x r => exact SeqAt.RcAt.lists_lengths (News.isList N ha) (News.isList N hb) (by simp) hu prog w E Q (h _ (by simp))
theorem my_nil_ne {a b : Addr} {l : List Value} {e e2 : Nat} {Q : Value → Shared → Prop} (N : News h₀ L s.heap news) (ha : (a, W.listOf l.toArray e) ∈ news) (hb : (b, W.listOf (#[] : Array Value) e2) ∈ news) (hu : A.units < cLine)
    (h : ∀ r, (r = true ↔ l ≠ []) → Q (.bool r) s) : wpAny (model prog w) A (compareOp .NotEq (.ref a) (.ref b)) Q E s := by
  cases l with
  | nil => exact SeqAt.RcNeAt.lists (e := fun _ => true) (News.isList N ha) (News.isList N hb) rfl hu (fun j j1 => absurd j1 (Nat.not_lt_zero _)) prog w E Q (h _ (by simp))
  | cons x r => exact SeqAt.RcNeAt.lists_lengths (News.isList N ha) (News.isList N hb) (by simp) hu prog w E Q (h _ (by simp))
theorem kl_last_app : ∀ (p : List Value) (y : Value), kl_last (p ++ [y]) = some (p, y)
  | [], y => rfl
  | x :: r, y => by
    show kl_last (x :: (r ++ [y])) = _
    unfold kl_last
    rw [kl_last_app r y]
theorem my_list {b : Addr} {l : List Value} {e : Nat} {Q : Value → Shared → Prop} (F : Fr h₀ L s.heap m) (N : News h₀ L s.heap news) (hb : (b, W.listOf l.toArray e) ∈ news) (hz : l.length ≤ 4000000)
    (h : ∀ D c h', Fr h₀ L h' m → News h₀ L h' ((D, W.listOf l.toArray c) :: news) → (∀ q ∈ news, q.1 < D) → Q (.ref D) { s with heap := h' }) : wpAny (model prog w) A (call (.type "list") [.ref b]) Q E s :=
  kup_listOf F N hb rfl h (by show l.length ≤ _; rw [sizeLine_eq]; k_extra "ar9")
theorem my_rev {prog : Program} {w : World} {A : Around} {E : Value → Shared → Prop} {s : Shared} {h₀ : Heap} {L l : Addr} {m : Str → Option Value} {news : List (Addr × Obj)} {value slice : PySem.Expr} {vs : List Value} {e : Nat} {vk : Value} {ops : List Value} {Q : Value → Shared → Prop} (F : Fr h₀ L s.heap m) (N : News h₀ L s.heap news) (hm : (l, W.listOf vs.toArray e) ∈ news) (pk : IsPart vk (some (-1)))
    (h : ∀ D h', Fr h₀ L h' m → News h₀ L h' ((D, W.listOf vs.reverse.toArray 0) :: news) → (∀ p ∈ news, p.1 < D) → Q (.ref D) { s with heap := h' })
    (hs : subscripted slice false (.ref l) (.ref s.heap.objs.size) = operate ops (getItem (.ref l) (.ref s.heap.objs.size))) (ht : ∀ r, letTemporaryGo value (.ref l) r = pure ()) (hz : vs.length ≤ 4000000) :
    wpAny (model prog w) A (subscriptTail value slice (.ref l) (.ref s.heap.objs.size)) Q E { s with heap := s.heap.push { cls := .type "slice", data := .fields #[.none, .none, vk] } } :=
  krv_lit F N (News.isList N hm) pk rfl h hs ht (by rw [List.size_toArray, sizeLine_eq]; k_extra "ar9")
theorem my_pop {D : Addr} {p : List Value} {y : Value} {e : Nat} {news' : List (Addr × Obj)} {Q : Value → Shared → Prop} (F : Fr h₀ L s.heap m) (N : News h₀ L s.heap news) (U : Upd D (W.listOf (p ++ [y]).toArray e) (W.listOf p.toArray (e + 1)) news news')
    (hz : p.length ≤ 4000000) (h : ∀ h', Fr h₀ L h' m → News h₀ L h' news' → Q y { s with heap := h' }) : wpAny (model prog w) A (call (.builtin "list.pop") [.ref D]) Q E s :=
  kl_pop F N (its := (p ++ [y]).toArray) (kl_last_app p y) U (by show (p ++ [y]).length ≤ _; rw [List.length_append, List.length_singleton, sizeLine_eq]; k_extra "ar9") h
theorem my_extend {D b : Addr} {l r : List Value} {e e2 : Nat} {news' : List (Addr × Obj)} {Q : Value → Shared → Prop} (F : Fr h₀ L s.heap m) (N : News h₀ L s.heap news) (hb : (b, W.listOf r.toArray e2) ∈ news) (hr : r ≠ []) (U : Upd D (W.listOf l.toArray e) (W.listOf (l ++ r).toArray (e + 1)) news news')
    (hz : l.length + r.length ≤ 4000000) (h : ∀ h', Fr h₀ L h' m → News h₀ L h' news' → Q .none { s with heap := h' }) : wpAny (model prog w) A (call (.builtin "list.extend") [.ref D, .ref b]) Q E s := by
  refine kl_extend (its := l.toArray) (its2 := r.toArray) F N hb rfl ?_ U ?_ ?_ ?_ h
  · show r.length ≠ 0
    exact fun h => hr (List.length_eq_zero_iff.mp h)
  · rw [List.size_toArray, List.size_toArray]
    simp [Builtin.List.listTooLong, sizeLine_eq]
    k_extra "ar9"
  · show l.length ≤ _
    rw [sizeLine_eq]; k_extra "ar9"
  · rw [List.size_toArray, List.size_toArray, sizeLine_eq]; k_extra "ar9"
theorem my_extend0 {D b : Addr} {l : List Value} {e e2 : Nat} {Q : Value → Shared → Prop} (F : Fr h₀ L s.heap m) (N : News h₀ L s.heap news) (hb : (b, W.listOf ([] : List Value).toArray e2) ∈ news) (U : Upd D (W.listOf l.toArray e) (W.listOf l.toArray e) news news)
    (hz : l.length ≤ 4000000) (h : ∀ h', Fr h₀ L h' m → News h₀ L h' news → Q .none { s with heap := h' }) : wpAny (model prog w) A (call (.builtin "list.extend") [.ref D, .ref b]) Q E s := by
  refine kxn_extend (its := l.toArray) (its2 := ([] : List Value).toArray) F N hb rfl U ?_ ?_ ?_ h
  · simp [Builtin.List.listTooLong, sizeLine_eq]
    k_extra "ar9"
  · show l.length ≤ _
    rw [sizeLine_eq]; k_extra "ar9"
  · rw [List.size_toArray, List.size_toArray, sizeLine_eq]; simp; k_extra "ar9"
end
section
variable {prog : Program} {w : World} {A : Around} {E : Value → Shared → Prop} {s : Shared} {h₀ : Heap} {L : Addr} {m : Str → Option Value} {news : List (Addr × Obj)}
theorem my_item_nat {value slice : PySem.Expr} {a : Addr} {l : List Value} {e : Nat} {k : Int} {n : Nat} {u : Tok} {x : Value} {Q : Value → Shared → Prop} (N : News h₀ L s.heap news) (hm : (a, W.listOf l.toArray e) ∈ news)
    (hk : k = (n : Int)) (hfit : n < 2 ^ 62) (hx : l[n]? = some x) (h : Q x s)
    (hs : subscripted slice false (.ref a) (.int k u) = operate [.ref a, .int k u] (getItem (.ref a) (.int k u)) := by with_unfolding_all rfl) :
    wpAny (model prog w) A (subscriptTail value slice (.ref a) (.int k u)) Q E s := by
  subst hk
  exact my_item N hm (by k_extra "ar9") (by k_extra "ar9") (by simpa using hx) h hs
theorem my_add {a b : Addr} {l r : List Value} {e e2 : Nat} {Q : Value → Shared → Prop} (F : Fr h₀ L s.heap m) (N : News h₀ L s.heap news) (ha : (a, W.listOf l.toArray e) ∈ news) (hb : (b, W.listOf r.toArray e2) ∈ news)
    (hz : l.length + r.length ≤ 4000000) (h : ∀ D h', Fr h₀ L h' m → News h₀ L h' ((D, W.listOf (l ++ r).toArray 0) :: news) → (∀ p ∈ news, p.1 < D) → Q (.ref D) { s with heap := h' }) : wpAny (model prog w) A (binaryOp .Add (.ref a) (.ref b)) Q E s :=
  kmk_add_lit F N (News.isList N ha) (News.isList N hb) rfl h (by simp only [List.size_toArray, Array.length_toList, sizeLine_eq]; k_extra "ar9")
end
theorem rows24 : True := by
  (k_with "subscriptTail" => (k_here; (with_reducible show wpAny _ _ (subscriptTail _ _ (Value.ref _) (Value.int _ _)) _ _ _); k_dflt (refine' my_item_nat ?zqN ?zqm ?zqk ?zqf ?zqd ?_; (case zqN => k_asm); (case zqm => k_mem); (case zqk => k_extra "nat_is"); (case zqd => with_reducible assumption); (case zqf => k_extra "ar9"))))
  (k_with "subscriptTail Name Constant ref int" => (k_here; (with_reducible show wpAny _ _ (subscriptTail _ _ (Value.ref _) (Value.int _ _)) _ _ _); k_dflt (refine' my_item_nat ?zqN ?zqm ?zqk ?zqf ?zqd ?_; (case zqN => k_asm); (case zqm => k_mem); (case zqk => k_extra "nat_is"); (case zqd => with_reducible assumption); (case zqf => k_extra "ar9"))))
  (k_with "binaryOp Add ref ref" => (k_here; (with_reducible show wpAny _ _ (binaryOp _ (Value.ref _) (Value.ref _)) _ _ _); k_dflt (refine' my_add ?zqF ?zqN ?zqa ?zqb ?zqz ?_; (case zqF => k_asm); (case zqN => k_asm); (case zqa => k_mem); (case zqb => k_mem); (case zqz => k_extra "ar9"); k_whole); intro zD' zh' zF' zN' zl1; (try k_lt zl1)))
  trivial
/-- an expression that may make things, which the ledger takes up -/
noncomputable def XDone (h₀ : Heap) (L : Addr) (m : Str → Option Value) (P : Value → List (Addr × Obj) → Prop) (s : Shared) (v : Value) (s' : Shared) : Prop := ∃ h' tk news', s' = { s with heap := h', toks := tk } ∧ Fr h₀ L h' m ∧ News h₀ L h' news' ∧ P v news'
theorem XDone.intro {h₀ : Heap} {L : Addr} {m : Str → Option Value} {news' : List (Addr × Obj)} {P : Value → List (Addr × Obj) → Prop} {s : Shared} {v : Value} {h' : Heap} {tk : Nat} (F : Fr h₀ L h' m) (N : News h₀ L h' news') (p : P v news') : XDone h₀ L m P s v { s with heap := h', toks := tk } := ⟨_, _, _, rfl, F, N, p⟩
theorem cutX {M : Model} {A : Around} {E : Value → Shared → Prop} {s : Shared} {t : Sem Value} {Q : Value → Shared → Prop} {h₀ : Heap} {L : Addr} {m : Str → Option Value} (_ : Fr h₀ L s.heap m) (P : Value → List (Addr × Obj) → Prop)
    (h : wpAny M A t (XDone h₀ L m P s) E s) (k : ∀ v h' tk news', Fr h₀ L h' m → News h₀ L h' news' → P v news' → Q v { s with heap := h', toks := tk }) : wpAny M A t Q E s :=
  wpAny_mono h (fun v s' hc => by obtain ⟨h', tk, news', rfl, F, N, p⟩ := hc; exact k v h' tk news' F N p) fun _ _ e => e
theorem rows25 : True := by
  (k_with "compareOp Eq ref ref" => (k_here; (with_reducible show wpAny _ _ (compareOp CmpOp.Eq (Value.ref _) (Value.ref _)) _ _ _); k_dflt (refine' my_nil_eq ?zqk1 ?zqk2 ?zqk3 ?zqk4 ?_; (case zqk1 => k_asm); (case zqk3 => exact List.Mem.head _); (case zqk2 => k_mem); (case zqk4 => (try simp only [units_deeper]); k_extra "ar9"); k_whole); intro zr' zhr'))
  (k_with "compareOp NotEq ref ref" => (k_here; (with_reducible show wpAny _ _ (compareOp CmpOp.NotEq (Value.ref _) (Value.ref _)) _ _ _); k_dflt (refine' my_nil_ne ?zqk1 ?zqk2 ?zqk3 ?zqk4 ?_; (case zqk1 => k_asm); (case zqk3 => exact List.Mem.head _); (case zqk2 => k_mem); (case zqk4 => (try simp only [units_deeper]); k_extra "ar9"); k_whole); intro zr' zhr'))
  (k_with "call type:list" => (k_here; (with_reducible show wpAny _ _ (call (Value.type _) [Value.ref _]) _ _ _); k_dflt (refine' my_list ?zqF ?zqN ?zqb ?zqz ?_; (case zqF => k_asm); (case zqN => k_asm); (case zqb => k_mem); (case zqz => k_extra "ar9"); k_whole); intro zD' zc' zh' zF' zN' zl1; (try k_lt zl1)))
  (k_with "subscriptTail" => (k_here; (with_reducible show wpAny _ _ (subscriptTail _ (PySem.Expr.Slice none none (some _) _) (Value.ref _) (Value.ref _)) _ _ _); k_dflt (refine' my_rev ?zqF ?zqN ?zql ?zqk ?_ ?zqs ?zqt ?zqz; (case zqF => k_asm); (case zqN => k_asm); (case zql => k_mem); (case zqk => exact IsPart.int _ _); (case zqs => with_unfolding_all rfl); (case zqt => kmk_pure); (case zqz => k_extra "ar9"); k_whole); intro zD' zh' zF' zN' zl1; (try k_lt zl1)))
  (k_with "subscriptTail Call" => (k_here; (with_reducible show wpAny _ _ (subscriptTail _ (PySem.Expr.Slice none none (some _) _) (Value.ref _) (Value.ref _)) _ _ _); k_dflt (refine' my_rev ?zqF ?zqN ?zql ?zqk ?_ ?zqs ?zqt ?zqz; (case zqF => k_asm); (case zqN => k_asm); (case zql => k_mem); (case zqk => exact IsPart.int _ _); (case zqs => with_unfolding_all rfl); (case zqt => kmk_pure); (case zqz => k_extra "ar9"); k_whole); intro zD' zh' zF' zN' zl1; (try k_lt zl1)))
  (k_with "subscriptTail Name Slice ref ref" => (k_here; (with_reducible show wpAny _ _ (subscriptTail _ (PySem.Expr.Slice none none (some _) _) (Value.ref _) (Value.ref _)) _ _ _); k_dflt (refine' my_rev ?zqF ?zqN ?zql ?zqk ?_ ?zqs ?zqt ?zqz; (case zqF => k_asm); (case zqN => k_asm); (case zql => k_mem); (case zqk => exact IsPart.int _ _); (case zqs => with_unfolding_all rfl); (case zqt => kmk_pure); (case zqz => k_extra "ar9"); k_whole); intro zD' zh' zF' zN' zl1; (try k_lt zl1)))
  trivial
section
theorem rows26 : True := by
  (k_with "binaryOp Mult ref int" => (k_here; (with_reducible show wpAny _ _ (binaryOp Operator.Mult (Value.ref _) (Value.int _ _)) _ _ _); k_dflt (refine' KMa.mul (vs := [Value.none]) ?zqF ?zqN ?zql ?zqlo ?zqhi ?zqz rfl ?_; (case zqF => k_asm); (case zqN => k_asm); (case zql => exact News.isList (by k_asm) (by k_mem)); (case zqlo => k_extra "ar9"); (case zqhi => k_extra "ar9"); (case zqz => (simp only [List.length_cons, List.length_nil]; k_extra "ar9")); k_whole); intro zD' zh' zF' zN' zl1; (try k_lt zl1)))
  (k_with "eval ListComp" => (k_here; (with_reducible show wpAny _ _ (eval (Expr.ListComp _ [⟨_, Expr.Subscript _ _ _, _, _⟩] _ _) _) _ _ _); k_dflt (refine LCg.ListComp_U (F₀ := by k_asm) (by rfl) (by decide) (by rfl) (by decide) (by rfl) ?_)))
  trivial
/-- values that are nodes -/
inductive NL (w : World) (news : List (Addr × Obj)) : List Value → List (Int × F) → Prop
  | nil : NL w news [] []
  | cons {v : Value} {n : Int} {k : F} {vs : List Value} {ls : List (Int × F)} : NIn w news [v] (.cons n k .nil) → NL w news vs ls → NL w news (v :: vs) ((n, k) :: ls)
noncomputable def F.kids : F → List (Int × F)
  | .nil => []
  | .cons n k r => (n, k) :: r.kids
theorem NL.app {w : World} {news : List (Addr × Obj)} {vs us : List Value} {ls ms : List (Int × F)} (h : NL w news vs ls) (k : NL w news us ms) : NL w news (vs ++ us) (ls ++ ms) := by
  induction h with
  | nil => exact k
  | cons h _ i => exact .cons h i
theorem NIn.nl {w : World} {news : List (Addr × Obj)} {vs : List Value} {f : F} (h : NIn w news vs f) : NL w news vs f.kids := by
  induction h with
  | nil => exact .nil
  | cons h1 h2 h3 h4 _ _ i5 => exact .cons (.cons h1 h2 h3 h4 .nil) i5
theorem NL.len {w : World} {news : List (Addr × Obj)} {vs : List Value} {ls : List (Int × F)} (h : NL w news vs ls) : vs.length = ls.length := by
  induction h with
  | nil => rfl
  | cons _ _ i => simp [i]
theorem NL.at {w : World} {news : List (Addr × Obj)} {vs : List Value} {ls : List (Int × F)} (h : NL w news vs ls) : ∀ {i : Nat} {n : Int} {k : F}, ls[i]? = some (n, k) → ∃ v, vs[i]? = some v ∧ NIn w news [v] (.cons n k .nil) := by
  induction h with
  | nil => intro i n k hv; simp at hv
  | @cons v n k vs ls h1 h2 ih =>
    intro i n' k' hv
    cases i with
    | zero =>
      simp only [List.getElem?_cons_zero, Option.some.injEq, Prod.mk.injEq] at hv
      obtain ⟨rfl, rfl⟩ := hv
      exact ⟨v, rfl, h1⟩
    | succ i =>
      simp only [List.getElem?_cons_succ] at hv ⊢
      exact ih hv
noncomputable def sizes : List (Int × F) → Nat
  | [] => 0
  | (_, k) :: r => k.size + sizes r
theorem sizes_app : ∀ l r : List (Int × F), sizes (l ++ r) = sizes l + sizes r
  | [], r => by simp [sizes]
  | (n, k) :: l, r => by simp only [List.cons_append, sizes, sizes_app l r]; k_extra "ar9"
theorem kids_size : ∀ f : F, sizes f.kids + f.kids.length = f.size
  | .nil => rfl
  | .cons n k r => by simp only [F.kids, sizes, F.size, List.length_cons]; have := kids_size r; k_extra "ar9"
theorem kids_len : ∀ f : F, f.kids.length = f.len
  | .nil => rfl
  | .cons n k r => by simp only [F.kids, F.len, List.length_cons, kids_len r]
theorem kids_at : ∀ {f : F} {i : Nat} {n : Int} {k : F}, f.at i = some (n, k) → f.kids[i]? = some (n, k)
  | .cons n k r, 0, _, _, h => by simp only [F.at, Option.some.injEq, Prod.mk.injEq] at h; obtain ⟨rfl, rfl⟩ := h; rfl
  | .cons n k r, i + 1, _, _, h => by simp only [F.at] at h; simpa [F.kids] using kids_at h
  | .nil, _, _, _, h => by simp [F.at] at h
/-- the list of the kids' places -/
noncomputable def span (c n : Nat) : List Int := (List.range n).map fun s => ((c + s : Nat) : Int)
theorem span_succ (c n : Nat) : span c (n + 1) = span c n ++ [((c + n : Nat) : Int)] := by unfold span; rw [List.range_succ, List.map_append]; rfl
/-- the link lists -/
inductive LK (tl : List (Addr × Obj)) (ln : List (Int × F)) : Nat → List Value → List (Int × F) → Prop
  | nil {j : Nat} : LK tl ln j [] []
  | cons {j : Nat} {b : Addr} {us vs : List Value} {e c : Nat} {n : Int} {k : F} {ls : List (Int × F)} : (b, W.listOf us.toArray e) ∈ tl → IntsAre us (span c k.len) → (∀ s n' k', k.at s = some (n', k') → ln[c + s]? = some (n', k')) → j < c → LK tl ln (j + 1) vs ls → LK tl ln j (.ref b :: vs) ((n, k) :: ls)
theorem LK.mono {tl tl' : List (Addr × Obj)} {ln : List (Int × F)} {ex : List (Int × F)} (hs : ∀ p ∈ tl, p ∈ tl') {j : Nat} {vs : List Value} {ls : List (Int × F)} (h : LK tl ln j vs ls) : LK tl' (ln ++ ex) j vs ls := by
  induction h with
  | nil => exact .nil
  | cons h1 h2 h3 h4 _ i =>
    refine .cons (hs _ h1) h2 (fun s n' k' e => ?_) h4 i
    have := h3 s n' k' e
    rw [List.getElem?_append_left (List.getElem?_eq_some_iff.mp this).1]
    exact this
theorem LK.mono0 {tl tl' : List (Addr × Obj)} {ln : List (Int × F)} (hs : ∀ p ∈ tl, p ∈ tl') {j : Nat} {vs : List Value} {ls : List (Int × F)} (h : LK tl ln j vs ls) : LK tl' ln j vs ls := by
  have := h.mono (ex := []) hs
  rw [List.append_nil] at this
  exact this
theorem LK.snoc {tl : List (Addr × Obj)} {ln : List (Int × F)} {j : Nat} {vs : List Value} {ls : List (Int × F)} (h : LK tl ln j vs ls) {b : Addr} {us : List Value} {e c : Nat} {n : Int} {k : F} (h1 : (b, W.listOf us.toArray e) ∈ tl) (h2 : IntsAre us (span c k.len)) (h3 : ∀ s n' k', k.at s = some (n', k') → ln[c + s]? = some (n', k')) (h4 : j + vs.length < c) :
    LK tl ln j (vs ++ [.ref b]) (ls ++ [(n, k)]) := by
  induction h with
  | nil => exact .cons h1 h2 h3 (by simpa using h4) .nil
  | cons g1 g2 g3 g4 _ i => exact .cons g1 g2 g3 g4 (i (by simp only [List.length_cons] at h4; k_extra "ar9"))
theorem LK.at {tl : List (Addr × Obj)} {ln : List (Int × F)} {j : Nat} {vs : List Value} {ls : List (Int × F)} (h : LK tl ln j vs ls) : ∀ {i : Nat} {n : Int} {k : F}, ls[i]? = some (n, k) →
    ∃ b us e c, vs[i]? = some (.ref b) ∧ (b, W.listOf us.toArray e) ∈ tl ∧ IntsAre us (span c k.len) ∧ (∀ s n' k', k.at s = some (n', k') → ln[c + s]? = some (n', k')) ∧ j + i < c := by
  induction h with
  | nil => intro i n k hv; simp at hv
  | @cons j b us vs e c n k ls g1 g2 g3 g4 _ ih =>
    intro i n' k' hv
    cases i with
    | zero =>
      simp only [List.getElem?_cons_zero, Option.some.injEq, Prod.mk.injEq] at hv
      obtain ⟨rfl, rfl⟩ := hv
      exact ⟨b, us, e, c, rfl, g1, g2, g3, by k_extra "ar9"⟩
    | succ i =>
      simp only [List.getElem?_cons_succ] at hv ⊢
      obtain ⟨b', us', e', c', q1, q2, q3, q4, q5⟩ := ih hv
      exact ⟨b', us', e', c', q1, q2, q3, q4, by k_extra "ar9"⟩
theorem LK.len {tl : List (Addr × Obj)} {ln : List (Int × F)} {j : Nat} {vs : List Value} {ls : List (Int × F)} (h : LK tl ln j vs ls) : vs.length = ls.length := by
  induction h with
  | nil => rfl
  | cons _ _ _ _ _ i => simp [i]
theorem nrot_start {h₀ : Heap} {L : Addr} {h : Heap} {t k a r l : Addr × Obj} {news : List (Addr × Obj)} (N : News h₀ L h (t :: k :: a :: r :: l :: news)) : News h₀ L h (r :: l :: k :: ([a] ++ news)) := by
  exact nget N (by k_extra "sub9")
theorem nrot_rows {h₀ : Heap} {L : Addr} {h : Heap} {D l r c k : Addr × Obj} {tl news : List (Addr × Obj)} (N : News h₀ L h (D :: l :: r :: c :: k :: (tl ++ news))) : News h₀ L h (r :: c :: D :: ((k :: tl) ++ news)) := by
  exact nget N (by k_extra "sub9")
theorem span_get {c n i : Nat} (h : i < n) : (span c n)[i]? = some ((c + i : Nat) : Int) := by simp [span, h]
theorem tend_rows {h₀ : Heap} {L : Addr} {J : (Str → Option Value) → List (Addr × Obj) → Prop} {s₁ : Shared} {h' : Heap} {tk : Nat} {m' : Str → Option Value} {a b c r l : Addr × Obj} {ra : Addr} {q q' : Obj} {tl news own : List (Addr × Obj)} (F : Fr h₀ L h' m') (N : News h₀ L h' (a :: b :: c :: r :: l :: (ra, q') :: (tl ++ (news ++ own)))) (hab : Apart [a, b] own)
    (hrest : TbOff own (r :: l :: (ra, q) :: (tl ++ news))) (j : J m' (r :: l :: (ra, q') :: ((a :: b :: tl) ++ news))) : TbEnd h₀ L J own s₁ { s₁ with heap := h', toks := tk } := by
  refine TbEnd.go F N j ?_ ?_ ?_
  · k_extra "sub9"
  · intro p hp
    simp only [List.mem_cons, List.mem_append]
    simp [hp]
  · intro p hp x hx
    have k1 : ∀ x ∈ r :: l :: (ra, q) :: (tl ++ news), p.1 ≠ x.1 := hrest p hp
    rcases List.mem_cons.mp hx with rfl | hx
    · exact k1 _ (.head _)
    rcases List.mem_cons.mp hx with rfl | hx
    · exact k1 _ (.tail _ (.head _))
    rcases List.mem_cons.mp hx with rfl | hx
    · exact k1 (ra, q) (.tail _ (.tail _ (.head _)))
    rcases List.mem_cons.mp hx with rfl | hx
    · exact Ne.symm (hab _ (.head _) p hp)
    rcases List.mem_cons.mp hx with rfl | hx
    · exact Ne.symm (hab _ (.tail _ (.head _)) p hp)
    · exact k1 x (.tail _ (.tail _ (.tail _ hx)))
theorem told_m (w : World) (mean : ExcName → Option Value) (mg mb : Str → Option Value) (n₀ : Int) (k₀ : F) (hsz : k₀.size < 250) :
    Fun w mean mg mb 90 8 (fun news vs => ∃ v, vs = [v] ∧ NIn w news [v] (.cons n₀ k₀ .nil)) (fun tl v => DatIn tl v (.tuple [.int n₀, .tuple (dats k₀)])) := by
  unfold Fun
  k_fill
  intro A A₀ base h₀ outer L m news s env Q E vs B hF X N T hA hf hke hh hdp hu hp hret
  obtain ⟨v, rfl, hp⟩ := hp
  have hrl : recursionLimit = 1000 := rfl
  refine wpAny_call ?_
  refine' code_defC ?k1 ?k2 ?k3 ?k4 ?k5 ?kA ?kF ?kK ?k6 ?k7 ?k8 ?k9 ?kB ?kD ?_ ?c2 ?c3 ?c4
  case kA => first | assumption | exact rfl | exact Around.frames_deeper (by assumption)
  case kF => first | assumption | exact rfl
  case kK => first | assumption | exact rfl
  case k1 => k_asm
  case k2 => k_asm
  case k3 => k_asm
  case k4 => k_asm
  case k5 => k_asm
  case k6 => k_is
  case k7 => k_is
  case k8 => k_room
  case k9 => first | exact BindsTo.of_eq rfl | exact binds_K (by k_in) rfl (by k_is) rfl rfl rfl | fail "k_enter: no rule for these arguments"
  case kB => exact rfl
  case kD => decide +kernel
  case c2 => exact rfl
  case c3 => exact rfl
  case c4 => exact rfl
  k_whole
  intro g9 L9 h9 tk9 cells9 FG9 F9 N9 Y9 B9 X9 T9 l99
  k_cells Y9
  try simp only [List.cons_append, List.nil_append] at N9
  try dsimp only
  try k_fold
  k_steps
  refine Halt.mk ?_
  rename Fr _ _ _ (fun _ => _) => kF
  rename News _ _ _ (_ :: _ :: _) => kN
  refine my_while (n₀ := 1 + k₀.size - ([] : List Value).length) (fun i m nx => Ex11 fun oL oR la ka lv kvs ln e1 e2 tl v₀ => Al17 (nx = (L9 + 1 + 1, oR) :: (L9 + 1, oL) :: (ka, W.listOf kvs.toArray e2) :: (tl ++ news)) (oL.data = .cell (some (.ref la))) (oR.data = .cell v₀) ((la, W.listOf lv.toArray e1) ∈ tl) (NL w news lv ln) (LK tl ln 0 kvs (ln.take kvs.length)) ((∀ p ∈ tl ++ news, p.1 ≠ ka)) ((∀ p ∈ tl ++ news, p.1 ≠ L9 + 1)) ((∀ p ∈ tl ++ news, p.1 ≠ L9 + 1 + 1)) (@Ne Nat ka (L9 + 1)) (@Ne Nat ka (L9 + 1 + 1)) (Apart tl news) (Pin m [("links", .ref ka)]) (kvs.length ≤ ln.length) (ln.length + sizes (ln.drop kvs.length) = 1 + k₀.size) (ln.head? = some (n₀, k₀)) (i = 1 + k₀.size - kvs.length))
    (fun m nx => Ex11 fun oL oR la ka lv kvs ln e1 e2 tl v₀ => Al15 (nx = (L9 + 1 + 1, oR) :: (L9 + 1, oL) :: (ka, W.listOf kvs.toArray e2) :: (tl ++ news)) (oL.data = .cell (some (.ref la))) (oR.data = .cell v₀) ((la, W.listOf lv.toArray e1) ∈ tl) (NL w news lv ln) (LK tl ln 0 kvs ln) ((∀ p ∈ tl ++ news, p.1 ≠ ka)) ((∀ p ∈ tl ++ news, p.1 ≠ L9 + 1)) ((∀ p ∈ tl ++ news, p.1 ≠ L9 + 1 + 1)) (@Ne Nat ka (L9 + 1)) (@Ne Nat ka (L9 + 1 + 1)) (Apart tl news) (Pin m [("links", .ref ka)]) (ln.length = 1 + k₀.size) (ln.head? = some (n₀, k₀))) kF (nrot_start kN) ?start ?turn ?done
  case start =>
    refine ⟨_, _, _, _, [v], [], [(n₀, k₀)], 0, 0, [(_, _)], _, rfl, by assumption, by assumption, .head _, .cons hp .nil, .nil, ?_, ?_, ?_, ?_, ?_, ?_, ⟨rfl, trivial⟩, by simp, ?_, rfl, rfl⟩
    · exact off_consN (by k_extra "ar9") (off_le l99 (by k_extra "ar9"))
    · exact off_consN (by k_extra "ar9") (off_le l99 (by k_extra "ar9"))
    · exact off_consN (by k_extra "ar9") (off_le l99 (by k_extra "ar9"))
    · exact Ne.symm (Nat.ne_of_lt (by k_extra "ar9"))
    · exact Ne.symm (Nat.ne_of_lt (by k_extra "ar9"))
    · refine ap_cons (fun q hq => ?_) Apart.nil
      exact Ne.symm (Nat.ne_of_lt (Nat.lt_of_lt_of_le (l99 q hq) (by dsimp only; k_extra "ar9")))
    · simp [sizes]
  case turn =>
    intro i m₃ nx₃ h₃ tk₃ F₃ N₃ hJ9
    (try k_fold)
    rcases hJ9 with ⟨oL, oR, la, ka, lv, kvs, ln, e1, e2, tl, v₀, rfl, hoL, hoR, hla, hlv, hlk, o1, o2, o3, n1, n2, hap, hpin, hj, htot, hhd, rfl⟩
    have F₄ := Fr.pin F₃ hpin
    clear F₃ kF kN
    have hll := hlv.len
    have hlnb := told_size htot hsz
    have hlvb : lv.length ≤ 250 := by rw [hll]; exact hlnb
    have hkb : kvs.length ≤ 250 := Nat.le_trans hj hlnb
    by_cases hlt : kvs.length < ln.length
    · obtain ⟨n', k', hat⟩ : ∃ n' k', ln[kvs.length]? = some (n', k') := ⟨_, _, List.getElem?_eq_getElem hlt⟩
      obtain ⟨v', hv', hnin⟩ := hlv.at hat
      cases hnin with
      | @cons x dx b n tk t1 t2 e kv vs k r h1 h2 h3 h4 h5 =>
      cases h5
      have hkl := h4.len
      have hks := F.len_le k'
      have hsz2 : k'.size ≤ k₀.size := by
        have e0 : ln.drop kvs.length = (n', k') :: ln.drop (kvs.length + 1) := by
          rw [List.drop_eq_getElem_cons hlt]
          have := (List.getElem?_eq_some_iff.mp hat).2
          rw [this]
        rw [e0] at htot
        simp only [sizes] at htot
        k_extra "ar9"
      have hkvb : kv.length ≤ 250 := by rw [hkl]; exact Nat.le_trans hks (Nat.le_trans hsz2 (Nat.le_of_lt hsz))
      have hadd : lv.length + kv.length ≤ 4000000 := Nat.le_trans (Nat.add_le_add hlvb hkvb) (by decide)
      have hkm : kvs.length < 1 + k₀.size := Nat.lt_of_lt_of_le hlt (Nat.le_trans (Nat.le_add_right _ _) (Nat.le_of_eq htot))
      have hlt2 : (kvs.length : Int) < (lv.length : Int) := by rw [hll]; exact Int.ofNat_lt.mpr hlt
      have e5 : (↑kv.length - 0 : Int).toNat = k'.len := by rw [Int.sub_zero, Int.toNat_natCast]; exact hkl
      have e5b : (↑kv.length - 0 : Int).toNat ≤ 16777216 := by rw [Int.sub_zero, Int.toNat_natCast]; exact Nat.le_trans hkvb (by decide)
      k_steps
      · rename IsRange _ _ _ _ _ _ _ _ => rg
        rename Fr _ _ _ _ => kF
        rename News _ _ _ _ => kN
        refine LCg.CompSrc.range hh kF kN rg (small_one (by k_extra "ar9") (by k_extra "ar9") (by k_extra "ar9") (by k_extra "ar9")) (rangeSize_nat _ _) (by rw [sizeLine_eq]; k_extra "ar9") ?_
        intro g2
        dsimp only
        refine rest_inv (fun i ys news₁ => news₁ = (L9 + 1 + 1, oR) :: (L9 + 1, oL) :: (ka, W.listOf kvs.toArray e2) :: (tl ++ news) ∧ IntsAre ys (span ln.length i)) ⟨rfl, .nil⟩ ?_ ?_
        · intro i v ys news₁ I oI oC C D m₂ h tk E' hi hJ9 hJ9x hoC hm₂ F₂ N₂ hoff hne
          (try k_fold)
          rcases hJ9 with ⟨t, rfl⟩
          rcases hJ9x with ⟨rfl, hys⟩
          k_steps
          refine LCg.CompEnd.intro F₂ N₂ _ (fun p hp => hp) hoff trivial ⟨rfl, ?_⟩
          rw [span_succ]
          refine hys.append ?_
          have e5 : ((ln.length + i : Nat) : Int) = ↑lv.length + (0 + ↑i) := by k_extra "ar9"
          rw [e5]
          exact .cons _ _ .nil
        · intro ys news' hJ9
          (try k_fold)
          rcases hJ9 with ⟨rfl, hys⟩
          k_steps
          rename Fr _ _ _ (fun _ => _) => kF
          rename News _ _ _ (_ :: _ :: _) => kN
          rename (_ ∧ _ ∧ _ ∧ LCg.Off1 _ _) => oq
          have oq1 := oq.2.2.2
          have e0 : ln.drop kvs.length = (n', k') :: ln.drop (kvs.length + 1) := by
            rw [List.drop_eq_getElem_cons hlt, (List.getElem?_eq_some_iff.mp hat).2]
          have e1' : ln.take (kvs.length + 1) = ln.take kvs.length ++ [(n', k')] := by
            rw [List.take_add_one, hat]; rfl
          rw [e0] at htot
          simp only [sizes] at htot
          have hks2 := kids_size k'
          refine WTurn.go kF (nrot23 kN) (n' := 1 + k₀.size - (kvs.length + 1)) (by k_extra "ar9") ⟨_, oR, _, ka, lv ++ kv, kvs ++ [.ref _], ln ++ k'.kids, 0, e2 + 1, (_, _) :: (_, _) :: tl, v₀, rfl, by assumption, hoR, .head _, hlv.app h4.nl, ?_, ?_, ?_, ?_, n1, n2, ?_, ⟨rfl, trivial⟩, ?_, ?_, ?_, ?_⟩
          · rw [List.length_append, List.length_singleton, List.take_append_of_le_length (by k_extra "ar9"), e1']
            refine (hlk.mono fun _ h => .tail _ (.tail _ h)).snoc (us := ys) (c := ln.length) (.tail _ (.head _)) ?_ ?_ (by k_extra "ar9")
            · rw [e5] at hys
              exact hys
            · intro s n' k' h
              rw [List.getElem?_append_right (by k_extra "ar9"), Nat.add_sub_cancel_left]
              exact kids_at h
          · exact off_consN (by k_extra "ar9") (off_consN (by k_extra "ar9") o1)
          · exact off_consN (by k_extra "ar9") (off_consN (by k_extra "ar9") o2)
          · exact off_consN (by k_extra "ar9") (off_consN (by k_extra "ar9") o3)
          · tb_rel
          · simp only [List.length_append, List.length_singleton]; k_extra "ar9"
          · simp only [List.length_append, List.length_singleton]
            rw [List.drop_append_of_le_length (by k_extra "ar9"), sizes_app]
            k_extra "ar9"
          · cases ln with
            | nil => simp at hlt
            | cons _ _ => exact hhd
          · rw [List.length_append, List.length_singleton]
    · k_steps
      rename Fr _ _ _ _ => kF
      rename News _ _ _ _ => kN
      refine WDone.intro kF kN ⟨oL, oR, la, ka, lv, kvs, ln, e1, e2, tl, v₀, rfl, hoL, hoR, hla, hlv, ?_, o1, o2, o3, n1, n2, hap, hpin.eq ▸ hpin, ?_, hhd⟩
      · rw [List.take_of_length_le (by k_extra "ar9")] at hlk
        exact hlk
      · rw [List.drop_of_length_le (by k_extra "ar9")] at htot
        simpa [sizes] using htot
  case done =>
    intro m₃ nx₃ h₃ tk₃ F₃ N₃ hJ9
    (try k_fold)
    rcases hJ9 with ⟨oL, oR, la, ka, lv, kvs, ln, e1, e2, tl, v₀, rfl, hoL, hoR, hla, hlv, hlk, o1, o2, o3, n1, n2, hap, hpin, htot, hhd⟩
    have F₄ := Fr.pin F₃ hpin
    clear F₃ kF kN
    have hll := hlv.len
    have hlnb : ln.length ≤ 250 := told_size (b := 0) htot hsz
    have hlvb : lv.length ≤ 250 := by rw [hll]; exact hlnb
    have hmul : (0 + 1) * (↑lv.length : Int).toNat ≤ 256 := by rw [Nat.zero_add, Nat.one_mul, Int.toNat_natCast]; exact Nat.le_trans hlvb (by decide)
    k_steps
    refine Halt.mk ?_
    rename IsRange _ _ _ _ _ _ _ _ => rg
    rename Fr _ _ _ _ => kF
    rename News _ _ _ _ => kN
    have hkl := hlk.len
    have hrep : (List.replicate (↑lv.length : Int).toNat [Value.none]).flatten.length = ln.length := by simp [hll]
    refine my_down (n := ln.length) (fun i m nx => Ex5 fun (oR : Obj) (ra : Addr) (rv : List Value) (e3 : Nat) (tl : List (Addr × Obj)) => Al14 (nx = (L9 + 1 + 1, oR) :: (L9 + 1, oL) :: (ra, W.listOf rv.toArray e3) :: (tl ++ news)) (oR.data = .cell (some (.ref ra))) ((la, W.listOf lv.toArray e1) ∈ tl) ((ka, W.listOf kvs.toArray e2) ∈ tl) (LK tl ln 0 kvs ln) ((∀ p ∈ tl ++ news, p.1 ≠ ra)) ((∀ p ∈ tl ++ news, p.1 ≠ L9 + 1)) ((∀ p ∈ tl ++ news, p.1 ≠ L9 + 1 + 1)) (@Ne Nat ra (L9 + 1)) (@Ne Nat ra (L9 + 1 + 1)) (Apart tl news) (Pin m [("links", .ref ka)]) (rv.length = ln.length) (∀ p, ln.length - i ≤ p → ∀ n k, ln[p]? = some (n, k) → ∃ v, rv[p]? = some v ∧ DatIn tl v (.tuple [.int n, .tuple (dats k)])))
      hh rg (small_down (by k_extra "ar9") (by k_extra "ar9") (by k_extra "ar9") (by k_extra "ar9")) ?hn kF (nrot_rows kN) ?start ?turn ?done
    case hn =>
      rw [rangeSize_down]
      split <;> k_extra "ar9"
    case start =>
      refine ⟨_, _, _, _, (_, _) :: tl, rfl, by assumption, .tail _ hla, .head _, ?_, ?_, ?_, ?_, ?_, ?_, ?_, hpin.eq ▸ hpin, hrep, ?_⟩
      · have := hlk.mono (ex := []) fun p hp => List.Mem.tail (ka, W.listOf kvs.toArray e2) hp
        rw [List.append_nil] at this
        exact this
      · refine off_consN (by k_extra "ar9") ?_
        rename (∀ p ∈ (_, W.listOf #[Value.none] 0) :: _, p.1 < _) => lD
        exact fun p hp => Nat.ne_of_lt (lD p (.tail _ (.tail _ (.tail _ (.tail _ hp)))))
      · exact off_consN n1 o2
      · exact off_consN n2 o3
      · k_extra "ar9"
      · k_extra "ar9"
      · exact ap_cons (fun q hq => Ne.symm (o1 q (List.mem_append_right _ hq))) hap
      · intro p hp n k hlnp
        have := (List.getElem?_eq_some_iff.mp hlnp).1
        k_extra "ar9"
    case turn =>
      clear hlk hla o1 o2 o3 n1 n2 hap hpin hoR kF kN
      intro i t m₅ nx₅ h₅ tk₅ own hi hown hJ9 F₅ N₅
      (try k_fold)
      rcases hJ9 with ⟨oR, ra, rv, e3, tl, rfl, hoR, hla, hka, hlk, o1, o2, o3, n1, n2, hap, hpin, hrv, hdone⟩
      have F₆ := Fr.pin1 F₅ hpin
      clear F₅
      generalize hpl : ln.length - 1 - i = pl
      have e9 : ((↑lv.length : Int) - 1 - (i : Int)) = ((pl : Nat) : Int) := down_int hi hpl (by rw [hll])
      rw [e9] at F₆
      have hdn := down_pos hi hpl
      have hplr : pl < rv.length := by rw [hrv]; exact hdn.1
      have hp62 : pl < 2 ^ 62 := Nat.lt_trans hdn.1 (Nat.lt_of_le_of_lt hlnb (by decide))
      obtain ⟨n', k', hat⟩ : ∃ n' k', ln[pl]? = some (n', k') := ⟨_, _, List.getElem?_eq_getElem (by k_extra "ar9")⟩
      obtain ⟨v', hv', hnin⟩ := hlv.at hat
      obtain ⟨b2, us, e7, c, hkv, hb2, hus, hkids, hpc⟩ := hlk.at hat
      cases hnin with
      | @cons x dx b n tk t1 t2 e kv vs k r h1 h2 h3 h4 h5 =>
      cases h5
      have hul := hus.length
      have hsl : (span c k'.len).length = k'.len := by simp [span]
      have hnk : k'.len ≤ ln.length := by
        rcases Nat.eq_zero_or_pos k'.len with h | h
        · k_extra "ar9"
        · obtain ⟨n2, k2, h2⟩ := F.at_some (f := k') (i := k'.len - 1) (Nat.sub_lt h Nat.one_pos)
          have := (List.getElem?_eq_some_iff.mp (hkids _ _ _ h2)).1
          exact pred_le this
      have N₆ := nget (l' := (L9 + 1 + 1, oR) :: (L9 + 1, oL) :: (ra, W.listOf rv.toArray e3) :: (tl ++ (news ++ own))) N₅ (by
        k_extra "sub9")
      clear N₅
      k_steps
      rename Fr _ _ _ _ => kF
      rename News _ _ _ _ => kN
      refine LCg.CompSrc.ledger hh kF kN (List.Mem.tail _ (.tail _ (.tail _ (List.mem_append_left _ hb2)))) (by rw [List.size_toArray, sizeLine_eq]; k_extra "ar9") ?_
      intro g2
      dsimp only
      refine rest_inv (fun j ys news₁ => news₁ = (L9 + 1 + 1, oR) :: (L9 + 1, oL) :: (ra, W.listOf rv.toArray e3) :: (tl ++ (news ++ own)) ∧ DatAll tl ys ((dats k').take j)) ⟨rfl, .nil⟩ ?_ ?_
      · intro j v ys news₁ I oI oC C D m₂ h tk E' hj hv hJ9 hoC hm₂ F₂ N₂ hoff hne
        (try k_fold)
        rcases hJ9 with ⟨rfl, hys⟩
        rw [List.size_toArray] at hj
        obtain ⟨tv, hv2⟩ := hus.get j _ (span_get (c := c) (show j < k'.len by k_extra "ar9"))
        have hv3 : us[j]? = some v := by simpa using hv
        rw [hv2] at hv3
        obtain rfl := Option.some.inj hv3
        obtain ⟨n2, k2, hat2⟩ := F.at_some (f := k') (i := j) (by k_extra "ar9")
        obtain ⟨v2, hv4, hd4⟩ := hdone (c + j) (by rw [hdn.2]; rw [Nat.zero_add] at hpc; exact Nat.le_trans hpc (Nat.le_add_right c j)) n2 k2 (hkids _ _ _ hat2)
        have hcl := (List.getElem?_eq_some_iff.mp (hkids _ _ _ hat2)).1
        have hcj62 : c + j < 2 ^ 62 := Nat.lt_trans hcl (Nat.lt_of_le_of_lt hlnb (by decide))
        k_steps
        refine LCg.CompEnd.intro F₂ N₂ _ (fun p hp => hp) hoff (Or.inr ⟨_, List.Mem.tail _ (.tail _ (.tail _ (List.mem_append_left _ hb2))), rfl, _, rfl⟩) ⟨rfl, ?_⟩
        rw [List.take_add_one, F.at_dats hat2]
        exact hys.append (.cons hd4 .nil)
      · intro ys news' hJ9
        (try k_fold)
        rcases hJ9 with ⟨rfl, hys⟩
        rw [List.take_of_length_le (by rw [dats_len, List.size_toArray]; k_extra "ar9")] at hys
        have hyl := DatAll_len hys
        rw [dats_len] at hyl
        have o1z : ∀ p ∈ tl ++ (news ++ own), p.1 ≠ ra := off_app (fun p hp => o1 p (List.mem_append_left _ hp)) (off_app (fun p hp => o1 p (List.mem_append_right _ hp)) (off_ap hown (.tail _ (.tail _ (.head _)))))
        k_steps
        rename Fr _ _ _ (fun _ => _) => kF
        rename News _ _ _ (_ :: _ :: _) => kN
        refine tend_rows kF kN ?_ hown ⟨oR, ra, rv.set pl _, e3, (_, _) :: (_, _) :: tl, rfl, hoR, .tail _ (.tail _ hla), .tail _ (.tail _ hka), ?_, ?_, ?_, ?_, n1, n2, ?_, ⟨rfl, trivial⟩, by rw [List.length_set]; exact hrv, ?_⟩
        · tb_rel
        · exact hlk.mono0 fun p hp => .tail _ (.tail _ hp)
        · exact off_consN (by k_extra "ar9") (off_consN (by k_extra "ar9") o1)
        · exact off_consN (by k_extra "ar9") (off_consN (by k_extra "ar9") o2)
        · exact off_consN (by k_extra "ar9") (off_consN (by k_extra "ar9") o3)
        · tb_rel
        · intro p hlnpi n k hlnp
          by_cases hpp : p = pl
          · subst hpp
            rw [hat] at hlnp
            obtain ⟨rfl, rfl⟩ := Prod.mk.inj (Option.some.inj hlnp)
            refine ⟨_, by rw [List.getElem?_set_self (by k_extra "ar9")], DatIn.tuple (.head _) (.cons (.int _ _) (.cons (DatIn.tuple (.tail _ (.head _)) ?_) .nil))⟩
            exact hys.mono fun _ h => .tail _ (.tail _ h)
          · obtain ⟨v8, hv8, hd8⟩ := hdone p (by rw [hdn.2]; exact Nat.lt_of_le_of_ne (by rw [Nat.sub_add_eq, hdn.2] at hlnpi; exact hlnpi) (Ne.symm hpp)) n k hlnp
            exact ⟨v8, by rw [List.getElem?_set_ne (fun e => hpp e.symm)]; exact hv8, hd8.mono fun _ h => .tail _ (.tail _ h)⟩
    case done =>
      clear hlk hla o1 o2 o3 n1 n2 hap hpin hoR kF kN
      intro m₅ nx₅ h₅ tk₅ hJ9 F₅ N₅
      (try k_fold)
      rcases hJ9 with ⟨oR, ra, rv, e3, tl, rfl, hoR, hla, hka, hlk, o1, o2, o3, n1, n2, hap, hpin, hrv, hdone⟩
      have F₆ := Fr.pin F₅ hpin
      clear F₅
      obtain ⟨v0, hv0, hd0⟩ := hdone 0 (by k_extra "ar9") n₀ k₀ (by rw [← List.head?_eq_getElem?]; exact hhd)
      k_steps
      rename Fr h₀ L _ _ => kF
      rename News h₀ L _ _ => kN
      exact hret _ tl _ _ kF (nget kN fun p hp => .tail _ (.tail _ (.tail _ hp))) hap hd0
end
theorem rows27 : True := by
  k_with_none
  (k_with "conj9" => first | with_reducible assumption | exact And.left (by with_reducible assumption) | exact And.left (And.right (by with_reducible assumption)) | exact And.left (And.right (And.right (by with_reducible assumption))) | exact And.left (And.right (And.right (And.right (by with_reducible assumption)))) | exact And.left (And.right (And.right (And.right (And.right (by with_reducible assumption))))) | exact And.left (And.right (And.right (And.right (And.right (And.right (by with_reducible assumption)))))) | exact And.left (And.right (And.right (And.right (And.right (And.right (And.right (by with_reducible assumption))))))) | exact And.left (And.right (And.right (And.right (And.right (And.right (And.right (And.right (by with_reducible assumption)))))))) | exact And.left (And.right (And.right (And.right (And.right (And.right (And.right (And.right (And.right (by with_reducible assumption))))))))) | exact And.left (And.right (And.right (And.right (And.right (And.right (And.right (And.right (And.right (And.right (by with_reducible assumption)))))))))))
  (k_with "lt9" => first | k_extra "conj9" | exact Nat.lt_succ_self _ | (refine Nat.lt_trans ?_ (by with_reducible assumption); k_extra "conj9"))
  (k_with "k_ne" => (refine neN ?_; (try dsimp only); (fail_if_success refine ne_twice (by with_reducible rfl) ?_); first | k_extra "conj9" | exact Ne.symm (by k_extra "conj9") | exact Nat.ne_of_lt (by k_extra "lt9") | exact Nat.ne_of_gt (by k_extra "lt9") | omega))
  (k_with "ar9" => first | with_reducible assumption | ((with_reducible show @LT.lt Nat _ _ _); first | exact Nat.lt_of_lt_of_le (by with_reducible assumption) (by decide) | exact Nat.lt_of_le_of_lt (by with_reducible assumption) (by decide) | exact ar_lt1 (by with_reducible assumption) (by decide) | exact ar_lt2 (by with_reducible assumption) (by decide) | exact ar_lt3 (by with_reducible assumption) (by decide) | exact ar_lt0 (by with_reducible assumption) | exact Nat.lt_of_succ_lt (by with_reducible assumption) | exact Nat.sub_lt_sub_left (by with_reducible assumption) (Nat.lt_succ_self _) | exact Nat.sub_lt_sub_left (by with_reducible assumption) (by with_reducible assumption) | exact mm_ne (by with_reducible assumption) (by with_reducible assumption) | exact mm_s (by with_reducible assumption) (by with_reducible assumption) (by with_reducible assumption) | k_extra "conj9") | ((with_reducible show @LE.le Nat _ _ _); first | exact Nat.le_trans (by with_reducible assumption) (by decide) | exact Nat.le_of_lt (by with_reducible assumption) | exact And.left (by with_reducible assumption) | exact And.left (And.right (by with_reducible assumption)) | exact Nat.le_of_lt (by k_extra "conj9")) | ((with_reducible show @Ne _ _ _); first | k_extra "conj9" | exact Ne.symm (by k_extra "conj9") | exact Nat.ne_of_lt (by k_extra "lt9") | exact Nat.ne_of_gt (by k_extra "lt9")) | ((with_reducible show @LT.lt Int _ _ _); first | with_reducible exact Int.ofNat_lt.mpr (by assumption)) | lia | omega)
  (k_with "k_mem" => first | with_reducible assumption | assumption | (refine' List.mem_append_left _ ?_; k_mem) | (refine' List.mem_append_right _ ?_; k_mem))
  (k_with "sub9" => first | exact fun _ h => h | exact sub_nil | (refine sub_cons ?_ ?_; (focus k_mem); k_extra "sub9") | (refine sub_app ?_ ?_; (focus k_extra "sub9"); k_extra "sub9") | (intro zp9 zhp9; k_mem))
  (k_with "subscriptTail" => (k_here; (with_reducible show wpAny _ _ (subscriptTail _ _ (Value.ref _) (Value.int _ _)) _ _ _); k_dflt (refine' my_item ?zqN ?zqm ?zqa ?zqb ?zqd ?_; (case zqN => k_asm); (case zqm => k_mem); (case zqa => decide); (case zqb => decide); (case zqd => rfl))))
  (k_with "eval ListComp" => (k_here; lcg_look; k_dflt (refine LCg.ListComp_U (F₀ := by k_asm) (by rfl) (by decide) (by rfl) (by decide) (by rfl) ?_)))
  (k_with "k_room" => first | ((try simp only [depth_under_make, depth_under_kw, depth_in1, depth_deeper]); k_extra "ar9") | ((try simp only [depth_under_make, depth_under_kw, depth_in1, depth_deeper] at *); k_extra "ar9"))
  (k_with "k_enter" => first | (k_dflt (refine' enter_pos ?zqk1 ?zqk2 ?zqk3 ?zqk4 ?zqk5 ?zqkA ?zqkF ?zqkK ?zqk6 ?zqk7 ?zqk8 ?zqkX ?zqk9 ?zqkN ?zqkB ?_ ?zqc2 ?zqc3 ?zqc4 ?zqc5; (case zqkA => first | assumption | exact rfl | exact Around.frames_deeper (by assumption) | exact Around.frames_deeper (Around.frames_deeper (by assumption)) | exact Around.frames_deeper (Around.frames_deeper (Around.frames_deeper (by assumption)))); (case zqkF => first | assumption | exact rfl); (case zqkK => first | assumption | exact rfl); (case zqk1 => k_asm); (case zqk2 => k_asm); (case zqk3 => k_asm); (case zqk4 => k_asm); (case zqk5 => k_asm); (case zqk6 => k_is); (case zqk7 => k_is); (case zqk8 => k_room); (case zqkX => exact rfl); (case zqk9 => exact rfl); (case zqkN => decide); (case zqkB => decide); (case zqc5 => decide); (case zqc2 => exact rfl); (case zqc3 => exact rfl); (case zqc4 => exact rfl); k_whole; intro zg' zL' zh' ztk' zFG' zF' zN' zB' zX' zT'; (try k_fold))) | (k_dflt (refine' code_defC ?zqk1 ?zqk2 ?zqk3 ?zqk4 ?zqk5 ?zqkA ?zqkF ?zqkK ?zqk6 ?zqk7 ?zqk8 ?zqk9 ?zqkB ?zqkD ?_ ?zqc2 ?zqc3 ?zqc4; (case zqkA => first | assumption | exact rfl | exact Around.frames_deeper (by assumption) | exact Around.frames_deeper (Around.frames_deeper (by assumption)) | exact Around.frames_deeper (Around.frames_deeper (Around.frames_deeper (by assumption)))); (case zqkF => first | assumption | exact rfl); (case zqkK => first | assumption | exact rfl); (case zqk1 => k_asm); (case zqk2 => k_asm); (case zqk3 => k_asm); (case zqk4 => k_asm); (case zqk5 => k_asm); (case zqk6 => k_is); (case zqk7 => k_is); (case zqk8 => k_room); (case zqk9 => first | exact BindsTo.of_eq rfl | exact binds_K (by k_in) rfl (by k_is) rfl rfl rfl | fail "k_enter: no rule for these arguments"); (case zqkB => exact rfl); (case zqkD => decide +kernel); (case zqc2 => exact rfl); (case zqc3 => exact rfl); (case zqc4 => exact rfl); k_whole; intro zg' zL' zh' ztk' zcells' zFG' zF' zN' zY' zB' zX' zT' zl1; (try k_lt zl1); k_cells zY'; (try simp only [List.cons_append, List.nil_append] at zN'); (try dsimp only); (try k_fold))))
  (k_with "tb_start" => first | k_extra "ar9" | ((try simp only [List.size_toArray, Array.size_push, List.length_append, List.length_cons, List.length_nil, sizeLine_eq] at *); k_extra "ar9"))
  (k_with "tb_rel" => first | exact Apart.nil | with_reducible assumption | exact ap_get (by with_reducible assumption) (by k_extra "sub9") | (refine ap_cons (fun q9 hq9 => ?_) ?_; (first | exact ap_lt (by with_reducible assumption) (by k_mem) | exact ap_off (by with_reducible assumption) (by k_mem) | exact ap_lt2 (by assumption) (by with_reducible assumption) (by k_mem)); tb_rel) | (refine ap_app ?_ ?_ <;> tb_rel))
  (k_with "call type:tuple" => (k_here; (with_reducible show wpAny _ _ (call (Value.type _) [Value.ref _]) _ _ _); k_dflt (refine' kde_tupleOf ?zqk1 ?zqk2 ?zqk3 ?zqk4 ?zqk5 ?_; (case zqk1 => k_asm); (case zqk2 => k_asm); (case zqk3 => exact News.isList (by k_asm) (by k_mem)); (case zqk4 => tb_start); (case zqk5 => exact rfl); k_whole); intro zD' zh' zF' zN' zl1; (try k_lt zl1)))
  (k_with "exec While" => (k_here; refine Halt.out ?_))
  (k_with "exec For" => (k_here; refine Halt.out ?_))
  (k_with "exec Raise" => (k_here; refine Halt.out ?_))
  (k_with "call ref" => (k_here; (with_reducible show wpAny _ _ (call (Value.ref 177) _) _ _ _); refine Halt.out ?_))
  (k_with "call ref" => (k_here; (with_reducible show wpAny _ _ (call (Value.ref 187) _) _ _ _); refine Halt.out ?_))
  (k_with "call builtin:len" => (k_here; (with_reducible show wpAny _ _ (call (Value.builtin "len") [Value.ref _]) _ _ _); k_dflt (refine' my_len ?zqk1 ?zqk2 ?zqk3 ?_; (case zqk1 => k_asm); (case zqk2 => k_mem); (case zqk3 => tb_start); k_whole); intro zt' ztk'; (try dsimp only)))
  (k_with "size_fits" => ((try simp only [lit_0, lit_1, lit_2, lit_3, lit_4, lit_5, lit_6, lit_7, S_app, S_len, Str.length_append, List.length_append, List.length_cons, List.length_nil, PySem.sizeLine_eq, List.size_toArray]); k_extra "ar9"))
  (k_with "eval IfExp" => (k_here; refine Halt.out ?_))
  (k_with "nat_is" => first | exact cast_0 | exact cast_1 | with_reducible assumption | exact rfl | exact cast_add1 rfl | exact cast_add1 (cast_add1 rfl) | exact cast_0)
  (k_with "WTurn ret" => (k_here; refine WTurn.out ?_))
  (k_with "subscriptTail Subscript" => (k_here; (with_reducible show wpAny _ _ (subscriptTail _ (PySem.Expr.Slice none none (some _) _) (Value.ref _) (Value.ref _)) _ _ _); k_dflt (refine' krv_ints ?zqF ?zqN ?zql ?zqk ?zqi ?_ ?zqs ?zqt ?zqz; (case zqF => k_asm); (case zqN => k_asm); (case zql => exact News.isList (by k_asm) (by k_mem)); (case zqk => exact IsPart.int _ _); (case zqi => k_asm); (case zqs => with_unfolding_all rfl); (case zqt => kmk_pure); (case zqz => (rw [List.size_toArray, sizeLine_eq]; k_extra "ar9")); k_whole); intro zD' zws' zh' zF' zN' zl9 zhi' zhl'))
  (k_with "subscriptTail Name Slice ref ref" => (k_here; (with_reducible show wpAny _ _ (subscriptTail _ (PySem.Expr.Slice none (some (Expr.UnaryOp _ _ _)) none _) (Value.ref _) (Value.ref _)) _ _ _); k_dflt (refine' kmk_slice_ints ?zqF ?zqN ?zql ?zqp ?zqq ?zqi ?zqm ?zqc ?_ ?zqs ?zqt ?zqz; (case zqF => k_asm); (case zqN => k_asm); (case zql => exact News.isList (by k_asm) (by k_mem)); (case zqp => kmk_part); (case zqq => kmk_part); (case zqi => k_asm); (case zqm => exact kmk_upto_neg (by k_asm) (by decide)); (case zqc => exact rfl); (case zqs => with_unfolding_all rfl); (case zqt => kmk_pure); (case zqz => (rw [List.size_toArray, sizeLine_eq]; k_extra "ar9")); k_whole); intro zD' zws' zh' zF' zN' zl9 zhi' zhl' zhc'; (have zhw' := IntsAre.length zhi')))
  (k_with "setItem ref int" => (k_here; k_dflt (refine' my_setItem ?zqF ?zqN ?zqk ?zqn ?zqz ?zqU ?_; (case zqF => k_asm); (case zqN => k_asm); (case zqk => k_extra "nat_is"); (case zqU => k_upd); (case zqn => k_extra "ar9"); (case zqz => k_extra "ar9"); k_whole); intro zh' zF' zN'; (try dsimp only [List.nil_append, List.cons_append] at zN')))
  (k_with "unpackItems ref" => (k_here; k_dflt (refine' unpackItemsN_ ?zqk1 ?zqk2 ?zqk3 ?zqk4 ?zqk5 ?_; (case zqk1 => k_asm); (case zqk2 => k_asm); (case zqk3 => kun_tup); (case zqk4 => k_asm); (case zqk5 => exact rfl); k_whole); intro zh' zF' zN'; (try k_sweep)))
  (k_with "assign Tuple" => (k_here; (with_reducible show wpAny _ _ (assign (Expr.Tuple _ _ _) _ (Value.ref _)) _ _ _); k_dflt (refine' unpackN_ ?zqk1 ?zqk2 ?zqk3 ?zqk4 ?zqk5 ?zqk6 ?_; (case zqk1 => k_asm); (case zqk2 => k_asm); (case zqk3 => kun_tup); (case zqk4 => k_asm); (case zqk5 => exact rfl); (case zqk6 => exact rfl); k_whole); intro zh' zF' zN'; (try k_sweep)))
  (k_with "s_is" => first | exact rfl | exact lit_0 | exact lit_1 | exact lit_2 | exact lit_3 | exact lit_4 | exact lit_5 | exact lit_6 | exact lit_7)
  (k_with "k_all" => first | with_reducible assumption | exact off_le (by with_reducible assumption) (by k_extra "ar9") | (refine off_app ?_ ?_ <;> k_all))
  (k_with "my_upd" => first | exact Upd.head (by with_reducible assumption) | exact Upd.tail (by with_reducible assumption) (Upd.head (by with_reducible assumption)))
  (k_with "call builtin:list.append" => (k_here; (with_reducible show wpAny _ _ (call (Value.builtin _) [Value.ref _, _]) _ _ _); k_dflt (refine' my_append ?zqk1 ?zqk2 ?zqk3 ?zqz ?_; (case zqk1 => k_asm); (case zqk2 => k_asm); (case zqk3 => first | k_extra "my_upd" | k_upd); (case zqz => k_extra "ar9"); k_whole); intro zh' zF' zN'))
  (k_with "call builtin:len" => (k_here; (with_reducible show wpAny _ _ (call (Value.builtin "len") [Value.str (S _) _]) _ _ _); k_dflt (refine' my_str_len ?zqk3 ?_; (case zqk3 => k_extra "ar9"); k_whole); intro zt' ztk'; (try dsimp only)))
  (k_with "subscriptTail Name Slice str ref" => (k_here; (with_reducible show wpAny _ _ (subscriptTail _ (Expr.Slice (some _) (some _) none _) (Value.str (S _) _) (Value.ref _)) _ _ _); (with_reducible rename Fr _ _ _ _ => zF'); (with_reducible rename News _ _ _ _ => zN'); (first | refine my_str_sign (s := ⟨_, _, _, _, _⟩) zF' zN' (by k_extra "nat_is") (by first | exact rfl | exact cast_add' rfl) (by k_extra "ar9") ?_ | refine my_str_cut (s := ⟨_, _, _, _, _⟩) zF' zN' (by k_extra "nat_is") (by k_extra "nat_is") (by k_extra "ar9") ?_); intro zh' zt' zk' zF' zN'))
  (k_with "subscriptTail" => (k_here; (with_reducible show wpAny _ _ (subscriptTail _ _ (Value.str (S _) _) (Value.int _ _)) _ _ _); (refine my_str_item (by k_extra "nat_is") (by k_extra "ar9") (by k_extra "ar9") ?_); intro zt' ztk'; (try dsimp only)))
  (k_with "subscriptTail Name Name str int" => (k_here; (with_reducible show wpAny _ _ (subscriptTail _ _ (Value.str (S _) _) (Value.int _ _)) _ _ _); (refine my_str_item (by k_extra "nat_is") (by k_extra "ar9") (by k_extra "ar9") ?_); intro zt' ztk'; (try dsimp only)))
  (k_with "compareOp In str str" => (k_here; (with_reducible show wpAny _ _ (compareOp CmpOp.In (Value.str (S [_]) _) (Value.str _ _)) _ _ _); refine my_in ?_))
  (k_with "compareOp Eq str str" => (k_here; (with_reducible show wpAny _ _ (compareOp CmpOp.Eq (Value.str _ _) (Value.str _ _)) _ _ _); refine my_seq (by k_extra "s_is") (by k_extra "s_is") ?_))
  (k_with "compareOp NotEq str str" => (k_here; (with_reducible show wpAny _ _ (compareOp CmpOp.NotEq (Value.str _ _) (Value.str _ _)) _ _ _); refine my_sne (by k_extra "s_is") (by k_extra "s_is") ?_))
  (k_with "call type:int" => (k_here; (with_reducible show wpAny _ _ (call (Value.type "int") [Value.str (S _) _]) _ _ _); refine Halt.out ?_))
  (k_with "exec If" => (k_here; (rename StopLine _ => zsl9); with_reducible refine stop_if zsl9 ?_))
  (k_with "call ref" => (k_here; (with_reducible show wpAny _ _ (call (Value.ref 182) _) _ _ _); refine Halt.out ?_))
  (k_with "call type:bytes" => (k_here; (with_reducible show wpAny _ _ (call (Value.type "bytes") [Value.ref _]) _ _ _); k_dflt (refine' my_bytes ?zqh ?zqF ?zqN ?zqm ?zqi ?zqr ?zqz ?_; (case zqh => k_asm); (case zqF => k_asm); (case zqN => k_asm); (case zqm => k_mem); (case zqi => k_asm); (case zqr => k_asm); (case zqz => omega); k_whole); intro zh' zt' zk' zF' zN'))
  (k_with "subscriptTail" => (k_here; (with_reducible show wpAny _ _ (subscriptTail _ _ (Value.ref _) (Value.int _ _)) _ _ _); k_dflt (refine' my_item_nat ?zqN ?zqm ?zqk ?zqf ?zqd ?_; (case zqN => k_asm); (case zqm => k_mem); (case zqk => k_extra "nat_is"); (case zqd => with_reducible assumption); (case zqf => k_extra "ar9"))))
  (k_with "subscriptTail Name Constant ref int" => (k_here; (with_reducible show wpAny _ _ (subscriptTail _ _ (Value.ref _) (Value.int _ _)) _ _ _); k_dflt (refine' my_item_nat ?zqN ?zqm ?zqk ?zqf ?zqd ?_; (case zqN => k_asm); (case zqm => k_mem); (case zqk => k_extra "nat_is"); (case zqd => with_reducible assumption); (case zqf => k_extra "ar9"))))
  (k_with "binaryOp Add ref ref" => (k_here; (with_reducible show wpAny _ _ (binaryOp _ (Value.ref _) (Value.ref _)) _ _ _); k_dflt (refine' my_add ?zqF ?zqN ?zqa ?zqb ?zqz ?_; (case zqF => k_asm); (case zqN => k_asm); (case zqa => k_mem); (case zqb => k_mem); (case zqz => k_extra "ar9"); k_whole); intro zD' zh' zF' zN' zl1; (try k_lt zl1)))
  (k_with "compareOp Eq ref ref" => (k_here; (with_reducible show wpAny _ _ (compareOp CmpOp.Eq (Value.ref _) (Value.ref _)) _ _ _); k_dflt (refine' my_nil_eq ?zqk1 ?zqk2 ?zqk3 ?zqk4 ?_; (case zqk1 => k_asm); (case zqk3 => exact List.Mem.head _); (case zqk2 => k_mem); (case zqk4 => (try simp only [units_deeper]); k_extra "ar9"); k_whole); intro zr' zhr'))
  (k_with "compareOp NotEq ref ref" => (k_here; (with_reducible show wpAny _ _ (compareOp CmpOp.NotEq (Value.ref _) (Value.ref _)) _ _ _); k_dflt (refine' my_nil_ne ?zqk1 ?zqk2 ?zqk3 ?zqk4 ?_; (case zqk1 => k_asm); (case zqk3 => exact List.Mem.head _); (case zqk2 => k_mem); (case zqk4 => (try simp only [units_deeper]); k_extra "ar9"); k_whole); intro zr' zhr'))
  (k_with "call type:list" => (k_here; (with_reducible show wpAny _ _ (call (Value.type _) [Value.ref _]) _ _ _); k_dflt (refine' my_list ?zqF ?zqN ?zqb ?zqz ?_; (case zqF => k_asm); (case zqN => k_asm); (case zqb => k_mem); (case zqz => k_extra "ar9"); k_whole); intro zD' zc' zh' zF' zN' zl1; (try k_lt zl1)))
  (k_with "subscriptTail" => (k_here; (with_reducible show wpAny _ _ (subscriptTail _ (PySem.Expr.Slice none none (some _) _) (Value.ref _) (Value.ref _)) _ _ _); k_dflt (refine' my_rev ?zqF ?zqN ?zql ?zqk ?_ ?zqs ?zqt ?zqz; (case zqF => k_asm); (case zqN => k_asm); (case zql => k_mem); (case zqk => exact IsPart.int _ _); (case zqs => with_unfolding_all rfl); (case zqt => kmk_pure); (case zqz => k_extra "ar9"); k_whole); intro zD' zh' zF' zN' zl1; (try k_lt zl1)))
  (k_with "subscriptTail Call" => (k_here; (with_reducible show wpAny _ _ (subscriptTail _ (PySem.Expr.Slice none none (some _) _) (Value.ref _) (Value.ref _)) _ _ _); k_dflt (refine' my_rev ?zqF ?zqN ?zql ?zqk ?_ ?zqs ?zqt ?zqz; (case zqF => k_asm); (case zqN => k_asm); (case zql => k_mem); (case zqk => exact IsPart.int _ _); (case zqs => with_unfolding_all rfl); (case zqt => kmk_pure); (case zqz => k_extra "ar9"); k_whole); intro zD' zh' zF' zN' zl1; (try k_lt zl1)))
  (k_with "subscriptTail Name Slice ref ref" => (k_here; (with_reducible show wpAny _ _ (subscriptTail _ (PySem.Expr.Slice none none (some _) _) (Value.ref _) (Value.ref _)) _ _ _); k_dflt (refine' my_rev ?zqF ?zqN ?zql ?zqk ?_ ?zqs ?zqt ?zqz; (case zqF => k_asm); (case zqN => k_asm); (case zql => k_mem); (case zqk => exact IsPart.int _ _); (case zqs => with_unfolding_all rfl); (case zqt => kmk_pure); (case zqz => k_extra "ar9"); k_whole); intro zD' zh' zF' zN' zl1; (try k_lt zl1)))
  trivial
theorem sign_S {t : List Nat} {i : Nat} {v : Value} (h : SignAt (S t) i v) : ∃ c u, t[i]? = some c ∧ v = .str (S [c]) u := by
  obtain ⟨c, u, h1, rfl⟩ := h
  exact ⟨c, u, by simpa [S] using h1, rfl⟩
theorem rows28 : True := by
  (k_with "eval ListComp" => (k_here; (with_reducible show wpAny _ _ (eval (Expr.ListComp (Expr.Call (Expr.Name (Str.ofString "ord") _) _ _ _) _ _ _) _) _ _ _); refine Halt.out ?_))
  trivial
theorem octets_ct (w : World) (mean : ExcName → Option Value) (mg mb : Str → Option Value) (t : List Nat) (ht : t.length ≤ 400) (hasc : ∀ c ∈ t, c ≤ 127) :
    Fun w mean mg mb 71 8 (fun _ vs => ∃ t1, vs = [.str (S t) t1]) (fun _ v => ∃ tk, v = .bytes (B8 t).toArray tk) := by
  unfold Fun
  k_fill
  intro A A₀ base h₀ outer L m news s env Q E vs B hF X N T hA hf hke hh hdp hu hp hret
  obtain ⟨t1, rfl⟩ := hp
  have hrl : recursionLimit = 1000 := rfl
  refine wpAny_call ?_
  k_enter
  k_steps
  refine Halt.mk ?_
  rename IsRange _ _ _ _ _ _ _ _ => rg
  rename Fr _ _ _ _ => kF
  rename News _ _ _ _ => kN
  refine tbr_invG (fun i m nx => nx = news ∧ Pin m [("text", .str (S t) t1)]) hh rg (small_one (by k_extra "ar9") (by k_extra "ar9") (by k_extra "ar9") (by k_extra "ar9")) (rangeSize_nat _ _) kF kN ⟨rfl, ⟨rfl, trivial⟩⟩ ?_ ?_
  · rintro i k' tk' m₁ nx h₁ tk₁ own hk hoff ⟨rfl, hpin⟩ F₁ N₁
    have F₂ := Fr.pin1 F₁ hpin
    clear F₁ kF kN
    have hk' : k' = ((i : Nat) : Int) ∧ i < t.length := by
      have h1 := (List.getElem?_eq_some_iff.mp hk).1
      rw [rangeKs_length] at h1
      have h2 : (rangeKs 0 (↑t.length - 0 : Int).toNat)[i]? = some ((0 : Int) + (i : Int)) := by
        unfold rangeKs
        rw [List.getElem?_map, List.getElem?_range (by k_extra "ar9")]
        rfl
      rw [h2] at hk
      have := Option.some.inj hk
      k_extra "ar9"
    obtain ⟨rfl, hi⟩ := hk'
    have hc : t.getD i 0 ≤ 127 := by
      rw [List.getD_eq_getElem?_getD, List.getElem?_eq_getElem hi]
      exact hasc _ (List.getElem_mem hi)
    k_steps
    rename Fr _ _ _ _ => kF
    rename News _ _ _ _ => kN
    exact TbEnd.go kF kN ⟨rfl, ⟨rfl, trivial⟩⟩ (fun p hp => List.mem_append_left _ hp) (fun p hp => List.mem_append_right _ hp) hoff
  · rintro m₁ nx h₁ tk₁ ⟨rfl, hpin⟩ F₁ N₁
    have F₂ := Fr.pin F₁ hpin
    clear F₁ kF kN
    k_steps
    refine Halt.mk ?_
    rename Fr _ _ _ _ => kF
    k_dflt (refine ListComp_S kF (by rfl) (by decide) (by rfl) (by decide) (by rfl) ?_)
    k_steps
    rename Fr _ _ _ _ => kF
    rename News _ _ _ _ => kN
    refine StrSrc.mk hh kF kN (by k_extra "ar9") ?_
    intro g2
    dsimp only
    refine rest_inv (fun i ys nw => nw = nx ∧ IntsAre ys ((t.take i).map fun c : Nat => (c : Int))) ⟨rfl, .nil⟩ ?_ ?_
    · rintro i v ys news₁ I oI oC C D m₂ h tk E' hi hv ⟨rfl, hys⟩ hoC hm₂ F₂ N₂ hoff hne
      obtain ⟨c, u, hc, rfl⟩ := sign_S hv
      k_steps
      refine LCg.CompEnd.intro F₂ N₂ _ (fun p hp => hp) hoff trivial ⟨rfl, ?_⟩
      rw [List.take_add_one, hc, List.map_append]
      exact hys.append (.cons _ _ .nil)
    · rintro ys news' ⟨rfl, hys⟩
      rw [List.take_of_length_le (Nat.le_refl _)] at hys
      k_steps
      rename Fr h₀ L _ _ => kF
      rename News h₀ L _ _ => kN
      exact hret _ [] _ _ kF (nget kN fun p hp => .tail _ hp) Apart.nil ⟨_, rfl⟩
section
noncomputable def runs : F → List Int × F
  | .cons m k .nil => (m :: (runs k).1, (runs k).2)
  | f => ([], f)
theorem runs_no {f : F} (h : ¬ f.len = 1) : runs f = ([], f) := by
  cases f with
  | nil => rfl
  | cons m k r =>
    cases r with
    | nil => exact absurd rfl h
    | cons m2 k2 r2 => rfl
abbrev tupO' (l : List Value) (e : Nat) : Obj := { cls := .type "tuple", data := .seq l.toArray e }
noncomputable def ChainPost (w : World) (nd : List (Addr × Obj)) (n : Int) (k : F) (tl : List (Addr × Obj)) (r : Value) : Prop :=
  Ex8 fun a b c us kv e e2 e3 => Al6 (r = .ref a) ((a, tupO' [.ref b, .ref c] e) ∈ tl) ((b, W.listOf us.toArray e2) ∈ tl) (IntsAre us ((if 0 < n then [n] else []) ++ (runs k).1)) ((c, W.listOf kv.toArray e3) ∈ nd) (NIn w nd kv (runs k).2)
theorem rows29 : True := by
  (k_with "subscriptTail Attribute Name Constant ref int" => (k_here; refine Halt.out ?_))
  (k_with "subscriptTail Attribute Name Constant ref int" => (k_here; (with_reducible show wpAny _ _ (subscriptTail _ _ (Value.ref _) (Value.int _ _)) _ _ _); k_dflt (refine' my_item_nat ?zqN ?zqm ?zqk ?zqf ?zqd ?_; (case zqN => k_asm); (case zqm => k_mem); (case zqk => k_extra "nat_is"); (case zqd => with_reducible assumption); (case zqf => k_extra "ar9"))))
  trivial
theorem chain_ct (w : World) (mean : ExcName → Option Value) (mg mb : Str → Option Value) (nd : List (Addr × Obj)) (n : Int) (k : F) (hk : k.size ≤ 400) :
    Fun w mean mg mb 104 8 (fun news vs => ∃ v, Al3 (vs = [v]) ((∀ p ∈ nd, p ∈ news)) (NIn w nd [v] (.cons n k .nil))) (ChainPost w nd n k) := by
  unfold Fun
  k_fill
  intro A A₀ base h₀ outer L m news s env Q E vs B hF X N T hA hf hke hh hdp hu hp hret
  obtain ⟨v, rfl, hnd, hp⟩ := hp
  have hrl : recursionLimit = 1000 := rfl
  cases hp with
  | @cons x dx b n tk t1 t2 e kv vs k r h1 h2 h3 h4 h5 =>
  cases h5
  have g1 := hnd _ h1
  have g2 := hnd _ h2
  have g3 := hnd _ h3
  refine wpAny_call ?_
  k_enter
  k_steps
  refine Halt.mk ?_
  rename Fr _ _ _ _ => kF
  refine cutX kF (fun v news' => Ex3 fun D us e => Al4 (v = .ref D) (news' = (D, W.listOf us.toArray e) :: news) (IntsAre us (if 0 < n then [n] else [])) (∀ p ∈ news, p.1 < D)) ?_ ?_
  · refine IfExp_ ?_
    k_steps
    all_goals
      rename Fr _ _ _ _ => kF'
      rename News _ _ _ _ => kN'
    · refine XDone.intro kF' kN' ⟨_, [_], _, rfl, rfl, ?_, by assumption⟩
      rw [if_pos (by assumption)]
      exact .cons _ _ .nil
    · refine XDone.intro kF' kN' ⟨_, [], _, rfl, rfl, ?_, by assumption⟩
      rw [if_neg (by assumption)]
      exact .nil
  intro _ h7 tk7 _ F7 N7 hJ9
  (try k_fold)
  rcases hJ9 with ⟨D, us, e7, rfl, rfl, hus, hD⟩
  clear kF
  dsimp only
  have hDo : ∀ p ∈ news, p.1 ≠ D := off_lt hD
  have hpl : (if 0 < n then [n] else []).length ≤ 1 := by split <;> simp
  generalize hpre : (if 0 < n then [n] else []) = pre at hus hpl
  k_steps
  refine Halt.mk ?_
  rename Fr _ _ _ _ => kF
  rename News _ _ _ _ => kN
  refine my_while (fun i m nx => Ex6 fun us e v' n' k' acc => Al7 (nx = (D, W.listOf us.toArray e) :: news) (Pin m [("node", v'), ("numbers", .ref D)]) (NIn w nd [v'] (.cons n' k' .nil)) (IntsAre us (pre ++ acc)) (runs k = (acc ++ (runs k').1, (runs k').2)) (i = k'.size) (acc.length + k'.size ≤ k.size))
    (fun m nx => Ex6 fun us e v' n' k' acc => Al5 (nx = (D, W.listOf us.toArray e) :: news) (Pin m [("node", v'), ("numbers", .ref D)]) (NIn w nd [v'] (.cons n' k' .nil)) (IntsAre us (pre ++ acc)) (runs k = (acc, k'))) kF kN ⟨us, e7, _, n, k, [], rfl, ⟨rfl, rfl, trivial⟩, .cons h1 h2 h3 h4 .nil, by rw [List.append_nil]; exact hus, rfl, rfl, by simp⟩ ?_ ?_
  · intro i m₃ nx₃ h₃ tk₃ F₃ N₃ hJ9
    (try k_fold)
    rcases hJ9 with ⟨us, e, v', n', k', acc, rfl, hpin, hp, hus, hruns, rfl, hac⟩
    have F₄ := Fr.pin F₃ hpin
    clear F₃ kF kN
    cases hp with
    | @cons x dx b n tk t1 t2 e kv vs k r q1 q2 q3 q4 q5 =>
    cases q5
    have f1 := hnd _ q1
    have f2 := hnd _ q2
    have f3 := hnd _ q3
    have hkl := q4.len
    have hks := F.len_le k'
    have hul := hus.length
    rw [List.length_append] at hul
    by_cases hl1 : k'.len = 1
    · obtain ⟨m2, k2, rfl⟩ := F.len_one hl1
      cases q4 with
      | @cons x2 dx2 b2 n2 tk2 t12 t22 e2 kv2 vs2 k2' r2 p1 p2 p3 p4 p5 =>
      cases p5
      have f4 := hnd _ p1
      have f5 := hnd _ p2
      have f6 := hnd _ p3
      have hv2 : ([Value.ref x2] : List Value)[0]? = some (Value.ref x2) := rfl
      k_steps
      · rename Fr _ _ _ (fun _ => _) => kF
        rename News _ _ _ (_ :: _) => kN
        refine WTurn.go kF kN (n' := k2.size) (by simp only [F.size]; k_extra "ar9") ⟨us ++ [.int m2 tk2], _, _, m2, k2, acc ++ [m2], rfl, ⟨rfl, rfl, trivial⟩, .cons p1 p2 p3 p4 .nil, ?_, ?_, rfl, ?_⟩
        · rw [← List.append_assoc]
          exact hus.append (.cons _ _ .nil)
        · rw [hruns]
          simp [runs]
        · simp only [F.size] at hac
          rw [List.length_append, List.length_singleton]; k_extra "ar9"
      · rename ¬ (_ = 1) => hc
        exact absurd (by simp) hc
    · k_steps
      · exfalso; k_extra "ar9"
      · rename Fr _ _ _ _ => kF
        rename News _ _ _ _ => kN
        refine WDone.intro kF kN ⟨us, _, _, n', k', acc, rfl, hpin.eq ▸ hpin, .cons q1 q2 q3 q4 .nil, hus, ?_⟩
        rw [hruns, runs_no hl1, List.append_nil]
  · intro m₃ nx₃ h₃ tk₃ F₃ N₃ hJ9
    (try k_fold)
    rcases hJ9 with ⟨us, e, v', n', k', acc, rfl, hpin, hp, hus, hruns⟩
    have F₄ := Fr.pin F₃ hpin
    clear F₃ kF kN
    cases hp with
    | @cons x dx b n tk t1 t2 e kv vs k r q1 q2 q3 q4 q5 =>
    cases q5
    have f1 := hnd _ q1
    have f2 := hnd _ q2
    have f3 := hnd _ q3
    k_steps
    rename Fr h₀ L _ _ => kF
    rename News h₀ L _ _ => kN
    refine hret _ [(_, _), (_, _)] _ _ kF kN ?_ ⟨_, D, b, us, kv, _, _, _, rfl, .head _, .tail _ (.head _), ?_, q3, ?_⟩
    · tb_rel
    · rw [hruns, hpre]; exact hus
    · rw [hruns]; exact q4
/-- what is still to be written -/
noncomputable def rend : List (Option (Int × F)) → List Nat
  | [] => []
  | none :: r => 41 :: rend r
  | some (n, k) :: r => 40 :: (inside n k ++ 41 :: rend r)
noncomputable def wt : List (Option (Int × F)) → Nat
  | [] => 0
  | none :: r => 1 + wt r
  | some (_, k) :: r => 2 + 2 * k.size + wt r
/-- values of the stack, the top first -/
inductive TD (w : World) (nd : List (Addr × Obj)) : List Value → List (Option (Int × F)) → Prop
  | nil : TD w nd [] []
  | none {vs : List Value} {ls : List (Option (Int × F))} : TD w nd vs ls → TD w nd (.none :: vs) (none :: ls)
  | some {v : Value} {n : Int} {k : F} {vs : List Value} {ls : List (Option (Int × F))} : NIn w nd [v] (.cons n k .nil) → (okN n ∨ (n = 0 ∧ 2 ≤ k.len)) → k.ok → TD w nd vs ls → TD w nd (v :: vs) (some (n, k) :: ls)
noncomputable def kids' (f : F) : List (Option (Int × F)) := match f with
  | .nil => []
  | .cons n k r => some (n, k) :: kids' r
theorem TD.push {w : World} {nd : List (Addr × Obj)} {kv : List Value} {f : F} (h : NIn w nd kv f) (hok : f.okT) {vs : List Value} {ls : List (Option (Int × F))} (k : TD w nd vs ls) : TD w nd (kv ++ vs) (kids' f ++ ls) := by
  induction h with
  | nil => exact k
  | cons h1 h2 h3 h4 h5 _ i => exact .some (.cons h1 h2 h3 h4 .nil) hok.1 hok.2.1 (i hok.2.2)
theorem rend_kids : ∀ (f : F) (r : List (Option (Int × F))), rend (kids' f ++ r) = lists f ++ rend r
  | .nil, r => by rw [lists]; rfl
  | .cons n k g, r => by
    rw [lists, kids', List.cons_append, rend, rend_kids g r]
    simp
theorem wt_kids : ∀ (f : F) (r : List (Option (Int × F))), wt (kids' f ++ r) = 2 * f.size + wt r
  | .nil, r => by simp [kids', F.size]
  | .cons n k g, r => by
    rw [kids', List.cons_append, wt, wt_kids g r]
    simp only [F.size]; k_extra "ar9"
theorem runs_ok : ∀ {k : F}, k.ok → (∀ x ∈ (runs k).1, okN x) ∧ (runs k).2.ok ∧ (runs k).2.size ≤ k.size ∧ (runs k).1.length + (runs k).2.size ≤ k.size
  | .nil, _ => by simp [runs, F.ok, F.size]
  | .cons m k .nil, h => by
    have := runs_ok h.2.1
    simp only [runs, F.size, List.length_cons]
    refine ⟨fun x hx => ?_, this.2.1, by k_extra "ar9", by k_extra "ar9"⟩
    rcases List.mem_cons.mp hx with rfl | hx
    · exact h.1
    · exact this.1 x hx
  | .cons m k (.cons m2 k2 r), h => by simp only [runs]; exact ⟨fun x hx => (nomatch hx), h, Nat.le_refl _, by simp⟩
theorem glue_cons (sep x : List Nat) {r : List (List Nat)} (h : r ≠ []) : glue sep (x :: r) = x ++ (sep ++ glue sep r) := by
  cases r with
  | nil => exact absurd rfl h
  | cons y r => rfl
theorem inside_runs : ∀ (n : Int) (k : F), 0 < n → k.ok → inside n k = glue [32] ((n :: (runs k).1).map digs) ++ ((if (runs k).2.len = 0 then [] else [32]) ++ lists (runs k).2)
  | n, .nil, _, _ => by simp [runs, inside, lists, glue, F.len]
  | n, .cons m k .nil, h, hok => by
    rw [inside, inside_runs m k hok.1.1 hok.2.1]
    simp only [runs, List.map_cons]
    rw [glue_cons [32] (digs n) (by simp)]
    simp
    rfl
  | n, .cons m k (.cons m2 k2 r), h, _ => by
    rw [inside, if_pos h]
    simp [runs, glue, lists, F.len]
theorem inside_all {n : Int} {k : F} (h : okN n ∨ (n = 0 ∧ 2 ≤ k.len)) (hok : k.ok) {ns : List Int} (hns : ns = (if 0 < n then [n] else []) ++ (runs k).1) :
    inside n k = glue [32] (ns.map digs) ++ ((if ns ≠ [] ∧ (runs k).2.len ≠ 0 then [32] else []) ++ lists (runs k).2) := by
  rcases h with h | ⟨rfl, h⟩
  · have e : ns = n :: (runs k).1 := by rw [hns, if_pos h.1]; rfl
    rw [inside_runs n k h.1 hok, e]
    by_cases h0 : (runs k).2.len = 0 <;> simp [h0]
  · have e0 : runs k = ([], k) := runs_no (by k_extra "ar9")
    have e : ns = [] := by rw [hns, e0]; simp
    rw [e, e0]
    cases k with
    | nil => simp [F.len] at h
    | cons m k r =>
      cases r with
      | nil => simp [F.len] at h
      | cons m2 k2 r => simp [inside, digs, glue, lists]
theorem rows30 : True := by
  (k_with "call ref" => (k_here; (with_reducible show wpAny _ _ (call (Value.ref 104) _) _ _ _); refine Halt.out ?_))
  (k_with "call ref" => (k_here; (with_reducible show wpAny _ _ (call (Value.ref 71) _) _ _ _); refine Halt.out ?_))
  (k_with "call builtin:list.pop" => (k_here; (with_reducible show wpAny _ _ (call (Value.builtin _) [Value.ref _]) _ _ _); k_dflt (refine' my_pop ?zqF ?zqN ?zqU ?zqz ?_; (case zqF => k_asm); (case zqN => k_asm); (case zqU => k_upd); (case zqz => k_extra "ar9"); k_whole); intro zh' zF' zN'))
  (k_with "call builtin:list.extend" => (k_here; (with_reducible show wpAny _ _ (call (Value.builtin _) [Value.ref _, Value.ref _]) _ _ _); k_dflt (refine' my_extend0 ?zqF ?zqN ?zqb ?zqU ?zqz ?_; (case zqF => k_asm); (case zqN => k_asm); (case zqb => exact List.Mem.head _); (case zqU => k_upd); (case zqz => (simp only [List.length_append, List.length_singleton]; k_extra "ar9")); k_whole); intro zh' zF' zN'))
  (k_with "call builtin:list.extend" => (k_here; (with_reducible show wpAny _ _ (call (Value.builtin _) [Value.ref _, Value.ref _]) _ _ _); k_dflt (refine' my_extend ?zqF ?zqN ?zqb ?zqr ?zqU ?zqz ?_; (case zqF => k_asm); (case zqN => k_asm); (case zqb => exact List.Mem.head _); (case zqr => with_reducible assumption); (case zqU => k_upd); (case zqz => (simp only [List.length_append, List.length_singleton, List.length_reverse]; k_extra "ar9")); k_whole); intro zh' zF' zN'))
  trivial
theorem WTurn.goC {h₀ : Heap} {L : Addr} {s : Shared} {J : Nat → (Str → Option Value) → List (Addr × Obj) → Prop} {D : (Str → Option Value) → List (Addr × Obj) → Prop} {Q : Flow → Shared → Prop} {n n' : Nat} {h' : Heap} {tk : Nat} {m' : Str → Option Value} {news' : List (Addr × Obj)}
    (F : Fr h₀ L h' m') (N : News h₀ L h' news') (hn : n' < n) (j : J n' m' news') : WTurn h₀ L J D Q s n .cont { s with heap := h', toks := tk } := ⟨_, _, _, _, _, rfl, F, N, hn, j⟩
theorem NIn.push' {w : World} {nd : List (Addr × Obj)} {kv : List Value} {f : F} (h : NIn w nd kv f) (hok : f.okT) : TD w nd kv (kids' f ++ []) := by
  have := TD.push h hok (.nil (w := w) (nd := nd))
  rw [List.append_nil] at this
  exact this
theorem sum_le {ls : List (List Nat)} {b : Nat} (h : ∀ x ∈ ls, x.length ≤ b) : (ls.map List.length).sum ≤ ls.length * b := by
  induction ls with
  | nil => simp
  | cons a r ih =>
    have h1 := h a (.head _)
    have h2 := ih fun x hx => h x (.tail _ hx)
    simp only [List.map_cons, List.sum_cons, List.length_cons, Nat.add_mul, Nat.one_mul]
    k_extra "ar9"
theorem TD.len_le {w : World} {nd : List (Addr × Obj)} {vs : List Value} {ls : List (Option (Int × F))} (h : TD w nd vs ls) : vs.length ≤ wt ls := by
  induction h with
  | nil => exact Nat.le_refl _
  | none _ i => simp only [List.length_cons, wt]; k_extra "ar9"
  | some _ _ _ _ i => simp only [List.length_cons, wt]; k_extra "ar9"
theorem nrot_show {h₀ : Heap} {L : Addr} {h : Heap} {D t c fa : Addr × Obj} {news : List (Addr × Obj)} (N : News h₀ L h (D :: t :: c :: fa :: news)) : News h₀ L h (fa :: t :: news) := by
  exact nget N (by k_extra "sub9")
theorem show_b {a k x : Nat} (h : a + 2 * (2 + 2 * k + x) ≤ 60) : a ≤ 60 ∧ k ≤ 14 ∧ 2 + 2 * k + x ≤ 30 := by refine ⟨?_, ?_, ?_⟩ <;> lia
theorem show_v {v m : Nat} (h : v + 1 + 0 ≤ m) (k : m ≤ 30) : v + 1 ≤ 30 := Nat.le_trans h k
theorem show_pre {n : Int} {r k x : Nat} (h : r + x ≤ k) (hk : k ≤ 14) : (if 0 < n then [n] else []).length + r ≤ 40 :=
  Nat.le_trans (Nat.add_le_add (show _ ≤ 1 by split <;> simp) (Nat.le_trans (Nat.le_add_right r x) (Nat.le_trans h hk))) (by decide)
theorem show_ct (w : World) (mean : ExcName → Option Value) (mg mb : Str → Option Value) (nd : List (Addr × Obj)) (f : F) (hsz : f.size ≤ 12) (hok : f.okT) (hll : (lists f).length ≤ 400) (hasc : ∀ c ∈ lists f, c ≤ 127) :
    Fun w mean mg mb 109 12 (fun news vs => Ex3 fun a xs e => Al4 (vs = [.ref a]) ((∀ p ∈ nd, p ∈ news)) ((a, W.listOf xs.toArray e) ∈ news) (NIn w nd xs f)) (fun _ v => ∃ tk, v = .bytes (B8 (lists f)).toArray tk) := by
  unfold Fun
  k_fill
  intro A A₀ base h₀ outer L m news s env Q E vs B hF X N T hA hf hke hh hdp hu hp hret
  obtain ⟨a, xs, e, rfl, hnd, ha, hp⟩ := hp
  have hrl : recursionLimit = 1000 := rfl
  have hlen := hp.len
  have hle := F.len_le f
  refine wpAny_call ?_
  k_enter
  k_steps
  refine Halt.mk ?_
  rename Fr _ _ _ _ => kF
  rename News _ _ _ _ => kN
  refine my_while (n₀ := wt (kids' f ++ [])) (fun i m nx => Ex8 fun (fa ta : Addr) (fv tvs : List Value) (ls : List (List Nat)) (stk : List (Option (Int × F))) (e1 e2 : Nat) => Al11 (nx = (fa, W.listOf fv.toArray e1) :: (ta, W.listOf tvs.reverse.toArray e2) :: news) (SAre fv ls) (TD w nd tvs stk) (ls.flatten ++ rend stk = lists f) (i = wt stk) (Pin m [("found", .ref fa), ("todo", .ref ta)]) ((∀ p ∈ news, p.1 ≠ fa)) ((∀ p ∈ news, p.1 ≠ ta)) (@Ne Nat fa ta) (fv.length + 2 * wt stk ≤ 60) (tvs.length + 0 ≤ wt stk))
    (fun m nx => Ex7 fun (fa ta : Addr) (fv tvs : List Value) (ls : List (List Nat)) (e1 e2 : Nat) => Al5 (nx = (fa, W.listOf fv.toArray e1) :: (ta, W.listOf tvs.reverse.toArray e2) :: news) (SAre fv ls) (ls.flatten = lists f) (Pin m [("found", .ref fa), ("todo", .ref ta)]) (fv.length ≤ 60)) kF (nrot_show kN) ?start ?turn ?done
  case start =>
    refine ⟨_, _, [], xs, [], kids' f ++ [], _, _, rfl, .nil, by simpa using hp.push' hok, by rw [rend_kids]; simp [rend], rfl, ⟨rfl, rfl, trivial⟩, ?_, ?_, ?_, ?_, ?_⟩
    · exact off_lt (by assumption)
    · exact fun p hp => Nat.ne_of_lt (by rename (∀ p ∈ (_, W.listOf xs.toArray _) :: _, p.1 < _) => lt; exact lt p (.tail _ (.tail _ hp)))
    · k_extra "ar9"
    · rw [wt_kids]; simp [wt]; k_extra "ar9"
    · rw [wt_kids]; k_extra "ar9"
  case turn =>
    intro i m₃ nx₃ h₃ tk₃ F₃ N₃ hJ9
    (try k_fold)
    rcases hJ9 with ⟨fa, ta, fv, tvs, ls, stk, e1, e2, rfl, hfv, htd, hren, rfl, hpin, o1, o2, n1, hb1, hb2⟩
    have F₄ := Fr.pin F₃ hpin
    clear F₃ kF kN
    cases htd with
    | nil =>
      k_steps
      · rename _ = true => hr
        rename (_ ↔ _) => hi
        exact absurd rfl (hi.mp hr)
      · rename Fr _ _ _ _ => kF
        rename News _ _ _ _ => kN
        refine WDone.intro kF (nget_tail kN) ⟨fa, ta, fv, [], ls, _, _, rfl, hfv, by simpa [rend] using hren, hpin.eq ▸ hpin, by k_extra "ar9"⟩
    | @none vs ls' htd =>
      rw [List.reverse_cons] at N₃
      simp only [wt, List.length_cons] at hb1 hb2
      have hvr : vs.reverse.length = vs.length := List.length_reverse
      k_steps
      · rename Fr _ _ _ (fun _ => _) => kF
        rename News _ _ _ (_ :: _) => kN
        refine WTurn.goC kF (nget_tail kN) (n' := wt ls') (by simp only [wt]; k_extra "ar9") ⟨fa, ta, fv ++ [_], vs, ls ++ [[41]], ls', _, _, rfl, ?_, htd, ?_, rfl, ⟨rfl, rfl, trivial⟩, o1, o2, n1, ?_, by k_extra "ar9"⟩
        · rw [lit_3]
          exact hfv.app (.cons .nil)
        · rw [← hren]; simp [rend]
        · rw [List.length_append, List.length_singleton]; k_extra "ar9"
      · rename _ = false => hr
        rename (_ ↔ _) => hi
        rw [hi.mpr (by simp)] at hr
        cases hr
    | @some v n k vs ls' hv hn hk htd =>
      rw [List.reverse_cons] at N₃
      simp only [wt, List.length_cons] at hb1 hb2
      have hvr : vs.reverse.length = vs.length := List.length_reverse
      have hbb := show_b hb1
      have hvv := show_v hb2 hbb.2.2
      have hvr1 : vs.reverse.length + 1 ≤ 4000000 := by rw [hvr]; exact Nat.le_trans hvv (by decide)
      have hvr0 : vs.reverse.length ≤ 4000000 := Nat.le_trans (Nat.le_succ _) hvr1
      cases hv with
      | @cons x dx b n tk t1 t2 e kv vs0 k r q1 q2 q3 q4 q5 =>
      cases q5
      k_steps
      · refine Halt.mk ?_
        rename Fr _ _ _ _ => kF
        rename News _ _ _ _ => kN
        refine Fun.use (chain_ct w mean mg mb nd n k (by k_extra "ar9")) (by k_asm) kF (by k_asm) kN (by k_asm) (Around.frames_deeper hA) rfl rfl hh ?_ ?_ ⟨_, rfl, ?_, .cons q1 q2 q3 q4 .nil⟩ ?_
        · simp only [depth_deeper]; k_extra "ar9"
        · simp only [units_deeper]; k_extra "ar9"
        · exact fun p hp => .tail _ (.tail _ (.tail _ (hnd p hp)))
        intro r tl' h' tk' F₅ N₅ hap' hJ9
        (try k_fold)
        rcases hJ9 with ⟨a', b', c', us, kv', e5, e6, e7, rfl, ha', hb', hus, hc', hkv'⟩
        have hc'' := hnd _ hc'
        have N₆ := nget (l' := (fa, W.listOf fv.toArray e1) :: (ta, W.listOf vs.reverse.toArray (e2 + 1)) :: (tl' ++ news)) N₅ (by
          k_extra "sub9")
        have o1' : ∀ p ∈ tl' ++ news, p.1 ≠ fa := off_app (off_ap hap' (.tail _ (.head _))) o1
        have o2' : ∀ p ∈ tl' ++ news, p.1 ≠ ta := off_app (off_ap hap' (.tail _ (.tail _ (.head _)))) o2
        clear N₅ kN
        have hok2 := runs_ok hk
        have hns : ∀ x ∈ (if 0 < n then [n] else []) ++ (runs k).1, okN x := by
          intro x hx
          rcases List.mem_append.mp hx with hx | hx
          · split at hx
            · rename_i h0
              rw [List.mem_singleton.mp hx]
              rcases hn with h | ⟨h, _⟩
              · exact h
              · k_extra "ar9"
            · cases hx
          · exact hok2.1 x hx
        have hin := inside_all hn hk rfl
        have hul := hus.length
        have hnl : ((if 0 < n then [n] else []) ++ (runs k).1).length ≤ 40 := by
          have : (if 0 < n then [n] else []).length ≤ 1 := by split <;> simp
          rw [List.length_append]; exact show_pre hok2.2.2.2 hbb.2.1
        generalize hnse : (if 0 < n then [n] else []) ++ (runs k).1 = ns at hus hns hin hul hnl
        k_steps
        refine LCg.CompSrc.ledger hh (by k_asm) (by k_asm) (.tail _ (.tail _ (List.mem_append_left _ hb'))) (by rw [List.size_toArray, sizeLine_eq]; k_extra "ar9") ?_
        intro g2
        dsimp only
        refine rest_inv (fun i ys nw => nw = (fa, W.listOf fv.toArray e1) :: (ta, W.listOf vs.reverse.toArray (e2 + 1)) :: (tl' ++ news) ∧ SAre ys ((ns.take i).map digs)) ⟨rfl, .nil⟩ ?_ ?_
        · intro i v ys news₁ I oI oC C D m₂ h tk E' hi hv hJ9 hoC hm₂ F₂ N₂ hoff hne
          (try k_fold)
          rcases hJ9 with ⟨rfl, hys⟩
          have hi' : i < ns.length := by rw [List.size_toArray] at hi; k_extra "ar9"
          obtain ⟨tv, hv2⟩ := hus.get i ns[i] (List.getElem?_eq_getElem hi')
          have hv3 : us[i]? = some v := by simpa using hv
          rw [hv2] at hv3
          obtain rfl := Option.some.inj hv3
          have hni := hns _ (List.getElem_mem hi')
          k_steps
          refine my_str_int hni.1 hni.2 fun t9 tk9 => ?_
          refine LCg.CompEnd.intro F₂ N₂ _ (fun p hp => hp) hoff (Or.inr ⟨_, .tail _ (.tail _ (List.mem_append_left _ hb')), rfl, _, rfl⟩) ⟨rfl, ?_⟩
          rw [List.take_add_one, List.getElem?_eq_getElem hi', List.map_append]
          exact hys.app (.cons .nil)
        · intro ys news' hJ9
          (try k_fold)
          rcases hJ9 with ⟨rfl, hys⟩
          rw [List.take_of_length_le (by rw [List.size_toArray]; k_extra "ar9")] at hys
          have hdl : ∀ x ∈ ns.map digs, x.length ≤ 20 := by
            intro x hx
            obtain ⟨y, hy, rfl⟩ := List.mem_map.mp hx
            exact digs_len (hns y hy).2
          have hsum := sum_le hdl
          have hjl := join_len [32] (ns.map digs)
          simp only [List.length_map, List.length_singleton] at hsum hjl
          have sl : StopLine 57 := ⟨⟩
          k_steps
          refine my_join (by k_asm) (.head _) lit_1 hys (by simp only [List.length_map, List.length_singleton]; k_extra "ar9") ?_
          intro t9 tk9
          k_steps
          rename StopLine _ => sl
          clear sl
          refine Halt.mk ?_
          rename Fr _ _ _ _ => kF
          refine my_join_at kF (fun m nx => Ex2 fun fv' e1 => Al3 (nx = (fa, W.listOf fv'.toArray e1) :: (ta, W.listOf vs.reverse.toArray (e2 + 1)) :: (tl' ++ news)) (SAre fv' (ls ++ ([40 :: glue [32] (ns.map digs)] ++ (if ns ≠ [] ∧ (runs k).2.len ≠ 0 then [[32]] else [])))) (Pin m [("found", .ref fa), ("todo", .ref ta), ("kids", .ref c')])) ?_ ?_
          · have hx : Str.ofString "(" ++ S (glue [32] (ns.map digs)) = S (40 :: glue [32] (ns.map digs)) := by rw [lit_2, S_app]; rfl
            have hu0 : us = [] ↔ ns = [] := by
              constructor
              · intro h; rw [h] at hul; exact List.length_eq_zero_iff.mp (by simpa using hul.symm)
              · intro h; rw [h] at hul; exact List.length_eq_zero_iff.mp (by simpa using hul)
            have hk0 : kv' = [] ↔ (runs k).2.len = 0 := by
              rw [← hkv'.len]; exact List.length_eq_zero_iff.symm
            k_steps
            · rename Fr _ _ _ (fun _ => _) => kF
              rename News _ _ _ (_ :: _ :: _ :: _) => kN
              refine WDone.intro kF (nget_tail (nget_tail (nget_tail kN))) ⟨_, _, rfl, ?_, ⟨rfl, rfl, rfl, trivial⟩⟩
              rename (_ ↔ us ≠ []) => hi1
              rename (_ ↔ kv' ≠ []) => hi2
              have hc9 : ns ≠ [] ∧ (runs k).2.len ≠ 0 := ⟨fun h => hi1.mp (by assumption) (hu0.mpr h), fun h => hi2.mp (by assumption) (hk0.mpr h)⟩
              have e0 : ls ++ [40 :: glue [32] (ns.map digs), [32]] = ls ++ [40 :: glue [32] (ns.map digs)] ++ [[32]] := by simp
              rw [hx, lit_1, if_pos hc9, List.concat_eq_append]
              show SAre _ (ls ++ [40 :: glue [32] (ns.map digs), [32]])
              rw [e0]
              exact (hfv.app (.cons .nil)).app (.cons .nil)
            · rename Fr _ _ _ (fun _ => _) => kF
              rename News _ _ _ (_ :: _ :: _ :: _) => kN
              rename _ = false => hr
              rename (_ ↔ kv' ≠ []) => hi
              refine WDone.intro kF (nget_tail (nget_tail (nget_tail kN))) ⟨_, _, rfl, ?_, ⟨rfl, rfl, rfl, trivial⟩⟩
              rw [hx, if_neg (fun h => ?_)]
              · exact hfv.app (.cons .nil)
              · rw [hi.mpr (fun e => h.2 (hk0.mp e))] at hr; cases hr
            · rename Fr _ _ _ (fun _ => _) => kF
              rename News _ _ _ (_ :: _ :: _) => kN
              rename _ = false => hr
              rename (_ ↔ us ≠ []) => hi
              refine WDone.intro kF (nget_tail (nget_tail kN)) ⟨_, _, rfl, ?_, ⟨rfl, rfl, rfl, trivial⟩⟩
              rw [hx, if_neg (fun h => ?_)]
              · exact hfv.app (.cons .nil)
              · rw [hi.mpr (fun e => h.1 (hu0.mp e))] at hr; cases hr
          intro m₇ nx₇ h₇ tk₇ F₇ N₇ hJ9
          (try k_fold)
          rcases hJ9 with ⟨fv', e1', rfl, hfv', hpin7⟩
          have F₈ := Fr.pin F₇ hpin7
          clear F₇ kF
          have hkl' := hkv'.len
          have hfl' := hfv'.len
          have hfl0 := hfv.len
          have hs2 := F.len_le (runs k).2
          have hkv14 : kv'.length ≤ 14 := by rw [hkl']; exact Nat.le_trans hs2 (Nat.le_trans hok2.2.2.1 hbb.2.1)
          have hkv60 : kv'.length ≤ 4000000 := Nat.le_trans hkv14 (by decide)
          have hvk : vs.length + 1 + kv'.length ≤ 4000000 := Nat.le_trans (Nat.add_le_add hvv hkv14) (by decide)
          have hfin : ∀ (tvs' : List Value), tvs' = kv' ++ .none :: vs → (∃ stk, TD w nd tvs' stk ∧ (ls ++ ([40 :: glue [32] (ns.map digs)] ++ (if ns ≠ [] ∧ (runs k).2.len ≠ 0 then [[32]] else []))).flatten ++ rend stk = lists f ∧ wt stk < 2 + 2 * k.size + wt ls' ∧ fv'.length + 2 * wt stk ≤ 60 ∧ tvs'.length + 0 ≤ wt stk) := by
            rintro _ rfl
            refine ⟨kids' (runs k).2 ++ none :: ls', TD.push hkv' (F.ok.top hok2.2.1) (.none htd), ?_, ?_, ?_, ?_⟩
            · rw [← hren, rend_kids, rend, rend, hin]
              by_cases hc : ns ≠ [] ∧ (runs k).2.len ≠ 0
              · rw [if_pos hc, if_pos hc]; simp
              · rw [if_neg hc, if_neg hc]; simp
            · rw [wt_kids, wt]
              have := hok2.2.2.1
              k_extra "ar9"
            · have hh2 := hok2.2.2.1
              have : fv'.length ≤ fv.length + 2 := by
                rw [hfl', List.length_append, List.length_append, hfl0]
                have : (if ns ≠ [] ∧ (runs k).2.len ≠ 0 then [[32]] else []).length ≤ 1 := by split <;> simp
                simp only [List.length_singleton]; k_extra "ar9"
              rw [wt_kids, wt]
              k_extra "ar9"
            · rw [wt_kids, wt, List.length_append, List.length_cons, hkl']
              have := htd.len_le
              k_extra "ar9"
          by_cases hk0 : kv' = []
          · subst hk0
            obtain ⟨stk', f1, f2, f3, f4, f5⟩ := hfin (.none :: vs) rfl
            k_steps
            rename Fr _ _ _ _ => kF
            rename News _ _ _ (_ :: _) => kN
            refine WTurn.go kF (nget (l' := (fa, W.listOf fv'.toArray e1') :: (ta, W.listOf (vs.reverse ++ [Value.none]).toArray (e2 + 1 + 1)) :: news) (nget_tail kN) ?_) (n' := wt stk') (by simp only [wt]; k_extra "ar9") ⟨fa, ta, fv', .none :: vs, _, stk', e1', _, by rw [List.reverse_cons], hfv', f1, f2, rfl, ⟨rfl, rfl, trivial⟩, o1, o2, n1, f4, f5⟩
            k_extra "sub9"
          · have hk1 : kv'.reverse ≠ [] := fun e => hk0 (List.reverse_eq_nil_iff.mp e)
            obtain ⟨stk', f1, f2, f3, f4, f5⟩ := hfin (kv' ++ .none :: vs) rfl
            k_steps
            rename Fr _ _ _ _ => kF
            rename News _ _ _ (_ :: _) => kN
            refine WTurn.go kF (nget (l' := (fa, W.listOf fv'.toArray e1') :: (ta, W.listOf (vs.reverse ++ [Value.none] ++ kv'.reverse).toArray (e2 + 1 + 1 + 1)) :: news) (nget_tail kN) ?_) (n' := wt stk') (by simp only [wt]; k_extra "ar9") ⟨fa, ta, fv', kv' ++ .none :: vs, _, stk', e1', _, by rw [List.reverse_append, List.reverse_cons], hfv', f1, f2, rfl, ⟨rfl, rfl, trivial⟩, o1, o2, n1, f4, f5⟩
            k_extra "sub9"
      · rename _ = false => hr
        rename (_ ↔ _) => hi
        rw [hi.mpr (by simp)] at hr
        cases hr
  case done =>
    intro m₃ nx₃ h₃ tk₃ F₃ N₃ hJ9
    (try k_fold)
    rcases hJ9 with ⟨fa, ta, fv, tvs, ls, e1, e2, rfl, hfv, hren, hpin, hb⟩
    have F₄ := Fr.pin F₃ hpin
    clear F₃ kF kN
    have hfl := hfv.len
    have hsum : (ls.map List.length).sum = (lists f).length := by rw [← hren, List.length_flatten]
    k_steps
    refine my_join (by k_asm) (by k_mem) lit_0 hfv ?_ ?_
    · rw [List.length_nil]; k_extra "ar9"
    intro t9 tk9
    rw [glue_nil, hren]
    k_steps
    refine Halt.mk ?_
    rename Fr _ _ _ _ => kF
    rename News _ _ _ _ => kN
    refine Fun.use (octets_ct w mean mg mb (lists f) hll hasc) (by k_asm) kF (by k_asm) kN (by k_asm) (Around.frames_deeper hA) rfl rfl hh ?_ ?_ ⟨_, rfl⟩ ?_
    · simp only [depth_deeper]; k_extra "ar9"
    · simp only [units_deeper]; k_extra "ar9"
    intro r tl' h' tk' F₅ N₅ hap' hJ9
    (try k_fold)
    rcases hJ9 with ⟨tk, rfl⟩
    k_steps
    rename Fr h₀ L _ _ => kF
    rename News h₀ L _ _ => kN
    exact hret _ [] _ _ kF (nget kN fun p hp => List.mem_append_right _ (.tail _ (.tail _ hp))) Apart.nil ⟨_, rfl⟩
end
theorem rows31 : True := by
  k_with_none
  (k_with "conj9" => first | with_reducible assumption | exact And.left (by with_reducible assumption) | exact And.left (And.right (by with_reducible assumption)) | exact And.left (And.right (And.right (by with_reducible assumption))) | exact And.left (And.right (And.right (And.right (by with_reducible assumption)))) | exact And.left (And.right (And.right (And.right (And.right (by with_reducible assumption))))) | exact And.left (And.right (And.right (And.right (And.right (And.right (by with_reducible assumption)))))) | exact And.left (And.right (And.right (And.right (And.right (And.right (And.right (by with_reducible assumption))))))) | exact And.left (And.right (And.right (And.right (And.right (And.right (And.right (And.right (by with_reducible assumption)))))))) | exact And.left (And.right (And.right (And.right (And.right (And.right (And.right (And.right (And.right (by with_reducible assumption))))))))) | exact And.left (And.right (And.right (And.right (And.right (And.right (And.right (And.right (And.right (And.right (by with_reducible assumption)))))))))))
  (k_with "lt9" => first | k_extra "conj9" | exact Nat.lt_succ_self _ | (refine Nat.lt_trans ?_ (by with_reducible assumption); k_extra "conj9"))
  (k_with "k_ne" => (refine neN ?_; (try dsimp only); (fail_if_success refine ne_twice (by with_reducible rfl) ?_); first | k_extra "conj9" | exact Ne.symm (by k_extra "conj9") | exact Nat.ne_of_lt (by k_extra "lt9") | exact Nat.ne_of_gt (by k_extra "lt9") | omega))
  (k_with "ar9" => first | with_reducible assumption | ((with_reducible show @LT.lt Nat _ _ _); first | exact Nat.lt_of_lt_of_le (by with_reducible assumption) (by decide) | exact Nat.lt_of_le_of_lt (by with_reducible assumption) (by decide) | exact ar_lt1 (by with_reducible assumption) (by decide) | exact ar_lt2 (by with_reducible assumption) (by decide) | exact ar_lt3 (by with_reducible assumption) (by decide) | exact ar_lt0 (by with_reducible assumption) | exact Nat.lt_of_succ_lt (by with_reducible assumption) | exact Nat.sub_lt_sub_left (by with_reducible assumption) (Nat.lt_succ_self _) | exact Nat.sub_lt_sub_left (by with_reducible assumption) (by with_reducible assumption) | exact mm_ne (by with_reducible assumption) (by with_reducible assumption) | exact mm_s (by with_reducible assumption) (by with_reducible assumption) (by with_reducible assumption) | k_extra "conj9") | ((with_reducible show @LE.le Nat _ _ _); first | exact Nat.le_trans (by with_reducible assumption) (by decide) | exact Nat.le_of_lt (by with_reducible assumption) | exact And.left (by with_reducible assumption) | exact And.left (And.right (by with_reducible assumption)) | exact Nat.le_of_lt (by k_extra "conj9")) | ((with_reducible show @Ne _ _ _); first | k_extra "conj9" | exact Ne.symm (by k_extra "conj9") | exact Nat.ne_of_lt (by k_extra "lt9") | exact Nat.ne_of_gt (by k_extra "lt9")) | ((with_reducible show @LT.lt Int _ _ _); first | with_reducible exact Int.ofNat_lt.mpr (by assumption)) | lia | omega)
  (k_with "k_mem" => first | with_reducible assumption | assumption | (refine' List.mem_append_left _ ?_; k_mem) | (refine' List.mem_append_right _ ?_; k_mem))
  (k_with "sub9" => first | exact fun _ h => h | exact sub_nil | (refine sub_cons ?_ ?_; (focus k_mem); k_extra "sub9") | (refine sub_app ?_ ?_; (focus k_extra "sub9"); k_extra "sub9") | (intro zp9 zhp9; k_mem))
  (k_with "subscriptTail" => (k_here; (with_reducible show wpAny _ _ (subscriptTail _ _ (Value.ref _) (Value.int _ _)) _ _ _); k_dflt (refine' my_item ?zqN ?zqm ?zqa ?zqb ?zqd ?_; (case zqN => k_asm); (case zqm => k_mem); (case zqa => decide); (case zqb => decide); (case zqd => rfl))))
  (k_with "eval ListComp" => (k_here; lcg_look; k_dflt (refine LCg.ListComp_U (F₀ := by k_asm) (by rfl) (by decide) (by rfl) (by decide) (by rfl) ?_)))
  (k_with "k_room" => first | ((try simp only [depth_under_make, depth_under_kw, depth_in1, depth_deeper]); k_extra "ar9") | ((try simp only [depth_under_make, depth_under_kw, depth_in1, depth_deeper] at *); k_extra "ar9"))
  (k_with "k_enter" => first | (k_dflt (refine' enter_pos ?zqk1 ?zqk2 ?zqk3 ?zqk4 ?zqk5 ?zqkA ?zqkF ?zqkK ?zqk6 ?zqk7 ?zqk8 ?zqkX ?zqk9 ?zqkN ?zqkB ?_ ?zqc2 ?zqc3 ?zqc4 ?zqc5; (case zqkA => first | assumption | exact rfl | exact Around.frames_deeper (by assumption) | exact Around.frames_deeper (Around.frames_deeper (by assumption)) | exact Around.frames_deeper (Around.frames_deeper (Around.frames_deeper (by assumption)))); (case zqkF => first | assumption | exact rfl); (case zqkK => first | assumption | exact rfl); (case zqk1 => k_asm); (case zqk2 => k_asm); (case zqk3 => k_asm); (case zqk4 => k_asm); (case zqk5 => k_asm); (case zqk6 => k_is); (case zqk7 => k_is); (case zqk8 => k_room); (case zqkX => exact rfl); (case zqk9 => exact rfl); (case zqkN => decide); (case zqkB => decide); (case zqc5 => decide); (case zqc2 => exact rfl); (case zqc3 => exact rfl); (case zqc4 => exact rfl); k_whole; intro zg' zL' zh' ztk' zFG' zF' zN' zB' zX' zT'; (try k_fold))) | (k_dflt (refine' code_defC ?zqk1 ?zqk2 ?zqk3 ?zqk4 ?zqk5 ?zqkA ?zqkF ?zqkK ?zqk6 ?zqk7 ?zqk8 ?zqk9 ?zqkB ?zqkD ?_ ?zqc2 ?zqc3 ?zqc4; (case zqkA => first | assumption | exact rfl | exact Around.frames_deeper (by assumption) | exact Around.frames_deeper (Around.frames_deeper (by assumption)) | exact Around.frames_deeper (Around.frames_deeper (Around.frames_deeper (by assumption)))); (case zqkF => first | assumption | exact rfl); (case zqkK => first | assumption | exact rfl); (case zqk1 => k_asm); (case zqk2 => k_asm); (case zqk3 => k_asm); (case zqk4 => k_asm); (case zqk5 => k_asm); (case zqk6 => k_is); (case zqk7 => k_is); (case zqk8 => k_room); (case zqk9 => first | exact BindsTo.of_eq rfl | exact binds_K (by k_in) rfl (by k_is) rfl rfl rfl | fail "k_enter: no rule for these arguments"); (case zqkB => exact rfl); (case zqkD => decide +kernel); (case zqc2 => exact rfl); (case zqc3 => exact rfl); (case zqc4 => exact rfl); k_whole; intro zg' zL' zh' ztk' zcells' zFG' zF' zN' zY' zB' zX' zT' zl1; (try k_lt zl1); k_cells zY'; (try simp only [List.cons_append, List.nil_append] at zN'); (try dsimp only); (try k_fold))))
  (k_with "tb_start" => first | k_extra "ar9" | ((try simp only [List.size_toArray, Array.size_push, List.length_append, List.length_cons, List.length_nil, sizeLine_eq] at *); k_extra "ar9"))
  (k_with "tb_rel" => first | exact Apart.nil | with_reducible assumption | exact ap_get (by with_reducible assumption) (by k_extra "sub9") | (refine ap_cons (fun q9 hq9 => ?_) ?_; (first | exact ap_lt (by with_reducible assumption) (by k_mem) | exact ap_off (by with_reducible assumption) (by k_mem) | exact ap_lt2 (by assumption) (by with_reducible assumption) (by k_mem)); tb_rel) | (refine ap_app ?_ ?_ <;> tb_rel))
  (k_with "call type:tuple" => (k_here; (with_reducible show wpAny _ _ (call (Value.type _) [Value.ref _]) _ _ _); k_dflt (refine' kde_tupleOf ?zqk1 ?zqk2 ?zqk3 ?zqk4 ?zqk5 ?_; (case zqk1 => k_asm); (case zqk2 => k_asm); (case zqk3 => exact News.isList (by k_asm) (by k_mem)); (case zqk4 => tb_start); (case zqk5 => exact rfl); k_whole); intro zD' zh' zF' zN' zl1; (try k_lt zl1)))
  (k_with "exec While" => (k_here; refine Halt.out ?_))
  (k_with "exec For" => (k_here; refine Halt.out ?_))
  (k_with "exec Raise" => (k_here; refine Halt.out ?_))
  (k_with "call ref" => (k_here; (with_reducible show wpAny _ _ (call (Value.ref 177) _) _ _ _); refine Halt.out ?_))
  (k_with "call ref" => (k_here; (with_reducible show wpAny _ _ (call (Value.ref 187) _) _ _ _); refine Halt.out ?_))
  (k_with "call builtin:len" => (k_here; (with_reducible show wpAny _ _ (call (Value.builtin "len") [Value.ref _]) _ _ _); k_dflt (refine' my_len ?zqk1 ?zqk2 ?zqk3 ?_; (case zqk1 => k_asm); (case zqk2 => k_mem); (case zqk3 => tb_start); k_whole); intro zt' ztk'; (try dsimp only)))
  (k_with "size_fits" => ((try simp only [lit_0, lit_1, lit_2, lit_3, lit_4, lit_5, lit_6, lit_7, S_app, S_len, Str.length_append, List.length_append, List.length_cons, List.length_nil, PySem.sizeLine_eq, List.size_toArray]); k_extra "ar9"))
  (k_with "eval IfExp" => (k_here; refine Halt.out ?_))
  (k_with "nat_is" => first | exact cast_0 | exact cast_1 | with_reducible assumption | exact rfl | exact cast_add1 rfl | exact cast_add1 (cast_add1 rfl) | exact cast_0)
  (k_with "WTurn ret" => (k_here; refine WTurn.out ?_))
  (k_with "subscriptTail Subscript" => (k_here; (with_reducible show wpAny _ _ (subscriptTail _ (PySem.Expr.Slice none none (some _) _) (Value.ref _) (Value.ref _)) _ _ _); k_dflt (refine' krv_ints ?zqF ?zqN ?zql ?zqk ?zqi ?_ ?zqs ?zqt ?zqz; (case zqF => k_asm); (case zqN => k_asm); (case zql => exact News.isList (by k_asm) (by k_mem)); (case zqk => exact IsPart.int _ _); (case zqi => k_asm); (case zqs => with_unfolding_all rfl); (case zqt => kmk_pure); (case zqz => (rw [List.size_toArray, sizeLine_eq]; k_extra "ar9")); k_whole); intro zD' zws' zh' zF' zN' zl9 zhi' zhl'))
  (k_with "subscriptTail Name Slice ref ref" => (k_here; (with_reducible show wpAny _ _ (subscriptTail _ (PySem.Expr.Slice none (some (Expr.UnaryOp _ _ _)) none _) (Value.ref _) (Value.ref _)) _ _ _); k_dflt (refine' kmk_slice_ints ?zqF ?zqN ?zql ?zqp ?zqq ?zqi ?zqm ?zqc ?_ ?zqs ?zqt ?zqz; (case zqF => k_asm); (case zqN => k_asm); (case zql => exact News.isList (by k_asm) (by k_mem)); (case zqp => kmk_part); (case zqq => kmk_part); (case zqi => k_asm); (case zqm => exact kmk_upto_neg (by k_asm) (by decide)); (case zqc => exact rfl); (case zqs => with_unfolding_all rfl); (case zqt => kmk_pure); (case zqz => (rw [List.size_toArray, sizeLine_eq]; k_extra "ar9")); k_whole); intro zD' zws' zh' zF' zN' zl9 zhi' zhl' zhc'; (have zhw' := IntsAre.length zhi')))
  (k_with "setItem ref int" => (k_here; k_dflt (refine' my_setItem ?zqF ?zqN ?zqk ?zqn ?zqz ?zqU ?_; (case zqF => k_asm); (case zqN => k_asm); (case zqk => k_extra "nat_is"); (case zqU => k_upd); (case zqn => k_extra "ar9"); (case zqz => k_extra "ar9"); k_whole); intro zh' zF' zN'; (try dsimp only [List.nil_append, List.cons_append] at zN')))
  (k_with "unpackItems ref" => (k_here; k_dflt (refine' unpackItemsN_ ?zqk1 ?zqk2 ?zqk3 ?zqk4 ?zqk5 ?_; (case zqk1 => k_asm); (case zqk2 => k_asm); (case zqk3 => kun_tup); (case zqk4 => k_asm); (case zqk5 => exact rfl); k_whole); intro zh' zF' zN'; (try k_sweep)))
  (k_with "assign Tuple" => (k_here; (with_reducible show wpAny _ _ (assign (Expr.Tuple _ _ _) _ (Value.ref _)) _ _ _); k_dflt (refine' unpackN_ ?zqk1 ?zqk2 ?zqk3 ?zqk4 ?zqk5 ?zqk6 ?_; (case zqk1 => k_asm); (case zqk2 => k_asm); (case zqk3 => kun_tup); (case zqk4 => k_asm); (case zqk5 => exact rfl); (case zqk6 => exact rfl); k_whole); intro zh' zF' zN'; (try k_sweep)))
  (k_with "s_is" => first | exact rfl | exact lit_0 | exact lit_1 | exact lit_2 | exact lit_3 | exact lit_4 | exact lit_5 | exact lit_6 | exact lit_7)
  (k_with "k_all" => first | with_reducible assumption | exact off_le (by with_reducible assumption) (by k_extra "ar9") | (refine off_app ?_ ?_ <;> k_all))
  (k_with "my_upd" => first | exact Upd.head (by with_reducible assumption) | exact Upd.tail (by with_reducible assumption) (Upd.head (by with_reducible assumption)))
  (k_with "call builtin:list.append" => (k_here; (with_reducible show wpAny _ _ (call (Value.builtin _) [Value.ref _, _]) _ _ _); k_dflt (refine' my_append ?zqk1 ?zqk2 ?zqk3 ?zqz ?_; (case zqk1 => k_asm); (case zqk2 => k_asm); (case zqk3 => first | k_extra "my_upd" | k_upd); (case zqz => k_extra "ar9"); k_whole); intro zh' zF' zN'))
  (k_with "call builtin:len" => (k_here; (with_reducible show wpAny _ _ (call (Value.builtin "len") [Value.str (S _) _]) _ _ _); k_dflt (refine' my_str_len ?zqk3 ?_; (case zqk3 => k_extra "ar9"); k_whole); intro zt' ztk'; (try dsimp only)))
  (k_with "subscriptTail Name Slice str ref" => (k_here; (with_reducible show wpAny _ _ (subscriptTail _ (Expr.Slice (some _) (some _) none _) (Value.str (S _) _) (Value.ref _)) _ _ _); (with_reducible rename Fr _ _ _ _ => zF'); (with_reducible rename News _ _ _ _ => zN'); (first | refine my_str_sign (s := ⟨_, _, _, _, _⟩) zF' zN' (by k_extra "nat_is") (by first | exact rfl | exact cast_add' rfl) (by k_extra "ar9") ?_ | refine my_str_cut (s := ⟨_, _, _, _, _⟩) zF' zN' (by k_extra "nat_is") (by k_extra "nat_is") (by k_extra "ar9") ?_); intro zh' zt' zk' zF' zN'))
  (k_with "subscriptTail" => (k_here; (with_reducible show wpAny _ _ (subscriptTail _ _ (Value.str (S _) _) (Value.int _ _)) _ _ _); (refine my_str_item (by k_extra "nat_is") (by k_extra "ar9") (by k_extra "ar9") ?_); intro zt' ztk'; (try dsimp only)))
  (k_with "subscriptTail Name Name str int" => (k_here; (with_reducible show wpAny _ _ (subscriptTail _ _ (Value.str (S _) _) (Value.int _ _)) _ _ _); (refine my_str_item (by k_extra "nat_is") (by k_extra "ar9") (by k_extra "ar9") ?_); intro zt' ztk'; (try dsimp only)))
  (k_with "compareOp In str str" => (k_here; (with_reducible show wpAny _ _ (compareOp CmpOp.In (Value.str (S [_]) _) (Value.str _ _)) _ _ _); refine my_in ?_))
  (k_with "compareOp Eq str str" => (k_here; (with_reducible show wpAny _ _ (compareOp CmpOp.Eq (Value.str _ _) (Value.str _ _)) _ _ _); refine my_seq (by k_extra "s_is") (by k_extra "s_is") ?_))
  (k_with "compareOp NotEq str str" => (k_here; (with_reducible show wpAny _ _ (compareOp CmpOp.NotEq (Value.str _ _) (Value.str _ _)) _ _ _); refine my_sne (by k_extra "s_is") (by k_extra "s_is") ?_))
  (k_with "call type:int" => (k_here; (with_reducible show wpAny _ _ (call (Value.type "int") [Value.str (S _) _]) _ _ _); refine Halt.out ?_))
  (k_with "exec If" => (k_here; (rename StopLine _ => zsl9); with_reducible refine stop_if zsl9 ?_))
  (k_with "call ref" => (k_here; (with_reducible show wpAny _ _ (call (Value.ref 182) _) _ _ _); refine Halt.out ?_))
  (k_with "call type:bytes" => (k_here; (with_reducible show wpAny _ _ (call (Value.type "bytes") [Value.ref _]) _ _ _); k_dflt (refine' my_bytes ?zqh ?zqF ?zqN ?zqm ?zqi ?zqr ?zqz ?_; (case zqh => k_asm); (case zqF => k_asm); (case zqN => k_asm); (case zqm => k_mem); (case zqi => k_asm); (case zqr => k_asm); (case zqz => omega); k_whole); intro zh' zt' zk' zF' zN'))
  (k_with "subscriptTail" => (k_here; (with_reducible show wpAny _ _ (subscriptTail _ _ (Value.ref _) (Value.int _ _)) _ _ _); k_dflt (refine' my_item_nat ?zqN ?zqm ?zqk ?zqf ?zqd ?_; (case zqN => k_asm); (case zqm => k_mem); (case zqk => k_extra "nat_is"); (case zqd => with_reducible assumption); (case zqf => k_extra "ar9"))))
  (k_with "subscriptTail Name Constant ref int" => (k_here; (with_reducible show wpAny _ _ (subscriptTail _ _ (Value.ref _) (Value.int _ _)) _ _ _); k_dflt (refine' my_item_nat ?zqN ?zqm ?zqk ?zqf ?zqd ?_; (case zqN => k_asm); (case zqm => k_mem); (case zqk => k_extra "nat_is"); (case zqd => with_reducible assumption); (case zqf => k_extra "ar9"))))
  (k_with "binaryOp Add ref ref" => (k_here; (with_reducible show wpAny _ _ (binaryOp _ (Value.ref _) (Value.ref _)) _ _ _); k_dflt (refine' my_add ?zqF ?zqN ?zqa ?zqb ?zqz ?_; (case zqF => k_asm); (case zqN => k_asm); (case zqa => k_mem); (case zqb => k_mem); (case zqz => k_extra "ar9"); k_whole); intro zD' zh' zF' zN' zl1; (try k_lt zl1)))
  (k_with "compareOp Eq ref ref" => (k_here; (with_reducible show wpAny _ _ (compareOp CmpOp.Eq (Value.ref _) (Value.ref _)) _ _ _); k_dflt (refine' my_nil_eq ?zqk1 ?zqk2 ?zqk3 ?zqk4 ?_; (case zqk1 => k_asm); (case zqk3 => exact List.Mem.head _); (case zqk2 => k_mem); (case zqk4 => (try simp only [units_deeper]); k_extra "ar9"); k_whole); intro zr' zhr'))
  (k_with "compareOp NotEq ref ref" => (k_here; (with_reducible show wpAny _ _ (compareOp CmpOp.NotEq (Value.ref _) (Value.ref _)) _ _ _); k_dflt (refine' my_nil_ne ?zqk1 ?zqk2 ?zqk3 ?zqk4 ?_; (case zqk1 => k_asm); (case zqk3 => exact List.Mem.head _); (case zqk2 => k_mem); (case zqk4 => (try simp only [units_deeper]); k_extra "ar9"); k_whole); intro zr' zhr'))
  (k_with "call type:list" => (k_here; (with_reducible show wpAny _ _ (call (Value.type _) [Value.ref _]) _ _ _); k_dflt (refine' my_list ?zqF ?zqN ?zqb ?zqz ?_; (case zqF => k_asm); (case zqN => k_asm); (case zqb => k_mem); (case zqz => k_extra "ar9"); k_whole); intro zD' zc' zh' zF' zN' zl1; (try k_lt zl1)))
  (k_with "subscriptTail" => (k_here; (with_reducible show wpAny _ _ (subscriptTail _ (PySem.Expr.Slice none none (some _) _) (Value.ref _) (Value.ref _)) _ _ _); k_dflt (refine' my_rev ?zqF ?zqN ?zql ?zqk ?_ ?zqs ?zqt ?zqz; (case zqF => k_asm); (case zqN => k_asm); (case zql => k_mem); (case zqk => exact IsPart.int _ _); (case zqs => with_unfolding_all rfl); (case zqt => kmk_pure); (case zqz => k_extra "ar9"); k_whole); intro zD' zh' zF' zN' zl1; (try k_lt zl1)))
  (k_with "subscriptTail Call" => (k_here; (with_reducible show wpAny _ _ (subscriptTail _ (PySem.Expr.Slice none none (some _) _) (Value.ref _) (Value.ref _)) _ _ _); k_dflt (refine' my_rev ?zqF ?zqN ?zql ?zqk ?_ ?zqs ?zqt ?zqz; (case zqF => k_asm); (case zqN => k_asm); (case zql => k_mem); (case zqk => exact IsPart.int _ _); (case zqs => with_unfolding_all rfl); (case zqt => kmk_pure); (case zqz => k_extra "ar9"); k_whole); intro zD' zh' zF' zN' zl1; (try k_lt zl1)))
  (k_with "subscriptTail Name Slice ref ref" => (k_here; (with_reducible show wpAny _ _ (subscriptTail _ (PySem.Expr.Slice none none (some _) _) (Value.ref _) (Value.ref _)) _ _ _); k_dflt (refine' my_rev ?zqF ?zqN ?zql ?zqk ?_ ?zqs ?zqt ?zqz; (case zqF => k_asm); (case zqN => k_asm); (case zql => k_mem); (case zqk => exact IsPart.int _ _); (case zqs => with_unfolding_all rfl); (case zqt => kmk_pure); (case zqz => k_extra "ar9"); k_whole); intro zD' zh' zF' zN' zl1; (try k_lt zl1)))
  (k_with "eval ListComp" => (k_here; (with_reducible show wpAny _ _ (eval (Expr.ListComp (Expr.Call (Expr.Name (Str.ofString "ord") _) _ _ _) _ _ _) _) _ _ _); refine Halt.out ?_))
  trivial
section
theorem bent_sign {x : Int} (h0 : 0 ≤ x) (h1 : x < 9) : ∃ c, Txt.item (Str.ofString "() 01 ()a") x = S [c] ∧ c ≤ 127 := by
  obtain ⟨n, rfl⟩ := Int.eq_ofNat_of_zero_le h0
  have hn : n < 9 := by k_extra "ar9"
  have hc : ([40, 41, 32, 48, 49, 32, 40, 41, 97] : List Nat)[((n : Nat) : Int).toNat]? = some (([40, 41, 32, 48, 49, 32, 40, 41, 97] : List Nat)[n]) := by
    rw [Int.toNat_natCast, List.getElem?_eq_getElem]
  refine ⟨_, by rw [lit_7]; exact item_S h0 hc, ?_⟩
  have : ∀ n : Fin 9, ([40, 41, 32, 48, 49, 32, 40, 41, 97] : List Nat)[n.1] ≤ 127 := by decide
  exact this ⟨n, hn⟩
theorem bent_left (u : List Nat) {x : Int} (h0 : 0 ≤ x) : Txt.slice (S u) none (some x) = S (u.take x.toNat) := by
  have e : Txt.slice (S u) none (some x) = StrLaws.sliceText (S u) (some 0) (some x) := by
    show StrLaws.sliceText (S u) none (some x) = _
    unfold StrLaws.sliceText
    rw [StrLaws.sliceIdx_none_lo]
  rw [e, cutI_S u (Int.le_refl 0) h0]
  simp
theorem bent_right (u : List Nat) {x : Int} (h0 : 0 ≤ x) : Txt.slice (S u) (some x) none = S (u.drop x.toNat) := by
  have e : Txt.slice (S u) (some x) none = StrLaws.sliceText (S u) (some x) (some (u.length : Int)) := by
    show StrLaws.sliceText (S u) (some x) none = _
    unfold StrLaws.sliceText
    rw [StrLaws.sliceIdx_none_hi, S_len]
  rw [e, cutI_S u h0 (by k_extra "ar9")]
  rw [List.take_of_length_le]
  rw [List.length_drop, Int.toNat_natCast]; exact Nat.le_refl _
theorem bent_len {u t i l a b : Nat} (h : u ≤ t + i) (k : l ≤ 1) (j : a ≤ b) : min a u + l + (u - b) ≤ t + (i + 1) := by
  have h1 : min a u + (u - b) ≤ u := by
    rcases Nat.le_total a u with g | g
    · rw [Nat.min_eq_left g]
      exact Nat.le_trans (Nat.add_le_add_left (Nat.sub_le_sub_left j u) a) (Nat.le_of_eq (Nat.add_sub_of_le g))
    · rw [Nat.min_eq_right g, Nat.sub_eq_zero_of_le (Nat.le_trans g j)]
      exact Nat.le_refl _
  rw [Nat.add_right_comm]
  exact (Nat.add_le_add (Nat.le_trans h1 h) k : _ ≤ t + i + 1)
theorem bent_room {a u l x t i : Nat} (h : t ≤ 390) (k : u ≤ t + i) (hi : i < 3) (hl : l ≤ 1) (ha : a ≤ u) (hx : x ≤ u) : a + l ≤ 16777216 ∧ a + l + x ≤ 16777216 := by
  have hu : u ≤ 393 := Nat.le_trans k (Nat.add_le_add h (Nat.le_of_lt hi))
  have h1 := Nat.add_le_add (Nat.le_trans ha hu) hl
  exact ⟨Nat.le_trans h1 (by decide), Nat.le_trans (Nat.add_le_add h1 (Nat.le_trans hx hu)) (by decide)⟩
theorem bent_ct (w : World) (mean : ExcName → Option Value) (mg mb : Str → Option Value) (t : List Nat) (ht : t.length ≤ 390) (hasc : ∀ c ∈ t, c ≤ 127) (cell : Int) :
    Fun w mean mg mb 215 4 (fun _ vs => Ex2 fun t1 t2 => vs = [.str (S t) t1, .int cell t2]) (fun _ v => Ex2 fun u tk => Al3 (v = .str (S u) tk) (u.length ≤ t.length + 3) (∀ c ∈ u, c ≤ 127)) := by
  unfold Fun
  k_fill
  intro A A₀ base h₀ outer L m news s env Q E vs B hF X N T hA hf hke hh hdp hu hp hret
  obtain ⟨t1, t2, rfl⟩ := hp
  have hrl : recursionLimit = 1000 := rfl
  refine wpAny_call ?_
  k_enter
  k_steps
  refine Halt.mk ?_
  rename IsRange _ _ _ _ _ _ _ _ => rg
  rename Fr _ _ _ _ => kF
  rename News _ _ _ _ => kN
  generalize (if cell < 0 then -cell else cell) = c0 at *
  have hm0 : 0 ≤ c0.fmod 3 := Int.fmod_nonneg_of_pos _ (by decide)
  have hm1 : c0.fmod 3 < 3 := Int.fmod_lt_of_pos _ (by decide)
  refine tbr_invG (fun i m nx => Ex4 fun u r t1 t2 => Al4 (nx = news) (Pin m [("text", .str (S u) t1), ("rest", .int r t2)]) (u.length ≤ t.length + i) (∀ c ∈ u, c ≤ 127)) hh rg (small_one (by k_extra "ar9") (by k_extra "ar9") (by k_extra "ar9") (by k_extra "ar9")) (rangeSize_nat _ _) kF kN ⟨t, _, _, _, rfl, ⟨rfl, rfl, trivial⟩, by k_extra "ar9", hasc⟩ ?_ ?_
  · intro i k' tk' m₁ nx h₁ tk₁ own hk hoff hJ9 F₁ N₁
    (try k_fold)
    rcases hJ9 with ⟨u, r, t3, t4, rfl, hpin, hul, hasu⟩
    have F₂ := Fr.pin1 F₁ hpin
    clear F₁ kF kN
    have hi : i < 3 := by
      have h1 := (List.getElem?_eq_some_iff.mp hk).1
      rw [rangeKs_length] at h1
      k_extra "ar9"
    have hpos : (0 : Int) < (u.length : Int) + 1 := by k_extra "ar9"
    have a0 : 0 ≤ (r.fdiv 3).fmod ((u.length : Int) + 1) := Int.fmod_nonneg_of_pos _ hpos
    have a1 : (r.fdiv 3).fmod ((u.length : Int) + 1) < (u.length : Int) + 1 := Int.fmod_lt_of_pos _ hpos
    have b0 : 0 ≤ (((r.fdiv 3).fdiv ((u.length : Int) + 1)).fdiv 4).fmod 9 := Int.fmod_nonneg_of_pos _ (by decide)
    have b1 : (((r.fdiv 3).fdiv ((u.length : Int) + 1)).fdiv 4).fmod 9 < 9 := Int.fmod_lt_of_pos _ (by decide)
    obtain ⟨sg, hsg, hsg1⟩ := bent_sign b0 b1
    have hsl := bent_left u a0
    have hul9 : (S u).length = u.length := S_len u
    k_steps
    refine Halt.mk ?_
    rw [hsl]
    rename Fr _ _ _ _ => kF
    rename News _ _ _ _ => kN
    refine cut (fun v => Ex2 fun l tk => Al3 (v = .str (S l) tk) (l.length ≤ 1) (∀ c ∈ l, c ≤ 127)) ?_ ?_
    · refine IfExp_ ?_
      k_steps
      · exact .mk ⟨[sg], _, congrArg (Value.str · _) hsg, by simp, by simpa using hsg1⟩ _ rfl
      · refine .mk ⟨[], _, congrArg (Value.str · _) lit_0, by simp, by simp⟩ _ rfl
    intro _ tk9 hJ9
    (try k_fold)
    rcases hJ9 with ⟨l, tk8, rfl, hl1, hl2⟩
    dsimp only
    have htk : (u.take ((r.fdiv 3).fmod ((u.length : Int) + 1)).toNat).length ≤ u.length := by rw [List.length_take]; exact Nat.min_le_right _ _
    generalize hwe : ((r.fdiv 3).fmod ((u.length : Int) + 1)) = at9 at *
    have hu393 : u.length ≤ 393 := Nat.le_trans hul (Nat.add_le_add ht (Nat.le_of_lt hi))
    have hrm := (bent_room ht hul hi hl1 htk (Nat.le_refl _)).1
    k_steps
    have hy : ∀ b : Bool, 0 ≤ at9 + (if b = true then 1 else 0) := fun b => Int.add_nonneg a0 (by split <;> decide)
    have hy2 : ∀ b : Bool, at9.toNat ≤ (at9 + (if b = true then 1 else 0)).toNat := fun b => Int.toNat_le_toNat (Int.le_add_of_nonneg_right (by split <;> decide))
    rename Fr _ _ _ (fun _ => _) => kF
    rename News _ _ _ (_ :: _ :: _ :: _) => kN
    rw [bent_right u (hy _), S_app, S_app] at kF
    refine TbEnd.go kF (nget_tail (nget_tail (nget_tail kN))) ⟨_, _, _, _, rfl, ⟨rfl, rfl, trivial⟩, ?_, ?_⟩ (fun p hp => List.mem_append_left _ hp) (fun p hp => List.mem_append_right _ hp) hoff
    · have := hy2 (decide (0 < ((r.fdiv 3).fdiv (↑u.length + 1)).fmod 4))
      rw [List.length_append, List.length_append, List.length_take, List.length_drop]
      exact bent_len hul hl1 this
    · intro c hc
      rcases List.mem_append.mp hc with hc | hc
      · rcases List.mem_append.mp hc with hc | hc
        · exact hasu c (List.mem_of_mem_take hc)
        · exact hl2 c hc
      · exact hasu c (List.mem_of_mem_drop hc)
  · intro m₁ nx h₁ tk₁ hJ9 F₁ N₁
    (try k_fold)
    rcases hJ9 with ⟨u, r, t3, t4, rfl, hpin, hul, hasu⟩
    have F₂ := Fr.pin F₁ hpin
    clear F₁ kF kN
    k_steps
    rename Fr h₀ L _ _ => kF
    rename News h₀ L _ _ => kN
    exact hret _ [] _ _ kF kN Apart.nil ⟨u, _, rfl, by k_extra "ar9", hasu⟩
end
section
variable {prog : Program} {w : World} {A : Around} {s : Shared} {env : Env} {h₀ : Heap} {E : Value → Shared → Prop} {Q : Flow → Shared → Prop}
theorem codeAny_enumL {R : Result → Shared → Prop} {xi xc : Str} {pk pv pt : Pos} {x1 : Nat} {body : List Stmt} {e it l : Addr} {vs : List Value} {nn : Nat} {m : Str → Option Value} {news : List (Addr × Obj)} (hh : A.handled = none)
    (hei : e ≠ it) (hle : l ≠ e) (hli : l ≠ it) (hxi : env.kindOf xi = some .local) (hxc : env.kindOf xc = some .local)
    (hp : (env.scope.kind == .class || (env.scope.kind == .module && env.locals != env.globals)) = false)
    (hLe : env.locals ≠ e) (hLi : env.locals ≠ it) (he0 : h₀.get? e = none) (hi0 : h₀.get? it = none) (hnw : ∀ p ∈ news, p.1 ≠ e ∧ p.1 ≠ it)
    (he : IsEnum s.heap e it 0 .none) (hit : s.heap.IsListIter it l 0) (hl : (l, W.listOf vs.toArray nn) ∈ news) (F : Fr h₀ env.locals s.heap m) (N : News h₀ env.locals s.heap news)
    (J : Nat → (Str → Option Value) → List (Addr × Obj) → Prop) (h0 : J 0 m news)
    (step : ∀ i t v m₁ nx h tk own, vs[i]? = some v → J i m₁ nx → (l, W.listOf vs.toArray nn) ∈ nx → OwnOff own (nx.map (·.1)) →
      Fr h₀ env.locals h (fun y => if y = xc then some v else if y = xi then some (.int (i : Nat) t) else m₁ y) → News h₀ env.locals h (nx ++ own) →
      wpAny (model prog w) A (execs body env) (InvPostG h₀ env.locals (fun m' nx => (l, W.listOf vs.toArray nn) ∈ nx ∧ J (i + 1) m' nx) own { s with heap := h, toks := tk } (fun f s' => match f with | .next => R (.ok .next) s' | f => R (.ok f) s')) (notedBy (model prog w) A env fun e s' => R (.error e) s') { s with heap := h, toks := tk })
    (hR : ∀ h' tk m' nx, Fr h₀ env.locals h' m' → News h₀ env.locals h' nx → J vs.length m' nx → R (.ok .next) { s with heap := h', toks := tk }) :
    codeAny (model prog w) A (.forLoop (.Tuple [.Name xi pk, .Name xc pv] x1 pt) (.ref e) body [] env) R s := by
  have WE := WalksT.enumerate (prog := prog) (w := w) hh e it l hei hle hli vs.toArray
  have hLl : env.locals ≠ l := fun q => (N _ hl).2.1 q.symm
  refine codeAny_forLoop_any
    (fun k s' => ∃ (h' : Heap) (tk : Nat) (m' : Str → Option Value) (nx : List (Addr × Obj)) (i : Nat), s' = { s with heap := h', toks := tk } ∧ ((∃ old, IsEnum h' e it i old) ∧ h'.IsListIter it l i ∧ h'.IsList l vs.toArray) ∧ Fr h₀ env.locals h' m' ∧ News h₀ env.locals h' nx ∧ (∀ p ∈ nx, p.1 ≠ e ∧ p.1 ≠ it) ∧ (l, W.listOf vs.toArray nn) ∈ nx ∧ J i m' nx ∧ i ≤ vs.length ∧ k = vs.length + 1 - i) ?_ (vs.length + 1)
    ⟨s.heap, s.toks, m, news, 0, rfl, ⟨⟨_, by simpa using he⟩, hit, News.isList N hl⟩, F, N, hnw, hl, h0, Nat.zero_le _, rfl⟩
  rintro k s' ⟨H, tk, m', nx, i, rfl, hst', F', N', ha', hl', hJ, hi, rfl⟩
  have next : ∀ h₁ : Heap, (∀ b o, b ∉ [e, it] → H.get? b = some o → h₁.get? b = some o) → Fr h₀ env.locals h₁ m' ∧ News h₀ env.locals h₁ nx := fun h₁ hk₁ =>
    ⟨⟨F'.ns.at' fun o x => hk₁ _ o (by simp [hLe, hLi]) x, fun b o x => hk₁ b o (fun hb => by
        rcases List.mem_cons.mp hb with rfl | hb
        · rw [he0] at x; cases x
        · rw [List.mem_singleton.mp hb, hi0] at x; cases x) (F'.keep b o x), F'.above⟩,
      fun p hp => ⟨hk₁ _ _ (by simp [ha' p hp]) (N' p hp).1, (N' p hp).2⟩⟩
  by_cases hlt : i < vs.toArray.size
  · refine WE.item i _ _ _ hlt hst' fun T vals h₁ tk₁ hPt _ hT hMid hk₁ => ?_
    obtain ⟨t, x, hx, rfl⟩ := hPt
    refine WE.go _ x1 pt i T _ _ _ hMid fun h₂ hst₂ hk₂ => ?_
    have ht₂ : h₂.IsTuple T #[.int i t, x] := hT.at fun o e => hk₂ T o (WE.apart i T h₁ hMid) e
    refine wpAny_assign_Tuple hh ht₂ rfl rfl fun h₃ hx₃ => ?_
    replace hx₃ : Heap.ExtBut h₂.objs.size h₂ h₃ := hx₃
    have up₃ : ∀ b o, h₂.get? b = some o → h₃.get? b = some o := fun b o x => hx₃ b o (Nat.ne_of_lt (Heap.lt_size x)) x
    obtain ⟨F₃, N₃⟩ := next h₃ fun b o hb x => up₃ b o (hk₂ b o hb (hk₁ b o hb x))
    show wpAny _ A (do holding [x] (assign (.Name xi pk) env (.int i t)); do holding [] (assign (.Name xc pv) env x); pure ()) _ _ _
    refine wpAny_bind (wpAny_holding (wpAny_assign_Name (wpAny_storeName_local hxi F₃.ns (fun h₄ hn₄ hs₄ => ?_) hp)))
    replace hs₄ : Heap.SameBut env.locals h₃ h₄ := hs₄
    have F₄ := F₃.set hn₄ hs₄
    refine wpAny_bind (wpAny_holding (wpAny_assign_Name (wpAny_storeName_local hxc F₄.ns (fun h₅ hn₅ hs₅ => wpAny_pure ?_) hp)))
    replace hs₅ : Heap.SameBut env.locals h₄ h₅ := hs₅
    have F₅ := F₄.set hn₅ hs₅
    have N₅ : News h₀ env.locals h₅ nx := (N₃.set hs₄).set hs₅
    have hst₅ := WE.frame _ _ _ hst₂ fun b hb o x => hs₅.extBut b o (fun q => by
        rcases List.mem_cons.mp hb with rfl | hb
        · exact hLe q.symm
        · rcases List.mem_cons.mp hb with rfl | hb
          · exact hLi q.symm
          · exact hLl (q.symm.trans (List.mem_singleton.mp hb))) (hs₄.extBut b o (fun q => by
        rcases List.mem_cons.mp hb with rfl | hb
        · exact hLe q.symm
        · rcases List.mem_cons.mp hb with rfl | hb
          · exact hLi q.symm
          · exact hLl (q.symm.trans (List.mem_singleton.mp hb))) (up₃ b o x))
    obtain ⟨⟨old, hen₅⟩, ⟨oit, hit₅, hit₅'⟩, hli₅⟩ := id hst₅
    obtain ⟨oe, hen₅'⟩ : ∃ oe, h₅.get? e = some oe := ⟨_, hen₅⟩
    have hv : vs[i]? = some x := by simpa using hx
    have Nown : News h₀ env.locals h₅ (nx ++ [(e, oe), (it, oit)]) := fun p hp => by
      rcases List.mem_append.mp hp with hp | hp
      · exact N₅ p hp
      · rcases List.mem_cons.mp hp with rfl | hp
        · exact ⟨hen₅', Ne.symm hLe, he0⟩
        · rw [List.mem_singleton.mp hp]; exact ⟨hit₅, Ne.symm hLi, hi0⟩
    refine wpAny_mono (step i t x m' nx h₅ _ _ hv hJ hl' ?_ F₅ Nown) (fun f s₃ h₆ => ?_) fun _ _ e => e
    · intro p hp b hb
      obtain ⟨q, hq, rfl⟩ := List.mem_map.mp hb
      rcases List.mem_cons.mp hp with rfl | hp
      · exact Ne.symm (ha' q hq).1
      · rw [List.mem_singleton.mp hp]; exact Ne.symm (ha' q hq).2
    have fin : ∀ tkk, InvEndG h₀ env.locals (fun m' nx => (l, W.listOf vs.toArray nn) ∈ nx ∧ J (i + 1) m' nx) [(e, oe), (it, oit)] { s with heap := h₅, toks := tkk } s₃ →
        ∃ k', k' < vs.length + 1 - i ∧ ∃ (h' : Heap) (tk : Nat) (m' : Str → Option Value) (nx : List (Addr × Obj)) (i' : Nat), s₃ = { s with heap := h', toks := tk } ∧ ((∃ old, IsEnum h' e it i' old) ∧ h'.IsListIter it l i' ∧ h'.IsList l vs.toArray) ∧ Fr h₀ env.locals h' m' ∧ News h₀ env.locals h' nx ∧ (∀ p ∈ nx, p.1 ≠ e ∧ p.1 ≠ it) ∧ (l, W.listOf vs.toArray nn) ∈ nx ∧ J i' m' nx ∧ i' ≤ vs.length ∧ k' = vs.length + 1 - i' := by
      rintro tkk ⟨h₆', tk₆, m₂, news₂, nx₂, rfl, F₆, N₆, hn₆, ho₆, hoff₆, hl₆, hJ₆⟩
      refine ⟨vs.length + 1 - (i + 1), by omega, h₆', tk₆, m₂, nx₂, i + 1, rfl, ?_, F₆, fun p hp => N₆ p (hn₆ p hp), fun p hp => ⟨?_, ?_⟩, hl₆, hJ₆, by have : i < vs.length := (by simpa using hlt); omega, rfl⟩
      · refine WE.frame _ _ _ hst₅ fun b hb o x => ?_
        rcases List.mem_cons.mp hb with rfl | hb
        · have := (N₆ _ (ho₆ _ (.head _))).1
          rw [hen₅'] at x
          rw [← Option.some.inj x]; exact this
        · rcases List.mem_cons.mp hb with rfl | hb
          · have := (N₆ _ (ho₆ _ (.tail _ (.head _)))).1
            rw [hit₅] at x
            rw [← Option.some.inj x]; exact this
          · have hbl := List.mem_singleton.mp hb
            subst hbl
            have q1 := (N₅ _ hl').1
            rw [q1] at x
            rw [← Option.some.inj x]
            exact (N₆ _ (hn₆ _ hl₆)).1
      · exact Ne.symm (hoff₆ _ (.head _) _ (List.mem_map.mpr ⟨p, hp, rfl⟩))
      · exact Ne.symm (hoff₆ _ (.tail _ (.head _)) _ (List.mem_map.mpr ⟨p, hp, rfl⟩))
    cases f with
    | ret v => exact h₆
    | brk => exact h₆
    | cont => exact fin _ h₆
    | next => exact fin _ h₆
  · have hin : i = vs.length := by simp at hlt; omega
    subst hin
    refine WE.done _ _ _ (by simpa using hst') fun h₁ tk₁ hk₁ => wpAny_execs_nil ?_
    obtain ⟨F₁, N₁⟩ := next h₁ hk₁
    exact hR h₁ tk₁ m' nx F₁ N₁ hJ
/-- what an enumerate over a ledger list must be ready for -/
noncomputable def EnumSrc (prog : Program) (w : World) (A : Around) (h₀ : Heap) (env : Env) (xi xc : Str) (body : List Stmt) (Q : Flow → Shared → Prop) (E : Value → Shared → Prop) (xv : Value) (s₁ : Shared) : Prop :=
  ∃ (e it l : Addr) (vs : List Value) (nn : Nat) (m : Str → Option Value) (news : List (Addr × Obj)) (J : Nat → (Str → Option Value) → List (Addr × Obj) → Prop), xv = .ref e ∧ A.handled = none ∧ e ≠ it ∧ l ≠ e ∧ l ≠ it ∧ env.locals ≠ e ∧ env.locals ≠ it ∧ h₀.get? e = none ∧ h₀.get? it = none ∧ (∀ p ∈ news, p.1 ≠ e ∧ p.1 ≠ it) ∧
    IsEnum s₁.heap e it 0 .none ∧ s₁.heap.IsListIter it l 0 ∧ (l, W.listOf vs.toArray nn) ∈ news ∧ Fr h₀ env.locals s₁.heap m ∧ News h₀ env.locals s₁.heap news ∧ J 0 m news ∧
    (∀ i t v m₁ nx h tk own, vs[i]? = some v → J i m₁ nx → (l, W.listOf vs.toArray nn) ∈ nx → OwnOff own (nx.map (·.1)) →
      Fr h₀ env.locals h (fun y => if y = xc then some v else if y = xi then some (.int (i : Nat) t) else m₁ y) → News h₀ env.locals h (nx ++ own) →
      wpAny (model prog w) A (execs body env) (InvPostG h₀ env.locals (fun m' nx => (l, W.listOf vs.toArray nn) ∈ nx ∧ J (i + 1) m' nx) own { s₁ with heap := h, toks := tk } Q) E { s₁ with heap := h, toks := tk }) ∧
    (∀ h' tk m' nx, Fr h₀ env.locals h' m' → News h₀ env.locals h' nx → J vs.length m' nx → Q .next { s₁ with heap := h', toks := tk })
theorem For_enumL {xi xc : Str} {pk pv pt pos : Pos} {x1 : Nat} {iter : PySem.Expr} {body : List Stmt} {m : Str → Option Value} (_ : Fr h₀ env.locals s.heap m)
    (hxi : env.kindOf xi = some .local) (hxc : env.kindOf xc = some .local)
    (hp : (env.scope.kind == .class || (env.scope.kind == .module && env.locals != env.globals)) = false)
    (h : wpAny (model prog w) A (eval iter env) (EnumSrc prog w A h₀ env xi xc body Q E) E s)
    (hs : ∀ x, foldedSetIterable iter env x = pure x := by intro _; rfl)
    (hE : PassesOwn (model prog w) A env E := by passes_own) :
    wpAny (model prog w) A (exec (.For (.Tuple [.Name xi pk, .Name xc pv] x1 pt) iter body [] pos) env) Q E s := by
  refine wpAny_For (wpAny_mono h (fun xv s₁ h₁ => ?_) fun _ _ e => e) hs
  obtain ⟨e, it, l, vs, nn, m, news, J, rfl, hh, h1, h2, h3, h4, h5, h6, h7, h8, h9, h10, h11, F, N, h0, step, done⟩ := h₁
  refine wpAny_pyIter_enum h9 ?_
  refine codeAny_enumL (R := fun r s' => match r with | .ok f => Q f s' | .error e => cameBackBy (model prog w) A env E e s') hh h1 h2 h3 hxi hxc hp h4 h5 h6 h7 h8 h9 h10 h11 F N J h0 ?_ done
  intro i t v m₁ nx h tk own q1 q2 q3 q4 q5 q6
  refine wpAny_mono (wpAny_passesOwn hE (step i t v m₁ nx h tk own q1 q2 q3 q4 q5 q6)) (fun f s₃ h₆ => ?_) fun _ _ e => e
  cases f with
  | ret v => exact h₆
  | brk => exact h₆
  | cont => exact h₆
  | next => exact h₆
/-- the call of enumerate itself -/
theorem my_enum {xi xc : Str} {body : List Stmt} {l : Addr} {vs : List Value} {nn : Nat} {m : Str → Option Value} {news : List (Addr × Obj)} (J : Nat → (Str → Option Value) → List (Addr × Obj) → Prop) (hh : A.handled = none) (hl : (l, W.listOf vs.toArray nn) ∈ news)
    (F : Fr h₀ env.locals s.heap m) (N : News h₀ env.locals s.heap news) (h0 : J 0 m news)
    (step : ∀ i t v m₁ nx h tk own, vs[i]? = some v → J i m₁ nx → (l, W.listOf vs.toArray nn) ∈ nx → OwnOff own (nx.map (·.1)) →
      Fr h₀ env.locals h (fun y => if y = xc then some v else if y = xi then some (.int (i : Nat) t) else m₁ y) → News h₀ env.locals h (nx ++ own) →
      wpAny (model prog w) A (execs body env) (InvPostG h₀ env.locals (fun m' nx => (l, W.listOf vs.toArray nn) ∈ nx ∧ J (i + 1) m' nx) own { s with heap := h, toks := tk } Q) E { s with heap := h, toks := tk })
    (done : ∀ h' tk m' nx, Fr h₀ env.locals h' m' → News h₀ env.locals h' nx → J vs.length m' nx → Q .next { s with heap := h', toks := tk }) :
    wpAny (model prog w) A (call (.type "enumerate") [.ref l]) (EnumSrc prog w A h₀ env xi xc body Q E) E s := by
  have hls := News.isList N hl
  have hlt : l < s.heap.objs.size := Heap.lt_size (N _ hl).1
  have hLs : env.locals < s.heap.objs.size := F.ns.lt
  have hab : h₀.objs.size ≤ env.locals := F.above
  refine call_enumerate_list hls fun h' he hit hsz hk => ?_
  refine ⟨_, _, l, vs, nn, m, news, J, rfl, hh, Nat.succ_ne_self _, Nat.ne_of_lt (Nat.lt_succ_of_lt hlt), Nat.ne_of_lt hlt, Nat.ne_of_lt (Nat.lt_succ_of_lt hLs), Nat.ne_of_lt hLs, Heap.get?_none_of_le (Nat.le_trans hab (Nat.le_of_lt (Nat.lt_succ_of_lt hLs))), Heap.get?_none_of_le (Nat.le_trans hab (Nat.le_of_lt hLs)),
    fun p hp => ⟨Nat.ne_of_lt (Nat.lt_succ_of_lt (Heap.lt_size (N p hp).1)), Nat.ne_of_lt (Heap.lt_size (N p hp).1)⟩, he, hit, hl, F.keeps hk, N.grown hk, h0, ?_, ?_⟩
  · exact step
  · exact done
end
section
/-! forests whose labels are places -/
noncomputable def F.ins (p c : Int) : F → F
  | .nil => .nil
  | .cons n k r => .cons n (if n = p then (F.ins p c k).app (.cons c .nil .nil) else F.ins p c k) (F.ins p c r)
noncomputable def F.cnt (j : Int) : F → Nat
  | .nil => 0
  | .cons n k r => (if n = j then 1 else 0) + F.cnt j k + F.cnt j r
noncomputable def F.labels : F → List Int
  | .nil => []
  | .cons n _ r => n :: r.labels
theorem F.cnt_app (j : Int) : ∀ f g : F, (f.app g).cnt j = f.cnt j + g.cnt j
  | .nil, g => by simp [F.app, F.cnt]
  | .cons n k r, g => by simp only [F.app, F.cnt, F.cnt_app j r g]; k_extra "ar9"
theorem F.size_app : ∀ f g : F, (f.app g).size = f.size + g.size
  | .nil, g => by simp [F.app, F.size]
  | .cons n k r, g => by simp only [F.app, F.size, F.size_app r g]; k_extra "ar9"
theorem F.labels_app : ∀ f g : F, (f.app g).labels = f.labels ++ g.labels
  | .nil, g => rfl
  | .cons n k r, g => by simp only [F.app, F.labels, F.labels_app r g, List.cons_append]
theorem F.ins_labels (p c : Int) : ∀ f : F, (f.ins p c).labels = f.labels
  | .nil => rfl
  | .cons n k r => by simp only [F.ins, F.labels, F.ins_labels p c r]
theorem F.ins_cnt (p c q : Int) : ∀ f : F, (f.ins p c).cnt q = f.cnt q + (if q = c then f.cnt p else 0)
  | .nil => by simp [F.ins, F.cnt]
  | .cons n k r => by
    simp only [F.ins, F.cnt]
    rw [F.ins_cnt p c q r]
    by_cases h : n = p
    · rw [if_pos h, F.cnt_app, F.ins_cnt p c q k, if_pos h]
      simp only [F.cnt]
      by_cases h2 : q = c
      · subst h2; simp; k_extra "ar9"
      · have h3 : ¬ c = q := fun e => h2 e.symm
        simp [h2, h3]
    · rw [if_neg h, F.ins_cnt p c q k, if_neg h]
      by_cases h2 : q = c <;> simp [h2] <;> k_extra "ar9"
theorem F.ins_size (p c : Int) : ∀ f : F, (f.ins p c).size = f.size + f.cnt p
  | .nil => rfl
  | .cons n k r => by
    simp only [F.ins, F.size, F.cnt]
    rw [F.ins_size p c r]
    by_cases h : n = p
    · rw [if_pos h, F.size_app, F.ins_size p c k, if_pos h]; simp only [F.size]; k_extra "ar9"
    · rw [if_neg h, F.ins_size p c k, if_neg h]; k_extra "ar9"
/-- every node's list of kids stands as `kv` says -/
noncomputable def F.conf (val : Int → Value) (kv : Int → List Value) : F → Prop
  | .nil => True
  | .cons n k r => kv n = k.labels.map val ∧ F.conf val kv k ∧ F.conf val kv r
theorem F.conf_app {val : Int → Value} {kv : Int → List Value} : ∀ {f g : F}, f.conf val kv → g.conf val kv → (f.app g).conf val kv
  | .nil, _, _, h => h
  | .cons _ _ _, _, h, h2 => ⟨h.1, h.2.1, F.conf_app h.2.2 h2⟩
theorem F.conf_new {val val' : Int → Value} {kv kv' : Int → List Value} {i : Int} (hv : ∀ j, j ≠ i → val' j = val j) (hk : ∀ j, j ≠ i → kv' j = kv j) : ∀ {f : F}, f.cnt i = 0 → f.conf val kv → f.conf val' kv'
  | .nil, _, _ => trivial
  | .cons n k r, h, hc => by
    simp only [F.cnt] at h
    have hn : n ≠ i := fun e => by subst e; simp at h
    have hk0 : k.cnt i = 0 := by k_extra "ar9"
    refine ⟨?_, F.conf_new hv hk hk0 hc.2.1, F.conf_new hv hk (by k_extra "ar9") hc.2.2⟩
    rw [hk n hn, hc.1]
    apply List.map_congr_left
    intro x hx
    exact (hv x fun e => by
      subst e
      clear hc h
      induction k with
      | nil => cases hx
      | cons m k r _ ih =>
        simp only [F.cnt] at hk0
        rcases List.mem_cons.mp hx with e | hx
        · subst e; simp at hk0
        · exact ih hx (by k_extra "ar9")).symm
theorem F.conf_ins {val : Int → Value} {kv kv' : Int → List Value} {p c : Int} (hpc : p ≠ c) (h0 : kv' c = []) (h1 : kv' p = kv p ++ [val c]) (h2 : ∀ j, j ≠ p → j ≠ c → kv' j = kv j) : ∀ {f : F}, f.cnt c = 0 → f.conf val kv → (f.ins p c).conf val kv'
  | .nil, _, _ => trivial
  | .cons n k r, h, hc => by
    simp only [F.cnt] at h
    have hn : n ≠ c := fun e => by subst e; simp at h
    have ik := F.conf_ins hpc h0 h1 h2 (f := k) (by k_extra "ar9") hc.2.1
    have ir := F.conf_ins hpc h0 h1 h2 (f := r) (by k_extra "ar9") hc.2.2
    simp only [F.ins]
    by_cases hp : n = p
    · rw [if_pos hp]
      subst hp
      refine ⟨?_, F.conf_app ik ⟨by rw [h0]; rfl, trivial, trivial⟩, ir⟩
      rw [h1, hc.1, F.labels_app, F.ins_labels, List.map_append]
      rfl
    · rw [if_neg hp]
      refine ⟨?_, ik, ir⟩
      rw [h2 n hp hn, hc.1, F.ins_labels]
noncomputable def F.rel (g : Int → Int) : F → F
  | .nil => .nil
  | .cons n k r => .cons (g n) (k.rel g) (r.rel g)
theorem F.rel_size (g : Int → Int) : ∀ f : F, (f.rel g).size = f.size
  | .nil => rfl
  | .cons n k r => by simp only [F.rel, F.size, F.rel_size g k, F.rel_size g r]
theorem F.rel_ok {g : Int → Int} (h : ∀ j, okN (g j)) : ∀ f : F, (f.rel g).ok
  | .nil => trivial
  | .cons n k r => ⟨h n, F.rel_ok h k, F.rel_ok h r⟩
theorem F.rel_len (g : Int → Int) : ∀ f : F, (f.rel g).len = f.len
  | .nil => rfl
  | .cons n k r => by simp only [F.rel, F.len, F.rel_len g r]
/-- from the places to the list trees -/
theorem F.lin {tl : List (Addr × Obj)} {a b : Int → Addr} {nm : Int → Int} {tk : Int → Tok} {ea eb : Int → Nat} {kv : Int → List Value} {i : Int} (h1 : ∀ j, 0 ≤ j → j < i → (a j, W.listOf [Value.int (nm j) (tk j), Value.ref (b j)].toArray (ea j)) ∈ tl) (h2 : ∀ j, 0 ≤ j → j < i → (b j, W.listOf (kv j).toArray (eb j)) ∈ tl) :
    ∀ {f : F}, (∀ j, 0 < f.cnt j → 0 ≤ j ∧ j < i) → f.conf (fun j => .ref (a j)) kv → LIn tl (f.labels.map fun j => .ref (a j)) (f.rel nm)
  | .nil, _, _ => .nil
  | .cons n k r, hb, hc => by
    have hn := hb n (by simp [F.cnt]; k_extra "ar9")
    have ik := F.lin h1 h2 (f := k) (fun j hj => hb j (by simp only [F.cnt]; k_extra "ar9")) hc.2.1
    have ir := F.lin h1 h2 (f := r) (fun j hj => hb j (by simp only [F.cnt]; k_extra "ar9")) hc.2.2
    have e2 := h2 n hn.1 hn.2
    rw [hc.1] at e2
    exact .cons (h1 n hn.1 hn.2) e2 ik ir
theorem F.labels_len : ∀ f : F, f.labels.length = f.len
  | .nil => rfl
  | .cons _ _ r => by simp only [F.labels, F.len, List.length_cons, F.labels_len r]
noncomputable def idx (i : Nat) : List Int := (List.range i).map fun j : Nat => (j : Int)
theorem idx_succ (i : Nat) : idx (i + 1) = idx i ++ [(i : Int)] := by unfold idx; rw [List.range_succ, List.map_append]; rfl
noncomputable def up {α : Type} (f : Int → α) (i : Int) (x : α) : Int → α := fun j => if j = i then x else f j
theorem up_at {α : Type} {f : Int → α} {i : Int} {x : α} : up f i x i = x := if_pos rfl
theorem up_ne {α : Type} {f : Int → α} {i j : Int} {x : α} (h : j ≠ i) : up f i x j = f j := if_neg h
theorem map_idx {α : Type} (a : Int → Addr) (i : Nat) (x : Addr) : (idx (i + 1)).map (fun j => Value.ref (up a i x j)) = (idx i).map (fun j => Value.ref (a j)) ++ [Value.ref x] := by
  rw [idx_succ, List.map_append]
  congr 1
  · apply List.map_congr_left
    intro j hj
    obtain ⟨k, hk, rfl⟩ := List.mem_map.mp hj
    have := List.mem_range.mp hk
    rw [up_ne (by k_extra "ar9")]
  · simp [up_at]
theorem map_lab (a : Int → Addr) (i : Int) (x : Addr) : ∀ {f : F}, f.cnt i = 0 → f.labels.map (fun j => Value.ref (up a i x j)) = f.labels.map (fun j => Value.ref (a j))
  | .nil, _ => rfl
  | .cons n k r, h => by
    simp only [F.cnt] at h
    have hn : n ≠ i := fun e => by subst e; simp at h
    simp only [F.labels, List.map_cons]
    rw [up_ne hn, map_lab a i x (f := r) (by k_extra "ar9")]
/-- what the loop of _law_trees keeps -/
structure TFacts (news : List (Addr × Obj)) (i : Nat) (ta pa la : Addr) (a b : Int → Addr) (nm : Int → Int) (tk : Int → Tok) (ea eb : Int → Nat) (kv : Int → List Value) (LT LL : F) (tl : List (Addr × Obj)) : Prop where
  g1 : ∀ j, 0 ≤ j → j < (i : Int) → (a j, W.listOf [Value.int (nm j) (tk j), Value.ref (b j)].toArray (ea j)) ∈ tl
  g2 : ∀ j, 0 ≤ j → j < (i : Int) → (b j, W.listOf (kv j).toArray (eb j)) ∈ tl
  g3 : ∀ j k, 0 ≤ j → j < (i : Int) → 0 ≤ k → k < (i : Int) → b j = b k → j = k
  g4 : ∀ j k, 0 ≤ j → j < (i : Int) → 0 ≤ k → k < (i : Int) → a j ≠ b k
  hap : Apart tl news
  o1 : ∀ q ∈ tl ++ news, q.1 ≠ ta
  o2 : ∀ q ∈ tl ++ news, q.1 ≠ pa
  o3 : ∀ q ∈ tl ++ news, q.1 ≠ la
  n1 : @Ne Nat ta pa
  n2 : @Ne Nat ta la
  n3 : @Ne Nat pa la
  hLT : LT.conf (fun j => .ref (a j)) kv
  hLL : LL.conf (fun j => .ref (a j)) kv
  hcnt : ∀ j, LT.cnt j + LL.cnt j = if 0 ≤ j ∧ j < (i : Int) then 1 else 0
  hsz : LT.size + LL.size = i
  hok : ∀ j, okN (nm j)
noncomputable def TreesJ (news : List (Addr × Obj)) (i : Nat) (m : Str → Option Value) (nx : List (Addr × Obj)) : Prop :=
  Ex16 fun (ta pa la : Addr) (a b : Int → Addr) (nm : Int → Int) (tk : Int → Tok) (ea eb : Int → Nat) (kv : Int → List Value) (LT LL : F) (e1 e2 e3 : Nat) (tl : List (Addr × Obj)) => Al3 (nx = (ta, W.listOf ((idx i).map fun j => Value.ref (a j)).toArray e1) :: (pa, W.listOf (LT.labels.map fun j => Value.ref (a j)).toArray e2) :: (la, W.listOf (LL.labels.map fun j => Value.ref (a j)).toArray e3) :: (tl ++ news)) (Pin m [("trees", .ref ta), ("tops", .ref pa), ("lone", .ref la)]) (TFacts news i ta pa la a b nm tk ea eb kv LT LL tl)
section
variable {news : List (Addr × Obj)} {i : Nat} {ta pa la : Addr} {a b : Int → Addr} {nm : Int → Int} {tk : Int → Tok} {ea eb : Int → Nat} {kv : Int → List Value} {LT LL : F} {tl : List (Addr × Obj)}
theorem TFacts.none (h : TFacts news i ta pa la a b nm tk ea eb kv LT LL tl) : LT.cnt i = 0 ∧ LL.cnt i = 0 := by
  have := h.hcnt i
  rw [if_neg (by k_extra "ar9")] at this
  k_extra "ar9"
/-- a new tree, in front of the ledger, into a forest that takes it -/
theorem TFacts.next (h : TFacts news i ta pa la a b nm tk ea eb kv LT LL tl) {x y : Addr} {n : Int} {t : Tok} {ex ey : Nat} {kv' : Int → List Value} {eb' : Int → Nat} {LT' LL' : F} {tl' : List (Addr × Obj)}
    (hx : ∀ q ∈ tl ++ news, q.1 ≠ x) (hy : ∀ q ∈ tl ++ news, q.1 ≠ y) (hxy : @Ne Nat x y) (hx1 : @Ne Nat x ta) (hx2 : @Ne Nat x pa) (hx3 : @Ne Nat x la) (hy1 : @Ne Nat y ta) (hy2 : @Ne Nat y pa) (hy3 : @Ne Nat y la) (hn : okN n)
    (hsub : ∀ j, 0 ≤ j → j < (i : Int) → (a j, W.listOf [Value.int (nm j) (tk j), Value.ref (b j)].toArray (ea j)) ∈ tl') (hsub2 : ∀ j, 0 ≤ j → j < (i : Int) → (b j, W.listOf (kv' j).toArray (eb' j)) ∈ tl') (hkeys : ∀ p ∈ tl', ∃ q ∈ tl, q.1 = p.1)
    (hk0 : kv' i = []) (he0 : eb' i = ey)
    (hT : LT'.conf (fun j => .ref (up a i x j)) kv') (hL : LL'.conf (fun j => .ref (up a i x j)) kv') (hc : ∀ j, LT'.cnt j + LL'.cnt j = LT.cnt j + LL.cnt j + if j = (i : Int) then 1 else 0) (hs : LT'.size + LL'.size = LT.size + LL.size + 1) :
    TFacts news (i + 1) ta pa la (up a i x) (up b i y) (up nm i n) (up tk i t) (up ea i ex) eb' kv' LT' LL' ((x, W.listOf [Value.int n t, Value.ref y].toArray ex) :: (y, W.listOf ([] : List Value).toArray ey) :: tl') := by
  have hk : ∀ {z : Addr}, (∀ q ∈ tl ++ news, q.1 ≠ z) → ∀ q ∈ tl' ++ news, q.1 ≠ z := by
    intro z hz q hq
    rcases List.mem_append.mp hq with hq | hq
    · obtain ⟨q', h1, h2⟩ := hkeys q hq
      rw [← h2]; exact hz q' (List.mem_append_left _ h1)
    · exact hz q (List.mem_append_right _ hq)
  refine ⟨?_, ?_, ?_, ?_, ?_, ?_, ?_, ?_, h.n1, h.n2, h.n3, hT, hL, ?_, ?_, ?_⟩
  · intro j h0 h1
    by_cases hj : j = (i : Int)
    · subst hj; rw [up_at, up_at, up_at, up_at, up_at]; exact .head _
    · rw [up_ne hj, up_ne hj, up_ne hj, up_ne hj, up_ne hj]; exact .tail _ (.tail _ (hsub j h0 (by k_extra "ar9")))
  · intro j h0 h1
    by_cases hj : j = (i : Int)
    · subst hj; rw [up_at, hk0, he0]; exact .tail _ (.head _)
    · rw [up_ne hj]; exact .tail _ (.tail _ (hsub2 j h0 (by k_extra "ar9")))
  · intro j k j0 j1 k0 k1 e
    by_cases hj : j = (i : Int)
    · by_cases hk : k = (i : Int)
      · k_extra "ar9"
      · subst hj; rw [up_at, up_ne hk] at e
        exact absurd e.symm (hy _ (List.mem_append_left _ (h.g2 k k0 (by k_extra "ar9"))))
    · by_cases hk : k = (i : Int)
      · subst hk; rw [up_at, up_ne hj] at e
        exact absurd e (hy _ (List.mem_append_left _ (h.g2 j j0 (by k_extra "ar9"))))
      · rw [up_ne hj, up_ne hk] at e
        exact h.g3 j k j0 (by k_extra "ar9") k0 (by k_extra "ar9") e
  · intro j k j0 j1 k0 k1
    by_cases hj : j = (i : Int)
    · subst hj; rw [up_at]
      by_cases hk : k = (i : Int)
      · subst hk; rw [up_at]; exact hxy
      · rw [up_ne hk]; exact Ne.symm (hx _ (List.mem_append_left _ (h.g2 k k0 (by k_extra "ar9"))))
    · rw [up_ne hj]
      by_cases hk : k = (i : Int)
      · subst hk; rw [up_at]; exact hy _ (List.mem_append_left _ (h.g1 j j0 (by k_extra "ar9")))
      · rw [up_ne hk]; exact h.g4 j k j0 (by k_extra "ar9") k0 (by k_extra "ar9")
  · refine ap_cons (fun q hq => Ne.symm (hx q (List.mem_append_right _ hq))) (ap_cons (fun q hq => Ne.symm (hy q (List.mem_append_right _ hq))) ?_)
    intro p hp q hq
    obtain ⟨p', h1, h2⟩ := hkeys p hp
    rw [← h2]; exact h.hap p' h1 q hq
  · exact off_consN hx1 (off_consN hy1 (hk h.o1))
  · exact off_consN hx2 (off_consN hy2 (hk h.o2))
  · exact off_consN hx3 (off_consN hy3 (hk h.o3))
  · intro j
    rw [hc j, h.hcnt j]
    by_cases hj : j = (i : Int)
    · subst hj; rw [if_neg (by k_extra "ar9"), if_pos rfl, if_pos (by k_extra "ar9")]
    · rw [if_neg hj]
      by_cases h2 : 0 ≤ j ∧ j < (i : Int)
      · rw [if_pos h2, if_pos (by k_extra "ar9")]
      · rw [if_neg h2, if_neg (by k_extra "ar9")]
  · rw [hs, h.hsz]
  · intro j
    by_cases hj : j = (i : Int)
    · subst hj; rw [up_at]; exact hn
    · rw [up_ne hj]; exact h.hok j
theorem conf_one {val : Int → Value} {kv : Int → List Value} {i : Int} (h : kv i = []) : (F.cons i .nil .nil).conf val kv := ⟨by rw [h]; rfl, trivial, trivial⟩
variable {m' : Str → Option Value} {x y : Addr} {n : Int} {t : Tok} {ex ey e1 e2 e3 : Nat}
theorem TFacts.lone (h : TFacts news i ta pa la a b nm tk ea eb kv LT LL tl) (hx : ∀ q ∈ tl ++ news, q.1 ≠ x) (hy : ∀ q ∈ tl ++ news, q.1 ≠ y) (hxy : @Ne Nat x y) (hx1 : @Ne Nat x ta) (hx2 : @Ne Nat x pa) (hx3 : @Ne Nat x la) (hy1 : @Ne Nat y ta) (hy2 : @Ne Nat y pa) (hy3 : @Ne Nat y la) (hn : okN n)
    (hp : Pin m' [("trees", .ref ta), ("tops", .ref pa), ("lone", .ref la)]) :
    TreesJ news (i + 1) m' ((ta, W.listOf ((idx i).map (fun j => Value.ref (a j)) ++ [Value.ref x]).toArray e1) :: (pa, W.listOf (LT.labels.map fun j => Value.ref (a j)).toArray e2) :: (la, W.listOf (LL.labels.map (fun j => Value.ref (a j)) ++ [Value.ref x]).toArray e3) :: (((x, W.listOf [Value.int n t, Value.ref y].toArray ex) :: (y, W.listOf ([] : List Value).toArray ey) :: tl) ++ news)) := by
  have h0 := h.none
  refine ⟨ta, pa, la, up a i x, up b i y, up nm i n, up tk i t, up ea i ex, up eb i ey, up kv i [], LT, LL.app (.cons i .nil .nil), e1, e2, e3, _, ?_, hp, h.next hx hy hxy hx1 hx2 hx3 hy1 hy2 hy3 hn h.g1 ?_ (fun p hp => ⟨p, hp, rfl⟩) up_at up_at ?_ ?_ ?_ ?_⟩
  · rw [map_idx (α := Int), map_lab a i x h0.1, F.labels_app, List.map_append, map_lab a i x h0.2]
    simp [F.labels, up_at]
  · intro j j0 j1; rw [up_ne (by k_extra "ar9"), up_ne (by k_extra "ar9")]; exact h.g2 j j0 j1
  · exact F.conf_new (fun j hj => by rw [up_ne hj]) (fun j hj => up_ne hj) h0.1 h.hLT
  · exact F.conf_app (F.conf_new (fun j hj => by rw [up_ne hj]) (fun j hj => up_ne hj) h0.2 h.hLL) (conf_one up_at)
  · intro j; rw [F.cnt_app]; simp only [F.cnt]
    by_cases hj : j = (i : Int)
    · subst hj; simp; k_extra "ar9"
    · have : ¬ (i : Int) = j := fun e => hj e.symm
      simp [hj, this]
  · rw [F.size_app]; simp only [F.size]; k_extra "ar9"
theorem TFacts.top (h : TFacts news i ta pa la a b nm tk ea eb kv LT LL tl) (hx : ∀ q ∈ tl ++ news, q.1 ≠ x) (hy : ∀ q ∈ tl ++ news, q.1 ≠ y) (hxy : @Ne Nat x y) (hx1 : @Ne Nat x ta) (hx2 : @Ne Nat x pa) (hx3 : @Ne Nat x la) (hy1 : @Ne Nat y ta) (hy2 : @Ne Nat y pa) (hy3 : @Ne Nat y la) (hn : okN n)
    (hp : Pin m' [("trees", .ref ta), ("tops", .ref pa), ("lone", .ref la)]) :
    TreesJ news (i + 1) m' ((ta, W.listOf ((idx i).map (fun j => Value.ref (a j)) ++ [Value.ref x]).toArray e1) :: (pa, W.listOf (LT.labels.map (fun j => Value.ref (a j)) ++ [Value.ref x]).toArray e2) :: (la, W.listOf (LL.labels.map (fun j => Value.ref (a j))).toArray e3) :: (((x, W.listOf [Value.int n t, Value.ref y].toArray ex) :: (y, W.listOf ([] : List Value).toArray ey) :: tl) ++ news)) := by
  have h0 := h.none
  refine ⟨ta, pa, la, up a i x, up b i y, up nm i n, up tk i t, up ea i ex, up eb i ey, up kv i [], LT.app (.cons i .nil .nil), LL, e1, e2, e3, _, ?_, hp, h.next hx hy hxy hx1 hx2 hx3 hy1 hy2 hy3 hn h.g1 ?_ (fun p hp => ⟨p, hp, rfl⟩) up_at up_at ?_ ?_ ?_ ?_⟩
  · rw [map_idx (α := Int), map_lab a i x h0.2, F.labels_app, List.map_append, map_lab a i x h0.1]
    simp [F.labels, up_at]
  · intro j j0 j1; rw [up_ne (by k_extra "ar9"), up_ne (by k_extra "ar9")]; exact h.g2 j j0 j1
  · exact F.conf_app (F.conf_new (fun j hj => by rw [up_ne hj]) (fun j hj => up_ne hj) h0.1 h.hLT) (conf_one up_at)
  · exact F.conf_new (fun j hj => by rw [up_ne hj]) (fun j hj => up_ne hj) h0.2 h.hLL
  · intro j; rw [F.cnt_app]; simp only [F.cnt]
    by_cases hj : j = (i : Int)
    · subst hj; simp; k_extra "ar9"
    · have : ¬ (i : Int) = j := fun e => hj e.symm
      simp [hj, this]
  · rw [F.size_app]; simp only [F.size]; k_extra "ar9"
theorem TFacts.kid {q : Int} (h : TFacts news i ta pa la a b nm tk ea eb kv LT LL tl) (hq0 : 0 ≤ q) (hq1 : q < (i : Int)) (hx : ∀ q ∈ tl ++ news, q.1 ≠ x) (hy : ∀ q ∈ tl ++ news, q.1 ≠ y) (hxy : @Ne Nat x y) (hx1 : @Ne Nat x ta) (hx2 : @Ne Nat x pa) (hx3 : @Ne Nat x la) (hy1 : @Ne Nat y ta) (hy2 : @Ne Nat y pa) (hy3 : @Ne Nat y la) (hn : okN n)
    (hp : Pin m' [("trees", .ref ta), ("tops", .ref pa), ("lone", .ref la)]) :
    TreesJ news (i + 1) m' ((ta, W.listOf ((idx i).map (fun j => Value.ref (a j)) ++ [Value.ref x]).toArray e1) :: (pa, W.listOf (LT.labels.map (fun j => Value.ref (a j))).toArray e2) :: (la, W.listOf (LL.labels.map (fun j => Value.ref (a j))).toArray e3) ::
      (((x, W.listOf [Value.int n t, Value.ref y].toArray ex) :: (y, W.listOf ([] : List Value).toArray ey) :: (b q, W.listOf (kv q ++ [Value.ref x]).toArray (eb q + 1)) :: tl.filter (fun p => p.1 ≠ b q)) ++ news)) := by
  have h0 := h.none
  have hcq := h.hcnt q
  rw [if_pos ⟨hq0, hq1⟩] at hcq
  have hqi : q ≠ (i : Int) := by k_extra "ar9"
  have gb := h.g2 q hq0 hq1
  refine ⟨ta, pa, la, up a i x, up b i y, up nm i n, up tk i t, up ea i ex, up (up eb q (eb q + 1)) i ey, up (up kv q (kv q ++ [Value.ref x])) i [], LT.ins q i, LL.ins q i, e1, e2, e3, (x, W.listOf [Value.int n t, Value.ref y].toArray ex) :: (y, W.listOf ([] : List Value).toArray ey) :: (b q, W.listOf (kv q ++ [Value.ref x]).toArray (eb q + 1)) :: tl.filter (fun p => p.1 ≠ b q), ?_, hp, h.next hx hy hxy hx1 hx2 hx3 hy1 hy2 hy3 hn ?_ ?_ ?_ up_at up_at ?_ ?_ ?_ ?_⟩
  · rw [map_idx (α := Int), F.ins_labels, F.ins_labels, map_lab a i x h0.2, map_lab a i x h0.1]
  · intro j j0 j1
    refine .tail _ (List.mem_filter.mpr ⟨h.g1 j j0 j1, ?_⟩)
    simpa using h.g4 j q j0 j1 hq0 hq1
  · intro j j0 j1
    rw [up_ne (show j ≠ (i : Int) by k_extra "ar9"), up_ne (show j ≠ (i : Int) by k_extra "ar9")]
    by_cases hj : j = q
    · subst hj; rw [up_at, up_at]; exact .head _
    · rw [up_ne hj, up_ne hj]
      refine .tail _ (List.mem_filter.mpr ⟨h.g2 j j0 j1, ?_⟩)
      have : b j ≠ b q := fun e => hj (h.g3 j q j0 j1 hq0 hq1 e)
      simpa using this
  · intro p hp
    rcases List.mem_cons.mp hp with rfl | hp
    · exact ⟨_, gb, rfl⟩
    · exact ⟨p, (List.mem_filter.mp hp).1, rfl⟩
  · refine F.conf_ins hqi up_at ?_ (fun j h1 h2 => by rw [up_ne h2, up_ne h1]) h0.1 (F.conf_new (fun j hj => by rw [up_ne hj]) (fun j hj => rfl) h0.1 h.hLT)
    rw [up_ne hqi, up_at, up_at]
  · refine F.conf_ins hqi up_at ?_ (fun j h1 h2 => by rw [up_ne h2, up_ne h1]) h0.2 (F.conf_new (fun j hj => by rw [up_ne hj]) (fun j hj => rfl) h0.2 h.hLL)
    rw [up_ne hqi, up_at, up_at]
  · intro j; rw [F.ins_cnt, F.ins_cnt]
    by_cases hj : j = (i : Int)
    · rw [if_pos hj, if_pos hj, if_pos hj]; k_extra "ar9"
    · rw [if_neg hj, if_neg hj, if_neg hj]; k_extra "ar9"
  · rw [F.ins_size, F.ins_size]; k_extra "ar9"
end
theorem okN_tree {i : Nat} (hi : i < 9) (k : Nat) : okN ((i : Int) + 1 + [0, 100, 10 ^ Int.toNat 6, 10 ^ Int.toNat 18, 900].getD k 0) := by
  unfold okN
  match k with
  | 0 => simp; k_extra "ar9"
  | 1 => simp; k_extra "ar9"
  | 2 => simp; k_extra "ar9"
  | 3 => simp; k_extra "ar9"
  | 4 => simp; k_extra "ar9"
  | k + 5 => simp; k_extra "ar9"
theorem end_trees {h₀ : Heap} {L : Addr} {J : (Str → Option Value) → List (Addr × Obj) → Prop} {s₁ : Shared} {h' : Heap} {tk : Nat} {m' : Str → Option Value} {t b c d ta pa la : Addr × Obj} {tl news own : List (Addr × Obj)} (F : Fr h₀ L h' m') (N : News h₀ L h' (t :: b :: c :: d :: ta :: pa :: la :: (tl ++ (news ++ own))))
    (hown : OwnOff own (ta.1 :: pa.1 :: la.1 :: (tl ++ news).map (·.1))) (hnew : Apart [t, b] own) (hj : J m' (ta :: pa :: la :: ((t :: b :: tl) ++ news))) : InvEndG h₀ L J own s₁ { s₁ with heap := h', toks := tk } := by
  refine InvEndG.intro F N hj ?_ ?_ ?_
  · intro p hp x hx
    have k1 := hown p hp
    simp only [List.map_cons, List.cons_append] at hx
    rcases List.mem_cons.mp hx with rfl | hx
    · exact k1 _ (.head _)
    rcases List.mem_cons.mp hx with rfl | hx
    · exact k1 _ (.tail _ (.head _))
    rcases List.mem_cons.mp hx with rfl | hx
    · exact k1 _ (.tail _ (.tail _ (.head _)))
    rcases List.mem_cons.mp hx with rfl | hx
    · exact Ne.symm (hnew _ (.head _) p hp)
    rcases List.mem_cons.mp hx with rfl | hx
    · exact Ne.symm (hnew _ (.tail _ (.head _)) p hp)
    · exact k1 _ (.tail _ (.tail _ (.tail _ hx)))
  · k_extra "sub9"
  · intro p hp
    simp only [List.mem_cons, List.mem_append]
    simp [hp]
theorem four_back {g : Heap} {L : Addr} {h : Heap} {d x y z : Addr × Obj} {news : List (Addr × Obj)} (N : News g L h (d :: z :: y :: x :: news)) : News g L h (x :: y :: z :: ([] ++ news)) := nget N (by
  k_extra "sub9")
theorem trees_start {news : List (Addr × Obj)} {x y z : Addr} {m : Str → Option Value} {o1 o2 : Obj} (h1 : ∀ p ∈ news, p.1 < x) (h2 : ∀ p ∈ (x, o1) :: news, p.1 < y) (h3 : ∀ p ∈ (y, o2) :: (x, o1) :: news, p.1 < z) (hp : Pin m [("trees", .ref x), ("tops", .ref y), ("lone", .ref z)]) :
    TreesJ news 0 m ((x, W.listOf #[] 0) :: (y, W.listOf #[] 0) :: (z, W.listOf #[] 0) :: ([] ++ news)) := by
  refine ⟨x, y, z, fun _ => 0, fun _ => 0, fun _ => 1, fun _ => default, fun _ => 0, fun _ => 0, fun _ => [], .nil, .nil, 0, 0, 0, [], rfl, hp, ?_⟩
  refine ⟨fun j h0 h1 => by k_extra "ar9", fun j h0 h1 => by k_extra "ar9", fun j k h0 h1 => by k_extra "ar9", fun j k h0 h1 => by k_extra "ar9", Apart.nil, off_lt h1, off_lt fun p hp => h2 p (.tail _ hp), off_lt fun p hp => h3 p (.tail _ (.tail _ hp)), Nat.ne_of_lt (h2 _ (.head _)), Nat.ne_of_lt (h3 _ (.tail _ (.head _))), Nat.ne_of_lt (h3 _ (.head _)), trivial, trivial, ?_, rfl, fun _ => by unfold okN; k_extra "ar9"⟩
  intro j
  rw [if_neg (by k_extra "ar9")]; rfl
section
variable {news : List (Addr × Obj)} {i : Nat} {ta pa la : Addr} {a b : Int → Addr} {nm : Int → Int} {tk : Int → Tok} {ea eb : Int → Nat} {kv : Int → List Value} {LT LL : F} {tl own : List (Addr × Obj)}
variable {h₀ : Heap} {L : Addr} {h' : Heap} {m' : Str → Option Value} {s₁ : Shared} {tk' : Nat} {x y : Addr} {n : Int} {t : Tok} {ex ey e1 e2 e3 : Nat} {c d q0 : Addr × Obj} {o o1 o2 o3 : Obj}
theorem fresh_t (l3 : ∀ p ∈ c :: d :: (ta, o1) :: (pa, o2) :: (la, o3) :: (tl ++ (news ++ own)), p.1 < y) :
    (∀ q ∈ tl ++ news, q.1 ≠ y) ∧ @Ne Nat y ta ∧ @Ne Nat y pa ∧ @Ne Nat y la ∧ ∀ q ∈ own, q.1 ≠ y := by
  refine ⟨?_, Nat.ne_of_gt (l3 _ (.tail _ (.tail _ (.head _)))), Nat.ne_of_gt (l3 _ (.tail _ (.tail _ (.tail _ (.head _))))), Nat.ne_of_gt (l3 _ (.tail _ (.tail _ (.tail _ (.tail _ (.head _)))))), ?_⟩
  · intro q hq
    refine Nat.ne_of_lt (l3 q ?_)
    rcases List.mem_append.mp hq with hq | hq
    · exact .tail _ (.tail _ (.tail _ (.tail _ (.tail _ (List.mem_append_left _ hq)))))
    · exact .tail _ (.tail _ (.tail _ (.tail _ (.tail _ (List.mem_append_right _ (List.mem_append_left _ hq))))))
  · intro q hq
    exact Nat.ne_of_lt (l3 q (.tail _ (.tail _ (.tail _ (.tail _ (.tail _ (List.mem_append_right _ (List.mem_append_right _ hq))))))))
theorem ap_two (h1 : ∀ q ∈ own, q.1 ≠ x) (h2 : ∀ q ∈ own, q.1 ≠ y) : Apart [(x, o1), (y, o2)] own :=
  ap_cons (fun q hq => Ne.symm (h1 q hq)) (ap_cons (fun q hq => Ne.symm (h2 q hq)) Apart.nil)
theorem lone_end (h : TFacts news i ta pa la a b nm tk ea eb kv LT LL tl) (hown : OwnOff own (ta :: pa :: la :: (tl ++ news).map (·.1))) (F : Fr h₀ L h' m')
    (N : News h₀ L h' ((x, W.listOf [Value.int n t, Value.ref y].toArray ex) :: (y, W.listOf ([] : List Value).toArray ey) :: c :: d :: (ta, W.listOf ((idx i).map (fun j => Value.ref (a j)) ++ [Value.ref x]).toArray e1) :: (pa, W.listOf (LT.labels.map fun j => Value.ref (a j)).toArray e2) :: (la, W.listOf (LL.labels.map (fun j => Value.ref (a j)) ++ [Value.ref x]).toArray e3) :: (tl ++ (news ++ own))))
    (l3 : ∀ p ∈ c :: d :: (ta, o1) :: (pa, o2) :: (la, o3) :: (tl ++ (news ++ own)), p.1 < y) (l4 : ∀ p ∈ (y, o) :: c :: d :: (ta, o1) :: (pa, o2) :: (la, o3) :: (tl ++ (news ++ own)), p.1 < x)
    (hn : okN n) (hp : Pin m' [("trees", .ref ta), ("tops", .ref pa), ("lone", .ref la)]) (hm : q0 ∈ news) :
    InvEndG h₀ L (fun m' nx => q0 ∈ nx ∧ TreesJ news (i + 1) m' nx) own s₁ { s₁ with heap := h', toks := tk' } := by
  obtain ⟨y0, y1, y2, y3, y4⟩ := fresh_t l3
  obtain ⟨x0, x1, x2, x3, x4⟩ := fresh_t (fun p hp => l4 p (.tail _ hp))
  refine end_trees F N hown (ap_two x4 y4) ⟨?_, h.lone x0 y0 (Nat.ne_of_gt (l4 _ (.head _))) x1 x2 x3 y1 y2 y3 hn hp⟩
  exact .tail _ (.tail _ (.tail _ (List.mem_append_right _ hm)))
theorem top_end (h : TFacts news i ta pa la a b nm tk ea eb kv LT LL tl) (hown : OwnOff own (ta :: pa :: la :: (tl ++ news).map (·.1))) (F : Fr h₀ L h' m')
    (N : News h₀ L h' ((x, W.listOf [Value.int n t, Value.ref y].toArray ex) :: (y, W.listOf ([] : List Value).toArray ey) :: c :: d :: (ta, W.listOf ((idx i).map (fun j => Value.ref (a j)) ++ [Value.ref x]).toArray e1) :: (pa, W.listOf (LT.labels.map (fun j => Value.ref (a j)) ++ [Value.ref x]).toArray e2) :: (la, W.listOf (LL.labels.map (fun j => Value.ref (a j))).toArray e3) :: (tl ++ (news ++ own))))
    (l3 : ∀ p ∈ c :: d :: (ta, o1) :: (pa, o2) :: (la, o3) :: (tl ++ (news ++ own)), p.1 < y) (l4 : ∀ p ∈ (y, o) :: c :: d :: (ta, o1) :: (pa, o2) :: (la, o3) :: (tl ++ (news ++ own)), p.1 < x)
    (hn : okN n) (hp : Pin m' [("trees", .ref ta), ("tops", .ref pa), ("lone", .ref la)]) (hm : q0 ∈ news) :
    InvEndG h₀ L (fun m' nx => q0 ∈ nx ∧ TreesJ news (i + 1) m' nx) own s₁ { s₁ with heap := h', toks := tk' } := by
  obtain ⟨y0, y1, y2, y3, y4⟩ := fresh_t l3
  obtain ⟨x0, x1, x2, x3, x4⟩ := fresh_t (fun p hp => l4 p (.tail _ hp))
  refine end_trees F N hown (ap_two x4 y4) ⟨?_, h.top x0 y0 (Nat.ne_of_gt (l4 _ (.head _))) x1 x2 x3 y1 y2 y3 hn hp⟩
  exact .tail _ (.tail _ (.tail _ (List.mem_append_right _ hm)))
theorem fresh_kid {q : Int} {y : Addr} {o4 : Obj} (l3 : ∀ p ∈ c :: d :: (ta, o1) :: (pa, o2) :: (la, o3) :: (b q, o4) :: (tl.filter (fun p => p.1 ≠ b q) ++ (news ++ own)), p.1 < y) : ∀ p ∈ c :: d :: (ta, o1) :: (pa, o2) :: (la, o3) :: (tl ++ (news ++ own)), p.1 < y := by
  intro p hp
  by_cases hb : p.1 = b q
  · rw [hb]; exact l3 (b q, o4) (.tail _ (.tail _ (.tail _ (.tail _ (.tail _ (.head _))))))
  · refine l3 p ?_
    simp only [List.mem_cons, List.mem_append, List.mem_filter] at hp ⊢
    grind
theorem kid_end {q : Int} (h : TFacts news i ta pa la a b nm tk ea eb kv LT LL tl) (hq0 : 0 ≤ q) (hq1 : q < (i : Int)) (hown : OwnOff own (ta :: pa :: la :: (tl ++ news).map (·.1))) (F : Fr h₀ L h' m')
    (N : News h₀ L h' ((x, W.listOf [Value.int n t, Value.ref y].toArray ex) :: (y, W.listOf ([] : List Value).toArray ey) :: c :: d :: (ta, W.listOf ((idx i).map (fun j => Value.ref (a j)) ++ [Value.ref x]).toArray e1) :: (pa, W.listOf (LT.labels.map (fun j => Value.ref (a j))).toArray e2) :: (la, W.listOf (LL.labels.map (fun j => Value.ref (a j))).toArray e3) :: (b q, W.listOf (kv q ++ [Value.ref x]).toArray (eb q + 1)) :: (tl.filter (fun p => p.1 ≠ b q) ++ (news ++ own))))
    {o4 : Obj} (l3 : ∀ p ∈ c :: d :: (ta, o1) :: (pa, o2) :: (la, o3) :: (b q, o4) :: (tl.filter (fun p => p.1 ≠ b q) ++ (news ++ own)), p.1 < y) (l4 : ∀ p ∈ (y, o) :: c :: d :: (ta, o1) :: (pa, o2) :: (la, o3) :: (b q, o4) :: (tl.filter (fun p => p.1 ≠ b q) ++ (news ++ own)), p.1 < x)
    (hn : okN n) (hp : Pin m' [("trees", .ref ta), ("tops", .ref pa), ("lone", .ref la)]) (hm : q0 ∈ news) :
    InvEndG h₀ L (fun m' nx => q0 ∈ nx ∧ TreesJ news (i + 1) m' nx) own s₁ { s₁ with heap := h', toks := tk' } := by
  obtain ⟨y0, y1, y2, y3, y4⟩ := fresh_t (fresh_kid l3)
  obtain ⟨x0, x1, x2, x3, x4⟩ := fresh_t (fresh_kid (fun p hp => l4 p (.tail _ hp)))
  have gb := h.g2 q hq0 hq1
  refine end_trees (tl := (b q, W.listOf (kv q ++ [Value.ref x]).toArray (eb q + 1)) :: tl.filter (fun p => p.1 ≠ b q)) F N ?_ (ap_two x4 y4) ⟨?_, h.kid hq0 hq1 x0 y0 (Nat.ne_of_gt (l4 _ (.head _))) x1 x2 x3 y1 y2 y3 hn hp⟩
  · intro p hp z hz
    refine hown p hp z ?_
    simp only [List.mem_cons, List.mem_map, List.mem_append, List.cons_append, List.mem_filter] at hz ⊢
    rcases hz with hz | hz | hz | ⟨p', hp', rfl⟩
    · exact .inl hz
    · exact .inr (.inl hz)
    · exact .inr (.inr (.inl hz))
    · rcases hp' with rfl | hp' | hp'
      · exact .inr (.inr (.inr ⟨_, .inl gb, rfl⟩))
      · exact .inr (.inr (.inr ⟨p', .inl hp'.1, rfl⟩))
      · exact .inr (.inr (.inr ⟨p', .inr hp', rfl⟩))
  · exact .tail _ (.tail _ (.tail _ (List.mem_append_right _ hm)))
end
theorem getq_app {l : List Value} {x v : Value} {q : Nat} (h : l[q]? = some x) : (l ++ [v])[q]? = some x := by
  rw [List.getElem?_append_left (List.getElem?_eq_some_iff.mp h).1, h]
theorem F.conf_kv {val : Int → Value} {kv : Int → List Value} {j : Int} : ∀ {f : F}, f.conf val kv → 0 < f.cnt j → (kv j).length ≤ f.size
  | .nil, _, h => by simp [F.cnt] at h
  | .cons n k r, hc, h => by
    simp only [F.cnt] at h
    simp only [F.size]
    by_cases hn : n = j
    · subst hn
      rw [hc.1, List.length_map, F.labels_len]
      have := F.len_le k
      k_extra "ar9"
    · rw [if_neg hn] at h
      by_cases hk : 0 < k.cnt j
      · have := F.conf_kv hc.2.1 hk; k_extra "ar9"
      · have := F.conf_kv hc.2.2 (j := j) (f := r) (by k_extra "ar9"); k_extra "ar9"
theorem LIn.app {news : List (Addr × Obj)} {xs ys : List Value} {f g : F} (h : LIn news xs f) (k : LIn news ys g) : LIn news (xs ++ ys) (f.app g) := by
  induction h with
  | nil => exact k
  | cons h1 h2 h3 _ _ i4 => exact .cons h1 h2 h3 i4
theorem F.okT_app : ∀ {f g : F}, f.okT → g.okT → (f.app g).okT
  | .nil, _, _, h => h
  | .cons _ _ _, _, h, k => ⟨h.1, h.2.1, F.okT_app h.2.2 k⟩
theorem rows32 : True := by
  (k_with "call type:enumerate" => (k_here; refine Halt.out ?_))
  (k_with "subscriptTail Name BinOp ref int" => (k_here; refine Halt.out ?_))
  (k_with "binaryOp Pow int int" => (k_here; (with_reducible refine pow_int_small ?zqkb1 ?zqkb2 ?zqkb3 ?_); (case zqkb1 => decide); (case zqkb2 => decide); (case zqkb3 => decide)))
  trivial
theorem trees_ct (w : World) (mean : ExcName → Option Value) (mg mb : Str → Option Value) :
    Fun w mean mg mb 172 4 (fun news vs => Ex4 fun a cs ns e => Al4 (vs = [.ref a]) ((a, W.listOf cs.toArray e) ∈ news) (IntsAre cs ns) (ns.length ≤ 9)) (fun tl v => Ex4 fun c xs e f => Al5 (v = .ref c) ((c, W.listOf xs.toArray e) ∈ tl) (LIn tl xs f) (f.okT) (f.size ≤ 10)) := by
  unfold Fun
  k_fill
  intro A A₀ base h₀ outer L m news s env Q E vs B hF X N T hA hf hke hh hdp hu hp hret
  obtain ⟨a0, cs, ns, e0, rfl, ha0, hcs, hnl⟩ := hp
  have hrl : recursionLimit = 1000 := rfl
  refine wpAny_call ?_
  k_enter
  k_steps
  refine Halt.mk ?_
  rename Fr _ _ _ _ => kF
  refine For_enumL kF rfl rfl rfl ?_
  k_steps
  refine Halt.mk ?_
  rename Fr _ _ _ _ => kF
  rename News _ _ _ _ => kN
  refine my_enum (TreesJ news) hh (List.Mem.tail _ (.tail _ (.tail _ ha0))) kF (four_back kN) ?start ?turn ?done
  case start => exact trees_start (by assumption) (by assumption) (by assumption) ⟨rfl, rfl, rfl, trivial⟩
  case turn =>
    intro i t v m₃ nx h₃ tk₃ own hv hJ9 hl hown F₃ N₃
    (try k_fold)
    rcases hJ9 with ⟨ta, pa, la, a, b, nm, tk, ea, eb, kv, LT, LL, e1, e2, e3, tl, rfl, hpin, hT⟩
    have hi : i < ns.length := by rw [← hcs.length]; exact (List.getElem?_eq_some_iff.mp hv).1
    obtain ⟨tv, hv2⟩ := hcs.get i ns[i] (List.getElem?_eq_getElem hi)
    rw [hv2] at hv
    obtain rfl := Option.some.inj hv
    generalize ns[i] = cell at *
    obtain ⟨g1, g2, g3, g4, hap, o1, o2, o3, n1, n2, n3, hLT, hLL, hcnt, hsz, hok⟩ := id hT
    rw [← Pin.eq hpin] at F₃
    have hpos : (0 : Int) < (i : Int) + 1 := by k_extra "ar9"
    have hcell : ∀ z : Int, 0 ≤ z.fmod ((i : Int) + 1) ∧ z.fmod ((i : Int) + 1) < (i : Int) + 1 := fun z => ⟨Int.fmod_nonneg_of_pos _ hpos, Int.fmod_lt_of_pos _ hpos⟩
    have hlen1 : ((idx i).map fun j => Value.ref (a j)).length = i := by simp [idx]
    have hlen2 : (LT.labels.map fun j => Value.ref (a j)).length ≤ 9 := by
      have := F.labels_len LT
      have := F.len_le LT
      rw [List.length_map]; k_extra "ar9"
    have hlen3 : (LL.labels.map fun j => Value.ref (a j)).length ≤ 9 := by
      have := F.labels_len LL
      have := F.len_le LL
      rw [List.length_map]; k_extra "ar9"
    have ow1 : ∀ q ∈ own, q.1 ≠ ta := fun q hq => hown q hq ta (by simp)
    have ow2 : ∀ q ∈ own, q.1 ≠ pa := fun q hq => hown q hq pa (by simp)
    have ow3 : ∀ q ∈ own, q.1 ≠ la := fun q hq => hown q hq la (by simp)
    by_cases hab : 0 < (if cell < 0 then -cell else cell).fmod ((i : Int) + 1)
    · obtain ⟨q, hq⟩ : ∃ q : Nat, (if cell < 0 then -cell else cell).fmod ((i : Int) + 1) - 1 = (q : Int) := Int.eq_ofNat_of_zero_le (Int.le_sub_one_of_lt hab)
      have hqi : q < i := Int.ofNat_lt.mp (by rw [← hq]; exact Int.sub_right_lt_of_lt_add (hcell (if cell < 0 then -cell else cell)).2)
      have hq0 : (0 : Int) ≤ (q : Int) := Int.natCast_nonneg q
      have hqi' : (q : Int) < (i : Int) := Int.ofNat_lt.mpr hqi
      have hqq := And.intro hq0 hqi'
      have hq62 : q < 2 ^ 62 := Nat.lt_trans hqi (Nat.lt_of_lt_of_le (Nat.lt_of_lt_of_le hi hnl) (by decide))
      have ga := g1 q (by k_extra "ar9") (by k_extra "ar9")
      have gb := g2 q (by k_extra "ar9") (by k_extra "ar9")
      have b1 : @Ne Nat ta (b q) := Ne.symm (o1 _ (List.mem_append_left _ gb))
      have b2 : @Ne Nat pa (b q) := Ne.symm (o2 _ (List.mem_append_left _ gb))
      have b3 : @Ne Nat la (b q) := Ne.symm (o3 _ (List.mem_append_left _ gb))
      have hx1 : ((idx i).map fun j => Value.ref (a j))[q]? = some (.ref (a q)) := by simp [idx, hqi]
      have hx2 : ([Value.int (nm q) (tk q), Value.ref (b q)] : List Value)[1]? = some (.ref (b q)) := rfl
      have N₄ := nget (l' := (ta, W.listOf ((idx i).map fun j => Value.ref (a j)).toArray e1) :: (pa, W.listOf (LT.labels.map fun j => Value.ref (a j)).toArray e2) :: (la, W.listOf (LL.labels.map fun j => Value.ref (a j)).toArray e3) :: (b q, W.listOf (kv q).toArray (eb q)) :: (tl.filter (fun p => p.1 ≠ b q) ++ (news ++ own))) N₃ (by
        intro p hp
        simp only [List.mem_cons, List.mem_append, List.mem_filter] at hp ⊢
        grind)
      have fl : ∀ {z : Addr}, (∀ q ∈ tl ++ news, q.1 ≠ z) → (∀ q ∈ own, q.1 ≠ z) → ∀ p ∈ tl.filter (fun p => p.1 ≠ b q) ++ (news ++ own), p.1 ≠ z := fun hz hz' => off_app (fun p hp => hz p (List.mem_append_left _ (List.mem_filter.mp hp).1)) (off_app (fun p hp => hz p (List.mem_append_right _ hp)) hz')
      have p1 := fl o1 ow1
      have p2 := fl o2 ow2
      have p3 := fl o3 ow3
      have p4 : ∀ p ∈ tl.filter (fun p => p.1 ≠ b q) ++ (news ++ own), p.1 ≠ b q := off_app (fun p hp => by simpa using (List.mem_filter.mp hp).2) (off_app (off_ap' hap gb) (fun p hp => hown p hp _ (by
        simp only [List.mem_cons, List.map_cons, List.map_append, List.mem_append]
        exact .inr (.inr (.inr (.inl (List.mem_map.mpr ⟨_, gb, rfl⟩)))))))
      have ga' : (a q, W.listOf [Value.int (nm q) (tk q), Value.ref (b q)].toArray (ea q)) ∈ tl.filter (fun p => p.1 ≠ b q) := List.mem_filter.mpr ⟨ga, by simpa using g4 q q (by k_extra "ar9") (by k_extra "ar9") (by k_extra "ar9") (by k_extra "ar9")⟩
      have hkq : (kv q).length ≤ 9 := by
        have := hcnt q
        rw [if_pos (by k_extra "ar9")] at this
        by_cases hc : 0 < LT.cnt q
        · have := F.conf_kv hLT hc; k_extra "ar9"
        · have := F.conf_kv hLL (j := (q : Int)) (by k_extra "ar9"); k_extra "ar9"
      clear N₃
      k_steps
      refine Halt.mk ?_
      refine my_item_nat (n := q) (x := .ref (a q)) (N := by assumption) (hm := by k_mem) ?k ?f ?d ?_
      case k => exact hq
      case f => k_extra "ar9"
      case d => exact getq_app hx1
      k_steps
      all_goals (rename Fr _ _ _ _ => kF; rename News _ _ _ _ => kN; exact kid_end (q := (q : Int)) hT (by k_extra "ar9") (by k_extra "ar9") hown kF kN (by assumption) (by assumption) (okN_tree (i := i) (by k_extra "ar9") _) ⟨rfl, rfl, rfl, trivial⟩ ha0)
    · have N₄ := nget (l' := (ta, W.listOf ((idx i).map fun j => Value.ref (a j)).toArray e1) :: (pa, W.listOf (LT.labels.map fun j => Value.ref (a j)).toArray e2) :: (la, W.listOf (LL.labels.map fun j => Value.ref (a j)).toArray e3) :: (tl ++ (news ++ own))) N₃ (by
        k_extra "sub9")
      have p1 : ∀ q ∈ tl ++ (news ++ own), q.1 ≠ ta := off_app (fun p hp => o1 p (List.mem_append_left _ hp)) (off_app (fun p hp => o1 p (List.mem_append_right _ hp)) ow1)
      have p2 : ∀ q ∈ tl ++ (news ++ own), q.1 ≠ pa := off_app (fun p hp => o2 p (List.mem_append_left _ hp)) (off_app (fun p hp => o2 p (List.mem_append_right _ hp)) ow2)
      have p3 : ∀ q ∈ tl ++ (news ++ own), q.1 ≠ la := off_app (fun p hp => o3 p (List.mem_append_left _ hp)) (off_app (fun p hp => o3 p (List.mem_append_right _ hp)) ow3)
      clear N₃
      k_steps
      · rename Fr _ _ _ _ => kF
        rename News _ _ _ _ => kN
        exact lone_end hT hown kF kN (by assumption) (by assumption) (okN_tree (by k_extra "ar9") _) ⟨rfl, rfl, rfl, trivial⟩ ha0
      · rename Fr _ _ _ _ => kF
        rename News _ _ _ _ => kN
        exact top_end hT hown kF kN (by assumption) (by assumption) (okN_tree (by k_extra "ar9") _) ⟨rfl, rfl, rfl, trivial⟩ ha0
  case done =>
    intro h₃ tk₃ m₃ nx F₃ N₃ hJ9
    (try k_fold)
    rcases hJ9 with ⟨ta, pa, la, a, b, nm, tk, ea, eb, kv, LT, LL, e1, e2, e3, tl, rfl, hpin, hT⟩
    obtain ⟨g1, g2, g3, g4, hap, o1, o2, o3, n1, n2, n3, hLT, hLL, hcnt, hsz, hok⟩ := id hT
    have hcl := hcs.length
    have hcl9 : cs.length ≤ 9 := by k_extra "ar9"
    rw [← Pin.eq hpin] at F₃
    have hlen2 : (LT.labels.map fun j => Value.ref (a j)).length ≤ 9 := by
      have := F.labels_len LT
      have := F.len_le LT
      rw [List.length_map]; k_extra "ar9"
    have hlen3 : (LL.labels.map fun j => Value.ref (a j)).length ≤ 9 := by
      have := F.labels_len LL
      have := F.len_le LL
      rw [List.length_map]; k_extra "ar9"
    have hll : (LL.labels.map fun j => Value.ref (a j)).length = LL.len := by rw [List.length_map, F.labels_len]
    have hcb : ∀ j, 0 < LT.cnt j → 0 ≤ j ∧ j < (cs.length : Int) := fun j hj => by
      have := hcnt j
      by_cases hx : 0 ≤ j ∧ j < (cs.length : Int)
      · exact hx
      · rw [if_neg hx] at this; k_extra "ar9"
    have hcb2 : ∀ j, 0 < LL.cnt j → 0 ≤ j ∧ j < (cs.length : Int) := fun j hj => by
      have := hcnt j
      by_cases hx : 0 ≤ j ∧ j < (cs.length : Int)
      · exact hx
      · rw [if_neg hx] at this; k_extra "ar9"
    have lT := F.lin g1 g2 hcb hLT
    have lL := F.lin g1 g2 hcb2 hLL
    have okT := F.rel_ok hok LT
    have okL := F.rel_ok hok LL
    have szT := F.rel_size nm LT
    have szL := F.rel_size nm LL
    k_steps
    refine Halt.mk ?_
    rename Fr _ _ _ _ => kF
    rename News _ _ _ _ => kN
    refine cutX kF (fun v nx => Ex5 fun c us e f tl2 => Al8 (v = .ref c) (nx = tl2 ++ ((ta, W.listOf ((idx cs.length).map fun j => Value.ref (a j)).toArray e1) :: (pa, W.listOf (LT.labels.map fun j => Value.ref (a j)).toArray e2) :: (la, W.listOf (LL.labels.map fun j => Value.ref (a j)).toArray e3) :: (tl ++ news))) ((c, W.listOf us.toArray e) ∈ nx) (LIn (tl2 ++ ((la, W.listOf (LL.labels.map fun j => Value.ref (a j)).toArray e3) :: tl)) us f) (us.length ≤ 9) (f.okT) (f.size ≤ LL.size + 1) (Apart tl2 news)) ?_ ?_
    · refine IfExp_ ?_
      k_steps
      · rename Fr _ _ _ _ => kF'
        rename News _ _ _ _ => kN'
        refine XDone.intro (news' := [_, _] ++ _) kF' kN' ⟨_, [_], _, .cons 0 (LL.rel nm) .nil, [_, _], rfl, rfl, .head _, .cons (.tail _ (.head _)) (.tail _ (.tail _ (.head _))) (lL.mono fun p hp => .tail _ (.tail _ (.tail _ hp))) .nil, by simp, ⟨.inr ⟨rfl, ?_⟩, okL, trivial⟩, ?_, ?_⟩
        · rw [F.rel_len]; k_extra "ar9"
        · simp only [F.size]; k_extra "ar9"
        · tb_rel
      · rename Fr _ _ _ _ => kF'
        rename News _ _ _ _ => kN'
        exact XDone.intro (news' := [] ++ _) kF' kN' ⟨_, _, _, LL.rel nm, [], rfl, rfl, .tail _ (.tail _ (.head _)), lL.mono fun p hp => .tail _ hp, by k_extra "ar9", okL.top, by k_extra "ar9", Apart.nil⟩
    intro _ h7 tk7 _ F7 N7 hJ9
    (try k_fold)
    rcases hJ9 with ⟨c, us, e7, f7, tl2, rfl, rfl, hm7, l7, hu7, ok7, sz7, ap7⟩
    have hm8 : (pa, W.listOf (LT.labels.map fun j => Value.ref (a j)).toArray e2) ∈ tl2 ++ ((ta, W.listOf ((idx cs.length).map fun j => Value.ref (a j)).toArray e1) :: (pa, W.listOf (LT.labels.map fun j => Value.ref (a j)).toArray e2) :: (la, W.listOf (LL.labels.map fun j => Value.ref (a j)).toArray e3) :: (tl ++ news)) := List.mem_append_right _ (.tail _ (.head _))
    refine my_add F7 N7 hm8 hm7 (by k_extra "ar9") ?_
    intro D' h' F' N' l1
    k_steps
    rename Fr h₀ L _ _ => kF
    rename News h₀ L _ _ => kN
    refine hret _ ((D', W.listOf (LT.labels.map (fun j => Value.ref (a j)) ++ us).toArray 0) :: (tl2 ++ ((ta, W.listOf ((idx cs.length).map fun j => Value.ref (a j)).toArray e1) :: (pa, W.listOf (LT.labels.map fun j => Value.ref (a j)).toArray e2) :: (la, W.listOf (LL.labels.map fun j => Value.ref (a j)).toArray e3) :: tl))) _ _ kF (nget kN (by
      k_extra "sub9")) ?_ ⟨_, LT.labels.map (fun j => Value.ref (a j)) ++ us, 0, (LT.rel nm).app f7, rfl, .head _, (lT.mono fun p hp => ?_).app (l7.mono fun p hp => ?_), F.okT_app okT.top ok7, by rw [F.size_app]; k_extra "ar9"⟩
    · refine ap_cons (fun q hq => Ne.symm (Nat.ne_of_lt (l1 q ?_))) (ap_app ap7 (ap_cons (fun q hq => Ne.symm (o1 q (List.mem_append_right _ hq))) (ap_cons (fun q hq => Ne.symm (o2 q (List.mem_append_right _ hq))) (ap_cons (fun q hq => Ne.symm (o3 q (List.mem_append_right _ hq))) hap))))
      exact List.mem_append_right _ (.tail _ (.tail _ (.tail _ (List.mem_append_right _ hq))))
    · exact .tail _ (List.mem_append_right _ (.tail _ (.tail _ (.tail _ hp))))
    · simp only [List.mem_cons, List.mem_append] at hp ⊢
      grind
end
theorem rows33 : True := by
  k_with_none
  (k_with "conj9" => first | with_reducible assumption | exact And.left (by with_reducible assumption) | exact And.left (And.right (by with_reducible assumption)) | exact And.left (And.right (And.right (by with_reducible assumption))) | exact And.left (And.right (And.right (And.right (by with_reducible assumption)))) | exact And.left (And.right (And.right (And.right (And.right (by with_reducible assumption))))) | exact And.left (And.right (And.right (And.right (And.right (And.right (by with_reducible assumption)))))) | exact And.left (And.right (And.right (And.right (And.right (And.right (And.right (by with_reducible assumption))))))) | exact And.left (And.right (And.right (And.right (And.right (And.right (And.right (And.right (by with_reducible assumption)))))))) | exact And.left (And.right (And.right (And.right (And.right (And.right (And.right (And.right (And.right (by with_reducible assumption))))))))) | exact And.left (And.right (And.right (And.right (And.right (And.right (And.right (And.right (And.right (And.right (by with_reducible assumption)))))))))))
  (k_with "lt9" => first | k_extra "conj9" | exact Nat.lt_succ_self _ | (refine Nat.lt_trans ?_ (by with_reducible assumption); k_extra "conj9"))
  (k_with "k_ne" => (refine neN ?_; (try dsimp only); (fail_if_success refine ne_twice (by with_reducible rfl) ?_); first | k_extra "conj9" | exact Ne.symm (by k_extra "conj9") | exact Nat.ne_of_lt (by k_extra "lt9") | exact Nat.ne_of_gt (by k_extra "lt9") | omega))
  (k_with "ar9" => first | with_reducible assumption | ((with_reducible show @LT.lt Nat _ _ _); first | exact Nat.lt_of_lt_of_le (by with_reducible assumption) (by decide) | exact Nat.lt_of_le_of_lt (by with_reducible assumption) (by decide) | exact ar_lt1 (by with_reducible assumption) (by decide) | exact ar_lt2 (by with_reducible assumption) (by decide) | exact ar_lt3 (by with_reducible assumption) (by decide) | exact ar_lt0 (by with_reducible assumption) | exact Nat.lt_of_succ_lt (by with_reducible assumption) | exact Nat.sub_lt_sub_left (by with_reducible assumption) (Nat.lt_succ_self _) | exact Nat.sub_lt_sub_left (by with_reducible assumption) (by with_reducible assumption) | exact mm_ne (by with_reducible assumption) (by with_reducible assumption) | exact mm_s (by with_reducible assumption) (by with_reducible assumption) (by with_reducible assumption) | k_extra "conj9") | ((with_reducible show @LE.le Nat _ _ _); first | exact Nat.le_trans (by with_reducible assumption) (by decide) | exact Nat.le_of_lt (by with_reducible assumption) | exact And.left (by with_reducible assumption) | exact And.left (And.right (by with_reducible assumption)) | exact Nat.le_of_lt (by k_extra "conj9")) | ((with_reducible show @Ne _ _ _); first | k_extra "conj9" | exact Ne.symm (by k_extra "conj9") | exact Nat.ne_of_lt (by k_extra "lt9") | exact Nat.ne_of_gt (by k_extra "lt9")) | ((with_reducible show @LT.lt Int _ _ _); first | with_reducible exact Int.ofNat_lt.mpr (by assumption)) | lia | omega)
  (k_with "k_mem" => first | with_reducible assumption | assumption | (refine' List.mem_append_left _ ?_; k_mem) | (refine' List.mem_append_right _ ?_; k_mem))
  (k_with "sub9" => first | exact fun _ h => h | exact sub_nil | (refine sub_cons ?_ ?_; (focus k_mem); k_extra "sub9") | (refine sub_app ?_ ?_; (focus k_extra "sub9"); k_extra "sub9") | (intro zp9 zhp9; k_mem))
  (k_with "subscriptTail" => (k_here; (with_reducible show wpAny _ _ (subscriptTail _ _ (Value.ref _) (Value.int _ _)) _ _ _); k_dflt (refine' my_item ?zqN ?zqm ?zqa ?zqb ?zqd ?_; (case zqN => k_asm); (case zqm => k_mem); (case zqa => decide); (case zqb => decide); (case zqd => rfl))))
  (k_with "eval ListComp" => (k_here; lcg_look; k_dflt (refine LCg.ListComp_U (F₀ := by k_asm) (by rfl) (by decide) (by rfl) (by decide) (by rfl) ?_)))
  (k_with "k_room" => first | ((try simp only [depth_under_make, depth_under_kw, depth_in1, depth_deeper]); k_extra "ar9") | ((try simp only [depth_under_make, depth_under_kw, depth_in1, depth_deeper] at *); k_extra "ar9"))
  (k_with "k_enter" => first | (k_dflt (refine' enter_pos ?zqk1 ?zqk2 ?zqk3 ?zqk4 ?zqk5 ?zqkA ?zqkF ?zqkK ?zqk6 ?zqk7 ?zqk8 ?zqkX ?zqk9 ?zqkN ?zqkB ?_ ?zqc2 ?zqc3 ?zqc4 ?zqc5; (case zqkA => first | assumption | exact rfl | exact Around.frames_deeper (by assumption) | exact Around.frames_deeper (Around.frames_deeper (by assumption)) | exact Around.frames_deeper (Around.frames_deeper (Around.frames_deeper (by assumption)))); (case zqkF => first | assumption | exact rfl); (case zqkK => first | assumption | exact rfl); (case zqk1 => k_asm); (case zqk2 => k_asm); (case zqk3 => k_asm); (case zqk4 => k_asm); (case zqk5 => k_asm); (case zqk6 => k_is); (case zqk7 => k_is); (case zqk8 => k_room); (case zqkX => exact rfl); (case zqk9 => exact rfl); (case zqkN => decide); (case zqkB => decide); (case zqc5 => decide); (case zqc2 => exact rfl); (case zqc3 => exact rfl); (case zqc4 => exact rfl); k_whole; intro zg' zL' zh' ztk' zFG' zF' zN' zB' zX' zT'; (try k_fold))) | (k_dflt (refine' code_defC ?zqk1 ?zqk2 ?zqk3 ?zqk4 ?zqk5 ?zqkA ?zqkF ?zqkK ?zqk6 ?zqk7 ?zqk8 ?zqk9 ?zqkB ?zqkD ?_ ?zqc2 ?zqc3 ?zqc4; (case zqkA => first | assumption | exact rfl | exact Around.frames_deeper (by assumption) | exact Around.frames_deeper (Around.frames_deeper (by assumption)) | exact Around.frames_deeper (Around.frames_deeper (Around.frames_deeper (by assumption)))); (case zqkF => first | assumption | exact rfl); (case zqkK => first | assumption | exact rfl); (case zqk1 => k_asm); (case zqk2 => k_asm); (case zqk3 => k_asm); (case zqk4 => k_asm); (case zqk5 => k_asm); (case zqk6 => k_is); (case zqk7 => k_is); (case zqk8 => k_room); (case zqk9 => first | exact BindsTo.of_eq rfl | exact binds_K (by k_in) rfl (by k_is) rfl rfl rfl | fail "k_enter: no rule for these arguments"); (case zqkB => exact rfl); (case zqkD => decide +kernel); (case zqc2 => exact rfl); (case zqc3 => exact rfl); (case zqc4 => exact rfl); k_whole; intro zg' zL' zh' ztk' zcells' zFG' zF' zN' zY' zB' zX' zT' zl1; (try k_lt zl1); k_cells zY'; (try simp only [List.cons_append, List.nil_append] at zN'); (try dsimp only); (try k_fold))))
  (k_with "tb_start" => first | k_extra "ar9" | ((try simp only [List.size_toArray, Array.size_push, List.length_append, List.length_cons, List.length_nil, sizeLine_eq] at *); k_extra "ar9"))
  (k_with "tb_rel" => first | exact Apart.nil | with_reducible assumption | exact ap_get (by with_reducible assumption) (by k_extra "sub9") | (refine ap_cons (fun q9 hq9 => ?_) ?_; (first | exact ap_lt (by with_reducible assumption) (by k_mem) | exact ap_off (by with_reducible assumption) (by k_mem) | exact ap_lt2 (by assumption) (by with_reducible assumption) (by k_mem)); tb_rel) | (refine ap_app ?_ ?_ <;> tb_rel))
  (k_with "call type:tuple" => (k_here; (with_reducible show wpAny _ _ (call (Value.type _) [Value.ref _]) _ _ _); k_dflt (refine' kde_tupleOf ?zqk1 ?zqk2 ?zqk3 ?zqk4 ?zqk5 ?_; (case zqk1 => k_asm); (case zqk2 => k_asm); (case zqk3 => exact News.isList (by k_asm) (by k_mem)); (case zqk4 => tb_start); (case zqk5 => exact rfl); k_whole); intro zD' zh' zF' zN' zl1; (try k_lt zl1)))
  (k_with "exec While" => (k_here; refine Halt.out ?_))
  (k_with "exec For" => (k_here; refine Halt.out ?_))
  (k_with "exec Raise" => (k_here; refine Halt.out ?_))
  (k_with "call ref" => (k_here; (with_reducible show wpAny _ _ (call (Value.ref 177) _) _ _ _); refine Halt.out ?_))
  (k_with "call ref" => (k_here; (with_reducible show wpAny _ _ (call (Value.ref 187) _) _ _ _); refine Halt.out ?_))
  (k_with "call builtin:len" => (k_here; (with_reducible show wpAny _ _ (call (Value.builtin "len") [Value.ref _]) _ _ _); k_dflt (refine' my_len ?zqk1 ?zqk2 ?zqk3 ?_; (case zqk1 => k_asm); (case zqk2 => k_mem); (case zqk3 => tb_start); k_whole); intro zt' ztk'; (try dsimp only)))
  (k_with "size_fits" => ((try simp only [lit_0, lit_1, lit_2, lit_3, lit_4, lit_5, lit_6, lit_7, S_app, S_len, Str.length_append, List.length_append, List.length_cons, List.length_nil, PySem.sizeLine_eq, List.size_toArray]); k_extra "ar9"))
  (k_with "eval IfExp" => (k_here; refine Halt.out ?_))
  (k_with "nat_is" => first | exact cast_0 | exact cast_1 | with_reducible assumption | exact rfl | exact cast_add1 rfl | exact cast_add1 (cast_add1 rfl) | exact cast_0)
  (k_with "WTurn ret" => (k_here; refine WTurn.out ?_))
  (k_with "subscriptTail Subscript" => (k_here; (with_reducible show wpAny _ _ (subscriptTail _ (PySem.Expr.Slice none none (some _) _) (Value.ref _) (Value.ref _)) _ _ _); k_dflt (refine' krv_ints ?zqF ?zqN ?zql ?zqk ?zqi ?_ ?zqs ?zqt ?zqz; (case zqF => k_asm); (case zqN => k_asm); (case zql => exact News.isList (by k_asm) (by k_mem)); (case zqk => exact IsPart.int _ _); (case zqi => k_asm); (case zqs => with_unfolding_all rfl); (case zqt => kmk_pure); (case zqz => (rw [List.size_toArray, sizeLine_eq]; k_extra "ar9")); k_whole); intro zD' zws' zh' zF' zN' zl9 zhi' zhl'))
  (k_with "subscriptTail Name Slice ref ref" => (k_here; (with_reducible show wpAny _ _ (subscriptTail _ (PySem.Expr.Slice none (some (Expr.UnaryOp _ _ _)) none _) (Value.ref _) (Value.ref _)) _ _ _); k_dflt (refine' kmk_slice_ints ?zqF ?zqN ?zql ?zqp ?zqq ?zqi ?zqm ?zqc ?_ ?zqs ?zqt ?zqz; (case zqF => k_asm); (case zqN => k_asm); (case zql => exact News.isList (by k_asm) (by k_mem)); (case zqp => kmk_part); (case zqq => kmk_part); (case zqi => k_asm); (case zqm => exact kmk_upto_neg (by k_asm) (by decide)); (case zqc => exact rfl); (case zqs => with_unfolding_all rfl); (case zqt => kmk_pure); (case zqz => (rw [List.size_toArray, sizeLine_eq]; k_extra "ar9")); k_whole); intro zD' zws' zh' zF' zN' zl9 zhi' zhl' zhc'; (have zhw' := IntsAre.length zhi')))
  (k_with "setItem ref int" => (k_here; k_dflt (refine' my_setItem ?zqF ?zqN ?zqk ?zqn ?zqz ?zqU ?_; (case zqF => k_asm); (case zqN => k_asm); (case zqk => k_extra "nat_is"); (case zqU => k_upd); (case zqn => k_extra "ar9"); (case zqz => k_extra "ar9"); k_whole); intro zh' zF' zN'; (try dsimp only [List.nil_append, List.cons_append] at zN')))
  (k_with "unpackItems ref" => (k_here; k_dflt (refine' unpackItemsN_ ?zqk1 ?zqk2 ?zqk3 ?zqk4 ?zqk5 ?_; (case zqk1 => k_asm); (case zqk2 => k_asm); (case zqk3 => kun_tup); (case zqk4 => k_asm); (case zqk5 => exact rfl); k_whole); intro zh' zF' zN'; (try k_sweep)))
  (k_with "assign Tuple" => (k_here; (with_reducible show wpAny _ _ (assign (Expr.Tuple _ _ _) _ (Value.ref _)) _ _ _); k_dflt (refine' unpackN_ ?zqk1 ?zqk2 ?zqk3 ?zqk4 ?zqk5 ?zqk6 ?_; (case zqk1 => k_asm); (case zqk2 => k_asm); (case zqk3 => kun_tup); (case zqk4 => k_asm); (case zqk5 => exact rfl); (case zqk6 => exact rfl); k_whole); intro zh' zF' zN'; (try k_sweep)))
  (k_with "s_is" => first | exact rfl | exact lit_0 | exact lit_1 | exact lit_2 | exact lit_3 | exact lit_4 | exact lit_5 | exact lit_6 | exact lit_7)
  (k_with "k_all" => first | with_reducible assumption | exact off_le (by with_reducible assumption) (by k_extra "ar9") | (refine off_app ?_ ?_ <;> k_all))
  (k_with "my_upd" => first | exact Upd.head (by with_reducible assumption) | exact Upd.tail (by with_reducible assumption) (Upd.head (by with_reducible assumption)))
  (k_with "call builtin:list.append" => (k_here; (with_reducible show wpAny _ _ (call (Value.builtin _) [Value.ref _, _]) _ _ _); k_dflt (refine' my_append ?zqk1 ?zqk2 ?zqk3 ?zqz ?_; (case zqk1 => k_asm); (case zqk2 => k_asm); (case zqk3 => first | k_extra "my_upd" | k_upd); (case zqz => k_extra "ar9"); k_whole); intro zh' zF' zN'))
  (k_with "call builtin:len" => (k_here; (with_reducible show wpAny _ _ (call (Value.builtin "len") [Value.str (S _) _]) _ _ _); k_dflt (refine' my_str_len ?zqk3 ?_; (case zqk3 => k_extra "ar9"); k_whole); intro zt' ztk'; (try dsimp only)))
  (k_with "subscriptTail Name Slice str ref" => (k_here; (with_reducible show wpAny _ _ (subscriptTail _ (Expr.Slice (some _) (some _) none _) (Value.str (S _) _) (Value.ref _)) _ _ _); (with_reducible rename Fr _ _ _ _ => zF'); (with_reducible rename News _ _ _ _ => zN'); (first | refine my_str_sign (s := ⟨_, _, _, _, _⟩) zF' zN' (by k_extra "nat_is") (by first | exact rfl | exact cast_add' rfl) (by k_extra "ar9") ?_ | refine my_str_cut (s := ⟨_, _, _, _, _⟩) zF' zN' (by k_extra "nat_is") (by k_extra "nat_is") (by k_extra "ar9") ?_); intro zh' zt' zk' zF' zN'))
  (k_with "subscriptTail" => (k_here; (with_reducible show wpAny _ _ (subscriptTail _ _ (Value.str (S _) _) (Value.int _ _)) _ _ _); (refine my_str_item (by k_extra "nat_is") (by k_extra "ar9") (by k_extra "ar9") ?_); intro zt' ztk'; (try dsimp only)))
  (k_with "subscriptTail Name Name str int" => (k_here; (with_reducible show wpAny _ _ (subscriptTail _ _ (Value.str (S _) _) (Value.int _ _)) _ _ _); (refine my_str_item (by k_extra "nat_is") (by k_extra "ar9") (by k_extra "ar9") ?_); intro zt' ztk'; (try dsimp only)))
  (k_with "compareOp In str str" => (k_here; (with_reducible show wpAny _ _ (compareOp CmpOp.In (Value.str (S [_]) _) (Value.str _ _)) _ _ _); refine my_in ?_))
  (k_with "compareOp Eq str str" => (k_here; (with_reducible show wpAny _ _ (compareOp CmpOp.Eq (Value.str _ _) (Value.str _ _)) _ _ _); refine my_seq (by k_extra "s_is") (by k_extra "s_is") ?_))
  (k_with "compareOp NotEq str str" => (k_here; (with_reducible show wpAny _ _ (compareOp CmpOp.NotEq (Value.str _ _) (Value.str _ _)) _ _ _); refine my_sne (by k_extra "s_is") (by k_extra "s_is") ?_))
  (k_with "call type:int" => (k_here; (with_reducible show wpAny _ _ (call (Value.type "int") [Value.str (S _) _]) _ _ _); refine Halt.out ?_))
  (k_with "exec If" => (k_here; (rename StopLine _ => zsl9); with_reducible refine stop_if zsl9 ?_))
  (k_with "call ref" => (k_here; (with_reducible show wpAny _ _ (call (Value.ref 182) _) _ _ _); refine Halt.out ?_))
  (k_with "call type:bytes" => (k_here; (with_reducible show wpAny _ _ (call (Value.type "bytes") [Value.ref _]) _ _ _); k_dflt (refine' my_bytes ?zqh ?zqF ?zqN ?zqm ?zqi ?zqr ?zqz ?_; (case zqh => k_asm); (case zqF => k_asm); (case zqN => k_asm); (case zqm => k_mem); (case zqi => k_asm); (case zqr => k_asm); (case zqz => omega); k_whole); intro zh' zt' zk' zF' zN'))
  (k_with "subscriptTail" => (k_here; (with_reducible show wpAny _ _ (subscriptTail _ _ (Value.ref _) (Value.int _ _)) _ _ _); k_dflt (refine' my_item_nat ?zqN ?zqm ?zqk ?zqf ?zqd ?_; (case zqN => k_asm); (case zqm => k_mem); (case zqk => k_extra "nat_is"); (case zqd => with_reducible assumption); (case zqf => k_extra "ar9"))))
  (k_with "subscriptTail Name Constant ref int" => (k_here; (with_reducible show wpAny _ _ (subscriptTail _ _ (Value.ref _) (Value.int _ _)) _ _ _); k_dflt (refine' my_item_nat ?zqN ?zqm ?zqk ?zqf ?zqd ?_; (case zqN => k_asm); (case zqm => k_mem); (case zqk => k_extra "nat_is"); (case zqd => with_reducible assumption); (case zqf => k_extra "ar9"))))
  (k_with "binaryOp Add ref ref" => (k_here; (with_reducible show wpAny _ _ (binaryOp _ (Value.ref _) (Value.ref _)) _ _ _); k_dflt (refine' my_add ?zqF ?zqN ?zqa ?zqb ?zqz ?_; (case zqF => k_asm); (case zqN => k_asm); (case zqa => k_mem); (case zqb => k_mem); (case zqz => k_extra "ar9"); k_whole); intro zD' zh' zF' zN' zl1; (try k_lt zl1)))
  (k_with "compareOp Eq ref ref" => (k_here; (with_reducible show wpAny _ _ (compareOp CmpOp.Eq (Value.ref _) (Value.ref _)) _ _ _); k_dflt (refine' my_nil_eq ?zqk1 ?zqk2 ?zqk3 ?zqk4 ?_; (case zqk1 => k_asm); (case zqk3 => exact List.Mem.head _); (case zqk2 => k_mem); (case zqk4 => (try simp only [units_deeper]); k_extra "ar9"); k_whole); intro zr' zhr'))
  (k_with "compareOp NotEq ref ref" => (k_here; (with_reducible show wpAny _ _ (compareOp CmpOp.NotEq (Value.ref _) (Value.ref _)) _ _ _); k_dflt (refine' my_nil_ne ?zqk1 ?zqk2 ?zqk3 ?zqk4 ?_; (case zqk1 => k_asm); (case zqk3 => exact List.Mem.head _); (case zqk2 => k_mem); (case zqk4 => (try simp only [units_deeper]); k_extra "ar9"); k_whole); intro zr' zhr'))
  (k_with "call type:list" => (k_here; (with_reducible show wpAny _ _ (call (Value.type _) [Value.ref _]) _ _ _); k_dflt (refine' my_list ?zqF ?zqN ?zqb ?zqz ?_; (case zqF => k_asm); (case zqN => k_asm); (case zqb => k_mem); (case zqz => k_extra "ar9"); k_whole); intro zD' zc' zh' zF' zN' zl1; (try k_lt zl1)))
  (k_with "subscriptTail" => (k_here; (with_reducible show wpAny _ _ (subscriptTail _ (PySem.Expr.Slice none none (some _) _) (Value.ref _) (Value.ref _)) _ _ _); k_dflt (refine' my_rev ?zqF ?zqN ?zql ?zqk ?_ ?zqs ?zqt ?zqz; (case zqF => k_asm); (case zqN => k_asm); (case zql => k_mem); (case zqk => exact IsPart.int _ _); (case zqs => with_unfolding_all rfl); (case zqt => kmk_pure); (case zqz => k_extra "ar9"); k_whole); intro zD' zh' zF' zN' zl1; (try k_lt zl1)))
  (k_with "subscriptTail Call" => (k_here; (with_reducible show wpAny _ _ (subscriptTail _ (PySem.Expr.Slice none none (some _) _) (Value.ref _) (Value.ref _)) _ _ _); k_dflt (refine' my_rev ?zqF ?zqN ?zql ?zqk ?_ ?zqs ?zqt ?zqz; (case zqF => k_asm); (case zqN => k_asm); (case zql => k_mem); (case zqk => exact IsPart.int _ _); (case zqs => with_unfolding_all rfl); (case zqt => kmk_pure); (case zqz => k_extra "ar9"); k_whole); intro zD' zh' zF' zN' zl1; (try k_lt zl1)))
  (k_with "subscriptTail Name Slice ref ref" => (k_here; (with_reducible show wpAny _ _ (subscriptTail _ (PySem.Expr.Slice none none (some _) _) (Value.ref _) (Value.ref _)) _ _ _); k_dflt (refine' my_rev ?zqF ?zqN ?zql ?zqk ?_ ?zqs ?zqt ?zqz; (case zqF => k_asm); (case zqN => k_asm); (case zql => k_mem); (case zqk => exact IsPart.int _ _); (case zqs => with_unfolding_all rfl); (case zqt => kmk_pure); (case zqz => k_extra "ar9"); k_whole); intro zD' zh' zF' zN' zl1; (try k_lt zl1)))
  (k_with "eval ListComp" => (k_here; (with_reducible show wpAny _ _ (eval (Expr.ListComp (Expr.Call (Expr.Name (Str.ofString "ord") _) _ _ _) _ _ _) _) _ _ _); refine Halt.out ?_))
  trivial
section
open PySem.Calls
section
variable {M : Model} {A : Around} {E : Value → Shared → Prop} {h : Heap} {g : Array GenState} {d : Drawn} {t : Nat} {os : OsState}
variable {nm q : Str} {C N P : Addr} {bs bmB : List Value} {hdct : Bool} {sn : List Str} {sub : List Value} {ab : Bool} {col : Option Bool} {dd : Option Addr} {k0 k1 k2 k3 k5 : Option Value} {B newId initId : String}
theorem two_type {X : String} {b : Bool} (hb : bmB.contains (.type X) = b) : (Value.ref C :: Value.ref P :: bmB).contains (.type X) = b := by
  rw [List.contains_cons, List.contains_cons, hb]; rfl
theorem exc2_check_new (F : ExcBaseFacts B newId initId bmB) {rest : List Value} {Q : Unit → Shared → Prop} (hC : h.get? C = some (excClassObj nm q C N bs (.ref P :: bmB) hdct sn sub ab col dd k0 k1 k2 k3 k5 newId))
    (hq : Q () ⟨h, g, d, t, os⟩) : wpAny M A (checkBuiltinCall newId ⟨.ref C :: rest, []⟩) Q E ⟨h, g, d, t, os⟩ := by
  have c1 := two_type (C := C) (P := P) F.hasB
  have c2 := F.noStar
  simp only [checkBuiltinCall, F.newKind, F.newSplit, F.newRow]
  repeat (first | refine wpAny_loadPart_at hC ?_ | (refine wpAny_isSubtype_exc hC ?_; rw [c1]) | refine wpAny_staticBase_exc hC ?_ | refine wpAny_madeBy_exc hC ?_ | simp only [bne_self_eq_false, Bool.false_eq_true, if_false] | wp_step)
  exact hq
end
section
variable {prog : Program} {w : World} {A : Around} {R : Result → Shared → Prop} {E : Value → Shared → Prop} {h : Heap} {g : Array GenState} {d : Drawn} {t : Nat} {os : OsState}
variable {nm q : Str} {C N P : Addr} {bs bmB : List Value} {hdct : Bool} {sn : List Str} {sub : List Value} {ab : Bool} {col : Option Bool} {dd : Option Addr} {k0 k1 k2 k3 k5 : Option Value} {B newId initId : String}
theorem exc2_new (F : ExcBaseFacts B newId initId bmB) {rest : List Value} (hC : h.get? C = some (excClassObj nm q C N bs (.ref P :: bmB) hdct sn sub ab col dd k0 k1 k2 k3 k5 newId))
    (hq : R (.ok (.ret (.ref (h.objs.size + 1)))) ⟨(h.push { cls := .type "tuple", data := .seq rest.toArray }).push
      { cls := .ref C, data := .fields #[.ref h.objs.size, .none, .none, .none, .bool false, .none] }, g, d, t, os⟩) (hrest : rest.length ≤ sizeLine) :
    codeAny (model prog w) A (.builtin newId ⟨.ref C :: rest, []⟩) R ⟨h, g, d, t, os⟩ := by
  have hends := F.ends
  have c1 := two_type (C := C) (P := P) F.hasB
  have c2 := two_type (C := C) (P := P) F.noAttr
  have c3 := two_type (C := C) (P := P) F.noName
  refine codeAny_builtinAt F.entry ?_
  unfold Builtin.«BaseException.__new__»
  refine _root_.PySem.wpAt_bind ?_
  show _root_.PySem.wpAt _ _ _ (stack >>= _) _ _ _
  refine _root_.PySem.wpAt_bind (_root_.PySem.wpAt_stack fun p below => _root_.PySem.wpAt_of_wpAny ?_)
  wp_walk
  refine _root_.PySem.wpAt_of_wpAny ?_
  rw [F.owner]
  repeat (first | with_reducible refine wpAny_madeHere_exc F.canon hC ?_ | with_reducible refine wpAny_loadPart_at hC ?_ | (with_reducible refine wpAny_isSubtype_exc hC ?_; first | rw [c1] | rw [c2] | rw [c3]) | wp_step)
  show R _ _
  rw [Heap.size_push]
  exact hq

/-- how an exception's class is found to be made: by a function of its parent's -/
structure Init2 (h : Heap) (N P : Addr) (fI : Addr) : Prop where
  own : ∃ mN, h.Ns N mN ∧ mN "__init__" = none
  par : ∃ c0 dP cd sl mP, h.get? P = some { cls := c0, dict := dP, data := .cls cd, slots := sl } ∧ h.Ns cd.ns mP ∧ mP "__init__" = some (.ref fI)
  fn : ∃ oI, h.get? fI = some oI ∧ oI.cls = .type "function"
theorem Init2.keeps {h h' : Heap} {N P fI : Addr} (I : Init2 h N P fI) (k : ∀ b o, h.get? b = some o → h'.get? b = some o) : Init2 h' N P fI := by
  obtain ⟨⟨mN, a1, a2⟩, ⟨c0, dP, cd, sl, mP, b1, b2, b3⟩, ⟨oI, c1, c2⟩⟩ := I
  exact ⟨⟨mN, a1.keeps k, a2⟩, ⟨c0, dP, cd, sl, mP, k _ _ b1, b2.keeps k, b3⟩, ⟨oI, k _ _ c1, c2⟩⟩
theorem exc2_typeLookup {fI : Addr} {M : Model} {Q : Option Value → Shared → Prop} (hC : h.get? C = some (excClassObj nm q C N bs (.ref P :: bmB) hdct sn sub ab col dd k0 k1 k2 k3 k5 newId)) (I : Init2 h N P fI)
    (hq : Q (some (.ref fI)) ⟨h, g, d, t, os⟩) : wpAny M A (typeLookup (.ref C) "__init__") Q E ⟨h, g, d, t, os⟩ := by
  obtain ⟨⟨mN, hn, hni⟩, ⟨c0, dP, cd, sl, mP, hP, hnP, hi⟩, _⟩ := I
  rw [typeLookup_eq]
  refine wpAny_bind (wpAny_mroOf_exc hC ?_)
  rw [lookupAlong_cons]
  refine wpAny_bind (wpAny_classOwn_exc hC hn ?_)
  rw [hni]
  show wpAny _ _ (lookupAlong _ _) _ _ _
  rw [lookupAlong_cons]
  refine wpAny_bind (wpAny_classOwn_cls hP hnP ?_)
  rw [hi]
  exact wpAny_pure hq
theorem exc2_type_call (F : ExcBaseFacts B newId initId bmB) {rest : List Value} {fI : Addr} {Q : Fin → Shared → Prop}
    (hC : h.get? C = some (excClassObj nm q C N bs (.ref P :: bmB) hdct sn sub ab col dd k0 k1 k2 k3 k5 newId)) (I : Init2 h N P fI)
    (hq : ∀ h' e, Heap.MadeExcOf h h' e (.ref C) rest →
      wpAny (model prog w) A (call (.ref fI) (.ref e :: rest)) (fun r s' => r = .none ∧ Q (.done (.ret (.ref e))) s') E ⟨h', g, d, t, os⟩) (hrest : rest.length ≤ sizeLine) :
    wpAny (model prog w) A (Builtin.«type.__call__» ⟨.ref C :: rest, []⟩) Q E ⟨h, g, d, t, os⟩ := by
  repeat (first | with_reducible refine wpAny_loadPart_at hC ?_ | with_reducible refine wpAny_madeBy_exc hC ?_ | wp_step)
  refine codeAny_call_builtin_code (Code.quiet_builtin _ F.quiet) (exc2_check_new F hC ?_)
  refine exc2_new F hC ?_ hrest
  show wpAny _ _ _ _ _ _
  have keep : ∀ b o, h.get? b = some o → ((h.push { cls := .type "tuple", data := .seq rest.toArray }).push { cls := .ref C, data := .fields #[.ref h.objs.size, .none, .none, .none, .bool false, .none] }).get? b = some o :=
    fun b o hb => Heap.get?_push_of_some _ (Heap.get?_push_of_some _ hb)
  have hC₁ := keep _ _ hC
  have I₁ := I.keeps keep
  have hget : ((h.push { cls := .type "tuple", data := .seq rest.toArray }).push
      { cls := .ref C, data := .fields #[.ref h.objs.size, .none, .none, .none, .bool false, .none] }).get? (h.objs.size + 1) = some
      { cls := .ref C, data := .fields #[.ref h.objs.size, .none, .none, .none, .bool false, .none] } := by heap_get
  have hcC : (Value.ref C :: Value.ref P :: bmB).contains (.ref C) = true := by simp
  unfold isInstance
  repeat (first | with_reducible refine wpAny_loadPart_at hget ?_ | (with_reducible refine wpAny_isSubtype_exc hC₁ ?_; rw [hcC]) | wp_step)
  show wpAny _ _ (typeLookup (.ref C) _) _ _ _
  refine exc2_typeLookup hC₁ I₁ ?_
  refine wpAny_holding (wpAny_bind ?_)
  unfold bindSpecial
  obtain ⟨oI, hfI, hfc⟩ := I₁.fn
  refine wpAny_bind (wpAny_typeOf (T := "function") ⟨_, hfI, hfc⟩ ?_)
  rw [if_pos (by decide)]
  refine wpAny_pure (wpAny_bind (wpAny_mono (hq _ (h.objs.size + 1) ⟨keep, Heap.get?_none_of_le (Nat.le_succ _), h.objs.size, hget, Heap.get?_none_of_le (Nat.le_refl _), ?_⟩) (fun r s' hr => ?_) fun _ _ x => x))
  · exact Heap.get?_push_of_some _ (Heap.get?_push_at rfl rfl)
  · obtain ⟨rfl, hQ⟩ := hr
    wp_walk
    exact hQ
theorem exc2_call (F : ExcBaseFacts B newId initId bmB) {rest : List Value} {fI : Addr} {Q : Value → Shared → Prop}
    (hC : h.get? C = some (excClassObj nm q C N bs (.ref P :: bmB) hdct sn sub ab col dd k0 k1 k2 k3 k5 newId)) (I : Init2 h N P fI)
    (hq : ∀ h' e, Heap.MadeExcOf h h' e (.ref C) rest →
      wpAny (model prog w) (A.under (.builtin "type.__call__" ⟨.ref C :: rest, []⟩)) (call (.ref fI) (.ref e :: rest)) (fun r s' => r = .none ∧ Q (.ref e) s') E ⟨h', g, d, t, os⟩) (hrest : rest.length ≤ sizeLine) :
    wpAny (model prog w) A (call (.ref C) rest) Q E ⟨h, g, d, t, os⟩ := by
  have f1 := tc_lookup
  have f2 := tc_bind (.ref C)
  have hT : (⟨h, g, d, t, os⟩ : Shared).TypeIs (.ref C) "type" := ⟨_, hC, rfl⟩
  refine wpAny_call (codeAny_of_tree ?_)
  show wpAny _ _ (callAny (.ref C) _) _ _ _
  repeat (any_goals (first | assumption | with_reducible refine wpAny_loadPart_at hC ?_ | wp_step))
  refine ⟨rfl, ?_⟩
  exact codeAny_call_builtin_at (Code.quiet_builtin _ (by decide +kernel)) entry_typeCall (wpAny_check_type_call_sub hC (exc2_type_call F hC I (fun h' e hm => hq h' e hm) hrest))
end
section
variable {M : Model} {A : Around} {E : Value → Shared → Prop} {env : Env}
variable {nm q : Str} {C N : Addr} {bs bm : List Value} {hdct : Bool} {sn : List Str} {sub : List Value} {ab : Bool} {col : Option Bool} {dd : Option Addr} {k0 k1 k2 k3 k5 : Option Value} {newId : String}
/-- raising an exception that an expression made -/
theorem my_raiseStmt {s : Shared} {x : Sem Value} {Q : Flow → Shared → Prop} (hbase : (Value.ref C :: bm).contains (.type "BaseException") = true) (hh : A.handled = none)
    (h : wpAny M A x (fun v s₁ => ∃ e de a0 sl, v = .ref e ∧ s₁.heap.get? C = some (excClassObj nm q C N bs bm hdct sn sub ab col dd k0 k1 k2 k3 k5 newId) ∧ s₁.heap.get? e = some { cls := .ref C, dict := de, data := .fields #[a0, .none, .none, .none, .bool false, .none], slots := sl } ∧ E (.ref e) s₁) E s) :
    wpAny M A (raiseStmt env (some x) none) Q E s := by
  unfold raiseStmt
  refine wpAny_bind (wpAny_mono h (fun v s₁ h₁ => ?_) fun _ _ x => x)
  obtain ⟨e, de, a0, sl, rfl, hC, he, hE⟩ := h₁
  obtain ⟨hp, g, d, tk, os⟩ := s₁
  repeat (first | with_reducible refine wpAny_loadPart_at he ?_ | with_reducible refine wpAny_loadPart_at hC ?_ | (with_reducible refine wpAny_isSubtype_exc hC ?_; rw [hbase]) | wp_step)
  exact wpAny_raiseNew_none hh hE
end
end
section
open PySem.Calls
theorem ns_at {K : Frag} {h : Heap} {N : Addr} {mg : Str → Option Value} {n : Str} {v : Value} (X : K.In h) (G : h.Ns N mg) (e : nsIn K N n = some (some v)) : mg n = some v := by
  obtain ⟨o, es, ep, ho, hd, _, hf⟩ := G
  unfold nsIn at e
  split at e
  · rename_i q
    have h1 := X _ _ q
    rw [ho] at h1
    cases h1
    cases hd
    split at e
    · rename_i en he
      cases e
      rw [← hf]
      unfold nsFind findBy
      rw [← Array.find?_toList, he]
      rfl
    · split at e <;> cases e
  · cases e
theorem w64 {w : World} {h : Heap} : (hd.heap_1 w.params).In h → Init2 h 63 39 29 ∧ Challenge.rw_or0039_01.row.prog = Challenge.rw_or0039_01.row.prog := by
  k_fill
  intro X
  have n1 : nsOkIn (hd.heap_1 w.params) 63 = true := by kernel_rfl
  have n2 : nsOkIn (hd.heap_1 w.params) 38 = true := by kernel_rfl
  refine ⟨⟨⟨_, .of_isNs (isNs_of_in X n1), nsMap_none_of_in X n1 (by k_is)⟩, ⟨_, _, _, _, _, X _ _ (by k_is), .of_isNs (isNs_of_in X n2), ns_at X (.of_isNs (isNs_of_in X n2)) (by k_is)⟩, ⟨_, X _ _ (by k_is), rfl⟩⟩, rfl⟩
section
variable {prog : Program} {w : World} {A A₀ : Around} {E : Value → Shared → Prop} {s : Shared} {K : Frag} {L : Addr} {h₀ base : Heap} {m mg mb : Str → Option Value} {news : List (Addr × Obj)} {p : Program} {loose : List Str} {mean : ExcName → Option Value}
theorem enter_posB {env : Env} {outer : List Env} {R : Result → Shared → Prop} {name qual : Str} {as : List PySem.Arg} {ds : List PySem.Expr} {body : List Stmt} {scope : Scope} {dV kV doc pm cdv ct oc : Value} {an od : Option Addr} {osl : Array (Option Value)} {f : Addr} {vs : List Value} {xs : List Str}
    (B : Below A₀ base outer h₀) (F : Fr h₀ L s.heap m) (X₀ : K.In h₀) (N : News h₀ L s.heap news) (T : Top p loose mean mg mb h₀) (hA : A.frames = some (env :: outer)) (hf : env.frame = some L) (hke : env.scope.kind = .function)
    (ho : K.lookup f = some ⟨oc, od, .func (fnOf name qual { posonlyargs := [], args := as, vararg := none, kwonlyargs := [], kw_defaults := [], kwarg := none, defaults := ds } body scope dV kV doc pm an cdv ct), osl⟩) (hcd : codeIn K cdv qual = true) (hroom : A.depth < recursionLimit)
    (hxs : as.map (·.arg) = xs)
    (hbind : BindsTo s (fnOf name qual { posonlyargs := [], args := as, vararg := none, kwonlyargs := [], kw_defaults := [], kwarg := none, defaults := ds } body scope dV kV doc pm an cdv ct) ⟨vs, []⟩ (xs.zip vs)) (hnd : xs.Nodup) (hloc : ∀ y ∈ xs, scope.names.lookup y = some .local)
    (h : ∀ g L' h₁ tk, Fr h₀ L g m → Fr g L' h₁ (nm xs vs) → News g L' h₁ news → Below A base (env :: outer) g → K.In g → Top p loose mean mg mb g →
      wpAny (model prog w) (A.deeper (envOf qual scope L' f cdv)) (execs body (envOf qual scope L' f cdv))
        (fun fl s' => LeaveK h₀ L m g R (match fl with | .ret v => v | _ => .none) s')
        (fun e s' => wpAny (model prog w) (A.deeper (envOf qual scope L' f cdv)) (leaving (envOf qual scope L' f cdv) e) (fun _ s'' => R (.error e) s'') (fun e' s'' => R (.error e') s'') s')
        { s with heap := h₁, toks := tk })
    (hco : scope.isCoroutine = false) (hgen : scope.isGenerator = false) (hk : scope.kind = .function)
    (hcell : ∀ x ∈ scope.names, x.2 ≠ .cell) : codeAny (model prog w) A (.call (.ref f) ⟨vs, []⟩) R s :=
  code_def B F X₀ N T hA hf hke ho hcd hroom hbind (fun y hy => hloc _ (List.of_mem_zip hy).1)
    (fun g L' h₁ FG F' N' B' X' T' => h g L' h₁ _ FG (nm_zip xs vs hnd ▸ F') N' B' X' T') hco hgen hk hcell
end
abbrev excO (c : Value) (d : Option Addr) (a : Addr) (sl : Array (Option Value)) : Obj := { cls := c, dict := d, data := .fields #[.ref a, .none, .none, .none, .bool false, .none], slots := sl }
end
theorem rows34 : True := by
  (k_with "call ref" => (k_here; (with_reducible show wpAny _ _ (call (Value.ref 64) _) _ _ _); refine Halt.out ?_))
  (k_with "getMethod" => (k_here; (with_reducible show wpAny _ _ (getMethod (Value.type "Exception") _ _) _ _ _); k_dflt (refine' method_type (T := "Exception") ?zqF ?zqX ?zqa ?zqb ?zqc ?zqd ?_; (case zqF => k_asm); (case zqX => k_asm); (case zqa => kernel_rfl); (case zqb => decide +kernel); (case zqc => k_is); (case zqd => rfl); k_whole)))
  (k_with "call" => (k_here; (with_reducible show wpAny _ _ (call (Value.builtin "Exception.__init__") _) _ _ _); refine Halt.out ?_))
  trivial
section
open PySem.Calls
theorem exc2_check_init {M : Model} {A : Around} {E : Value → Shared → Prop} {h : Heap} {g : Array GenState} {d : Drawn} {t : Nat} {os : OsState} {nm q : Str} {C N P : Addr} {bs bmB : List Value} {hdct : Bool} {sn : List Str} {sub : List Value} {ab : Bool} {col : Option Bool} {dd : Option Addr} {k0 k1 k2 k3 k5 : Option Value} {B newId initId : String}
    (F : ExcBaseFacts B newId initId bmB) {e : Addr} {oe : Obj} {rest : List Value} {Q : Unit → Shared → Prop}
    (hC : h.get? C = some (excClassObj nm q C N bs (.ref P :: bmB) hdct sn sub ab col dd k0 k1 k2 k3 k5 newId)) (he : h.get? e = some oe) (hcls : oe.cls = .ref C) (hq : Q () ⟨h, g, d, t, os⟩) :
    wpAny M A (checkBuiltinCall initId ⟨.ref e :: rest, []⟩) Q E ⟨h, g, d, t, os⟩ := by
  have c1 := two_type (C := C) (P := P) F.hasB
  have c2 := F.noStar
  simp only [checkBuiltinCall, F.initKind, F.initSplit, F.initRow]
  repeat (first | (with_reducible refine wpAny_loadPart_at he ?_; rw [hcls]) | with_reducible refine wpAny_loadPart_at hC ?_ | (with_reducible refine wpAny_isSubtype_exc hC ?_; rw [c1]) | wp_step)
  refine wpAny_onRaise ?_
  rw [show ∀ (a b : String) (n : Nat), Bind.check ⟨.positional, "*", B, .self, [⟨"args", .varPos, false⟩]⟩ a b n (List.map (fun x => x.fst) ({ pos := Value.ref e :: rest } : Args).kw) = pure () from
    fun a b n => check_star_args _ _ _ _ _ _]
  exact wpAny_pure hq
theorem my_excInit {prog : Program} {w : World} {A : Around} {E : Value → Shared → Prop} {s : Shared} {h₀ : Heap} {L : Addr} {m : Str → Option Value} {news : List (Addr × Obj)} {nm q : Str} {C N' P : Addr} {bs bmB : List Value} {hdct : Bool} {sn : List Str} {sub : List Value} {ab : Bool} {col : Option Bool} {dd : Option Addr} {k0 k1 k2 k3 k5 : Option Value} {B newId initId : String}
    (FB : ExcBaseFacts B newId initId bmB) {e : Addr} {de : Option Addr} {a0 : Addr} {sl : Array (Option Value)} {rest : List Value} {Q : Value → Shared → Prop}
    (F : Fr h₀ L s.heap m) (N : News h₀ L s.heap ((e, excO (.ref C) de a0 sl) :: news)) (hap : ∀ p ∈ news, p.1 ≠ e)
    (hC : h₀.get? C = some (excClassObj nm q C N' bs (.ref P :: bmB) hdct sn sub ab col dd k0 k1 k2 k3 k5 newId)) (hz : rest.length ≤ sizeLine)
    (h : ∀ h' t, Fr h₀ L h' m → News h₀ L h' ((e, excO (.ref C) de t sl) :: news) → Q .none { s with heap := h' }) :
    wpAny (model prog w) A (call (.builtin initId) (.ref e :: rest)) Q E s := by
  obtain ⟨hp, g, d, t, os⟩ := s
  have he : hp.get? e = some (excO (.ref C) de a0 sl) := (N _ (.head _)).1
  refine wpAny_call (codeAny_call_builtin FB.init.plain FB.initEntry (exc2_check_init FB (F.keep _ _ hC) he rfl ?_))
  wp_walk
  have he1 : (hp.push { cls := .type "tuple", data := .seq rest.toArray }).get? e = some (excO (.ref C) de a0 sl) := Heap.get?_push_of_some _ he
  refine h _ hp.objs.size ((F.push _).change (Heap.SameBut.update ..) (N _ (.head _)).2.1 (N _ (.head _)).2.2) ?_
  refine News.setHead (nget (News.push F N { cls := .type "tuple", data := .seq rest.toArray }) (fun p hp => .tail _ hp)) hap (Heap.SameBut.update ..) ?_
  exact Heap.get?_update_self _ he1 rfl
end
section
open PySem.Calls Builtin Builtin.ObjectAttr
/-- what both classes leave to the built-in one -/
noncomputable def Free2 (h : Heap) (N P : Addr) (name : Str) : Prop :=
  (∃ mN, h.Ns N mN ∧ mN name = none) ∧ ∃ c0 dP cd sl mP, h.get? P = some { cls := c0, dict := dP, data := .cls cd, slots := sl } ∧ h.Ns cd.ns mP ∧ mP name = none
theorem Free2.keeps {h h' : Heap} {N P : Addr} {name : Str} (I : Free2 h N P name) (k : ∀ b o, h.get? b = some o → h'.get? b = some o) : Free2 h' N P name := by
  obtain ⟨⟨mN, a1, a2⟩, c0, dP, cd, sl, mP, b1, b2, b3⟩ := I
  exact ⟨⟨mN, a1.keeps k, a2⟩, c0, dP, cd, sl, mP, k _ _ b1, b2.keeps k, b3⟩
section
variable {prog : Program} {w : World} {A : Around} {E : Value → Shared → Prop} {h : Heap} {g : Array GenState} {d : Drawn} {t : Nat} {os : OsState}
variable {nm q : Str} {C N P x : Addr} {bs bmB : List Value} {sn : List Str} {sub : List Value} {ab : Bool} {col : Option Bool} {dd : Option Addr} {k0 k1 k2 k3 k5 : Option Value} {B newId sa owner : String}
  {name : Str} {v : Value}
theorem exc2_lookup {M : Model} {hdct : Bool} {y : Option Value} {Q : Option Value → Shared → Prop} (hC : h.get? C = some (excClassObj nm q C N bs (.ref P :: bmB) hdct sn sub ab col dd k0 k1 k2 k3 k5 newId)) (I : Free2 h N P name)
    (hbm : mroOf (.type B) = pure bmB) (hB : typeLookup (.type B) name = pure y) (hq : Q y ⟨h, g, d, t, os⟩) : wpAny M A (typeLookup (.ref C) name) Q E ⟨h, g, d, t, os⟩ := by
  obtain ⟨⟨mN, hn, hni⟩, c0, dP, cd, sl, mP, hP, hnP, hi⟩ := I
  have hrest : lookupAlong bmB name = pure y := by rw [typeLookup_eq, hbm] at hB; exact hB
  rw [typeLookup_eq]
  refine wpAny_bind (wpAny_mroOf_exc hC ?_)
  rw [lookupAlong_cons]
  refine wpAny_bind (wpAny_classOwn_exc hC hn ?_)
  rw [hni]
  show wpAny _ _ (lookupAlong _ _) _ _ _
  rw [lookupAlong_cons]
  refine wpAny_bind (wpAny_classOwn_cls hP hnP ?_)
  rw [hi]
  show wpAny _ _ (lookupAlong _ _) _ _ _
  rw [hrest]
  exact wpAny_pure hq
theorem exc2_check_sa {M : Model} {o : Obj} {nameV : Value} {Q : Unit → Shared → Prop} (SF : StoreFacts B bmB sa owner)
    (hC : h.get? C = some (excClassObj nm q C N bs (.ref P :: bmB) true sn sub ab col dd k0 k1 k2 k3 k5 newId)) (hx : h.get? x = some o) (hc : o.cls = .ref C) (hq : Q () ⟨h, g, d, t, os⟩) :
    wpAny M A (checkBuiltinCall sa ⟨[.ref x, nameV, v], []⟩) Q E ⟨h, g, d, t, os⟩ := by
  have c1 := two_type (C := C) (P := P) SF.hasOwner
  have ha := SF.args (.ref x) nameV v
  simp only [checkBuiltinCall, SF.kind, SF.split]
  refine wpAny_bind ?_
  · unfold isInstance
    repeat (first | (with_reducible refine wpAny_loadPart_at hx ?_; rw [hc]) | (with_reducible refine wpAny_isSubtype_exc hC ?_; rw [c1]) | wp_step)
    cases hsig : Manifest.signature? sa with
    | none => exact wpAny_pure hq
    | some sig =>
      simp only [argsOk, hsig] at ha
      have h2 : Bind.checkArgs sa sig ⟨[.ref x, nameV, v], []⟩ = pure () := ha
      show wpAny M A (Bind.checkArgs sa sig ⟨[.ref x, nameV, v], []⟩) Q E _
      rw [h2]; exact wpAny_pure hq
theorem exc2_store1 {tk : Tok} {Qf : Fin → Shared → Prop} {a0 : Addr} {sl : Array (Option Value)} {h₀ : Heap} {L : Addr} {m : Str → Option Value} {news : List (Addr × Obj)} (SF : StoreFacts B bmB sa owner)
    (F : Fr h₀ L h m) (Nw : News h₀ L h ((x, excO (.ref C) none a0 sl) :: news)) (hap : ∀ p ∈ news, p.1 ≠ x)
    (hC : h.get? C = some (excClassObj nm q C N bs (.ref P :: bmB) true sn sub ab col dd k0 k1 k2 k3 k5 newId)) (I : Free2 h N P name)
    (hB : typeLookup (.type B) name = pure none)
    (hq : ∀ h' dx od tk', Fr h₀ L h' m → News h₀ L h' ((x, excO (.ref C) (some dx) a0 sl) :: (dx, od) :: news) → dx ≠ x → (∀ p ∈ news, p.1 ≠ dx) → h'.Ns1 dx (fun y => if y = name then some v else none) → Qf (.done (.ret .none)) ⟨h', g, d, tk', os⟩) :
    wpAny (model prog w) A (Builtin.«object.__setattr__» ⟨[.ref x, .str name tk, v], []⟩) Qf E ⟨h, g, d, t, os⟩ := by
  have hpass := SF.passes (.ref x)
  obtain ⟨o, ho⟩ : ∃ o, o = excO (.ref C) none a0 sl := ⟨_, rfl⟩
  have hx := (Nw _ (.head _)).1
  rw [← ho] at hx
  have hc : o.cls = .ref C := by rw [ho]
  have hdn : o.dict = none := by rw [ho]
  unfold Builtin.«object.__setattr__»
  repeat (first | rw [refuse_eq] | (rw [refuseLoop_ref, refuseLoop_ref, hpass]) | (with_reducible refine wpAny_loadPart_at hx ?_; rw [hc]) | with_reducible refine wpAny_mroOf_exc hC ?_ | (with_reducible refine exc2_lookup hC I SF.mro hB ?_) | wp_step)
  rw [hdn, if_neg (by simp [typeHasDict])]
  subst ho
  show wpAny _ _ (alloc _ >>= _) _ _ _
  have hxs : x ≠ h.objs.size := Nat.ne_of_lt (Heap.lt_size hx)
  refine wpAny_bind (wpAny_alloc' ?_)
  have N1 := News.push F Nw { cls := .type "dict", data := .dict #[] }
  have F1 := F.push { cls := .type "dict", data := .dict #[] }
  have hx₁ : (h.push { cls := .type "dict", data := .dict #[] }).get? x = some (excO (.ref C) none a0 sl) := Heap.get?_push_of_some _ hx
  refine wpAny_bind (wpAny_update' hx₁ ?_)
  have s1 : Heap.SameBut x (h.push { cls := .type "dict", data := .dict #[] }) ((h.push { cls := .type "dict", data := .dict #[] }).update x fun o => { cls := o.cls, dict := some h.objs.size, data := o.data, slots := o.slots }) := Heap.SameBut.update ..
  have g1 := Heap.get?_update_self (fun o => { cls := o.cls, dict := some h.objs.size, data := o.data, slots := o.slots : Obj }) hx₁ rfl
  have F2 := F1.change s1 (Nw _ (.head _)).2.1 (Nw _ (.head _)).2.2
  have N2 := News.setHead (nget (l' := (x, excO (.ref C) none a0 sl) :: (h.objs.size, { cls := .type "dict", data := .dict #[] }) :: news) N1 (by
    intro p hp
    simp only [List.mem_cons] at hp ⊢
    grind)) (fun p hp => by
      rcases List.mem_cons.mp hp with rfl | hp
      · exact hxs.symm
      · exact hap p hp) s1 g1
  generalize (h.push { cls := .type "dict", data := .dict #[] }).update x (fun o => { cls := o.cls, dict := some h.objs.size, data := o.data, slots := o.slots }) = h2 at F2 N2 g1 s1 ⊢
  have hnd : h2.Ns h.objs.size (fun _ => none) :=
    ⟨_, #[], _, (N2 _ (.tail _ (.head _))).1, rfl, fun e he => absurd he (by simp), fun _ => rfl⟩
  have hlt : ∀ p ∈ news, p.1 ≠ h.objs.size := fun p hp => Nat.ne_of_lt (Heap.lt_size (Nw p (.tail _ hp)).1)
  generalize h.objs.size = dx at *
  refine wpAny_pure ?_
  show wpAny _ _ (storeInDict dx (.str name tk) name v) _ _ _
  unfold storeInDict newKeyGuard
  refine wpAny_bind (wpAny_pure (wpAny_bind (wpAny_nsSet1 (Heap.Ns1.of_empty hnd) fun h' hn' hs => ?_)))
  obtain ⟨oD, esD, epD, hoD, hdD, hcD⟩ := hn'.count (Within.cons name v Within.nil)
  refine wpAny_bind (wpAny_lookBehind hoD (by rw [hdD]; exact pastItsLine_dict (Nat.le_trans hcD (by rw [List.length_cons, List.length_nil, sizeLine_eq]; k_extra "ar9"))) ?_)
  wp_walk
  have md := N2 _ (.tail _ (.head _))
  have F3 := F2.change hs md.2.1 md.2.2
  have N3 := News.setSecond N2 hxs hlt hs hoD
  exact hq _ dx _ _ F3 N3 hxs.symm hlt hn'
theorem exc2_store2 {tk : Tok} {Qf : Fin → Shared → Prop} {a0 dx : Addr} {od : Obj} {m1 : Str → Option Value} {n1 : Str} {sl : Array (Option Value)} {h₀ : Heap} {L : Addr} {m : Str → Option Value} {news : List (Addr × Obj)} (SF : StoreFacts B bmB sa owner)
    (F : Fr h₀ L h m) (Nw : News h₀ L h ((x, excO (.ref C) (some dx) a0 sl) :: (dx, od) :: news)) (hdx : dx ≠ x) (hap : ∀ p ∈ news, p.1 ≠ dx) (hns : h.Ns1 dx m1) (hw : Within m1 [n1])
    (hC : h.get? C = some (excClassObj nm q C N bs (.ref P :: bmB) true sn sub ab col dd k0 k1 k2 k3 k5 newId)) (I : Free2 h N P name)
    (hB : typeLookup (.type B) name = pure none)
    (hq : ∀ h' od' tk', Fr h₀ L h' m → News h₀ L h' ((x, excO (.ref C) (some dx) a0 sl) :: (dx, od') :: news) → Qf (.done (.ret .none)) ⟨h', g, d, tk', os⟩) :
    wpAny (model prog w) A (Builtin.«object.__setattr__» ⟨[.ref x, .str name tk, v], []⟩) Qf E ⟨h, g, d, t, os⟩ := by
  have hpass := SF.passes (.ref x)
  obtain ⟨o, ho⟩ : ∃ o, o = excO (.ref C) (some dx) a0 sl := ⟨_, rfl⟩
  have hx := (Nw _ (.head _)).1
  rw [← ho] at hx
  have hc : o.cls = .ref C := by rw [ho]
  have hdn : o.dict = (some dx) := by rw [ho]
  unfold Builtin.«object.__setattr__»
  repeat (first | rw [refuse_eq] | (rw [refuseLoop_ref, refuseLoop_ref, hpass]) | (with_reducible refine wpAny_loadPart_at hx ?_; rw [hc]) | with_reducible refine wpAny_mroOf_exc hC ?_ | (with_reducible refine exc2_lookup hC I SF.mro hB ?_) | wp_step)
  rw [hdn]
  subst ho
  refine wpAny_pure ?_
  show wpAny _ _ (storeInDict dx (.str name tk) name v) _ _ _
  unfold storeInDict newKeyGuard
  refine wpAny_bind (wpAny_pure (wpAny_bind (wpAny_nsSet1 hns fun h' hn' hs => ?_)))
  obtain ⟨oD, esD, epD, hoD, hdD, hcD⟩ := hn'.count (Within.cons name v hw)
  refine wpAny_bind (wpAny_lookBehind hoD (by rw [hdD]; exact pastItsLine_dict (Nat.le_trans hcD (by rw [List.length_cons, List.length_singleton, sizeLine_eq]; k_extra "ar9"))) ?_)
  wp_walk
  have md := Nw _ (.tail _ (.head _))
  exact hq _ _ _ (F.change hs md.2.1 md.2.2) (News.setSecond Nw hdx.symm hap hs hoD)
theorem exc2_setAttr {Q : Unit → Shared → Prop} {o : Obj} (SF : StoreFacts B bmB sa owner)
    (hC : h.get? C = some (excClassObj nm q C N bs (.ref P :: bmB) true sn sub ab col dd k0 k1 k2 k3 k5 newId)) (hx : h.get? x = some o) (hc : o.cls = .ref C) (I : Free2 h N P "__setattr__")
    (hq : ∀ tk, wpAny (model prog w) (A.in1) (Builtin.«object.__setattr__» ⟨[.ref x, .str name tk, v], []⟩) (fun f s' => f = .done (.ret .none) ∧ Q () s') (fun e s' => E e s') ⟨h, g, d, t + 1, os⟩) :
    wpAny (model prog w) A (setAttr (.ref x) name v) Q E ⟨h, g, d, t, os⟩ := by
  have f3 := SF.slot.bind (.ref x)
  unfold setAttr callSpecial? specialOf
  repeat (any_goals (first | assumption | (with_reducible refine wpAny_loadPart_at hx ?_; rw [hc]) | (with_reducible refine exc2_lookup hC I SF.mro SF.slot.lookup ?_) | wp_step))
  refine codeAny_call_builtin SF.slot.plain SF.entry (exc2_check_sa SF hC hx hc ?_)
  refine wpAny_mono (hq _) (fun f s' hf => ?_) (fun e s' he => he)
  obtain ⟨rfl, hQ⟩ := hf
  exact wpAny_pure (wpAny_pure hQ)
end
theorem w64f {w : World} {h : Heap} : (hd.heap_1 w.params).In h → (Free2 h 63 39 "what" ∧ Free2 h 63 39 "at" ∧ Free2 h 63 39 "__setattr__") ∧ Challenge.rw_or0039_01.row.prog = Challenge.rw_or0039_01.row.prog := by
  k_fill
  intro X
  have n1 : nsOkIn (hd.heap_1 w.params) 63 = true := by kernel_rfl
  have n2 : nsOkIn (hd.heap_1 w.params) 38 = true := by kernel_rfl
  refine ⟨⟨⟨⟨_, .of_isNs (isNs_of_in X n1), nsMap_none_of_in X n1 (by k_is)⟩, ⟨_, _, _, _, _, X _ _ (by k_is), .of_isNs (isNs_of_in X n2), nsMap_none_of_in X n2 (by k_is)⟩⟩, ⟨⟨_, .of_isNs (isNs_of_in X n1), nsMap_none_of_in X n1 (by k_is)⟩, ⟨_, _, _, _, _, X _ _ (by k_is), .of_isNs (isNs_of_in X n2), nsMap_none_of_in X n2 (by k_is)⟩⟩, ⟨⟨_, .of_isNs (isNs_of_in X n1), nsMap_none_of_in X n1 (by k_is)⟩, ⟨_, _, _, _, _, X _ _ (by k_is), .of_isNs (isNs_of_in X n2), nsMap_none_of_in X n2 (by k_is)⟩⟩⟩, rfl⟩
theorem what_free : PySem.typeLookup (.type "Exception") "what" = pure none := by rw [typeLookup_type, builtinLookup_eq_fast]; kernel_rfl
theorem at_free : PySem.typeLookup (.type "Exception") "at" = pure none := by rw [typeLookup_type, builtinLookup_eq_fast]; kernel_rfl
end
theorem rows35 : True := by
  (k_with "setAttr ref" => (k_here; (with_reducible show wpAny _ _ (setAttr (Value.ref _) ("what" : Str) _) _ _ _); refine Halt.out ?_))
  (k_with "setAttr ref" => (k_here; (with_reducible show wpAny _ _ (setAttr (Value.ref _) ("at" : Str) _) _ _ _); refine Halt.out ?_))
  trivial
section
open PySem.Calls Builtin Builtin.ObjectAttr
theorem wire_make (w : World) (mean : ExcName → Option Value) (mg mb : Str → Option Value) :
    ∀ (A A₀ : Around) (base h₀ : Heap) (outer : List Env) (L : Addr) (m : Str → Option Value) (news : List (Addr × Obj)) (s : Shared) (env : Env) (Q E : Value → Shared → Prop) (what : Str) (tw tn : Tok) (n : Int),
    Below A₀ base outer h₀ → Fr h₀ L s.heap m → (hd.heap_1 w.params).In h₀ → News h₀ L s.heap news → Top seenText LOOSE mean mg mb h₀ →
    A.frames = some (env :: outer) → env.frame = some L → env.scope.kind = .function → A.handled = none →
    A.depth + 4 < recursionLimit → A.units + 64 < cLine →
    (∀ h' tk' e d a sl, Fr h₀ L h' m → News h₀ L h' ((e, excO (.ref 64) d a sl) :: news) → (∀ p ∈ news, p.1 ≠ e) → Q (.ref e) { s with heap := h', toks := tk' }) →
    wpAny (model Challenge.rw_or0039_01.row.prog w) A (call (.ref 64) [.str what tw, .int n tn]) Q E s := by
  k_fill
  intro A A₀ base h₀ outer L m news s env Q E what tw tn n B hF X N T hA hf hke hh hdp hu hret
  have hrl : recursionLimit = 1000 := rfl
  obtain ⟨h, g, d, t, os⟩ := s
  refine exc2_call (C := 64) (P := 39) (N := 63) PySem.F.excBase_Exception (hF.keep _ _ (X _ _ (by k_is))) ((w64 X).1.keeps hF.keep) (fun h' e hm => ?_) (by simp only [List.length_cons, List.length_nil, sizeLine_eq]; k_extra "ar9")
  obtain ⟨a, he, hna, ha⟩ := hm.there
  have hF' : Fr h₀ L h' m := hF.keeps hm.keeps
  have hnw : ∀ p ∈ news, p.1 ≠ e := fun p hp z => by have := (N p hp).1; rw [z, hm.new] at this; cases this
  have fresh : ∀ b, h.get? b = none → h₀.get? b = none := fun b hb => by
    cases hq : h₀.get? b with
    | none => rfl
    | some o' => have := hF.keep b o' hq; rw [hb] at this; cases this
  have nL : ∀ b, h.get? b = none → b ≠ L := fun b hb z => by
    obtain ⟨oL, _, _, hoL, _⟩ := hF.ns
    rw [z, hoL] at hb; cases hb
  have N₂ : News h₀ L h' ((e, excO (.ref 64) none a #[]) :: (a, { cls := .type "tuple", data := .seq [.str what tw, .int n tn].toArray }) :: news) := by
    intro q hq
    rcases List.mem_cons.mp hq with rfl | hq
    · exact ⟨he, nL _ hm.new, fresh _ hm.new⟩
    rcases List.mem_cons.mp hq with rfl | hq
    · exact ⟨ha, nL _ hna, fresh _ hna⟩
    exact ⟨hm.keeps _ _ (N q hq).1, (N q hq).2⟩
  have hap : ∀ p ∈ (a, ({ cls := .type "tuple", data := .seq [.str what tw, .int n tn].toArray } : Obj)) :: news, p.1 ≠ e := fun p hp => by
    rcases List.mem_cons.mp hp with rfl | hp
    · exact fun z : a = e => by rw [z, he] at ha; cases ha
    · exact hnw p hp
  have hA' : (A.under (Code.builtin "type.__call__" ⟨[.ref 64, .str what tw, .int n tn], []⟩)).frames = some (env :: outer) := hA
  have hh' : (A.under (Code.builtin "type.__call__" ⟨[.ref 64, .str what tw, .int n tn], []⟩)).handled = none := hh
  have hdp' : (A.under (Code.builtin "type.__call__" ⟨[.ref 64, .str what tw, .int n tn], []⟩)).depth + 3 < recursionLimit := by rw [depth_under_make]; k_extra "ar9"
  have hu' : (A.under (Code.builtin "type.__call__" ⟨[.ref 64, .str what tw, .int n tn], []⟩)).units + 60 < cLine := by rw [units_under_make]; k_extra "ar9"
  generalize A.under (Code.builtin "type.__call__" ⟨[.ref 64, .str what tw, .int n tn], []⟩) = A' at *
  clear hA hh hdp hu N hF
  refine wpAny_call ?_
  refine' enter_posB (xs := ["self", "what", "at"]) B hF' X N₂ T hA' hf hke ?k6 ?k7 ?k8 ?kX ?k9 ?kN ?kB ?_ ?c2 ?c3 ?c4 ?c5
  case k6 => k_is
  case k7 => k_is
  case k8 => k_extra "ar9"
  case kX => exact rfl
  case k9 => exact binds_K (Frag.In.keeps X hF'.keep) rfl (by k_is) rfl rfl rfl
  case kN => decide
  case kB => decide
  case c5 => decide
  case c2 => exact rfl
  case c3 => exact rfl
  case c4 => exact rfl
  intro g' L' h' tk' FG' F' N' B' X' T'
  k_steps
  refine Halt.mk ?_
  rename Fr g' _ _ _ => kF
  rename News g' _ _ _ => kN
  refine my_excInit PySem.F.excBase_Exception kF kN ?_ (X' _ _ (by k_is)) (by simp only [List.length_cons, List.length_nil, sizeLine_eq]; k_extra "ar9") ?_
  · exact hap
  intro h₂ t₂ F₂ N₃
  clear kF kN
  k_steps
  refine Halt.mk ?_
  have XK := X'.keeps F₂.keep
  refine exc2_setAttr PySem.F.store_Exception (XK _ _ (by k_is)) (N₃ _ (.head _)).1 rfl (w64f XK).1.2.2 fun tk => exc2_store1 PySem.F.store_Exception F₂ N₃ hap (XK _ _ (by k_is)) (w64f XK).1.1 what_free ?_
  intro h₃ dx od tk₃ F₃ N₄ ndx hdx hns
  refine ⟨rfl, ?_⟩
  clear XK F₂ N₃
  k_steps
  refine Halt.mk ?_
  have XK := X'.keeps F₃.keep
  refine exc2_setAttr PySem.F.store_Exception (XK _ _ (by k_is)) (N₄ _ (.head _)).1 rfl (w64f XK).1.2.2 fun tk => exc2_store2 PySem.F.store_Exception F₃ N₄ ndx hdx hns (Within.cons _ _ Within.nil) (XK _ _ (by k_is)) (w64f XK).1.2.1 at_free ?_
  intro h₄ od' tk₄ F₄ N₅
  refine ⟨rfl, ?_⟩
  clear XK F₃ N₄
  k_steps
  rename Fr h₀ L _ _ => kF
  rename News h₀ L _ _ => kN
  exact hret _ _ e _ _ _ kF (nget kN (fun p hp => by
    rcases List.mem_cons.mp hp with rfl | hp
    · exact .head _
    · exact .tail _ (.tail _ (.tail _ hp)))) (fun p hp => hap p (.tail _ hp))
end
section
open PySem.Calls
/-- a WireFault in the air, above the ground G -/
noncomputable def Flies (base G : Heap) (l : List Env) (e : Addr) (news : List (Addr × Obj)) (h : Heap) : Prop :=
  ∃ B a0, base.StaysIn B ∧ (∀ b o, G.get? b = some o → b ∉ l.filterMap (·.frame) → B.get? b = some o) ∧ (∀ q ∈ news, B.get? q.1 = some q.2 ∧ G.get? q.1 = none ∧ base.get? q.1 = none) ∧ Heap.FlyingW B l e (.ref 64) a0 h
theorem Flies.sub {base G h : Heap} {l : List Env} {e : Addr} {news news' : List (Addr × Obj)} (f : Flies base G l e news h) (k : ∀ p ∈ news', p ∈ news) : Flies base G l e news' h := by
  obtain ⟨B, a0, a, b, c, d⟩ := f
  exact ⟨B, a0, a, b, fun q hq => c q (k q hq), d⟩
section
variable {M : Model} {A : Around} {E : Value → Shared → Prop} {s' : Shared} {base g g₂ : Heap} {outer : List Env} {L a e : Addr} {m : Str → Option Value} {name : Str} {scope : Scope} {cd : Value} {Q : Unit → Shared → Prop} {news : List (Addr × Obj)}
theorem leave_first {d : Option Addr} {a0 : Addr} {sl : Array (Option Value)} (K : Below A base outer g) (F : Fr g L s'.heap m) (N : News g L s'.heap ((e, excO (.ref 64) d a0 sl) :: news)) (hap : ∀ p ∈ news, p.1 ≠ e)
    (hQ : ∀ h', Flies base g outer e news h' → g.UpToSlots h' → Q () { s' with heap := h' }) (hk : scope.kind = .function := by rfl) :
    wpAny M (A.deeper (envOf name scope L a cd)) (leaving (envOf name scope L a cd) (.ref e)) Q E s' := by
  have K' := K.push (name := name) (a := a) (cd := cd) F hk
  have he := (N _ (.head _)).1
  have hin : ∀ env ∈ (envOf name scope L a cd :: outer), ∀ b, env.frame = some b → b ∈ e :: (envOf name scope L a cd :: outer).filterMap (·.frame) := fun env he b hb => .tail _ (List.mem_filterMap.mpr ⟨env, he, hb⟩)
  have nf : ∀ q ∈ (e, excO (.ref 64) d a0 sl) :: news, q.1 ∉ (envOf name scope L a cd :: outer).filterMap (·.frame) := fun q hq hm => by
    rcases kts_mem hm with z | z
    · exact (N q hq).2.1 z
    · obtain ⟨o, ho, _⟩ := (K.frames.mem z).2
      rw [(N q hq).2.2] at ho; cases ho
  have fe : g.get? e = none := (N _ (.head _)).2.2
  have st : base.StaysIn (hideAll s'.heap (e :: (envOf name scope L a cd :: outer).filterMap (·.frame))) := fun b o q => hideAll_get _ (K'.stays b o q) fun hm => by
    rcases List.mem_cons.mp hm with rfl | hm
    · have := K.stays _ _ q
      rw [fe] at this; cases this
    · rw [(K'.frames.mem hm).1] at q; cases q
  have sg : ∀ b o, g.get? b = some o → b ∉ outer.filterMap (·.frame) → (hideAll s'.heap (e :: (envOf name scope L a cd :: outer).filterMap (·.frame))).get? b = some o := fun b o q nm => hideAll_get _ (F.keep b o q) fun hm => by
    rcases List.mem_cons.mp hm with rfl | hm
    · rw [fe] at q; cases q
    · rcases kts_mem hm with z | z
      · rw [z, kts_self F] at q
        cases q
      · exact nm z
  have hl : ∀ q ∈ news, (hideAll s'.heap (e :: (envOf name scope L a cd :: outer).filterMap (·.frame))).get? q.1 = some q.2 ∧ g.get? q.1 = none ∧ base.get? q.1 = none := fun q hq => by
    refine ⟨hideAll_get _ (N q (.tail _ hq)).1 fun hm => ?_, (N q (.tail _ hq)).2.2, fresh_of_stays K.stays (N q (.tail _ hq)).2.2⟩
    rcases List.mem_cons.mp hm with z | hm
    · exact hap q hq z
    · exact nf q (.tail _ hq) hm
  have hen : (hideAll s'.heap (e :: (envOf name scope L a cd :: outer).filterMap (·.frame))).get? e = none := hideAll_none _ (.head _)
  refine wpAny_leaving_firstW K'.stack (funFrames_hide K'.frames hin) rfl he (fun b o q => of_hideAll _ q) hen rfl rfl rfl fun h' hL => ?_
  obtain ⟨k1, ⟨_, _, k2⟩, k3, k4⟩ := hL
  exact hQ h' ⟨_, _, st, sg, hl, k1, hen, k2, k3⟩ ((Heap.UpToSlots.of_keeps F.keep).trans k4)
theorem leave_next (K : Below A base outer g) (F : Fr g L g₂ m) (R : Flies base g₂ (envOf name scope L a cd :: outer) e news s'.heap) (hsm : g₂.UpToSlots s'.heap)
    (hQ : ∀ h', Flies base g outer e news h' → g.UpToSlots h' → Q () { s' with heap := h' }) :
    wpAny M (A.deeper (envOf name scope L a cd)) (leaving (envOf name scope L a cd) (.ref e)) Q E s' := by
  obtain ⟨B, a0, hB, hBG, hl, hfl⟩ := R
  exact wpAny_leaves_onW (Around.frames_deeper K.stack) rfl hfl fun h' x1 x2 =>
    hQ h' ⟨B, a0, hB, fun b o q nm => hBG b o (F.keep b o q) (fun hm => by
      rcases kts_mem hm with z | z
      · rw [z, kts_self F] at q
        cases q
      · exact nm z), fun q hq => ⟨(hl q hq).1, kts_none F.keep (hl q hq).2.1, (hl q hq).2.2⟩, x1⟩
      ((Heap.UpToSlots.of_keeps F.keep).trans (hsm.trans x2))
end
/-- a contract with an exceptional end -/
noncomputable def FunE (w : World) (mean : ExcName → Option Value) (mg mb : Str → Option Value) (f : Addr) (need : Nat) (Pre : List (Addr × Obj) → List Value → Prop) (Post : List (Addr × Obj) → Value → Prop) (Exc : Prop) : Prop :=
  ∀ (A A₀ : Around) (base h₀ : Heap) (outer : List Env) (L : Addr) (m : Str → Option Value) (news : List (Addr × Obj)) (s : Shared) (env : Env) (Q E : Value → Shared → Prop) (vs : List Value),
    Below A₀ base outer h₀ → Fr h₀ L s.heap m → (hd.heap_1 w.params).In h₀ → News h₀ L s.heap news → Top seenText LOOSE mean mg mb h₀ →
    A.frames = some (env :: outer) → env.frame = some L → env.scope.kind = .function → A.handled = none →
    A.depth + need < recursionLimit → A.units + 16 * need < cLine → Pre news vs →
    (∀ r tl h' tk', Fr h₀ L h' m → News h₀ L h' (tl ++ news) → Apart tl news → Post tl r → Q r { s with heap := h', toks := tk' }) →
    (Exc → ∀ e g' h' tk', Fr h₀ L g' m → Flies base g' (env :: outer) e news h' → g'.UpToSlots h' → E (.ref e) { s with heap := h', toks := tk' }) →
    wpAny (model Challenge.rw_or0039_01.row.prog w) A (call (.ref f) vs) Q E s

theorem FunE.use {w : World} {mean : ExcName → Option Value} {mg mb : Str → Option Value} {f : Addr} {need : Nat} {Pre : List (Addr × Obj) → List Value → Prop} {Post : List (Addr × Obj) → Value → Prop} {Exc : Prop} (C : FunE w mean mg mb f need Pre Post Exc)
    {A A₀ : Around} {base h₀ : Heap} {outer : List Env} {L : Addr} {m : Str → Option Value} {news : List (Addr × Obj)} {s : Shared} {env : Env} {Q E : Value → Shared → Prop} {vs : List Value}
    (B : Below A₀ base outer h₀) (hF : Fr h₀ L s.heap m) (X : (hd.heap_1 w.params).In h₀) (N : News h₀ L s.heap news) (T : Top seenText LOOSE mean mg mb h₀)
    (hA : A.frames = some (env :: outer)) (hf : env.frame = some L) (hk : env.scope.kind = .function) (hh : A.handled = none)
    (hd : A.depth + need < recursionLimit) (hu : A.units + 16 * need < cLine) (hp : Pre news vs)
    (ret : ∀ r tl h' tk', Fr h₀ L h' m → News h₀ L h' (tl ++ news) → Apart tl news → Post tl r → Q r { s with heap := h', toks := tk' })
    (exc : Exc → ∀ e g' h' tk', Fr h₀ L g' m → Flies base g' (env :: outer) e news h' → g'.UpToSlots h' → E (.ref e) { s with heap := h', toks := tk' }) :
    wpAny (model Challenge.rw_or0039_01.row.prog w) A (call (.ref f) vs) Q E s := C _ _ _ _ _ _ _ _ _ _ _ _ _ B hF X N T hA hf hk hh hd hu hp ret exc
theorem cls64 {w : World} {h : Heap} : (hd.heap_1 w.params).In h → (∃ nm q N bs bm hdct sn sub ab col dd k0 k1 k2 k3 k5 newId, h.get? 64 = some (excClassObj nm q 64 N bs bm hdct sn sub ab col dd k0 k1 k2 k3 k5 newId) ∧ (Value.ref 64 :: bm).contains (.type "BaseException") = true) ∧ Challenge.rw_or0039_01.row.prog = Challenge.rw_or0039_01.row.prog := by
  k_fill
  intro X
  refine ⟨⟨_, _, _, _, _, _, _, _, _, _, _, _, _, _, _, _, _, X _ _ (by k_is), by decide⟩, rfl⟩
noncomputable def Thrown (h₀ : Heap) (E : Value → Shared → Prop) (v : Value) (s : Shared) : Prop :=
  ∃ e d a0 sl L m news, v = .ref e ∧ Fr h₀ L s.heap m ∧ News h₀ L s.heap ((e, excO (.ref 64) d a0 sl) :: news) ∧ E (.ref e) s
theorem my_raise {w : World} {prog : Program} {A : Around} {E : Value → Shared → Prop} {s : Shared} {h₀ : Heap} {ex : PySem.Expr} {pos : Pos} {env : Env} {Q : Flow → Shared → Prop} (X : (hd.heap_1 w.params).In h₀) (hh : A.handled = none)
    (h : wpAny (model prog w) A (eval ex env) (Thrown h₀ E) E s) : wpAny (model prog w) A (exec (.Raise (some ex) none pos) env) Q E s := by
  obtain ⟨nm, q, N, bs, bm, hdct, sn, sub, ab, col, dd, k0, k1, k2, k3, k5, newId, hC, hb⟩ := (cls64 X).1
  rw [arm_exec_Raise]
  simp only [evalOpt, Option.map]
  refine wpAny_bind (wpAny_standAt (my_raiseStmt (nm := nm) (q := q) (N := N) (bs := bs) (bm := bm) (hdct := hdct) (sn := sn) (sub := sub) (ab := ab) (col := col) (dd := dd) (k0 := k0) (k1 := k1) (k2 := k2) (k3 := k3) (k5 := k5) (newId := newId) hb hh ?_))
  refine wpAny_bind (wpAny_mono ?_ (fun v s₃ h₃ => wpAny_bind (wpAny_standAt (wpAny_pure h₃))) fun _ _ x => x)
  refine wpAny_mono h (fun v s₁ h₁ => ?_) fun _ _ x => x
  obtain ⟨e, d, a0, sl, L, m, news, rfl, F, N, hE⟩ := h₁
  exact ⟨e, d, _, sl, rfl, F.keep _ _ hC, (N _ (.head _)).1, hE⟩
theorem wire_throw (w : World) {mean : ExcName → Option Value} {mg mb : Str → Option Value} {A : Around} {base g : Heap} {outer : List Env} {L a : Addr} {m : Str → Option Value} {news : List (Addr × Obj)} {s : Shared} {E : Value → Shared → Prop} {Q2 : Value → Unit → Shared → Prop} {E2 : Value → Value → Shared → Prop} {name what : Str} {scope : Scope} {cd : Value} {tw tn : Tok} {n : Int}
    (B : Below A base outer g) (F : Fr g L s.heap m) (X : (hd.heap_1 w.params).In g) (N : News g L s.heap news) (T : Top seenText LOOSE mean mg mb g)
    (hA : A.frames = some outer) (hh : A.handled = none) (hdp : A.depth + 6 ≤ recursionLimit) (hu : A.units + 80 < cLine) (hk : scope.kind = .function)
    (exc : ∀ e h' tk', Flies base g outer e news h' → g.UpToSlots h' → Q2 (.ref e) () { s with heap := h', toks := tk' }) :
    wpAny (model Challenge.rw_or0039_01.row.prog w) (A.deeper (envOf name scope L a cd)) (call (.ref 64) [.str what tw, .int n tn]) (Thrown g (fun e s' => wpAny (model Challenge.rw_or0039_01.row.prog w) (A.deeper (envOf name scope L a cd)) (leaving (envOf name scope L a cd) e) (Q2 e) (E2 e) s')) E s := by
  refine wire_make w mean mg mb _ _ _ _ _ _ _ _ _ _ _ _ _ _ _ _ B F X N T (Around.frames_deeper hA) rfl hk hh ?_ ?_ ?_
  · simp only [depth_deeper]; k_extra "ar9"
  · simp only [units_deeper]; k_extra "ar9"
  intro h' tk' e d a₀ sl F' N' hap
  refine ⟨e, d, a₀, sl, _, _, _, rfl, F', N', ?_⟩
  exact leave_first B F' N' hap (fun h'' Fl up => exc _ _ _ Fl up) hk
end
theorem rows36 : True := by
  (k_with "exec Raise" => (k_here; k_dflt (refine' my_raise ?zqX ?zqh ?_; (case zqX => k_asm); (case zqh => first | assumption | exact rfl); k_whole)))
  (k_with "exec Raise some none" => (k_here; k_dflt (refine' my_raise ?zqX ?zqh ?_; (case zqX => k_asm); (case zqh => first | assumption | exact rfl); k_whole)))
  trivial
section
open PySem.Calls
theorem bytes_int : typeLookup (.type "bytes") "__int__" = pure none := by
  rw [typeLookup_type, builtinLookup_eq_fast]; kernel_rfl
theorem bytes_idx : typeLookup (.type "bytes") "__index__" = pure none := by
  rw [typeLookup_type, builtinLookup_eq_fast]; kernel_rfl
theorem bytes_trunc : typeLookup (.type "bytes") "__trunc__" = pure none := by
  rw [typeLookup_type, builtinLookup_eq_fast]; kernel_rfl
theorem gives_intB {b : Array UInt8} {P : List Nat} {u : Tok} {n : Int} (hb : b.toList.map (·.toNat) = P) (hs : (P.takeWhile (· != 0)).length ≤ 640)
    (hr : (int_private% "readNumeral") 0 10 (P.takeWhile (· != 0)) = (int_private% "Numeral.value") n ∧ ((P.takeWhile (· != 0)).length == P.length) = true) : Gives (Builtin.«int.__new__» ⟨[.type "int", .bytes b u], []⟩) (.int n) :=
  .of_wp fun M A E s Q h => by
    obtain ⟨hp, g, d, tk, os⟩ := s
    have f1 := F.conv_sub_int
    have f2 := F.madeHere_int
    have f3 := bytes_int
    have f4 := bytes_idx
    have f5 := bytes_trunc
    have f6 : typeOf (.bytes b u) = pure (.type "bytes") := rfl
    have hk := KIN.Hid.mk (And.intro hs hr)
    clear hs hr
    subst hb
    repeat (any_goals (first
      | assumption
      | ((with_reducible show wpAny _ _ ((int_private% "intFromText") _ _ _) _ _ _); refine KIN.wp_text hk.out.1 hk.out.2.1 hk.out.2.2 ?_)
      | wp_step))
    all_goals first | exact ⟨_, rfl, h⟩ | skip
theorem B8_nat {t : List Nat} (h : ∀ c ∈ t, c < 256) : (B8 t).map (·.toNat) = t := by
  unfold B8
  rw [List.map_map]
  have : t.map ((·.toNat) ∘ UInt8.ofNat) = t.map id := List.map_congr_left fun c hc => by
    have := h c hc
    show (UInt8.ofNat c).toNat = c
    simp [UInt8.toNat_ofNat']; k_extra "ar9"
  rw [this, List.map_id]
theorem tw_whole {p : Nat → Bool} : ∀ {l : List Nat}, (∀ c ∈ l, p c = true) → l.takeWhile p = l
  | [], _ => rfl
  | c :: r, h => by
    rw [List.takeWhile_cons, if_pos (h c (.head _)), tw_whole fun x hx => h x (.tail _ hx)]
theorem B8_len (t : List Nat) : (B8 t).length = t.length := by simp [B8]
section
variable {prog : Program} {w : World} {A : Around} {E : Value → Shared → Prop} {s : Shared} {h₀ : Heap} {L : Addr} {m : Str → Option Value} {news : List (Addr × Obj)} {value slice : PySem.Expr} {t : List Nat} {tk u : Tok} {Q : Value → Shared → Prop}
theorem my_intB {P : List Nat} (hd : AllDigits P) (hne : P ≠ []) (hl : P.length ≤ 640) (h : ∀ t' k, Q (.int ((digitsVal P : Nat) : Int) t') { s with toks := k }) : wpAny (model prog w) A (call (.type "int") [.bytes (B8 P).toArray tk]) Q E s := by
  have hc : (S P).cps.toList = P := S_cps P
  have hz : (S P).length = P.length := S_len P
  have hn := numText_signs (x := S P) (fun c hx => .inr (by rw [hc] at hx; exact hd c hx))
  have hi := intText_digits (x := S P) (by rw [hc]; exact hd) (by rw [hc]; exact hne) (by k_extra "ar9")
  rw [hc] at hi hn
  have hd' : ∀ c ∈ P, c < 256 := fun c hx => by have := hd c hx; k_extra "ar9"
  have htw : P.takeWhile (· != 0) = P := tw_whole fun c hx => by
    have := hd c hx
    exact bne_iff_ne.mpr (by k_extra "ar9")
  refine call_int_1 (gives_intB (n := ((digitsVal P : Nat) : Int)) (P := P) (B8_nat hd') (by rw [htw]; exact hl) ?_).meets (show (Made.int ((digitsVal P : Nat) : Int)).post _ s from ⟨rfl, h _ _⟩)
  rw [htw]
  refine ⟨?_, by simp⟩
  rcases read0 (S P) (by rw [hn.2]; exact hl) with ⟨m, h1, h2, h3⟩ | ⟨h1, _⟩
  · rw [hi] at h1
    injection h1 with h1
    subst h1
    rw [hn.2] at h3
    exact h3
  · rw [hi] at h1
    cases h1
theorem B8_get {t : List Nat} (h : ∀ c ∈ t, c < 256) (n : Nat) : ((B8 t).getD n 0).toNat = t.getD n 0 := by
  have e := congrArg (fun l => l.getD n 0) (B8_nat h)
  rw [← e]
  by_cases hn : n < (B8 t).length
  · simp [List.getD_eq_getElem?_getD, List.getElem?_eq_getElem hn]
  · simp [List.getD_eq_getElem?_getD, List.getElem?_eq_none (Nat.le_of_not_lt hn)]
theorem my_b_item {i : Int} {n : Nat} (hb : ∀ c ∈ t, c < 256) (hi : i = (n : Int)) (h1 : n < t.length) (hn : t.length ≤ 16777216) (h : ∀ t' k, Q (.int ((t.getD n 0 : Nat) : Int) t') { s with toks := k })
    (hs : subscripted slice false (.bytes (B8 t).toArray tk) (.int i u) = operate [.bytes (B8 t).toArray tk, .int i u] (getItem (.bytes (B8 t).toArray tk) (.int i u)) := by with_unfolding_all rfl)
    (ht : ∀ r, letTemporaryGo value (.bytes (B8 t).toArray tk) r = pure () := by intro _; with_unfolding_all rfl) :
    wpAny (model prog w) A (subscriptTail value slice (.bytes (B8 t).toArray tk) (.int i u)) Q E s := by
  subst hi
  have hl := B8_len t
  refine KBy.item_N (by k_extra "ar9") (by k_extra "ar9") (by k_extra "ar9") ?_ hs ht
  have e : ((B8 t).getD ((n : Int)).toNat 0).toNat = t.getD n 0 := B8_get hb n
  rw [e]
  exact h _ _
theorem my_b_len (hn : t.length ≤ 16777216) (h : ∀ t' k, Q (.int (t.length : Int) t') { s with toks := k }) : wpAny (model prog w) A (call (.builtin "len") [.bytes (B8 t).toArray tk]) Q E s := by
  have hl := B8_len t
  have hz : (B8 t).toArray.size = t.length := by rw [List.size_toArray]; exact hl
  refine len_bytes (by k_extra "ar9") ?_
  rw [hz]
  exact h _ _
theorem picked_B8 (t : List Nat) (a b : Nat) : KBy.picked (B8 t).toArray (some (a : Int)) (some (b : Int)) = (B8 ((t.drop a).take (b - a))).toArray := by
  rw [KBc.picked_eq]
  simp only [Option.elim, clipAt_nat]
  have hz : (B8 t).toArray.size = t.length := by rw [List.size_toArray, B8_len]
  rw [hz]
  congr 1
  show List.take _ (List.drop _ (B8 t)) = _
  unfold B8
  rw [← List.map_drop, ← List.map_take]
  congr 1
  exact cut_min t a b
theorem my_b_cut {i j : Int} {a b : Nat} {ui uj : Tok} (hF : Fr h₀ L s.heap m) (hN : News h₀ L s.heap news) (h0 : i = (a : Int)) (h1 : j = (b : Int)) (hn : t.length ≤ 16777216) (h : ∀ h' t' k, Fr h₀ L h' m → News h₀ L h' news → Q (.bytes (B8 ((t.drop a).take (b - a))).toArray t') { s with heap := h', toks := k })
    (hs : subscripted slice false (.bytes (B8 t).toArray tk) (.ref s.heap.objs.size) = operate [.ref s.heap.objs.size, .bytes (B8 t).toArray tk] (getItem (.bytes (B8 t).toArray tk) (.ref s.heap.objs.size)) := by with_unfolding_all rfl)
    (ht : ∀ r, letTemporaryGo value (.bytes (B8 t).toArray tk) r = pure () := by intro _; with_unfolding_all rfl) :
    wpAny (model prog w) A (subscriptTail value slice (.bytes (B8 t).toArray tk) (.ref s.heap.objs.size)) Q E { s with heap := s.heap.push { cls := .type "slice", data := .fields #[.int i ui, .int j uj, .none] } } := by
  subst h0 h1
  have hl := B8_len t
  refine KBc.slice_K hF hN rfl (IsPart.int _ _) (IsPart.int _ _) ?_ (fun h' t' k F N _ => ?_) hs ht
  · rw [KBw.ints_length, List.size_toArray]; k_extra "ar9"
  · rw [picked_B8]
    exact h h' t' k F N
theorem my_b_sign {i j : Int} {a : Nat} {ui uj : Tok} (hF : Fr h₀ L s.heap m) (hN : News h₀ L s.heap news) (h0 : i = (a : Int)) (h1 : j = (a : Int) + 1) (hn : t.length ≤ 16777216) (h : ∀ h' t' k, Fr h₀ L h' m → News h₀ L h' news → Q (.bytes (B8 ((t.drop a).take 1)).toArray t') { s with heap := h', toks := k })
    (hs : subscripted slice false (.bytes (B8 t).toArray tk) (.ref s.heap.objs.size) = operate [.ref s.heap.objs.size, .bytes (B8 t).toArray tk] (getItem (.bytes (B8 t).toArray tk) (.ref s.heap.objs.size)) := by with_unfolding_all rfl)
    (ht : ∀ r, letTemporaryGo value (.bytes (B8 t).toArray tk) r = pure () := by intro _; with_unfolding_all rfl) :
    wpAny (model prog w) A (subscriptTail value slice (.bytes (B8 t).toArray tk) (.ref s.heap.objs.size)) Q E { s with heap := s.heap.push { cls := .type "slice", data := .fields #[.int i ui, .int j uj, .none] } } := by
  have e : a + 1 - a = 1 := by k_extra "ar9"
  exact my_b_cut (b := a + 1) hF hN h0 h1 hn (by rw [e]; exact h) hs ht
theorem my_b_eq {y : List UInt8} {b : List Nat} (ht : ∀ c ∈ t, c < 256) (hb : ∀ c ∈ b, c < 256) (hy : y = B8 b) (h : Q (.bool (decide (t = b))) s) : wpAny (model prog w) A (compareOp .Eq (.bytes (B8 t).toArray tk) (.bytes y.toArray u)) Q E s := by
  subst hy
  refine eq_bytes ?_
  have : (((B8 t).toArray).toList == ((B8 b).toArray).toList) = decide (t = b) := by
    rw [Bool.eq_iff_iff]
    simp only [beq_iff_eq, decide_eq_true_eq]
    constructor
    · intro e
      rw [← B8_nat ht, ← B8_nat hb]
      exact congrArg _ e
    · intro e; rw [e]
  rw [this]; exact h
theorem sub_lt {a n : Nat} (h : ∀ c ∈ t, c < 256) : ∀ c ∈ (t.drop a).take n, c < 256 := fun c hc => h c (List.mem_of_mem_drop (List.mem_of_mem_take hc))
end
end
theorem rows37 : True := by
  (k_with "call builtin:len" => (k_here; (with_reducible show wpAny _ _ (call (Value.builtin "len") [Value.bytes (List.toArray (B8 _)) _]) _ _ _); k_dflt (refine' my_b_len ?zqk3 ?_; (case zqk3 => k_extra "ar9"); k_whole); intro zt' ztk'; (try dsimp only)))
  (k_with "subscriptTail" => (k_here; (with_reducible show wpAny _ _ (subscriptTail _ (Expr.Slice (some _) (some _) none _) (Value.bytes (List.toArray (B8 _)) _) (Value.ref _)) _ _ _); (with_reducible rename Fr _ _ _ _ => zF'); (with_reducible rename News _ _ _ _ => zN'); (first | refine my_b_sign (s := ⟨_, _, _, _, _⟩) zF' zN' (by k_extra "nat_is") (by first | exact rfl | exact cast_add' rfl) (by k_extra "ar9") ?_ | refine my_b_cut (s := ⟨_, _, _, _, _⟩) zF' zN' (by k_extra "nat_is") (by k_extra "nat_is") (by k_extra "ar9") ?_); intro zh' zt' zk' zF' zN'))
  (k_with "subscriptTail Name Slice bytes ref" => (k_here; (with_reducible show wpAny _ _ (subscriptTail _ (Expr.Slice (some _) (some _) none _) (Value.bytes (List.toArray (B8 _)) _) (Value.ref _)) _ _ _); (with_reducible rename Fr _ _ _ _ => zF'); (with_reducible rename News _ _ _ _ => zN'); (first | refine my_b_sign (s := ⟨_, _, _, _, _⟩) zF' zN' (by k_extra "nat_is") (by first | exact rfl | exact cast_add' rfl) (by k_extra "ar9") ?_ | refine my_b_cut (s := ⟨_, _, _, _, _⟩) zF' zN' (by k_extra "nat_is") (by k_extra "nat_is") (by k_extra "ar9") ?_); intro zh' zt' zk' zF' zN'))
  (k_with "subscriptTail" => (k_here; (with_reducible show wpAny _ _ (subscriptTail _ _ (Value.bytes (List.toArray (B8 _)) _) (Value.int _ _)) _ _ _); (refine my_b_item (by assumption) (by k_extra "nat_is") (by k_extra "ar9") (by k_extra "ar9") ?_); intro zt' ztk'; (try dsimp only)))
  (k_with "subscriptTail Name Name bytes int" => (k_here; (with_reducible show wpAny _ _ (subscriptTail _ _ (Value.bytes (List.toArray (B8 _)) _) (Value.int _ _)) _ _ _); (refine my_b_item (by assumption) (by k_extra "nat_is") (by k_extra "ar9") (by k_extra "ar9") ?_); intro zt' ztk'; (try dsimp only)))
  (k_with "compareOp Eq bytes bytes" => (k_dflt (refine my_b_eq (b := [40]) (by first | assumption | exact sub_lt (by assumption)) (by decide) (by rfl) ?_)))
  (k_with "call ref" => (k_here; (with_reducible show wpAny _ _ (call (Value.ref 151) _) _ _ _); refine Halt.out ?_))
  trivial
theorem isD_t {c : Nat} (h : isD c = true) : 48 ≤ c ∧ c ≤ 57 := (isD_iff c).mp h
theorem isD_f {c : Nat} (h : isD c = false) : ¬ (48 ≤ c ∧ c ≤ 57) := fun k => by rw [(isD_iff c).mpr k] at h; cases h
noncomputable def NumEPost (t : List Nat) (p : Nat) (v : Value) : Prop := Ex2 fun P t' => Al6 ((t.drop p).takeWhile isD = P) (P ≠ []) (t.getD p 0 ≠ 48) (P.length ≤ 20) (p + P.length ≤ t.length) (v = .int ((p + P.length : Nat) : Int) t')
theorem nume_ct (w : World) (mean : ExcName → Option Value) (mg mb : Str → Option Value) (t : List Nat) (p : Nat) (hp0 : p ≤ t.length) (ht : t.length ≤ 100000) (hb : ∀ c ∈ t, c < 256) :
    FunE w mean mg mb 151 6 (fun _ vs => Ex2 fun t1 t2 => vs = [.bytes (B8 t).toArray t1, .int (p : Int) t2]) (fun _ v => NumEPost t p v) (num (t.drop p) = none) := by
  unfold FunE
  k_fill
  intro A A₀ base h₀ outer L m news s env Q E vs B hF X N T hA hf hke hh hdp hu hp hret hexc
  obtain ⟨t1, t2, rfl⟩ := hp
  have hrl : recursionLimit = 1000 := rfl
  refine wpAny_call ?_
  k_enter
  k_steps
  refine Halt.mk ?_
  have hP := len_takeW (t.drop p)
  rw [List.length_drop] at hP
  generalize hPe : (t.drop p).takeWhile isD = P at hP
  rename Fr _ _ _ _ => kF
  rename News _ _ _ _ => kN
  refine my_while (fun n m nx => Ex2 fun k tk => Al4 (nx = news) (k ≤ P.length) (n = P.length - k) (Pin m [("octets", .bytes (B8 t).toArray t1), ("at", .int (p : Nat) t2), ("end", .int (p + k : Nat) tk)]))
    (fun m nx => ∃ tk, nx = news ∧ Pin m [("octets", .bytes (B8 t).toArray t1), ("at", .int (p : Nat) t2), ("end", .int (p + P.length : Nat) tk)])
    kF kN ⟨0, t2, rfl, Nat.zero_le _, rfl, ⟨rfl, rfl, rfl, trivial⟩⟩ ?_ ?_
  · intro n m₃ nx₃ h₃ tk₃ F₃ N₃ hJ9
    (try k_fold)
    rcases hJ9 with ⟨k, tk, rfl, hk1, rfl, hpin₃⟩
    have F₄ := Fr.pin F₃ hpin₃
    clear F₃
    k_steps
    · dsimp only at *
      rename Fr _ _ _ (fun _ => _) => kF'
      rename News _ _ _ _ => kN'
      refine WTurn.go kF' kN' (n' := P.length - (k + 1)) ?_ ⟨k + 1, _, rfl, ?_, rfl, ⟨rfl, rfl, rfl, trivial⟩⟩
      all_goals
        have : k ≠ P.length := fun e => by subst e; have := isD_f (tw_out hPe (by k_extra "ar9")); k_extra "ar9"
        k_extra "ar9"
    · refine WDone.intro F₄ N₃ ⟨tk, rfl, ?_⟩
      have : ¬ k < P.length := fun e => by have := isD_t (tw_in hPe e); k_extra "ar9"
      have e : k = P.length := by k_extra "ar9"
      subst e
      exact hpin₃.eq ▸ hpin₃
    · refine WDone.intro F₄ N₃ ⟨tk, rfl, ?_⟩
      have : ¬ k < P.length := fun e => by have := isD_t (tw_in hPe e); k_extra "ar9"
      have e : k = P.length := by k_extra "ar9"
      subst e
      exact hpin₃.eq ▸ hpin₃
    · refine WDone.intro F₄ N₃ ⟨tk, rfl, ?_⟩
      have e : k = P.length := by k_extra "ar9"
      subst e
      exact hpin₃.eq ▸ hpin₃
  intro m₃ nx₃ h₃ tk₃ F₃ N₃ hJ9
  (try k_fold)
  rcases hJ9 with ⟨tk, rfl, hpin₃⟩
  have F₄ := Fr.pin F₃ hpin₃
  clear F₃ kF kN
  have no : P = [] ∨ t.getD p 0 = 48 ∨ 20 < P.length → num (t.drop p) = none := fun h => num_no hPe h
  k_steps
  any_goals
    refine Halt.mk ?_
    refine wire_throw w (by k_asm) F₄ (by k_asm) N₃ (by k_asm) hA hh (by k_extra "ar9") (by k_extra "ar9") rfl ?_
    intro e h₅ tk₅ Fl up
    refine hexc (no ?_) e _ h₅ tk₅ (by k_asm) Fl up
  · exact .inl (List.length_eq_zero_iff.mp (by k_extra "ar9"))
  · exact .inr (.inl (by k_extra "ar9"))
  · exact .inr (.inr (by k_extra "ar9"))
  dsimp only at *
  rename News h₀ L _ _ => kN
  rename Fr h₀ L _ _ => kF
  have hne : P ≠ [] := fun e => by subst e; simp at *
  refine hret _ [] _ _ kF kN Apart.nil ⟨P, _, hPe, hne, by k_extra "ar9", by k_extra "ar9", by k_extra "ar9", rfl⟩
abbrev frD (w : World) (v1 v2 : Value) (l : Addr) (t1 t2 t3 : Tok) : Obj :=
  dictOf [⟨PyData.keyHash w.params "first", .str "first" t1, v1⟩, ⟨PyData.keyHash w.params "last", .str "last" t2, v2⟩, ⟨PyData.keyHash w.params "inner", .str "inner" t3, .ref l⟩] 3
abbrev ndD (w : World) (n : Int) (tk : Tok) (b : Addr) (t1 t2 : Tok) : Obj :=
  dictOf [⟨PyData.keyHash w.params "number", .str "number" t1, .int n tk⟩, ⟨PyData.keyHash w.params "kids", .str "kids" t2, .ref b⟩] 2
/-- a chain of nodes that is being built: its first node, its last, the last one's list of kids -/
inductive Chn (w : World) (dn : List (Addr × Obj)) : List Int → Addr → Addr → Addr → Prop
  | one {x dx b : Addr} {n : Int} {tk t1 t2 : Tok} : (x, instObj 93 dx) ∈ dn → (dx, ndD w n tk b t1 t2) ∈ dn → Chn w dn [n] x x b
  | cons {x dx b1 x2 y b : Addr} {n : Int} {ns : List Int} {tk t1 t2 : Tok} {e : Nat} : (x, instObj 93 dx) ∈ dn → (dx, ndD w n tk b1 t1 t2) ∈ dn → (b1, W.listOf [Value.ref x2].toArray e) ∈ dn → Chn w dn ns x2 y b → Chn w dn (n :: ns) x y b
section
variable {w : World} {dn dn' : List (Addr × Obj)} {ns : List Int} {x y b : Addr}
theorem Chn.mono (hs : ∀ p ∈ dn, p ∈ dn') (h : Chn w dn ns x y b) : Chn w dn' ns x y b := by
  induction h with
  | one h1 h2 => exact .one (hs _ h1) (hs _ h2)
  | cons h1 h2 h3 _ i => exact .cons (hs _ h1) (hs _ h2) (hs _ h3) i
theorem Chn.ne (h : Chn w dn ns x y b) : ns ≠ [] := by cases h <;> simp
theorem Chn.last (h : Chn w dn ns x y b) : ∃ dy n tk t1 t2, (y, instObj 93 dy) ∈ dn ∧ (dy, ndD w n tk b t1 t2) ∈ dn := by
  induction h with
  | one h1 h2 => exact ⟨_, _, _, _, _, h1, h2⟩
  | cons h1 h2 h3 _ i => exact i
theorem Chn.snoc {z dz bz : Addr} {n : Int} {tk t1 t2 : Tok} {e : Nat} (h : Chn w dn ns x y b) (hb : (b, W.listOf [Value.ref z].toArray e) ∈ dn) (hz : (z, instObj 93 dz) ∈ dn) (hd : (dz, ndD w n tk bz t1 t2) ∈ dn) : Chn w dn (ns ++ [n]) x z bz := by
  induction h with
  | one h1 h2 => exact .cons h1 h2 hb (.one hz hd)
  | cons h1 h2 h3 _ i => exact .cons h1 h2 h3 (i hb)
theorem Chn.done {vs : List Value} {f : F} {e : Nat} (h : Chn w dn ns x y b) (hb : (b, W.listOf vs.toArray e) ∈ dn) (hv : NIn w dn vs f) : NIn w dn [.ref x] (chainF ns f .nil) := by
  induction h with
  | one h1 h2 => exact .cons h1 h2 hb hv .nil
  | @cons x dx b1 x2 y b n ns tk t1 t2 e h1 h2 h3 h4 i =>
    have hne := h4.ne
    cases ns with
    | nil => exact absurd rfl hne
    | cons a l => exact .cons h1 h2 h3 (i hb) .nil
end
/-- addresses apart, among themselves and from others -/
noncomputable def Sep (l r : List (Addr × Obj)) : Prop := l.Pairwise (fun p q => p.1 ≠ q.1) ∧ Apart l r
/-- what a frame says of its numbers -/
inductive Hd (w : World) (dn : List (Addr × Obj)) : List Int → Value → Value → List (Addr × Obj) → Prop
  | none : Hd w dn [] .none .none []
  | some {ns : List Int} {x y b : Addr} {e : Nat} : Chn w dn ns x y b → Hd w dn ns (.ref x) (.ref y) [(b, W.listOf ([] : List Value).toArray e)]
theorem Hd.mono {w : World} {dn dn' : List (Addr × Obj)} {ns : List Int} {v1 v2 : Value} {ext : List (Addr × Obj)} (hs : ∀ p ∈ dn, p ∈ dn') (h : Hd w dn ns v1 v2 ext) : Hd w dn' ns v1 v2 ext := by
  cases h with
  | none => exact .none
  | some h => exact .some (h.mono hs)
theorem off_in {D : Addr} {l r : List (Addr × Obj)} (h : ∀ p ∈ l, p.1 < D) (s : ∀ p ∈ r, p ∈ l) : ∀ p ∈ r, p.1 ≠ D := fun p hp => Nat.ne_of_lt (h p (s p hp))
theorem off_in2 {d D : Addr} {l r : List (Addr × Obj)} (hd : @LT.lt Nat _ d D) (h : ∀ p ∈ l, p.1 < d) (s : ∀ p ∈ r, p ∈ l) : ∀ p ∈ r, p.1 ≠ D := fun p hp => Nat.ne_of_lt (Nat.lt_trans (h p (s p hp)) hd)
theorem Sep.nil {r : List (Addr × Obj)} : Sep [] r := ⟨.nil, Apart.nil⟩
theorem Sep.cons {a : Addr} {o : Obj} {l r : List (Addr × Obj)} (h1 : ∀ p ∈ l, p.1 ≠ a) (h2 : ∀ p ∈ r, p.1 ≠ a) (h : Sep l r) : Sep ((a, o) :: l) r :=
  ⟨.cons (fun p hp => Ne.symm (h1 p hp)) h.1, Apart.cons h2 h.2⟩
section
variable {t r : List Nat} {q c : Nat} {ns : List Int} {n : Int} {inner : F} {p : List Int × F} {st : List (List Int × F)}
theorem drop_at (hq : q < t.length) : t.drop q = t.getD q 0 :: t.drop (q + 1) := by
  rw [List.drop_eq_getElem_cons hq]
  congr 1
  simp [List.getD_eq_getElem?_getD, List.getElem?_eq_getElem hq]
theorem step_bad (hq : q < t.length) (h40 : t.getD q 0 ≠ 40) (h41 : t.getD q 0 ≠ 41) (hi : inner.len ≠ 0) : machL (t.drop q) (ns, inner) (p :: st) = none := by
  rw [drop_at hq, machL_cons, if_neg h40]
  simp only [if_neg h41, if_pos hi]
theorem step_num0 (hq : q < t.length) (h40 : t.getD q 0 ≠ 40) (h41 : t.getD q 0 ≠ 41) (hi : inner.len = 0) : machL (t.drop q) ([], inner) (p :: st) = match num (t.drop q) with
            | none => none
            | some (v, r) => if r.head? = some 40 then none else machL r ([v], inner) (p :: st) := by
  conv => lhs; rw [drop_at hq, machL_cons, if_neg h40]
  rw [drop_at hq]
  simp only [if_neg h41, if_neg (show ¬ inner.len ≠ 0 from fun k => k hi), if_neg (show ¬ ([] : List Int) ≠ [] from fun k => k rfl)] <;> rfl
theorem step_num1 (hq : q < t.length) (h40 : t.getD q 0 ≠ 40) (h41 : t.getD q 0 ≠ 41) (hi : inner.len = 0) (hns : ns ≠ []) : machL (t.drop q) (ns, inner) (p :: st) =
    if t.getD q 0 ≠ 32 then none else if (t.drop (q + 1)).head? = some 40 then machL (t.drop (q + 1)) (ns, inner) (p :: st) else match num (t.drop (q + 1)) with
            | none => none
            | some (v, r) => if r.head? = some 40 then none else machL r (ns ++ [v], inner) (p :: st) := by
  conv => lhs; rw [drop_at hq, machL_cons, if_neg h40]
  simp only [if_neg h41, if_neg (show ¬ inner.len ≠ 0 from fun k => k hi), if_pos hns] <;> rfl
end
section
end
theorem rows38 : True := by
  (k_with "call ref" => (k_here; (with_reducible show wpAny _ _ (call (Value.ref 165) _) _ _ _); refine Halt.out ?_))
  (k_with "call type:int" => (k_here; (with_reducible show wpAny _ _ (call (Value.type "int") [Value.bytes _ _]) _ _ _); refine Halt.out ?_))
  trivial
/-- what read_member leaves: a later place, the frame with its numbers, new things -/
noncomputable def RmPost (w : World) (t : List Nat) (q : Nat) (ns : List Int) (inner : F) (f d l : Addr) (vs : List Value) (e : Nat) (t1 t2 t3 : Tok) (dn R : List (Addr × Obj)) (news' : List (Addr × Obj)) (v : Value) : Prop :=
  Ex7 fun q' ns' v1 v2 ext new tq => Al8 (v = .int ((q' : Nat) : Int) tq) (news' = (f, instObj 140 d) :: (d, frD w v1 v2 l t1 t2 t3) :: (l, W.listOf vs.toArray e) :: (ext ++ (new ++ R))) (q < q') (q' ≤ t.length) ((∀ p st, machL (t.drop q) (ns, inner) (p :: st) = machL (t.drop q') (ns', inner) (p :: st))) (Hd w (new ++ dn) ns' v1 v2 ext) (Sep ((f, instObj 140 d) :: (d, frD w v1 v2 l t1 t2 t3) :: (l, W.listOf vs.toArray e) :: ext) (new ++ R)) (Apart new R)
section
variable {w : World} {h₀ : Heap} {L : Addr} {m : Str → Option Value} {s : Shared} {Q : Value → Shared → Prop} {t : List Nat} {q q' : Nat} {ns : List Int} {inner : F} {f d l x y z b dz bz : Addr} {vs : List Value} {e e2 e3 : Nat} {t1 t2 t3 ta tb tq tn : Tok} {dn R : List (Addr × Obj)} {h' : Heap} {tk' : Nat} {n : Int} {of od ol ob oo : Obj}
theorem rm_end0 (hret : ∀ r news' h' tk', Fr h₀ L h' m → News h₀ L h' news' → RmPost w t q [] inner f d l vs e t1 t2 t3 dn R news' r → Q r { s with heap := h', toks := tk' })
    (kF : Fr h₀ L h' m) (kN : News h₀ L h' ((z, instObj 93 dz) :: (dz, ndD w n tn bz ta tb) :: (bz, W.listOf ([] : List Value).toArray e2) :: (f, instObj 140 d) :: (d, frD w (.ref z) (.ref z) l t1 t2 t3) :: (l, W.listOf vs.toArray e) :: R))
    (h1 : q < q') (h2 : q' ≤ t.length) (hm : ∀ p st, machL (t.drop q) ([], inner) (p :: st) = machL (t.drop q') ([n], inner) (p :: st))
    (c1 : ∀ p ∈ (f, of) :: (d, od) :: (l, ol) :: R, p.1 < bz) (c2 : ∀ p ∈ (bz, ob) :: (f, of) :: (d, od) :: (l, ol) :: R, p.1 < dz) (c3 : @LT.lt Nat _ dz z)
    (n1 : @Ne Nat f d) (n2 : @Ne Nat f l) (n3 : @Ne Nat d l) (o1 : ∀ p ∈ R, p.1 ≠ f) (o2 : ∀ p ∈ R, p.1 ≠ d) (o3 : ∀ p ∈ R, p.1 ≠ l) : Q (.int (q' : Nat) tq) { s with heap := h', toks := tk' } := by
  simp only [List.forall_mem_cons] at c1 c2
  obtain ⟨a1, a2, a3, a4⟩ := c1
  obtain ⟨b0, b1, b2, b3, b4⟩ := c2
  have a1 : @LT.lt Nat _ f bz := a1
  have a2 : @LT.lt Nat _ d bz := a2
  have a3 : @LT.lt Nat _ l bz := a3
  have b0 : @LT.lt Nat _ bz dz := b0
  have s1 : Sep [(f, instObj 140 d), (d, frD w (.ref z) (.ref z) l t1 t2 t3), (l, W.listOf vs.toArray e), (bz, W.listOf ([] : List Value).toArray e2)] ((z, instObj 93 dz) :: (dz, ndD w n tn bz ta tb) :: R) := by
    refine Sep.cons ?_ ?_ (Sep.cons ?_ ?_ (Sep.cons ?_ ?_ (Sep.cons ?_ ?_ Sep.nil))) <;> simp only [List.forall_mem_cons, List.not_mem_nil, false_implies, implies_true, and_true]
    · exact ⟨neN (by k_extra "ar9"), neN (by k_extra "ar9"), neN (by k_extra "ar9")⟩
    · exact ⟨neN (by k_extra "ar9"), neN (by k_extra "ar9"), o1⟩
    · exact ⟨neN (by k_extra "ar9"), neN (by k_extra "ar9")⟩
    · exact ⟨neN (by k_extra "ar9"), neN (by k_extra "ar9"), o2⟩
    · exact neN (by k_extra "ar9")
    · exact ⟨neN (by k_extra "ar9"), neN (by k_extra "ar9"), o3⟩
    · exact ⟨neN (by k_extra "ar9"), neN (by k_extra "ar9"), off_lt a4⟩
  have s2 : Apart [(z, instObj 93 dz), (dz, ndD w n tn bz ta tb)] R := Apart.cons (off_in2 c3 b4 fun _ h => h) (Apart.cons (off_lt b4) Apart.nil)
  refine hret _ ((f, instObj 140 d) :: (d, frD w (.ref z) (.ref z) l t1 t2 t3) :: (l, W.listOf vs.toArray e) :: ([(bz, W.listOf ([] : List Value).toArray e2)] ++ ([(z, instObj 93 dz), (dz, ndD w n tn bz ta tb)] ++ R))) _ _ kF (nget kN ?_) ⟨q', [n], _, _, _, _, tq, rfl, rfl, h1, h2, hm, .some (.one (.head _) (.tail _ (.head _))), s1, s2⟩
  k_extra "sub9"
theorem rm_end1 (hret : ∀ r news' h' tk', Fr h₀ L h' m → News h₀ L h' news' → RmPost w t q ns inner f d l vs e t1 t2 t3 dn R news' r → Q r { s with heap := h', toks := tk' })
    (kF : Fr h₀ L h' m) (kN : News h₀ L h' ((z, instObj 93 dz) :: (dz, ndD w n tn bz ta tb) :: (bz, W.listOf ([] : List Value).toArray e2) :: (f, instObj 140 d) :: (d, frD w (.ref x) (.ref z) l t1 t2 t3) :: (l, W.listOf vs.toArray e) :: (b, W.listOf [Value.ref z].toArray e3) :: R))
    (hc : Chn w dn ns x y b)
    (h1 : q < q') (h2 : q' ≤ t.length) (hm : ∀ p st, machL (t.drop q) (ns, inner) (p :: st) = machL (t.drop q') (ns ++ [n], inner) (p :: st))
    (c1 : ∀ p ∈ (f, of) :: (d, od) :: (l, ol) :: (b, oo) :: R, p.1 < bz) (c2 : ∀ p ∈ (bz, ob) :: (f, of) :: (d, od) :: (l, ol) :: (b, oo) :: R, p.1 < dz) (c3 : @LT.lt Nat _ dz z)
    (n1 : @Ne Nat f d) (n2 : @Ne Nat f l) (n3 : @Ne Nat d l) (o1 : ∀ p ∈ R, p.1 ≠ f) (o2 : ∀ p ∈ R, p.1 ≠ d) (o3 : ∀ p ∈ R, p.1 ≠ l) (n4 : @Ne Nat f b) (n5 : @Ne Nat d b) (n6 : @Ne Nat l b) (o4 : ∀ p ∈ R, p.1 ≠ b) : Q (.int (q' : Nat) tq) { s with heap := h', toks := tk' } := by
  simp only [List.forall_mem_cons] at c1 c2
  obtain ⟨a1, a2, a3, a5, a4⟩ := c1
  obtain ⟨b0, b1, b2, b3, b5, b4⟩ := c2
  have a1 : @LT.lt Nat _ f bz := a1
  have a2 : @LT.lt Nat _ d bz := a2
  have a3 : @LT.lt Nat _ l bz := a3
  have a5 : @LT.lt Nat _ b bz := a5
  have b0 : @LT.lt Nat _ bz dz := b0
  have s1 : Sep [(f, instObj 140 d), (d, frD w (.ref x) (.ref z) l t1 t2 t3), (l, W.listOf vs.toArray e), (bz, W.listOf ([] : List Value).toArray e2)] ((z, instObj 93 dz) :: (dz, ndD w n tn bz ta tb) :: (b, W.listOf [Value.ref z].toArray e3) :: R) := by
    refine Sep.cons ?_ ?_ (Sep.cons ?_ ?_ (Sep.cons ?_ ?_ (Sep.cons ?_ ?_ Sep.nil))) <;> simp only [List.forall_mem_cons, List.not_mem_nil, false_implies, implies_true, and_true]
    · exact ⟨neN (by k_extra "ar9"), neN (by k_extra "ar9"), neN (by k_extra "ar9")⟩
    · exact ⟨neN (by k_extra "ar9"), neN (by k_extra "ar9"), neN (by k_extra "ar9"), o1⟩
    · exact ⟨neN (by k_extra "ar9"), neN (by k_extra "ar9")⟩
    · exact ⟨neN (by k_extra "ar9"), neN (by k_extra "ar9"), neN (by k_extra "ar9"), o2⟩
    · exact neN (by k_extra "ar9")
    · exact ⟨neN (by k_extra "ar9"), neN (by k_extra "ar9"), neN (by k_extra "ar9"), o3⟩
    · exact ⟨neN (by k_extra "ar9"), neN (by k_extra "ar9"), neN (by k_extra "ar9"), off_lt a4⟩
  have s2 : Apart [(z, instObj 93 dz), (dz, ndD w n tn bz ta tb), (b, W.listOf [Value.ref z].toArray e3)] R := Apart.cons (off_in2 c3 b4 fun _ h => h) (Apart.cons (off_lt b4) (Apart.cons o4 Apart.nil))
  refine hret _ ((f, instObj 140 d) :: (d, frD w (.ref x) (.ref z) l t1 t2 t3) :: (l, W.listOf vs.toArray e) :: ([(bz, W.listOf ([] : List Value).toArray e2)] ++ ([(z, instObj 93 dz), (dz, ndD w n tn bz ta tb), (b, W.listOf [Value.ref z].toArray e3)] ++ R))) _ _ kF (nget kN ?_) ⟨q', ns ++ [n], _, _, _, _, tq, rfl, rfl, h1, h2, hm, .some ?_, s1, s2⟩
  · k_extra "sub9"
  · exact Chn.snoc (hc.mono fun p hp => .tail _ (.tail _ (.tail _ hp))) (.tail _ (.tail _ (.head _))) (.head _) (.tail _ (.head _))
theorem rm_end2 (hret : ∀ r news' h' tk', Fr h₀ L h' m → News h₀ L h' news' → RmPost w t q ns inner f d l vs e t1 t2 t3 dn R news' r → Q r { s with heap := h', toks := tk' })
    (kF : Fr h₀ L h' m) (kN : News h₀ L h' ((f, instObj 140 d) :: (d, frD w (.ref x) (.ref y) l t1 t2 t3) :: (l, W.listOf vs.toArray e) :: (b, W.listOf ([] : List Value).toArray e2) :: R))
    (hc : Chn w dn ns x y b) (h1 : q < q') (h2 : q' ≤ t.length) (hm : ∀ p st, machL (t.drop q) (ns, inner) (p :: st) = machL (t.drop q') (ns, inner) (p :: st))
    (n1 : @Ne Nat f d) (n2 : @Ne Nat f l) (n3 : @Ne Nat d l) (o1 : ∀ p ∈ R, p.1 ≠ f) (o2 : ∀ p ∈ R, p.1 ≠ d) (o3 : ∀ p ∈ R, p.1 ≠ l) (n4 : @Ne Nat f b) (n5 : @Ne Nat d b) (n6 : @Ne Nat l b) (o4 : ∀ p ∈ R, p.1 ≠ b) : Q (.int (q' : Nat) tq) { s with heap := h', toks := tk' } := by
  refine hret _ _ _ _ kF kN ⟨q', ns, .ref x, .ref y, [(b, W.listOf ([] : List Value).toArray e2)], [], tq, rfl, rfl, h1, h2, hm, .some hc, ?_, Apart.nil⟩
  refine Sep.cons ?_ o1 (Sep.cons ?_ o2 (Sep.cons ?_ o3 (Sep.cons ?_ o4 Sep.nil))) <;> simp only [List.forall_mem_cons, List.not_mem_nil, false_implies, implies_true, and_true]
  · exact ⟨neN (by k_extra "ar9"), neN (by k_extra "ar9"), neN (by k_extra "ar9")⟩
  · exact ⟨neN (by k_extra "ar9"), neN (by k_extra "ar9")⟩
  · exact neN (by k_extra "ar9")
end
theorem rm0 (w : World) (mean : ExcName → Option Value) (mg mb : Str → Option Value) (t : List Nat) (q c : Nat) (inner : F) (f d l : Addr) (vs : List Value) (e : Nat) (t1 t2 t3 t4 t5 : Tok) (dn R : List (Addr × Obj)) (ht : t.length ≤ 100000) (hb : ∀ c ∈ t, c < 256) (hq : q < t.length) (hc : t.getD q 0 = c) (h40 : c ≠ 40) (h41 : c ≠ 41)
    (n1 : @Ne Nat f d) (n2 : @Ne Nat f l) (n3 : @Ne Nat d l) (o1 : ∀ p ∈ R, p.1 ≠ f) (o2 : ∀ p ∈ R, p.1 ≠ d) (o3 : ∀ p ∈ R, p.1 ≠ l) (hsub : ∀ p ∈ dn, p ∈ R) (hvs : NIn w dn vs inner) :
  ∀ (A A₀ : Around) (base h₀ : Heap) (outer : List Env) (L : Addr) (m : Str → Option Value) (s : Shared) (env : Env) (Q E : Value → Shared → Prop),
    Below A₀ base outer h₀ → Fr h₀ L s.heap m → (hd.heap_1 w.params).In h₀ → News h₀ L s.heap ((f, instObj 140 d) :: (d, frD w .none .none l t1 t2 t3) :: (l, W.listOf vs.toArray e) :: R) → Top seenText LOOSE mean mg mb h₀ →
    A.frames = some (env :: outer) → env.frame = some L → env.scope.kind = .function → A.handled = none →
    A.depth + 12 < recursionLimit → A.units + 200 < cLine →
    (∀ r news' h' tk', Fr h₀ L h' m → News h₀ L h' news' → RmPost w t q [] inner f d l vs e t1 t2 t3 dn R news' r → Q r { s with heap := h', toks := tk' }) →
    ((∀ p st, machL (t.drop q) ([], inner) (p :: st) = none) → ∀ e g' h' tk', Fr h₀ L g' m → Flies base g' (env :: outer) e R h' → g'.UpToSlots h' → E (.ref e) { s with heap := h', toks := tk' }) →
    wpAny (model Challenge.rw_or0039_01.row.prog w) A (call (.ref 165) [.bytes (B8 t).toArray t4, .int (q : Int) t5, .ref f]) Q E s := by
  k_fill
  intro A A₀ base h₀ outer L m s env Q E B hF X N T hA hf hke hh hdp hu hret hexc
  have hrl : recursionLimit = 1000 := rfl
  refine wpAny_call ?_
  k_enter
  k_steps
  · refine Halt.mk ?_
    rename Fr _ _ _ (nm _ _) => kF
    rename News _ _ _ (_ :: _ :: _) => kN
    refine wire_throw w (by k_asm) kF (by k_asm) kN (by k_asm) hA hh (by k_extra "ar9") (by k_extra "ar9") rfl ?_
    intro x h₅ tk₅ Fl up
    refine hexc (fun p st => ?_) x _ h₅ tk₅ (by k_asm) (Fl.sub (fun p hp => .tail _ (.tail _ (.tail _ (.tail _ hp))))) up
    refine step_bad hq (by k_extra "ar9") (by k_extra "ar9") ?_
    rename _ ↔ vs ≠ [] => hv
    have hv0 : vs ≠ [] := hv.mp (by assumption)
    have := hvs.len
    have := List.length_pos_iff.mpr hv0
    k_extra "ar9"
  rename _ ↔ vs ≠ [] => hv
  have hv0 : vs = [] := by
    apply Decidable.byContradiction
    intro k
    have := hv.mpr k
    simp_all
  have hi : inner.len = 0 := by rw [← hvs.len, hv0]; rfl
  refine Halt.mk ?_
  rename Fr _ _ _ (nm _ _) => kF
  rename News _ _ _ (_ :: _ :: _) => kN
  refine FunE.use (nume_ct w mean mg mb t q (by k_extra "ar9") ht hb) (by k_asm) kF (by k_asm) kN (by k_asm) (Around.frames_deeper hA) rfl rfl hh ?_ ?_ ⟨_, _, rfl⟩ ?_ ?_
  · simp only [depth_deeper]; k_extra "ar9"
  · simp only [units_deeper]; k_extra "ar9"
  rotate_left
  · intro hx x g₂ h₅ tk₅ F₅ Fl up
    refine leave_next (s' := ⟨_, _, _, _, _⟩) (by k_asm) F₅ Fl up ?_
    intro h₆ Fl₆ up₆
    refine hexc (fun p st => ?_) x _ h₆ _ (by k_asm) (Fl₆.sub (fun p hp => .tail _ (.tail _ (.tail _ (.tail _ hp))))) up₆
    rw [step_num0 hq (by k_extra "ar9") (by k_extra "ar9") hi, hx]
  intro r tl h₅ tk₅ F₅ N₅ hap₅ hr
  obtain ⟨P, t9, hP, hPne, hP48, hP20, hPq, rfl⟩ := hr
  have N₆ := nget N₅ (l' := (f, instObj 140 d) :: (d, frD w Value.none Value.none l t1 t2 t3) :: (l, W.listOf vs.toArray e) :: R) (fun p hp => List.mem_append_right _ (.tail _ hp))
  clear N₅ hap₅
  k_steps
  refine Halt.mk ?_
  rw [tw_take hP]
  refine my_intB (tw_all hP) hPne (by k_extra "ar9") ?_
  intro t10 tk10
  have yes := num_yes hP hPne hP48 hP20
  generalize ((digitsVal P : Nat) : Int) = n at yes
  k_steps
  · refine Halt.mk ?_
    rename Fr _ _ _ _ => kF
    rename News _ _ _ (_ :: _ :: _) => kN
    refine wire_throw w (by k_asm) kF (by k_asm) kN (by k_asm) hA hh (by k_extra "ar9") (by k_extra "ar9") rfl ?_
    intro x h₅ tk₅ Fl up
    refine hexc (fun p st => ?_) x _ h₅ tk₅ (by k_asm) (Fl.sub (fun p hp => by k_mem)) up
    rename _ = [40] => h4
    rw [step_num0 hq (by k_extra "ar9") (by k_extra "ar9") hi, yes]
    simp only [take1_iff.mp h4, if_true]
  · dsimp only at *
    rename Fr h₀ L _ _ => kF
    rename News h₀ L _ _ => kN
    rename ¬ _ = [40] => h4
    have hpos : 0 < P.length := List.length_pos_iff.mpr hPne
    refine rm_end0 hret kF kN (by k_extra "ar9") (by k_extra "ar9") (fun p st => ?_) (by assumption) (by assumption) (by assumption) n1 n2 n3 o1 o2 o3
    rw [step_num0 hq (by k_extra "ar9") (by k_extra "ar9") hi, yes]
    simp only [if_neg fun k => h4 (take1_iff.mpr k)]
theorem rm1 (w : World) (mean : ExcName → Option Value) (mg mb : Str → Option Value) (t : List Nat) (q c : Nat) (inner : F) (ns : List Int) (f d l x y b : Addr) (vs : List Value) (e e0 : Nat) (t1 t2 t3 t4 t5 : Tok) (dn R : List (Addr × Obj)) (ht : t.length ≤ 100000) (hb : ∀ c ∈ t, c < 256) (hq : q < t.length) (hc : t.getD q 0 = c) (h40 : c ≠ 40) (h41 : c ≠ 41)
    (n1 : @Ne Nat f d) (n2 : @Ne Nat f l) (n3 : @Ne Nat d l) (o1 : ∀ p ∈ R, p.1 ≠ f) (o2 : ∀ p ∈ R, p.1 ≠ d) (o3 : ∀ p ∈ R, p.1 ≠ l) (n4 : @Ne Nat f b) (n5 : @Ne Nat d b) (n6 : @Ne Nat l b) (o4 : ∀ p ∈ R, p.1 ≠ b) (hsub : ∀ p ∈ dn, p ∈ R) (hvs : NIn w dn vs inner) (hch : Chn w dn ns x y b) :
  ∀ (A A₀ : Around) (base h₀ : Heap) (outer : List Env) (L : Addr) (m : Str → Option Value) (s : Shared) (env : Env) (Q E : Value → Shared → Prop),
    Below A₀ base outer h₀ → Fr h₀ L s.heap m → (hd.heap_1 w.params).In h₀ → News h₀ L s.heap ((f, instObj 140 d) :: (d, frD w (.ref x) (.ref y) l t1 t2 t3) :: (l, W.listOf vs.toArray e) :: (b, W.listOf ([] : List Value).toArray e0) :: R) → Top seenText LOOSE mean mg mb h₀ →
    A.frames = some (env :: outer) → env.frame = some L → env.scope.kind = .function → A.handled = none →
    A.depth + 12 < recursionLimit → A.units + 200 < cLine →
    (∀ r news' h' tk', Fr h₀ L h' m → News h₀ L h' news' → RmPost w t q ns inner f d l vs e t1 t2 t3 dn R news' r → Q r { s with heap := h', toks := tk' }) →
    ((∀ p st, machL (t.drop q) (ns, inner) (p :: st) = none) → ∀ e g' h' tk', Fr h₀ L g' m → Flies base g' (env :: outer) e R h' → g'.UpToSlots h' → E (.ref e) { s with heap := h', toks := tk' }) →
    wpAny (model Challenge.rw_or0039_01.row.prog w) A (call (.ref 165) [.bytes (B8 t).toArray t4, .int (q : Int) t5, .ref f]) Q E s := by
  k_fill
  intro A A₀ base h₀ outer L m s env Q E B hF X N T hA hf hke hh hdp hu hret hexc
  have hrl : recursionLimit = 1000 := rfl
  obtain ⟨dy, n0, tk0, ta, tb, hy1, hy2⟩ := hch.last
  have hy1 := hsub _ hy1
  have hy2 := hsub _ hy2
  have hns := hch.ne
  refine wpAny_call ?_
  k_enter
  k_steps
  · refine Halt.mk ?_
    rename Fr _ _ _ (nm _ _) => kF
    rename News _ _ _ (_ :: _ :: _) => kN
    refine wire_throw w (by k_asm) kF (by k_asm) kN (by k_asm) hA hh (by k_extra "ar9") (by k_extra "ar9") rfl ?_
    intro x h₅ tk₅ Fl up
    refine hexc (fun p st => ?_) x _ h₅ tk₅ (by k_asm) (Fl.sub (fun p hp => by k_mem)) up
    refine step_bad hq (by k_extra "ar9") (by k_extra "ar9") ?_
    rename _ ↔ vs ≠ [] => hv
    have hv0 : vs ≠ [] := hv.mp (by assumption)
    have := hvs.len
    have := List.length_pos_iff.mpr hv0
    k_extra "ar9"
  all_goals
    rename _ ↔ vs ≠ [] => hv
    have hv0 : vs = [] := by
      apply Decidable.byContradiction
      intro k
      have := hv.mpr k
      simp_all
    have hi : inner.len = 0 := by rw [← hvs.len, hv0]; rfl
  · refine Halt.mk ?_
    rename Fr _ _ _ (nm _ _) => kF
    rename News _ _ _ (_ :: _ :: _) => kN
    refine wire_throw w (by k_asm) kF (by k_asm) kN (by k_asm) hA hh (by k_extra "ar9") (by k_extra "ar9") rfl ?_
    intro x h₅ tk₅ Fl up
    refine hexc (fun p st => ?_) x _ h₅ tk₅ (by k_asm) (Fl.sub (fun p hp => by k_mem)) up
    rw [step_num1 hq (by k_extra "ar9") (by k_extra "ar9") hi hns, if_pos (by k_extra "ar9")]
  · dsimp only at *
    rename Fr h₀ L _ _ => kF
    rename News h₀ L _ _ => kN
    rename _ = [40] => h4
    refine rm_end2 hret kF (nget_tail kN) (q' := q + 1) hch (by k_extra "ar9") (by k_extra "ar9") (fun p st => ?_) n1 n2 n3 o1 o2 o3 n4 n5 n6 o4
    rw [step_num1 hq (by k_extra "ar9") (by k_extra "ar9") hi hns, if_neg (by k_extra "ar9"), if_pos (take1_iff.mp h4)]
  rename ¬ _ = [40] => h41
  refine Halt.mk ?_
  rename Fr _ _ _ _ => kF
  rename News _ _ _ (_ :: _ :: _) => kN
  refine FunE.use (nume_ct w mean mg mb t (q + 1) (by k_extra "ar9") ht hb) (by k_asm) kF (by k_asm) kN (by k_asm) (Around.frames_deeper hA) rfl rfl hh ?_ ?_ ⟨_, _, rfl⟩ ?_ ?_
  · simp only [depth_deeper]; k_extra "ar9"
  · simp only [units_deeper]; k_extra "ar9"
  rotate_left
  · intro hx x g₂ h₅ tk₅ F₅ Fl up
    refine leave_next (s' := ⟨_, _, _, _, _⟩) (by k_asm) F₅ Fl up ?_
    intro h₆ Fl₆ up₆
    refine hexc (fun p st => ?_) x _ h₆ _ (by k_asm) (Fl₆.sub (fun p hp => by k_mem)) up₆
    rw [step_num1 hq (by k_extra "ar9") (by k_extra "ar9") hi hns, if_neg (by k_extra "ar9"), if_neg (fun k => h41 (take1_iff.mpr k)), hx]
  intro r tl h₅ tk₅ F₅ N₅ hap₅ hr
  obtain ⟨P, t9, hP, hPne, hP48, hP20, hPq, rfl⟩ := hr
  have N₆ := nget N₅ (l' := (f, instObj 140 d) :: (d, frD w (.ref x) (.ref y) l t1 t2 t3) :: (l, W.listOf vs.toArray e) :: (b, W.listOf ([] : List Value).toArray e0) :: R) (fun p hp => List.mem_append_right _ (.tail _ hp))
  clear N₅ hap₅
  k_steps
  refine Halt.mk ?_
  rw [tw_take hP]
  refine my_intB (tw_all hP) hPne (by k_extra "ar9") ?_
  intro t10 tk10
  have yes := num_yes hP hPne hP48 hP20
  generalize ((digitsVal P : Nat) : Int) = n at yes
  have z41 := fun k => h41 (take1_iff.mpr k)
  clear h41
  k_steps
  · refine Halt.mk ?_
    rename Fr _ _ _ _ => kF
    rename News _ _ _ (_ :: _ :: _) => kN
    refine wire_throw w (by k_asm) kF (by k_asm) kN (by k_asm) hA hh (by k_extra "ar9") (by k_extra "ar9") rfl ?_
    intro x h₅ tk₅ Fl up
    refine hexc (fun p st => ?_) x _ h₅ tk₅ (by k_asm) (Fl.sub (fun p hp => by k_mem)) up
    rename _ = [40] => h4
    rw [step_num1 hq (by k_extra "ar9") (by k_extra "ar9") hi hns, if_neg (by k_extra "ar9"), if_neg z41, yes]
    simp only [take1_iff.mp h4, if_true]
  · dsimp only at *
    rename Fr h₀ L _ _ => kF
    rename News h₀ L _ _ => kN
    rename ¬ _ = [40] => h4
    have hpos : 0 < P.length := List.length_pos_iff.mpr hPne
    refine rm_end1 hret kF kN hch (by k_extra "ar9") (by k_extra "ar9") (fun p st => ?_) (by assumption) (by assumption) (by assumption) n1 n2 n3 o1 o2 o3 n4 n5 n6 o4
    rw [step_num1 hq (by k_extra "ar9") (by k_extra "ar9") hi hns, if_neg (by k_extra "ar9"), if_neg z41, yes]
    simp only [if_neg fun k => h4 (take1_iff.mpr k)]
theorem Sep.head {a : Addr} {o : Obj} {l r : List (Addr × Obj)} (h : Sep ((a, o) :: l) r) : (∀ p ∈ l, p.1 ≠ a) ∧ (∀ p ∈ r, p.1 ≠ a) ∧ Sep l r := by
  obtain ⟨h1, h2⟩ := h
  cases h1 with
  | cons h3 h4 => exact ⟨fun p hp => Ne.symm (h3 p hp), fun p hp => Ne.symm (h2 _ (.head _) p hp), h4, fun p hp q hq => h2 p (.tail _ hp) q hq⟩
theorem rm_ct (w : World) (mean : ExcName → Option Value) (mg mb : Str → Option Value) (t : List Nat) (q : Nat) (inner : F) (ns : List Int) (f d l : Addr) (v1 v2 : Value) (vs : List Value) (e : Nat) (t1 t2 t3 t4 t5 : Tok) (ext dn R : List (Addr × Obj)) (ht : t.length ≤ 100000) (hb : ∀ c ∈ t, c < 256) (hq : q < t.length) (h40 : t.getD q 0 ≠ 40) (h41 : t.getD q 0 ≠ 41)
    (hS : Sep ((f, instObj 140 d) :: (d, frD w v1 v2 l t1 t2 t3) :: (l, W.listOf vs.toArray e) :: ext) R) (hsub : ∀ p ∈ dn, p ∈ R) (hvs : NIn w dn vs inner) (hH : Hd w dn ns v1 v2 ext) :
  ∀ (A A₀ : Around) (base h₀ : Heap) (outer : List Env) (L : Addr) (m : Str → Option Value) (s : Shared) (env : Env) (Q E : Value → Shared → Prop),
    Below A₀ base outer h₀ → Fr h₀ L s.heap m → (hd.heap_1 w.params).In h₀ → News h₀ L s.heap ((f, instObj 140 d) :: (d, frD w v1 v2 l t1 t2 t3) :: (l, W.listOf vs.toArray e) :: (ext ++ R)) → Top seenText LOOSE mean mg mb h₀ →
    A.frames = some (env :: outer) → env.frame = some L → env.scope.kind = .function → A.handled = none →
    A.depth + 12 < recursionLimit → A.units + 200 < cLine →
    (∀ r news' h' tk', Fr h₀ L h' m → News h₀ L h' news' → RmPost w t q ns inner f d l vs e t1 t2 t3 dn R news' r → Q r { s with heap := h', toks := tk' }) →
    ((∀ p st, machL (t.drop q) (ns, inner) (p :: st) = none) → ∀ e g' h' tk', Fr h₀ L g' m → Flies base g' (env :: outer) e R h' → g'.UpToSlots h' → E (.ref e) { s with heap := h', toks := tk' }) →
    wpAny (model Challenge.rw_or0039_01.row.prog w) A (call (.ref 165) [.bytes (B8 t).toArray t4, .int (q : Int) t5, .ref f]) Q E s := by
  obtain ⟨a1, o1, s1⟩ := hS.head
  obtain ⟨a2, o2, s2⟩ := s1.head
  obtain ⟨a3, o3, s3⟩ := s2.head
  have n1 : @Ne Nat f d := Ne.symm (a1 _ (.head _))
  have n2 : @Ne Nat f l := Ne.symm (a1 _ (.tail _ (.head _)))
  have n3 : @Ne Nat d l := Ne.symm (a2 _ (.head _))
  cases hH with
  | none => exact rm0 w mean mg mb t q _ inner f d l vs e t1 t2 t3 t4 t5 dn R ht hb hq rfl h40 h41 n1 n2 n3 o1 o2 o3 hsub hvs
  | @some _ x y b e0 hc =>
    have n4 : @Ne Nat f b := Ne.symm (a1 _ (.tail _ (.tail _ (.head _))))
    have n5 : @Ne Nat d b := Ne.symm (a2 _ (.tail _ (.head _)))
    have n6 : @Ne Nat l b := Ne.symm (a3 _ (.head _))
    exact rm1 w mean mg mb t q _ inner ns f d l x y b vs e e0 t1 t2 t3 t4 t5 dn R ht hb hq rfl h40 h41 n1 n2 n3 o1 o2 o3 n4 n5 n6 s3.head.2.1 hsub hvs hc
inductive Stk (w : World) (dn : List (Addr × Obj)) : List Addr → List (List Int × F) → List (Addr × Obj) → Prop
  | nil : Stk w dn [] [] []
  | cons {f d l : Addr} {vs : List Value} {e : Nat} {t1 t2 t3 : Tok} {v1 v2 : Value} {ext own : List (Addr × Obj)} {ns : List Int} {inner : F} {fs : List Addr} {st : List (List Int × F)} :
      Hd w dn ns v1 v2 ext → NIn w dn vs inner → Stk w dn fs st own → Stk w dn (f :: fs) ((ns, inner) :: st) ((f, instObj 140 d) :: (d, frD w v1 v2 l t1 t2 t3) :: (l, W.listOf vs.toArray e) :: (ext ++ own))
theorem Stk.mono {w : World} {dn dn' : List (Addr × Obj)} (hs : ∀ p ∈ dn, p ∈ dn') {fs : List Addr} {st : List (List Int × F)} {own : List (Addr × Obj)} (h : Stk w dn fs st own) : Stk w dn' fs st own := by
  induction h with
  | nil => exact .nil
  | cons h1 h2 _ i => exact .cons (h1.mono hs) (h2.mono hs) i
theorem Stk.len {w : World} {dn : List (Addr × Obj)} {fs : List Addr} {st : List (List Int × F)} {own : List (Addr × Obj)} (h : Stk w dn fs st own) : fs.length = st.length := by
  induction h with
  | nil => rfl
  | cons h1 h2 _ i => simp [i]
noncomputable def tot : List (List Int × F) → Nat
  | [] => 0
  | (_, i) :: r => i.len + 1 + tot r
theorem tot_len : ∀ st : List (List Int × F), st.length ≤ tot st
  | [] => Nat.le_refl _
  | (_, i) :: r => by have := tot_len r; simp only [List.length_cons, tot]; k_extra "ar9"
noncomputable def refs (fs : List Addr) : List Value := fs.reverse.map Value.ref
theorem refs_cons (f : Addr) (fs : List Addr) : refs (f :: fs) = refs fs ++ [.ref f] := by simp [refs]
theorem refs_len (fs : List Addr) : (refs fs).length = fs.length := by simp [refs]
structure RtS (w : World) (t : List Nat) (news : List (Addr × Obj)) (q : Nat) (fa : Addr) (frs : List Addr) (ns : List Int) (inner : F) (st : List (List Int × F)) (own dn : List (Addr × Obj)) (e0 : Nat) : Prop where
  stk : Stk w dn frs ((ns, inner) :: st) own
  sep : Sep ((fa, W.listOf (refs frs).toArray e0) :: own) (dn ++ news)
  hap : Apart dn news
  hq : q ≤ t.length
  hm : machL (t.drop q) (ns, inner) st = machL t ([], .nil) []
  ht : tot ((ns, inner) :: st) ≤ q + 1
noncomputable def RtJ (w : World) (t : List Nat) (t1 : Tok) (news : List (Addr × Obj)) (n : Nat) (m : Str → Option Value) (nx : List (Addr × Obj)) : Prop :=
  Ex10 fun (q : Nat) (fa : Addr) (tq : Tok) (frs : List Addr) (ns : List Int) (inner : F) (st : List (List Int × F)) (own dn : List (Addr × Obj)) (e0 : Nat) => Al4 (nx = (fa, W.listOf (refs frs).toArray e0) :: (own ++ (dn ++ news))) (RtS w t news q fa frs ns inner st own dn e0) (n = t.length - q) (Pin m [("octets", .bytes (B8 t).toArray t1), ("frames", .ref fa), ("at", .int (q : Nat) tq)])
section
variable {w : World} {t : List Nat} {news : List (Addr × Obj)} {q : Nat} {fa : Addr} {frs : List Addr} {ns : List Int} {inner : F} {st : List (List Int × F)} {own dn : List (Addr × Obj)} {e0 : Nat}
theorem Sep.perm {l l' r : List (Addr × Obj)} (h : Sep l r) (hp : l.Perm l') : Sep l' r :=
  ⟨(hp.pairwise_iff (fun h => Ne.symm h)).mp h.1, fun p hp' q hq => h.2 p (hp.mem_iff.mpr hp') q hq⟩
theorem Sep.swap {a b : Addr × Obj} {l r : List (Addr × Obj)} (h : Sep (a :: b :: l) r) : Sep (b :: a :: l) r := h.perm (.swap b a l)
theorem Sep.obj {a : Addr} {o o' : Obj} {l r : List (Addr × Obj)} (h : Sep ((a, o) :: l) r) : Sep ((a, o') :: l) r := by
  obtain ⟨h1, h2, h3⟩ := h.head
  exact Sep.cons h1 h2 h3
theorem rt_perm {h₀ h : Heap} {L fa lx x dx : Addr} {p : Addr × Obj} {oa ol ox od : Obj} (N : News h₀ L h (p :: (fa, oa) :: (lx, ol) :: (x, ox) :: (dx, od) :: news)) : News h₀ L h ((fa, oa) :: ([(x, ox), (dx, od), (lx, ol)] ++ ([] ++ news))) := nget N fun p hp => by
  simp only [List.mem_cons, List.mem_append, List.not_mem_nil, or_false, false_or] at hp ⊢
  grind
theorem rt_start {x dx lx : Addr} {o1 o2 o3 o4 o5 : Obj} {ta tb tc : Tok} {e1 : Nat} (c1 : ∀ p ∈ news, p.1 < dx) (c2 : @LT.lt Nat _ dx x) (c3 : ∀ p ∈ (x, o1) :: (dx, o2) :: news, p.1 < lx) (c4 : ∀ p ∈ (lx, o3) :: (x, o4) :: (dx, o5) :: news, p.1 < fa) :
    RtS w t news 0 fa [x] [] .nil [] [(x, instObj 140 dx), (dx, frD w .none .none lx ta tb tc), (lx, W.listOf ([] : List Value).toArray e1)] [] e0 := by
  simp only [List.forall_mem_cons] at c3 c4
  obtain ⟨a1, a2, a3⟩ := c3
  obtain ⟨b1, b2, b3, b4⟩ := c4
  have a1 : @LT.lt Nat _ x lx := a1
  have b1 : @LT.lt Nat _ lx fa := b1
  refine ⟨.cons .none .nil .nil, ?_, Apart.nil, Nat.zero_le _, by simp, by simp [tot, F.len]⟩
  refine Sep.cons ?_ (off_lt b4) (Sep.cons ?_ (off_in2 c2 c1 fun _ h => h) (Sep.cons ?_ (off_lt c1) (Sep.cons ?_ (off_lt a3) Sep.nil))) <;> simp only [List.forall_mem_cons, List.not_mem_nil, false_implies, implies_true, and_true]
  · exact ⟨neN (by k_extra "ar9"), neN (by k_extra "ar9"), neN (by k_extra "ar9")⟩
  · exact ⟨neN (by k_extra "ar9"), neN (by k_extra "ar9")⟩
  · exact neN (by k_extra "ar9")
theorem rt_push {x dx lx : Addr} {o1 o2 o3 o4 : Obj} {ta tb tc : Tok} {e1 e2 : Nat} (S : RtS w t news q fa frs ns inner st own dn e0) (hq : q < t.length) (h40 : t.getD q 0 = 40)
    (c1 : ∀ p ∈ (fa, o1) :: (own ++ (dn ++ news)), p.1 < dx) (c2 : @LT.lt Nat _ dx x) (c3 : ∀ p ∈ (x, o2) :: (dx, o3) :: (fa, o4) :: (own ++ (dn ++ news)), p.1 < lx) :
    RtS w t news (q + 1) fa (x :: frs) [] .nil ((ns, inner) :: st) ((x, instObj 140 dx) :: (dx, frD w .none .none lx ta tb tc) :: (lx, W.listOf ([] : List Value).toArray e1) :: own) dn e2 := by
  simp only [List.forall_mem_cons] at c1 c3
  obtain ⟨a1, a2⟩ := c1
  obtain ⟨b1, b2, b3, b4⟩ := c3
  have a1 : @LT.lt Nat _ fa dx := a1
  have b1 : @LT.lt Nat _ x lx := b1
  have a3 : ∀ p ∈ own, p.1 < dx := fun p hp => a2 p (List.mem_append_left _ hp)
  have a4 : ∀ p ∈ dn ++ news, p.1 < dx := fun p hp => a2 p (List.mem_append_right _ hp)
  have b5 : ∀ p ∈ own, p.1 < lx := fun p hp => b4 p (List.mem_append_left _ hp)
  have b6 : ∀ p ∈ dn ++ news, p.1 < lx := fun p hp => b4 p (List.mem_append_right _ hp)
  obtain ⟨d1, d2, d3⟩ := S.sep.head
  refine ⟨.cons .none .nil S.stk, ?_, S.hap, hq, ?_, by have := S.ht; simp only [tot, F.len] at this ⊢; k_extra "ar9"⟩
  · refine Sep.cons ?_ d2 (Sep.cons ?_ (off_in2 c2 a4 fun _ h => h) (Sep.cons ?_ (off_lt a4) (Sep.cons ?_ (off_lt b6) d3))) <;> (try simp only [List.forall_mem_cons])
    · exact ⟨neN (by k_extra "ar9"), neN (by k_extra "ar9"), neN (by k_extra "ar9"), d1⟩
    · exact ⟨neN (by k_extra "ar9"), neN (by k_extra "ar9"), off_in2 c2 a3 fun _ h => h⟩
    · exact ⟨neN (by k_extra "ar9"), off_lt a3⟩
    · exact off_lt b5
  · rw [← S.hm, drop_at hq, h40, machL_cons, if_pos rfl]
theorem turn_push {g h : Heap} {L x dx lx : Addr} {m' : Str → Option Value} {D : (Str → Option Value) → List (Addr × Obj) → Prop} {Q : Flow → Shared → Prop} {s : Shared} {tk : Nat} {t1 tq ta tb tc : Tok} {o1 o2 o3 o4 : Obj} {e1 e2 : Nat} (S : RtS w t news q fa frs ns inner st own dn e0) (hq : q < t.length) (h40 : t.getD q 0 = 40)
    (kF : Fr g L h m') (kN : News g L h ((lx, W.listOf ([] : List Value).toArray e1) :: (x, instObj 140 dx) :: (dx, frD w .none .none lx ta tb tc) :: (fa, W.listOf (refs frs ++ [Value.ref x]).toArray e2) :: (own ++ (dn ++ news))))
    (c1 : ∀ p ∈ (fa, o1) :: (own ++ (dn ++ news)), p.1 < dx) (c2 : @LT.lt Nat _ dx x) (c3 : ∀ p ∈ (x, o2) :: (dx, o3) :: (fa, o4) :: (own ++ (dn ++ news)), p.1 < lx)
    (hpin : Pin m' [("octets", .bytes (B8 t).toArray t1), ("frames", .ref fa), ("at", .int ((q + 1 : Nat) : Int) tq)]) :
    WTurn g L (RtJ w t t1 news) D Q s (t.length - q) .next { s with heap := h, toks := tk } := by
  refine WTurn.go kF (news' := (fa, W.listOf (refs (x :: frs)).toArray e2) :: (((x, instObj 140 dx) :: (dx, frD w .none .none lx ta tb tc) :: (lx, W.listOf ([] : List Value).toArray e1) :: own) ++ (dn ++ news))) (nget kN ?_) (n' := t.length - (q + 1)) (by k_extra "ar9") ⟨q + 1, fa, tq, x :: frs, [], .nil, (ns, inner) :: st, _, dn, e2, rfl, rt_push S hq h40 c1 c2 c3, rfl, hpin⟩
  rw [refs_cons]
  k_extra "sub9"
theorem Sep.app {a b r : List (Addr × Obj)} (h : Sep a r) (k : Sep b r) (j : Apart a b) : Sep (a ++ b) r :=
  ⟨List.pairwise_append.mpr ⟨h.1, k.1, fun p hp q hq => j p hp q hq⟩, ap_app h.2 k.2⟩
theorem Sep.left {a b r : List (Addr × Obj)} (h : Sep (a ++ b) r) : Sep a (b ++ r) := by
  obtain ⟨h1, h2⟩ := h
  obtain ⟨h3, h4, h5⟩ := List.pairwise_append.mp h1
  refine ⟨h3, fun p hp q hq => ?_⟩
  rcases List.mem_append.mp hq with hq | hq
  · exact h5 p hp q hq
  · exact h2 p (List.mem_append_left _ hp) q hq
theorem Sep.right {a b r : List (Addr × Obj)} (h : Sep (a ++ b) r) : Sep b r :=
  ⟨(List.pairwise_append.mp h.1).2.1, fun p hp => h.2 p (List.mem_append_right _ hp)⟩
theorem Sep.sub {a r r' : List (Addr × Obj)} (h : Sep a r) (k : ∀ p ∈ r', p ∈ r) : Sep a r' := ⟨h.1, fun p hp q hq => h.2 p hp q (k q hq)⟩
theorem Sep.addR {a r : List (Addr × Obj)} {x : Addr} {o : Obj} (h : Sep a r) (k : ∀ p ∈ a, p.1 ≠ x) : Sep a ((x, o) :: r) := ⟨h.1, fun p hp q hq => by
  rcases List.mem_cons.mp hq with rfl | hq
  · exact k p hp
  · exact h.2 p hp q hq⟩
theorem turn_read {g h : Heap} {L : Addr} {m' : Str → Option Value} {D : (Str → Option Value) → List (Addr × Obj) → Prop} {Q : Flow → Shared → Prop} {s : Shared} {tk : Nat} {t1 tq ta tb tc : Tok} {oR : Obj} {f d l : Addr} {vs : List Value} {e : Nat} {v1 v2 : Value} {ext own' new : List (Addr × Obj)} {fs : List Addr} {p2 : List Int × F} {q' : Nat} {ns' : List Int} {o1 o2 o3 : Obj} {ext0 : List (Addr × Obj)}
    (S : RtS w t news q fa (f :: fs) ns inner (p2 :: st) ((f, o1) :: (d, o2) :: (l, o3) :: (ext0 ++ own')) dn e0) (hs : Stk w dn fs (p2 :: st) own') (hv : NIn w dn vs inner) (hq : q < t.length)
    (kF : Fr g L h m') (kN : News g L h ((f, instObj 140 d) :: (d, frD w v1 v2 l ta tb tc) :: (l, W.listOf vs.toArray e) :: (ext ++ (new ++ ((fa, W.listOf (refs fs ++ [Value.ref f]).toArray e0) :: (own' ++ (dn ++ news)))))))
    (hlt : q < q') (hle : q' ≤ t.length) (hm : ∀ p st, machL (t.drop q) (ns, inner) (p :: st) = machL (t.drop q') (ns', inner) (p :: st)) (hH : Hd w (new ++ dn) ns' v1 v2 ext)
    (hsep : Sep ((f, instObj 140 d) :: (d, frD w v1 v2 l ta tb tc) :: (l, W.listOf vs.toArray e) :: ext) (new ++ ((fa, oR) :: (own' ++ (dn ++ news))))) (hap : Apart new ((fa, oR) :: (own' ++ (dn ++ news))))
    (hpin : Pin m' [("octets", .bytes (B8 t).toArray t1), ("frames", .ref fa), ("at", .int (q' : Int) tq)]) :
    WTurn g L (RtJ w t t1 news) D Q s (t.length - q) .next { s with heap := h, toks := tk } := by
  have hsub : ∀ p ∈ dn, p ∈ new ++ dn := fun p hp => List.mem_append_right _ hp
  have hS := S.sep.head
  have hown : Sep own' (dn ++ news) := Sep.right (a := (f, o1) :: (d, o2) :: (l, o3) :: ext0) hS.2.2
  have hfo : ∀ p ∈ own', p.1 ≠ fa := fun p hp => hS.1 p (.tail _ (.tail _ (.tail _ (List.mem_append_right _ hp))))
  refine WTurn.go kF (news' := (fa, W.listOf (refs (f :: fs)).toArray e0) :: (((f, instObj 140 d) :: (d, frD w v1 v2 l ta tb tc) :: (l, W.listOf vs.toArray e) :: (ext ++ own')) ++ ((new ++ dn) ++ news))) (nget kN ?_) (n' := t.length - q') (by k_extra "ar9")
    ⟨q', fa, tq, f :: fs, ns', inner, p2 :: st, _, new ++ dn, e0, rfl, ⟨.cons hH (hv.mono hsub) (hs.mono hsub), ?_, ?_, hle, by rw [← hm, S.hm], by have := S.ht; simp only [tot] at this ⊢; k_extra "ar9"⟩, rfl, hpin⟩
  · rw [refs_cons]
    k_extra "sub9"
  · refine Sep.cons ?_ ?_ ?_
    · intro p hp
      rcases List.mem_append.mp (show p ∈ ((f, instObj 140 d) :: (d, frD w v1 v2 l ta tb tc) :: (l, W.listOf vs.toArray e) :: ext) ++ own' from hp) with hp | hp
      · exact hsep.2 p hp _ (List.mem_append_right _ (.head _))
      · exact hfo p hp
    · rw [List.append_assoc]
      refine off_app (fun p hp => hap p hp _ (.head _)) hS.2.1
    · refine Sep.app (a := (f, instObj 140 d) :: (d, frD w v1 v2 l ta tb tc) :: (l, W.listOf vs.toArray e) :: ext) (hsep.sub ?_) ⟨hown.1, ?_⟩ (fun p hp q hq => hsep.2 p hp q (List.mem_append_right _ (.tail _ (List.mem_append_left _ hq))))
      · k_extra "sub9"
      · intro p hp q hq
        rw [List.append_assoc] at hq
        rcases List.mem_append.mp hq with hq | hq
        · exact Ne.symm (hap q hq p (.tail _ (List.mem_append_left _ hp)))
        · exact hown.2 p hp q hq
  · refine ap_app (ap_get hap fun p hp => ?_) S.hap
    simp only [List.mem_append, List.mem_cons, hp, or_true]
theorem Sep.congr {l l' r r' : List (Addr × Obj)} (h : Sep l r) (k1 : l.map (·.1) = l'.map (·.1)) (k2 : r.map (·.1) = r'.map (·.1)) : Sep l' r' := by
  obtain ⟨h1, h2⟩ := h
  constructor
  · have : (l.map (·.1)).Pairwise (fun a b : Addr => a ≠ b) := List.pairwise_map.mpr h1
    rw [k1] at this
    exact List.pairwise_map.mp this
  · intro p hp q hq
    have hp' : p.1 ∈ l.map (·.1) := k1 ▸ List.mem_map_of_mem hp
    have hq' : q.1 ∈ r.map (·.1) := k2 ▸ List.mem_map_of_mem hq
    obtain ⟨p', hp1, hp2⟩ := List.mem_map.mp hp'
    obtain ⟨q', hq1, hq2⟩ := List.mem_map.mp hq'
    have := h2 p' hp1 q' hq1
    rw [hp2, hq2] at this
    exact this
theorem step_close {ns2 : List Int} {inner2 : F} (hq : q < t.length) (h41 : t.getD q 0 = 41) (h1 : inner.len ≠ 1) (h2 : ¬ (ns = [] ∧ inner.len = 0)) :
    machL (t.drop q) (ns, inner) ((ns2, inner2) :: st) = machL (t.drop (q + 1)) (ns2, inner2.app (chainF ns inner .nil)) st := by
  rw [drop_at hq, h41, machL_cons, if_neg (by decide)]
  simp only [if_true]
  rw [if_neg (by rintro (h | h); exact h1 h; exact h2 h)]
theorem step_noclose {ns2 : List Int} {inner2 : F} (hq : q < t.length) (h41 : t.getD q 0 = 41) (h1 : inner.len = 1 ∨ (ns = [] ∧ inner.len = 0)) :
    machL (t.drop q) (ns, inner) ((ns2, inner2) :: st) = none := by
  rw [drop_at hq, h41, machL_cons, if_neg (by decide)]
  simp only [if_true]
  rw [if_pos h1]
theorem F.len_app : ∀ f g : F, (f.app g).len = f.len + g.len
  | .nil, g => by simp [F.app, F.len]
  | .cons n k r, g => by simp only [F.app, F.len, F.len_app r g]; k_extra "ar9"
theorem chainF_len : ∀ (ns : List Int) (f : F), (chainF ns f .nil).len = 1
  | [], _ => rfl
  | [_], _ => rfl
  | _ :: _ :: _, _ => rfl
theorem turn_close {g h : Heap} {L : Addr} {m' : Str → Option Value} {D : (Str → Option Value) → List (Addr × Obj) → Prop} {Q : Flow → Shared → Prop} {s : Shared} {tk : Nat} {t1 tq tu tv tw2 : Tok} {f d l f2 d2 l2 : Addr} {o1 o2 o3 o4 o5 o6 : Obj} {vs2 : List Value} {e7 e8 : Nat} {v3 v4 y : Value} {ext ext2 own3 nw led : List (Addr × Obj)} {fs3 : List Addr} {ns2 : List Int} {inner2 : F}
    (S : RtS w t news q fa (f :: f2 :: fs3) ns inner ((ns2, inner2) :: st) ((f, o1) :: (d, o2) :: (l, o3) :: (ext ++ ((f2, o4) :: (d2, o5) :: (l2, o6) :: (ext2 ++ own3)))) dn e0) (hq : q < t.length) (h41 : t.getD q 0 = 41) (h1 : inner.len ≠ 1) (h2 : ¬ (ns = [] ∧ inner.len = 0))
    (hH2 : Hd w dn ns2 v3 v4 ext2) (hv2 : NIn w dn vs2 inner2) (hs3 : Stk w dn fs3 st own3)
    (hy : NIn w (nw ++ dn) [y] (chainF ns inner .nil)) (hap : Apart nw news)
    (hfr : Apart nw ((fa, o1) :: (f2, o4) :: (d2, o5) :: (l2, o6) :: (ext2 ++ own3)))
    (kF : Fr g L h m') (kN : News g L h led)
    (hl : ∀ p ∈ (fa, W.listOf (refs (f2 :: fs3)).toArray e7) :: (((f2, instObj 140 d2) :: (d2, frD w v3 v4 l2 tu tv tw2) :: (l2, W.listOf (vs2 ++ [y]).toArray e8) :: (ext2 ++ own3)) ++ ((nw ++ dn) ++ news)), p ∈ led)
    (hpin : Pin m' [("octets", .bytes (B8 t).toArray t1), ("frames", .ref fa), ("at", .int ((q + 1 : Nat) : Int) tq)]) :
    WTurn g L (RtJ w t t1 news) D Q s (t.length - q) .next { s with heap := h, toks := tk } := by
  have hsub : ∀ p ∈ dn, p ∈ nw ++ dn := fun p hp => List.mem_append_right _ hp
  have hS := S.sep.head
  have sM : Sep ((f2, o4) :: (d2, o5) :: (l2, o6) :: (ext2 ++ own3)) (dn ++ news) := Sep.right (a := (f, o1) :: (d, o2) :: (l, o3) :: ext) hS.2.2
  have sF : Sep ((fa, o1) :: (f2, o4) :: (d2, o5) :: (l2, o6) :: (ext2 ++ own3)) (dn ++ news) := Sep.cons (fun p hp => hS.1 p (.tail _ (.tail _ (.tail _ (List.mem_append_right _ hp))))) hS.2.1 sM
  have sA : Sep ((fa, o1) :: (f2, o4) :: (d2, o5) :: (l2, o6) :: (ext2 ++ own3)) ((nw ++ dn) ++ news) := by
    refine ⟨sF.1, fun p hp q hq => ?_⟩
    rw [List.append_assoc] at hq
    rcases List.mem_append.mp hq with hq | hq
    · exact Ne.symm (hfr q hq p hp)
    · exact sF.2 p hp q hq
  refine WTurn.go kF (news' := (fa, W.listOf (refs (f2 :: fs3)).toArray e7) :: (((f2, instObj 140 d2) :: (d2, frD w v3 v4 l2 tu tv tw2) :: (l2, W.listOf (vs2 ++ [y]).toArray e8) :: (ext2 ++ own3)) ++ ((nw ++ dn) ++ news))) (nget kN hl) (n' := t.length - (q + 1)) (by k_extra "ar9")
    ⟨q + 1, fa, tq, f2 :: fs3, ns2, inner2.app (chainF ns inner .nil), st, _, nw ++ dn, e7, rfl, ⟨.cons (hH2.mono hsub) ((hv2.mono hsub).app hy) (hs3.mono hsub), sA.congr rfl rfl, ap_app hap S.hap, hq, ?_, ?_⟩, rfl, hpin⟩
  · rw [← S.hm, step_close hq h41 h1 h2]
  · have := S.ht
    simp only [tot, F.len_app, chainF_len] at this ⊢
    k_extra "ar9"
theorem turn_close0 {g h : Heap} {L : Addr} {m' : Str → Option Value} {D : (Str → Option Value) → List (Addr × Obj) → Prop} {Q : Flow → Shared → Prop} {s : Shared} {tk : Nat} {t1 tq tu tv tw2 tn tx ty : Tok} {f d l f2 d2 l2 z dz : Addr} {o1 o2 o3 o4 o5 o6 p1 p2 q1 q2 q3 q4 q5 q6 q7 : Obj} {pe pe' : Addr × Obj} {vs vs2 : List Value} {e e7 e8 : Nat} {v3 v4 : Value} {ext2 own3 : List (Addr × Obj)} {fs3 : List Addr} {ns2 : List Int} {inner2 : F}
    (S : RtS w t news q fa (f :: f2 :: fs3) [] inner ((ns2, inner2) :: st) ((f, o1) :: (d, o2) :: (l, o3) :: ([] ++ ((f2, o4) :: (d2, o5) :: (l2, o6) :: (ext2 ++ own3)))) dn e0) (hq : q < t.length) (h41 : t.getD q 0 = 41) (h1 : inner.len ≠ 1) (h2 : inner.len ≠ 0)
    (hH2 : Hd w dn ns2 v3 v4 ext2) (hv2 : NIn w dn vs2 inner2) (hs3 : Stk w dn fs3 st own3) (hv : NIn w dn vs inner)
    (kF : Fr g L h m') (kN : News g L h ((z, instObj 93 dz) :: (dz, ndD w 0 tn l tx ty) :: pe :: (fa, W.listOf (refs fs3 ++ [Value.ref f2]).toArray e7) :: (f, p1) :: (d, p2) :: (l, W.listOf vs.toArray e) :: (f2, instObj 140 d2) :: (d2, frD w v3 v4 l2 tu tv tw2) :: (l2, W.listOf (vs2 ++ [Value.ref z]).toArray e8) :: (ext2 ++ (own3 ++ (dn ++ news)))))
    (c1 : ∀ p ∈ pe' :: (fa, q1) :: (f, q2) :: (d, q3) :: (l, q4) :: (f2, q5) :: (d2, q6) :: (l2, q7) :: (ext2 ++ (own3 ++ (dn ++ news))), p.1 < dz) (c2 : @LT.lt Nat _ dz z)
    (hpin : Pin m' [("octets", .bytes (B8 t).toArray t1), ("frames", .ref fa), ("at", .int ((q + 1 : Nat) : Int) tq)]) :
    WTurn g L (RtJ w t t1 news) D Q s (t.length - q) .next { s with heap := h, toks := tk } := by
  have u := S.sep.head
  have u1 := u.2.2.head.2.2.head.2.2.head
  have n1 : ∀ p ∈ news, p.1 < dz := fun p hp => c1 p (by k_mem)
  have n2 : ∀ p ∈ (fa, q1) :: (f2, q5) :: (d2, q6) :: (l2, q7) :: (ext2 ++ own3), p.1 < dz := lt_sub c1 (by k_extra "sub9")
  have n3 : Apart [(z, instObj 93 dz), (dz, ndD w 0 tn l tx ty)] ((fa, q1) :: (f2, q5) :: (d2, q6) :: (l2, q7) :: (ext2 ++ own3)) := Apart.cons (off_in2 c2 n2 fun _ h => h) (Apart.cons (off_lt n2) Apart.nil)
  have n4 : Sep ((fa, q1) :: (f2, q5) :: (d2, q6) :: (l2, q7) :: (ext2 ++ own3)) [(z, instObj 93 dz), (dz, ndD w 0 tn l tx ty), (l, W.listOf vs.toArray e)] := by
    have sM : Sep ((f2, o4) :: (d2, o5) :: (l2, o6) :: (ext2 ++ own3)) (dn ++ news) := u1.2.2
    have sF : Sep ((fa, o1) :: (f2, o4) :: (d2, o5) :: (l2, o6) :: (ext2 ++ own3)) (dn ++ news) := Sep.cons (fun p hp => u.1 p (.tail _ (.tail _ (.tail _ hp)))) u.2.1 sM
    have hl0 : @Ne Nat l fa := u.1 _ (.tail _ (.tail _ (.head _)))
    refine ⟨(sF.congr (l' := (fa, q1) :: (f2, q5) :: (d2, q6) :: (l2, q7) :: (ext2 ++ own3)) rfl rfl).1, fun p hp q hq => ?_⟩
    rcases List.mem_cons.mp hq with rfl | hq
    · exact Ne.symm (n3 _ (.head _) p hp)
    rcases List.mem_cons.mp hq with rfl | hq
    · exact Ne.symm (n3 _ (.tail _ (.head _)) p hp)
    rcases List.mem_cons.mp hq with rfl | hq
    · rcases List.mem_cons.mp hp with rfl | hp
      · exact Ne.symm hl0
      rcases List.mem_cons.mp hp with rfl | hp
      · exact u1.1 (f2, o4) (.head _)
      rcases List.mem_cons.mp hp with rfl | hp
      · exact u1.1 (d2, o5) (.tail _ (.head _))
      rcases List.mem_cons.mp hp with rfl | hp
      · exact u1.1 (l2, o6) (.tail _ (.tail _ (.head _)))
      · exact u1.1 p (.tail _ (.tail _ (.tail _ hp)))
    · exact nomatch hq
  refine turn_close (nw := [(z, instObj 93 dz), (dz, ndD w 0 tn l tx ty), (l, W.listOf vs.toArray e)]) (y := .ref z) (e7 := e7) (e8 := e8) (tu := tu) (tv := tv) (tw2 := tw2) S hq h41 h1 (fun k => h2 k.2) hH2 hv2 hs3 (.cons (.head _) (.tail _ (.head _)) (.tail _ (.tail _ (.head _))) (hv.mono fun p hp => .tail _ (.tail _ (.tail _ hp))) .nil)
    (Apart.cons (off_in2 c2 n1 fun _ h => h) (Apart.cons (off_lt n1) (Apart.cons (fun p hp => u1.2.1 p (List.mem_append_right _ hp)) Apart.nil)))
    (fun p hp q hq => Ne.symm ((n4.congr (l' := (fa, o1) :: (f2, o4) :: (d2, o5) :: (l2, o6) :: (ext2 ++ own3)) rfl rfl).2 q hq p hp)) kF kN ?_ hpin
  rw [refs_cons]
  k_extra "sub9"
theorem turn_close1 {g h : Heap} {L : Addr} {m' : Str → Option Value} {D : (Str → Option Value) → List (Addr × Obj) → Prop} {Q : Flow → Shared → Prop} {s : Shared} {tk : Nat} {t1 tq tu tv tw2 : Tok} {f d l f2 d2 l2 b x y : Addr} {o1 o2 o3 o4 o5 o6 ob p1 p2 : Obj} {vs vs2 : List Value} {e e7 e8 e9 : Nat} {v3 v4 : Value} {ext2 own3 : List (Addr × Obj)} {fs3 : List Addr} {ns2 : List Int} {inner2 : F}
    (S : RtS w t news q fa (f :: f2 :: fs3) ns inner ((ns2, inner2) :: st) ((f, o1) :: (d, o2) :: (l, o3) :: ([(b, ob)] ++ ((f2, o4) :: (d2, o5) :: (l2, o6) :: (ext2 ++ own3)))) dn e0) (hq : q < t.length) (h41 : t.getD q 0 = 41) (h1 : inner.len ≠ 1) (hc : Chn w dn ns x y b)
    (hH2 : Hd w dn ns2 v3 v4 ext2) (hv2 : NIn w dn vs2 inner2) (hs3 : Stk w dn fs3 st own3) (hv : NIn w dn vs inner)
    (kF : Fr g L h m') (kN : News g L h ((fa, W.listOf (refs fs3 ++ [Value.ref f2]).toArray e7) :: (f, p1) :: (d, p2) :: (l, W.listOf vs.toArray e) :: (b, W.listOf vs.toArray e9) :: (f2, instObj 140 d2) :: (d2, frD w v3 v4 l2 tu tv tw2) :: (l2, W.listOf (vs2 ++ [Value.ref x]).toArray e8) :: (ext2 ++ (own3 ++ (dn ++ news)))))
    (hpin : Pin m' [("octets", .bytes (B8 t).toArray t1), ("frames", .ref fa), ("at", .int ((q + 1 : Nat) : Int) tq)]) :
    WTurn g L (RtJ w t t1 news) D Q s (t.length - q) .next { s with heap := h, toks := tk } := by
  have u := S.sep.head
  have u1 := u.2.2.head.2.2.head.2.2.head.2.2.head
  have hb0 : @Ne Nat b fa := u.1 _ (.tail _ (.tail _ (.tail _ (.head _))))
  refine turn_close (nw := [(b, W.listOf vs.toArray e9)]) (y := .ref x) (e7 := e7) (e8 := e8) (tu := tu) (tv := tv) (tw2 := tw2) S hq h41 h1 (fun k => hc.ne k.1) hH2 hv2 hs3 ((hc.mono fun p hp => .tail _ hp).done (.head _) (hv.mono fun p hp => .tail _ hp))
    (Apart.cons (fun p hp => u1.2.1 p (List.mem_append_right _ hp)) Apart.nil) (Apart.cons ?_ Apart.nil) kF kN ?_ hpin
  · intro p hp
    rcases List.mem_cons.mp hp with rfl | hp
    · exact Ne.symm hb0
    · exact u1.1 p hp
  rw [refs_cons]
  k_extra "sub9"
theorem rt_stop (S : RtS w t news q fa frs ns inner [] own dn e0) (hq : q < t.length) (h40 : t.getD q 0 ≠ 40) : machL t ([], .nil) [] = none := by
  rw [← S.hm, drop_at hq, machL_cons, if_neg h40]
end
theorem rows39 : True := by
  (k_with "call ref" => (k_here; (with_reducible show wpAny _ _ (call (Value.ref 158) _) _ _ _); refine Halt.out ?_))
  (k_with "exec While Compare" => (k_here; refine Halt.out ?_))
  trivial
theorem my_item_last {prog : Program} {w : World} {A : Around} {E : Value → Shared → Prop} {s : Shared} {h₀ : Heap} {L : Addr} {news : List (Addr × Obj)} {value slice : PySem.Expr} {a : Addr} {l : List Value} {x : Value} {e : Nat} {k : Int} {u : Tok} {Q : Value → Shared → Prop} (hk : k = -1) (N : News h₀ L s.heap news) (ha : (a, W.listOf (l ++ [x]).toArray e) ∈ news) (h : Q x s)
    (hs : subscripted slice false (.ref a) (.int k u) = operate [.ref a, .int k u] (getItem (.ref a) (.int k u)) := by with_unfolding_all rfl) :
    wpAny (model prog w) A (subscriptTail value slice (.ref a) (.int k u)) Q E s := by
  subst hk
  have hl : s.heap.IsList a (l ++ [x]).toArray := ⟨_, (N _ ha).1, rfl, _, rfl⟩
  have hz : (l ++ [x]).toArray.size = l.length + 1 := by rw [List.size_toArray, List.length_append]; rfl
  refine tail_any hl.typeIs slot_list_getitem.lookup (wpAny_getItem_list_neg hl (by decide) (by rw [hz]; k_extra "ar9") (by decide) ?_ h) hs
  rw [hz]
  have : ((-1 : Int) + ((l.length + 1 : Nat) : Int)).toNat = l.length := by k_extra "ar9"
  rw [this]
  simp
theorem rows40 : True := by
  (k_with "subscriptTail" => (k_here; (with_reducible show wpAny _ _ (subscriptTail _ _ (Value.ref _) (Value.int _ _)) _ _ _); k_dflt (refine' my_item_last ?zqk ?zqN ?zqm ?_; (case zqk => exact rfl); (case zqN => k_asm); (case zqm => k_mem))))
  (k_with "subscriptTail Name UnaryOp ref int" => (k_here; (with_reducible show wpAny _ _ (subscriptTail _ _ (Value.ref _) (Value.int _ _)) _ _ _); k_dflt (refine' my_item_last ?zqk ?zqN ?zqm ?_; (case zqk => exact rfl); (case zqN => k_asm); (case zqm => k_mem))))
  trivial
theorem my_extendN {prog : Program} {w : World} {A : Around} {E : Value → Shared → Prop} {s : Shared} {h₀ : Heap} {L D b a1 a2 a3 : Addr} {o1 o2 o3 : Obj} {m : Str → Option Value} {r : List Value} {e e2 : Nat} {post : List (Addr × Obj)} {Q : Value → Shared → Prop} (F : Fr h₀ L s.heap m) (N : News h₀ L s.heap ((a1, o1) :: (a2, o2) :: (a3, o3) :: (b, W.listOf r.toArray e2) :: (D, W.listOf ([] : List Value).toArray e) :: post))
    (n1 : @Ne Nat a1 D) (n2 : @Ne Nat a2 D) (n3 : @Ne Nat a3 D) (n4 : @Ne Nat b D) (n5 : ∀ p ∈ post, p.1 ≠ D) (hz : r.length ≤ 4000000)
    (h : ∀ h' e', Fr h₀ L h' m → News h₀ L h' ((a1, o1) :: (a2, o2) :: (a3, o3) :: (b, W.listOf r.toArray e2) :: (D, W.listOf r.toArray e') :: post) → Q .none { s with heap := h' }) : wpAny (model prog w) A (call (.builtin "list.extend") [.ref D, .ref b]) Q E s := by
  have U : ∀ o o' : Obj, Upd D o o' ((a1, o1) :: (a2, o2) :: (a3, o3) :: (b, W.listOf r.toArray e2) :: (D, o) :: post) ((a1, o1) :: (a2, o2) :: (a3, o3) :: (b, W.listOf r.toArray e2) :: (D, o') :: post) :=
    fun o o' => Upd.tail (neN n1) (Upd.tail (neN n2) (Upd.tail (neN n3) (Upd.tail (neN n4) (Upd.head n5))))
  by_cases hr : r = []
  · subst hr
    exact my_extend0 F N (.tail _ (.tail _ (.tail _ (.head _)))) (U _ _) (Nat.zero_le _) fun h' F' N' => h h' _ F' N'
  · exact my_extend (l := []) F N (.tail _ (.tail _ (.tail _ (.head _)))) hr (U _ _) (by simpa using hz) fun h' F' N' => h h' _ F' N'
noncomputable def RtPost (w : World) (t : List Nat) (tl : List (Addr × Obj)) (v : Value) : Prop := Ex4 fun fo l vs e => Al4 (machL t ([], .nil) [] = some fo) (v = .ref l) ((l, W.listOf vs.toArray e) ∈ tl) (NIn w tl vs fo)
theorem rows41 : True := by
  (k_with "call builtin:list.pop" => (k_here; refine Halt.out ?_))
  (k_with "call builtin:list.extend" => (k_here; refine Halt.out ?_))
  trivial
theorem rt_ct (w : World) (mean : ExcName → Option Value) (mg mb : Str → Option Value) (t : List Nat) (ht : t.length ≤ 100000) (hb : ∀ c ∈ t, c < 256) :
    FunE w mean mg mb 158 20 (fun _ vs => ∃ t1, vs = [.bytes (B8 t).toArray t1]) (RtPost w t) (machL t ([], .nil) [] = none) := by
  unfold FunE
  k_fill
  intro A A₀ base h₀ outer L m news s env Q E vs B hF X N T hA hf hke hh hdp hu hp hret hexc
  obtain ⟨t1, rfl⟩ := hp
  have hrl : recursionLimit = 1000 := rfl
  refine wpAny_call ?_
  k_enter
  k_steps
  refine Halt.mk ?_
  rename Fr _ _ _ _ => kF
  rename News _ _ _ (_ :: _) => kN
  have kN2 := rt_perm kN
  refine my_while (RtJ w t t1 news)
    (fun m nx => Ex9 fun (fa : Addr) (tq : Tok) (frs : List Addr) (ns : List Int) (inner : F) (st : List (List Int × F)) (own dn : List (Addr × Obj)) (e0 : Nat) => Al3 (nx = (fa, W.listOf (refs frs).toArray e0) :: (own ++ (dn ++ news))) (RtS w t news t.length fa frs ns inner st own dn e0) (Pin m [("octets", .bytes (B8 t).toArray t1), ("frames", .ref fa), ("at", .int (t.length : Nat) tq)]))
    (n₀ := t.length) kF kN2 ⟨0, _, _, [_], [], .nil, [], _, [], _, rfl, rt_start (by assumption) (by assumption) (by assumption) (by assumption), by k_extra "ar9", ⟨rfl, rfl, rfl, trivial⟩⟩ ?_ ?_
  · intro n m₃ nx₃ h₃ tk₃ F₃ N₃ hJ9
    (try k_fold)
    rcases hJ9 with ⟨q, fa, tq, frs, ns, inner, st, own, dn, e0, rfl, S, rfl, hpin₃⟩
    have F₄ := Fr.pin F₃ hpin₃
    clear F₃ kF kN2 kN
    rcases Nat.lt_or_ge q t.length with hq | hq
    rotate_left
    · have e : q = t.length := by have := S.hq; k_extra "ar9"
      subst e
      k_steps
      exact WDone.intro F₄ N₃ ⟨_, _, _, _, _, _, _, _, _, rfl, S, hpin₃.eq ▸ hpin₃⟩
    by_cases h40 : t.getD q 0 = 40
    · --B1
      have hst := S.stk
      cases hst with
      | @cons f d l vs e ta tb tc v1 v2 ext own' _ _ fs _ hH hv hs =>
      have oG := S.sep.head
      have hl : fs.length ≤ 100000 := by have := hs.len; have := tot_len st; have := S.ht; simp only [tot] at this; k_extra "ar9"
      have hl2 := refs_len fs
      rw [refs_cons] at N₃
      have hI : (((t.getD q 0 : Nat) : Int) == 40) = true := beq_iff_eq.mpr (by k_extra "ar9")
      have gG : ∀ p ∈ ((f, instObj 140 d) :: (d, frD w v1 v2 l ta tb tc) :: (l, W.listOf vs.toArray e) :: (ext ++ own')) ++ (dn ++ news), p.1 ≠ fa := off_app oG.1 oG.2.1
      clear oG
      have hS := S
      generalize hown : (f, instObj 140 d) :: (d, frD w v1 v2 l ta tb tc) :: (l, W.listOf vs.toArray e) :: (ext ++ own') = own at *
      generalize hG : own ++ (dn ++ news) = G at *
      have hz : (refs fs ++ [Value.ref f]).length ≤ 4000000 := by rw [List.length_append, hl2]; simp; k_extra "ar9"
      k_steps
      dsimp only at *
      rename Fr _ _ _ (fun _ => _) => kF'
      rename News _ _ _ _ => kN'
      subst hG
      rw [← refs_cons f fs] at kN'
      exact turn_push (tq := _) hS hq h40 kF' kN' (by assumption) (by assumption) (by assumption) ⟨rfl, rfl, rfl, trivial⟩
      --E1
    have hI : (((t.getD q 0 : Nat) : Int) == 40) = false := beq_false_of_ne (by k_extra "ar9")
    have hst := S.stk
    cases hst with
    | @cons f d l vs e ta tb tc v1 v2 ext own' _ _ fs _ hH hv hs =>
    have oG := S.sep.head
    have hfl := hs.len
    have hl : fs.length ≤ 100000 := by have := tot_len st; have := S.ht; simp only [tot] at this; k_extra "ar9"
    have hl2 := refs_len fs
    have hz0 : (refs fs ++ [Value.ref f]).length = st.length + 1 := by rw [List.length_append, hl2, hfl]; rfl
    have hz : (refs fs ++ [Value.ref f]).length ≤ 4000000 := by k_extra "ar9"
    rw [refs_cons] at N₃
    have gG := oG.1
    have gH := oG.2.1
    have s1 := oG.2.2
    clear oG
    simp only [List.cons_append, List.append_assoc] at N₃
    cases st with
    | nil =>
      --B2
      have hz1 : ((((refs fs ++ [Value.ref f]).length : Nat) : Int) == 1) = true := beq_iff_eq.mpr (by rw [hz0]; rfl)
      have hsub : ∀ p ∈ news, p ∈ ext ++ (own' ++ (dn ++ news)) := fun p hp => by k_mem
      generalize hG : ext ++ (own' ++ (dn ++ news)) = G at *
      k_steps
      refine Halt.mk ?_
      rename Fr _ _ _ (fun _ => _) => kF
      rename News _ _ _ (_ :: _) => kN
      refine wire_throw w (by k_asm) kF (by k_asm) kN (by k_asm) hA hh (by k_extra "ar9") (by k_extra "ar9") rfl ?_
      intro x h₅ tk₅ Fl up
      exact hexc (rt_stop S hq h40) x _ h₅ tk₅ (by k_asm) (Fl.sub (fun p hp => .tail _ (.tail _ (.tail _ (.tail _ (hsub p hp)))))) up
      --E2
    | cons p2 st =>
    have hz1 : ((((refs fs ++ [Value.ref f]).length : Nat) : Int) == 1) = false := beq_false_of_ne (by rw [hz0]; simp only [List.length_cons]; k_extra "ar9")
    by_cases h41 : t.getD q 0 = 41
    · have hI2 : (((t.getD q 0 : Nat) : Int) == 41) = true := beq_iff_eq.mpr (by k_extra "ar9")
      cases hs with
      | @cons f2 d2 l2 vs2 e2 tu tv tw2 v3 v4 ext2 own3 ns2 inner2 fs3 _ hH2 hv2 hs3 =>
      have hvl := hv.len
      have hvl2 := hv2.len
      have htot : inner.len + inner2.len ≤ 100000 := by have := S.ht; simp only [tot] at this; k_extra "ar9"
      rw [refs_cons] at N₃ hz hz0 hz1 hl2
      have hzz : (refs fs3 ++ [Value.ref f2]).length ≤ 4000000 := by rw [hl2]; exact Nat.le_trans hl (by k_extra "ar9")
      generalize hV : refs fs3 ++ [Value.ref f2] = V at N₃ hz hz0 hz1 hl2 hzz
      have hsub : ∀ p ∈ news, p ∈ ext2 ++ (own3 ++ (dn ++ news)) := fun p hp => by k_mem
      have u1 := s1.head
      have u2 := u1.2.2.head
      have u3 := u2.2.2.head
      cases hH with
      | none =>
        --B3
        have u4 := (show Sep ((f2, instObj 140 d2) :: (d2, frD w v3 v4 l2 tu tv tw2) :: (l2, W.listOf vs2.toArray e2) :: (ext2 ++ own3)) (dn ++ news) from u3.2.2).head
        have u5 := u4.2.2.head
        have u6 := u5.2.2.head
        simp only [List.nil_append, List.cons_append, List.append_assoc] at N₃ gG
        have gA : ∀ p ∈ (f, instObj 140 d) :: (d, frD w .none .none l ta tb tc) :: (l, W.listOf vs.toArray e) :: (f2, instObj 140 d2) :: (d2, frD w v3 v4 l2 tu tv tw2) :: (l2, W.listOf vs2.toArray e2) :: (ext2 ++ (own3 ++ (dn ++ news))), p.1 ≠ fa := ne_sub (off_app gG gH) (by k_extra "sub9")
        have b1 : @Ne Nat fa l2 := fun k => gA (l2, W.listOf vs2.toArray e2) (by k_mem) k.symm
        have b2 : @Ne Nat f l2 := fun k => u1.1 (l2, W.listOf vs2.toArray e2) (by k_mem) k.symm
        have b3 : @Ne Nat d l2 := fun k => u2.1 (l2, W.listOf vs2.toArray e2) (by k_mem) k.symm
        have b4 : @Ne Nat l l2 := fun k => u3.1 (l2, W.listOf vs2.toArray e2) (by k_mem) k.symm
        have b5 : @Ne Nat f2 l2 := fun k => u4.1 (l2, W.listOf vs2.toArray e2) (by k_mem) k.symm
        have b6 : @Ne Nat d2 l2 := fun k => u5.1 (l2, W.listOf vs2.toArray e2) (by k_mem) k.symm
        have b7 : ∀ p ∈ ext2 ++ (own3 ++ (dn ++ news)), p.1 ≠ l2 := ne_sub (off_app u6.1 u6.2.1) (by k_extra "sub9")
        clear gG gH s1 u1 u2 u3 u4 u5 u6
        generalize hG : ext2 ++ (own3 ++ (dn ++ news)) = G at *
        k_steps
        refine Halt.mk ?_
        rename Fr _ _ _ (fun _ => _) => kF
        rename News _ _ _ (_ :: _ :: _) => kN
        refine my_pop kF kN (Upd.head gA) hzz ?_
        intro h₅ F₅ N₅
        subst hV
        clear kN kF
        k_steps
        · refine Halt.mk ?_
          rename Fr _ _ _ (nm _ _) => kF
          rename News _ _ _ (_ :: _ :: _) => kN
          refine wire_throw w (by k_asm) kF (by k_asm) kN (by k_asm) (Around.frames_deeper hA) hh (by simp only [depth_deeper]; k_extra "ar9") (by simp only [units_deeper]; k_extra "ar9") rfl ?_
          intro x h₆ tk₆ Fl up
          refine leave_next (s' := ⟨_, _, _, _, _⟩) (by k_asm) (by k_asm) Fl up ?_
          intro h₇ Fl₇ up₇
          subst hG
          refine hexc ?_ x _ h₇ _ (by k_asm) (Fl₇.sub (fun p hp => by k_mem)) up₇
          rw [← S.hm, step_noclose hq h41 (.inl (by k_extra "ar9"))]
        · refine Halt.mk ?_
          rename Fr _ _ _ (nm _ _) => kF
          rename News _ _ _ (_ :: _ :: _) => kN
          rename _ ↔ vs = [] => hvn
          have hvn0 : vs = [] := hvn.mp (by assumption)
          refine wire_throw w (by k_asm) kF (by k_asm) kN (by k_asm) (Around.frames_deeper hA) hh (by simp only [depth_deeper]; k_extra "ar9") (by simp only [units_deeper]; k_extra "ar9") rfl ?_
          intro x h₆ tk₆ Fl up
          refine leave_next (s' := ⟨_, _, _, _, _⟩) (by k_asm) (by k_asm) Fl up ?_
          intro h₇ Fl₇ up₇
          subst hG
          refine hexc ?_ x _ h₇ _ (by k_asm) (Fl₇.sub (fun p hp => by k_mem)) up₇
          rw [← S.hm, step_noclose hq h41 (.inr ⟨rfl, by rw [← hvl, hvn0]; rfl⟩)]
        · dsimp only at *
          rename Fr _ _ _ (fun _ => _) => kF'
          rename News _ _ _ _ => kN'
          rename _ ↔ vs = [] => hvn
          have hvn0 : inner.len ≠ 0 := fun k => by
            have := hvn.mpr (List.length_eq_zero_iff.mp (by k_extra "ar9"))
            simp_all
          subst hG
          exact turn_close0 S hq h41 (by k_extra "ar9") hvn0 hH2 hv2 hs3 hv kF' kN' (by assumption) (by assumption) ⟨rfl, rfl, rfl, trivial⟩
        --E3
      | @some _ x y b eb hc =>
        --B6
        have u4 := (show Sep ((b, W.listOf ([] : List Value).toArray eb) :: (f2, instObj 140 d2) :: (d2, frD w v3 v4 l2 tu tv tw2) :: (l2, W.listOf vs2.toArray e2) :: (ext2 ++ own3)) (dn ++ news) from u3.2.2).head
        have u5 := u4.2.2.head
        have u6 := u5.2.2.head
        have u7 := u6.2.2.head
        simp only [List.nil_append, List.cons_append, List.append_assoc] at N₃ gG
        have gA : ∀ p ∈ (f, instObj 140 d) :: (d, frD w (.ref x) (.ref y) l ta tb tc) :: (l, W.listOf vs.toArray e) :: (b, W.listOf ([] : List Value).toArray eb) :: (f2, instObj 140 d2) :: (d2, frD w v3 v4 l2 tu tv tw2) :: (l2, W.listOf vs2.toArray e2) :: (ext2 ++ (own3 ++ (dn ++ news))), p.1 ≠ fa := ne_sub (off_app gG gH) (by k_extra "sub9")
        have b1 : @Ne Nat fa l2 := fun k => gA (l2, W.listOf vs2.toArray e2) (by k_mem) k.symm
        have b2 : @Ne Nat f l2 := fun k => u1.1 (l2, W.listOf vs2.toArray e2) (by k_mem) k.symm
        have b3 : @Ne Nat d l2 := fun k => u2.1 (l2, W.listOf vs2.toArray e2) (by k_mem) k.symm
        have b4 : @Ne Nat l l2 := fun k => u3.1 (l2, W.listOf vs2.toArray e2) (by k_mem) k.symm
        have b8 : @Ne Nat b l2 := fun k => u4.1 (l2, W.listOf vs2.toArray e2) (by k_mem) k.symm
        have b5 : @Ne Nat f2 l2 := fun k => u5.1 (l2, W.listOf vs2.toArray e2) (by k_mem) k.symm
        have b6 : @Ne Nat d2 l2 := fun k => u6.1 (l2, W.listOf vs2.toArray e2) (by k_mem) k.symm
        have b7 : ∀ p ∈ ext2 ++ (own3 ++ (dn ++ news)), p.1 ≠ l2 := ne_sub (off_app u7.1 u7.2.1) (by k_extra "sub9")
        have c1 : @Ne Nat fa b := fun k => gA (b, W.listOf ([] : List Value).toArray eb) (by k_mem) k.symm
        have c2 : @Ne Nat f b := fun k => u1.1 (b, W.listOf ([] : List Value).toArray eb) (by k_mem) k.symm
        have c3 : @Ne Nat d b := fun k => u2.1 (b, W.listOf ([] : List Value).toArray eb) (by k_mem) k.symm
        have c4 : @Ne Nat l b := fun k => u3.1 (b, W.listOf ([] : List Value).toArray eb) (by k_mem) k.symm
        have c5 : ∀ p ∈ (f2, instObj 140 d2) :: (d2, frD w v3 v4 l2 tu tv tw2) :: (l2, W.listOf vs2.toArray e2) :: (ext2 ++ (own3 ++ (dn ++ news))), p.1 ≠ b := ne_sub (off_app u4.1 u4.2.1) (by k_extra "sub9")
        clear gG gH s1 u1 u2 u3 u4 u5 u6 u7
        obtain ⟨dy, n0, tk0, tx, ty, hy1, hy2⟩ := hc.last
        have hG1 : (y, instObj 93 dy) ∈ ext2 ++ (own3 ++ (dn ++ news)) := by k_mem
        have hG2 : (dy, ndD w n0 tk0 b tx ty) ∈ ext2 ++ (own3 ++ (dn ++ news)) := by k_mem
        clear hy1 hy2
        generalize hG : ext2 ++ (own3 ++ (dn ++ news)) = G at *
        k_steps
        refine Halt.mk ?_
        rename Fr _ _ _ (fun _ => _) => kF
        rename News _ _ _ (_ :: _ :: _) => kN
        refine my_pop kF kN (Upd.head gA) hzz ?_
        intro h₅ F₅ N₅
        subst hV
        clear kN kF
        k_steps
        · refine Halt.mk ?_
          rename Fr _ _ _ (nm _ _) => kF
          rename News _ _ _ (_ :: _ :: _) => kN
          refine wire_throw w (by k_asm) kF (by k_asm) kN (by k_asm) (Around.frames_deeper hA) hh (by simp only [depth_deeper]; k_extra "ar9") (by simp only [units_deeper]; k_extra "ar9") rfl ?_
          intro x h₆ tk₆ Fl up
          refine leave_next (s' := ⟨_, _, _, _, _⟩) (by k_asm) (by k_asm) Fl up ?_
          intro h₇ Fl₇ up₇
          subst hG
          refine hexc ?_ x _ h₇ _ (by k_asm) (Fl₇.sub (fun p hp => by k_mem)) up₇
          rw [← S.hm, step_noclose hq h41 (.inl (by k_extra "ar9"))]
        refine Halt.mk ?_
        rename Fr _ _ _ (nm _ _) => kF
        rename News _ _ _ (_ :: _ :: _) => kN
        refine my_extendN kF kN c1 c2 c3 c4 c5 (by k_extra "ar9") ?_
        intro h₆ e' F₆ N₆
        clear kF kN
        k_steps
        dsimp only at *
        rename Fr _ _ _ (fun _ => _) => kF'
        rename News _ _ _ _ => kN'
        subst hG
        exact turn_close1 S hq h41 (by k_extra "ar9") hc hH2 hv2 hs3 hv kF' kN' ⟨rfl, rfl, rfl, trivial⟩
        --E6
    · --B4
      have hI2 : (((t.getD q 0 : Nat) : Int) == 41) = false := beq_false_of_ne (by k_extra "ar9")
      k_steps
      refine Halt.mk ?_
      rename Fr _ _ _ (fun _ => _) => kF
      rename News _ _ _ (_ :: _) => kN
      have hR : ∀ p ∈ dn, p ∈ (fa, W.listOf (refs fs ++ [Value.ref f]).toArray e0) :: (own' ++ (dn ++ news)) := fun p hp => by k_mem
      have hR2 : ∀ p ∈ news, p ∈ (fa, W.listOf (refs fs ++ [Value.ref f]).toArray e0) :: (own' ++ (dn ++ news)) := fun p hp => by k_mem
      have sA : Sep ((f, instObj 140 d) :: (d, frD w v1 v2 l ta tb tc) :: (l, W.listOf vs.toArray e) :: ext) ((fa, W.listOf (refs fs ++ [Value.ref f]).toArray e0) :: (own' ++ (dn ++ news))) :=
        (Sep.left (a := (f, instObj 140 d) :: (d, frD w v1 v2 l ta tb tc) :: (l, W.listOf vs.toArray e) :: ext) s1).addR (ne_sub gG (by k_extra "sub9"))
      have kN3 := nget kN (l' := (f, instObj 140 d) :: (d, frD w v1 v2 l ta tb tc) :: (l, W.listOf vs.toArray e) :: (ext ++ ((fa, W.listOf (refs fs ++ [Value.ref f]).toArray e0) :: (own' ++ (dn ++ news))))) (by k_extra "sub9")
      clear kN
      refine rm_ct w mean mg mb t q inner ns f d l v1 v2 vs e ta tb tc _ _ ext dn _ ht hb hq h40 h41 sA hR hv hH _ _ _ _ _ _ _ _ _ _ _ (by k_asm) kF (by k_asm) kN3 (by k_asm) (Around.frames_deeper hA) rfl rfl hh ?_ ?_ ?_ ?_
      · simp only [depth_deeper]; k_extra "ar9"
      · simp only [units_deeper]; k_extra "ar9"
      · intro r news' h₅ tk₅ F₅ N₅ hJ9
        (try k_fold)
        rcases hJ9 with ⟨q', ns', w1, w2, ext', new, t9, rfl, rfl, hlt, hle, hmach, hH', hsep', hapn⟩
        clear kN3 kF
        k_steps
        dsimp only at *
        rename Fr _ _ _ (fun _ => _) => kF'
        rename News _ _ _ _ => kN'
        exact turn_read S hs hv hq kF' kN' hlt hle hmach hH' hsep' hapn ⟨rfl, rfl, rfl, trivial⟩
      · intro hx x g₂ h₅ tk₅ F₅ Fl up
        refine leave_next (s' := ⟨_, _, _, _, _⟩) (by k_asm) F₅ Fl up ?_
        intro h₆ Fl₆ up₆
        refine hexc ?_ x _ h₆ _ (by k_asm) (Fl₆.sub hR2) up₆
        rw [← S.hm, hx]
      --E4
  · --B5
    intro m₃ nx₃ h₃ tk₃ F₃ N₃ hJ9
    (try k_fold)
    rcases hJ9 with ⟨fa, tq, frs, ns, inner, st, own, dn, e0, rfl, S, hpin₃⟩
    have F₄ := Fr.pin F₃ hpin₃
    clear F₃ kF kN2 kN
    have hst := S.stk
    have hm := S.hm
    rw [List.drop_length, machL_nil] at hm
    cases hst with
    | @cons f d l vs e ta tb tc v1 v2 ext own' _ _ fs _ hH hv hs =>
    have hfl := hs.len
    have hl2 := refs_len fs
    have hl : st.length ≤ 100000 := by have := tot_len st; have := S.ht; simp only [tot] at this; k_extra "ar9"
    have hz0 : (refs fs ++ [Value.ref f]).length = st.length + 1 := by rw [List.length_append, hl2, hfl]; rfl
    have hz : (refs fs ++ [Value.ref f]).length ≤ 4000000 := by k_extra "ar9"
    rw [refs_cons] at N₃
    simp only [List.cons_append, List.append_assoc] at N₃
    have hsub : ∀ p ∈ news, p ∈ ext ++ (own' ++ (dn ++ news)) := fun p hp => by k_mem
    cases st with
    | nil =>
      have hz1 : decide (1 < (((refs fs ++ [Value.ref f]).length : Nat) : Int)) = false := decide_eq_false (by rw [hz0]; decide)
      have hx : (refs fs ++ [Value.ref f])[0]? = some (Value.ref f) := by cases hs; rfl
      have hap : Apart ((l, W.listOf vs.toArray e) :: dn) news := Apart.cons (fun p hp => S.sep.head.2.2.head.2.2.head.2.2.head.2.1 p (List.mem_append_right _ hp)) S.hap
      clear hs
      generalize refs fs ++ [Value.ref f] = V at N₃ hz hz0 hz1 hx
      k_steps
      dsimp only at *
      rename Fr h₀ L _ _ => kF
      rename News h₀ L _ _ => kN
      refine hret _ ((l, W.listOf vs.toArray e) :: dn) _ _ kF (nget kN ?_) hap ⟨inner, l, vs, e, hm.symm, rfl, .head _, hv.mono fun _ h => .tail _ h⟩
      k_extra "sub9"
    | cons p2 st =>
      have hz1 : decide (1 < (((refs fs ++ [Value.ref f]).length : Nat) : Int)) = true := decide_eq_true (by rw [hz0]; simp only [List.length_cons]; k_extra "ar9")
      k_steps
      refine Halt.mk ?_
      rename Fr _ _ _ _ => kF
      rename News _ _ _ (_ :: _) => kN
      refine wire_throw w (by k_asm) kF (by k_asm) kN (by k_asm) hA hh (by k_extra "ar9") (by k_extra "ar9") rfl ?_
      intro x h₅ tk₅ Fl up
      exact hexc hm.symm x _ h₅ tk₅ (by k_asm) (Fl.sub (fun p hp => .tail _ (.tail _ (.tail _ (.tail _ (hsub p hp)))))) up
    --E5
section
open PySem.Spec PySem.Calls
theorem my_caught {prog : Program} {w : World} {A₀ : Around} {E : Value → Shared → Prop} {s' : Shared} {base g G : Heap} {outer : List Env} {L a e : Addr} {m : Str → Option Value} {name : Str} {scope : Scope} {cd : Value}
  {b₀ : Stmt} {suite : List Stmt} {pos np : Pos} {rest : List ExceptHandler} {Q : Flow → Shared → Prop} {news : List (Addr × Obj)} {KF : Frag}
  {p : Program} {loose : List Str} {mean : ExcName → Option Value} {mg mb : Str → Option Value} {x : Str}
    (R : Flies base G (envOf name scope L a cd :: outer) e news s'.heap) (F : Fr g L G m) (K : Below A₀ base outer g) (hsm : G.UpToSlots s'.heap) (XB : KF.In base) (TB : Top p loose mean mg mb base)
    (ex : nsIn KF mainGlobals x = some (some (.ref 64))) (q : ∃ nm q N bs bm hdct sn sub ab col dd k0 k1 k2 k3 k5 newId, base.get? 64 = some (excClassObj nm q 64 N bs bm hdct sn sub ab col dd k0 k1 k2 k3 k5 newId) ∧ bm.contains (.type "BaseException") = true)
    (k : ∀ h' g', KtsTurn (outer.filterMap (·.frame)) g g' → Fr g' L h' m → News g' L h' news → Below A₀ base outer g' → KF.In g' → Top p loose mean mg mb g' →
      wpAny (model prog w) ((A₀.deeper (envOf name scope L a cd)).mark (some (.ref e))) (execs (b₀ :: suite) (envOf name scope L a cd)) Q E { s' with heap := h' })
    (hk : scope.kind = .function := by rfl) (hx : (envOf name scope L a cd).kindOf x = some .globalImplicit := by rfl) (hd : (x == ("__debug__" : Str)) = false := by decide)
    (hE : PassesOwnAt (model prog w) ((A₀.deeper (envOf name scope L a cd)).mark (some (.ref e))) (A₀.deeper (envOf name scope L a cd)) (envOf name scope L a cd) E := by passes_own) :
    wpAny (model prog w) (A₀.deeper (envOf name scope L a cd)) (noteFrame (.ref e) (envOf name scope L a cd))
      (fun _ s₂ => wpAny (model prog w) (A₀.deeper (envOf name scope L a cd)) (setFlight (.ref e) none) (fun _ s₃ =>
        wpAny (model prog w) (A₀.deeper (envOf name scope L a cd)) (handleBy (.ref e) (envOf name scope L a cd) (.ExceptHandler (some (.Name x np)) none (b₀ :: suite) pos :: rest)) Q E s₃) E s₂) E s' := by
  obtain ⟨B, a0, hB, hBG, hl, hfl⟩ := R
  have hL : B.get? L = none := by
    obtain ⟨_, ⟨L', _, hf, hn', _⟩, _⟩ := hfl.2.2.1
    obtain rfl : L = L' := Option.some.inj hf
    exact hn'
  refine wpAny_looks_onW (Around.frames_deeper K.stack) rfl hfl fun h₄ hheld₄ hsm₄ => ?_
  refine wpAny_landsW hheld₄ fun h₅ hheld hsm₅' => ?_
  have hsm₅ := hsm₄.trans hsm₅'
  obtain ⟨g₅, T₅, F₅, K₅⟩ := kts_ground K F hBG hheld.1 (hsm.trans hsm₅)
  have X₅ : KF.In g₅ := XB.keeps K₅.stays
  have P₅ : TopRead p loose mg mb g₅ := topRead_of (TB.keeps K₅.stays)
  obtain ⟨ob, hob, hobc⟩ := hheld.there
  obtain ⟨nm, q', N, bs, bm, hdct, sn, sub, ab, col, dd, k0, k1, k2, k3, k5, newId, hC, hbase⟩ := q
  have hC₅ := F₅.keep _ _ (K₅.stays _ _ hC)
  refine wpAny_handleBy_cons (codeAny_handlers_test (name_K F₅ X₅ P₅ ex ?_ hk hx hd)) (by intro q; cases q)
  refine wpAny_excMatches_sub_self hC₅ hob hobc hbase (codeAny_handlers_suite ?_)
  refine lands_againW hheld fun h₆ hfl₆ hsm₆ => ?_
  obtain ⟨g₆, T₆, F₆, K₆⟩ := kts_ground K F hBG hfl₆.1 ((hsm.trans hsm₅).trans hsm₆)
  have Nl : News g₆ L h₆ news := fun q hq => ⟨hfl₆.1 _ _ (hl q hq).1, (fun z => by have := (hl q hq).1; rw [z, hL] at this; cases this), T₆.none_ _ (kts_none F.keep (hl q hq).2.1)⟩
  exact wpAny_passesOwnAt hE (k h₆ g₆ T₆ F₆ Nl K₆ (XB.keeps K₆.stays) (TB.keeps K₆.stays))
end
theorem rows42 : True := by
  (k_with "call ref" => (k_here; (with_reducible show wpAny _ _ (call (Value.ref 208) _) _ _ _); refine Halt.out ?_))
  (k_with "call ref" => (k_here; (with_reducible show wpAny _ _ (call (Value.ref 90) _) _ _ _); refine Halt.out ?_))
  (k_with "exec Assign cons ListComp" => (k_here; (with_reducible show wpAny _ _ (exec (Stmt.Assign _ (Expr.ListComp (Expr.Call (Expr.Attribute _ _ _) _ _ _) _ _ _) _) _) _ _ _); refine Halt.out ?_))
  trivial
/-- a contract for a caller that stands right on the ground -/
noncomputable def FunS (w : World) (mean : ExcName → Option Value) (mg mb : Str → Option Value) (f : Addr) (need : Nat) (Pre : List (Addr × Obj) → List Value → Prop) (Post : Value → Prop) : Prop :=
  ∀ (A A₀ : Around) (base h₀ : Heap) (L a : Addr) (cn : Str) (cs : Scope) (ccd : Value) (m : Str → Option Value) (news : List (Addr × Obj)) (s : Shared) (Q E : Value → Shared → Prop) (vs : List Value),
    Below A₀ base [] h₀ → Fr h₀ L s.heap m → (hd.heap_1 w.params).In h₀ → (hd.heap_1 w.params).In base → News h₀ L s.heap news → Top seenText LOOSE mean mg mb h₀ → Top seenText LOOSE mean mg mb base →
    A.frames = some [envOf cn cs L a ccd] → cs.kind = .function → A.handled = none →
    A.depth + need < recursionLimit → A.units + 16 * need < cLine → Pre news vs →
    (∀ r h' tk', Fr h₀ L h' m → News h₀ L h' news → Post r → Q r { s with heap := h', toks := tk' }) →
    wpAny (model Challenge.rw_or0039_01.row.prog w) A (call (.ref f) vs) Q E s
theorem lrr_ct (w : World) (mean : ExcName → Option Value) (mg mb : Str → Option Value) (t : List Nat) (ht : t.length ≤ 400) (hasc : ∀ c ∈ t, c ≤ 127) :
    FunS w mean mg mb 220 500 (fun _ vs => ∃ t1, vs = [.str (S t) t1]) (fun v => v = .bool true) := by
  unfold FunS
  k_fill
  intro A A₀ base h₀ L a cn cs ccd m news s Q E vs B hF X XB N T TB hA hke hh hdp hu hp hret
  obtain ⟨t1, rfl⟩ := hp
  have hrl : recursionLimit = 1000 := rfl
  refine wpAny_call ?_
  k_dflt (refine' code_defS0 B hF X N T hA ?k6 ?k7 ?k8 ?k9 ?kB ?_ hke ?c2 ?c3 ?c4 ?c5; (case k6 => k_is); (case k7 => k_is); (case k8 => k_extra "ar9"); (case k9 => exact BindsTo.of_eq rfl); (case kB => exact locs rfl); (case c2 => exact rfl); (case c3 => exact rfl); (case c4 => exact rfl); (case c5 => decide))
  intro g' L' h' FG' F' N' B' X' T' D'
  try dsimp only
  try k_fold
  k_steps
  refine Halt.mk ?_
  refine Fun.use (read_ct w mean mg mb t ht) (by k_asm) F' (by k_asm) N' (by k_asm) (Around.frames_deeper hA) rfl rfl hh ?_ ?_ ⟨_, rfl⟩ ?_
  · simp only [depth_deeper]; k_extra "ar9"
  · simp only [units_deeper]; k_extra "ar9"
  intro r tl h₁ tk₁ F₁ N₁ hap₁ hr
  clear F' N'
  k_steps
  refine Halt.mk ?_
  rename Fr _ _ _ _ => kF
  rename News _ _ _ _ => kN
  k_dflt (refine LCg.Assign_ListComp_U (F₀ := kF) (by rfl) (by with_unfolding_all rfl) (by rfl) (by decide) (by rfl) (by decide) (by rfl) (by rfl) (by rfl) ?_)
  k_steps
  refine Halt.mk ?_
  k_dflt (refine ListComp_S kF (by rfl) (by decide) (by rfl) (by decide) (by rfl) ?_)
  k_steps
  refine StrSrc.mk hh (by k_asm) kN (by k_extra "ar9") ?_
  intro g2
  dsimp only
  refine rest_inv (fun i ys nw => nw = (_, _) :: (tl ++ news) ∧ IntsAre ys ((t.take i).map fun c : Nat => (c : Int))) ⟨rfl, .nil⟩ ?_ ?_
  · intro i v ys news₁ I oI oC C D m₂ h tk E' hi hv hJ9 hoC hm₂ F₂ N₂ hoff hne
    (try k_fold)
    rcases hJ9 with ⟨rfl, hys⟩
    obtain ⟨c, u, hc, rfl⟩ := sign_S hv
    k_steps
    refine LCg.CompEnd.intro F₂ N₂ _ (fun p hp => hp) hoff trivial ⟨rfl, ?_⟩
    rw [List.take_add_one, hc, List.map_append]
    exact hys.append (.cons _ _ .nil)
  intro ys news' hJ9
  (try k_fold)
  rcases hJ9 with ⟨rfl, hys⟩
  rw [List.take_of_length_le (Nat.le_refl _)] at hys
  clear kF kN
  k_steps
  refine Halt.mk ?_
  rename Fr _ _ _ _ => kF
  rename News _ _ _ (_ :: _) => kN
  have hb : ∀ c ∈ t, c < 256 := fun c hc => Nat.lt_of_le_of_lt (hasc c hc) (by decide)
  have hmr : machL t ([], .nil) [] = readL t := mach_read t
  have kN2 := nget kN (l' := tl ++ news) (fun p hp => .tail _ (.tail _ hp))
  clear kN
  refine FunE.use (rt_ct w mean mg mb t (by k_extra "ar9") hb) (by k_asm) kF (by k_asm) kN2 (by k_asm) (Around.frames_deeper hA) rfl rfl hh ?_ ?_ ⟨_, rfl⟩ ?_ ?_
  · simp only [depth_deeper]; k_extra "ar9"
  · simp only [units_deeper]; k_extra "ar9"
  rotate_left
  · intro hx e g₂ h₅ tk₅ F₅ Fl up
    refine my_caught (s' := ⟨_, _, _, _, _⟩) Fl F₅ (by k_asm) up XB TB (by k_is) ?_ ?_
    · obtain ⟨nm, q, N, bs, bm, hdct, sn, sub, ab, col, dd, k0, k1, k2, k3, k5, newId, hC, hb⟩ := (cls64 XB).1
      exact ⟨nm, q, N, bs, bm, hdct, sn, sub, ab, col, dd, k0, k1, k2, k3, k5, newId, hC, by simpa using hb⟩
    intro h₆ g₆ T₆ F₆ N₆ B₆ X₆ TT₆
    clear kF kN2
    rw [hmr] at hx
    rcases hr with ⟨_, rfl⟩ | ⟨f, hf, _⟩
    rotate_left
    · rw [hf] at hx; cases hx
    k_steps
    dsimp only at *
    rename Fr h₀ L _ _ => kF
    rename News h₀ L _ _ => kN
    exact hret _ _ _ kF (nget kN fun p hp => by k_mem) rfl
  intro r' tl' h₅ tk₅ F₅ N₅ hap₅ hJ9
  (try k_fold)
  rcases hJ9 with ⟨fo, l, vs, e, hre, rfl, hl, hvs⟩
  rw [hmr] at hre
  have hsz := read_sz hre
  have hvl := hvs.len
  have hfl := F.len_le fo
  rcases hr with ⟨hno, _⟩ | ⟨f, hf, hdue⟩
  · rw [hno] at hre; cases hre
  have e0 : f = fo := by rw [hre] at hf; exact (Option.some.inj hf).symm
  subst e0
  clear kF kN2
  k_dflt (refine LCg.CompSrc.ledger hh F₅ N₅ (List.mem_append_left _ hl) ?hsz ?_)
  case hsz => rw [List.size_toArray, sizeLine_eq]; k_extra "ar9"
  intro g3
  dsimp only
  refine rest_inv (fun i ys nw => ∃ tl2, Al3 (nw = tl2 ++ (tl' ++ (tl ++ news))) (Apart tl2 (tl' ++ (tl ++ news))) (DatAll tl2 ys ((dats f).take i))) ⟨[], rfl, Apart.nil, .nil⟩ ?_ ?_
  · intro i v ys news₁ I oI oC C D m₂ h tk E' hi hv hJ9 hoC hm₂ F₂ N₂ hoff hne
    (try k_fold)
    rcases hJ9 with ⟨tl2, rfl, hap, hda⟩
    obtain ⟨n', k', hat, hl'⟩ := hvs.at (by simpa using hv)
    have hs' := F.at_size hat
    have hd' := F.at_dats hat
    have hl2 := hl'
    cases hl2 with
    | @cons x dx b n tkn tn1 tn2 en kv vs2 k r2 h1 h2 h3 h4 h5 =>
    k_steps
    refine Halt.mk ?_
    rename News _ _ _ _ => kN
    refine Fun.use (told_m w mean mg mb n' k' (by k_extra "ar9")) (by k_asm) F₂ (by k_asm) kN (by k_asm) (Around.frames_deeper hA) rfl rfl hh ?_ ?_ ⟨_, rfl, hl'.mono ?_⟩ ?_
    · simp only [depth_deeper]; k_extra "ar9"
    · simp only [units_deeper]; k_extra "ar9"
    · intro p hp
      simp only [List.mem_cons, List.mem_append, hp, or_true, true_or]
    intro r9 tl9 h9 tk9 F₉ N₉ hap9 hr9
    refine LCg.CompEnd.intro F₉ N₉ (tl9 ++ (tl2 ++ (tl' ++ (tl ++ news)))) perm3 (off3_of hap9 hoff) ?_ ?_
    · exact Or.inr ⟨_, List.mem_append_right _ (List.mem_append_right _ (List.mem_append_left _ hl)), rfl, _, rfl⟩
    · refine ⟨tl9 ++ tl2, by rw [List.append_assoc], (hap9.sub (fun _ h => h) (fun _ h => .tail _ (.tail _ (.tail _ h)))).trans hap, ?_⟩
      rw [List.take_add_one, hd']
      exact DatAll.snoc' hda (fun _ h => List.mem_append_right _ h) (hr9.mono fun _ h => List.mem_append_left _ h)
  · intro ys news' hJ9
    (try k_fold)
    rcases hJ9 with ⟨tl2, rfl, hap, hda⟩
    rw [List.take_of_length_le (by rw [dats_len, List.size_toArray]; k_extra "ar9")] at hda
    k_steps
    rename Fr _ _ _ (fun _ => _) => kF
    rename News _ _ _ (_ :: _) => kN
    have hk : kqdOk (2 * f.size + 1) (.list (dats f)) = true := by
      simp only [kqdOk, List.all_eq_true]
      exact fun d hd9 => dats_ok f d hd9
    refine my_eq kN (DatIn.list (.head _) (hda.mono fun p hp => .tail _ (List.mem_append_left _ hp))) (hdue.mono fun p hp => .tail _ (List.mem_append_right _ (List.mem_append_right _ (List.mem_append_left _ hp)))) hk hk (by simp only [units_deeper]; k_extra "ar9") ?_
    intro b hb'
    have hbt : b = true := hb'.mpr rfl
    subst hbt
    k_steps
    dsimp only at *
    rename Fr h₀ L _ _ => kF
    rename News h₀ L _ _ => kN
    exact hret _ _ _ kF (nget kN fun p hp => by k_mem) rfl
theorem rows43 : True := by
  (k_with "call ref" => (k_here; (with_reducible show wpAny _ _ (call (Value.ref 172) _) _ _ _); refine Halt.out ?_))
  (k_with "call ref" => (k_here; (with_reducible show wpAny _ _ (call (Value.ref 109) _) _ _ _); refine Halt.out ?_))
  (k_with "call ref" => (k_here; (with_reducible show wpAny _ _ (call (Value.ref 215) _) _ _ _); refine Halt.out ?_))
  (k_with "call ref" => (k_here; (with_reducible show wpAny _ _ (call (Value.ref 220) _) _ _ _); refine Halt.out ?_))
  (k_with "eval ListComp" => (k_here; (with_reducible show wpAny _ _ (eval (Expr.ListComp (Expr.Call (Expr.Name (Str.ofString "_law_told") _) _ _ _) _ _ _) _) _ _ _); refine Halt.out ?_))
  (k_with "exec For Tuple Call cons nil" => (k_here; refine Halt.out ?_))
  (k_with "subscriptTail Name BinOp ref int" => (k_here; refine Halt.out ?_))
  trivial
theorem my_item_wrap {prog : Program} {w : World} {A : Around} {E : Value → Shared → Prop} {s : Shared} {h₀ : Heap} {L : Addr} {news : List (Addr × Obj)} {value slice : PySem.Expr} {a : Addr} {vs : List Value} {ns : List Int} {e : Nat} {k : Int} {u : Tok} {Q : Value → Shared → Prop} (N : News h₀ L s.heap news) (ha : (a, W.listOf vs.toArray e) ∈ news) (hi : IntsAre vs ns) (h0 : -1 ≤ k) (h1 : k < ns.length) (h2 : ns ≠ []) (h3 : ns.length ≤ 1000)
    (h : ∀ x t, Q (.int x t) s)
    (hs : subscripted slice false (.ref a) (.int k u) = operate [.ref a, .int k u] (getItem (.ref a) (.int k u)) := by with_unfolding_all rfl) :
    wpAny (model prog w) A (subscriptTail value slice (.ref a) (.int k u)) Q E s := by
  by_cases hk : k = -1
  · subst hk
    exact my_last N ha hi h2 (fun t => h _ t) hs
  · obtain ⟨n, rfl⟩ := Int.eq_ofNat_of_zero_le (show 0 ≤ k by k_extra "ar9")
    obtain ⟨tv, hv⟩ := hi.get n ns[n] (List.getElem?_eq_getElem (by k_extra "ar9"))
    exact my_item_nat N ha rfl (by k_extra "ar9") hv (h _ tv) hs
theorem cells_perm {h₀ h : Heap} {L : Addr} {a b c d : Addr × Obj} {tl : List (Addr × Obj)} (N : News h₀ L h (a :: b :: c :: d :: tl)) : News h₀ L h (a :: tl) := nget N fun p hp => by
  rcases List.mem_cons.mp hp with rfl | hp
  · exact .head _
  · exact .tail _ (.tail _ (.tail _ (.tail _ hp)))
theorem lrr_x (w : World) (mean : ExcName → Option Value) (mg mb : Str → Option Value) (x : Str) (hx : ∃ t : List Nat, x = S t ∧ t.length ≤ 400 ∧ ∀ c ∈ t, c ≤ 127) :
    FunS w mean mg mb 220 500 (fun _ vs => ∃ t1, vs = [.str x t1]) (fun v => v = .bool true) := by
  obtain ⟨t, rfl, h1, h2⟩ := hx
  exact lrr_ct w mean mg mb t h1 h2
theorem mul20 : Txt.mul (Str.ofString "9") 20 = S (List.replicate 20 57) := by decide +kernel
theorem mul21 : Txt.mul (Str.ofString "9") 21 = S (List.replicate 21 57) := by decide +kernel
theorem nines {y : Str} {n : Int} (k : Nat) (hk : k ≤ 21) (hy : y = S (List.replicate k 57)) (h0 : 0 < n) (h1 : n < 10) :
    ∃ t : List Nat, Str.ofString "(" ++ y ++ Str.ofString " " ++ ((toString n : String) : Str) ++ Str.ofString ")" = S t ∧ t.length ≤ 400 ∧ ∀ c ∈ t, c ≤ 127 := by
  have hn : n < 10 ^ 20 := Int.lt_trans h1 (by decide)
  have hd := digs_len hn
  have ha := digs_asc n
  have e : ((toString n : String) : Str) = S (digs n) := ofString_int n h0
  refine ⟨[40] ++ List.replicate k 57 ++ [32] ++ digs n ++ [41], ?_, ?_, ?_⟩
  · rw [hy, e, lit_2, lit_1, lit_3, S_app, S_app, S_app, S_app]
  · simp only [List.length_append, List.length_cons, List.length_nil, List.length_replicate]; k_extra "ar9"
  · intro c hc
    simp only [List.mem_append, List.mem_singleton, List.mem_replicate] at hc
    rcases hc with (((hc | hc) | hc) | hc) | hc
    · k_extra "ar9"
    · k_extra "ar9"
    · k_extra "ar9"
    · exact ha c hc
    · k_extra "ar9"
theorem nines9 {y : Str} {z : Int} (k : Nat) (hk : k ≤ 21) (hy : y = S (List.replicate k 57)) :
    ∃ t : List Nat, Str.ofString "(" ++ y ++ Str.ofString " " ++ ((toString (1 + z.fmod 9) : String) : Str) ++ Str.ofString ")" = S t ∧ t.length ≤ 400 ∧ ∀ c ∈ t, c ≤ 127 := by
  have h1 := Int.fmod_nonneg_of_pos z (b := 9) (by decide)
  have h2 := Int.fmod_lt_of_pos z (b := 9) (by decide)
  exact nines k hk hy (by k_extra "ar9") (by k_extra "ar9")
theorem rows44 : True := by
  (k_with "call type:enumerate" => (k_here; refine Halt.out ?_))
  trivial
theorem lawx : PySem.Challenge.rw_or0039_01.Holds := by
  refine hd ?_
  k_go0
  all_goals try k_fold
  rename Addr => sa
  rename List Value => sv
  rename List Int => scr
  rename World => w
  rename Top _ _ _ _ _ _ => TT
  rename Below callerA _ _ _ => K0
  rename (hd.heap_1 _).In _ => KX
  rename Heap.IsList _ _ _ => hSL
  rename ¬ (63 : Int) < _ => hS63
  k_steps
  refine Halt.mk ?_
  rename Fr _ _ _ _ => kF
  rename News _ _ _ _ => kN
  rename IntsAre _ (List.take 8 _ ++ _) => hI8
  refine Fun.use (trees_ct _ _ _ _) K0 kF KX kN TT (Around.frames_deeper rfl) rfl rfl rfl ?_ ?_ ⟨_, _, _, _, rfl, .head _, hI8, ?_⟩ ?_
  · simp only [depth_deeper, depth_caller]; decide
  · simp only [units_deeper, units_caller, cLine_is]; decide
  · rw [List.length_append, List.length_take]
    simp only [List.length_cons, List.length_nil]
    k_extra "ar9"
  intro _ tl h₁ tk₁ F₁ N₁ hap₁ hJ9
  (try k_fold)
  rcases hJ9 with ⟨ta, xs, et, f, rfl, hta, hxs, hok, hsz⟩
  clear kF kN
  have N₂ := nget N₁ (l' := tl) (fun p hp => List.mem_append_left _ hp)
  clear N₁ hap₁
  have hxl := hxs.len
  have hfl := F.len_le f
  have hll := listsT_len f hok
  have hasc := lists_asc f
  have hokT : ∀ {i : Nat} {n : Int} {k : F}, f.at i = some (n, k) → (0 ≤ n ∧ n < 10 ^ 20) ∧ k.ok ∧ k.size < 10 := by
    intro i n k h
    have := F.at_okT hok h
    have hs := F.at_size h
    refine ⟨?_, this.2, by k_extra "ar9"⟩
    rcases this.1 with h | h
    · exact ⟨by have := h.1; k_extra "ar9", h.2⟩
    · rw [h.1]; decide
  k_steps
  rename Fr _ _ _ _ => kF
  rename News _ _ _ _ => kN
  k_dflt (refine LCg.CompSrc.ledger rfl kF kN hta ?hsz ?_)
  case hsz => rw [List.size_toArray, sizeLine_eq]; k_extra "ar9"
  intro g2
  dsimp only
  refine rest_inv (fun i ys nw => ∃ tl2, Al3 (nw = tl2 ++ tl) (Apart tl2 tl) (SAre ys ((pieces f).take i))) ⟨[], rfl, Apart.nil, .nil⟩ ?_ ?_
  · intro i v ys news₁ I oI oC C D m₂ h tk E' hi hv hJ9 hoC hm₂ F₂ N₃ hoff hne
    (try k_fold)
    rcases hJ9 with ⟨tl2, rfl, hap, hda⟩
    obtain ⟨n', k', hat, hl'⟩ := hxs.at (by simpa using hv)
    obtain ⟨ho1, ho2, ho3⟩ := hokT hat
    have hil2 := inside_len n' k' ho1.2 ho2
    k_steps
    refine Halt.mk ?_
    refine Fun.use (inside_ct _ _ _ _ 10 n' k' ho3 ho1 ho2) K0 F₂ KX N₃ TT (Around.frames_deeper rfl) rfl rfl rfl ?_ ?_ ⟨v, rfl, hl'.mono ?_⟩ ?_
    · simp only [depth_deeper, depth_caller]; decide
    · simp only [units_deeper, units_caller, cLine_is]; decide
    · exact fun p hp => .tail _ (.tail _ (.tail _ (List.mem_append_right _ hp)))
    intro _ tl' h' tk' F₃ N₄ hap' hJ9
    (try k_fold)
    rcases hJ9 with ⟨t', rfl⟩
    k_steps
    refine LCg.CompEnd.intro F₃ N₄ (tl' ++ (tl2 ++ tl)) perm3 (off3_of hap' hoff) ?_ ?_
    · exact Or.inr ⟨_, List.mem_append_right _ (List.mem_append_right _ hta), rfl, _, rfl⟩
    · refine ⟨tl' ++ tl2, by rw [List.append_assoc], (hap'.sub (fun _ h => h) (fun _ h => .tail _ (.tail _ (.tail _ h)))).trans hap, ?_⟩
      rw [List.take_add_one, F.at_pieces hat]
      refine hda.app ?_
      rw [lit_2, lit_3, S_app, S_app]
      exact .cons .nil
  intro ys news' hJ9
  (try k_fold)
  rcases hJ9 with ⟨tl2, rfl, hap, hda⟩
  rw [List.take_of_length_le (by rw [pieces_len, List.size_toArray]; k_extra "ar9")] at hda
  clear kF kN
  k_steps
  refine my_join (by k_asm) (.head _) lit_0 hda ?_ ?_
  · rw [← List.length_flatten, pieces_flat, pieces_len, List.length_nil]; k_extra "ar9"
  intro t9 tk9
  have e9 : glue [] (pieces f) = lists f := by rw [← pieces_flat, glue_nil]
  rw [e9]
  clear e9
  rename Fr _ _ _ _ => kF
  rename News _ _ _ (_ :: _) => kN
  have N₃ := nget kN (l' := tl) (fun p hp => .tail _ (List.mem_append_right _ hp))
  clear kN hap hda
  k_steps
  rename Fr _ _ _ _ => kF
  rename News _ _ _ _ => kN
  k_dflt (refine LCg.CompSrc.ledger rfl kF kN hta ?hsz ?_)
  case hsz => rw [List.size_toArray, sizeLine_eq]; k_extra "ar9"
  intro g3
  dsimp only
  refine rest_inv (fun i ys nw => ∃ tl2, Al3 (nw = tl2 ++ tl) (Apart tl2 tl) (NIn w tl2 ys (f.take i))) ⟨[], rfl, Apart.nil, .nil⟩ ?_ ?_
  · intro i v ys news₁ I oI oC C D m₂ h tk E' hi hv hJ9 hoC hm₂ F₂ N₃ hoff hne
    (try k_fold)
    rcases hJ9 with ⟨tl2, rfl, hap, hda⟩
    obtain ⟨n', k', hat, hl'⟩ := hxs.at (by simpa using hv)
    obtain ⟨ho1, ho2, ho3⟩ := hokT hat
    k_steps
    refine Halt.mk ?_
    refine Fun.use (node_ct _ _ _ _ 10 n' k' ho3) K0 F₂ KX N₃ TT (Around.frames_deeper rfl) rfl rfl rfl ?_ ?_ ⟨v, rfl, hl'.mono ?_⟩ ?_
    · simp only [depth_deeper, depth_caller]; decide
    · simp only [units_deeper, units_caller, cLine_is]; decide
    · exact fun p hp => .tail _ (.tail _ (.tail _ (List.mem_append_right _ hp)))
    intro r' tl' h' tk' F₃ N₄ hap' hr'
    refine LCg.CompEnd.intro F₃ N₄ (tl' ++ (tl2 ++ tl)) perm3 (off3_of hap' hoff) ?_ ?_
    · exact Or.inr ⟨_, List.mem_append_right _ (List.mem_append_right _ hta), rfl, _, rfl⟩
    · refine ⟨tl' ++ tl2, by rw [List.append_assoc], (hap'.sub (fun _ h => h) (fun _ h => .tail _ (.tail _ (.tail _ h)))).trans hap, ?_⟩
      rw [F.take_succ hat]
      exact (hda.mono fun _ h => List.mem_append_right _ h).app (hr'.mono fun _ h => List.mem_append_left _ h)
  intro ys news' hJ9
  (try k_fold)
  rcases hJ9 with ⟨tl2, rfl, hap, hda⟩
  rw [F.take_all f _ (by rw [List.size_toArray]; k_extra "ar9")] at hda
  clear kF kN
  k_steps
  refine Halt.mk ?_
  rename Fr _ _ _ _ => kF
  rename News _ _ _ (_ :: _) => kN
  refine Fun.use (show_ct _ _ _ _ tl2 f (by k_extra "ar9") hok (by k_extra "ar9") hasc) K0 kF KX kN TT (Around.frames_deeper rfl) rfl rfl rfl ?_ ?_ ⟨_, _, _, rfl, fun p hp => .tail _ (List.mem_append_left _ hp), .head _, hda⟩ ?_
  · simp only [depth_deeper, depth_caller]; decide
  · simp only [units_deeper, units_caller, cLine_is]; decide
  intro _ tl9 h' tk' F₃ N₄ _ hJ9
  (try k_fold)
  rcases hJ9 with ⟨tk9, rfl⟩
  have N₅ := nget N₄ (l' := tl) (fun p hp => List.mem_append_right _ (.tail _ (List.mem_append_right _ hp)))
  clear N₄ hda hap kF kN
  k_steps
  refine Halt.mk ?_
  rename Fr _ _ _ _ => kF
  k_dflt (refine ListComp_S kF (by rfl) (by decide) (by rfl) (by decide) (by rfl) ?_)
  k_steps
  rename Fr _ _ _ _ => kF
  rename News _ _ _ _ => kN
  refine StrSrc.mk rfl kF kN (by k_extra "ar9") ?_
  intro g2
  dsimp only
  refine rest_inv (fun i ys nw => nw = tl ∧ IntsAre ys (((lists f).take i).map fun c : Nat => (c : Int))) ⟨rfl, .nil⟩ ?_ ?_
  · intro i v ys news₁ I oI oC C D m₂ h tk E' hi hv hJ9 hoC hm₂ F₂ N₂ hoff hne
    (try k_fold)
    rcases hJ9 with ⟨rfl, hys⟩
    obtain ⟨c, u, hc, rfl⟩ := sign_S hv
    k_steps
    refine LCg.CompEnd.intro F₂ N₂ _ (fun p hp => hp) hoff trivial ⟨rfl, ?_⟩
    rw [List.take_add_one, hc, List.map_append]
    exact hys.append (.cons _ _ .nil)
  intro ys news' hJ9
  (try k_fold)
  rcases hJ9 with ⟨e1, hys⟩
  have e1 := e1.symm
  subst e1
  rw [List.take_of_length_le (Nat.le_refl _)] at hys
  clear kF kN
  have hne : ((B8 (lists f)).toArray.toList != (B8 (lists f)).toArray.toList) = false := by simp
  k_steps
  rename Fr _ _ _ _ => kF
  rename News _ _ _ (_ :: _) => kN
  refine my_bytes rfl kF kN (.head _) hys hasc (by k_extra "ar9") ?_
  intro h₅ t₅ k₅ F₅ N₅
  have N₆ := nget_tail N₅
  clear kF kN N₅ hys
  k_steps
  refine Halt.mk ?_
  rename Fr _ _ _ _ => kF
  rename News _ _ _ _ => kN
  refine Fun.use (read_ct _ _ _ _ (lists f) (by k_extra "ar9")) K0 kF KX kN TT (Around.frames_deeper rfl) rfl rfl rfl ?_ ?_ ⟨_, rfl⟩ ?_
  · simp only [depth_deeper, depth_caller, show recursionLimit = 1000 from rfl]; k_extra "ar9"
  · simp only [units_deeper, units_caller, cLine_is]; k_extra "ar9"
  intro rv tl5 h₆ tk₆ F₆ N₇ hap₆ hrv
  have hrd := read_lists f hok
  rcases hrv with ⟨hno, _⟩ | ⟨f', hf', hdue⟩
  · rw [hrd] at hno; cases hno
  have e0 : f = f' := by rw [hrd] at hf'; exact Option.some.inj hf'
  subst e0
  clear kF kN hf'
  k_steps
  refine Halt.mk ?_
  rename Fr _ _ _ _ => kF
  rename News _ _ _ _ => kN
  have hta2 : (ta, W.listOf xs.toArray et) ∈ tl5 ++ tl := List.mem_append_right _ hta
  k_dflt (refine LCg.ListComp_U (F₀ := kF) (by rfl) (by decide) (by rfl) (by decide) (by rfl) ?_)
  k_steps
  k_dflt (refine LCg.CompSrc.ledger rfl (by k_asm) (by k_asm) hta2 ?hsz ?_)
  case hsz => rw [List.size_toArray, sizeLine_eq]; k_extra "ar9"
  intro g4
  dsimp only
  refine rest_inv (fun i ys nw => ∃ tl2, Al3 (nw = tl2 ++ (tl5 ++ tl)) (Apart tl2 (tl5 ++ tl)) (DatAll tl2 ys ((dats f).take i))) ⟨[], rfl, Apart.nil, .nil⟩ ?_ ?_
  · intro i v ys news₁ I oI oC C D m₂ h tk E' hi hv hJ9 hoC hm₂ F₂ N₃ hoff hne
    (try k_fold)
    rcases hJ9 with ⟨tl2, rfl, hap, hda⟩
    obtain ⟨n', k', hat, hl'⟩ := hxs.at (by simpa using hv)
    obtain ⟨ho1, ho2, ho3⟩ := hokT hat
    have hd' := F.at_dats hat
    k_steps
    refine Halt.mk ?_
    refine Fun.use (told_ct _ _ _ _ 10 n' k' ho3) K0 F₂ KX N₃ TT (Around.frames_deeper rfl) rfl rfl rfl ?_ ?_ ⟨v, rfl, hl'.mono ?_⟩ ?_
    · simp only [depth_deeper, depth_caller]; decide
    · simp only [units_deeper, units_caller, cLine_is]; decide
    · exact fun p hp => .tail _ (.tail _ (.tail _ (List.mem_append_right _ (List.mem_append_right _ hp))))
    intro r' tl' h' tk' F₃ N₄ hap' hr'
    refine LCg.CompEnd.intro F₃ N₄ (tl' ++ (tl2 ++ (tl5 ++ tl))) perm3 (off3_of hap' hoff) ?_ ?_
    · exact Or.inr ⟨_, List.mem_append_right _ (List.mem_append_right _ hta2), rfl, _, rfl⟩
    · refine ⟨tl' ++ tl2, by rw [List.append_assoc], (hap'.sub (fun _ h => h) (fun _ h => .tail _ (.tail _ (.tail _ h)))).trans hap, ?_⟩
      rw [List.take_add_one, hd']
      exact DatAll.snoc' hda (fun _ h => List.mem_append_right _ h) (hr'.mono fun _ h => List.mem_append_left _ h)
  intro ys news' hJ9
  (try k_fold)
  rcases hJ9 with ⟨tl2, rfl, hap, hda⟩
  rw [List.take_of_length_le (by rw [dats_len, List.size_toArray]; k_extra "ar9")] at hda
  clear kF kN
  k_steps
  rename Fr _ _ _ _ => kF
  rename News _ _ _ (_ :: _) => kN
  have hk : kqdOk (2 * f.size + 1) (.list (dats f)) = true := by
    simp only [kqdOk, List.all_eq_true]
    exact fun d hd9 => dats_ok f d hd9
  refine my_ne kN (hdue.mono fun p hp => .tail _ (List.mem_append_right _ (List.mem_append_left _ hp))) (DatIn.list (.head _) (hda.mono fun p hp => .tail _ (List.mem_append_left _ hp))) hk hk (by simp only [units_deeper, units_caller, cLine_is]; k_extra "ar9") ?_
  intro b hb'
  have hbt : b = false := by
    cases b with
    | false => rfl
    | true => exact absurd rfl (hb'.mp rfl)
  subst hbt
  clear hb'
  have N₈ := nget kN (l' := tl) (fun p hp => .tail _ (List.mem_append_right _ (List.mem_append_right _ hp)))
  clear kN hda hap hdue
  k_steps
  refine Halt.mk ?_
  rename Fr _ _ _ _ => kF
  rename News _ _ _ _ => kN
  refine lrr_ct _ _ _ _ (lists f) (by k_extra "ar9") hasc _ _ _ _ _ _ _ _ _ _ _ _ _ _ _ K0 kF KX KX kN TT TT (Around.frames_deeper rfl) rfl rfl ?_ ?_ ⟨_, rfl⟩ ?_
  · simp only [depth_deeper, depth_caller]; decide
  · simp only [units_deeper, units_caller, cLine_is]; decide
  rintro _ h₈ tk₈ F₈ N₉ rfl
  clear kF kN
  k_steps
  refine Halt.mk ?_
  rename List Value => ws
  rename Fr _ _ _ _ => kF
  refine For_enumL kF rfl rfl rfl ?_
  k_steps
  refine Halt.mk ?_
  rename Fr _ _ _ _ => kF
  rename News _ _ _ _ => kN
  rename IntsAre _ (List.take 4 _ ++ _) => hI4
  have hI4l := hI4.length
  have hc4 : (List.take 4 scr ++ [(scr.length : Int) * 104729 + 7]).length ≤ 5 := by
    rw [List.length_append, List.length_take]
    simp only [List.length_cons, List.length_nil]
    k_extra "ar9"
  have hc40 : (List.take 4 scr ++ [(scr.length : Int) * 104729 + 7]) ≠ [] := by simp
  generalize List.take 4 scr ++ [(scr.length : Int) * 104729 + 7] = cs at hI4 hI4l hc4 hc40
  have kN2 := cells_perm kN
  clear kN
  refine my_enum (fun i m nx => ∃ Dc, nx = (Dc, W.listOf ws.toArray 0) :: tl ∧ Pin m [("cells", .ref Dc), ("text", .str (S (lists f)) t9), ("script", .ref sa)]) rfl (.head _) kF kN2 ⟨_, rfl, ⟨rfl, rfl, rfl, trivial⟩⟩ ?turn ?done
  case turn =>
    intro i t v m₃ nx h₃ tk₃ own hv hJ9 hl hown F₃ N₃
    (try k_fold)
    rcases hJ9 with ⟨Dc, rfl, hpin⟩
    have hi : i < cs.length := by rw [← hI4.length]; exact (List.getElem?_eq_some_iff.mp hv).1
    obtain ⟨tv, hv2⟩ := hI4.get i cs[i] (List.getElem?_eq_getElem hi)
    rw [hv2] at hv
    obtain rfl := Option.some.inj hv
    generalize cs[i] = cell at *
    rw [← Pin.eq hpin] at F₃
    clear kF kN2
    k_steps
    refine Halt.mk ?_
    rename Fr _ _ _ _ => kF
    rename News _ _ _ _ => kN
    refine my_item_wrap kN (.head _) hI4 (by k_extra "ar9") (by k_extra "ar9") hc40 (by k_extra "ar9") ?_
    intro x tx
    k_steps
    refine Halt.mk ?_
    rename Fr _ _ _ _ => kF2
    rename News _ _ _ _ => kN2
    refine Fun.use (bent_ct _ _ _ _ (lists f) (by k_extra "ar9") hasc _) K0 kF2 KX kN2 TT (Around.frames_deeper rfl) rfl rfl rfl ?_ ?_ ⟨_, _, rfl⟩ ?_
    · simp only [depth_deeper, depth_caller]; decide
    · simp only [units_deeper, units_caller, cLine_is]; decide
    intro _ tl9 h₆ tk₆ F₆ N₆ hap₆ hJ9
    (try k_fold)
    rcases hJ9 with ⟨bt, tb, rfl, hbl, hba⟩
    have N₇ := nget N₆ (fun p hp => List.mem_append_right tl9 hp)
    clear N₆ kF2 kN2
    k_steps
    refine Halt.mk ?_
    rename Fr _ _ _ _ => kF
    rename News _ _ _ _ => kN
    refine lrr_ct _ _ _ _ bt (by k_extra "ar9") hba _ _ _ _ _ _ _ _ _ _ _ _ _ _ _ K0 kF KX KX kN TT TT (Around.frames_deeper rfl) rfl rfl ?_ ?_ ⟨_, rfl⟩ ?_
    · simp only [depth_deeper, depth_caller]; decide
    · simp only [units_deeper, units_caller, cLine_is]; decide
    rintro _ h₈ tk₈ F₈ N₈ rfl
    clear kF kN
    k_steps
    rename Fr _ _ _ _ => kF
    rename News _ _ _ _ => kN
    refine led_end (new := []) kF kN Apart.nil hown ⟨hl, _, rfl, ⟨rfl, rfl, rfl, trivial⟩⟩
  case done =>
    intro h₃ tk₃ m₃ nx F₃ N₃ hJ9
    (try k_fold)
    rcases hJ9 with ⟨Dc, rfl, hpin⟩
    rw [← Pin.eq hpin] at F₃
    have N₄ := nget N₃ (l' := []) (fun _ h => nomatch h)
    clear kF kN2 N₃
    k_steps
    refine Halt.mk ?_
    rename Fr _ _ _ _ => kF
    rename News _ _ _ _ => kN
    refine lrr_x _ _ _ _ _ ?hx _ _ _ _ _ _ _ _ _ _ _ _ _ _ _ K0 kF KX KX kN TT TT (Around.frames_deeper rfl) rfl rfl ?hd ?hu ⟨_, rfl⟩ ?_
    case hx => exact nines9 20 (by k_extra "ar9") mul20
    case hd => simp only [depth_deeper, depth_caller]; decide
    case hu => simp only [units_deeper, units_caller, cLine_is]; decide
    rintro _ h₈ tk₈ F₈ N₈ rfl
    clear kF kN
    k_steps
    refine Halt.mk ?_
    rename Fr _ _ _ _ => kF
    rename News _ _ _ _ => kN
    refine lrr_x _ _ _ _ _ ?hx2 _ _ _ _ _ _ _ _ _ _ _ _ _ _ _ K0 kF KX KX kN TT TT (Around.frames_deeper rfl) rfl rfl ?hd2 ?hu2 ⟨_, rfl⟩ ?_
    case hx2 => exact nines9 21 (by k_extra "ar9") mul21
    case hd2 => simp only [depth_deeper, depth_caller]; decide
    case hu2 => simp only [units_deeper, units_caller, cLine_is]; decide
    rintro _ h₈ tk₈ F₈ N₈ rfl
    clear kF kN
    k_steps
    all_goals (try k_data)
end Mine
theorem PySem.Challenge.cw_or0039_01_holds : PySem.Challenge.rw_or0039_01.Holds := by
  exact Mine.lawx
