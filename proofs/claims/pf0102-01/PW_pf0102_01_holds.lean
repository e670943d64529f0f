import PyProof.Rows.All
import Wide.All
import OpenK.AllK
import Wide.FinOn
import PySem.Challenge.RW_pf0102_01
set_option genSizeOf false
set_option genInjectivity false
namespace Mine
/-- the lower and the upper end of a window of width d about v -/
noncomputable def loE (v d : Int) : Int := if 1000 < d then -32001 else if v - d < -32001 then -32001 else v - d
noncomputable def hiE (v d : Int) : Int := if 1000 < d then 32001 else if 32001 < v + d then 32001 else v + d
noncomputable def clampG (g : Int) : Int := if (if g < 32000 then g else 32000) < -32000 then -32000 else (if g < 32000 then g else 32000)
/-- what the n-th look tells -/
noncomputable def lookV (ns : List Int) (n : Int) : Int := ns.getD ((if (ns.length : Int) < n then (ns.length : Int) else n) - 1).toNat 0
theorem clampG_eq (g : Int) : clampG g = if (if g < 32000 then g else 32000) > -32000 then if g < 32000 then g else 32000 else -32000 := by
  unfold clampG
  (repeat' split) <;> omega
theorem clampG_range (g : Int) : -32000 ≤ clampG g ∧ clampG g ≤ 32000 := by
  unfold clampG
  constructor <;> (repeat' split) <;> omega
theorem loE_lt {v d : Int} (h : -32000 ≤ v) (hd : 1 ≤ d) : loE v d < v := by
  unfold loE
  (repeat' split) <;> omega
theorem lt_hiE {v d : Int} (h : v ≤ 32000) (hd : 1 ≤ d) : v < hiE v d := by
  unfold hiE
  (repeat' split) <;> omega
/-- no more looks are let -/
noncomputable abbrev Refused (most n : Int) : Prop := 0 < most ∧ most ≤ n
theorem lookV_mem {ns : List Int} {n : Int} (hp : 0 < ns.length) (hn : 1 ≤ n) : lookV ns n ∈ ns := by
  unfold lookV
  have h : ((if (ns.length : Int) < n then (ns.length : Int) else n) - 1).toNat < ns.length := by split <;> omega
  rw [List.getD_eq_getElem?_getD, List.getElem?_eq_getElem h]
  exact List.getElem_mem _
theorem lookV_last {ns : List Int} {n : Int} (hn : (ns.length : Int) ≤ n) : lookV ns (n + 1) = lookV ns n := by
  unfold lookV
  have e : (if (ns.length : Int) < n + 1 then (ns.length : Int) else n + 1) = (if (ns.length : Int) < n then (ns.length : Int) else n) := by
    (repeat' split) <;> omega
  rw [e]

/-- aspirate from behind the n-th look on -/
inductive AspR (ns : List Int) (most : Int) : Int → Int → Int → Int → Int → Option Int → Int → Prop
  | stop {n a b d v : Int} : a < v → v < b → AspR ns most n a b d v (some v) n
  | cut {n a b d v : Int} : ¬ (a < v ∧ v < b) → Refused most n → AspR ns most n a b d v none n
  | low {n a b d v n' : Int} {r : Option Int} : v ≤ a → ¬ Refused most n → AspR ns most (n + 1) (loE v d) ((a + b).fdiv 2) (d + (d.fdiv 4 + 5)) (lookV ns (n + 1)) r n' → AspR ns most n a b d v r n'
  | high {n a b d v n' : Int} {r : Option Int} : a < v → b ≤ v → ¬ Refused most n → AspR ns most (n + 1) a (hiE v d) (d + (d.fdiv 4 + 5)) (lookV ns (n + 1)) r n' → AspR ns most n a b d v r n'
theorem AspR.det {ns : List Int} {most n a b d v n₁ n₂ : Int} {r₁ r₂ : Option Int} (h₁ : AspR ns most n a b d v r₁ n₁) : AspR ns most n a b d v r₂ n₂ → r₁ = r₂ ∧ n₁ = n₂ := by
  induction h₁ generalizing r₂ n₂ with
  | stop h1 h2 =>
    intro h
    cases h with
    | stop _ _ => exact ⟨rfl, rfl⟩
    | cut h _ => exact absurd ⟨h1, h2⟩ h
    | low h _ _ => omega
    | high _ h _ _ => omega
  | cut h1 h2 =>
    intro h
    cases h with
    | stop q1 q2 => exact absurd ⟨q1, q2⟩ h1
    | cut _ _ => exact ⟨rfl, rfl⟩
    | low _ h _ => exact absurd h2 h
    | high _ _ h _ => exact absurd h2 h
  | low h1 h2 _ ih =>
    intro h
    cases h with
    | stop q1 q2 => omega
    | cut _ q => exact absurd q h2
    | low _ _ q => exact ih q
    | high q _ _ _ => omega
  | high h1 h2 h3 _ ih =>
    intro h
    cases h with
    | stop q1 q2 => omega
    | cut _ q => exact absurd q h3
    | low q _ _ => omega
    | high _ _ _ q => exact ih q
/-- the whole of aspirate: the first look too -/
inductive AspT (ns : List Int) (most g d : Int) : Option Int → Int → Prop
  | cut : Refused most 0 → AspT ns most g d none 0
  | go {r : Option Int} {n : Int} : ¬ Refused most 0 → AspR ns most 1 (loE g d) (hiE g d) d (lookV ns 1) r n → AspT ns most g d r n
theorem AspT.det {ns : List Int} {most g d n₁ n₂ : Int} {r₁ r₂ : Option Int} (h₁ : AspT ns most g d r₁ n₁) (h₂ : AspT ns most g d r₂ n₂) : r₁ = r₂ ∧ n₁ = n₂ := by
  cases h₁ with
  | cut q => cases h₂ with
    | cut _ => exact ⟨rfl, rfl⟩
    | go q' _ => exact absurd q q'
  | go q h => cases h₂ with
    | cut q' => exact absurd q' q
    | go _ h' => exact h.det h'
/-- how many turns are left at most -/
noncomputable def aspM (ns : List Int) (n a b v : Int) : Nat := if v ≤ a then (4 * ((ns.length : Int) - n)).toNat + 2 else if b ≤ v then (4 * ((ns.length : Int) - n)).toNat + 1 else (4 * ((ns.length : Int) - n)).toNat
theorem aspM_low {ns : List Int} {n a b d : Int} (hr : ∀ x ∈ ns, -32000 ≤ x ∧ x ≤ 32000) (hp : 0 < ns.length) (hn : 1 ≤ n) (hd : 1 ≤ d) (h : lookV ns n ≤ a) :
    aspM ns (n + 1) (loE (lookV ns n) d) ((a + b).fdiv 2) (lookV ns (n + 1)) < aspM ns n a b (lookV ns n) := by
  have q := hr _ (lookV_mem hp hn)
  have l := loE_lt q.1 hd
  unfold aspM
  rw [if_pos h]
  by_cases hN : (ns.length : Int) ≤ n
  · rw [lookV_last hN, if_neg (by omega)]
    split <;> omega
  · (repeat' split) <;> omega
theorem aspM_high {ns : List Int} {n a b d : Int} (hr : ∀ x ∈ ns, -32000 ≤ x ∧ x ≤ 32000) (hp : 0 < ns.length) (hn : 1 ≤ n) (hd : 1 ≤ d) (h1 : a < lookV ns n) (h2 : b ≤ lookV ns n) :
    aspM ns (n + 1) a (hiE (lookV ns n) d) (lookV ns (n + 1)) < aspM ns n a b (lookV ns n) := by
  have q := hr _ (lookV_mem hp hn)
  have l := lt_hiE q.2 hd
  unfold aspM
  rw [if_neg (show ¬ lookV ns n ≤ a by omega), if_pos h2]
  by_cases hN : (ns.length : Int) ≤ n
  · rw [lookV_last hN, if_neg (by omega), if_neg (by omega)]
    omega
  · (repeat' split) <;> omega

/-- mtdf: n looks are done, the last told v -/
inductive MtdR (ns : List Int) (most : Int) : Int → Int → Int → Int → Option Int → Int → Prop
  | stop {n lo hi v : Int} : hi ≤ lo → MtdR ns most n lo hi v (some v) n
  | cut {n lo hi v : Int} : lo < hi → Refused most n → MtdR ns most n lo hi v none n
  | low {n lo hi v n' : Int} {r : Option Int} : lo < hi → ¬ Refused most n → lookV ns (n + 1) < (if v < lo + 1 then lo + 1 else v) → MtdR ns most (n + 1) lo (lookV ns (n + 1)) (lookV ns (n + 1)) r n' → MtdR ns most n lo hi v r n'
  | high {n lo hi v n' : Int} {r : Option Int} : lo < hi → ¬ Refused most n → ¬ lookV ns (n + 1) < (if v < lo + 1 then lo + 1 else v) → MtdR ns most (n + 1) (lookV ns (n + 1)) hi (lookV ns (n + 1)) r n' → MtdR ns most n lo hi v r n'
theorem MtdR.det {ns : List Int} {most n lo hi v n₁ n₂ : Int} {r₁ r₂ : Option Int} (h₁ : MtdR ns most n lo hi v r₁ n₁) : MtdR ns most n lo hi v r₂ n₂ → r₁ = r₂ ∧ n₁ = n₂ := by
  induction h₁ generalizing r₂ n₂ with
  | stop h1 =>
    intro h
    cases h with
    | stop _ => exact ⟨rfl, rfl⟩
    | cut h _ => omega
    | low h _ _ _ => omega
    | high h _ _ _ => omega
  | cut h1 h2 =>
    intro h
    cases h with
    | stop h => omega
    | cut _ _ => exact ⟨rfl, rfl⟩
    | low _ h _ _ => exact absurd h2 h
    | high _ h _ _ => exact absurd h2 h
  | low h1 h2 h3 _ ih =>
    intro h
    cases h with
    | stop h => omega
    | cut _ q => exact absurd q h2
    | low _ _ _ q => exact ih q
    | high _ _ q _ => exact absurd h3 q
  | high h1 h2 h3 _ ih =>
    intro h
    cases h with
    | stop h => omega
    | cut _ q => exact absurd q h2
    | low _ _ q _ => exact absurd q h3
    | high _ _ _ q => exact ih q
/-- the last look's word; at the start the guess -/
noncomputable def mtdM (ns : List Int) (n lo hi v : Int) : Nat := if hi ≤ lo then 0 else if v ≤ lo ∨ hi ≤ v then (4 * ((ns.length : Int) - n)).toNat + 1 else (4 * ((ns.length : Int) - n)).toNat + 2
theorem mtdM_low {ns : List Int} {n lo hi v : Int} (hv : (ns.length : Int) ≤ n → v = lookV ns n) (h : lo < hi) (h2 : lookV ns (n + 1) < (if v < lo + 1 then lo + 1 else v)) :
    mtdM ns (n + 1) lo (lookV ns (n + 1)) (lookV ns (n + 1)) < mtdM ns n lo hi v := by
  unfold mtdM
  rw [if_neg (show ¬ hi ≤ lo by omega)]
  by_cases hN : (ns.length : Int) ≤ n
  · rw [lookV_last hN, ← hv hN] at *
    split at h2 <;> (repeat' split) <;> omega
  · (repeat' split) <;> omega
theorem mtdM_high {ns : List Int} {n lo hi v : Int} (hv : (ns.length : Int) ≤ n → v = lookV ns n) (h : lo < hi) (h2 : ¬ lookV ns (n + 1) < (if v < lo + 1 then lo + 1 else v)) :
    mtdM ns (n + 1) (lookV ns (n + 1)) hi (lookV ns (n + 1)) < mtdM ns n lo hi v := by
  unfold mtdM
  rw [if_neg (show ¬ hi ≤ lo by omega)]
  by_cases hN : (ns.length : Int) ≤ n
  · rw [lookV_last hN, ← hv hN] at *
    split at h2 <;> (repeat' split) <;> omega
  · (repeat' split) <;> omega

/-- halve -/
inductive HalR (ns : List Int) (most : Int) : Int → Int → Int → Option Int → Int → Prop
  | stop {n lo hi : Int} : hi ≤ lo → HalR ns most n lo hi (some lo) n
  | cut {n lo hi : Int} : lo < hi → Refused most n → HalR ns most n lo hi none n
  | up {n lo hi n' : Int} {r : Option Int} : lo < hi → ¬ Refused most n → (lo + hi + 1).fdiv 2 ≤ lookV ns (n + 1) → HalR ns most (n + 1) (if lo < lookV ns (n + 1) then lookV ns (n + 1) else lo) hi r n' → HalR ns most n lo hi r n'
  | down {n lo hi n' : Int} {r : Option Int} : lo < hi → ¬ Refused most n → ¬ (lo + hi + 1).fdiv 2 ≤ lookV ns (n + 1) → HalR ns most (n + 1) lo (if lookV ns (n + 1) < hi then lookV ns (n + 1) else hi) r n' → HalR ns most n lo hi r n'
theorem HalR.det {ns : List Int} {most n lo hi n₁ n₂ : Int} {r₁ r₂ : Option Int} (h₁ : HalR ns most n lo hi r₁ n₁) : HalR ns most n lo hi r₂ n₂ → r₁ = r₂ ∧ n₁ = n₂ := by
  induction h₁ generalizing r₂ n₂ with
  | stop h1 =>
    intro h
    cases h with
    | stop _ => exact ⟨rfl, rfl⟩
    | cut h _ => omega
    | up h _ _ _ => omega
    | down h _ _ _ => omega
  | cut h1 h2 =>
    intro h
    cases h with
    | stop h => omega
    | cut _ _ => exact ⟨rfl, rfl⟩
    | up _ h _ _ => exact absurd h2 h
    | down _ h _ _ => exact absurd h2 h
  | up h1 h2 h3 _ ih =>
    intro h
    cases h with
    | stop h => omega
    | cut _ q => exact absurd q h2
    | up _ _ _ q => exact ih q
    | down _ _ q _ => exact absurd h3 q
  | down h1 h2 h3 _ ih =>
    intro h
    cases h with
    | stop h => omega
    | cut _ q => exact absurd q h2
    | up _ _ q _ => exact absurd q h3
    | down _ _ _ q => exact ih q
noncomputable def halM (ns : List Int) (n lo hi : Int) : Nat := if hi ≤ lo then 0 else if lookV ns n = lo ∨ lookV ns n = hi then (4 * ((ns.length : Int) - n)).toNat + 1 else (4 * ((ns.length : Int) - n)).toNat + 2
theorem mid_bounds {lo hi : Int} (h : lo < hi) : lo < (lo + hi + 1).fdiv 2 ∧ (lo + hi + 1).fdiv 2 ≤ hi := by
  rw [Int.fdiv_eq_ediv_of_nonneg _ (by omega)]
  omega
theorem halM_up {ns : List Int} {n lo hi : Int} (h : lo < hi) (h2 : (lo + hi + 1).fdiv 2 ≤ lookV ns (n + 1)) :
    halM ns (n + 1) (if lo < lookV ns (n + 1) then lookV ns (n + 1) else lo) hi < halM ns n lo hi := by
  have hm := mid_bounds h
  unfold halM
  rw [if_neg (show ¬ hi ≤ lo by omega), if_pos (show lo < lookV ns (n + 1) by omega)]
  by_cases hN : (ns.length : Int) ≤ n
  · rw [lookV_last hN] at *
    (repeat' split) <;> omega
  · (repeat' split) <;> omega
theorem halM_down {ns : List Int} {n lo hi : Int} (h : lo < hi) (h2 : ¬ (lo + hi + 1).fdiv 2 ≤ lookV ns (n + 1)) :
    halM ns (n + 1) lo (if lookV ns (n + 1) < hi then lookV ns (n + 1) else hi) < halM ns n lo hi := by
  have hm := mid_bounds h
  unfold halM
  rw [if_neg (show ¬ hi ≤ lo by omega), if_pos (show lookV ns (n + 1) < hi by omega)]
  by_cases hN : (ns.length : Int) ≤ n
  · rw [lookV_last hN] at *
    (repeat' split) <;> omega
  · (repeat' split) <;> omega
theorem fdiv_mid (lo hi : Int) : lo + (hi - lo + 1).fdiv 2 = (lo + hi + 1).fdiv 2 := by
  rw [Int.fdiv_eq_ediv_of_nonneg _ (by omega), Int.fdiv_eq_ediv_of_nonneg _ (by omega)]
  omega
theorem aspM_le {ns : List Int} {n a b v : Int} (hl : ns.length ≤ 6) (h : 0 ≤ n) : aspM ns n a b v ≤ 26 := by
  unfold aspM
  (repeat' split) <;> omega
theorem AspR.le {ns : List Int} {most n a b d v n' : Int} {r : Option Int} (hr : ∀ x ∈ ns, -32000 ≤ x ∧ x ≤ 32000) (hp : 0 < ns.length) (h : AspR ns most n a b d v r n') :
    1 ≤ n → 1 ≤ d → v = lookV ns n → n' ≤ n + aspM ns n a b v := by
  induction h with
  | stop _ _ => intro _ _ _; omega
  | cut _ _ => intro _ _ _; omega
  | @low n a b d v n' r h1 _ _ ih =>
    intro hn hd hv
    have q := ih (by omega) (by rw [Int.fdiv_eq_ediv_of_nonneg _ (by omega)]; omega) rfl
    subst hv
    have m := aspM_low (b := b) hr hp hn hd h1
    omega
  | @high n a b d v n' r h1 h2 _ _ ih =>
    intro hn hd hv
    have q := ih (by omega) (by rw [Int.fdiv_eq_ediv_of_nonneg _ (by omega)]; omega) rfl
    subst hv
    have m := aspM_high hr hp hn hd h1 h2
    omega
theorem AspT.le {ns : List Int} {most g d n : Int} {r : Option Int} (hr : ∀ x ∈ ns, -32000 ≤ x ∧ x ≤ 32000) (hp : 0 < ns.length) (hl : ns.length ≤ 6) (hd : 1 ≤ d) (h : AspT ns most g d r n) : n ≤ 1000 := by
  cases h with
  | cut _ => omega
  | go _ h =>
    have q := h.le hr hp (by omega) hd rfl
    have m := aspM_le (ns := ns) (n := 1) (a := loE g d) (b := hiE g d) (v := lookV ns 1) hl (by omega)
    omega
theorem MtdR.le {ns : List Int} {most n lo hi v n' : Int} {r : Option Int} (h : MtdR ns most n lo hi v r n') :
    0 ≤ n → ((ns.length : Int) ≤ n → v = lookV ns n) → n' ≤ n + mtdM ns n lo hi v := by
  induction h with
  | stop _ => intro _ _; omega
  | cut _ _ => intro _ _; omega
  | low h1 _ h2 _ ih =>
    intro hn hv
    have q := ih (by omega) (fun _ => rfl)
    have m := mtdM_low hv h1 h2
    omega
  | high h1 _ h2 _ ih =>
    intro hn hv
    have q := ih (by omega) (fun _ => rfl)
    have m := mtdM_high hv h1 h2
    omega
theorem MtdR.le0 {ns : List Int} {most g n : Int} {r : Option Int} (hp : 0 < ns.length) (hl : ns.length ≤ 6) (h : MtdR ns most 0 (-32001) 32001 g r n) : n ≤ 1000 := by
  have q := h.le (by omega) (fun h => by omega)
  have m : mtdM ns 0 (-32001) 32001 g ≤ 26 := by
    unfold mtdM
    (repeat' split) <;> omega
  omega
theorem HalR.le {ns : List Int} {most n lo hi n' : Int} {r : Option Int} (h : HalR ns most n lo hi r n') :
    0 ≤ n → n' ≤ n + halM ns n lo hi := by
  induction h with
  | stop _ => intro _; omega
  | cut _ _ => intro _; omega
  | up h1 _ h2 _ ih =>
    intro hn
    have q := ih (by omega)
    have m := halM_up h1 h2
    omega
  | down h1 _ h2 _ ih =>
    intro hn
    have q := ih (by omega)
    have m := halM_down h1 h2
    omega
theorem HalR.le0 {ns : List Int} {most lo hi n : Int} {r : Option Int} (hl : ns.length ≤ 6) (h : HalR ns most 0 lo hi r n) : n ≤ 1000 := by
  have q := h.le (by omega)
  have m : halM ns 0 lo hi ≤ 26 := by
    unfold halM
    (repeat' split) <;> omega
  omega
end Mine
open PySem PySem.W PyProof.Rows PySem.Spec PySem.Calls
set_option Elab.async false
set_option compiler.extract_closed false
namespace Mine
/-- the places of the text's defs -/
noncomputable def nthSt : List Stmt → Nat → Stmt
  | [], _ => .Pass ⟨0, 0, 0, 0⟩
  | s :: _, 0 => s
  | _ :: r, n + 1 => nthSt r n
noncomputable def stAt (n : Nat) : Stmt := nthSt PySem.Challenge.pw_pf0102_01.main.body n
noncomputable def subAt : Stmt → Nat → Stmt
  | .ClassDef _ _ _ b _ _ _ _ _ _ _, n => nthSt b n
  | s, _ => s
noncomputable def bodyOf : Stmt → List Stmt
  | .FunctionDef _ _ b _ _ _ _ _ _ _ => b
  | _ => []
noncomputable def argsOf : Stmt → Arguments
  | .FunctionDef _ a _ _ _ _ _ _ _ _ => a
  | _ => ⟨[], [], none, [], [], none, []⟩
noncomputable def scopeOf : Stmt → Scope
  | .FunctionDef _ _ _ _ _ _ s _ _ _ => s
  | _ => { kind := .function, names := [], isGenerator := false, isCoroutine := false }
noncomputable def valAt : Stmt → Expr
  | .Assign _ v _ => v
  | _ => .Constant .none 0 ⟨0, 0, 0, 0⟩
noncomputable def eltsOf : Expr → List Expr
  | .List es _ => es
  | .Tuple es _ _ => es
  | _ => []
noncomputable def nthE : List Expr → Nat → Expr
  | [], _ => .Constant .none 0 ⟨0, 0, 0, 0⟩
  | e :: _, 0 => e
  | _ :: r, n + 1 => nthE r n
noncomputable def lamBody : Expr → Expr
  | .Lambda _ b _ _ => b
  | e => e
noncomputable def lamScope : Expr → Scope
  | .Lambda _ _ s _ => s
  | _ => { kind := .function, names := [], isGenerator := false, isCoroutine := false }
noncomputable def lamArgs : Expr → Arguments
  | .Lambda a _ _ _ => a
  | _ => ⟨[], [], none, [], [], none, []⟩
/-- what stands on the right of an equation -/
@[reducible] noncomputable def valOf {α : Type} {x v : α} (_ : x = v) : α := v
set_option maxRecDepth 100000 in
@[reducible] noncomputable def fb19 : List Stmt := by
  have h : bodyOf (stAt 6) = bodyOf (stAt 6) := rfl
  conv at h =>
    rhs
    whnf
  exact valOf h
set_option maxRecDepth 100000 in
@[reducible] noncomputable def fp19 : Arguments := by
  have h : argsOf (stAt 6) = argsOf (stAt 6) := rfl
  conv at h =>
    rhs
    whnf
  exact valOf h
set_option maxRecDepth 100000 in
@[reducible] noncomputable def fs19 : Scope := by
  have h : scopeOf (stAt 6) = scopeOf (stAt 6) := rfl
  conv at h =>
    rhs
    whnf
  exact valOf h
set_option maxRecDepth 100000 in
@[reducible] noncomputable def fb21 : List Stmt := by
  have h : bodyOf (stAt 6) = bodyOf (stAt 6) := rfl
  conv at h =>
    rhs
    whnf
  exact valOf h
set_option maxRecDepth 100000 in
@[reducible] noncomputable def fp21 : Arguments := by
  have h : argsOf (stAt 6) = argsOf (stAt 6) := rfl
  conv at h =>
    rhs
    whnf
  exact valOf h
set_option maxRecDepth 100000 in
@[reducible] noncomputable def fs21 : Scope := by
  have h : scopeOf (stAt 6) = scopeOf (stAt 6) := rfl
  conv at h =>
    rhs
    whnf
  exact valOf h
set_option maxRecDepth 100000 in
@[reducible] noncomputable def fb26 : List Stmt := by
  have h : bodyOf (stAt 7) = bodyOf (stAt 7) := rfl
  conv at h =>
    rhs
    whnf
  exact valOf h
set_option maxRecDepth 100000 in
@[reducible] noncomputable def fp26 : Arguments := by
  have h : argsOf (stAt 7) = argsOf (stAt 7) := rfl
  conv at h =>
    rhs
    whnf
  exact valOf h
set_option maxRecDepth 100000 in
@[reducible] noncomputable def fs26 : Scope := by
  have h : scopeOf (stAt 7) = scopeOf (stAt 7) := rfl
  conv at h =>
    rhs
    whnf
  exact valOf h
set_option maxRecDepth 100000 in
@[reducible] noncomputable def fb28 : List Stmt := by
  have h : bodyOf (stAt 7) = bodyOf (stAt 7) := rfl
  conv at h =>
    rhs
    whnf
  exact valOf h
set_option maxRecDepth 100000 in
@[reducible] noncomputable def fp28 : Arguments := by
  have h : argsOf (stAt 7) = argsOf (stAt 7) := rfl
  conv at h =>
    rhs
    whnf
  exact valOf h
set_option maxRecDepth 100000 in
@[reducible] noncomputable def fs28 : Scope := by
  have h : scopeOf (stAt 7) = scopeOf (stAt 7) := rfl
  conv at h =>
    rhs
    whnf
  exact valOf h
set_option maxRecDepth 100000 in
@[reducible] noncomputable def fb33 : List Stmt := by
  have h : bodyOf (stAt 8) = bodyOf (stAt 8) := rfl
  conv at h =>
    rhs
    whnf
  exact valOf h
set_option maxRecDepth 100000 in
@[reducible] noncomputable def fp33 : Arguments := by
  have h : argsOf (stAt 8) = argsOf (stAt 8) := rfl
  conv at h =>
    rhs
    whnf
  exact valOf h
set_option maxRecDepth 100000 in
@[reducible] noncomputable def fs33 : Scope := by
  have h : scopeOf (stAt 8) = scopeOf (stAt 8) := rfl
  conv at h =>
    rhs
    whnf
  exact valOf h
set_option maxRecDepth 100000 in
@[reducible] noncomputable def fb35 : List Stmt := by
  have h : bodyOf (stAt 8) = bodyOf (stAt 8) := rfl
  conv at h =>
    rhs
    whnf
  exact valOf h
set_option maxRecDepth 100000 in
@[reducible] noncomputable def fp35 : Arguments := by
  have h : argsOf (stAt 8) = argsOf (stAt 8) := rfl
  conv at h =>
    rhs
    whnf
  exact valOf h
set_option maxRecDepth 100000 in
@[reducible] noncomputable def fs35 : Scope := by
  have h : scopeOf (stAt 8) = scopeOf (stAt 8) := rfl
  conv at h =>
    rhs
    whnf
  exact valOf h
set_option maxRecDepth 100000 in
@[reducible] noncomputable def fb40 : List Stmt := by
  have h : bodyOf (stAt 9) = bodyOf (stAt 9) := rfl
  conv at h =>
    rhs
    whnf
  exact valOf h
set_option maxRecDepth 100000 in
@[reducible] noncomputable def fp40 : Arguments := by
  have h : argsOf (stAt 9) = argsOf (stAt 9) := rfl
  conv at h =>
    rhs
    whnf
  exact valOf h
set_option maxRecDepth 100000 in
@[reducible] noncomputable def fs40 : Scope := by
  have h : scopeOf (stAt 9) = scopeOf (stAt 9) := rfl
  conv at h =>
    rhs
    whnf
  exact valOf h
set_option maxRecDepth 100000 in
@[reducible] noncomputable def fb42 : List Stmt := by
  have h : bodyOf (stAt 9) = bodyOf (stAt 9) := rfl
  conv at h =>
    rhs
    whnf
  exact valOf h
set_option maxRecDepth 100000 in
@[reducible] noncomputable def fp42 : Arguments := by
  have h : argsOf (stAt 9) = argsOf (stAt 9) := rfl
  conv at h =>
    rhs
    whnf
  exact valOf h
set_option maxRecDepth 100000 in
@[reducible] noncomputable def fs42 : Scope := by
  have h : scopeOf (stAt 9) = scopeOf (stAt 9) := rfl
  conv at h =>
    rhs
    whnf
  exact valOf h
set_option maxRecDepth 100000 in
@[reducible] noncomputable def fb47 : List Stmt := by
  have h : bodyOf (stAt 15) = bodyOf (stAt 15) := rfl
  conv at h =>
    rhs
    whnf
  exact valOf h
set_option maxRecDepth 100000 in
@[reducible] noncomputable def fp47 : Arguments := by
  have h : argsOf (stAt 15) = argsOf (stAt 15) := rfl
  conv at h =>
    rhs
    whnf
  exact valOf h
set_option maxRecDepth 100000 in
@[reducible] noncomputable def fs47 : Scope := by
  have h : scopeOf (stAt 15) = scopeOf (stAt 15) := rfl
  conv at h =>
    rhs
    whnf
  exact valOf h
set_option maxRecDepth 100000 in
@[reducible] noncomputable def fb49 : List Stmt := by
  have h : bodyOf (stAt 15) = bodyOf (stAt 15) := rfl
  conv at h =>
    rhs
    whnf
  exact valOf h
set_option maxRecDepth 100000 in
@[reducible] noncomputable def fp49 : Arguments := by
  have h : argsOf (stAt 15) = argsOf (stAt 15) := rfl
  conv at h =>
    rhs
    whnf
  exact valOf h
set_option maxRecDepth 100000 in
@[reducible] noncomputable def fs49 : Scope := by
  have h : scopeOf (stAt 15) = scopeOf (stAt 15) := rfl
  conv at h =>
    rhs
    whnf
  exact valOf h
set_option maxRecDepth 100000 in
@[reducible] noncomputable def fb61 : List Stmt := by
  have h : bodyOf (subAt (stAt 17) 0) = bodyOf (subAt (stAt 17) 0) := rfl
  conv at h =>
    rhs
    whnf
  exact valOf h
set_option maxRecDepth 100000 in
@[reducible] noncomputable def fp61 : Arguments := by
  have h : argsOf (subAt (stAt 17) 0) = argsOf (subAt (stAt 17) 0) := rfl
  conv at h =>
    rhs
    whnf
  exact valOf h
set_option maxRecDepth 100000 in
@[reducible] noncomputable def fs61 : Scope := by
  have h : scopeOf (subAt (stAt 17) 0) = scopeOf (subAt (stAt 17) 0) := rfl
  conv at h =>
    rhs
    whnf
  exact valOf h
set_option maxRecDepth 100000 in
@[reducible] noncomputable def fb63 : List Stmt := by
  have h : bodyOf (subAt (stAt 17) 0) = bodyOf (subAt (stAt 17) 0) := rfl
  conv at h =>
    rhs
    whnf
  exact valOf h
set_option maxRecDepth 100000 in
@[reducible] noncomputable def fp63 : Arguments := by
  have h : argsOf (subAt (stAt 17) 0) = argsOf (subAt (stAt 17) 0) := rfl
  conv at h =>
    rhs
    whnf
  exact valOf h
set_option maxRecDepth 100000 in
@[reducible] noncomputable def fs63 : Scope := by
  have h : scopeOf (subAt (stAt 17) 0) = scopeOf (subAt (stAt 17) 0) := rfl
  conv at h =>
    rhs
    whnf
  exact valOf h
set_option maxRecDepth 100000 in
@[reducible] noncomputable def fb82 : List Stmt := by
  have h : bodyOf (subAt (stAt 18) 0) = bodyOf (subAt (stAt 18) 0) := rfl
  conv at h =>
    rhs
    whnf
  exact valOf h
set_option maxRecDepth 100000 in
@[reducible] noncomputable def fp82 : Arguments := by
  have h : argsOf (subAt (stAt 18) 0) = argsOf (subAt (stAt 18) 0) := rfl
  conv at h =>
    rhs
    whnf
  exact valOf h
set_option maxRecDepth 100000 in
@[reducible] noncomputable def fs82 : Scope := by
  have h : scopeOf (subAt (stAt 18) 0) = scopeOf (subAt (stAt 18) 0) := rfl
  conv at h =>
    rhs
    whnf
  exact valOf h
set_option maxRecDepth 100000 in
@[reducible] noncomputable def fb84 : List Stmt := by
  have h : bodyOf (subAt (stAt 18) 0) = bodyOf (subAt (stAt 18) 0) := rfl
  conv at h =>
    rhs
    whnf
  exact valOf h
set_option maxRecDepth 100000 in
@[reducible] noncomputable def fp84 : Arguments := by
  have h : argsOf (subAt (stAt 18) 0) = argsOf (subAt (stAt 18) 0) := rfl
  conv at h =>
    rhs
    whnf
  exact valOf h
set_option maxRecDepth 100000 in
@[reducible] noncomputable def fs84 : Scope := by
  have h : scopeOf (subAt (stAt 18) 0) = scopeOf (subAt (stAt 18) 0) := rfl
  conv at h =>
    rhs
    whnf
  exact valOf h
set_option maxRecDepth 100000 in
@[reducible] noncomputable def fb101 : List Stmt := by
  have h : bodyOf (subAt (stAt 20) 0) = bodyOf (subAt (stAt 20) 0) := rfl
  conv at h =>
    rhs
    whnf
  exact valOf h
set_option maxRecDepth 100000 in
@[reducible] noncomputable def fp101 : Arguments := by
  have h : argsOf (subAt (stAt 20) 0) = argsOf (subAt (stAt 20) 0) := rfl
  conv at h =>
    rhs
    whnf
  exact valOf h
set_option maxRecDepth 100000 in
@[reducible] noncomputable def fs101 : Scope := by
  have h : scopeOf (subAt (stAt 20) 0) = scopeOf (subAt (stAt 20) 0) := rfl
  conv at h =>
    rhs
    whnf
  exact valOf h
set_option maxRecDepth 100000 in
@[reducible] noncomputable def fb103 : List Stmt := by
  have h : bodyOf (subAt (stAt 20) 0) = bodyOf (subAt (stAt 20) 0) := rfl
  conv at h =>
    rhs
    whnf
  exact valOf h
set_option maxRecDepth 100000 in
@[reducible] noncomputable def fp103 : Arguments := by
  have h : argsOf (subAt (stAt 20) 0) = argsOf (subAt (stAt 20) 0) := rfl
  conv at h =>
    rhs
    whnf
  exact valOf h
set_option maxRecDepth 100000 in
@[reducible] noncomputable def fs103 : Scope := by
  have h : scopeOf (subAt (stAt 20) 0) = scopeOf (subAt (stAt 20) 0) := rfl
  conv at h =>
    rhs
    whnf
  exact valOf h
set_option maxRecDepth 100000 in
@[reducible] noncomputable def fb108 : List Stmt := by
  have h : bodyOf (subAt (stAt 20) 1) = bodyOf (subAt (stAt 20) 1) := rfl
  conv at h =>
    rhs
    whnf
  exact valOf h
set_option maxRecDepth 100000 in
@[reducible] noncomputable def fp108 : Arguments := by
  have h : argsOf (subAt (stAt 20) 1) = argsOf (subAt (stAt 20) 1) := rfl
  conv at h =>
    rhs
    whnf
  exact valOf h
set_option maxRecDepth 100000 in
@[reducible] noncomputable def fs108 : Scope := by
  have h : scopeOf (subAt (stAt 20) 1) = scopeOf (subAt (stAt 20) 1) := rfl
  conv at h =>
    rhs
    whnf
  exact valOf h
set_option maxRecDepth 100000 in
@[reducible] noncomputable def fb110 : List Stmt := by
  have h : bodyOf (subAt (stAt 20) 1) = bodyOf (subAt (stAt 20) 1) := rfl
  conv at h =>
    rhs
    whnf
  exact valOf h
set_option maxRecDepth 100000 in
@[reducible] noncomputable def fp110 : Arguments := by
  have h : argsOf (subAt (stAt 20) 1) = argsOf (subAt (stAt 20) 1) := rfl
  conv at h =>
    rhs
    whnf
  exact valOf h
set_option maxRecDepth 100000 in
@[reducible] noncomputable def fs110 : Scope := by
  have h : scopeOf (subAt (stAt 20) 1) = scopeOf (subAt (stAt 20) 1) := rfl
  conv at h =>
    rhs
    whnf
  exact valOf h
set_option maxRecDepth 100000 in
@[reducible] noncomputable def fb122 : List Stmt := by
  have h : bodyOf (stAt 21) = bodyOf (stAt 21) := rfl
  conv at h =>
    rhs
    whnf
  exact valOf h
set_option maxRecDepth 100000 in
@[reducible] noncomputable def fp122 : Arguments := by
  have h : argsOf (stAt 21) = argsOf (stAt 21) := rfl
  conv at h =>
    rhs
    whnf
  exact valOf h
set_option maxRecDepth 100000 in
@[reducible] noncomputable def fs122 : Scope := by
  have h : scopeOf (stAt 21) = scopeOf (stAt 21) := rfl
  conv at h =>
    rhs
    whnf
  exact valOf h
set_option maxRecDepth 100000 in
@[reducible] noncomputable def fb124 : List Stmt := by
  have h : bodyOf (stAt 21) = bodyOf (stAt 21) := rfl
  conv at h =>
    rhs
    whnf
  exact valOf h
set_option maxRecDepth 100000 in
@[reducible] noncomputable def fp124 : Arguments := by
  have h : argsOf (stAt 21) = argsOf (stAt 21) := rfl
  conv at h =>
    rhs
    whnf
  exact valOf h
set_option maxRecDepth 100000 in
@[reducible] noncomputable def fs124 : Scope := by
  have h : scopeOf (stAt 21) = scopeOf (stAt 21) := rfl
  conv at h =>
    rhs
    whnf
  exact valOf h
set_option maxRecDepth 100000 in
@[reducible] noncomputable def fb129 : List Stmt := by
  have h : bodyOf (stAt 22) = bodyOf (stAt 22) := rfl
  conv at h =>
    rhs
    whnf
  exact valOf h
set_option maxRecDepth 100000 in
@[reducible] noncomputable def fp129 : Arguments := by
  have h : argsOf (stAt 22) = argsOf (stAt 22) := rfl
  conv at h =>
    rhs
    whnf
  exact valOf h
set_option maxRecDepth 100000 in
@[reducible] noncomputable def fs129 : Scope := by
  have h : scopeOf (stAt 22) = scopeOf (stAt 22) := rfl
  conv at h =>
    rhs
    whnf
  exact valOf h
set_option maxRecDepth 100000 in
@[reducible] noncomputable def fb131 : List Stmt := by
  have h : bodyOf (stAt 22) = bodyOf (stAt 22) := rfl
  conv at h =>
    rhs
    whnf
  exact valOf h
set_option maxRecDepth 100000 in
@[reducible] noncomputable def fp131 : Arguments := by
  have h : argsOf (stAt 22) = argsOf (stAt 22) := rfl
  conv at h =>
    rhs
    whnf
  exact valOf h
set_option maxRecDepth 100000 in
@[reducible] noncomputable def fs131 : Scope := by
  have h : scopeOf (stAt 22) = scopeOf (stAt 22) := rfl
  conv at h =>
    rhs
    whnf
  exact valOf h
set_option maxRecDepth 100000 in
@[reducible] noncomputable def fb136 : List Stmt := by
  have h : bodyOf (stAt 23) = bodyOf (stAt 23) := rfl
  conv at h =>
    rhs
    whnf
  exact valOf h
set_option maxRecDepth 100000 in
@[reducible] noncomputable def fp136 : Arguments := by
  have h : argsOf (stAt 23) = argsOf (stAt 23) := rfl
  conv at h =>
    rhs
    whnf
  exact valOf h
set_option maxRecDepth 100000 in
@[reducible] noncomputable def fs136 : Scope := by
  have h : scopeOf (stAt 23) = scopeOf (stAt 23) := rfl
  conv at h =>
    rhs
    whnf
  exact valOf h
set_option maxRecDepth 100000 in
@[reducible] noncomputable def fb138 : List Stmt := by
  have h : bodyOf (stAt 23) = bodyOf (stAt 23) := rfl
  conv at h =>
    rhs
    whnf
  exact valOf h
set_option maxRecDepth 100000 in
@[reducible] noncomputable def fp138 : Arguments := by
  have h : argsOf (stAt 23) = argsOf (stAt 23) := rfl
  conv at h =>
    rhs
    whnf
  exact valOf h
set_option maxRecDepth 100000 in
@[reducible] noncomputable def fs138 : Scope := by
  have h : scopeOf (stAt 23) = scopeOf (stAt 23) := rfl
  conv at h =>
    rhs
    whnf
  exact valOf h
set_option maxRecDepth 100000 in
@[reducible] noncomputable def fb143 : List Stmt := by
  have h : bodyOf (stAt 24) = bodyOf (stAt 24) := rfl
  conv at h =>
    rhs
    whnf
  exact valOf h
set_option maxRecDepth 100000 in
@[reducible] noncomputable def fp143 : Arguments := by
  have h : argsOf (stAt 24) = argsOf (stAt 24) := rfl
  conv at h =>
    rhs
    whnf
  exact valOf h
set_option maxRecDepth 100000 in
@[reducible] noncomputable def fs143 : Scope := by
  have h : scopeOf (stAt 24) = scopeOf (stAt 24) := rfl
  conv at h =>
    rhs
    whnf
  exact valOf h
set_option maxRecDepth 100000 in
@[reducible] noncomputable def fb145 : List Stmt := by
  have h : bodyOf (stAt 24) = bodyOf (stAt 24) := rfl
  conv at h =>
    rhs
    whnf
  exact valOf h
set_option maxRecDepth 100000 in
@[reducible] noncomputable def fp145 : Arguments := by
  have h : argsOf (stAt 24) = argsOf (stAt 24) := rfl
  conv at h =>
    rhs
    whnf
  exact valOf h
set_option maxRecDepth 100000 in
@[reducible] noncomputable def fs145 : Scope := by
  have h : scopeOf (stAt 24) = scopeOf (stAt 24) := rfl
  conv at h =>
    rhs
    whnf
  exact valOf h
set_option maxRecDepth 100000 in
@[reducible] noncomputable def fb150 : List Stmt := by
  have h : bodyOf (stAt 25) = bodyOf (stAt 25) := rfl
  conv at h =>
    rhs
    whnf
  exact valOf h
set_option maxRecDepth 100000 in
@[reducible] noncomputable def fp150 : Arguments := by
  have h : argsOf (stAt 25) = argsOf (stAt 25) := rfl
  conv at h =>
    rhs
    whnf
  exact valOf h
set_option maxRecDepth 100000 in
@[reducible] noncomputable def fs150 : Scope := by
  have h : scopeOf (stAt 25) = scopeOf (stAt 25) := rfl
  conv at h =>
    rhs
    whnf
  exact valOf h
set_option maxRecDepth 100000 in
@[reducible] noncomputable def fb152 : List Stmt := by
  have h : bodyOf (stAt 25) = bodyOf (stAt 25) := rfl
  conv at h =>
    rhs
    whnf
  exact valOf h
set_option maxRecDepth 100000 in
@[reducible] noncomputable def fp152 : Arguments := by
  have h : argsOf (stAt 25) = argsOf (stAt 25) := rfl
  conv at h =>
    rhs
    whnf
  exact valOf h
set_option maxRecDepth 100000 in
@[reducible] noncomputable def fs152 : Scope := by
  have h : scopeOf (stAt 25) = scopeOf (stAt 25) := rfl
  conv at h =>
    rhs
    whnf
  exact valOf h
set_option maxRecDepth 100000 in
@[reducible] noncomputable def fb157 : List Stmt := by
  have h : bodyOf (stAt 27) = bodyOf (stAt 27) := rfl
  conv at h =>
    rhs
    whnf
  exact valOf h
set_option maxRecDepth 100000 in
@[reducible] noncomputable def fp157 : Arguments := by
  have h : argsOf (stAt 27) = argsOf (stAt 27) := rfl
  conv at h =>
    rhs
    whnf
  exact valOf h
set_option maxRecDepth 100000 in
@[reducible] noncomputable def fs157 : Scope := by
  have h : scopeOf (stAt 27) = scopeOf (stAt 27) := rfl
  conv at h =>
    rhs
    whnf
  exact valOf h
set_option maxRecDepth 100000 in
@[reducible] noncomputable def fb159 : List Stmt := by
  have h : bodyOf (stAt 27) = bodyOf (stAt 27) := rfl
  conv at h =>
    rhs
    whnf
  exact valOf h
set_option maxRecDepth 100000 in
@[reducible] noncomputable def fp159 : Arguments := by
  have h : argsOf (stAt 27) = argsOf (stAt 27) := rfl
  conv at h =>
    rhs
    whnf
  exact valOf h
set_option maxRecDepth 100000 in
@[reducible] noncomputable def fs159 : Scope := by
  have h : scopeOf (stAt 27) = scopeOf (stAt 27) := rfl
  conv at h =>
    rhs
    whnf
  exact valOf h
set_option maxRecDepth 100000 in
@[reducible] noncomputable def fb164 : List Stmt := by
  have h : bodyOf (stAt 34) = bodyOf (stAt 34) := rfl
  conv at h =>
    rhs
    whnf
  exact valOf h
set_option maxRecDepth 100000 in
@[reducible] noncomputable def fp164 : Arguments := by
  have h : argsOf (stAt 34) = argsOf (stAt 34) := rfl
  conv at h =>
    rhs
    whnf
  exact valOf h
set_option maxRecDepth 100000 in
@[reducible] noncomputable def fs164 : Scope := by
  have h : scopeOf (stAt 34) = scopeOf (stAt 34) := rfl
  conv at h =>
    rhs
    whnf
  exact valOf h
set_option maxRecDepth 100000 in
@[reducible] noncomputable def fb166 : List Stmt := by
  have h : bodyOf (stAt 34) = bodyOf (stAt 34) := rfl
  conv at h =>
    rhs
    whnf
  exact valOf h
set_option maxRecDepth 100000 in
@[reducible] noncomputable def fp166 : Arguments := by
  have h : argsOf (stAt 34) = argsOf (stAt 34) := rfl
  conv at h =>
    rhs
    whnf
  exact valOf h
set_option maxRecDepth 100000 in
@[reducible] noncomputable def fs166 : Scope := by
  have h : scopeOf (stAt 34) = scopeOf (stAt 34) := rfl
  conv at h =>
    rhs
    whnf
  exact valOf h
set_option maxRecDepth 100000 in
@[reducible] noncomputable def fb171 : List Stmt := by
  have h : bodyOf (stAt 35) = bodyOf (stAt 35) := rfl
  conv at h =>
    rhs
    whnf
  exact valOf h
set_option maxRecDepth 100000 in
@[reducible] noncomputable def fp171 : Arguments := by
  have h : argsOf (stAt 35) = argsOf (stAt 35) := rfl
  conv at h =>
    rhs
    whnf
  exact valOf h
set_option maxRecDepth 100000 in
@[reducible] noncomputable def fs171 : Scope := by
  have h : scopeOf (stAt 35) = scopeOf (stAt 35) := rfl
  conv at h =>
    rhs
    whnf
  exact valOf h
set_option maxRecDepth 100000 in
@[reducible] noncomputable def fb173 : List Stmt := by
  have h : bodyOf (stAt 35) = bodyOf (stAt 35) := rfl
  conv at h =>
    rhs
    whnf
  exact valOf h
set_option maxRecDepth 100000 in
@[reducible] noncomputable def fp173 : Arguments := by
  have h : argsOf (stAt 35) = argsOf (stAt 35) := rfl
  conv at h =>
    rhs
    whnf
  exact valOf h
set_option maxRecDepth 100000 in
@[reducible] noncomputable def fs173 : Scope := by
  have h : scopeOf (stAt 35) = scopeOf (stAt 35) := rfl
  conv at h =>
    rhs
    whnf
  exact valOf h
set_option maxRecDepth 100000 in
@[reducible] noncomputable def fb185 : List Stmt := by
  have h : bodyOf (subAt (stAt 36) 0) = bodyOf (subAt (stAt 36) 0) := rfl
  conv at h =>
    rhs
    whnf
  exact valOf h
set_option maxRecDepth 100000 in
@[reducible] noncomputable def fp185 : Arguments := by
  have h : argsOf (subAt (stAt 36) 0) = argsOf (subAt (stAt 36) 0) := rfl
  conv at h =>
    rhs
    whnf
  exact valOf h
set_option maxRecDepth 100000 in
@[reducible] noncomputable def fs185 : Scope := by
  have h : scopeOf (subAt (stAt 36) 0) = scopeOf (subAt (stAt 36) 0) := rfl
  conv at h =>
    rhs
    whnf
  exact valOf h
set_option maxRecDepth 100000 in
@[reducible] noncomputable def fb187 : List Stmt := by
  have h : bodyOf (subAt (stAt 36) 0) = bodyOf (subAt (stAt 36) 0) := rfl
  conv at h =>
    rhs
    whnf
  exact valOf h
set_option maxRecDepth 100000 in
@[reducible] noncomputable def fp187 : Arguments := by
  have h : argsOf (subAt (stAt 36) 0) = argsOf (subAt (stAt 36) 0) := rfl
  conv at h =>
    rhs
    whnf
  exact valOf h
set_option maxRecDepth 100000 in
@[reducible] noncomputable def fs187 : Scope := by
  have h : scopeOf (subAt (stAt 36) 0) = scopeOf (subAt (stAt 36) 0) := rfl
  conv at h =>
    rhs
    whnf
  exact valOf h
set_option maxRecDepth 100000 in
@[reducible] noncomputable def fb192 : List Stmt := by
  have h : bodyOf (subAt (stAt 36) 1) = bodyOf (subAt (stAt 36) 1) := rfl
  conv at h =>
    rhs
    whnf
  exact valOf h
set_option maxRecDepth 100000 in
@[reducible] noncomputable def fp192 : Arguments := by
  have h : argsOf (subAt (stAt 36) 1) = argsOf (subAt (stAt 36) 1) := rfl
  conv at h =>
    rhs
    whnf
  exact valOf h
set_option maxRecDepth 100000 in
@[reducible] noncomputable def fs192 : Scope := by
  have h : scopeOf (subAt (stAt 36) 1) = scopeOf (subAt (stAt 36) 1) := rfl
  conv at h =>
    rhs
    whnf
  exact valOf h
set_option maxRecDepth 100000 in
@[reducible] noncomputable def fb194 : List Stmt := by
  have h : bodyOf (subAt (stAt 36) 1) = bodyOf (subAt (stAt 36) 1) := rfl
  conv at h =>
    rhs
    whnf
  exact valOf h
set_option maxRecDepth 100000 in
@[reducible] noncomputable def fp194 : Arguments := by
  have h : argsOf (subAt (stAt 36) 1) = argsOf (subAt (stAt 36) 1) := rfl
  conv at h =>
    rhs
    whnf
  exact valOf h
set_option maxRecDepth 100000 in
@[reducible] noncomputable def fs194 : Scope := by
  have h : scopeOf (subAt (stAt 36) 1) = scopeOf (subAt (stAt 36) 1) := rfl
  conv at h =>
    rhs
    whnf
  exact valOf h
set_option maxRecDepth 100000 in
@[reducible] noncomputable def fb197 : List Stmt := by
  have h : bodyOf (subAt (stAt 36) 2) = bodyOf (subAt (stAt 36) 2) := rfl
  conv at h =>
    rhs
    whnf
  exact valOf h
set_option maxRecDepth 100000 in
@[reducible] noncomputable def fp197 : Arguments := by
  have h : argsOf (subAt (stAt 36) 2) = argsOf (subAt (stAt 36) 2) := rfl
  conv at h =>
    rhs
    whnf
  exact valOf h
set_option maxRecDepth 100000 in
@[reducible] noncomputable def fs197 : Scope := by
  have h : scopeOf (subAt (stAt 36) 2) = scopeOf (subAt (stAt 36) 2) := rfl
  conv at h =>
    rhs
    whnf
  exact valOf h
set_option maxRecDepth 100000 in
@[reducible] noncomputable def fb199 : List Stmt := by
  have h : bodyOf (subAt (stAt 36) 2) = bodyOf (subAt (stAt 36) 2) := rfl
  conv at h =>
    rhs
    whnf
  exact valOf h
set_option maxRecDepth 100000 in
@[reducible] noncomputable def fp199 : Arguments := by
  have h : argsOf (subAt (stAt 36) 2) = argsOf (subAt (stAt 36) 2) := rfl
  conv at h =>
    rhs
    whnf
  exact valOf h
set_option maxRecDepth 100000 in
@[reducible] noncomputable def fs199 : Scope := by
  have h : scopeOf (subAt (stAt 36) 2) = scopeOf (subAt (stAt 36) 2) := rfl
  conv at h =>
    rhs
    whnf
  exact valOf h
set_option maxRecDepth 100000 in
@[reducible] noncomputable def fb204 : List Stmt := by
  have h : bodyOf (subAt (stAt 36) 3) = bodyOf (subAt (stAt 36) 3) := rfl
  conv at h =>
    rhs
    whnf
  exact valOf h
set_option maxRecDepth 100000 in
@[reducible] noncomputable def fp204 : Arguments := by
  have h : argsOf (subAt (stAt 36) 3) = argsOf (subAt (stAt 36) 3) := rfl
  conv at h =>
    rhs
    whnf
  exact valOf h
set_option maxRecDepth 100000 in
@[reducible] noncomputable def fs204 : Scope := by
  have h : scopeOf (subAt (stAt 36) 3) = scopeOf (subAt (stAt 36) 3) := rfl
  conv at h =>
    rhs
    whnf
  exact valOf h
set_option maxRecDepth 100000 in
@[reducible] noncomputable def fb206 : List Stmt := by
  have h : bodyOf (subAt (stAt 36) 3) = bodyOf (subAt (stAt 36) 3) := rfl
  conv at h =>
    rhs
    whnf
  exact valOf h
set_option maxRecDepth 100000 in
@[reducible] noncomputable def fp206 : Arguments := by
  have h : argsOf (subAt (stAt 36) 3) = argsOf (subAt (stAt 36) 3) := rfl
  conv at h =>
    rhs
    whnf
  exact valOf h
set_option maxRecDepth 100000 in
@[reducible] noncomputable def fs206 : Scope := by
  have h : scopeOf (subAt (stAt 36) 3) = scopeOf (subAt (stAt 36) 3) := rfl
  conv at h =>
    rhs
    whnf
  exact valOf h
set_option maxRecDepth 100000 in
@[reducible] noncomputable def fb211 : List Stmt := by
  have h : bodyOf (subAt (stAt 36) 4) = bodyOf (subAt (stAt 36) 4) := rfl
  conv at h =>
    rhs
    whnf
  exact valOf h
set_option maxRecDepth 100000 in
@[reducible] noncomputable def fp211 : Arguments := by
  have h : argsOf (subAt (stAt 36) 4) = argsOf (subAt (stAt 36) 4) := rfl
  conv at h =>
    rhs
    whnf
  exact valOf h
set_option maxRecDepth 100000 in
@[reducible] noncomputable def fs211 : Scope := by
  have h : scopeOf (subAt (stAt 36) 4) = scopeOf (subAt (stAt 36) 4) := rfl
  conv at h =>
    rhs
    whnf
  exact valOf h
set_option maxRecDepth 100000 in
@[reducible] noncomputable def fb213 : List Stmt := by
  have h : bodyOf (subAt (stAt 36) 4) = bodyOf (subAt (stAt 36) 4) := rfl
  conv at h =>
    rhs
    whnf
  exact valOf h
set_option maxRecDepth 100000 in
@[reducible] noncomputable def fp213 : Arguments := by
  have h : argsOf (subAt (stAt 36) 4) = argsOf (subAt (stAt 36) 4) := rfl
  conv at h =>
    rhs
    whnf
  exact valOf h
set_option maxRecDepth 100000 in
@[reducible] noncomputable def fs213 : Scope := by
  have h : scopeOf (subAt (stAt 36) 4) = scopeOf (subAt (stAt 36) 4) := rfl
  conv at h =>
    rhs
    whnf
  exact valOf h
set_option maxRecDepth 100000 in
@[reducible] noncomputable def fb218 : List Stmt := by
  have h : bodyOf (subAt (stAt 36) 5) = bodyOf (subAt (stAt 36) 5) := rfl
  conv at h =>
    rhs
    whnf
  exact valOf h
set_option maxRecDepth 100000 in
@[reducible] noncomputable def fp218 : Arguments := by
  have h : argsOf (subAt (stAt 36) 5) = argsOf (subAt (stAt 36) 5) := rfl
  conv at h =>
    rhs
    whnf
  exact valOf h
set_option maxRecDepth 100000 in
@[reducible] noncomputable def fs218 : Scope := by
  have h : scopeOf (subAt (stAt 36) 5) = scopeOf (subAt (stAt 36) 5) := rfl
  conv at h =>
    rhs
    whnf
  exact valOf h
set_option maxRecDepth 100000 in
@[reducible] noncomputable def fb220 : List Stmt := by
  have h : bodyOf (subAt (stAt 36) 5) = bodyOf (subAt (stAt 36) 5) := rfl
  conv at h =>
    rhs
    whnf
  exact valOf h
set_option maxRecDepth 100000 in
@[reducible] noncomputable def fp220 : Arguments := by
  have h : argsOf (subAt (stAt 36) 5) = argsOf (subAt (stAt 36) 5) := rfl
  conv at h =>
    rhs
    whnf
  exact valOf h
set_option maxRecDepth 100000 in
@[reducible] noncomputable def fs220 : Scope := by
  have h : scopeOf (subAt (stAt 36) 5) = scopeOf (subAt (stAt 36) 5) := rfl
  conv at h =>
    rhs
    whnf
  exact valOf h
set_option maxRecDepth 100000 in
@[reducible] noncomputable def fb232 : List Stmt := by
  have h : bodyOf (stAt 37) = bodyOf (stAt 37) := rfl
  conv at h =>
    rhs
    whnf
  exact valOf h
set_option maxRecDepth 100000 in
@[reducible] noncomputable def fp232 : Arguments := by
  have h : argsOf (stAt 37) = argsOf (stAt 37) := rfl
  conv at h =>
    rhs
    whnf
  exact valOf h
set_option maxRecDepth 100000 in
@[reducible] noncomputable def fs232 : Scope := by
  have h : scopeOf (stAt 37) = scopeOf (stAt 37) := rfl
  conv at h =>
    rhs
    whnf
  exact valOf h
set_option maxRecDepth 100000 in
@[reducible] noncomputable def fb234 : List Stmt := by
  have h : bodyOf (stAt 37) = bodyOf (stAt 37) := rfl
  conv at h =>
    rhs
    whnf
  exact valOf h
set_option maxRecDepth 100000 in
@[reducible] noncomputable def fp234 : Arguments := by
  have h : argsOf (stAt 37) = argsOf (stAt 37) := rfl
  conv at h =>
    rhs
    whnf
  exact valOf h
set_option maxRecDepth 100000 in
@[reducible] noncomputable def fs234 : Scope := by
  have h : scopeOf (stAt 37) = scopeOf (stAt 37) := rfl
  conv at h =>
    rhs
    whnf
  exact valOf h
set_option maxRecDepth 100000 in
@[reducible] noncomputable def fb239 : List Stmt := by
  have h : bodyOf (stAt 39) = bodyOf (stAt 39) := rfl
  conv at h =>
    rhs
    whnf
  exact valOf h
set_option maxRecDepth 100000 in
@[reducible] noncomputable def fp239 : Arguments := by
  have h : argsOf (stAt 39) = argsOf (stAt 39) := rfl
  conv at h =>
    rhs
    whnf
  exact valOf h
set_option maxRecDepth 100000 in
@[reducible] noncomputable def fs239 : Scope := by
  have h : scopeOf (stAt 39) = scopeOf (stAt 39) := rfl
  conv at h =>
    rhs
    whnf
  exact valOf h
set_option maxRecDepth 100000 in
@[reducible] noncomputable def fb241 : List Stmt := by
  have h : bodyOf (stAt 39) = bodyOf (stAt 39) := rfl
  conv at h =>
    rhs
    whnf
  exact valOf h
set_option maxRecDepth 100000 in
@[reducible] noncomputable def fp241 : Arguments := by
  have h : argsOf (stAt 39) = argsOf (stAt 39) := rfl
  conv at h =>
    rhs
    whnf
  exact valOf h
set_option maxRecDepth 100000 in
@[reducible] noncomputable def fs241 : Scope := by
  have h : scopeOf (stAt 39) = scopeOf (stAt 39) := rfl
  conv at h =>
    rhs
    whnf
  exact valOf h
set_option maxRecDepth 100000 in
@[reducible] noncomputable def fb246 : List Stmt := by
  have h : bodyOf (stAt 40) = bodyOf (stAt 40) := rfl
  conv at h =>
    rhs
    whnf
  exact valOf h
set_option maxRecDepth 100000 in
@[reducible] noncomputable def fp246 : Arguments := by
  have h : argsOf (stAt 40) = argsOf (stAt 40) := rfl
  conv at h =>
    rhs
    whnf
  exact valOf h
set_option maxRecDepth 100000 in
@[reducible] noncomputable def fs246 : Scope := by
  have h : scopeOf (stAt 40) = scopeOf (stAt 40) := rfl
  conv at h =>
    rhs
    whnf
  exact valOf h
set_option maxRecDepth 100000 in
@[reducible] noncomputable def fb248 : List Stmt := by
  have h : bodyOf (stAt 40) = bodyOf (stAt 40) := rfl
  conv at h =>
    rhs
    whnf
  exact valOf h
set_option maxRecDepth 100000 in
@[reducible] noncomputable def fp248 : Arguments := by
  have h : argsOf (stAt 40) = argsOf (stAt 40) := rfl
  conv at h =>
    rhs
    whnf
  exact valOf h
set_option maxRecDepth 100000 in
@[reducible] noncomputable def fs248 : Scope := by
  have h : scopeOf (stAt 40) = scopeOf (stAt 40) := rfl
  conv at h =>
    rhs
    whnf
  exact valOf h
set_option maxRecDepth 100000 in
@[reducible] noncomputable def fb253 : List Stmt := by
  have h : bodyOf (stAt 43) = bodyOf (stAt 43) := rfl
  conv at h =>
    rhs
    whnf
  exact valOf h
set_option maxRecDepth 100000 in
@[reducible] noncomputable def fp253 : Arguments := by
  have h : argsOf (stAt 43) = argsOf (stAt 43) := rfl
  conv at h =>
    rhs
    whnf
  exact valOf h
set_option maxRecDepth 100000 in
@[reducible] noncomputable def fs253 : Scope := by
  have h : scopeOf (stAt 43) = scopeOf (stAt 43) := rfl
  conv at h =>
    rhs
    whnf
  exact valOf h
set_option maxRecDepth 100000 in
@[reducible] noncomputable def fb255 : List Stmt := by
  have h : bodyOf (stAt 43) = bodyOf (stAt 43) := rfl
  conv at h =>
    rhs
    whnf
  exact valOf h
set_option maxRecDepth 100000 in
@[reducible] noncomputable def fp255 : Arguments := by
  have h : argsOf (stAt 43) = argsOf (stAt 43) := rfl
  conv at h =>
    rhs
    whnf
  exact valOf h
set_option maxRecDepth 100000 in
@[reducible] noncomputable def fs255 : Scope := by
  have h : scopeOf (stAt 43) = scopeOf (stAt 43) := rfl
  conv at h =>
    rhs
    whnf
  exact valOf h
set_option maxRecDepth 100000 in
@[reducible] noncomputable def fb260 : List Stmt := by
  have h : bodyOf (stAt 44) = bodyOf (stAt 44) := rfl
  conv at h =>
    rhs
    whnf
  exact valOf h
set_option maxRecDepth 100000 in
@[reducible] noncomputable def fp260 : Arguments := by
  have h : argsOf (stAt 44) = argsOf (stAt 44) := rfl
  conv at h =>
    rhs
    whnf
  exact valOf h
set_option maxRecDepth 100000 in
@[reducible] noncomputable def fs260 : Scope := by
  have h : scopeOf (stAt 44) = scopeOf (stAt 44) := rfl
  conv at h =>
    rhs
    whnf
  exact valOf h
set_option maxRecDepth 100000 in
@[reducible] noncomputable def fb262 : List Stmt := by
  have h : bodyOf (stAt 44) = bodyOf (stAt 44) := rfl
  conv at h =>
    rhs
    whnf
  exact valOf h
set_option maxRecDepth 100000 in
@[reducible] noncomputable def fp262 : Arguments := by
  have h : argsOf (stAt 44) = argsOf (stAt 44) := rfl
  conv at h =>
    rhs
    whnf
  exact valOf h
set_option maxRecDepth 100000 in
@[reducible] noncomputable def fs262 : Scope := by
  have h : scopeOf (stAt 44) = scopeOf (stAt 44) := rfl
  conv at h =>
    rhs
    whnf
  exact valOf h
set_option maxRecDepth 100000 in
@[reducible] noncomputable def fb267 : List Stmt := by
  have h : bodyOf (stAt 45) = bodyOf (stAt 45) := rfl
  conv at h =>
    rhs
    whnf
  exact valOf h
set_option maxRecDepth 100000 in
@[reducible] noncomputable def fp267 : Arguments := by
  have h : argsOf (stAt 45) = argsOf (stAt 45) := rfl
  conv at h =>
    rhs
    whnf
  exact valOf h
set_option maxRecDepth 100000 in
@[reducible] noncomputable def fs267 : Scope := by
  have h : scopeOf (stAt 45) = scopeOf (stAt 45) := rfl
  conv at h =>
    rhs
    whnf
  exact valOf h
set_option maxRecDepth 100000 in
@[reducible] noncomputable def fb269 : List Stmt := by
  have h : bodyOf (stAt 45) = bodyOf (stAt 45) := rfl
  conv at h =>
    rhs
    whnf
  exact valOf h
set_option maxRecDepth 100000 in
@[reducible] noncomputable def fp269 : Arguments := by
  have h : argsOf (stAt 45) = argsOf (stAt 45) := rfl
  conv at h =>
    rhs
    whnf
  exact valOf h
set_option maxRecDepth 100000 in
@[reducible] noncomputable def fs269 : Scope := by
  have h : scopeOf (stAt 45) = scopeOf (stAt 45) := rfl
  conv at h =>
    rhs
    whnf
  exact valOf h
set_option maxRecDepth 100000 in
@[reducible] noncomputable def fb274 : List Stmt := by
  have h : bodyOf (stAt 46) = bodyOf (stAt 46) := rfl
  conv at h =>
    rhs
    whnf
  exact valOf h
set_option maxRecDepth 100000 in
@[reducible] noncomputable def fp274 : Arguments := by
  have h : argsOf (stAt 46) = argsOf (stAt 46) := rfl
  conv at h =>
    rhs
    whnf
  exact valOf h
set_option maxRecDepth 100000 in
@[reducible] noncomputable def fs274 : Scope := by
  have h : scopeOf (stAt 46) = scopeOf (stAt 46) := rfl
  conv at h =>
    rhs
    whnf
  exact valOf h
set_option maxRecDepth 100000 in
@[reducible] noncomputable def fb276 : List Stmt := by
  have h : bodyOf (stAt 46) = bodyOf (stAt 46) := rfl
  conv at h =>
    rhs
    whnf
  exact valOf h
set_option maxRecDepth 100000 in
@[reducible] noncomputable def fp276 : Arguments := by
  have h : argsOf (stAt 46) = argsOf (stAt 46) := rfl
  conv at h =>
    rhs
    whnf
  exact valOf h
set_option maxRecDepth 100000 in
@[reducible] noncomputable def fs276 : Scope := by
  have h : scopeOf (stAt 46) = scopeOf (stAt 46) := rfl
  conv at h =>
    rhs
    whnf
  exact valOf h
set_option maxRecDepth 100000 in
@[reducible] noncomputable def fb281 : List Stmt := by
  have h : bodyOf (stAt 47) = bodyOf (stAt 47) := rfl
  conv at h =>
    rhs
    whnf
  exact valOf h
set_option maxRecDepth 100000 in
@[reducible] noncomputable def fp281 : Arguments := by
  have h : argsOf (stAt 47) = argsOf (stAt 47) := rfl
  conv at h =>
    rhs
    whnf
  exact valOf h
set_option maxRecDepth 100000 in
@[reducible] noncomputable def fs281 : Scope := by
  have h : scopeOf (stAt 47) = scopeOf (stAt 47) := rfl
  conv at h =>
    rhs
    whnf
  exact valOf h
set_option maxRecDepth 100000 in
@[reducible] noncomputable def fb283 : List Stmt := by
  have h : bodyOf (stAt 47) = bodyOf (stAt 47) := rfl
  conv at h =>
    rhs
    whnf
  exact valOf h
set_option maxRecDepth 100000 in
@[reducible] noncomputable def fp283 : Arguments := by
  have h : argsOf (stAt 47) = argsOf (stAt 47) := rfl
  conv at h =>
    rhs
    whnf
  exact valOf h
set_option maxRecDepth 100000 in
@[reducible] noncomputable def fs283 : Scope := by
  have h : scopeOf (stAt 47) = scopeOf (stAt 47) := rfl
  conv at h =>
    rhs
    whnf
  exact valOf h
set_option maxRecDepth 100000 in
@[reducible] noncomputable def fb288 : List Stmt := by
  have h : bodyOf (stAt 50) = bodyOf (stAt 50) := rfl
  conv at h =>
    rhs
    whnf
  exact valOf h
set_option maxRecDepth 100000 in
@[reducible] noncomputable def fp288 : Arguments := by
  have h : argsOf (stAt 50) = argsOf (stAt 50) := rfl
  conv at h =>
    rhs
    whnf
  exact valOf h
set_option maxRecDepth 100000 in
@[reducible] noncomputable def fs288 : Scope := by
  have h : scopeOf (stAt 50) = scopeOf (stAt 50) := rfl
  conv at h =>
    rhs
    whnf
  exact valOf h
set_option maxRecDepth 100000 in
@[reducible] noncomputable def fb290 : List Stmt := by
  have h : bodyOf (stAt 50) = bodyOf (stAt 50) := rfl
  conv at h =>
    rhs
    whnf
  exact valOf h
set_option maxRecDepth 100000 in
@[reducible] noncomputable def fp290 : Arguments := by
  have h : argsOf (stAt 50) = argsOf (stAt 50) := rfl
  conv at h =>
    rhs
    whnf
  exact valOf h
set_option maxRecDepth 100000 in
@[reducible] noncomputable def fs290 : Scope := by
  have h : scopeOf (stAt 50) = scopeOf (stAt 50) := rfl
  conv at h =>
    rhs
    whnf
  exact valOf h
set_option maxRecDepth 100000 in
@[reducible] noncomputable def fb295 : List Stmt := by
  have h : bodyOf (stAt 51) = bodyOf (stAt 51) := rfl
  conv at h =>
    rhs
    whnf
  exact valOf h
set_option maxRecDepth 100000 in
@[reducible] noncomputable def fp295 : Arguments := by
  have h : argsOf (stAt 51) = argsOf (stAt 51) := rfl
  conv at h =>
    rhs
    whnf
  exact valOf h
set_option maxRecDepth 100000 in
@[reducible] noncomputable def fs295 : Scope := by
  have h : scopeOf (stAt 51) = scopeOf (stAt 51) := rfl
  conv at h =>
    rhs
    whnf
  exact valOf h
set_option maxRecDepth 100000 in
@[reducible] noncomputable def fb297 : List Stmt := by
  have h : bodyOf (stAt 51) = bodyOf (stAt 51) := rfl
  conv at h =>
    rhs
    whnf
  exact valOf h
set_option maxRecDepth 100000 in
@[reducible] noncomputable def fp297 : Arguments := by
  have h : argsOf (stAt 51) = argsOf (stAt 51) := rfl
  conv at h =>
    rhs
    whnf
  exact valOf h
set_option maxRecDepth 100000 in
@[reducible] noncomputable def fs297 : Scope := by
  have h : scopeOf (stAt 51) = scopeOf (stAt 51) := rfl
  conv at h =>
    rhs
    whnf
  exact valOf h
set_option maxRecDepth 100000 in
@[reducible] noncomputable def fb302 : List Stmt := by
  have h : bodyOf (stAt 52) = bodyOf (stAt 52) := rfl
  conv at h =>
    rhs
    whnf
  exact valOf h
set_option maxRecDepth 100000 in
@[reducible] noncomputable def fp302 : Arguments := by
  have h : argsOf (stAt 52) = argsOf (stAt 52) := rfl
  conv at h =>
    rhs
    whnf
  exact valOf h
set_option maxRecDepth 100000 in
@[reducible] noncomputable def fs302 : Scope := by
  have h : scopeOf (stAt 52) = scopeOf (stAt 52) := rfl
  conv at h =>
    rhs
    whnf
  exact valOf h
set_option maxRecDepth 100000 in
@[reducible] noncomputable def fb304 : List Stmt := by
  have h : bodyOf (stAt 52) = bodyOf (stAt 52) := rfl
  conv at h =>
    rhs
    whnf
  exact valOf h
set_option maxRecDepth 100000 in
@[reducible] noncomputable def fp304 : Arguments := by
  have h : argsOf (stAt 52) = argsOf (stAt 52) := rfl
  conv at h =>
    rhs
    whnf
  exact valOf h
set_option maxRecDepth 100000 in
@[reducible] noncomputable def fs304 : Scope := by
  have h : scopeOf (stAt 52) = scopeOf (stAt 52) := rfl
  conv at h =>
    rhs
    whnf
  exact valOf h
set_option maxRecDepth 100000 in
@[reducible] noncomputable def fb309 : List Stmt := by
  have h : bodyOf (stAt 53) = bodyOf (stAt 53) := rfl
  conv at h =>
    rhs
    whnf
  exact valOf h
set_option maxRecDepth 100000 in
@[reducible] noncomputable def fp309 : Arguments := by
  have h : argsOf (stAt 53) = argsOf (stAt 53) := rfl
  conv at h =>
    rhs
    whnf
  exact valOf h
set_option maxRecDepth 100000 in
@[reducible] noncomputable def fs309 : Scope := by
  have h : scopeOf (stAt 53) = scopeOf (stAt 53) := rfl
  conv at h =>
    rhs
    whnf
  exact valOf h
set_option maxRecDepth 100000 in
@[reducible] noncomputable def fb311 : List Stmt := by
  have h : bodyOf (stAt 53) = bodyOf (stAt 53) := rfl
  conv at h =>
    rhs
    whnf
  exact valOf h
set_option maxRecDepth 100000 in
@[reducible] noncomputable def fp311 : Arguments := by
  have h : argsOf (stAt 53) = argsOf (stAt 53) := rfl
  conv at h =>
    rhs
    whnf
  exact valOf h
set_option maxRecDepth 100000 in
@[reducible] noncomputable def fs311 : Scope := by
  have h : scopeOf (stAt 53) = scopeOf (stAt 53) := rfl
  conv at h =>
    rhs
    whnf
  exact valOf h
set_option maxRecDepth 100000 in
@[reducible] noncomputable def fb316 : List Stmt := by
  have h : bodyOf (stAt 54) = bodyOf (stAt 54) := rfl
  conv at h =>
    rhs
    whnf
  exact valOf h
set_option maxRecDepth 100000 in
@[reducible] noncomputable def fp316 : Arguments := by
  have h : argsOf (stAt 54) = argsOf (stAt 54) := rfl
  conv at h =>
    rhs
    whnf
  exact valOf h
set_option maxRecDepth 100000 in
@[reducible] noncomputable def fs316 : Scope := by
  have h : scopeOf (stAt 54) = scopeOf (stAt 54) := rfl
  conv at h =>
    rhs
    whnf
  exact valOf h
set_option maxRecDepth 100000 in
@[reducible] noncomputable def fb318 : List Stmt := by
  have h : bodyOf (stAt 54) = bodyOf (stAt 54) := rfl
  conv at h =>
    rhs
    whnf
  exact valOf h
set_option maxRecDepth 100000 in
@[reducible] noncomputable def fp318 : Arguments := by
  have h : argsOf (stAt 54) = argsOf (stAt 54) := rfl
  conv at h =>
    rhs
    whnf
  exact valOf h
set_option maxRecDepth 100000 in
@[reducible] noncomputable def fs318 : Scope := by
  have h : scopeOf (stAt 54) = scopeOf (stAt 54) := rfl
  conv at h =>
    rhs
    whnf
  exact valOf h
set_option maxRecDepth 100000 in
@[reducible] noncomputable def fb323 : List Stmt := by
  have h : bodyOf (stAt 57) = bodyOf (stAt 57) := rfl
  conv at h =>
    rhs
    whnf
  exact valOf h
set_option maxRecDepth 100000 in
@[reducible] noncomputable def fp323 : Arguments := by
  have h : argsOf (stAt 57) = argsOf (stAt 57) := rfl
  conv at h =>
    rhs
    whnf
  exact valOf h
set_option maxRecDepth 100000 in
@[reducible] noncomputable def fs323 : Scope := by
  have h : scopeOf (stAt 57) = scopeOf (stAt 57) := rfl
  conv at h =>
    rhs
    whnf
  exact valOf h
set_option maxRecDepth 100000 in
@[reducible] noncomputable def fb325 : List Stmt := by
  have h : bodyOf (stAt 57) = bodyOf (stAt 57) := rfl
  conv at h =>
    rhs
    whnf
  exact valOf h
set_option maxRecDepth 100000 in
@[reducible] noncomputable def fp325 : Arguments := by
  have h : argsOf (stAt 57) = argsOf (stAt 57) := rfl
  conv at h =>
    rhs
    whnf
  exact valOf h
set_option maxRecDepth 100000 in
@[reducible] noncomputable def fs325 : Scope := by
  have h : scopeOf (stAt 57) = scopeOf (stAt 57) := rfl
  conv at h =>
    rhs
    whnf
  exact valOf h
set_option maxRecDepth 100000 in
@[reducible] noncomputable def fb330 : List Stmt := by
  have h : bodyOf (stAt 58) = bodyOf (stAt 58) := rfl
  conv at h =>
    rhs
    whnf
  exact valOf h
set_option maxRecDepth 100000 in
@[reducible] noncomputable def fp330 : Arguments := by
  have h : argsOf (stAt 58) = argsOf (stAt 58) := rfl
  conv at h =>
    rhs
    whnf
  exact valOf h
set_option maxRecDepth 100000 in
@[reducible] noncomputable def fs330 : Scope := by
  have h : scopeOf (stAt 58) = scopeOf (stAt 58) := rfl
  conv at h =>
    rhs
    whnf
  exact valOf h
set_option maxRecDepth 100000 in
@[reducible] noncomputable def fb332 : List Stmt := by
  have h : bodyOf (stAt 58) = bodyOf (stAt 58) := rfl
  conv at h =>
    rhs
    whnf
  exact valOf h
set_option maxRecDepth 100000 in
@[reducible] noncomputable def fp332 : Arguments := by
  have h : argsOf (stAt 58) = argsOf (stAt 58) := rfl
  conv at h =>
    rhs
    whnf
  exact valOf h
set_option maxRecDepth 100000 in
@[reducible] noncomputable def fs332 : Scope := by
  have h : scopeOf (stAt 58) = scopeOf (stAt 58) := rfl
  conv at h =>
    rhs
    whnf
  exact valOf h
set_option maxRecDepth 100000 in
@[reducible] noncomputable def fb337 : List Stmt := by
  have h : bodyOf (stAt 59) = bodyOf (stAt 59) := rfl
  conv at h =>
    rhs
    whnf
  exact valOf h
set_option maxRecDepth 100000 in
@[reducible] noncomputable def fp337 : Arguments := by
  have h : argsOf (stAt 59) = argsOf (stAt 59) := rfl
  conv at h =>
    rhs
    whnf
  exact valOf h
set_option maxRecDepth 100000 in
@[reducible] noncomputable def fs337 : Scope := by
  have h : scopeOf (stAt 59) = scopeOf (stAt 59) := rfl
  conv at h =>
    rhs
    whnf
  exact valOf h
set_option maxRecDepth 100000 in
@[reducible] noncomputable def fb339 : List Stmt := by
  have h : bodyOf (stAt 59) = bodyOf (stAt 59) := rfl
  conv at h =>
    rhs
    whnf
  exact valOf h
set_option maxRecDepth 100000 in
@[reducible] noncomputable def fp339 : Arguments := by
  have h : argsOf (stAt 59) = argsOf (stAt 59) := rfl
  conv at h =>
    rhs
    whnf
  exact valOf h
set_option maxRecDepth 100000 in
@[reducible] noncomputable def fs339 : Scope := by
  have h : scopeOf (stAt 59) = scopeOf (stAt 59) := rfl
  conv at h =>
    rhs
    whnf
  exact valOf h
set_option maxRecDepth 100000 in
@[reducible] noncomputable def fb344 : List Stmt := by
  have h : bodyOf (stAt 60) = bodyOf (stAt 60) := rfl
  conv at h =>
    rhs
    whnf
  exact valOf h
set_option maxRecDepth 100000 in
@[reducible] noncomputable def fp344 : Arguments := by
  have h : argsOf (stAt 60) = argsOf (stAt 60) := rfl
  conv at h =>
    rhs
    whnf
  exact valOf h
set_option maxRecDepth 100000 in
@[reducible] noncomputable def fs344 : Scope := by
  have h : scopeOf (stAt 60) = scopeOf (stAt 60) := rfl
  conv at h =>
    rhs
    whnf
  exact valOf h
set_option maxRecDepth 100000 in
@[reducible] noncomputable def fb346 : List Stmt := by
  have h : bodyOf (stAt 60) = bodyOf (stAt 60) := rfl
  conv at h =>
    rhs
    whnf
  exact valOf h
set_option maxRecDepth 100000 in
@[reducible] noncomputable def fp346 : Arguments := by
  have h : argsOf (stAt 60) = argsOf (stAt 60) := rfl
  conv at h =>
    rhs
    whnf
  exact valOf h
set_option maxRecDepth 100000 in
@[reducible] noncomputable def fs346 : Scope := by
  have h : scopeOf (stAt 60) = scopeOf (stAt 60) := rfl
  conv at h =>
    rhs
    whnf
  exact valOf h
set_option maxRecDepth 100000 in
@[reducible] noncomputable def fb351 : List Stmt := by
  have h : bodyOf (stAt 61) = bodyOf (stAt 61) := rfl
  conv at h =>
    rhs
    whnf
  exact valOf h
set_option maxRecDepth 100000 in
@[reducible] noncomputable def fp351 : Arguments := by
  have h : argsOf (stAt 61) = argsOf (stAt 61) := rfl
  conv at h =>
    rhs
    whnf
  exact valOf h
set_option maxRecDepth 100000 in
@[reducible] noncomputable def fs351 : Scope := by
  have h : scopeOf (stAt 61) = scopeOf (stAt 61) := rfl
  conv at h =>
    rhs
    whnf
  exact valOf h
set_option maxRecDepth 100000 in
@[reducible] noncomputable def fb353 : List Stmt := by
  have h : bodyOf (stAt 61) = bodyOf (stAt 61) := rfl
  conv at h =>
    rhs
    whnf
  exact valOf h
set_option maxRecDepth 100000 in
@[reducible] noncomputable def fp353 : Arguments := by
  have h : argsOf (stAt 61) = argsOf (stAt 61) := rfl
  conv at h =>
    rhs
    whnf
  exact valOf h
set_option maxRecDepth 100000 in
@[reducible] noncomputable def fs353 : Scope := by
  have h : scopeOf (stAt 61) = scopeOf (stAt 61) := rfl
  conv at h =>
    rhs
    whnf
  exact valOf h
set_option maxRecDepth 100000 in
@[reducible] noncomputable def fb358 : List Stmt := by
  have h : bodyOf (stAt 62) = bodyOf (stAt 62) := rfl
  conv at h =>
    rhs
    whnf
  exact valOf h
set_option maxRecDepth 100000 in
@[reducible] noncomputable def fp358 : Arguments := by
  have h : argsOf (stAt 62) = argsOf (stAt 62) := rfl
  conv at h =>
    rhs
    whnf
  exact valOf h
set_option maxRecDepth 100000 in
@[reducible] noncomputable def fs358 : Scope := by
  have h : scopeOf (stAt 62) = scopeOf (stAt 62) := rfl
  conv at h =>
    rhs
    whnf
  exact valOf h
set_option maxRecDepth 100000 in
@[reducible] noncomputable def fb360 : List Stmt := by
  have h : bodyOf (stAt 62) = bodyOf (stAt 62) := rfl
  conv at h =>
    rhs
    whnf
  exact valOf h
set_option maxRecDepth 100000 in
@[reducible] noncomputable def fp360 : Arguments := by
  have h : argsOf (stAt 62) = argsOf (stAt 62) := rfl
  conv at h =>
    rhs
    whnf
  exact valOf h
set_option maxRecDepth 100000 in
@[reducible] noncomputable def fs360 : Scope := by
  have h : scopeOf (stAt 62) = scopeOf (stAt 62) := rfl
  conv at h =>
    rhs
    whnf
  exact valOf h
set_option maxRecDepth 100000 in
@[reducible] noncomputable def fb365 : List Stmt := by
  have h : bodyOf (stAt 63) = bodyOf (stAt 63) := rfl
  conv at h =>
    rhs
    whnf
  exact valOf h
set_option maxRecDepth 100000 in
@[reducible] noncomputable def fp365 : Arguments := by
  have h : argsOf (stAt 63) = argsOf (stAt 63) := rfl
  conv at h =>
    rhs
    whnf
  exact valOf h
set_option maxRecDepth 100000 in
@[reducible] noncomputable def fs365 : Scope := by
  have h : scopeOf (stAt 63) = scopeOf (stAt 63) := rfl
  conv at h =>
    rhs
    whnf
  exact valOf h
set_option maxRecDepth 100000 in
@[reducible] noncomputable def fb367 : List Stmt := by
  have h : bodyOf (stAt 63) = bodyOf (stAt 63) := rfl
  conv at h =>
    rhs
    whnf
  exact valOf h
set_option maxRecDepth 100000 in
@[reducible] noncomputable def fp367 : Arguments := by
  have h : argsOf (stAt 63) = argsOf (stAt 63) := rfl
  conv at h =>
    rhs
    whnf
  exact valOf h
set_option maxRecDepth 100000 in
@[reducible] noncomputable def fs367 : Scope := by
  have h : scopeOf (stAt 63) = scopeOf (stAt 63) := rfl
  conv at h =>
    rhs
    whnf
  exact valOf h
set_option maxRecDepth 100000 in
@[reducible] noncomputable def fb372 : List Stmt := by
  have h : bodyOf (stAt 64) = bodyOf (stAt 64) := rfl
  conv at h =>
    rhs
    whnf
  exact valOf h
set_option maxRecDepth 100000 in
@[reducible] noncomputable def fp372 : Arguments := by
  have h : argsOf (stAt 64) = argsOf (stAt 64) := rfl
  conv at h =>
    rhs
    whnf
  exact valOf h
set_option maxRecDepth 100000 in
@[reducible] noncomputable def fs372 : Scope := by
  have h : scopeOf (stAt 64) = scopeOf (stAt 64) := rfl
  conv at h =>
    rhs
    whnf
  exact valOf h
set_option maxRecDepth 100000 in
@[reducible] noncomputable def fb374 : List Stmt := by
  have h : bodyOf (stAt 64) = bodyOf (stAt 64) := rfl
  conv at h =>
    rhs
    whnf
  exact valOf h
set_option maxRecDepth 100000 in
@[reducible] noncomputable def fp374 : Arguments := by
  have h : argsOf (stAt 64) = argsOf (stAt 64) := rfl
  conv at h =>
    rhs
    whnf
  exact valOf h
set_option maxRecDepth 100000 in
@[reducible] noncomputable def fs374 : Scope := by
  have h : scopeOf (stAt 64) = scopeOf (stAt 64) := rfl
  conv at h =>
    rhs
    whnf
  exact valOf h
set_option maxRecDepth 100000 in
@[reducible] noncomputable def fb379 : List Stmt := by
  have h : bodyOf (stAt 65) = bodyOf (stAt 65) := rfl
  conv at h =>
    rhs
    whnf
  exact valOf h
set_option maxRecDepth 100000 in
@[reducible] noncomputable def fp379 : Arguments := by
  have h : argsOf (stAt 65) = argsOf (stAt 65) := rfl
  conv at h =>
    rhs
    whnf
  exact valOf h
set_option maxRecDepth 100000 in
@[reducible] noncomputable def fs379 : Scope := by
  have h : scopeOf (stAt 65) = scopeOf (stAt 65) := rfl
  conv at h =>
    rhs
    whnf
  exact valOf h
set_option maxRecDepth 100000 in
@[reducible] noncomputable def fb381 : List Stmt := by
  have h : bodyOf (stAt 65) = bodyOf (stAt 65) := rfl
  conv at h =>
    rhs
    whnf
  exact valOf h
set_option maxRecDepth 100000 in
@[reducible] noncomputable def fp381 : Arguments := by
  have h : argsOf (stAt 65) = argsOf (stAt 65) := rfl
  conv at h =>
    rhs
    whnf
  exact valOf h
set_option maxRecDepth 100000 in
@[reducible] noncomputable def fs381 : Scope := by
  have h : scopeOf (stAt 65) = scopeOf (stAt 65) := rfl
  conv at h =>
    rhs
    whnf
  exact valOf h
set_option maxRecDepth 100000 in
@[reducible] noncomputable def fb386 : List Stmt := by
  have h : bodyOf (stAt 66) = bodyOf (stAt 66) := rfl
  conv at h =>
    rhs
    whnf
  exact valOf h
set_option maxRecDepth 100000 in
@[reducible] noncomputable def fp386 : Arguments := by
  have h : argsOf (stAt 66) = argsOf (stAt 66) := rfl
  conv at h =>
    rhs
    whnf
  exact valOf h
set_option maxRecDepth 100000 in
@[reducible] noncomputable def fs386 : Scope := by
  have h : scopeOf (stAt 66) = scopeOf (stAt 66) := rfl
  conv at h =>
    rhs
    whnf
  exact valOf h
set_option maxRecDepth 100000 in
@[reducible] noncomputable def fb388 : List Stmt := by
  have h : bodyOf (stAt 66) = bodyOf (stAt 66) := rfl
  conv at h =>
    rhs
    whnf
  exact valOf h
set_option maxRecDepth 100000 in
@[reducible] noncomputable def fp388 : Arguments := by
  have h : argsOf (stAt 66) = argsOf (stAt 66) := rfl
  conv at h =>
    rhs
    whnf
  exact valOf h
set_option maxRecDepth 100000 in
@[reducible] noncomputable def fs388 : Scope := by
  have h : scopeOf (stAt 66) = scopeOf (stAt 66) := rfl
  conv at h =>
    rhs
    whnf
  exact valOf h
@[reducible] noncomputable def ob2 (P : Params) : Obj := (Obj.mk Value.none (Option.none) (Data.dict (List.toArray [(DictEntry.mk (PyData.keyHash P (Str.ofString "type.__subclasses__.Exception.0")) (Value.str (Str.ofString "type.__subclasses__.Exception.0") 279) (Value.int 66 0)), (DictEntry.mk (PyData.keyHash P (Str.ofString "type.__subclasses__.Exception.n")) (Value.str (Str.ofString "type.__subclasses__.Exception.n") 280) (Value.int 1 0))]) 2) (List.toArray []))
@[reducible] noncomputable def ob3 (P : Params) : Obj := (Obj.mk (Value.type "dict") (Option.none) (Data.dict (List.toArray [(DictEntry.mk (PyData.keyHash P (Str.ofString "__name__")) (Value.str (Str.ofString "__name__") 165) (Value.str (Str.ofString "law_pf0102_01") 721)), (DictEntry.mk (PyData.keyHash P (Str.ofString "__doc__")) (Value.str (Str.ofString "__doc__") 166) Value.none), (DictEntry.mk (PyData.keyHash P (Str.ofString "__package__")) (Value.str (Str.ofString "__package__") 167) Value.none), (DictEntry.mk (PyData.keyHash P (Str.ofString "__loader__")) (Value.str (Str.ofString "__loader__") 168) (Value.builtin "__main__.__loader__#opaque")), (DictEntry.mk (PyData.keyHash P (Str.ofString "__spec__")) (Value.str (Str.ofString "__spec__") 169) Value.none), (DictEntry.mk (PyData.keyHash P (Str.ofString "__annotations__")) (Value.str (Str.ofString "__annotations__") 170) (Value.ref 6)), (DictEntry.mk (PyData.keyHash P (Str.ofString "__builtins__")) (Value.str (Str.ofString "__builtins__") 171) (Value.ref 4)), (DictEntry.mk (PyData.keyHash P (Str.ofString "__file__")) (Value.str (Str.ofString "__file__") 173) (Value.str (Str.ofString "/claim/cut.py") 172)), (DictEntry.mk (PyData.keyHash P (Str.ofString "__cached__")) (Value.str (Str.ofString "__cached__") 174) Value.none), (DictEntry.mk (PyData.keyHash P (Str.ofString "MATE")) (Value.str (Str.ofString "MATE") 190) (Value.int 32000 189)), (DictEntry.mk (PyData.keyHash P (Str.ofString "DRAW")) (Value.str (Str.ofString "DRAW") 192) (Value.int 0 191)), (DictEntry.mk (PyData.keyHash P (Str.ofString "INFINITE")) (Value.str (Str.ofString "INFINITE") 194) (Value.int 32001 193)), (DictEntry.mk (PyData.keyHash P (Str.ofString "MAX_PLY")) (Value.str (Str.ofString "MAX_PLY") 196) (Value.int 246 195)), (DictEntry.mk (PyData.keyHash P (Str.ofString "MATE_LEAST")) (Value.str (Str.ofString "MATE_LEAST") 198) (Value.int 31754 197)), (DictEntry.mk (PyData.keyHash P (Str.ofString "mated_in")) (Value.str (Str.ofString "mated_in") 205) (Value.ref 21)), (DictEntry.mk (PyData.keyHash P (Str.ofString "mate_in")) (Value.str (Str.ofString "mate_in") 212) (Value.ref 28)), (DictEntry.mk (PyData.keyHash P (Str.ofString "to_table")) (Value.str (Str.ofString "to_table") 220) (Value.ref 35)), (DictEntry.mk (PyData.keyHash P (Str.ofString "from_table")) (Value.str (Str.ofString "from_table") 228) (Value.ref 42)), (DictEntry.mk (PyData.keyHash P (Str.ofString "NO_MOVE")) (Value.str (Str.ofString "NO_MOVE") 230) (Value.int 0 229)), (DictEntry.mk (PyData.keyHash P (Str.ofString "BOUND_UPPER")) (Value.str (Str.ofString "BOUND_UPPER") 232) (Value.int 1 231)), (DictEntry.mk (PyData.keyHash P (Str.ofString "BOUND_LOWER")) (Value.str (Str.ofString "BOUND_LOWER") 234) (Value.int 2 233)), (DictEntry.mk (PyData.keyHash P (Str.ofString "BOUND_EXACT")) (Value.str (Str.ofString "BOUND_EXACT") 236) (Value.int 3 235)), (DictEntry.mk (PyData.keyHash P (Str.ofString "cutoff")) (Value.str (Str.ofString "cutoff") 251) (Value.ref 49)), (DictEntry.mk (PyData.keyHash P (Str.ofString "ChessError")) (Value.str (Str.ofString "ChessError") 282) (Value.ref 66)), (DictEntry.mk (PyData.keyHash P (Str.ofString "SearchStopped")) (Value.str (Str.ofString "SearchStopped") 308) (Value.ref 87)), (DictEntry.mk (PyData.keyHash P (Str.ofString "SearchContext")) (Value.str (Str.ofString "SearchContext") 361) (Value.ref 113)), (DictEntry.mk (PyData.keyHash P (Str.ofString "step_into")) (Value.str (Str.ofString "step_into") 369) (Value.ref 124)), (DictEntry.mk (PyData.keyHash P (Str.ofString "step_back")) (Value.str (Str.ofString "step_back") 376) (Value.ref 131)), (DictEntry.mk (PyData.keyHash P (Str.ofString "clear_line")) (Value.str (Str.ofString "clear_line") 384) (Value.ref 138)), (DictEntry.mk (PyData.keyHash P (Str.ofString "set_line")) (Value.str (Str.ofString "set_line") 393) (Value.ref 145)), (DictEntry.mk (PyData.keyHash P (Str.ofString "start_count")) (Value.str (Str.ofString "start_count") 401) (Value.ref 152)), (DictEntry.mk (PyData.keyHash P (Str.ofString "reward")) (Value.str (Str.ofString "reward") 418) (Value.ref 159)), (DictEntry.mk (PyData.keyHash P (Str.ofString "TABLE_STAGE")) (Value.str (Str.ofString "TABLE_STAGE") 422) (Value.int 0 421)), (DictEntry.mk (PyData.keyHash P (Str.ofString "GOOD_STAGE")) (Value.str (Str.ofString "GOOD_STAGE") 424) (Value.int 1 423)), (DictEntry.mk (PyData.keyHash P (Str.ofString "KILLER_STAGE")) (Value.str (Str.ofString "KILLER_STAGE") 426) (Value.int 2 425)), (DictEntry.mk (PyData.keyHash P (Str.ofString "QUIET_STAGE")) (Value.str (Str.ofString "QUIET_STAGE") 428) (Value.int 3 427)), (DictEntry.mk (PyData.keyHash P (Str.ofString "END_STAGE")) (Value.str (Str.ofString "END_STAGE") 430) (Value.int 5 429)), (DictEntry.mk (PyData.keyHash P (Str.ofString "killer_pair")) (Value.str (Str.ofString "killer_pair") 438) (Value.ref 166)), (DictEntry.mk (PyData.keyHash P (Str.ofString "past_score")) (Value.str (Str.ofString "past_score") 447) (Value.ref 173)), (DictEntry.mk (PyData.keyHash P (Str.ofString "Picker")) (Value.str (Str.ofString "Picker") 529) (Value.ref 223)), (DictEntry.mk (PyData.keyHash P (Str.ofString "take_best")) (Value.str (Str.ofString "take_best") 538) (Value.ref 234)), (DictEntry.mk (PyData.keyHash P (Str.ofString "quiesce")) (Value.str (Str.ofString "quiesce") 554) (Value.ref 241)), (DictEntry.mk (PyData.keyHash P (Str.ofString "quiesce_moves")) (Value.str (Str.ofString "quiesce_moves") 570) (Value.ref 248)), (DictEntry.mk (PyData.keyHash P (Str.ofString "IID_DEPTH")) (Value.str (Str.ofString "IID_DEPTH") 574) (Value.int 4 573)), (DictEntry.mk (PyData.keyHash P (Str.ofString "search")) (Value.str (Str.ofString "search") 593) (Value.ref 255)), (DictEntry.mk (PyData.keyHash P (Str.ofString "search_moves")) (Value.str (Str.ofString "search_moves") 619) (Value.ref 262)), (DictEntry.mk (PyData.keyHash P (Str.ofString "search_child")) (Value.str (Str.ofString "search_child") 633) (Value.ref 269)), (DictEntry.mk (PyData.keyHash P (Str.ofString "look_up")) (Value.str (Str.ofString "look_up") 647) (Value.ref 276)), (DictEntry.mk (PyData.keyHash P (Str.ofString "keep_value")) (Value.str (Str.ofString "keep_value") 662) (Value.ref 283)), (DictEntry.mk (PyData.keyHash P (Str.ofString "WIDE")) (Value.str (Str.ofString "WIDE") 666) (Value.int 1000 665)), (DictEntry.mk (PyData.keyHash P (Str.ofString "lower_edge")) (Value.str (Str.ofString "lower_edge") 674) (Value.ref 290)), (DictEntry.mk (PyData.keyHash P (Str.ofString "upper_edge")) (Value.str (Str.ofString "upper_edge") 682) (Value.ref 297)), (DictEntry.mk (PyData.keyHash P (Str.ofString "aspirate")) (Value.str (Str.ofString "aspirate") 695) (Value.ref 304)), (DictEntry.mk (PyData.keyHash P (Str.ofString "mtdf")) (Value.str (Str.ofString "mtdf") 708) (Value.ref 311)), (DictEntry.mk (PyData.keyHash P (Str.ofString "halve")) (Value.str (Str.ofString "halve") 720) (Value.ref 318)), (DictEntry.mk (PyData.keyHash P (Str.ofString "_law_mate")) (Value.str (Str.ofString "_law_mate") 724) (Value.int 32000 723)), (DictEntry.mk (PyData.keyHash P (Str.ofString "_law_leaf")) (Value.str (Str.ofString "_law_leaf") 732) (Value.ref 325)), (DictEntry.mk (PyData.keyHash P (Str.ofString "_law_place")) (Value.str (Str.ofString "_law_place") 745) (Value.ref 332)), (DictEntry.mk (PyData.keyHash P (Str.ofString "_law_look")) (Value.str (Str.ofString "_law_look") 752) (Value.ref 339)), (DictEntry.mk (PyData.keyHash P (Str.ofString "_law_infinite")) (Value.str (Str.ofString "_law_infinite") 758) (Value.ref 346)), (DictEntry.mk (PyData.keyHash P (Str.ofString "_law_edge")) (Value.str (Str.ofString "_law_edge") 767) (Value.ref 353)), (DictEntry.mk (PyData.keyHash P (Str.ofString "_law_aspirate")) (Value.str (Str.ofString "_law_aspirate") 778) (Value.ref 360)), (DictEntry.mk (PyData.keyHash P (Str.ofString "_law_closing")) (Value.str (Str.ofString "_law_closing") 789) (Value.ref 367)), (DictEntry.mk (PyData.keyHash P (Str.ofString "_law_halves")) (Value.str (Str.ofString "_law_halves") 800) (Value.ref 374)), (DictEntry.mk (PyData.keyHash P (Str.ofString "_law_heard")) (Value.str (Str.ofString "_law_heard") 809) (Value.ref 381)), (DictEntry.mk (PyData.keyHash P (Str.ofString "law")) (Value.str (Str.ofString "law") 833) (Value.ref 388))]) 66) (List.toArray []))
@[reducible] noncomputable def ob11 (P : Params) : Obj := (Obj.mk (Value.type "tuple") (Option.none) (Data.seq (List.toArray []) 0) (List.toArray []))
@[reducible] noncomputable def ob12 (P : Params) : Obj := (Obj.mk Value.none (Option.none) (Data.fields (List.toArray [(Value.int 7 0), (Value.int 0 0), (Value.ref 20), (Value.int 9 0), (Value.int 0 0), (Value.ref 27), (Value.int 11 0), (Value.int 0 0), (Value.ref 34), (Value.int 17 0), (Value.int 0 0), (Value.ref 41), (Value.int 28 0), (Value.int 0 0), (Value.ref 48), (Value.int 41 0), (Value.int 0 0), (Value.ref 55), (Value.int 46 0), (Value.int 0 0), (Value.ref 75), (Value.int 52 0), (Value.int 0 0), (Value.ref 95), (Value.int 70 0), (Value.int 0 0), (Value.ref 123), (Value.int 73 0), (Value.int 0 0), (Value.ref 130), (Value.int 76 0), (Value.int 0 0), (Value.ref 137), (Value.int 80 0), (Value.int 0 0), (Value.ref 144), (Value.int 82 0), (Value.int 0 0), (Value.ref 151), (Value.int 86 0), (Value.int 0 0), (Value.ref 158), (Value.int 99 0), (Value.int 0 0), (Value.ref 165), (Value.int 103 0), (Value.int 0 0), (Value.ref 172), (Value.int 107 0), (Value.int 0 0), (Value.ref 179), (Value.int 168 0), (Value.int 0 0), (Value.ref 233), (Value.int 175 0), (Value.int 0 0), (Value.ref 240), (Value.int 191 0), (Value.int 0 0), (Value.ref 247), (Value.int 207 0), (Value.int 0 0), (Value.ref 254), (Value.int 237 0), (Value.int 0 0), (Value.ref 261), (Value.int 271 0), (Value.int 0 0), (Value.ref 268), (Value.int 278 0), (Value.int 0 0), (Value.ref 275), (Value.int 288 0), (Value.int 0 0), (Value.ref 282), (Value.int 299 0), (Value.int 0 0), (Value.ref 289), (Value.int 303 0), (Value.int 0 0), (Value.ref 296), (Value.int 307 0), (Value.int 0 0), (Value.ref 303), (Value.int 322 0), (Value.int 0 0), (Value.ref 310), (Value.int 334 0), (Value.int 0 0), (Value.ref 317), (Value.int 345 0), (Value.int 0 0), (Value.ref 324), (Value.int 350 0), (Value.int 0 0), (Value.ref 331), (Value.int 362 0), (Value.int 0 0), (Value.ref 338), (Value.int 367 0), (Value.int 0 0), (Value.ref 345), (Value.int 369 0), (Value.int 0 0), (Value.ref 352), (Value.int 373 0), (Value.int 0 0), (Value.ref 359), (Value.int 386 0), (Value.int 0 0), (Value.ref 366), (Value.int 396 0), (Value.int 0 0), (Value.ref 373), (Value.int 407 0), (Value.int 0 0), (Value.ref 380), (Value.int 412 0), (Value.int 0 0), (Value.ref 387)])) (List.toArray []))
@[reducible] noncomputable def ob13 (P : Params) : Obj := (Obj.mk (Value.type "code") (Option.none) (Data.fields (List.toArray [(Value.str (Str.ofString "<module>") 182), (Value.str (Str.ofString "<module>") 183), (Value.str (Str.ofString "/claim/cut.py") 184), (Value.int 1 0), (Value.int 0 0), (Value.int 0 0), (Value.int 0 0), (Value.int 0 0), (Value.ref 11), (Value.bool Bool.false), (Value.int 181 0), (Value.ref 12), Value.none, Value.none, Value.none, Value.none, (Value.int 185 0), (Value.int 1 0), (Value.str (Str.ofString "/claim/cut.py") 186)])) (List.toArray []))
@[reducible] noncomputable def ob14 (P : Params) : Obj := (Obj.mk (Value.type "frame") (Option.none) Data.plain (List.toArray [(Option.some (Value.ref 13)), (Option.some (Value.ref 3)), (Option.some (Value.ref 3)), (Option.none), (Option.some (Value.str (Str.ofString "__main__") 164)), (Option.none), (Option.some (Value.ref 0))]))
@[reducible] noncomputable def ob15 (P : Params) : Obj := (Obj.mk (Value.type "tuple") (Option.none) (Data.seq (List.toArray []) 0) (List.toArray []))
@[reducible] noncomputable def ob16 (P : Params) : Obj := (Obj.mk Value.none (Option.none) (Data.fields (List.toArray [])) (List.toArray []))
@[reducible] noncomputable def ob17 (P : Params) : Obj := (Obj.mk (Value.type "tuple") (Option.none) (Data.seq (List.toArray [(Value.str (Str.ofString "ply") 202)]) 0) (List.toArray []))
@[reducible] noncomputable def ob18 (P : Params) : Obj := (Obj.mk (Value.type "tuple") (Option.none) (Data.seq (List.toArray []) 0) (List.toArray []))
@[reducible] noncomputable def ob19 (P : Params) : Obj := (Obj.mk Value.none (Option.none) (Data.func (FuncData.mk (Str.ofString "mated_in") (Str.ofString "mated_in") fp19 (FuncBody.stmts fb19) fs19 0 [] Value.none Value.none Value.none Value.none (Option.none) Value.none Value.none 0)) (List.toArray []))
@[reducible] noncomputable def ob20 (P : Params) : Obj := (Obj.mk (Value.type "code") (Option.none) (Data.fields (List.toArray [(Value.str (Str.ofString "mated_in") 199), (Value.str (Str.ofString "mated_in") 200), (Value.str (Str.ofString "/claim/cut.py") 201), (Value.int 7 0), (Value.int 1 0), (Value.int 0 0), (Value.int 0 0), (Value.int 3 0), (Value.ref 15), (Value.bool Bool.true), (Value.int 181 0), (Value.ref 16), Value.none, (Value.ref 17), (Value.ref 18), (Value.ref 19), (Value.int 203 0), (Value.int 7 0), (Value.str (Str.ofString "/claim/cut.py") 204)])) (List.toArray []))
@[reducible] noncomputable def ob21 (P : Params) : Obj := (Obj.mk (Value.type "function") (Option.none) (Data.func (FuncData.mk (Str.ofString "mated_in") (Str.ofString "mated_in") fp21 (FuncBody.stmts fb21) fs21 3 [] Value.none Value.none Value.none (Value.str (Str.ofString "chess.values") 187) (Option.none) (Value.ref 20) Value.none 0)) (List.toArray []))
@[reducible] noncomputable def ob22 (P : Params) : Obj := (Obj.mk (Value.type "tuple") (Option.none) (Data.seq (List.toArray []) 0) (List.toArray []))
@[reducible] noncomputable def ob23 (P : Params) : Obj := (Obj.mk Value.none (Option.none) (Data.fields (List.toArray [])) (List.toArray []))
@[reducible] noncomputable def ob24 (P : Params) : Obj := (Obj.mk (Value.type "tuple") (Option.none) (Data.seq (List.toArray [(Value.str (Str.ofString "ply") 209)]) 0) (List.toArray []))
@[reducible] noncomputable def ob25 (P : Params) : Obj := (Obj.mk (Value.type "tuple") (Option.none) (Data.seq (List.toArray []) 0) (List.toArray []))
@[reducible] noncomputable def ob26 (P : Params) : Obj := (Obj.mk Value.none (Option.none) (Data.func (FuncData.mk (Str.ofString "mate_in") (Str.ofString "mate_in") fp26 (FuncBody.stmts fb26) fs26 0 [] Value.none Value.none Value.none Value.none (Option.none) Value.none Value.none 0)) (List.toArray []))
@[reducible] noncomputable def ob27 (P : Params) : Obj := (Obj.mk (Value.type "code") (Option.none) (Data.fields (List.toArray [(Value.str (Str.ofString "mate_in") 206), (Value.str (Str.ofString "mate_in") 207), (Value.str (Str.ofString "/claim/cut.py") 208), (Value.int 9 0), (Value.int 1 0), (Value.int 0 0), (Value.int 0 0), (Value.int 3 0), (Value.ref 22), (Value.bool Bool.true), (Value.int 181 0), (Value.ref 23), Value.none, (Value.ref 24), (Value.ref 25), (Value.ref 26), (Value.int 210 0), (Value.int 9 0), (Value.str (Str.ofString "/claim/cut.py") 211)])) (List.toArray []))
@[reducible] noncomputable def ob28 (P : Params) : Obj := (Obj.mk (Value.type "function") (Option.none) (Data.func (FuncData.mk (Str.ofString "mate_in") (Str.ofString "mate_in") fp28 (FuncBody.stmts fb28) fs28 3 [] Value.none Value.none Value.none (Value.str (Str.ofString "chess.values") 187) (Option.none) (Value.ref 27) Value.none 0)) (List.toArray []))
@[reducible] noncomputable def ob29 (P : Params) : Obj := (Obj.mk (Value.type "tuple") (Option.none) (Data.seq (List.toArray []) 0) (List.toArray []))
@[reducible] noncomputable def ob30 (P : Params) : Obj := (Obj.mk Value.none (Option.none) (Data.fields (List.toArray [])) (List.toArray []))
@[reducible] noncomputable def ob31 (P : Params) : Obj := (Obj.mk (Value.type "tuple") (Option.none) (Data.seq (List.toArray [(Value.str (Str.ofString "value") 216), (Value.str (Str.ofString "ply") 217)]) 0) (List.toArray []))
@[reducible] noncomputable def ob32 (P : Params) : Obj := (Obj.mk (Value.type "tuple") (Option.none) (Data.seq (List.toArray []) 0) (List.toArray []))
@[reducible] noncomputable def ob33 (P : Params) : Obj := (Obj.mk Value.none (Option.none) (Data.func (FuncData.mk (Str.ofString "to_table") (Str.ofString "to_table") fp33 (FuncBody.stmts fb33) fs33 0 [] Value.none Value.none Value.none Value.none (Option.none) Value.none Value.none 0)) (List.toArray []))
@[reducible] noncomputable def ob34 (P : Params) : Obj := (Obj.mk (Value.type "code") (Option.none) (Data.fields (List.toArray [(Value.str (Str.ofString "to_table") 213), (Value.str (Str.ofString "to_table") 214), (Value.str (Str.ofString "/claim/cut.py") 215), (Value.int 11 0), (Value.int 2 0), (Value.int 0 0), (Value.int 0 0), (Value.int 3 0), (Value.ref 29), (Value.bool Bool.true), (Value.int 181 0), (Value.ref 30), Value.none, (Value.ref 31), (Value.ref 32), (Value.ref 33), (Value.int 218 0), (Value.int 11 0), (Value.str (Str.ofString "/claim/cut.py") 219)])) (List.toArray []))
@[reducible] noncomputable def ob35 (P : Params) : Obj := (Obj.mk (Value.type "function") (Option.none) (Data.func (FuncData.mk (Str.ofString "to_table") (Str.ofString "to_table") fp35 (FuncBody.stmts fb35) fs35 3 [] Value.none Value.none Value.none (Value.str (Str.ofString "chess.values") 187) (Option.none) (Value.ref 34) Value.none 0)) (List.toArray []))
@[reducible] noncomputable def ob36 (P : Params) : Obj := (Obj.mk (Value.type "tuple") (Option.none) (Data.seq (List.toArray []) 0) (List.toArray []))
@[reducible] noncomputable def ob37 (P : Params) : Obj := (Obj.mk Value.none (Option.none) (Data.fields (List.toArray [])) (List.toArray []))
@[reducible] noncomputable def ob38 (P : Params) : Obj := (Obj.mk (Value.type "tuple") (Option.none) (Data.seq (List.toArray [(Value.str (Str.ofString "value") 224), (Value.str (Str.ofString "ply") 225)]) 0) (List.toArray []))
@[reducible] noncomputable def ob39 (P : Params) : Obj := (Obj.mk (Value.type "tuple") (Option.none) (Data.seq (List.toArray []) 0) (List.toArray []))
@[reducible] noncomputable def ob40 (P : Params) : Obj := (Obj.mk Value.none (Option.none) (Data.func (FuncData.mk (Str.ofString "from_table") (Str.ofString "from_table") fp40 (FuncBody.stmts fb40) fs40 0 [] Value.none Value.none Value.none Value.none (Option.none) Value.none Value.none 0)) (List.toArray []))
@[reducible] noncomputable def ob41 (P : Params) : Obj := (Obj.mk (Value.type "code") (Option.none) (Data.fields (List.toArray [(Value.str (Str.ofString "from_table") 221), (Value.str (Str.ofString "from_table") 222), (Value.str (Str.ofString "/claim/cut.py") 223), (Value.int 17 0), (Value.int 2 0), (Value.int 0 0), (Value.int 0 0), (Value.int 3 0), (Value.ref 36), (Value.bool Bool.true), (Value.int 181 0), (Value.ref 37), Value.none, (Value.ref 38), (Value.ref 39), (Value.ref 40), (Value.int 226 0), (Value.int 17 0), (Value.str (Str.ofString "/claim/cut.py") 227)])) (List.toArray []))
@[reducible] noncomputable def ob42 (P : Params) : Obj := (Obj.mk (Value.type "function") (Option.none) (Data.func (FuncData.mk (Str.ofString "from_table") (Str.ofString "from_table") fp42 (FuncBody.stmts fb42) fs42 3 [] Value.none Value.none Value.none (Value.str (Str.ofString "chess.values") 187) (Option.none) (Value.ref 41) Value.none 0)) (List.toArray []))
@[reducible] noncomputable def ob43 (P : Params) : Obj := (Obj.mk (Value.type "tuple") (Option.none) (Data.seq (List.toArray []) 0) (List.toArray []))
@[reducible] noncomputable def ob44 (P : Params) : Obj := (Obj.mk Value.none (Option.none) (Data.fields (List.toArray [])) (List.toArray []))
@[reducible] noncomputable def ob45 (P : Params) : Obj := (Obj.mk (Value.type "tuple") (Option.none) (Data.seq (List.toArray [(Value.str (Str.ofString "value") 242), (Value.str (Str.ofString "depth") 243), (Value.str (Str.ofString "bound") 244), (Value.str (Str.ofString "want") 245), (Value.str (Str.ofString "is_exact") 246), (Value.str (Str.ofString "alpha") 247), (Value.str (Str.ofString "beta") 248)]) 0) (List.toArray []))
@[reducible] noncomputable def ob46 (P : Params) : Obj := (Obj.mk (Value.type "tuple") (Option.none) (Data.seq (List.toArray []) 0) (List.toArray []))
@[reducible] noncomputable def ob47 (P : Params) : Obj := (Obj.mk Value.none (Option.none) (Data.func (FuncData.mk (Str.ofString "cutoff") (Str.ofString "cutoff") fp47 (FuncBody.stmts fb47) fs47 0 [] Value.none Value.none Value.none Value.none (Option.none) Value.none Value.none 0)) (List.toArray []))
@[reducible] noncomputable def ob48 (P : Params) : Obj := (Obj.mk (Value.type "code") (Option.none) (Data.fields (List.toArray [(Value.str (Str.ofString "cutoff") 239), (Value.str (Str.ofString "cutoff") 240), (Value.str (Str.ofString "/claim/cut.py") 241), (Value.int 28 0), (Value.int 7 0), (Value.int 0 0), (Value.int 0 0), (Value.int 3 0), (Value.ref 43), (Value.bool Bool.true), (Value.int 181 0), (Value.ref 44), Value.none, (Value.ref 45), (Value.ref 46), (Value.ref 47), (Value.int 249 0), (Value.int 28 0), (Value.str (Str.ofString "/claim/cut.py") 250)])) (List.toArray []))
@[reducible] noncomputable def ob49 (P : Params) : Obj := (Obj.mk (Value.type "function") (Option.none) (Data.func (FuncData.mk (Str.ofString "cutoff") (Str.ofString "cutoff") fp49 (FuncBody.stmts fb49) fs49 3 [] Value.none Value.none Value.none (Value.str (Str.ofString "chess.alphabeta") 237) (Option.none) (Value.ref 48) Value.none 0)) (List.toArray []))
@[reducible] noncomputable def ob50 (P : Params) : Obj := (Obj.mk (Value.type "tuple") (Option.none) (Data.seq (List.toArray [(Value.type "Exception")]) 0) (List.toArray []))
@[reducible] noncomputable def ob51 (P : Params) : Obj := (Obj.mk (Value.type "builtin_function_or_method") (Option.none) (Data.fields (List.toArray [(Value.builtin "type.__prepare__"), (Value.type "type")])) (List.toArray []))
@[reducible] noncomputable def ob52 (P : Params) : Obj := (Obj.mk (Value.type "dict") (Option.none) (Data.dict (List.toArray [(DictEntry.mk (PyData.keyHash P (Str.ofString "__module__")) (Value.str (Str.ofString "__module__") 261) (Value.str (Str.ofString "chess.errors") 252)), (DictEntry.mk (PyData.keyHash P (Str.ofString "__qualname__")) (Value.str (Str.ofString "__qualname__") 263) (Value.str (Str.ofString "ChessError") 262)), (DictEntry.mk (PyData.keyHash P (Str.ofString "__firstlineno__")) (Value.str (Str.ofString "__firstlineno__") 265) (Value.int 41 264)), (DictEntry.mk (PyData.keyHash P (Str.ofString "__init__")) (Value.str (Str.ofString "__init__") 273) (Value.ref 63)), (DictEntry.mk (PyData.keyHash P (Str.ofString "__static_attributes__")) (Value.str (Str.ofString "__static_attributes__") 275) (Value.ref 64))]) 5) (List.toArray []))
@[reducible] noncomputable def ob53 (P : Params) : Obj := (Obj.mk (Value.type "tuple") (Option.none) (Data.seq (List.toArray []) 0) (List.toArray []))
@[reducible] noncomputable def ob54 (P : Params) : Obj := (Obj.mk Value.none (Option.none) (Data.fields (List.toArray [(Value.int 43 0), (Value.int 4 0), (Value.ref 62)])) (List.toArray []))
@[reducible] noncomputable def ob55 (P : Params) : Obj := (Obj.mk (Value.type "code") (Option.none) (Data.fields (List.toArray [(Value.str (Str.ofString "ChessError") 256), (Value.str (Str.ofString "ChessError") 257), (Value.str (Str.ofString "/claim/cut.py") 258), (Value.int 41 0), (Value.int 0 0), (Value.int 0 0), (Value.int 0 0), (Value.int 0 0), (Value.ref 53), (Value.bool Bool.false), (Value.int 181 0), (Value.ref 54), Value.none, Value.none, Value.none, Value.none, (Value.int 259 0), (Value.int 41 0), (Value.str (Str.ofString "/claim/cut.py") 260)])) (List.toArray []))
@[reducible] noncomputable def ob56 (P : Params) : Obj := (Obj.mk (Value.type "frame") (Option.none) Data.plain (List.toArray [(Option.some (Value.ref 55)), (Option.some (Value.ref 3)), (Option.some (Value.ref 52)), (Option.none), (Option.some (Value.str (Str.ofString "chess.errors") 252)), (Option.none), (Option.some (Value.ref 0))]))
@[reducible] noncomputable def ob57 (P : Params) : Obj := (Obj.mk (Value.type "tuple") (Option.none) (Data.seq (List.toArray []) 0) (List.toArray []))
@[reducible] noncomputable def ob58 (P : Params) : Obj := (Obj.mk Value.none (Option.none) (Data.fields (List.toArray [])) (List.toArray []))
@[reducible] noncomputable def ob59 (P : Params) : Obj := (Obj.mk (Value.type "tuple") (Option.none) (Data.seq (List.toArray [(Value.str (Str.ofString "self") 269), (Value.str (Str.ofString "text") 270)]) 0) (List.toArray []))
@[reducible] noncomputable def ob60 (P : Params) : Obj := (Obj.mk (Value.type "tuple") (Option.none) (Data.seq (List.toArray []) 0) (List.toArray []))
@[reducible] noncomputable def ob61 (P : Params) : Obj := (Obj.mk Value.none (Option.none) (Data.func (FuncData.mk (Str.ofString "__init__") (Str.ofString "ChessError.__init__") fp61 (FuncBody.stmts fb61) fs61 0 [] Value.none Value.none Value.none Value.none (Option.none) Value.none Value.none 0)) (List.toArray []))
@[reducible] noncomputable def ob62 (P : Params) : Obj := (Obj.mk (Value.type "code") (Option.none) (Data.fields (List.toArray [(Value.str (Str.ofString "__init__") 266), (Value.str (Str.ofString "ChessError.__init__") 267), (Value.str (Str.ofString "/claim/cut.py") 268), (Value.int 43 0), (Value.int 2 0), (Value.int 0 0), (Value.int 0 0), (Value.int 3 0), (Value.ref 57), (Value.bool Bool.true), (Value.int 181 0), (Value.ref 58), Value.none, (Value.ref 59), (Value.ref 60), (Value.ref 61), (Value.int 271 0), (Value.int 43 0), (Value.str (Str.ofString "/claim/cut.py") 272)])) (List.toArray []))
@[reducible] noncomputable def ob63 (P : Params) : Obj := (Obj.mk (Value.type "function") (Option.none) (Data.func (FuncData.mk (Str.ofString "__init__") (Str.ofString "ChessError.__init__") fp63 (FuncBody.stmts fb63) fs63 3 [] Value.none Value.none Value.none (Value.str (Str.ofString "chess.errors") 252) (Option.none) (Value.ref 62) Value.none 0)) (List.toArray []))
@[reducible] noncomputable def ob64 (P : Params) : Obj := (Obj.mk (Value.type "tuple") (Option.none) (Data.seq (List.toArray [(Value.str (Str.ofString "text") 274)]) 0) (List.toArray []))
@[reducible] noncomputable def ob65 (P : Params) : Obj := (Obj.mk (Value.type "dict") (Option.none) (Data.dict (List.toArray [(DictEntry.mk (PyData.keyHash P (Str.ofString "__module__")) (Value.str (Str.ofString "__module__") 261) (Value.str (Str.ofString "chess.errors") 252)), (DictEntry.mk (PyData.keyHash P (Str.ofString "__firstlineno__")) (Value.str (Str.ofString "__firstlineno__") 265) (Value.int 41 264)), (DictEntry.mk (PyData.keyHash P (Str.ofString "__init__")) (Value.str (Str.ofString "__init__") 273) (Value.ref 63)), (DictEntry.mk (PyData.keyHash P (Str.ofString "__static_attributes__")) (Value.str (Str.ofString "__static_attributes__") 275) (Value.ref 64)), (DictEntry.mk (PyData.keyHash P (Str.ofString "__weakref__")) (Value.str (Str.ofString "__weakref__") 277) (Value.ref 67)), (DictEntry.mk (PyData.keyHash P (Str.ofString "__doc__")) (Value.str (Str.ofString "__doc__") 278) Value.none)]) 3) (List.toArray []))
@[reducible] noncomputable def ob66 (P : Params) : Obj := (Obj.mk (Value.type "type") (Option.none) (Data.cls (ClassData.mk (Str.ofString "ChessError") [(Value.type "Exception")] [(Value.ref 66), (Value.type "Exception"), (Value.type "BaseException"), (Value.type "object")] 65 (Str.ofString "ChessError") Bool.true [] [(Value.ref 87)] Bool.false (Option.none) Bool.false)) (List.toArray [(Option.some (Value.ref 50)), (Option.none), (Option.some (Value.str (Str.ofString "ChessError") 254)), (Option.some (Value.str (Str.ofString "ChessError") 262)), (Option.some (Value.builtin "Exception.__new__")), (Option.some (Value.bool Bool.true))]))
@[reducible] noncomputable def ob67 (P : Params) : Obj := (Obj.mk (Value.type "getset_descriptor") (Option.none) (Data.fields (List.toArray [(Value.str (Str.ofString "__weakref__") 276), (Value.ref 66), (Value.builtin "ExceptionGroup.__weakref__"), Value.none])) (List.toArray []))
@[reducible] noncomputable def ob68 (P : Params) : Obj := (Obj.mk (Value.type "super") (Option.none) (Data.fields (List.toArray [(Value.ref 66), (Value.ref 66), (Value.ref 66)])) (List.toArray []))
@[reducible] noncomputable def ob69 (P : Params) : Obj := (Obj.mk (Value.type "builtin_function_or_method") (Option.none) (Data.fields (List.toArray [(Value.builtin "object.__init_subclass__"), (Value.ref 66)])) (List.toArray []))
@[reducible] noncomputable def ob70 (P : Params) : Obj := (Obj.mk (Value.type "tuple") (Option.none) (Data.seq (List.toArray [(Value.ref 66)]) 0) (List.toArray []))
@[reducible] noncomputable def ob71 (P : Params) : Obj := (Obj.mk (Value.type "builtin_function_or_method") (Option.none) (Data.fields (List.toArray [(Value.builtin "type.__prepare__"), (Value.type "type")])) (List.toArray []))
@[reducible] noncomputable def ob72 (P : Params) : Obj := (Obj.mk (Value.type "dict") (Option.none) (Data.dict (List.toArray [(DictEntry.mk (PyData.keyHash P (Str.ofString "__module__")) (Value.str (Str.ofString "__module__") 290) (Value.str (Str.ofString "chess.errors") 252)), (DictEntry.mk (PyData.keyHash P (Str.ofString "__qualname__")) (Value.str (Str.ofString "__qualname__") 292) (Value.str (Str.ofString "SearchStopped") 291)), (DictEntry.mk (PyData.keyHash P (Str.ofString "__firstlineno__")) (Value.str (Str.ofString "__firstlineno__") 294) (Value.int 46 293)), (DictEntry.mk (PyData.keyHash P (Str.ofString "__init__")) (Value.str (Str.ofString "__init__") 303) (Value.ref 84)), (DictEntry.mk (PyData.keyHash P (Str.ofString "__static_attributes__")) (Value.str (Str.ofString "__static_attributes__") 305) (Value.ref 85))]) 5) (List.toArray []))
@[reducible] noncomputable def ob73 (P : Params) : Obj := (Obj.mk (Value.type "tuple") (Option.none) (Data.seq (List.toArray []) 0) (List.toArray []))
@[reducible] noncomputable def ob74 (P : Params) : Obj := (Obj.mk Value.none (Option.none) (Data.fields (List.toArray [(Value.int 48 0), (Value.int 4 0), (Value.ref 83)])) (List.toArray []))
@[reducible] noncomputable def ob75 (P : Params) : Obj := (Obj.mk (Value.type "code") (Option.none) (Data.fields (List.toArray [(Value.str (Str.ofString "SearchStopped") 285), (Value.str (Str.ofString "SearchStopped") 286), (Value.str (Str.ofString "/claim/cut.py") 287), (Value.int 46 0), (Value.int 0 0), (Value.int 0 0), (Value.int 0 0), (Value.int 0 0), (Value.ref 73), (Value.bool Bool.false), (Value.int 181 0), (Value.ref 74), Value.none, Value.none, Value.none, Value.none, (Value.int 288 0), (Value.int 46 0), (Value.str (Str.ofString "/claim/cut.py") 289)])) (List.toArray []))
@[reducible] noncomputable def ob76 (P : Params) : Obj := (Obj.mk (Value.type "frame") (Option.none) Data.plain (List.toArray [(Option.some (Value.ref 75)), (Option.some (Value.ref 3)), (Option.some (Value.ref 72)), (Option.none), (Option.some (Value.str (Str.ofString "chess.errors") 252)), (Option.none), (Option.some (Value.ref 0))]))
@[reducible] noncomputable def ob77 (P : Params) : Obj := (Obj.mk (Value.type "tuple") (Option.none) (Data.seq (List.toArray [(Value.int 0 295)]) 0) (List.toArray []))
@[reducible] noncomputable def ob78 (P : Params) : Obj := (Obj.mk (Value.type "tuple") (Option.none) (Data.seq (List.toArray []) 0) (List.toArray []))
@[reducible] noncomputable def ob79 (P : Params) : Obj := (Obj.mk Value.none (Option.none) (Data.fields (List.toArray [])) (List.toArray []))
@[reducible] noncomputable def ob80 (P : Params) : Obj := (Obj.mk (Value.type "tuple") (Option.none) (Data.seq (List.toArray [(Value.str (Str.ofString "self") 299), (Value.str (Str.ofString "nodes") 300)]) 0) (List.toArray []))
@[reducible] noncomputable def ob81 (P : Params) : Obj := (Obj.mk (Value.type "tuple") (Option.none) (Data.seq (List.toArray []) 0) (List.toArray []))
@[reducible] noncomputable def ob82 (P : Params) : Obj := (Obj.mk Value.none (Option.none) (Data.func (FuncData.mk (Str.ofString "__init__") (Str.ofString "SearchStopped.__init__") fp82 (FuncBody.stmts fb82) fs82 0 [] Value.none Value.none Value.none Value.none (Option.none) Value.none Value.none 0)) (List.toArray []))
@[reducible] noncomputable def ob83 (P : Params) : Obj := (Obj.mk (Value.type "code") (Option.none) (Data.fields (List.toArray [(Value.str (Str.ofString "__init__") 296), (Value.str (Str.ofString "SearchStopped.__init__") 297), (Value.str (Str.ofString "/claim/cut.py") 298), (Value.int 48 0), (Value.int 2 0), (Value.int 0 0), (Value.int 0 0), (Value.int 3 0), (Value.ref 78), (Value.bool Bool.true), (Value.int 181 0), (Value.ref 79), Value.none, (Value.ref 80), (Value.ref 81), (Value.ref 82), (Value.int 301 0), (Value.int 48 0), (Value.str (Str.ofString "/claim/cut.py") 302)])) (List.toArray []))
@[reducible] noncomputable def ob84 (P : Params) : Obj := (Obj.mk (Value.type "function") (Option.none) (Data.func (FuncData.mk (Str.ofString "__init__") (Str.ofString "SearchStopped.__init__") fp84 (FuncBody.stmts fb84) fs84 3 [] (Value.ref 77) Value.none Value.none (Value.str (Str.ofString "chess.errors") 252) (Option.none) (Value.ref 83) Value.none 0)) (List.toArray []))
@[reducible] noncomputable def ob85 (P : Params) : Obj := (Obj.mk (Value.type "tuple") (Option.none) (Data.seq (List.toArray [(Value.str (Str.ofString "nodes") 304)]) 0) (List.toArray []))
@[reducible] noncomputable def ob86 (P : Params) : Obj := (Obj.mk (Value.type "dict") (Option.none) (Data.dict (List.toArray [(DictEntry.mk (PyData.keyHash P (Str.ofString "__module__")) (Value.str (Str.ofString "__module__") 290) (Value.str (Str.ofString "chess.errors") 252)), (DictEntry.mk (PyData.keyHash P (Str.ofString "__firstlineno__")) (Value.str (Str.ofString "__firstlineno__") 294) (Value.int 46 293)), (DictEntry.mk (PyData.keyHash P (Str.ofString "__init__")) (Value.str (Str.ofString "__init__") 303) (Value.ref 84)), (DictEntry.mk (PyData.keyHash P (Str.ofString "__static_attributes__")) (Value.str (Str.ofString "__static_attributes__") 305) (Value.ref 85)), (DictEntry.mk (PyData.keyHash P (Str.ofString "__doc__")) (Value.str (Str.ofString "__doc__") 306) Value.none)]) 2) (List.toArray []))
@[reducible] noncomputable def ob87 (P : Params) : Obj := (Obj.mk (Value.type "type") (Option.none) (Data.cls (ClassData.mk (Str.ofString "SearchStopped") [(Value.ref 66)] [(Value.ref 87), (Value.ref 66), (Value.type "Exception"), (Value.type "BaseException"), (Value.type "object")] 86 (Str.ofString "SearchStopped") Bool.true [] [] Bool.false (Option.none) Bool.false)) (List.toArray [(Option.some (Value.ref 70)), (Option.none), (Option.some (Value.str (Str.ofString "SearchStopped") 283)), (Option.some (Value.str (Str.ofString "SearchStopped") 291)), (Option.some (Value.builtin "Exception.__new__")), (Option.some (Value.bool Bool.true))]))
@[reducible] noncomputable def ob88 (P : Params) : Obj := (Obj.mk (Value.type "super") (Option.none) (Data.fields (List.toArray [(Value.ref 87), (Value.ref 87), (Value.ref 87)])) (List.toArray []))
@[reducible] noncomputable def ob89 (P : Params) : Obj := (Obj.mk (Value.type "builtin_function_or_method") (Option.none) (Data.fields (List.toArray [(Value.builtin "object.__init_subclass__"), (Value.ref 87)])) (List.toArray []))
@[reducible] noncomputable def ob90 (P : Params) : Obj := (Obj.mk (Value.type "tuple") (Option.none) (Data.seq (List.toArray []) 0) (List.toArray []))
@[reducible] noncomputable def ob91 (P : Params) : Obj := (Obj.mk (Value.type "builtin_function_or_method") (Option.none) (Data.fields (List.toArray [(Value.builtin "type.__prepare__"), (Value.type "type")])) (List.toArray []))
@[reducible] noncomputable def ob92 (P : Params) : Obj := (Obj.mk (Value.type "dict") (Option.none) (Data.dict (List.toArray [(DictEntry.mk (PyData.keyHash P (Str.ofString "__module__")) (Value.str (Str.ofString "__module__") 318) (Value.str (Str.ofString "chess.context") 309)), (DictEntry.mk (PyData.keyHash P (Str.ofString "__qualname__")) (Value.str (Str.ofString "__qualname__") 320) (Value.str (Str.ofString "SearchContext") 319)), (DictEntry.mk (PyData.keyHash P (Str.ofString "__firstlineno__")) (Value.str (Str.ofString "__firstlineno__") 322) (Value.int 52 321)), (DictEntry.mk (PyData.keyHash P (Str.ofString "__init__")) (Value.str (Str.ofString "__init__") 336) (Value.ref 103)), (DictEntry.mk (PyData.keyHash P (Str.ofString "tick")) (Value.str (Str.ofString "tick") 343) (Value.ref 110)), (DictEntry.mk (PyData.keyHash P (Str.ofString "__static_attributes__")) (Value.str (Str.ofString "__static_attributes__") 354) (Value.ref 111))]) 6) (List.toArray []))
@[reducible] noncomputable def ob93 (P : Params) : Obj := (Obj.mk (Value.type "tuple") (Option.none) (Data.seq (List.toArray []) 0) (List.toArray []))
@[reducible] noncomputable def ob94 (P : Params) : Obj := (Obj.mk Value.none (Option.none) (Data.fields (List.toArray [(Value.int 54 0), (Value.int 4 0), (Value.ref 102), (Value.int 66 0), (Value.int 4 0), (Value.ref 109)])) (List.toArray []))
@[reducible] noncomputable def ob95 (P : Params) : Obj := (Obj.mk (Value.type "code") (Option.none) (Data.fields (List.toArray [(Value.str (Str.ofString "SearchContext") 313), (Value.str (Str.ofString "SearchContext") 314), (Value.str (Str.ofString "/claim/cut.py") 315), (Value.int 52 0), (Value.int 0 0), (Value.int 0 0), (Value.int 0 0), (Value.int 0 0), (Value.ref 93), (Value.bool Bool.false), (Value.int 181 0), (Value.ref 94), Value.none, Value.none, Value.none, Value.none, (Value.int 316 0), (Value.int 52 0), (Value.str (Str.ofString "/claim/cut.py") 317)])) (List.toArray []))
@[reducible] noncomputable def ob96 (P : Params) : Obj := (Obj.mk (Value.type "frame") (Option.none) Data.plain (List.toArray [(Option.some (Value.ref 95)), (Option.some (Value.ref 3)), (Option.some (Value.ref 92)), (Option.none), (Option.some (Value.str (Str.ofString "chess.context") 309)), (Option.none), (Option.some (Value.ref 0))]))
@[reducible] noncomputable def ob97 (P : Params) : Obj := (Obj.mk (Value.type "tuple") (Option.none) (Data.seq (List.toArray []) 0) (List.toArray []))
@[reducible] noncomputable def ob98 (P : Params) : Obj := (Obj.mk Value.none (Option.none) (Data.fields (List.toArray [])) (List.toArray []))
@[reducible] noncomputable def ob99 (P : Params) : Obj := (Obj.mk (Value.type "tuple") (Option.none) (Data.seq (List.toArray [(Value.str (Str.ofString "self") 326), (Value.str (Str.ofString "game") 327), (Value.str (Str.ofString "table") 328), (Value.str (Str.ofString "killers") 329), (Value.str (Str.ofString "history") 330), (Value.str (Str.ofString "qdepth") 331), (Value.str (Str.ofString "is_exact") 332), (Value.str (Str.ofString "max_nodes") 333)]) 0) (List.toArray []))
@[reducible] noncomputable def ob100 (P : Params) : Obj := (Obj.mk (Value.type "tuple") (Option.none) (Data.seq (List.toArray []) 0) (List.toArray []))
@[reducible] noncomputable def ob101 (P : Params) : Obj := (Obj.mk Value.none (Option.none) (Data.func (FuncData.mk (Str.ofString "__init__") (Str.ofString "SearchContext.__init__") fp101 (FuncBody.stmts fb101) fs101 0 [] Value.none Value.none Value.none Value.none (Option.none) Value.none Value.none 0)) (List.toArray []))
@[reducible] noncomputable def ob102 (P : Params) : Obj := (Obj.mk (Value.type "code") (Option.none) (Data.fields (List.toArray [(Value.str (Str.ofString "__init__") 323), (Value.str (Str.ofString "SearchContext.__init__") 324), (Value.str (Str.ofString "/claim/cut.py") 325), (Value.int 54 0), (Value.int 8 0), (Value.int 0 0), (Value.int 0 0), (Value.int 3 0), (Value.ref 97), (Value.bool Bool.true), (Value.int 181 0), (Value.ref 98), Value.none, (Value.ref 99), (Value.ref 100), (Value.ref 101), (Value.int 334 0), (Value.int 54 0), (Value.str (Str.ofString "/claim/cut.py") 335)])) (List.toArray []))
@[reducible] noncomputable def ob103 (P : Params) : Obj := (Obj.mk (Value.type "function") (Option.none) (Data.func (FuncData.mk (Str.ofString "__init__") (Str.ofString "SearchContext.__init__") fp103 (FuncBody.stmts fb103) fs103 3 [] Value.none Value.none Value.none (Value.str (Str.ofString "chess.context") 309) (Option.none) (Value.ref 102) Value.none 0)) (List.toArray []))
@[reducible] noncomputable def ob104 (P : Params) : Obj := (Obj.mk (Value.type "tuple") (Option.none) (Data.seq (List.toArray []) 0) (List.toArray []))
@[reducible] noncomputable def ob105 (P : Params) : Obj := (Obj.mk Value.none (Option.none) (Data.fields (List.toArray [])) (List.toArray []))
@[reducible] noncomputable def ob106 (P : Params) : Obj := (Obj.mk (Value.type "tuple") (Option.none) (Data.seq (List.toArray [(Value.str (Str.ofString "self") 340)]) 0) (List.toArray []))
@[reducible] noncomputable def ob107 (P : Params) : Obj := (Obj.mk (Value.type "tuple") (Option.none) (Data.seq (List.toArray []) 0) (List.toArray []))
@[reducible] noncomputable def ob108 (P : Params) : Obj := (Obj.mk Value.none (Option.none) (Data.func (FuncData.mk (Str.ofString "tick") (Str.ofString "SearchContext.tick") fp108 (FuncBody.stmts fb108) fs108 0 [] Value.none Value.none Value.none Value.none (Option.none) Value.none Value.none 0)) (List.toArray []))
@[reducible] noncomputable def ob109 (P : Params) : Obj := (Obj.mk (Value.type "code") (Option.none) (Data.fields (List.toArray [(Value.str (Str.ofString "tick") 337), (Value.str (Str.ofString "SearchContext.tick") 338), (Value.str (Str.ofString "/claim/cut.py") 339), (Value.int 66 0), (Value.int 1 0), (Value.int 0 0), (Value.int 0 0), (Value.int 3 0), (Value.ref 104), (Value.bool Bool.true), (Value.int 181 0), (Value.ref 105), Value.none, (Value.ref 106), (Value.ref 107), (Value.ref 108), (Value.int 341 0), (Value.int 66 0), (Value.str (Str.ofString "/claim/cut.py") 342)])) (List.toArray []))
@[reducible] noncomputable def ob110 (P : Params) : Obj := (Obj.mk (Value.type "function") (Option.none) (Data.func (FuncData.mk (Str.ofString "tick") (Str.ofString "SearchContext.tick") fp110 (FuncBody.stmts fb110) fs110 3 [] Value.none Value.none Value.none (Value.str (Str.ofString "chess.context") 309) (Option.none) (Value.ref 109) Value.none 0)) (List.toArray []))
@[reducible] noncomputable def ob111 (P : Params) : Obj := (Obj.mk (Value.type "tuple") (Option.none) (Data.seq (List.toArray [(Value.str (Str.ofString "game") 344), (Value.str (Str.ofString "history") 345), (Value.str (Str.ofString "is_exact") 346), (Value.str (Str.ofString "killers") 347), (Value.str (Str.ofString "lines") 348), (Value.str (Str.ofString "made") 349), (Value.str (Str.ofString "max_nodes") 350), (Value.str (Str.ofString "nodes") 351), (Value.str (Str.ofString "qdepth") 352), (Value.str (Str.ofString "table") 353)]) 0) (List.toArray []))
@[reducible] noncomputable def ob112 (P : Params) : Obj := (Obj.mk (Value.type "dict") (Option.none) (Data.dict (List.toArray [(DictEntry.mk (PyData.keyHash P (Str.ofString "__module__")) (Value.str (Str.ofString "__module__") 318) (Value.str (Str.ofString "chess.context") 309)), (DictEntry.mk (PyData.keyHash P (Str.ofString "__firstlineno__")) (Value.str (Str.ofString "__firstlineno__") 322) (Value.int 52 321)), (DictEntry.mk (PyData.keyHash P (Str.ofString "__init__")) (Value.str (Str.ofString "__init__") 336) (Value.ref 103)), (DictEntry.mk (PyData.keyHash P (Str.ofString "tick")) (Value.str (Str.ofString "tick") 343) (Value.ref 110)), (DictEntry.mk (PyData.keyHash P (Str.ofString "__static_attributes__")) (Value.str (Str.ofString "__static_attributes__") 354) (Value.ref 111)), (DictEntry.mk (PyData.keyHash P (Str.ofString "__dict__")) (Value.str (Str.ofString "__dict__") 356) (Value.ref 114)), (DictEntry.mk (PyData.keyHash P (Str.ofString "__weakref__")) (Value.str (Str.ofString "__weakref__") 358) (Value.ref 115)), (DictEntry.mk (PyData.keyHash P (Str.ofString "__doc__")) (Value.str (Str.ofString "__doc__") 359) Value.none)]) 4) (List.toArray []))
@[reducible] noncomputable def ob113 (P : Params) : Obj := (Obj.mk (Value.type "type") (Option.none) (Data.cls (ClassData.mk (Str.ofString "SearchContext") [(Value.type "object")] [(Value.ref 113), (Value.type "object")] 112 (Str.ofString "SearchContext") Bool.true [] [] Bool.false (Option.none) Bool.false)) (List.toArray [(Option.none), (Option.none), (Option.some (Value.str (Str.ofString "SearchContext") 311)), (Option.some (Value.str (Str.ofString "SearchContext") 319)), (Option.some (Value.builtin "object.__new__")), (Option.some (Value.bool Bool.true))]))
@[reducible] noncomputable def ob114 (P : Params) : Obj := (Obj.mk (Value.type "getset_descriptor") (Option.none) (Data.fields (List.toArray [(Value.str (Str.ofString "__dict__") 355), (Value.ref 113), (Value.builtin "function.__dict__"), (Value.builtin "function.__dict__#set")])) (List.toArray []))
@[reducible] noncomputable def ob115 (P : Params) : Obj := (Obj.mk (Value.type "getset_descriptor") (Option.none) (Data.fields (List.toArray [(Value.str (Str.ofString "__weakref__") 357), (Value.ref 113), (Value.builtin "ExceptionGroup.__weakref__"), Value.none])) (List.toArray []))
@[reducible] noncomputable def ob116 (P : Params) : Obj := (Obj.mk (Value.type "super") (Option.none) (Data.fields (List.toArray [(Value.ref 113), (Value.ref 113), (Value.ref 113)])) (List.toArray []))
@[reducible] noncomputable def ob117 (P : Params) : Obj := (Obj.mk (Value.type "builtin_function_or_method") (Option.none) (Data.fields (List.toArray [(Value.builtin "object.__init_subclass__"), (Value.ref 113)])) (List.toArray []))
@[reducible] noncomputable def ob118 (P : Params) : Obj := (Obj.mk (Value.type "tuple") (Option.none) (Data.seq (List.toArray []) 0) (List.toArray []))
@[reducible] noncomputable def ob119 (P : Params) : Obj := (Obj.mk Value.none (Option.none) (Data.fields (List.toArray [])) (List.toArray []))
@[reducible] noncomputable def ob120 (P : Params) : Obj := (Obj.mk (Value.type "tuple") (Option.none) (Data.seq (List.toArray [(Value.str (Str.ofString "ctx") 365), (Value.str (Str.ofString "move") 366)]) 0) (List.toArray []))
@[reducible] noncomputable def ob121 (P : Params) : Obj := (Obj.mk (Value.type "tuple") (Option.none) (Data.seq (List.toArray []) 0) (List.toArray []))
@[reducible] noncomputable def ob122 (P : Params) : Obj := (Obj.mk Value.none (Option.none) (Data.func (FuncData.mk (Str.ofString "step_into") (Str.ofString "step_into") fp122 (FuncBody.stmts fb122) fs122 0 [] Value.none Value.none Value.none Value.none (Option.none) Value.none Value.none 0)) (List.toArray []))
@[reducible] noncomputable def ob123 (P : Params) : Obj := (Obj.mk (Value.type "code") (Option.none) (Data.fields (List.toArray [(Value.str (Str.ofString "step_into") 362), (Value.str (Str.ofString "step_into") 363), (Value.str (Str.ofString "/claim/cut.py") 364), (Value.int 70 0), (Value.int 2 0), (Value.int 0 0), (Value.int 0 0), (Value.int 3 0), (Value.ref 118), (Value.bool Bool.true), (Value.int 181 0), (Value.ref 119), Value.none, (Value.ref 120), (Value.ref 121), (Value.ref 122), (Value.int 367 0), (Value.int 70 0), (Value.str (Str.ofString "/claim/cut.py") 368)])) (List.toArray []))
@[reducible] noncomputable def ob124 (P : Params) : Obj := (Obj.mk (Value.type "function") (Option.none) (Data.func (FuncData.mk (Str.ofString "step_into") (Str.ofString "step_into") fp124 (FuncBody.stmts fb124) fs124 3 [] Value.none Value.none Value.none (Value.str (Str.ofString "chess.context") 309) (Option.none) (Value.ref 123) Value.none 0)) (List.toArray []))
@[reducible] noncomputable def ob125 (P : Params) : Obj := (Obj.mk (Value.type "tuple") (Option.none) (Data.seq (List.toArray []) 0) (List.toArray []))
@[reducible] noncomputable def ob126 (P : Params) : Obj := (Obj.mk Value.none (Option.none) (Data.fields (List.toArray [])) (List.toArray []))
@[reducible] noncomputable def ob127 (P : Params) : Obj := (Obj.mk (Value.type "tuple") (Option.none) (Data.seq (List.toArray [(Value.str (Str.ofString "ctx") 373)]) 0) (List.toArray []))
@[reducible] noncomputable def ob128 (P : Params) : Obj := (Obj.mk (Value.type "tuple") (Option.none) (Data.seq (List.toArray []) 0) (List.toArray []))
@[reducible] noncomputable def ob129 (P : Params) : Obj := (Obj.mk Value.none (Option.none) (Data.func (FuncData.mk (Str.ofString "step_back") (Str.ofString "step_back") fp129 (FuncBody.stmts fb129) fs129 0 [] Value.none Value.none Value.none Value.none (Option.none) Value.none Value.none 0)) (List.toArray []))
@[reducible] noncomputable def ob130 (P : Params) : Obj := (Obj.mk (Value.type "code") (Option.none) (Data.fields (List.toArray [(Value.str (Str.ofString "step_back") 370), (Value.str (Str.ofString "step_back") 371), (Value.str (Str.ofString "/claim/cut.py") 372), (Value.int 73 0), (Value.int 1 0), (Value.int 0 0), (Value.int 0 0), (Value.int 3 0), (Value.ref 125), (Value.bool Bool.true), (Value.int 181 0), (Value.ref 126), Value.none, (Value.ref 127), (Value.ref 128), (Value.ref 129), (Value.int 374 0), (Value.int 73 0), (Value.str (Str.ofString "/claim/cut.py") 375)])) (List.toArray []))
@[reducible] noncomputable def ob131 (P : Params) : Obj := (Obj.mk (Value.type "function") (Option.none) (Data.func (FuncData.mk (Str.ofString "step_back") (Str.ofString "step_back") fp131 (FuncBody.stmts fb131) fs131 3 [] Value.none Value.none Value.none (Value.str (Str.ofString "chess.context") 309) (Option.none) (Value.ref 130) Value.none 0)) (List.toArray []))
@[reducible] noncomputable def ob132 (P : Params) : Obj := (Obj.mk (Value.type "tuple") (Option.none) (Data.seq (List.toArray []) 0) (List.toArray []))
@[reducible] noncomputable def ob133 (P : Params) : Obj := (Obj.mk Value.none (Option.none) (Data.fields (List.toArray [])) (List.toArray []))
@[reducible] noncomputable def ob134 (P : Params) : Obj := (Obj.mk (Value.type "tuple") (Option.none) (Data.seq (List.toArray [(Value.str (Str.ofString "ctx") 380), (Value.str (Str.ofString "ply") 381)]) 0) (List.toArray []))
@[reducible] noncomputable def ob135 (P : Params) : Obj := (Obj.mk (Value.type "tuple") (Option.none) (Data.seq (List.toArray []) 0) (List.toArray []))
@[reducible] noncomputable def ob136 (P : Params) : Obj := (Obj.mk Value.none (Option.none) (Data.func (FuncData.mk (Str.ofString "clear_line") (Str.ofString "clear_line") fp136 (FuncBody.stmts fb136) fs136 0 [] Value.none Value.none Value.none Value.none (Option.none) Value.none Value.none 0)) (List.toArray []))
@[reducible] noncomputable def ob137 (P : Params) : Obj := (Obj.mk (Value.type "code") (Option.none) (Data.fields (List.toArray [(Value.str (Str.ofString "clear_line") 377), (Value.str (Str.ofString "clear_line") 378), (Value.str (Str.ofString "/claim/cut.py") 379), (Value.int 76 0), (Value.int 2 0), (Value.int 0 0), (Value.int 0 0), (Value.int 3 0), (Value.ref 132), (Value.bool Bool.true), (Value.int 181 0), (Value.ref 133), Value.none, (Value.ref 134), (Value.ref 135), (Value.ref 136), (Value.int 382 0), (Value.int 76 0), (Value.str (Str.ofString "/claim/cut.py") 383)])) (List.toArray []))
@[reducible] noncomputable def ob138 (P : Params) : Obj := (Obj.mk (Value.type "function") (Option.none) (Data.func (FuncData.mk (Str.ofString "clear_line") (Str.ofString "clear_line") fp138 (FuncBody.stmts fb138) fs138 3 [] Value.none Value.none Value.none (Value.str (Str.ofString "chess.context") 309) (Option.none) (Value.ref 137) Value.none 0)) (List.toArray []))
@[reducible] noncomputable def ob139 (P : Params) : Obj := (Obj.mk (Value.type "tuple") (Option.none) (Data.seq (List.toArray []) 0) (List.toArray []))
@[reducible] noncomputable def ob140 (P : Params) : Obj := (Obj.mk Value.none (Option.none) (Data.fields (List.toArray [])) (List.toArray []))
@[reducible] noncomputable def ob141 (P : Params) : Obj := (Obj.mk (Value.type "tuple") (Option.none) (Data.seq (List.toArray [(Value.str (Str.ofString "ctx") 388), (Value.str (Str.ofString "ply") 389), (Value.str (Str.ofString "move") 390)]) 0) (List.toArray []))
@[reducible] noncomputable def ob142 (P : Params) : Obj := (Obj.mk (Value.type "tuple") (Option.none) (Data.seq (List.toArray []) 0) (List.toArray []))
@[reducible] noncomputable def ob143 (P : Params) : Obj := (Obj.mk Value.none (Option.none) (Data.func (FuncData.mk (Str.ofString "set_line") (Str.ofString "set_line") fp143 (FuncBody.stmts fb143) fs143 0 [] Value.none Value.none Value.none Value.none (Option.none) Value.none Value.none 0)) (List.toArray []))
@[reducible] noncomputable def ob144 (P : Params) : Obj := (Obj.mk (Value.type "code") (Option.none) (Data.fields (List.toArray [(Value.str (Str.ofString "set_line") 385), (Value.str (Str.ofString "set_line") 386), (Value.str (Str.ofString "/claim/cut.py") 387), (Value.int 80 0), (Value.int 3 0), (Value.int 0 0), (Value.int 0 0), (Value.int 3 0), (Value.ref 139), (Value.bool Bool.true), (Value.int 181 0), (Value.ref 140), Value.none, (Value.ref 141), (Value.ref 142), (Value.ref 143), (Value.int 391 0), (Value.int 80 0), (Value.str (Str.ofString "/claim/cut.py") 392)])) (List.toArray []))
@[reducible] noncomputable def ob145 (P : Params) : Obj := (Obj.mk (Value.type "function") (Option.none) (Data.func (FuncData.mk (Str.ofString "set_line") (Str.ofString "set_line") fp145 (FuncBody.stmts fb145) fs145 3 [] Value.none Value.none Value.none (Value.str (Str.ofString "chess.context") 309) (Option.none) (Value.ref 144) Value.none 0)) (List.toArray []))
@[reducible] noncomputable def ob146 (P : Params) : Obj := (Obj.mk (Value.type "tuple") (Option.none) (Data.seq (List.toArray []) 0) (List.toArray []))
@[reducible] noncomputable def ob147 (P : Params) : Obj := (Obj.mk Value.none (Option.none) (Data.fields (List.toArray [])) (List.toArray []))
@[reducible] noncomputable def ob148 (P : Params) : Obj := (Obj.mk (Value.type "tuple") (Option.none) (Data.seq (List.toArray [(Value.str (Str.ofString "ctx") 397), (Value.str (Str.ofString "max_nodes") 398)]) 0) (List.toArray []))
@[reducible] noncomputable def ob149 (P : Params) : Obj := (Obj.mk (Value.type "tuple") (Option.none) (Data.seq (List.toArray []) 0) (List.toArray []))
@[reducible] noncomputable def ob150 (P : Params) : Obj := (Obj.mk Value.none (Option.none) (Data.func (FuncData.mk (Str.ofString "start_count") (Str.ofString "start_count") fp150 (FuncBody.stmts fb150) fs150 0 [] Value.none Value.none Value.none Value.none (Option.none) Value.none Value.none 0)) (List.toArray []))
@[reducible] noncomputable def ob151 (P : Params) : Obj := (Obj.mk (Value.type "code") (Option.none) (Data.fields (List.toArray [(Value.str (Str.ofString "start_count") 394), (Value.str (Str.ofString "start_count") 395), (Value.str (Str.ofString "/claim/cut.py") 396), (Value.int 82 0), (Value.int 2 0), (Value.int 0 0), (Value.int 0 0), (Value.int 3 0), (Value.ref 146), (Value.bool Bool.true), (Value.int 181 0), (Value.ref 147), Value.none, (Value.ref 148), (Value.ref 149), (Value.ref 150), (Value.int 399 0), (Value.int 82 0), (Value.str (Str.ofString "/claim/cut.py") 400)])) (List.toArray []))
@[reducible] noncomputable def ob152 (P : Params) : Obj := (Obj.mk (Value.type "function") (Option.none) (Data.func (FuncData.mk (Str.ofString "start_count") (Str.ofString "start_count") fp152 (FuncBody.stmts fb152) fs152 3 [] Value.none Value.none Value.none (Value.str (Str.ofString "chess.context") 309) (Option.none) (Value.ref 151) Value.none 0)) (List.toArray []))
@[reducible] noncomputable def ob153 (P : Params) : Obj := (Obj.mk (Value.type "tuple") (Option.none) (Data.seq (List.toArray []) 0) (List.toArray []))
@[reducible] noncomputable def ob154 (P : Params) : Obj := (Obj.mk Value.none (Option.none) (Data.fields (List.toArray [])) (List.toArray []))
@[reducible] noncomputable def ob155 (P : Params) : Obj := (Obj.mk (Value.type "tuple") (Option.none) (Data.seq (List.toArray [(Value.str (Str.ofString "history") 407), (Value.str (Str.ofString "killers") 408), (Value.str (Str.ofString "side") 409), (Value.str (Str.ofString "ply") 410), (Value.str (Str.ofString "depth") 411), (Value.str (Str.ofString "best") 412), (Value.str (Str.ofString "tried") 413), (Value.str (Str.ofString "bonus") 414), (Value.str (Str.ofString "move") 415)]) 0) (List.toArray []))
@[reducible] noncomputable def ob156 (P : Params) : Obj := (Obj.mk (Value.type "tuple") (Option.none) (Data.seq (List.toArray []) 0) (List.toArray []))
@[reducible] noncomputable def ob157 (P : Params) : Obj := (Obj.mk Value.none (Option.none) (Data.func (FuncData.mk (Str.ofString "reward") (Str.ofString "reward") fp157 (FuncBody.stmts fb157) fs157 0 [] Value.none Value.none Value.none Value.none (Option.none) Value.none Value.none 0)) (List.toArray []))
@[reducible] noncomputable def ob158 (P : Params) : Obj := (Obj.mk (Value.type "code") (Option.none) (Data.fields (List.toArray [(Value.str (Str.ofString "reward") 404), (Value.str (Str.ofString "reward") 405), (Value.str (Str.ofString "/claim/cut.py") 406), (Value.int 86 0), (Value.int 7 0), (Value.int 0 0), (Value.int 0 0), (Value.int 3 0), (Value.ref 153), (Value.bool Bool.true), (Value.int 181 0), (Value.ref 154), Value.none, (Value.ref 155), (Value.ref 156), (Value.ref 157), (Value.int 416 0), (Value.int 86 0), (Value.str (Str.ofString "/claim/cut.py") 417)])) (List.toArray []))
@[reducible] noncomputable def ob159 (P : Params) : Obj := (Obj.mk (Value.type "function") (Option.none) (Data.func (FuncData.mk (Str.ofString "reward") (Str.ofString "reward") fp159 (FuncBody.stmts fb159) fs159 3 [] Value.none Value.none Value.none (Value.str (Str.ofString "chess.history") 402) (Option.none) (Value.ref 158) Value.none 0)) (List.toArray []))
@[reducible] noncomputable def ob160 (P : Params) : Obj := (Obj.mk (Value.type "tuple") (Option.none) (Data.seq (List.toArray []) 0) (List.toArray []))
@[reducible] noncomputable def ob161 (P : Params) : Obj := (Obj.mk Value.none (Option.none) (Data.fields (List.toArray [])) (List.toArray []))
@[reducible] noncomputable def ob162 (P : Params) : Obj := (Obj.mk (Value.type "tuple") (Option.none) (Data.seq (List.toArray [(Value.str (Str.ofString "killers") 434), (Value.str (Str.ofString "ply") 435)]) 0) (List.toArray []))
@[reducible] noncomputable def ob163 (P : Params) : Obj := (Obj.mk (Value.type "tuple") (Option.none) (Data.seq (List.toArray []) 0) (List.toArray []))
@[reducible] noncomputable def ob164 (P : Params) : Obj := (Obj.mk Value.none (Option.none) (Data.func (FuncData.mk (Str.ofString "killer_pair") (Str.ofString "killer_pair") fp164 (FuncBody.stmts fb164) fs164 0 [] Value.none Value.none Value.none Value.none (Option.none) Value.none Value.none 0)) (List.toArray []))
@[reducible] noncomputable def ob165 (P : Params) : Obj := (Obj.mk (Value.type "code") (Option.none) (Data.fields (List.toArray [(Value.str (Str.ofString "killer_pair") 431), (Value.str (Str.ofString "killer_pair") 432), (Value.str (Str.ofString "/claim/cut.py") 433), (Value.int 99 0), (Value.int 2 0), (Value.int 0 0), (Value.int 0 0), (Value.int 3 0), (Value.ref 160), (Value.bool Bool.true), (Value.int 181 0), (Value.ref 161), Value.none, (Value.ref 162), (Value.ref 163), (Value.ref 164), (Value.int 436 0), (Value.int 99 0), (Value.str (Str.ofString "/claim/cut.py") 437)])) (List.toArray []))
@[reducible] noncomputable def ob166 (P : Params) : Obj := (Obj.mk (Value.type "function") (Option.none) (Data.func (FuncData.mk (Str.ofString "killer_pair") (Str.ofString "killer_pair") fp166 (FuncBody.stmts fb166) fs166 3 [] Value.none Value.none Value.none (Value.str (Str.ofString "chess.picker") 419) (Option.none) (Value.ref 165) Value.none 0)) (List.toArray []))
@[reducible] noncomputable def ob167 (P : Params) : Obj := (Obj.mk (Value.type "tuple") (Option.none) (Data.seq (List.toArray []) 0) (List.toArray []))
@[reducible] noncomputable def ob168 (P : Params) : Obj := (Obj.mk Value.none (Option.none) (Data.fields (List.toArray [])) (List.toArray []))
@[reducible] noncomputable def ob169 (P : Params) : Obj := (Obj.mk (Value.type "tuple") (Option.none) (Data.seq (List.toArray [(Value.str (Str.ofString "history") 442), (Value.str (Str.ofString "side") 443), (Value.str (Str.ofString "move") 444)]) 0) (List.toArray []))
@[reducible] noncomputable def ob170 (P : Params) : Obj := (Obj.mk (Value.type "tuple") (Option.none) (Data.seq (List.toArray []) 0) (List.toArray []))
@[reducible] noncomputable def ob171 (P : Params) : Obj := (Obj.mk Value.none (Option.none) (Data.func (FuncData.mk (Str.ofString "past_score") (Str.ofString "past_score") fp171 (FuncBody.stmts fb171) fs171 0 [] Value.none Value.none Value.none Value.none (Option.none) Value.none Value.none 0)) (List.toArray []))
@[reducible] noncomputable def ob172 (P : Params) : Obj := (Obj.mk (Value.type "code") (Option.none) (Data.fields (List.toArray [(Value.str (Str.ofString "past_score") 439), (Value.str (Str.ofString "past_score") 440), (Value.str (Str.ofString "/claim/cut.py") 441), (Value.int 103 0), (Value.int 3 0), (Value.int 0 0), (Value.int 0 0), (Value.int 3 0), (Value.ref 167), (Value.bool Bool.true), (Value.int 181 0), (Value.ref 168), Value.none, (Value.ref 169), (Value.ref 170), (Value.ref 171), (Value.int 445 0), (Value.int 103 0), (Value.str (Str.ofString "/claim/cut.py") 446)])) (List.toArray []))
@[reducible] noncomputable def ob173 (P : Params) : Obj := (Obj.mk (Value.type "function") (Option.none) (Data.func (FuncData.mk (Str.ofString "past_score") (Str.ofString "past_score") fp173 (FuncBody.stmts fb173) fs173 3 [] Value.none Value.none Value.none (Value.str (Str.ofString "chess.picker") 419) (Option.none) (Value.ref 172) Value.none 0)) (List.toArray []))
@[reducible] noncomputable def ob174 (P : Params) : Obj := (Obj.mk (Value.type "tuple") (Option.none) (Data.seq (List.toArray []) 0) (List.toArray []))
@[reducible] noncomputable def ob175 (P : Params) : Obj := (Obj.mk (Value.type "builtin_function_or_method") (Option.none) (Data.fields (List.toArray [(Value.builtin "type.__prepare__"), (Value.type "type")])) (List.toArray []))
@[reducible] noncomputable def ob176 (P : Params) : Obj := (Obj.mk (Value.type "dict") (Option.none) (Data.dict (List.toArray [(DictEntry.mk (PyData.keyHash P (Str.ofString "__module__")) (Value.str (Str.ofString "__module__") 455) (Value.str (Str.ofString "chess.picker") 419)), (DictEntry.mk (PyData.keyHash P (Str.ofString "__qualname__")) (Value.str (Str.ofString "__qualname__") 457) (Value.str (Str.ofString "Picker") 456)), (DictEntry.mk (PyData.keyHash P (Str.ofString "__firstlineno__")) (Value.str (Str.ofString "__firstlineno__") 459) (Value.int 107 458)), (DictEntry.mk (PyData.keyHash P (Str.ofString "__init__")) (Value.str (Str.ofString "__init__") 472) (Value.ref 187)), (DictEntry.mk (PyData.keyHash P (Str.ofString "next")) (Value.str (Str.ofString "next") 479) (Value.ref 194)), (DictEntry.mk (PyData.keyHash P (Str.ofString "fill")) (Value.str (Str.ofString "fill") 485) (Value.ref 199)), (DictEntry.mk (PyData.keyHash P (Str.ofString "fill_table")) (Value.str (Str.ofString "fill_table") 492) (Value.ref 206)), (DictEntry.mk (PyData.keyHash P (Str.ofString "fill_good")) (Value.str (Str.ofString "fill_good") 503) (Value.ref 213)), (DictEntry.mk (PyData.keyHash P (Str.ofString "fill_killers")) (Value.str (Str.ofString "fill_killers") 512) (Value.ref 220)), (DictEntry.mk (PyData.keyHash P (Str.ofString "__static_attributes__")) (Value.str (Str.ofString "__static_attributes__") 522) (Value.ref 221))]) 10) (List.toArray []))
@[reducible] noncomputable def ob177 (P : Params) : Obj := (Obj.mk (Value.type "tuple") (Option.none) (Data.seq (List.toArray []) 0) (List.toArray []))
@[reducible] noncomputable def ob178 (P : Params) : Obj := (Obj.mk Value.none (Option.none) (Data.fields (List.toArray [(Value.int 109 0), (Value.int 4 0), (Value.ref 186), (Value.int 120 0), (Value.int 4 0), (Value.ref 193), (Value.int 128 0), (Value.int 4 0), (Value.ref 198), (Value.int 140 0), (Value.int 4 0), (Value.ref 205), (Value.int 146 0), (Value.int 4 0), (Value.ref 212), (Value.int 161 0), (Value.int 4 0), (Value.ref 219)])) (List.toArray []))
@[reducible] noncomputable def ob179 (P : Params) : Obj := (Obj.mk (Value.type "code") (Option.none) (Data.fields (List.toArray [(Value.str (Str.ofString "Picker") 450), (Value.str (Str.ofString "Picker") 451), (Value.str (Str.ofString "/claim/cut.py") 452), (Value.int 107 0), (Value.int 0 0), (Value.int 0 0), (Value.int 0 0), (Value.int 0 0), (Value.ref 177), (Value.bool Bool.false), (Value.int 181 0), (Value.ref 178), Value.none, Value.none, Value.none, Value.none, (Value.int 453 0), (Value.int 107 0), (Value.str (Str.ofString "/claim/cut.py") 454)])) (List.toArray []))
@[reducible] noncomputable def ob180 (P : Params) : Obj := (Obj.mk (Value.type "frame") (Option.none) Data.plain (List.toArray [(Option.some (Value.ref 179)), (Option.some (Value.ref 3)), (Option.some (Value.ref 176)), (Option.none), (Option.some (Value.str (Str.ofString "chess.picker") 419)), (Option.none), (Option.some (Value.ref 0))]))
@[reducible] noncomputable def ob181 (P : Params) : Obj := (Obj.mk (Value.type "tuple") (Option.none) (Data.seq (List.toArray []) 0) (List.toArray []))
@[reducible] noncomputable def ob182 (P : Params) : Obj := (Obj.mk Value.none (Option.none) (Data.fields (List.toArray [])) (List.toArray []))
@[reducible] noncomputable def ob183 (P : Params) : Obj := (Obj.mk (Value.type "tuple") (Option.none) (Data.seq (List.toArray [(Value.str (Str.ofString "self") 463), (Value.str (Str.ofString "game") 464), (Value.str (Str.ofString "moves") 465), (Value.str (Str.ofString "table_move") 466), (Value.str (Str.ofString "killers") 467), (Value.str (Str.ofString "history") 468), (Value.str (Str.ofString "ply") 469)]) 0) (List.toArray []))
@[reducible] noncomputable def ob184 (P : Params) : Obj := (Obj.mk (Value.type "tuple") (Option.none) (Data.seq (List.toArray []) 0) (List.toArray []))
@[reducible] noncomputable def ob185 (P : Params) : Obj := (Obj.mk Value.none (Option.none) (Data.func (FuncData.mk (Str.ofString "__init__") (Str.ofString "Picker.__init__") fp185 (FuncBody.stmts fb185) fs185 0 [] Value.none Value.none Value.none Value.none (Option.none) Value.none Value.none 0)) (List.toArray []))
@[reducible] noncomputable def ob186 (P : Params) : Obj := (Obj.mk (Value.type "code") (Option.none) (Data.fields (List.toArray [(Value.str (Str.ofString "__init__") 460), (Value.str (Str.ofString "Picker.__init__") 461), (Value.str (Str.ofString "/claim/cut.py") 462), (Value.int 109 0), (Value.int 7 0), (Value.int 0 0), (Value.int 0 0), (Value.int 3 0), (Value.ref 181), (Value.bool Bool.true), (Value.int 181 0), (Value.ref 182), Value.none, (Value.ref 183), (Value.ref 184), (Value.ref 185), (Value.int 470 0), (Value.int 109 0), (Value.str (Str.ofString "/claim/cut.py") 471)])) (List.toArray []))
@[reducible] noncomputable def ob187 (P : Params) : Obj := (Obj.mk (Value.type "function") (Option.none) (Data.func (FuncData.mk (Str.ofString "__init__") (Str.ofString "Picker.__init__") fp187 (FuncBody.stmts fb187) fs187 3 [] Value.none Value.none Value.none (Value.str (Str.ofString "chess.picker") 419) (Option.none) (Value.ref 186) Value.none 0)) (List.toArray []))
@[reducible] noncomputable def ob188 (P : Params) : Obj := (Obj.mk (Value.type "tuple") (Option.none) (Data.seq (List.toArray []) 0) (List.toArray []))
@[reducible] noncomputable def ob189 (P : Params) : Obj := (Obj.mk Value.none (Option.none) (Data.fields (List.toArray [])) (List.toArray []))
@[reducible] noncomputable def ob190 (P : Params) : Obj := (Obj.mk (Value.type "tuple") (Option.none) (Data.seq (List.toArray [(Value.str (Str.ofString "self") 476)]) 0) (List.toArray []))
@[reducible] noncomputable def ob191 (P : Params) : Obj := (Obj.mk (Value.type "tuple") (Option.none) (Data.seq (List.toArray []) 0) (List.toArray []))
@[reducible] noncomputable def ob192 (P : Params) : Obj := (Obj.mk Value.none (Option.none) (Data.func (FuncData.mk (Str.ofString "next") (Str.ofString "Picker.next") fp192 (FuncBody.stmts fb192) fs192 0 [] Value.none Value.none Value.none Value.none (Option.none) Value.none Value.none 0)) (List.toArray []))
@[reducible] noncomputable def ob193 (P : Params) : Obj := (Obj.mk (Value.type "code") (Option.none) (Data.fields (List.toArray [(Value.str (Str.ofString "next") 473), (Value.str (Str.ofString "Picker.next") 474), (Value.str (Str.ofString "/claim/cut.py") 475), (Value.int 120 0), (Value.int 1 0), (Value.int 0 0), (Value.int 0 0), (Value.int 3 0), (Value.ref 188), (Value.bool Bool.true), (Value.int 181 0), (Value.ref 189), Value.none, (Value.ref 190), (Value.ref 191), (Value.ref 192), (Value.int 477 0), (Value.int 120 0), (Value.str (Str.ofString "/claim/cut.py") 478)])) (List.toArray []))
@[reducible] noncomputable def ob194 (P : Params) : Obj := (Obj.mk (Value.type "function") (Option.none) (Data.func (FuncData.mk (Str.ofString "next") (Str.ofString "Picker.next") fp194 (FuncBody.stmts fb194) fs194 3 [] Value.none Value.none Value.none (Value.str (Str.ofString "chess.picker") 419) (Option.none) (Value.ref 193) Value.none 0)) (List.toArray []))
@[reducible] noncomputable def ob195 (P : Params) : Obj := (Obj.mk (Value.type "tuple") (Option.none) (Data.seq (List.toArray []) 0) (List.toArray []))
@[reducible] noncomputable def ob196 (P : Params) : Obj := (Obj.mk Value.none (Option.none) (Data.fields (List.toArray [])) (List.toArray []))
@[reducible] noncomputable def ob197 (P : Params) : Obj := (Obj.mk Value.none (Option.none) (Data.func (FuncData.mk (Str.ofString "fill") (Str.ofString "Picker.fill") fp197 (FuncBody.stmts fb197) fs197 0 [] Value.none Value.none Value.none Value.none (Option.none) Value.none Value.none 0)) (List.toArray []))
@[reducible] noncomputable def ob198 (P : Params) : Obj := (Obj.mk (Value.type "code") (Option.none) (Data.fields (List.toArray [(Value.str (Str.ofString "fill") 480), (Value.str (Str.ofString "Picker.fill") 481), (Value.str (Str.ofString "/claim/cut.py") 482), (Value.int 128 0), (Value.int 2 0), (Value.int 0 0), (Value.int 0 0), (Value.int 3 0), (Value.ref 195), (Value.bool Bool.true), (Value.int 181 0), (Value.ref 196), Value.none, Value.none, Value.none, (Value.ref 197), (Value.int 483 0), (Value.int 128 0), (Value.str (Str.ofString "/claim/cut.py") 484)])) (List.toArray []))
@[reducible] noncomputable def ob199 (P : Params) : Obj := (Obj.mk (Value.type "function") (Option.none) (Data.func (FuncData.mk (Str.ofString "fill") (Str.ofString "Picker.fill") fp199 (FuncBody.stmts fb199) fs199 3 [] Value.none Value.none Value.none (Value.str (Str.ofString "chess.picker") 419) (Option.none) (Value.ref 198) Value.none 0)) (List.toArray []))
@[reducible] noncomputable def ob200 (P : Params) : Obj := (Obj.mk (Value.type "tuple") (Option.none) (Data.seq (List.toArray []) 0) (List.toArray []))
@[reducible] noncomputable def ob201 (P : Params) : Obj := (Obj.mk Value.none (Option.none) (Data.fields (List.toArray [])) (List.toArray []))
@[reducible] noncomputable def ob202 (P : Params) : Obj := (Obj.mk (Value.type "tuple") (Option.none) (Data.seq (List.toArray [(Value.str (Str.ofString "self") 489)]) 0) (List.toArray []))
@[reducible] noncomputable def ob203 (P : Params) : Obj := (Obj.mk (Value.type "tuple") (Option.none) (Data.seq (List.toArray []) 0) (List.toArray []))
@[reducible] noncomputable def ob204 (P : Params) : Obj := (Obj.mk Value.none (Option.none) (Data.func (FuncData.mk (Str.ofString "fill_table") (Str.ofString "Picker.fill_table") fp204 (FuncBody.stmts fb204) fs204 0 [] Value.none Value.none Value.none Value.none (Option.none) Value.none Value.none 0)) (List.toArray []))
@[reducible] noncomputable def ob205 (P : Params) : Obj := (Obj.mk (Value.type "code") (Option.none) (Data.fields (List.toArray [(Value.str (Str.ofString "fill_table") 486), (Value.str (Str.ofString "Picker.fill_table") 487), (Value.str (Str.ofString "/claim/cut.py") 488), (Value.int 140 0), (Value.int 1 0), (Value.int 0 0), (Value.int 0 0), (Value.int 3 0), (Value.ref 200), (Value.bool Bool.true), (Value.int 181 0), (Value.ref 201), Value.none, (Value.ref 202), (Value.ref 203), (Value.ref 204), (Value.int 490 0), (Value.int 140 0), (Value.str (Str.ofString "/claim/cut.py") 491)])) (List.toArray []))
@[reducible] noncomputable def ob206 (P : Params) : Obj := (Obj.mk (Value.type "function") (Option.none) (Data.func (FuncData.mk (Str.ofString "fill_table") (Str.ofString "Picker.fill_table") fp206 (FuncBody.stmts fb206) fs206 3 [] Value.none Value.none Value.none (Value.str (Str.ofString "chess.picker") 419) (Option.none) (Value.ref 205) Value.none 0)) (List.toArray []))
@[reducible] noncomputable def ob207 (P : Params) : Obj := (Obj.mk (Value.type "tuple") (Option.none) (Data.seq (List.toArray []) 0) (List.toArray []))
@[reducible] noncomputable def ob208 (P : Params) : Obj := (Obj.mk Value.none (Option.none) (Data.fields (List.toArray [])) (List.toArray []))
@[reducible] noncomputable def ob209 (P : Params) : Obj := (Obj.mk (Value.type "tuple") (Option.none) (Data.seq (List.toArray [(Value.str (Str.ofString "self") 496), (Value.str (Str.ofString "good") 497), (Value.str (Str.ofString "quiet") 498), (Value.str (Str.ofString "move") 499), (Value.str (Str.ofString "gain") 500)]) 0) (List.toArray []))
@[reducible] noncomputable def ob210 (P : Params) : Obj := (Obj.mk (Value.type "tuple") (Option.none) (Data.seq (List.toArray []) 0) (List.toArray []))
@[reducible] noncomputable def ob211 (P : Params) : Obj := (Obj.mk Value.none (Option.none) (Data.func (FuncData.mk (Str.ofString "fill_good") (Str.ofString "Picker.fill_good") fp211 (FuncBody.stmts fb211) fs211 0 [] Value.none Value.none Value.none Value.none (Option.none) Value.none Value.none 0)) (List.toArray []))
@[reducible] noncomputable def ob212 (P : Params) : Obj := (Obj.mk (Value.type "code") (Option.none) (Data.fields (List.toArray [(Value.str (Str.ofString "fill_good") 493), (Value.str (Str.ofString "Picker.fill_good") 494), (Value.str (Str.ofString "/claim/cut.py") 495), (Value.int 146 0), (Value.int 1 0), (Value.int 0 0), (Value.int 0 0), (Value.int 3 0), (Value.ref 207), (Value.bool Bool.true), (Value.int 181 0), (Value.ref 208), Value.none, (Value.ref 209), (Value.ref 210), (Value.ref 211), (Value.int 501 0), (Value.int 146 0), (Value.str (Str.ofString "/claim/cut.py") 502)])) (List.toArray []))
@[reducible] noncomputable def ob213 (P : Params) : Obj := (Obj.mk (Value.type "function") (Option.none) (Data.func (FuncData.mk (Str.ofString "fill_good") (Str.ofString "Picker.fill_good") fp213 (FuncBody.stmts fb213) fs213 3 [] Value.none Value.none Value.none (Value.str (Str.ofString "chess.picker") 419) (Option.none) (Value.ref 212) Value.none 0)) (List.toArray []))
@[reducible] noncomputable def ob214 (P : Params) : Obj := (Obj.mk (Value.type "tuple") (Option.none) (Data.seq (List.toArray []) 0) (List.toArray []))
@[reducible] noncomputable def ob215 (P : Params) : Obj := (Obj.mk Value.none (Option.none) (Data.fields (List.toArray [])) (List.toArray []))
@[reducible] noncomputable def ob216 (P : Params) : Obj := (Obj.mk (Value.type "tuple") (Option.none) (Data.seq (List.toArray [(Value.str (Str.ofString "self") 507), (Value.str (Str.ofString "found") 508), (Value.str (Str.ofString "move") 509)]) 0) (List.toArray []))
@[reducible] noncomputable def ob217 (P : Params) : Obj := (Obj.mk (Value.type "tuple") (Option.none) (Data.seq (List.toArray []) 0) (List.toArray []))
@[reducible] noncomputable def ob218 (P : Params) : Obj := (Obj.mk Value.none (Option.none) (Data.func (FuncData.mk (Str.ofString "fill_killers") (Str.ofString "Picker.fill_killers") fp218 (FuncBody.stmts fb218) fs218 0 [] Value.none Value.none Value.none Value.none (Option.none) Value.none Value.none 0)) (List.toArray []))
@[reducible] noncomputable def ob219 (P : Params) : Obj := (Obj.mk (Value.type "code") (Option.none) (Data.fields (List.toArray [(Value.str (Str.ofString "fill_killers") 504), (Value.str (Str.ofString "Picker.fill_killers") 505), (Value.str (Str.ofString "/claim/cut.py") 506), (Value.int 161 0), (Value.int 1 0), (Value.int 0 0), (Value.int 0 0), (Value.int 3 0), (Value.ref 214), (Value.bool Bool.true), (Value.int 181 0), (Value.ref 215), Value.none, (Value.ref 216), (Value.ref 217), (Value.ref 218), (Value.int 510 0), (Value.int 161 0), (Value.str (Str.ofString "/claim/cut.py") 511)])) (List.toArray []))
@[reducible] noncomputable def ob220 (P : Params) : Obj := (Obj.mk (Value.type "function") (Option.none) (Data.func (FuncData.mk (Str.ofString "fill_killers") (Str.ofString "Picker.fill_killers") fp220 (FuncBody.stmts fb220) fs220 3 [] Value.none Value.none Value.none (Value.str (Str.ofString "chess.picker") 419) (Option.none) (Value.ref 219) Value.none 0)) (List.toArray []))
@[reducible] noncomputable def ob221 (P : Params) : Obj := (Obj.mk (Value.type "tuple") (Option.none) (Data.seq (List.toArray [(Value.str (Str.ofString "game") 513), (Value.str (Str.ofString "history") 514), (Value.str (Str.ofString "killers") 515), (Value.str (Str.ofString "left") 516), (Value.str (Str.ofString "losing") 517), (Value.str (Str.ofString "ply") 518), (Value.str (Str.ofString "ready") 519), (Value.str (Str.ofString "stage") 520), (Value.str (Str.ofString "table_move") 521)]) 0) (List.toArray []))
@[reducible] noncomputable def ob222 (P : Params) : Obj := (Obj.mk (Value.type "dict") (Option.none) (Data.dict (List.toArray [(DictEntry.mk (PyData.keyHash P (Str.ofString "__module__")) (Value.str (Str.ofString "__module__") 455) (Value.str (Str.ofString "chess.picker") 419)), (DictEntry.mk (PyData.keyHash P (Str.ofString "__firstlineno__")) (Value.str (Str.ofString "__firstlineno__") 459) (Value.int 107 458)), (DictEntry.mk (PyData.keyHash P (Str.ofString "__init__")) (Value.str (Str.ofString "__init__") 472) (Value.ref 187)), (DictEntry.mk (PyData.keyHash P (Str.ofString "next")) (Value.str (Str.ofString "next") 479) (Value.ref 194)), (DictEntry.mk (PyData.keyHash P (Str.ofString "fill")) (Value.str (Str.ofString "fill") 485) (Value.ref 199)), (DictEntry.mk (PyData.keyHash P (Str.ofString "fill_table")) (Value.str (Str.ofString "fill_table") 492) (Value.ref 206)), (DictEntry.mk (PyData.keyHash P (Str.ofString "fill_good")) (Value.str (Str.ofString "fill_good") 503) (Value.ref 213)), (DictEntry.mk (PyData.keyHash P (Str.ofString "fill_killers")) (Value.str (Str.ofString "fill_killers") 512) (Value.ref 220)), (DictEntry.mk (PyData.keyHash P (Str.ofString "__static_attributes__")) (Value.str (Str.ofString "__static_attributes__") 522) (Value.ref 221)), (DictEntry.mk (PyData.keyHash P (Str.ofString "__dict__")) (Value.str (Str.ofString "__dict__") 524) (Value.ref 224)), (DictEntry.mk (PyData.keyHash P (Str.ofString "__weakref__")) (Value.str (Str.ofString "__weakref__") 526) (Value.ref 225)), (DictEntry.mk (PyData.keyHash P (Str.ofString "__doc__")) (Value.str (Str.ofString "__doc__") 527) Value.none)]) 4) (List.toArray []))
@[reducible] noncomputable def ob223 (P : Params) : Obj := (Obj.mk (Value.type "type") (Option.none) (Data.cls (ClassData.mk (Str.ofString "Picker") [(Value.type "object")] [(Value.ref 223), (Value.type "object")] 222 (Str.ofString "Picker") Bool.true [] [] Bool.false (Option.none) Bool.false)) (List.toArray [(Option.none), (Option.none), (Option.some (Value.str (Str.ofString "Picker") 448)), (Option.some (Value.str (Str.ofString "Picker") 456)), (Option.some (Value.builtin "object.__new__")), (Option.some (Value.bool Bool.true))]))
@[reducible] noncomputable def ob224 (P : Params) : Obj := (Obj.mk (Value.type "getset_descriptor") (Option.none) (Data.fields (List.toArray [(Value.str (Str.ofString "__dict__") 523), (Value.ref 223), (Value.builtin "function.__dict__"), (Value.builtin "function.__dict__#set")])) (List.toArray []))
@[reducible] noncomputable def ob225 (P : Params) : Obj := (Obj.mk (Value.type "getset_descriptor") (Option.none) (Data.fields (List.toArray [(Value.str (Str.ofString "__weakref__") 525), (Value.ref 223), (Value.builtin "ExceptionGroup.__weakref__"), Value.none])) (List.toArray []))
@[reducible] noncomputable def ob226 (P : Params) : Obj := (Obj.mk (Value.type "super") (Option.none) (Data.fields (List.toArray [(Value.ref 223), (Value.ref 223), (Value.ref 223)])) (List.toArray []))
@[reducible] noncomputable def ob227 (P : Params) : Obj := (Obj.mk (Value.type "builtin_function_or_method") (Option.none) (Data.fields (List.toArray [(Value.builtin "object.__init_subclass__"), (Value.ref 223)])) (List.toArray []))
@[reducible] noncomputable def ob228 (P : Params) : Obj := (Obj.mk (Value.type "tuple") (Option.none) (Data.seq (List.toArray []) 0) (List.toArray []))
@[reducible] noncomputable def ob229 (P : Params) : Obj := (Obj.mk Value.none (Option.none) (Data.fields (List.toArray [])) (List.toArray []))
@[reducible] noncomputable def ob230 (P : Params) : Obj := (Obj.mk (Value.type "tuple") (Option.none) (Data.seq (List.toArray [(Value.str (Str.ofString "scored") 533), (Value.str (Str.ofString "best") 534), (Value.str (Str.ofString "at") 535)]) 0) (List.toArray []))
@[reducible] noncomputable def ob231 (P : Params) : Obj := (Obj.mk (Value.type "tuple") (Option.none) (Data.seq (List.toArray []) 0) (List.toArray []))
@[reducible] noncomputable def ob232 (P : Params) : Obj := (Obj.mk Value.none (Option.none) (Data.func (FuncData.mk (Str.ofString "take_best") (Str.ofString "take_best") fp232 (FuncBody.stmts fb232) fs232 0 [] Value.none Value.none Value.none Value.none (Option.none) Value.none Value.none 0)) (List.toArray []))
@[reducible] noncomputable def ob233 (P : Params) : Obj := (Obj.mk (Value.type "code") (Option.none) (Data.fields (List.toArray [(Value.str (Str.ofString "take_best") 530), (Value.str (Str.ofString "take_best") 531), (Value.str (Str.ofString "/claim/cut.py") 532), (Value.int 168 0), (Value.int 1 0), (Value.int 0 0), (Value.int 0 0), (Value.int 3 0), (Value.ref 228), (Value.bool Bool.true), (Value.int 181 0), (Value.ref 229), Value.none, (Value.ref 230), (Value.ref 231), (Value.ref 232), (Value.int 536 0), (Value.int 168 0), (Value.str (Str.ofString "/claim/cut.py") 537)])) (List.toArray []))
@[reducible] noncomputable def ob234 (P : Params) : Obj := (Obj.mk (Value.type "function") (Option.none) (Data.func (FuncData.mk (Str.ofString "take_best") (Str.ofString "take_best") fp234 (FuncBody.stmts fb234) fs234 3 [] Value.none Value.none Value.none (Value.str (Str.ofString "chess.picker") 419) (Option.none) (Value.ref 233) Value.none 0)) (List.toArray []))
@[reducible] noncomputable def ob235 (P : Params) : Obj := (Obj.mk (Value.type "tuple") (Option.none) (Data.seq (List.toArray []) 0) (List.toArray []))
@[reducible] noncomputable def ob236 (P : Params) : Obj := (Obj.mk Value.none (Option.none) (Data.fields (List.toArray [])) (List.toArray []))
@[reducible] noncomputable def ob237 (P : Params) : Obj := (Obj.mk (Value.type "tuple") (Option.none) (Data.seq (List.toArray [(Value.str (Str.ofString "ctx") 544), (Value.str (Str.ofString "alpha") 545), (Value.str (Str.ofString "beta") 546), (Value.str (Str.ofString "ply") 547), (Value.str (Str.ofString "qdepth") 548), (Value.str (Str.ofString "game") 549), (Value.str (Str.ofString "moves") 550), (Value.str (Str.ofString "best") 551)]) 0) (List.toArray []))
@[reducible] noncomputable def ob238 (P : Params) : Obj := (Obj.mk (Value.type "tuple") (Option.none) (Data.seq (List.toArray []) 0) (List.toArray []))
@[reducible] noncomputable def ob239 (P : Params) : Obj := (Obj.mk Value.none (Option.none) (Data.func (FuncData.mk (Str.ofString "quiesce") (Str.ofString "quiesce") fp239 (FuncBody.stmts fb239) fs239 0 [] Value.none Value.none Value.none Value.none (Option.none) Value.none Value.none 0)) (List.toArray []))
@[reducible] noncomputable def ob240 (P : Params) : Obj := (Obj.mk (Value.type "code") (Option.none) (Data.fields (List.toArray [(Value.str (Str.ofString "quiesce") 541), (Value.str (Str.ofString "quiesce") 542), (Value.str (Str.ofString "/claim/cut.py") 543), (Value.int 175 0), (Value.int 5 0), (Value.int 0 0), (Value.int 0 0), (Value.int 3 0), (Value.ref 235), (Value.bool Bool.true), (Value.int 181 0), (Value.ref 236), Value.none, (Value.ref 237), (Value.ref 238), (Value.ref 239), (Value.int 552 0), (Value.int 175 0), (Value.str (Str.ofString "/claim/cut.py") 553)])) (List.toArray []))
@[reducible] noncomputable def ob241 (P : Params) : Obj := (Obj.mk (Value.type "function") (Option.none) (Data.func (FuncData.mk (Str.ofString "quiesce") (Str.ofString "quiesce") fp241 (FuncBody.stmts fb241) fs241 3 [] Value.none Value.none Value.none (Value.str (Str.ofString "chess.quiesce") 539) (Option.none) (Value.ref 240) Value.none 0)) (List.toArray []))
@[reducible] noncomputable def ob242 (P : Params) : Obj := (Obj.mk (Value.type "tuple") (Option.none) (Data.seq (List.toArray []) 0) (List.toArray []))
@[reducible] noncomputable def ob243 (P : Params) : Obj := (Obj.mk Value.none (Option.none) (Data.fields (List.toArray [])) (List.toArray []))
@[reducible] noncomputable def ob244 (P : Params) : Obj := (Obj.mk (Value.type "tuple") (Option.none) (Data.seq (List.toArray [(Value.str (Str.ofString "ctx") 558), (Value.str (Str.ofString "moves") 559), (Value.str (Str.ofString "best") 560), (Value.str (Str.ofString "alpha") 561), (Value.str (Str.ofString "beta") 562), (Value.str (Str.ofString "ply") 563), (Value.str (Str.ofString "qdepth") 564), (Value.str (Str.ofString "picker") 565), (Value.str (Str.ofString "move") 566), (Value.str (Str.ofString "value") 567)]) 0) (List.toArray []))
@[reducible] noncomputable def ob245 (P : Params) : Obj := (Obj.mk (Value.type "tuple") (Option.none) (Data.seq (List.toArray []) 0) (List.toArray []))
@[reducible] noncomputable def ob246 (P : Params) : Obj := (Obj.mk Value.none (Option.none) (Data.func (FuncData.mk (Str.ofString "quiesce_moves") (Str.ofString "quiesce_moves") fp246 (FuncBody.stmts fb246) fs246 0 [] Value.none Value.none Value.none Value.none (Option.none) Value.none Value.none 0)) (List.toArray []))
@[reducible] noncomputable def ob247 (P : Params) : Obj := (Obj.mk (Value.type "code") (Option.none) (Data.fields (List.toArray [(Value.str (Str.ofString "quiesce_moves") 555), (Value.str (Str.ofString "quiesce_moves") 556), (Value.str (Str.ofString "/claim/cut.py") 557), (Value.int 191 0), (Value.int 7 0), (Value.int 0 0), (Value.int 0 0), (Value.int 3 0), (Value.ref 242), (Value.bool Bool.true), (Value.int 181 0), (Value.ref 243), Value.none, (Value.ref 244), (Value.ref 245), (Value.ref 246), (Value.int 568 0), (Value.int 191 0), (Value.str (Str.ofString "/claim/cut.py") 569)])) (List.toArray []))
@[reducible] noncomputable def ob248 (P : Params) : Obj := (Obj.mk (Value.type "function") (Option.none) (Data.func (FuncData.mk (Str.ofString "quiesce_moves") (Str.ofString "quiesce_moves") fp248 (FuncBody.stmts fb248) fs248 3 [] Value.none Value.none Value.none (Value.str (Str.ofString "chess.quiesce") 539) (Option.none) (Value.ref 247) Value.none 0)) (List.toArray []))
@[reducible] noncomputable def ob249 (P : Params) : Obj := (Obj.mk (Value.type "tuple") (Option.none) (Data.seq (List.toArray []) 0) (List.toArray []))
@[reducible] noncomputable def ob250 (P : Params) : Obj := (Obj.mk Value.none (Option.none) (Data.fields (List.toArray [])) (List.toArray []))
@[reducible] noncomputable def ob251 (P : Params) : Obj := (Obj.mk (Value.type "tuple") (Option.none) (Data.seq (List.toArray [(Value.str (Str.ofString "ctx") 578), (Value.str (Str.ofString "alpha") 579), (Value.str (Str.ofString "beta") 580), (Value.str (Str.ofString "depth") 581), (Value.str (Str.ofString "ply") 582), (Value.str (Str.ofString "is_pv") 583), (Value.str (Str.ofString "game") 584), (Value.str (Str.ofString "low") 585), (Value.str (Str.ofString "high") 586), (Value.str (Str.ofString "key") 587), (Value.str (Str.ofString "table_move") 588), (Value.str (Str.ofString "value") 589), (Value.str (Str.ofString "moves") 590)]) 0) (List.toArray []))
@[reducible] noncomputable def ob252 (P : Params) : Obj := (Obj.mk (Value.type "tuple") (Option.none) (Data.seq (List.toArray []) 0) (List.toArray []))
@[reducible] noncomputable def ob253 (P : Params) : Obj := (Obj.mk Value.none (Option.none) (Data.func (FuncData.mk (Str.ofString "search") (Str.ofString "search") fp253 (FuncBody.stmts fb253) fs253 0 [] Value.none Value.none Value.none Value.none (Option.none) Value.none Value.none 0)) (List.toArray []))
@[reducible] noncomputable def ob254 (P : Params) : Obj := (Obj.mk (Value.type "code") (Option.none) (Data.fields (List.toArray [(Value.str (Str.ofString "search") 575), (Value.str (Str.ofString "search") 576), (Value.str (Str.ofString "/claim/cut.py") 577), (Value.int 207 0), (Value.int 6 0), (Value.int 0 0), (Value.int 0 0), (Value.int 3 0), (Value.ref 249), (Value.bool Bool.true), (Value.int 181 0), (Value.ref 250), Value.none, (Value.ref 251), (Value.ref 252), (Value.ref 253), (Value.int 591 0), (Value.int 207 0), (Value.str (Str.ofString "/claim/cut.py") 592)])) (List.toArray []))
@[reducible] noncomputable def ob255 (P : Params) : Obj := (Obj.mk (Value.type "function") (Option.none) (Data.func (FuncData.mk (Str.ofString "search") (Str.ofString "search") fp255 (FuncBody.stmts fb255) fs255 3 [] Value.none Value.none Value.none (Value.str (Str.ofString "chess.pvs") 571) (Option.none) (Value.ref 254) Value.none 0)) (List.toArray []))
@[reducible] noncomputable def ob256 (P : Params) : Obj := (Obj.mk (Value.type "tuple") (Option.none) (Data.seq (List.toArray []) 0) (List.toArray []))
@[reducible] noncomputable def ob257 (P : Params) : Obj := (Obj.mk Value.none (Option.none) (Data.fields (List.toArray [])) (List.toArray []))
@[reducible] noncomputable def ob258 (P : Params) : Obj := (Obj.mk (Value.type "tuple") (Option.none) (Data.seq (List.toArray [(Value.str (Str.ofString "ctx") 597), (Value.str (Str.ofString "moves") 598), (Value.str (Str.ofString "table_move") 599), (Value.str (Str.ofString "key") 600), (Value.str (Str.ofString "alpha") 601), (Value.str (Str.ofString "beta") 602), (Value.str (Str.ofString "depth") 603), (Value.str (Str.ofString "ply") 604), (Value.str (Str.ofString "is_pv") 605), (Value.str (Str.ofString "game") 606), (Value.str (Str.ofString "side") 607), (Value.str (Str.ofString "picker") 608), (Value.str (Str.ofString "start") 609), (Value.str (Str.ofString "best") 610), (Value.str (Str.ofString "best_move") 611), (Value.str (Str.ofString "quiets") 612), (Value.str (Str.ofString "is_first") 613), (Value.str (Str.ofString "move") 614), (Value.str (Str.ofString "is_noisy") 615), (Value.str (Str.ofString "value") 616)]) 0) (List.toArray []))
@[reducible] noncomputable def ob259 (P : Params) : Obj := (Obj.mk (Value.type "tuple") (Option.none) (Data.seq (List.toArray []) 0) (List.toArray []))
@[reducible] noncomputable def ob260 (P : Params) : Obj := (Obj.mk Value.none (Option.none) (Data.func (FuncData.mk (Str.ofString "search_moves") (Str.ofString "search_moves") fp260 (FuncBody.stmts fb260) fs260 0 [] Value.none Value.none Value.none Value.none (Option.none) Value.none Value.none 0)) (List.toArray []))
@[reducible] noncomputable def ob261 (P : Params) : Obj := (Obj.mk (Value.type "code") (Option.none) (Data.fields (List.toArray [(Value.str (Str.ofString "search_moves") 594), (Value.str (Str.ofString "search_moves") 595), (Value.str (Str.ofString "/claim/cut.py") 596), (Value.int 237 0), (Value.int 9 0), (Value.int 0 0), (Value.int 0 0), (Value.int 3 0), (Value.ref 256), (Value.bool Bool.true), (Value.int 181 0), (Value.ref 257), Value.none, (Value.ref 258), (Value.ref 259), (Value.ref 260), (Value.int 617 0), (Value.int 237 0), (Value.str (Str.ofString "/claim/cut.py") 618)])) (List.toArray []))
@[reducible] noncomputable def ob262 (P : Params) : Obj := (Obj.mk (Value.type "function") (Option.none) (Data.func (FuncData.mk (Str.ofString "search_moves") (Str.ofString "search_moves") fp262 (FuncBody.stmts fb262) fs262 3 [] Value.none Value.none Value.none (Value.str (Str.ofString "chess.pvs") 571) (Option.none) (Value.ref 261) Value.none 0)) (List.toArray []))
@[reducible] noncomputable def ob263 (P : Params) : Obj := (Obj.mk (Value.type "tuple") (Option.none) (Data.seq (List.toArray []) 0) (List.toArray []))
@[reducible] noncomputable def ob264 (P : Params) : Obj := (Obj.mk Value.none (Option.none) (Data.fields (List.toArray [])) (List.toArray []))
@[reducible] noncomputable def ob265 (P : Params) : Obj := (Obj.mk (Value.type "tuple") (Option.none) (Data.seq (List.toArray [(Value.str (Str.ofString "ctx") 623), (Value.str (Str.ofString "alpha") 624), (Value.str (Str.ofString "beta") 625), (Value.str (Str.ofString "depth") 626), (Value.str (Str.ofString "ply") 627), (Value.str (Str.ofString "is_pv") 628), (Value.str (Str.ofString "is_first") 629), (Value.str (Str.ofString "value") 630)]) 0) (List.toArray []))
@[reducible] noncomputable def ob266 (P : Params) : Obj := (Obj.mk (Value.type "tuple") (Option.none) (Data.seq (List.toArray []) 0) (List.toArray []))
@[reducible] noncomputable def ob267 (P : Params) : Obj := (Obj.mk Value.none (Option.none) (Data.func (FuncData.mk (Str.ofString "search_child") (Str.ofString "search_child") fp267 (FuncBody.stmts fb267) fs267 0 [] Value.none Value.none Value.none Value.none (Option.none) Value.none Value.none 0)) (List.toArray []))
@[reducible] noncomputable def ob268 (P : Params) : Obj := (Obj.mk (Value.type "code") (Option.none) (Data.fields (List.toArray [(Value.str (Str.ofString "search_child") 620), (Value.str (Str.ofString "search_child") 621), (Value.str (Str.ofString "/claim/cut.py") 622), (Value.int 271 0), (Value.int 7 0), (Value.int 0 0), (Value.int 0 0), (Value.int 3 0), (Value.ref 263), (Value.bool Bool.true), (Value.int 181 0), (Value.ref 264), Value.none, (Value.ref 265), (Value.ref 266), (Value.ref 267), (Value.int 631 0), (Value.int 271 0), (Value.str (Str.ofString "/claim/cut.py") 632)])) (List.toArray []))
@[reducible] noncomputable def ob269 (P : Params) : Obj := (Obj.mk (Value.type "function") (Option.none) (Data.func (FuncData.mk (Str.ofString "search_child") (Str.ofString "search_child") fp269 (FuncBody.stmts fb269) fs269 3 [] Value.none Value.none Value.none (Value.str (Str.ofString "chess.pvs") 571) (Option.none) (Value.ref 268) Value.none 0)) (List.toArray []))
@[reducible] noncomputable def ob270 (P : Params) : Obj := (Obj.mk (Value.type "tuple") (Option.none) (Data.seq (List.toArray []) 0) (List.toArray []))
@[reducible] noncomputable def ob271 (P : Params) : Obj := (Obj.mk Value.none (Option.none) (Data.fields (List.toArray [])) (List.toArray []))
@[reducible] noncomputable def ob272 (P : Params) : Obj := (Obj.mk (Value.type "tuple") (Option.none) (Data.seq (List.toArray [(Value.str (Str.ofString "ctx") 637), (Value.str (Str.ofString "key") 638), (Value.str (Str.ofString "alpha") 639), (Value.str (Str.ofString "beta") 640), (Value.str (Str.ofString "depth") 641), (Value.str (Str.ofString "ply") 642), (Value.str (Str.ofString "found") 643), (Value.str (Str.ofString "value") 644)]) 0) (List.toArray []))
@[reducible] noncomputable def ob273 (P : Params) : Obj := (Obj.mk (Value.type "tuple") (Option.none) (Data.seq (List.toArray []) 0) (List.toArray []))
@[reducible] noncomputable def ob274 (P : Params) : Obj := (Obj.mk Value.none (Option.none) (Data.func (FuncData.mk (Str.ofString "look_up") (Str.ofString "look_up") fp274 (FuncBody.stmts fb274) fs274 0 [] Value.none Value.none Value.none Value.none (Option.none) Value.none Value.none 0)) (List.toArray []))
@[reducible] noncomputable def ob275 (P : Params) : Obj := (Obj.mk (Value.type "code") (Option.none) (Data.fields (List.toArray [(Value.str (Str.ofString "look_up") 634), (Value.str (Str.ofString "look_up") 635), (Value.str (Str.ofString "/claim/cut.py") 636), (Value.int 278 0), (Value.int 6 0), (Value.int 0 0), (Value.int 0 0), (Value.int 3 0), (Value.ref 270), (Value.bool Bool.true), (Value.int 181 0), (Value.ref 271), Value.none, (Value.ref 272), (Value.ref 273), (Value.ref 274), (Value.int 645 0), (Value.int 278 0), (Value.str (Str.ofString "/claim/cut.py") 646)])) (List.toArray []))
@[reducible] noncomputable def ob276 (P : Params) : Obj := (Obj.mk (Value.type "function") (Option.none) (Data.func (FuncData.mk (Str.ofString "look_up") (Str.ofString "look_up") fp276 (FuncBody.stmts fb276) fs276 3 [] Value.none Value.none Value.none (Value.str (Str.ofString "chess.pvs") 571) (Option.none) (Value.ref 275) Value.none 0)) (List.toArray []))
@[reducible] noncomputable def ob277 (P : Params) : Obj := (Obj.mk (Value.type "tuple") (Option.none) (Data.seq (List.toArray []) 0) (List.toArray []))
@[reducible] noncomputable def ob278 (P : Params) : Obj := (Obj.mk Value.none (Option.none) (Data.fields (List.toArray [])) (List.toArray []))
@[reducible] noncomputable def ob279 (P : Params) : Obj := (Obj.mk (Value.type "tuple") (Option.none) (Data.seq (List.toArray [(Value.str (Str.ofString "ctx") 651), (Value.str (Str.ofString "key") 652), (Value.str (Str.ofString "move") 653), (Value.str (Str.ofString "best") 654), (Value.str (Str.ofString "start") 655), (Value.str (Str.ofString "beta") 656), (Value.str (Str.ofString "depth") 657), (Value.str (Str.ofString "ply") 658), (Value.str (Str.ofString "bound") 659)]) 0) (List.toArray []))
@[reducible] noncomputable def ob280 (P : Params) : Obj := (Obj.mk (Value.type "tuple") (Option.none) (Data.seq (List.toArray []) 0) (List.toArray []))
@[reducible] noncomputable def ob281 (P : Params) : Obj := (Obj.mk Value.none (Option.none) (Data.func (FuncData.mk (Str.ofString "keep_value") (Str.ofString "keep_value") fp281 (FuncBody.stmts fb281) fs281 0 [] Value.none Value.none Value.none Value.none (Option.none) Value.none Value.none 0)) (List.toArray []))
@[reducible] noncomputable def ob282 (P : Params) : Obj := (Obj.mk (Value.type "code") (Option.none) (Data.fields (List.toArray [(Value.str (Str.ofString "keep_value") 648), (Value.str (Str.ofString "keep_value") 649), (Value.str (Str.ofString "/claim/cut.py") 650), (Value.int 288 0), (Value.int 8 0), (Value.int 0 0), (Value.int 0 0), (Value.int 3 0), (Value.ref 277), (Value.bool Bool.true), (Value.int 181 0), (Value.ref 278), Value.none, (Value.ref 279), (Value.ref 280), (Value.ref 281), (Value.int 660 0), (Value.int 288 0), (Value.str (Str.ofString "/claim/cut.py") 661)])) (List.toArray []))
@[reducible] noncomputable def ob283 (P : Params) : Obj := (Obj.mk (Value.type "function") (Option.none) (Data.func (FuncData.mk (Str.ofString "keep_value") (Str.ofString "keep_value") fp283 (FuncBody.stmts fb283) fs283 3 [] Value.none Value.none Value.none (Value.str (Str.ofString "chess.pvs") 571) (Option.none) (Value.ref 282) Value.none 0)) (List.toArray []))
@[reducible] noncomputable def ob284 (P : Params) : Obj := (Obj.mk (Value.type "tuple") (Option.none) (Data.seq (List.toArray []) 0) (List.toArray []))
@[reducible] noncomputable def ob285 (P : Params) : Obj := (Obj.mk Value.none (Option.none) (Data.fields (List.toArray [])) (List.toArray []))
@[reducible] noncomputable def ob286 (P : Params) : Obj := (Obj.mk (Value.type "tuple") (Option.none) (Data.seq (List.toArray [(Value.str (Str.ofString "value") 670), (Value.str (Str.ofString "delta") 671)]) 0) (List.toArray []))
@[reducible] noncomputable def ob287 (P : Params) : Obj := (Obj.mk (Value.type "tuple") (Option.none) (Data.seq (List.toArray []) 0) (List.toArray []))
@[reducible] noncomputable def ob288 (P : Params) : Obj := (Obj.mk Value.none (Option.none) (Data.func (FuncData.mk (Str.ofString "lower_edge") (Str.ofString "lower_edge") fp288 (FuncBody.stmts fb288) fs288 0 [] Value.none Value.none Value.none Value.none (Option.none) Value.none Value.none 0)) (List.toArray []))
@[reducible] noncomputable def ob289 (P : Params) : Obj := (Obj.mk (Value.type "code") (Option.none) (Data.fields (List.toArray [(Value.str (Str.ofString "lower_edge") 667), (Value.str (Str.ofString "lower_edge") 668), (Value.str (Str.ofString "/claim/cut.py") 669), (Value.int 299 0), (Value.int 2 0), (Value.int 0 0), (Value.int 0 0), (Value.int 3 0), (Value.ref 284), (Value.bool Bool.true), (Value.int 181 0), (Value.ref 285), Value.none, (Value.ref 286), (Value.ref 287), (Value.ref 288), (Value.int 672 0), (Value.int 299 0), (Value.str (Str.ofString "/claim/cut.py") 673)])) (List.toArray []))
@[reducible] noncomputable def ob290 (P : Params) : Obj := (Obj.mk (Value.type "function") (Option.none) (Data.func (FuncData.mk (Str.ofString "lower_edge") (Str.ofString "lower_edge") fp290 (FuncBody.stmts fb290) fs290 3 [] Value.none Value.none Value.none (Value.str (Str.ofString "chess.iterate") 663) (Option.none) (Value.ref 289) Value.none 0)) (List.toArray []))
@[reducible] noncomputable def ob291 (P : Params) : Obj := (Obj.mk (Value.type "tuple") (Option.none) (Data.seq (List.toArray []) 0) (List.toArray []))
@[reducible] noncomputable def ob292 (P : Params) : Obj := (Obj.mk Value.none (Option.none) (Data.fields (List.toArray [])) (List.toArray []))
@[reducible] noncomputable def ob293 (P : Params) : Obj := (Obj.mk (Value.type "tuple") (Option.none) (Data.seq (List.toArray [(Value.str (Str.ofString "value") 678), (Value.str (Str.ofString "delta") 679)]) 0) (List.toArray []))
@[reducible] noncomputable def ob294 (P : Params) : Obj := (Obj.mk (Value.type "tuple") (Option.none) (Data.seq (List.toArray []) 0) (List.toArray []))
@[reducible] noncomputable def ob295 (P : Params) : Obj := (Obj.mk Value.none (Option.none) (Data.func (FuncData.mk (Str.ofString "upper_edge") (Str.ofString "upper_edge") fp295 (FuncBody.stmts fb295) fs295 0 [] Value.none Value.none Value.none Value.none (Option.none) Value.none Value.none 0)) (List.toArray []))
@[reducible] noncomputable def ob296 (P : Params) : Obj := (Obj.mk (Value.type "code") (Option.none) (Data.fields (List.toArray [(Value.str (Str.ofString "upper_edge") 675), (Value.str (Str.ofString "upper_edge") 676), (Value.str (Str.ofString "/claim/cut.py") 677), (Value.int 303 0), (Value.int 2 0), (Value.int 0 0), (Value.int 0 0), (Value.int 3 0), (Value.ref 291), (Value.bool Bool.true), (Value.int 181 0), (Value.ref 292), Value.none, (Value.ref 293), (Value.ref 294), (Value.ref 295), (Value.int 680 0), (Value.int 303 0), (Value.str (Str.ofString "/claim/cut.py") 681)])) (List.toArray []))
@[reducible] noncomputable def ob297 (P : Params) : Obj := (Obj.mk (Value.type "function") (Option.none) (Data.func (FuncData.mk (Str.ofString "upper_edge") (Str.ofString "upper_edge") fp297 (FuncBody.stmts fb297) fs297 3 [] Value.none Value.none Value.none (Value.str (Str.ofString "chess.iterate") 663) (Option.none) (Value.ref 296) Value.none 0)) (List.toArray []))
@[reducible] noncomputable def ob298 (P : Params) : Obj := (Obj.mk (Value.type "tuple") (Option.none) (Data.seq (List.toArray []) 0) (List.toArray []))
@[reducible] noncomputable def ob299 (P : Params) : Obj := (Obj.mk Value.none (Option.none) (Data.fields (List.toArray [])) (List.toArray []))
@[reducible] noncomputable def ob300 (P : Params) : Obj := (Obj.mk (Value.type "tuple") (Option.none) (Data.seq (List.toArray [(Value.str (Str.ofString "ctx") 686), (Value.str (Str.ofString "depth") 687), (Value.str (Str.ofString "guess") 688), (Value.str (Str.ofString "delta") 689), (Value.str (Str.ofString "alpha") 690), (Value.str (Str.ofString "beta") 691), (Value.str (Str.ofString "value") 692)]) 0) (List.toArray []))
@[reducible] noncomputable def ob301 (P : Params) : Obj := (Obj.mk (Value.type "tuple") (Option.none) (Data.seq (List.toArray []) 0) (List.toArray []))
@[reducible] noncomputable def ob302 (P : Params) : Obj := (Obj.mk Value.none (Option.none) (Data.func (FuncData.mk (Str.ofString "aspirate") (Str.ofString "aspirate") fp302 (FuncBody.stmts fb302) fs302 0 [] Value.none Value.none Value.none Value.none (Option.none) Value.none Value.none 0)) (List.toArray []))
@[reducible] noncomputable def ob303 (P : Params) : Obj := (Obj.mk (Value.type "code") (Option.none) (Data.fields (List.toArray [(Value.str (Str.ofString "aspirate") 683), (Value.str (Str.ofString "aspirate") 684), (Value.str (Str.ofString "/claim/cut.py") 685), (Value.int 307 0), (Value.int 4 0), (Value.int 0 0), (Value.int 0 0), (Value.int 3 0), (Value.ref 298), (Value.bool Bool.true), (Value.int 181 0), (Value.ref 299), Value.none, (Value.ref 300), (Value.ref 301), (Value.ref 302), (Value.int 693 0), (Value.int 307 0), (Value.str (Str.ofString "/claim/cut.py") 694)])) (List.toArray []))
@[reducible] noncomputable def ob304 (P : Params) : Obj := (Obj.mk (Value.type "function") (Option.none) (Data.func (FuncData.mk (Str.ofString "aspirate") (Str.ofString "aspirate") fp304 (FuncBody.stmts fb304) fs304 3 [] Value.none Value.none Value.none (Value.str (Str.ofString "chess.iterate") 663) (Option.none) (Value.ref 303) Value.none 0)) (List.toArray []))
@[reducible] noncomputable def ob305 (P : Params) : Obj := (Obj.mk (Value.type "tuple") (Option.none) (Data.seq (List.toArray []) 0) (List.toArray []))
@[reducible] noncomputable def ob306 (P : Params) : Obj := (Obj.mk Value.none (Option.none) (Data.fields (List.toArray [])) (List.toArray []))
@[reducible] noncomputable def ob307 (P : Params) : Obj := (Obj.mk (Value.type "tuple") (Option.none) (Data.seq (List.toArray [(Value.str (Str.ofString "ctx") 699), (Value.str (Str.ofString "depth") 700), (Value.str (Str.ofString "guess") 701), (Value.str (Str.ofString "value") 702), (Value.str (Str.ofString "low") 703), (Value.str (Str.ofString "high") 704), (Value.str (Str.ofString "beta") 705)]) 0) (List.toArray []))
@[reducible] noncomputable def ob308 (P : Params) : Obj := (Obj.mk (Value.type "tuple") (Option.none) (Data.seq (List.toArray []) 0) (List.toArray []))
@[reducible] noncomputable def ob309 (P : Params) : Obj := (Obj.mk Value.none (Option.none) (Data.func (FuncData.mk (Str.ofString "mtdf") (Str.ofString "mtdf") fp309 (FuncBody.stmts fb309) fs309 0 [] Value.none Value.none Value.none Value.none (Option.none) Value.none Value.none 0)) (List.toArray []))
@[reducible] noncomputable def ob310 (P : Params) : Obj := (Obj.mk (Value.type "code") (Option.none) (Data.fields (List.toArray [(Value.str (Str.ofString "mtdf") 696), (Value.str (Str.ofString "mtdf") 697), (Value.str (Str.ofString "/claim/cut.py") 698), (Value.int 322 0), (Value.int 3 0), (Value.int 0 0), (Value.int 0 0), (Value.int 3 0), (Value.ref 305), (Value.bool Bool.true), (Value.int 181 0), (Value.ref 306), Value.none, (Value.ref 307), (Value.ref 308), (Value.ref 309), (Value.int 706 0), (Value.int 322 0), (Value.str (Str.ofString "/claim/cut.py") 707)])) (List.toArray []))
@[reducible] noncomputable def ob311 (P : Params) : Obj := (Obj.mk (Value.type "function") (Option.none) (Data.func (FuncData.mk (Str.ofString "mtdf") (Str.ofString "mtdf") fp311 (FuncBody.stmts fb311) fs311 3 [] Value.none Value.none Value.none (Value.str (Str.ofString "chess.iterate") 663) (Option.none) (Value.ref 310) Value.none 0)) (List.toArray []))
@[reducible] noncomputable def ob312 (P : Params) : Obj := (Obj.mk (Value.type "tuple") (Option.none) (Data.seq (List.toArray []) 0) (List.toArray []))
@[reducible] noncomputable def ob313 (P : Params) : Obj := (Obj.mk Value.none (Option.none) (Data.fields (List.toArray [])) (List.toArray []))
@[reducible] noncomputable def ob314 (P : Params) : Obj := (Obj.mk (Value.type "tuple") (Option.none) (Data.seq (List.toArray [(Value.str (Str.ofString "ctx") 712), (Value.str (Str.ofString "depth") 713), (Value.str (Str.ofString "low") 714), (Value.str (Str.ofString "high") 715), (Value.str (Str.ofString "middle") 716), (Value.str (Str.ofString "value") 717)]) 0) (List.toArray []))
@[reducible] noncomputable def ob315 (P : Params) : Obj := (Obj.mk (Value.type "tuple") (Option.none) (Data.seq (List.toArray []) 0) (List.toArray []))
@[reducible] noncomputable def ob316 (P : Params) : Obj := (Obj.mk Value.none (Option.none) (Data.func (FuncData.mk (Str.ofString "halve") (Str.ofString "halve") fp316 (FuncBody.stmts fb316) fs316 0 [] Value.none Value.none Value.none Value.none (Option.none) Value.none Value.none 0)) (List.toArray []))
@[reducible] noncomputable def ob317 (P : Params) : Obj := (Obj.mk (Value.type "code") (Option.none) (Data.fields (List.toArray [(Value.str (Str.ofString "halve") 709), (Value.str (Str.ofString "halve") 710), (Value.str (Str.ofString "/claim/cut.py") 711), (Value.int 334 0), (Value.int 4 0), (Value.int 0 0), (Value.int 0 0), (Value.int 3 0), (Value.ref 312), (Value.bool Bool.true), (Value.int 181 0), (Value.ref 313), Value.none, (Value.ref 314), (Value.ref 315), (Value.ref 316), (Value.int 718 0), (Value.int 334 0), (Value.str (Str.ofString "/claim/cut.py") 719)])) (List.toArray []))
@[reducible] noncomputable def ob318 (P : Params) : Obj := (Obj.mk (Value.type "function") (Option.none) (Data.func (FuncData.mk (Str.ofString "halve") (Str.ofString "halve") fp318 (FuncBody.stmts fb318) fs318 3 [] Value.none Value.none Value.none (Value.str (Str.ofString "chess.iterate") 663) (Option.none) (Value.ref 317) Value.none 0)) (List.toArray []))
@[reducible] noncomputable def ob319 (P : Params) : Obj := (Obj.mk (Value.type "tuple") (Option.none) (Data.seq (List.toArray []) 0) (List.toArray []))
@[reducible] noncomputable def ob320 (P : Params) : Obj := (Obj.mk Value.none (Option.none) (Data.fields (List.toArray [])) (List.toArray []))
@[reducible] noncomputable def ob321 (P : Params) : Obj := (Obj.mk (Value.type "tuple") (Option.none) (Data.seq (List.toArray [(Value.str (Str.ofString "book") 728), (Value.str (Str.ofString "many") 729)]) 0) (List.toArray []))
@[reducible] noncomputable def ob322 (P : Params) : Obj := (Obj.mk (Value.type "tuple") (Option.none) (Data.seq (List.toArray []) 0) (List.toArray []))
@[reducible] noncomputable def ob323 (P : Params) : Obj := (Obj.mk Value.none (Option.none) (Data.func (FuncData.mk (Str.ofString "_law_leaf") (Str.ofString "_law_leaf") fp323 (FuncBody.stmts fb323) fs323 0 [] Value.none Value.none Value.none Value.none (Option.none) Value.none Value.none 0)) (List.toArray []))
@[reducible] noncomputable def ob324 (P : Params) : Obj := (Obj.mk (Value.type "code") (Option.none) (Data.fields (List.toArray [(Value.str (Str.ofString "_law_leaf") 725), (Value.str (Str.ofString "_law_leaf") 726), (Value.str (Str.ofString "/claim/cut.py") 727), (Value.int 345 0), (Value.int 2 0), (Value.int 0 0), (Value.int 0 0), (Value.int 3 0), (Value.ref 319), (Value.bool Bool.true), (Value.int 181 0), (Value.ref 320), Value.none, (Value.ref 321), (Value.ref 322), (Value.ref 323), (Value.int 730 0), (Value.int 345 0), (Value.str (Str.ofString "/claim/cut.py") 731)])) (List.toArray []))
@[reducible] noncomputable def ob325 (P : Params) : Obj := (Obj.mk (Value.type "function") (Option.none) (Data.func (FuncData.mk (Str.ofString "_law_leaf") (Str.ofString "_law_leaf") fp325 (FuncBody.stmts fb325) fs325 3 [] Value.none Value.none Value.none (Value.str (Str.ofString "law_pf0102_01") 721) (Option.none) (Value.ref 324) Value.none 0)) (List.toArray []))
@[reducible] noncomputable def ob326 (P : Params) : Obj := (Obj.mk (Value.type "tuple") (Option.none) (Data.seq (List.toArray []) 0) (List.toArray []))
@[reducible] noncomputable def ob327 (P : Params) : Obj := (Obj.mk Value.none (Option.none) (Data.fields (List.toArray [])) (List.toArray []))
@[reducible] noncomputable def ob328 (P : Params) : Obj := (Obj.mk (Value.type "tuple") (Option.none) (Data.seq (List.toArray [(Value.str (Str.ofString "values") 736), (Value.str (Str.ofString "looks") 737), (Value.str (Str.ofString "place") 738), (Value.str (Str.ofString "value") 739), (Value.str (Str.ofString "in_check") 740)]) 0) (List.toArray []))
@[reducible] noncomputable def ob329 (P : Params) : Obj := (Obj.mk (Value.type "tuple") (Option.none) (Data.seq (List.toArray [(Value.str (Str.ofString "values") 741), (Value.str (Str.ofString "looks") 742)]) 0) (List.toArray []))
@[reducible] noncomputable def ob330 (P : Params) : Obj := (Obj.mk Value.none (Option.none) (Data.func (FuncData.mk (Str.ofString "_law_place") (Str.ofString "_law_place") fp330 (FuncBody.stmts fb330) fs330 0 [] Value.none Value.none Value.none Value.none (Option.none) Value.none Value.none 0)) (List.toArray []))
@[reducible] noncomputable def ob331 (P : Params) : Obj := (Obj.mk (Value.type "code") (Option.none) (Data.fields (List.toArray [(Value.str (Str.ofString "_law_place") 733), (Value.str (Str.ofString "_law_place") 734), (Value.str (Str.ofString "/claim/cut.py") 735), (Value.int 350 0), (Value.int 2 0), (Value.int 0 0), (Value.int 0 0), (Value.int 3 0), (Value.ref 326), (Value.bool Bool.true), (Value.int 181 0), (Value.ref 327), Value.none, (Value.ref 328), (Value.ref 329), (Value.ref 330), (Value.int 743 0), (Value.int 350 0), (Value.str (Str.ofString "/claim/cut.py") 744)])) (List.toArray []))
@[reducible] noncomputable def ob332 (P : Params) : Obj := (Obj.mk (Value.type "function") (Option.none) (Data.func (FuncData.mk (Str.ofString "_law_place") (Str.ofString "_law_place") fp332 (FuncBody.stmts fb332) fs332 3 [] Value.none Value.none Value.none (Value.str (Str.ofString "law_pf0102_01") 721) (Option.none) (Value.ref 331) Value.none 0)) (List.toArray []))
@[reducible] noncomputable def ob333 (P : Params) : Obj := (Obj.mk (Value.type "tuple") (Option.none) (Data.seq (List.toArray []) 0) (List.toArray []))
@[reducible] noncomputable def ob334 (P : Params) : Obj := (Obj.mk Value.none (Option.none) (Data.fields (List.toArray [])) (List.toArray []))
@[reducible] noncomputable def ob335 (P : Params) : Obj := (Obj.mk (Value.type "tuple") (Option.none) (Data.seq (List.toArray [(Value.str (Str.ofString "own") 749)]) 0) (List.toArray []))
@[reducible] noncomputable def ob336 (P : Params) : Obj := (Obj.mk (Value.type "tuple") (Option.none) (Data.seq (List.toArray []) 0) (List.toArray []))
@[reducible] noncomputable def ob337 (P : Params) : Obj := (Obj.mk Value.none (Option.none) (Data.func (FuncData.mk (Str.ofString "_law_look") (Str.ofString "_law_look") fp337 (FuncBody.stmts fb337) fs337 0 [] Value.none Value.none Value.none Value.none (Option.none) Value.none Value.none 0)) (List.toArray []))
@[reducible] noncomputable def ob338 (P : Params) : Obj := (Obj.mk (Value.type "code") (Option.none) (Data.fields (List.toArray [(Value.str (Str.ofString "_law_look") 746), (Value.str (Str.ofString "_law_look") 747), (Value.str (Str.ofString "/claim/cut.py") 748), (Value.int 362 0), (Value.int 1 0), (Value.int 0 0), (Value.int 0 0), (Value.int 3 0), (Value.ref 333), (Value.bool Bool.true), (Value.int 181 0), (Value.ref 334), Value.none, (Value.ref 335), (Value.ref 336), (Value.ref 337), (Value.int 750 0), (Value.int 362 0), (Value.str (Str.ofString "/claim/cut.py") 751)])) (List.toArray []))
@[reducible] noncomputable def ob339 (P : Params) : Obj := (Obj.mk (Value.type "function") (Option.none) (Data.func (FuncData.mk (Str.ofString "_law_look") (Str.ofString "_law_look") fp339 (FuncBody.stmts fb339) fs339 3 [] Value.none Value.none Value.none (Value.str (Str.ofString "law_pf0102_01") 721) (Option.none) (Value.ref 338) Value.none 0)) (List.toArray []))
@[reducible] noncomputable def ob340 (P : Params) : Obj := (Obj.mk (Value.type "tuple") (Option.none) (Data.seq (List.toArray []) 0) (List.toArray []))
@[reducible] noncomputable def ob341 (P : Params) : Obj := (Obj.mk Value.none (Option.none) (Data.fields (List.toArray [])) (List.toArray []))
@[reducible] noncomputable def ob342 (P : Params) : Obj := (Obj.mk (Value.type "tuple") (Option.none) (Data.seq (List.toArray []) 0) (List.toArray []))
@[reducible] noncomputable def ob343 (P : Params) : Obj := (Obj.mk (Value.type "tuple") (Option.none) (Data.seq (List.toArray []) 0) (List.toArray []))
@[reducible] noncomputable def ob344 (P : Params) : Obj := (Obj.mk Value.none (Option.none) (Data.func (FuncData.mk (Str.ofString "_law_infinite") (Str.ofString "_law_infinite") fp344 (FuncBody.stmts fb344) fs344 0 [] Value.none Value.none Value.none Value.none (Option.none) Value.none Value.none 0)) (List.toArray []))
@[reducible] noncomputable def ob345 (P : Params) : Obj := (Obj.mk (Value.type "code") (Option.none) (Data.fields (List.toArray [(Value.str (Str.ofString "_law_infinite") 753), (Value.str (Str.ofString "_law_infinite") 754), (Value.str (Str.ofString "/claim/cut.py") 755), (Value.int 367 0), (Value.int 0 0), (Value.int 0 0), (Value.int 0 0), (Value.int 3 0), (Value.ref 340), (Value.bool Bool.true), (Value.int 181 0), (Value.ref 341), Value.none, (Value.ref 342), (Value.ref 343), (Value.ref 344), (Value.int 756 0), (Value.int 367 0), (Value.str (Str.ofString "/claim/cut.py") 757)])) (List.toArray []))
@[reducible] noncomputable def ob346 (P : Params) : Obj := (Obj.mk (Value.type "function") (Option.none) (Data.func (FuncData.mk (Str.ofString "_law_infinite") (Str.ofString "_law_infinite") fp346 (FuncBody.stmts fb346) fs346 3 [] Value.none Value.none Value.none (Value.str (Str.ofString "law_pf0102_01") 721) (Option.none) (Value.ref 345) Value.none 0)) (List.toArray []))
@[reducible] noncomputable def ob347 (P : Params) : Obj := (Obj.mk (Value.type "tuple") (Option.none) (Data.seq (List.toArray []) 0) (List.toArray []))
@[reducible] noncomputable def ob348 (P : Params) : Obj := (Obj.mk Value.none (Option.none) (Data.fields (List.toArray [])) (List.toArray []))
@[reducible] noncomputable def ob349 (P : Params) : Obj := (Obj.mk (Value.type "tuple") (Option.none) (Data.seq (List.toArray [(Value.str (Str.ofString "value") 762), (Value.str (Str.ofString "width") 763), (Value.str (Str.ofString "sign") 764)]) 0) (List.toArray []))
@[reducible] noncomputable def ob350 (P : Params) : Obj := (Obj.mk (Value.type "tuple") (Option.none) (Data.seq (List.toArray []) 0) (List.toArray []))
@[reducible] noncomputable def ob351 (P : Params) : Obj := (Obj.mk Value.none (Option.none) (Data.func (FuncData.mk (Str.ofString "_law_edge") (Str.ofString "_law_edge") fp351 (FuncBody.stmts fb351) fs351 0 [] Value.none Value.none Value.none Value.none (Option.none) Value.none Value.none 0)) (List.toArray []))
@[reducible] noncomputable def ob352 (P : Params) : Obj := (Obj.mk (Value.type "code") (Option.none) (Data.fields (List.toArray [(Value.str (Str.ofString "_law_edge") 759), (Value.str (Str.ofString "_law_edge") 760), (Value.str (Str.ofString "/claim/cut.py") 761), (Value.int 369 0), (Value.int 3 0), (Value.int 0 0), (Value.int 0 0), (Value.int 3 0), (Value.ref 347), (Value.bool Bool.true), (Value.int 181 0), (Value.ref 348), Value.none, (Value.ref 349), (Value.ref 350), (Value.ref 351), (Value.int 765 0), (Value.int 369 0), (Value.str (Str.ofString "/claim/cut.py") 766)])) (List.toArray []))
@[reducible] noncomputable def ob353 (P : Params) : Obj := (Obj.mk (Value.type "function") (Option.none) (Data.func (FuncData.mk (Str.ofString "_law_edge") (Str.ofString "_law_edge") fp353 (FuncBody.stmts fb353) fs353 3 [] Value.none Value.none Value.none (Value.str (Str.ofString "law_pf0102_01") 721) (Option.none) (Value.ref 352) Value.none 0)) (List.toArray []))
@[reducible] noncomputable def ob354 (P : Params) : Obj := (Obj.mk (Value.type "tuple") (Option.none) (Data.seq (List.toArray []) 0) (List.toArray []))
@[reducible] noncomputable def ob355 (P : Params) : Obj := (Obj.mk Value.none (Option.none) (Data.fields (List.toArray [])) (List.toArray []))
@[reducible] noncomputable def ob356 (P : Params) : Obj := (Obj.mk (Value.type "tuple") (Option.none) (Data.seq (List.toArray [(Value.str (Str.ofString "own") 771), (Value.str (Str.ofString "guess") 772), (Value.str (Str.ofString "width") 773), (Value.str (Str.ofString "ends") 774), (Value.str (Str.ofString "value") 775)]) 0) (List.toArray []))
@[reducible] noncomputable def ob357 (P : Params) : Obj := (Obj.mk (Value.type "tuple") (Option.none) (Data.seq (List.toArray []) 0) (List.toArray []))
@[reducible] noncomputable def ob358 (P : Params) : Obj := (Obj.mk Value.none (Option.none) (Data.func (FuncData.mk (Str.ofString "_law_aspirate") (Str.ofString "_law_aspirate") fp358 (FuncBody.stmts fb358) fs358 0 [] Value.none Value.none Value.none Value.none (Option.none) Value.none Value.none 0)) (List.toArray []))
@[reducible] noncomputable def ob359 (P : Params) : Obj := (Obj.mk (Value.type "code") (Option.none) (Data.fields (List.toArray [(Value.str (Str.ofString "_law_aspirate") 768), (Value.str (Str.ofString "_law_aspirate") 769), (Value.str (Str.ofString "/claim/cut.py") 770), (Value.int 373 0), (Value.int 3 0), (Value.int 0 0), (Value.int 0 0), (Value.int 3 0), (Value.ref 354), (Value.bool Bool.true), (Value.int 181 0), (Value.ref 355), Value.none, (Value.ref 356), (Value.ref 357), (Value.ref 358), (Value.int 776 0), (Value.int 373 0), (Value.str (Str.ofString "/claim/cut.py") 777)])) (List.toArray []))
@[reducible] noncomputable def ob360 (P : Params) : Obj := (Obj.mk (Value.type "function") (Option.none) (Data.func (FuncData.mk (Str.ofString "_law_aspirate") (Str.ofString "_law_aspirate") fp360 (FuncBody.stmts fb360) fs360 3 [] Value.none Value.none Value.none (Value.str (Str.ofString "law_pf0102_01") 721) (Option.none) (Value.ref 359) Value.none 0)) (List.toArray []))
@[reducible] noncomputable def ob361 (P : Params) : Obj := (Obj.mk (Value.type "tuple") (Option.none) (Data.seq (List.toArray []) 0) (List.toArray []))
@[reducible] noncomputable def ob362 (P : Params) : Obj := (Obj.mk Value.none (Option.none) (Data.fields (List.toArray [])) (List.toArray []))
@[reducible] noncomputable def ob363 (P : Params) : Obj := (Obj.mk (Value.type "tuple") (Option.none) (Data.seq (List.toArray [(Value.str (Str.ofString "own") 782), (Value.str (Str.ofString "guess") 783), (Value.str (Str.ofString "value") 784), (Value.str (Str.ofString "ends") 785), (Value.str (Str.ofString "border") 786)]) 0) (List.toArray []))
@[reducible] noncomputable def ob364 (P : Params) : Obj := (Obj.mk (Value.type "tuple") (Option.none) (Data.seq (List.toArray []) 0) (List.toArray []))
@[reducible] noncomputable def ob365 (P : Params) : Obj := (Obj.mk Value.none (Option.none) (Data.func (FuncData.mk (Str.ofString "_law_closing") (Str.ofString "_law_closing") fp365 (FuncBody.stmts fb365) fs365 0 [] Value.none Value.none Value.none Value.none (Option.none) Value.none Value.none 0)) (List.toArray []))
@[reducible] noncomputable def ob366 (P : Params) : Obj := (Obj.mk (Value.type "code") (Option.none) (Data.fields (List.toArray [(Value.str (Str.ofString "_law_closing") 779), (Value.str (Str.ofString "_law_closing") 780), (Value.str (Str.ofString "/claim/cut.py") 781), (Value.int 386 0), (Value.int 2 0), (Value.int 0 0), (Value.int 0 0), (Value.int 3 0), (Value.ref 361), (Value.bool Bool.true), (Value.int 181 0), (Value.ref 362), Value.none, (Value.ref 363), (Value.ref 364), (Value.ref 365), (Value.int 787 0), (Value.int 386 0), (Value.str (Str.ofString "/claim/cut.py") 788)])) (List.toArray []))
@[reducible] noncomputable def ob367 (P : Params) : Obj := (Obj.mk (Value.type "function") (Option.none) (Data.func (FuncData.mk (Str.ofString "_law_closing") (Str.ofString "_law_closing") fp367 (FuncBody.stmts fb367) fs367 3 [] Value.none Value.none Value.none (Value.str (Str.ofString "law_pf0102_01") 721) (Option.none) (Value.ref 366) Value.none 0)) (List.toArray []))
@[reducible] noncomputable def ob368 (P : Params) : Obj := (Obj.mk (Value.type "tuple") (Option.none) (Data.seq (List.toArray []) 0) (List.toArray []))
@[reducible] noncomputable def ob369 (P : Params) : Obj := (Obj.mk Value.none (Option.none) (Data.fields (List.toArray [])) (List.toArray []))
@[reducible] noncomputable def ob370 (P : Params) : Obj := (Obj.mk (Value.type "tuple") (Option.none) (Data.seq (List.toArray [(Value.str (Str.ofString "own") 793), (Value.str (Str.ofString "low") 794), (Value.str (Str.ofString "high") 795), (Value.str (Str.ofString "middle") 796), (Value.str (Str.ofString "value") 797)]) 0) (List.toArray []))
@[reducible] noncomputable def ob371 (P : Params) : Obj := (Obj.mk (Value.type "tuple") (Option.none) (Data.seq (List.toArray []) 0) (List.toArray []))
@[reducible] noncomputable def ob372 (P : Params) : Obj := (Obj.mk Value.none (Option.none) (Data.func (FuncData.mk (Str.ofString "_law_halves") (Str.ofString "_law_halves") fp372 (FuncBody.stmts fb372) fs372 0 [] Value.none Value.none Value.none Value.none (Option.none) Value.none Value.none 0)) (List.toArray []))
@[reducible] noncomputable def ob373 (P : Params) : Obj := (Obj.mk (Value.type "code") (Option.none) (Data.fields (List.toArray [(Value.str (Str.ofString "_law_halves") 790), (Value.str (Str.ofString "_law_halves") 791), (Value.str (Str.ofString "/claim/cut.py") 792), (Value.int 396 0), (Value.int 3 0), (Value.int 0 0), (Value.int 0 0), (Value.int 3 0), (Value.ref 368), (Value.bool Bool.true), (Value.int 181 0), (Value.ref 369), Value.none, (Value.ref 370), (Value.ref 371), (Value.ref 372), (Value.int 798 0), (Value.int 396 0), (Value.str (Str.ofString "/claim/cut.py") 799)])) (List.toArray []))
@[reducible] noncomputable def ob374 (P : Params) : Obj := (Obj.mk (Value.type "function") (Option.none) (Data.func (FuncData.mk (Str.ofString "_law_halves") (Str.ofString "_law_halves") fp374 (FuncBody.stmts fb374) fs374 3 [] Value.none Value.none Value.none (Value.str (Str.ofString "law_pf0102_01") 721) (Option.none) (Value.ref 373) Value.none 0)) (List.toArray []))
@[reducible] noncomputable def ob375 (P : Params) : Obj := (Obj.mk (Value.type "tuple") (Option.none) (Data.seq (List.toArray []) 0) (List.toArray []))
@[reducible] noncomputable def ob376 (P : Params) : Obj := (Obj.mk Value.none (Option.none) (Data.fields (List.toArray [])) (List.toArray []))
@[reducible] noncomputable def ob377 (P : Params) : Obj := (Obj.mk (Value.type "tuple") (Option.none) (Data.seq (List.toArray [(Value.str (Str.ofString "work") 804), (Value.str (Str.ofString "ctx") 805), (Value.str (Str.ofString "fault") 806)]) 0) (List.toArray []))
@[reducible] noncomputable def ob378 (P : Params) : Obj := (Obj.mk (Value.type "tuple") (Option.none) (Data.seq (List.toArray []) 0) (List.toArray []))
@[reducible] noncomputable def ob379 (P : Params) : Obj := (Obj.mk Value.none (Option.none) (Data.func (FuncData.mk (Str.ofString "_law_heard") (Str.ofString "_law_heard") fp379 (FuncBody.stmts fb379) fs379 0 [] Value.none Value.none Value.none Value.none (Option.none) Value.none Value.none 0)) (List.toArray []))
@[reducible] noncomputable def ob380 (P : Params) : Obj := (Obj.mk (Value.type "code") (Option.none) (Data.fields (List.toArray [(Value.str (Str.ofString "_law_heard") 801), (Value.str (Str.ofString "_law_heard") 802), (Value.str (Str.ofString "/claim/cut.py") 803), (Value.int 407 0), (Value.int 2 0), (Value.int 0 0), (Value.int 0 0), (Value.int 3 0), (Value.ref 375), (Value.bool Bool.true), (Value.int 181 0), (Value.ref 376), Value.none, (Value.ref 377), (Value.ref 378), (Value.ref 379), (Value.int 807 0), (Value.int 407 0), (Value.str (Str.ofString "/claim/cut.py") 808)])) (List.toArray []))
@[reducible] noncomputable def ob381 (P : Params) : Obj := (Obj.mk (Value.type "function") (Option.none) (Data.func (FuncData.mk (Str.ofString "_law_heard") (Str.ofString "_law_heard") fp381 (FuncBody.stmts fb381) fs381 3 [] Value.none Value.none Value.none (Value.str (Str.ofString "law_pf0102_01") 721) (Option.none) (Value.ref 380) Value.none 0)) (List.toArray []))
@[reducible] noncomputable def ob382 (P : Params) : Obj := (Obj.mk (Value.type "tuple") (Option.none) (Data.seq (List.toArray []) 0) (List.toArray []))
@[reducible] noncomputable def ob383 (P : Params) : Obj := (Obj.mk Value.none (Option.none) (Data.fields (List.toArray [])) (List.toArray []))
@[reducible] noncomputable def ob384 (P : Params) : Obj := (Obj.mk (Value.type "tuple") (Option.none) (Data.seq (List.toArray [(Value.str (Str.ofString "script") 813), (Value.str (Str.ofString "book") 814), (Value.str (Str.ofString "middle") 815), (Value.str (Str.ofString "values") 816), (Value.str (Str.ofString "_") 817), (Value.str (Str.ofString "far") 818), (Value.str (Str.ofString "most") 819), (Value.str (Str.ofString "looks") 820), (Value.str (Str.ofString "works") 821), (Value.str (Str.ofString "work") 822), (Value.str (Str.ofString "due") 823), (Value.str (Str.ofString "own") 824), (Value.str (Str.ofString "told") 825)]) 0) (List.toArray []))
@[reducible] noncomputable def ob385 (P : Params) : Obj := (Obj.mk (Value.type "tuple") (Option.none) (Data.seq (List.toArray [(Value.str (Str.ofString "ctx") 826), (Value.str (Str.ofString "guess") 827), (Value.str (Str.ofString "low") 828), (Value.str (Str.ofString "span") 829), (Value.str (Str.ofString "width") 830)]) 0) (List.toArray []))
@[reducible] noncomputable def ob386 (P : Params) : Obj := (Obj.mk Value.none (Option.none) (Data.func (FuncData.mk (Str.ofString "law") (Str.ofString "law") fp386 (FuncBody.stmts fb386) fs386 0 [] Value.none Value.none Value.none Value.none (Option.none) Value.none Value.none 0)) (List.toArray []))
@[reducible] noncomputable def ob387 (P : Params) : Obj := (Obj.mk (Value.type "code") (Option.none) (Data.fields (List.toArray [(Value.str (Str.ofString "law") 810), (Value.str (Str.ofString "law") 811), (Value.str (Str.ofString "/claim/cut.py") 812), (Value.int 412 0), (Value.int 1 0), (Value.int 0 0), (Value.int 0 0), (Value.int 3 0), (Value.ref 382), (Value.bool Bool.true), (Value.int 181 0), (Value.ref 383), Value.none, (Value.ref 384), (Value.ref 385), (Value.ref 386), (Value.int 831 0), (Value.int 412 0), (Value.str (Str.ofString "/claim/cut.py") 832)])) (List.toArray []))
@[reducible] noncomputable def ob388 (P : Params) : Obj := (Obj.mk (Value.type "function") (Option.none) (Data.func (FuncData.mk (Str.ofString "law") (Str.ofString "law") fp388 (FuncBody.stmts fb388) fs388 3 [] Value.none Value.none Value.none (Value.str (Str.ofString "law_pf0102_01") 721) (Option.none) (Value.ref 387) Value.none 0)) (List.toArray []))
set_option maxRecDepth 100000 in
noncomputable def hd.heap_39 : Params → Frag := fun P =>
(nat_lit 2, ob2 P) ::
(nat_lit 3, ob3 P) ::
(nat_lit 15, ob15 P) ::
(nat_lit 17, ob17 P) ::
(nat_lit 18, ob18 P) ::
(nat_lit 20, ob20 P) ::
(nat_lit 21, ob21 P) ::
(nat_lit 22, ob22 P) ::
(nat_lit 24, ob24 P) ::
(nat_lit 25, ob25 P) ::
(nat_lit 27, ob27 P) ::
(nat_lit 28, ob28 P) ::
(nat_lit 29, ob29 P) ::
(nat_lit 31, ob31 P) ::
(nat_lit 32, ob32 P) ::
(nat_lit 34, ob34 P) ::
(nat_lit 35, ob35 P) ::
(nat_lit 36, ob36 P) ::
(nat_lit 38, ob38 P) ::
(nat_lit 39, ob39 P) ::
(nat_lit 41, ob41 P) ::
(nat_lit 42, ob42 P) ::
(nat_lit 43, ob43 P) ::
(nat_lit 45, ob45 P) ::
(nat_lit 46, ob46 P) ::
(nat_lit 48, ob48 P) ::
(nat_lit 49, ob49 P) ::
(nat_lit 50, ob50 P) ::
(nat_lit 57, ob57 P) ::
(nat_lit 59, ob59 P) ::
(nat_lit 60, ob60 P) ::
(nat_lit 62, ob62 P) ::
(nat_lit 63, ob63 P) ::
(nat_lit 64, ob64 P) ::
(nat_lit 65, ob65 P) ::
(nat_lit 66, ob66 P) ::
(nat_lit 67, ob67 P) ::
(nat_lit 70, ob70 P) ::
(nat_lit 77, ob77 P) ::
(nat_lit 78, ob78 P) ::
(nat_lit 80, ob80 P) ::
(nat_lit 81, ob81 P) ::
(nat_lit 83, ob83 P) ::
(nat_lit 84, ob84 P) ::
(nat_lit 85, ob85 P) ::
(nat_lit 86, ob86 P) ::
(nat_lit 87, ob87 P) ::
(nat_lit 97, ob97 P) ::
(nat_lit 99, ob99 P) ::
(nat_lit 100, ob100 P) ::
(nat_lit 102, ob102 P) ::
(nat_lit 103, ob103 P) ::
(nat_lit 104, ob104 P) ::
(nat_lit 106, ob106 P) ::
(nat_lit 107, ob107 P) ::
(nat_lit 109, ob109 P) ::
(nat_lit 110, ob110 P) ::
(nat_lit 111, ob111 P) ::
(nat_lit 112, ob112 P) ::
(nat_lit 113, ob113 P) ::
(nat_lit 114, ob114 P) ::
(nat_lit 115, ob115 P) ::
(nat_lit 118, ob118 P) ::
(nat_lit 120, ob120 P) ::
(nat_lit 121, ob121 P) ::
(nat_lit 123, ob123 P) ::
(nat_lit 124, ob124 P) ::
(nat_lit 125, ob125 P) ::
(nat_lit 127, ob127 P) ::
(nat_lit 128, ob128 P) ::
(nat_lit 130, ob130 P) ::
(nat_lit 131, ob131 P) ::
(nat_lit 132, ob132 P) ::
(nat_lit 134, ob134 P) ::
(nat_lit 135, ob135 P) ::
(nat_lit 137, ob137 P) ::
(nat_lit 138, ob138 P) ::
(nat_lit 139, ob139 P) ::
(nat_lit 141, ob141 P) ::
(nat_lit 142, ob142 P) ::
(nat_lit 144, ob144 P) ::
(nat_lit 145, ob145 P) ::
(nat_lit 146, ob146 P) ::
(nat_lit 148, ob148 P) ::
(nat_lit 149, ob149 P) ::
(nat_lit 151, ob151 P) ::
(nat_lit 152, ob152 P) ::
(nat_lit 153, ob153 P) ::
(nat_lit 155, ob155 P) ::
(nat_lit 156, ob156 P) ::
(nat_lit 158, ob158 P) ::
(nat_lit 159, ob159 P) ::
(nat_lit 160, ob160 P) ::
(nat_lit 162, ob162 P) ::
(nat_lit 163, ob163 P) ::
(nat_lit 165, ob165 P) ::
(nat_lit 166, ob166 P) ::
(nat_lit 167, ob167 P) ::
(nat_lit 169, ob169 P) ::
(nat_lit 170, ob170 P) ::
(nat_lit 172, ob172 P) ::
(nat_lit 173, ob173 P) ::
(nat_lit 181, ob181 P) ::
(nat_lit 183, ob183 P) ::
(nat_lit 184, ob184 P) ::
(nat_lit 186, ob186 P) ::
(nat_lit 187, ob187 P) ::
(nat_lit 188, ob188 P) ::
(nat_lit 190, ob190 P) ::
(nat_lit 191, ob191 P) ::
(nat_lit 193, ob193 P) ::
(nat_lit 194, ob194 P) ::
(nat_lit 195, ob195 P) ::
(nat_lit 198, ob198 P) ::
(nat_lit 199, ob199 P) ::
(nat_lit 200, ob200 P) ::
(nat_lit 202, ob202 P) ::
(nat_lit 203, ob203 P) ::
(nat_lit 205, ob205 P) ::
(nat_lit 206, ob206 P) ::
(nat_lit 207, ob207 P) ::
(nat_lit 209, ob209 P) ::
(nat_lit 210, ob210 P) ::
(nat_lit 212, ob212 P) ::
(nat_lit 213, ob213 P) ::
(nat_lit 214, ob214 P) ::
(nat_lit 216, ob216 P) ::
(nat_lit 217, ob217 P) ::
(nat_lit 219, ob219 P) ::
(nat_lit 220, ob220 P) ::
(nat_lit 221, ob221 P) ::
(nat_lit 222, ob222 P) ::
(nat_lit 223, ob223 P) ::
(nat_lit 224, ob224 P) ::
(nat_lit 225, ob225 P) ::
(nat_lit 228, ob228 P) ::
(nat_lit 230, ob230 P) ::
(nat_lit 231, ob231 P) ::
(nat_lit 233, ob233 P) ::
(nat_lit 234, ob234 P) ::
(nat_lit 235, ob235 P) ::
(nat_lit 237, ob237 P) ::
(nat_lit 238, ob238 P) ::
(nat_lit 240, ob240 P) ::
(nat_lit 241, ob241 P) ::
(nat_lit 242, ob242 P) ::
(nat_lit 244, ob244 P) ::
(nat_lit 245, ob245 P) ::
(nat_lit 247, ob247 P) ::
(nat_lit 248, ob248 P) ::
(nat_lit 249, ob249 P) ::
(nat_lit 251, ob251 P) ::
(nat_lit 252, ob252 P) ::
(nat_lit 254, ob254 P) ::
(nat_lit 255, ob255 P) ::
(nat_lit 256, ob256 P) ::
(nat_lit 258, ob258 P) ::
(nat_lit 259, ob259 P) ::
(nat_lit 261, ob261 P) ::
(nat_lit 262, ob262 P) ::
(nat_lit 263, ob263 P) ::
(nat_lit 265, ob265 P) ::
(nat_lit 266, ob266 P) ::
(nat_lit 268, ob268 P) ::
(nat_lit 269, ob269 P) ::
(nat_lit 270, ob270 P) ::
(nat_lit 272, ob272 P) ::
(nat_lit 273, ob273 P) ::
(nat_lit 275, ob275 P) ::
(nat_lit 276, ob276 P) ::
(nat_lit 277, ob277 P) ::
(nat_lit 279, ob279 P) ::
(nat_lit 280, ob280 P) ::
(nat_lit 282, ob282 P) ::
(nat_lit 283, ob283 P) ::
(nat_lit 284, ob284 P) ::
(nat_lit 286, ob286 P) ::
(nat_lit 287, ob287 P) ::
(nat_lit 289, ob289 P) ::
(nat_lit 290, ob290 P) ::
(nat_lit 291, ob291 P) ::
(nat_lit 293, ob293 P) ::
(nat_lit 294, ob294 P) ::
(nat_lit 296, ob296 P) ::
(nat_lit 297, ob297 P) ::
(nat_lit 298, ob298 P) ::
(nat_lit 300, ob300 P) ::
(nat_lit 301, ob301 P) ::
(nat_lit 303, ob303 P) ::
(nat_lit 304, ob304 P) ::
(nat_lit 305, ob305 P) ::
(nat_lit 307, ob307 P) ::
(nat_lit 308, ob308 P) ::
(nat_lit 310, ob310 P) ::
(nat_lit 311, ob311 P) ::
(nat_lit 312, ob312 P) ::
(nat_lit 314, ob314 P) ::
(nat_lit 315, ob315 P) ::
(nat_lit 317, ob317 P) ::
(nat_lit 318, ob318 P) ::
(nat_lit 319, ob319 P) ::
(nat_lit 321, ob321 P) ::
(nat_lit 322, ob322 P) ::
(nat_lit 324, ob324 P) ::
(nat_lit 325, ob325 P) ::
(nat_lit 326, ob326 P) ::
(nat_lit 328, ob328 P) ::
(nat_lit 329, ob329 P) ::
(nat_lit 331, ob331 P) ::
(nat_lit 332, ob332 P) ::
(nat_lit 333, ob333 P) ::
(nat_lit 335, ob335 P) ::
(nat_lit 336, ob336 P) ::
(nat_lit 338, ob338 P) ::
(nat_lit 339, ob339 P) ::
(nat_lit 340, ob340 P) ::
(nat_lit 342, ob342 P) ::
(nat_lit 343, ob343 P) ::
(nat_lit 345, ob345 P) ::
(nat_lit 346, ob346 P) ::
(nat_lit 347, ob347 P) ::
(nat_lit 349, ob349 P) ::
(nat_lit 350, ob350 P) ::
(nat_lit 352, ob352 P) ::
(nat_lit 353, ob353 P) ::
(nat_lit 354, ob354 P) ::
(nat_lit 356, ob356 P) ::
(nat_lit 357, ob357 P) ::
(nat_lit 359, ob359 P) ::
(nat_lit 360, ob360 P) ::
(nat_lit 361, ob361 P) ::
(nat_lit 363, ob363 P) ::
(nat_lit 364, ob364 P) ::
(nat_lit 366, ob366 P) ::
(nat_lit 367, ob367 P) ::
(nat_lit 368, ob368 P) ::
(nat_lit 370, ob370 P) ::
(nat_lit 371, ob371 P) ::
(nat_lit 373, ob373 P) ::
(nat_lit 374, ob374 P) ::
(nat_lit 375, ob375 P) ::
(nat_lit 377, ob377 P) ::
(nat_lit 378, ob378 P) ::
(nat_lit 380, ob380 P) ::
(nat_lit 381, ob381 P) ::
(nat_lit 382, ob382 P) ::
(nat_lit 384, ob384 P) ::
(nat_lit 385, ob385 P) ::
(nat_lit 387, ob387 P) ::
(nat_lit 388, ob388 P) :: []
@[reducible] noncomputable def keysK : List Addr := [nat_lit 2, nat_lit 3, nat_lit 15, nat_lit 17, nat_lit 18, nat_lit 20, nat_lit 21, nat_lit 22, nat_lit 24, nat_lit 25, nat_lit 27, nat_lit 28, nat_lit 29, nat_lit 31, nat_lit 32, nat_lit 34, nat_lit 35, nat_lit 36, nat_lit 38, nat_lit 39, nat_lit 41, nat_lit 42, nat_lit 43, nat_lit 45, nat_lit 46, nat_lit 48, nat_lit 49, nat_lit 50, nat_lit 57, nat_lit 59, nat_lit 60, nat_lit 62, nat_lit 63, nat_lit 64, nat_lit 65, nat_lit 66, nat_lit 67, nat_lit 70, nat_lit 77, nat_lit 78, nat_lit 80, nat_lit 81, nat_lit 83, nat_lit 84, nat_lit 85, nat_lit 86, nat_lit 87, nat_lit 97, nat_lit 99, nat_lit 100, nat_lit 102, nat_lit 103, nat_lit 104, nat_lit 106, nat_lit 107, nat_lit 109, nat_lit 110, nat_lit 111, nat_lit 112, nat_lit 113, nat_lit 114, nat_lit 115, nat_lit 118, nat_lit 120, nat_lit 121, nat_lit 123, nat_lit 124, nat_lit 125, nat_lit 127, nat_lit 128, nat_lit 130, nat_lit 131, nat_lit 132, nat_lit 134, nat_lit 135, nat_lit 137, nat_lit 138, nat_lit 139, nat_lit 141, nat_lit 142, nat_lit 144, nat_lit 145, nat_lit 146, nat_lit 148, nat_lit 149, nat_lit 151, nat_lit 152, nat_lit 153, nat_lit 155, nat_lit 156, nat_lit 158, nat_lit 159, nat_lit 160, nat_lit 162, nat_lit 163, nat_lit 165, nat_lit 166, nat_lit 167, nat_lit 169, nat_lit 170, nat_lit 172, nat_lit 173, nat_lit 181, nat_lit 183, nat_lit 184, nat_lit 186, nat_lit 187, nat_lit 188, nat_lit 190, nat_lit 191, nat_lit 193, nat_lit 194, nat_lit 195, nat_lit 198, nat_lit 199, nat_lit 200, nat_lit 202, nat_lit 203, nat_lit 205, nat_lit 206, nat_lit 207, nat_lit 209, nat_lit 210, nat_lit 212, nat_lit 213, nat_lit 214, nat_lit 216, nat_lit 217, nat_lit 219, nat_lit 220, nat_lit 221, nat_lit 222, nat_lit 223, nat_lit 224, nat_lit 225, nat_lit 228, nat_lit 230, nat_lit 231, nat_lit 233, nat_lit 234, nat_lit 235, nat_lit 237, nat_lit 238, nat_lit 240, nat_lit 241, nat_lit 242, nat_lit 244, nat_lit 245, nat_lit 247, nat_lit 248, nat_lit 249, nat_lit 251, nat_lit 252, nat_lit 254, nat_lit 255, nat_lit 256, nat_lit 258, nat_lit 259, nat_lit 261, nat_lit 262, nat_lit 263, nat_lit 265, nat_lit 266, nat_lit 268, nat_lit 269, nat_lit 270, nat_lit 272, nat_lit 273, nat_lit 275, nat_lit 276, nat_lit 277, nat_lit 279, nat_lit 280, nat_lit 282, nat_lit 283, nat_lit 284, nat_lit 286, nat_lit 287, nat_lit 289, nat_lit 290, nat_lit 291, nat_lit 293, nat_lit 294, nat_lit 296, nat_lit 297, nat_lit 298, nat_lit 300, nat_lit 301, nat_lit 303, nat_lit 304, nat_lit 305, nat_lit 307, nat_lit 308, nat_lit 310, nat_lit 311, nat_lit 312, nat_lit 314, nat_lit 315, nat_lit 317, nat_lit 318, nat_lit 319, nat_lit 321, nat_lit 322, nat_lit 324, nat_lit 325, nat_lit 326, nat_lit 328, nat_lit 329, nat_lit 331, nat_lit 332, nat_lit 333, nat_lit 335, nat_lit 336, nat_lit 338, nat_lit 339, nat_lit 340, nat_lit 342, nat_lit 343, nat_lit 345, nat_lit 346, nat_lit 347, nat_lit 349, nat_lit 350, nat_lit 352, nat_lit 353, nat_lit 354, nat_lit 356, nat_lit 357, nat_lit 359, nat_lit 360, nat_lit 361, nat_lit 363, nat_lit 364, nat_lit 366, nat_lit 367, nat_lit 368, nat_lit 370, nat_lit 371, nat_lit 373, nat_lit 374, nat_lit 375, nat_lit 377, nat_lit 378, nat_lit 380, nat_lit 381, nat_lit 382, nat_lit 384, nat_lit 385, nat_lit 387, nat_lit 388]
set_option maxRecDepth 100000 in
noncomputable def heapE (P : Params) : Heap := Heap.mk (Array.mk [boot_o_0 P, boot_o_1 P, ob2 P, ob3 P, boot_o_4 P, boot_o_5 P, boot_o_6 P, boot_o_7 P, boot_o_8 P, boot_o_9 P, boot_o_10 P, ob11 P, ob12 P, ob13 P, ob14 P, ob15 P, ob16 P, ob17 P, ob18 P, ob19 P, ob20 P, ob21 P, ob22 P, ob23 P, ob24 P, ob25 P, ob26 P, ob27 P, ob28 P, ob29 P, ob30 P, ob31 P, ob32 P, ob33 P, ob34 P, ob35 P, ob36 P, ob37 P, ob38 P, ob39 P, ob40 P, ob41 P, ob42 P, ob43 P, ob44 P, ob45 P, ob46 P, ob47 P, ob48 P, ob49 P, ob50 P, ob51 P, ob52 P, ob53 P, ob54 P, ob55 P, ob56 P, ob57 P, ob58 P, ob59 P, ob60 P, ob61 P, ob62 P, ob63 P, ob64 P, ob65 P, ob66 P, ob67 P, ob68 P, ob69 P, ob70 P, ob71 P, ob72 P, ob73 P, ob74 P, ob75 P, ob76 P, ob77 P, ob78 P, ob79 P, ob80 P, ob81 P, ob82 P, ob83 P, ob84 P, ob85 P, ob86 P, ob87 P, ob88 P, ob89 P, ob90 P, ob91 P, ob92 P, ob93 P, ob94 P, ob95 P, ob96 P, ob97 P, ob98 P, ob99 P, ob100 P, ob101 P, ob102 P, ob103 P, ob104 P, ob105 P, ob106 P, ob107 P, ob108 P, ob109 P, ob110 P, ob111 P, ob112 P, ob113 P, ob114 P, ob115 P, ob116 P, ob117 P, ob118 P, ob119 P, ob120 P, ob121 P, ob122 P, ob123 P, ob124 P, ob125 P, ob126 P, ob127 P, ob128 P, ob129 P, ob130 P, ob131 P, ob132 P, ob133 P, ob134 P, ob135 P, ob136 P, ob137 P, ob138 P, ob139 P, ob140 P, ob141 P, ob142 P, ob143 P, ob144 P, ob145 P, ob146 P, ob147 P, ob148 P, ob149 P, ob150 P, ob151 P, ob152 P, ob153 P, ob154 P, ob155 P, ob156 P, ob157 P, ob158 P, ob159 P, ob160 P, ob161 P, ob162 P, ob163 P, ob164 P, ob165 P, ob166 P, ob167 P, ob168 P, ob169 P, ob170 P, ob171 P, ob172 P, ob173 P, ob174 P, ob175 P, ob176 P, ob177 P, ob178 P, ob179 P, ob180 P, ob181 P, ob182 P, ob183 P, ob184 P, ob185 P, ob186 P, ob187 P, ob188 P, ob189 P, ob190 P, ob191 P, ob192 P, ob193 P, ob194 P, ob195 P, ob196 P, ob197 P, ob198 P, ob199 P, ob200 P, ob201 P, ob202 P, ob203 P, ob204 P, ob205 P, ob206 P, ob207 P, ob208 P, ob209 P, ob210 P, ob211 P, ob212 P, ob213 P, ob214 P, ob215 P, ob216 P, ob217 P, ob218 P, ob219 P, ob220 P, ob221 P, ob222 P, ob223 P, ob224 P, ob225 P, ob226 P, ob227 P, ob228 P, ob229 P, ob230 P, ob231 P, ob232 P, ob233 P, ob234 P, ob235 P, ob236 P, ob237 P, ob238 P, ob239 P, ob240 P, ob241 P, ob242 P, ob243 P, ob244 P, ob245 P, ob246 P, ob247 P, ob248 P, ob249 P, ob250 P, ob251 P, ob252 P, ob253 P, ob254 P, ob255 P, ob256 P, ob257 P, ob258 P, ob259 P, ob260 P, ob261 P, ob262 P, ob263 P, ob264 P, ob265 P, ob266 P, ob267 P, ob268 P, ob269 P, ob270 P, ob271 P, ob272 P, ob273 P, ob274 P, ob275 P, ob276 P, ob277 P, ob278 P, ob279 P, ob280 P, ob281 P, ob282 P, ob283 P, ob284 P, ob285 P, ob286 P, ob287 P, ob288 P, ob289 P, ob290 P, ob291 P, ob292 P, ob293 P, ob294 P, ob295 P, ob296 P, ob297 P, ob298 P, ob299 P, ob300 P, ob301 P, ob302 P, ob303 P, ob304 P, ob305 P, ob306 P, ob307 P, ob308 P, ob309 P, ob310 P, ob311 P, ob312 P, ob313 P, ob314 P, ob315 P, ob316 P, ob317 P, ob318 P, ob319 P, ob320 P, ob321 P, ob322 P, ob323 P, ob324 P, ob325 P, ob326 P, ob327 P, ob328 P, ob329 P, ob330 P, ob331 P, ob332 P, ob333 P, ob334 P, ob335 P, ob336 P, ob337 P, ob338 P, ob339 P, ob340 P, ob341 P, ob342 P, ob343 P, ob344 P, ob345 P, ob346 P, ob347 P, ob348 P, ob349 P, ob350 P, ob351 P, ob352 P, ob353 P, ob354 P, ob355 P, ob356 P, ob357 P, ob358 P, ob359 P, ob360 P, ob361 P, ob362 P, ob363 P, ob364 P, ob365 P, ob366 P, ob367 P, ob368 P, ob369 P, ob370 P, ob371 P, ob372 P, ob373 P, ob374 P, ob375 P, ob376 P, ob377 P, ob378 P, ob379 P, ob380 P, ob381 P, ob382 P, ob383 P, ob384 P, ob385 P, ob386 P, ob387 P, ob388 P]) (Life.mk [] [] [] 0 [] [] Bool.false (List.toArray []) [] 0 Bool.false Bool.false Bool.false 0 [2000, 10, 10] Bool.false 0 Bool.true [] [] 0 Bool.false)
noncomputable def viewQ : Program := view PySem.Challenge.pw_pf0102_01 [1, 2, 3, 4, 5, 6, 7, 8, 9, 10, 11, 12, 13, 15, 17, 18, 20, 21, 22, 23, 24, 25, 27, 29, 30, 31, 32, 33, 34, 35, 36, 37, 39, 40, 42, 43, 44, 45, 46, 47, 49, 50, 51, 52, 53, 54, 56, 57, 58, 59, 60, 61, 62, 63, 64, 65, 66]
noncomputable abbrev looseQ : List Str := [Str.ofString "MATE_LEAST", Str.ofString "SearchStopped"]
noncomputable abbrev readQ : List (Str × WData) := [(Str.ofString "MATE_LEAST", WData.int 31754)]
noncomputable abbrev rowQ : OpenRow := PySem.Challenge.rw_pf0102_01.row
@[reducible] noncomputable def xtQ (s : Shared) : Bool := xlAt viewQ readQ s && recOk (RowW.records rowQ.toRowW) s
set_option maxRecDepth 100000 in
theorem opening_plain : opening PySem.Challenge.pw_pf0102_01 = plainProg PySem.Challenge.pw_pf0102_01.main.scope.names := by kernel_rfl
theorem fence_none : ∀ s, fenceModules? PySem.Challenge.pw_pf0102_01 s = some s := fun s => by kernel_rfl
theorem boot_here : ∀ w : World, (fencedOpening treeTable PySem.Challenge.pw_pf0102_01 w 5294).map (fun s => (s.heap, s.gens, s.drawn, s.toks)) = some (boot_heap w.params, Array.mk [], boot_drawn, boot_toks) := boot_open opening_plain (by decide +kernel) fence_none
set_option maxRecDepth 100000 in
theorem size_here : ∀ w : World, ((boot_heap w.params).isNs mainGlobals && (Array.mk [] : Array GenState).size == 0, (boot_heap w.params).objs.size, (boot_heap w.params).nsMap mainGlobals "__annotations__") = (true, nat_lit 11, (Option.some (Value.ref 6))) := fun w => by kernel_rfl
@[reducible] noncomputable def oca_12 (P : Params) : Obj := (Obj.mk Value.none (Option.none) (Data.fields (List.toArray [])) (List.toArray []))
@[reducible] noncomputable def oc0_3 (P : Params) : Obj := (Obj.mk (Value.type "dict") (Option.none) (Data.dict (List.toArray [(DictEntry.mk (PyData.keyHash P (Str.ofString "__name__")) (Value.str (Str.ofString "__name__") 165) (Value.str (Str.ofString "chess.errors") 252)), (DictEntry.mk (PyData.keyHash P (Str.ofString "__doc__")) (Value.str (Str.ofString "__doc__") 166) Value.none), (DictEntry.mk (PyData.keyHash P (Str.ofString "__package__")) (Value.str (Str.ofString "__package__") 167) Value.none), (DictEntry.mk (PyData.keyHash P (Str.ofString "__loader__")) (Value.str (Str.ofString "__loader__") 168) (Value.builtin "__main__.__loader__#opaque")), (DictEntry.mk (PyData.keyHash P (Str.ofString "__spec__")) (Value.str (Str.ofString "__spec__") 169) Value.none), (DictEntry.mk (PyData.keyHash P (Str.ofString "__annotations__")) (Value.str (Str.ofString "__annotations__") 170) (Value.ref 6)), (DictEntry.mk (PyData.keyHash P (Str.ofString "__builtins__")) (Value.str (Str.ofString "__builtins__") 171) (Value.ref 4)), (DictEntry.mk (PyData.keyHash P (Str.ofString "__file__")) (Value.str (Str.ofString "__file__") 173) (Value.str (Str.ofString "/claim/cut.py") 172)), (DictEntry.mk (PyData.keyHash P (Str.ofString "__cached__")) (Value.str (Str.ofString "__cached__") 174) Value.none), (DictEntry.mk (PyData.keyHash P (Str.ofString "MATE")) (Value.str (Str.ofString "MATE") 190) (Value.int 32000 189)), (DictEntry.mk (PyData.keyHash P (Str.ofString "DRAW")) (Value.str (Str.ofString "DRAW") 192) (Value.int 0 191)), (DictEntry.mk (PyData.keyHash P (Str.ofString "INFINITE")) (Value.str (Str.ofString "INFINITE") 194) (Value.int 32001 193)), (DictEntry.mk (PyData.keyHash P (Str.ofString "MAX_PLY")) (Value.str (Str.ofString "MAX_PLY") 196) (Value.int 246 195)), (DictEntry.mk (PyData.keyHash P (Str.ofString "MATE_LEAST")) (Value.str (Str.ofString "MATE_LEAST") 198) (Value.int 31754 197)), (DictEntry.mk (PyData.keyHash P (Str.ofString "mated_in")) (Value.str (Str.ofString "mated_in") 205) (Value.ref 21)), (DictEntry.mk (PyData.keyHash P (Str.ofString "mate_in")) (Value.str (Str.ofString "mate_in") 212) (Value.ref 28)), (DictEntry.mk (PyData.keyHash P (Str.ofString "to_table")) (Value.str (Str.ofString "to_table") 220) (Value.ref 35)), (DictEntry.mk (PyData.keyHash P (Str.ofString "from_table")) (Value.str (Str.ofString "from_table") 228) (Value.ref 42)), (DictEntry.mk (PyData.keyHash P (Str.ofString "NO_MOVE")) (Value.str (Str.ofString "NO_MOVE") 230) (Value.int 0 229)), (DictEntry.mk (PyData.keyHash P (Str.ofString "BOUND_UPPER")) (Value.str (Str.ofString "BOUND_UPPER") 232) (Value.int 1 231)), (DictEntry.mk (PyData.keyHash P (Str.ofString "BOUND_LOWER")) (Value.str (Str.ofString "BOUND_LOWER") 234) (Value.int 2 233)), (DictEntry.mk (PyData.keyHash P (Str.ofString "BOUND_EXACT")) (Value.str (Str.ofString "BOUND_EXACT") 236) (Value.int 3 235)), (DictEntry.mk (PyData.keyHash P (Str.ofString "cutoff")) (Value.str (Str.ofString "cutoff") 251) (Value.ref 49)), (DictEntry.mk (PyData.keyHash P (Str.ofString "ChessError")) (Value.str (Str.ofString "ChessError") 282) (Value.ref 66)), (DictEntry.mk (PyData.keyHash P (Str.ofString "SearchStopped")) (Value.str (Str.ofString "SearchStopped") 308) (Value.ref 87))]) 25) (List.toArray []))
@[reducible] noncomputable def oc0_12 (P : Params) : Obj := (Obj.mk Value.none (Option.none) (Data.fields (List.toArray [(Value.int 7 0), (Value.int 0 0), (Value.ref 20), (Value.int 9 0), (Value.int 0 0), (Value.ref 27), (Value.int 11 0), (Value.int 0 0), (Value.ref 34), (Value.int 17 0), (Value.int 0 0), (Value.ref 41), (Value.int 28 0), (Value.int 0 0), (Value.ref 48), (Value.int 41 0), (Value.int 0 0), (Value.ref 55), (Value.int 46 0), (Value.int 0 0), (Value.ref 75)])) (List.toArray []))
@[reducible] noncomputable def oc1_3 (P : Params) : Obj := (Obj.mk (Value.type "dict") (Option.none) (Data.dict (List.toArray [(DictEntry.mk (PyData.keyHash P (Str.ofString "__name__")) (Value.str (Str.ofString "__name__") 165) (Value.str (Str.ofString "chess.picker") 419)), (DictEntry.mk (PyData.keyHash P (Str.ofString "__doc__")) (Value.str (Str.ofString "__doc__") 166) Value.none), (DictEntry.mk (PyData.keyHash P (Str.ofString "__package__")) (Value.str (Str.ofString "__package__") 167) Value.none), (DictEntry.mk (PyData.keyHash P (Str.ofString "__loader__")) (Value.str (Str.ofString "__loader__") 168) (Value.builtin "__main__.__loader__#opaque")), (DictEntry.mk (PyData.keyHash P (Str.ofString "__spec__")) (Value.str (Str.ofString "__spec__") 169) Value.none), (DictEntry.mk (PyData.keyHash P (Str.ofString "__annotations__")) (Value.str (Str.ofString "__annotations__") 170) (Value.ref 6)), (DictEntry.mk (PyData.keyHash P (Str.ofString "__builtins__")) (Value.str (Str.ofString "__builtins__") 171) (Value.ref 4)), (DictEntry.mk (PyData.keyHash P (Str.ofString "__file__")) (Value.str (Str.ofString "__file__") 173) (Value.str (Str.ofString "/claim/cut.py") 172)), (DictEntry.mk (PyData.keyHash P (Str.ofString "__cached__")) (Value.str (Str.ofString "__cached__") 174) Value.none), (DictEntry.mk (PyData.keyHash P (Str.ofString "MATE")) (Value.str (Str.ofString "MATE") 190) (Value.int 32000 189)), (DictEntry.mk (PyData.keyHash P (Str.ofString "DRAW")) (Value.str (Str.ofString "DRAW") 192) (Value.int 0 191)), (DictEntry.mk (PyData.keyHash P (Str.ofString "INFINITE")) (Value.str (Str.ofString "INFINITE") 194) (Value.int 32001 193)), (DictEntry.mk (PyData.keyHash P (Str.ofString "MAX_PLY")) (Value.str (Str.ofString "MAX_PLY") 196) (Value.int 246 195)), (DictEntry.mk (PyData.keyHash P (Str.ofString "MATE_LEAST")) (Value.str (Str.ofString "MATE_LEAST") 198) (Value.int 31754 197)), (DictEntry.mk (PyData.keyHash P (Str.ofString "mated_in")) (Value.str (Str.ofString "mated_in") 205) (Value.ref 21)), (DictEntry.mk (PyData.keyHash P (Str.ofString "mate_in")) (Value.str (Str.ofString "mate_in") 212) (Value.ref 28)), (DictEntry.mk (PyData.keyHash P (Str.ofString "to_table")) (Value.str (Str.ofString "to_table") 220) (Value.ref 35)), (DictEntry.mk (PyData.keyHash P (Str.ofString "from_table")) (Value.str (Str.ofString "from_table") 228) (Value.ref 42)), (DictEntry.mk (PyData.keyHash P (Str.ofString "NO_MOVE")) (Value.str (Str.ofString "NO_MOVE") 230) (Value.int 0 229)), (DictEntry.mk (PyData.keyHash P (Str.ofString "BOUND_UPPER")) (Value.str (Str.ofString "BOUND_UPPER") 232) (Value.int 1 231)), (DictEntry.mk (PyData.keyHash P (Str.ofString "BOUND_LOWER")) (Value.str (Str.ofString "BOUND_LOWER") 234) (Value.int 2 233)), (DictEntry.mk (PyData.keyHash P (Str.ofString "BOUND_EXACT")) (Value.str (Str.ofString "BOUND_EXACT") 236) (Value.int 3 235)), (DictEntry.mk (PyData.keyHash P (Str.ofString "cutoff")) (Value.str (Str.ofString "cutoff") 251) (Value.ref 49)), (DictEntry.mk (PyData.keyHash P (Str.ofString "ChessError")) (Value.str (Str.ofString "ChessError") 282) (Value.ref 66)), (DictEntry.mk (PyData.keyHash P (Str.ofString "SearchStopped")) (Value.str (Str.ofString "SearchStopped") 308) (Value.ref 87)), (DictEntry.mk (PyData.keyHash P (Str.ofString "SearchContext")) (Value.str (Str.ofString "SearchContext") 361) (Value.ref 113)), (DictEntry.mk (PyData.keyHash P (Str.ofString "step_into")) (Value.str (Str.ofString "step_into") 369) (Value.ref 124)), (DictEntry.mk (PyData.keyHash P (Str.ofString "step_back")) (Value.str (Str.ofString "step_back") 376) (Value.ref 131)), (DictEntry.mk (PyData.keyHash P (Str.ofString "clear_line")) (Value.str (Str.ofString "clear_line") 384) (Value.ref 138)), (DictEntry.mk (PyData.keyHash P (Str.ofString "set_line")) (Value.str (Str.ofString "set_line") 393) (Value.ref 145)), (DictEntry.mk (PyData.keyHash P (Str.ofString "start_count")) (Value.str (Str.ofString "start_count") 401) (Value.ref 152)), (DictEntry.mk (PyData.keyHash P (Str.ofString "reward")) (Value.str (Str.ofString "reward") 418) (Value.ref 159)), (DictEntry.mk (PyData.keyHash P (Str.ofString "TABLE_STAGE")) (Value.str (Str.ofString "TABLE_STAGE") 422) (Value.int 0 421)), (DictEntry.mk (PyData.keyHash P (Str.ofString "GOOD_STAGE")) (Value.str (Str.ofString "GOOD_STAGE") 424) (Value.int 1 423)), (DictEntry.mk (PyData.keyHash P (Str.ofString "KILLER_STAGE")) (Value.str (Str.ofString "KILLER_STAGE") 426) (Value.int 2 425)), (DictEntry.mk (PyData.keyHash P (Str.ofString "QUIET_STAGE")) (Value.str (Str.ofString "QUIET_STAGE") 428) (Value.int 3 427)), (DictEntry.mk (PyData.keyHash P (Str.ofString "END_STAGE")) (Value.str (Str.ofString "END_STAGE") 430) (Value.int 5 429)), (DictEntry.mk (PyData.keyHash P (Str.ofString "killer_pair")) (Value.str (Str.ofString "killer_pair") 438) (Value.ref 166))]) 38) (List.toArray []))
@[reducible] noncomputable def oc1_12 (P : Params) : Obj := (Obj.mk Value.none (Option.none) (Data.fields (List.toArray [(Value.int 7 0), (Value.int 0 0), (Value.ref 20), (Value.int 9 0), (Value.int 0 0), (Value.ref 27), (Value.int 11 0), (Value.int 0 0), (Value.ref 34), (Value.int 17 0), (Value.int 0 0), (Value.ref 41), (Value.int 28 0), (Value.int 0 0), (Value.ref 48), (Value.int 41 0), (Value.int 0 0), (Value.ref 55), (Value.int 46 0), (Value.int 0 0), (Value.ref 75), (Value.int 52 0), (Value.int 0 0), (Value.ref 95), (Value.int 70 0), (Value.int 0 0), (Value.ref 123), (Value.int 73 0), (Value.int 0 0), (Value.ref 130), (Value.int 76 0), (Value.int 0 0), (Value.ref 137), (Value.int 80 0), (Value.int 0 0), (Value.ref 144), (Value.int 82 0), (Value.int 0 0), (Value.ref 151), (Value.int 86 0), (Value.int 0 0), (Value.ref 158), (Value.int 99 0), (Value.int 0 0), (Value.ref 165)])) (List.toArray []))
@[reducible] noncomputable def oc2_3 (P : Params) : Obj := (Obj.mk (Value.type "dict") (Option.none) (Data.dict (List.toArray [(DictEntry.mk (PyData.keyHash P (Str.ofString "__name__")) (Value.str (Str.ofString "__name__") 165) (Value.str (Str.ofString "chess.pvs") 571)), (DictEntry.mk (PyData.keyHash P (Str.ofString "__doc__")) (Value.str (Str.ofString "__doc__") 166) Value.none), (DictEntry.mk (PyData.keyHash P (Str.ofString "__package__")) (Value.str (Str.ofString "__package__") 167) Value.none), (DictEntry.mk (PyData.keyHash P (Str.ofString "__loader__")) (Value.str (Str.ofString "__loader__") 168) (Value.builtin "__main__.__loader__#opaque")), (DictEntry.mk (PyData.keyHash P (Str.ofString "__spec__")) (Value.str (Str.ofString "__spec__") 169) Value.none), (DictEntry.mk (PyData.keyHash P (Str.ofString "__annotations__")) (Value.str (Str.ofString "__annotations__") 170) (Value.ref 6)), (DictEntry.mk (PyData.keyHash P (Str.ofString "__builtins__")) (Value.str (Str.ofString "__builtins__") 171) (Value.ref 4)), (DictEntry.mk (PyData.keyHash P (Str.ofString "__file__")) (Value.str (Str.ofString "__file__") 173) (Value.str (Str.ofString "/claim/cut.py") 172)), (DictEntry.mk (PyData.keyHash P (Str.ofString "__cached__")) (Value.str (Str.ofString "__cached__") 174) Value.none), (DictEntry.mk (PyData.keyHash P (Str.ofString "MATE")) (Value.str (Str.ofString "MATE") 190) (Value.int 32000 189)), (DictEntry.mk (PyData.keyHash P (Str.ofString "DRAW")) (Value.str (Str.ofString "DRAW") 192) (Value.int 0 191)), (DictEntry.mk (PyData.keyHash P (Str.ofString "INFINITE")) (Value.str (Str.ofString "INFINITE") 194) (Value.int 32001 193)), (DictEntry.mk (PyData.keyHash P (Str.ofString "MAX_PLY")) (Value.str (Str.ofString "MAX_PLY") 196) (Value.int 246 195)), (DictEntry.mk (PyData.keyHash P (Str.ofString "MATE_LEAST")) (Value.str (Str.ofString "MATE_LEAST") 198) (Value.int 31754 197)), (DictEntry.mk (PyData.keyHash P (Str.ofString "mated_in")) (Value.str (Str.ofString "mated_in") 205) (Value.ref 21)), (DictEntry.mk (PyData.keyHash P (Str.ofString "mate_in")) (Value.str (Str.ofString "mate_in") 212) (Value.ref 28)), (DictEntry.mk (PyData.keyHash P (Str.ofString "to_table")) (Value.str (Str.ofString "to_table") 220) (Value.ref 35)), (DictEntry.mk (PyData.keyHash P (Str.ofString "from_table")) (Value.str (Str.ofString "from_table") 228) (Value.ref 42)), (DictEntry.mk (PyData.keyHash P (Str.ofString "NO_MOVE")) (Value.str (Str.ofString "NO_MOVE") 230) (Value.int 0 229)), (DictEntry.mk (PyData.keyHash P (Str.ofString "BOUND_UPPER")) (Value.str (Str.ofString "BOUND_UPPER") 232) (Value.int 1 231)), (DictEntry.mk (PyData.keyHash P (Str.ofString "BOUND_LOWER")) (Value.str (Str.ofString "BOUND_LOWER") 234) (Value.int 2 233)), (DictEntry.mk (PyData.keyHash P (Str.ofString "BOUND_EXACT")) (Value.str (Str.ofString "BOUND_EXACT") 236) (Value.int 3 235)), (DictEntry.mk (PyData.keyHash P (Str.ofString "cutoff")) (Value.str (Str.ofString "cutoff") 251) (Value.ref 49)), (DictEntry.mk (PyData.keyHash P (Str.ofString "ChessError")) (Value.str (Str.ofString "ChessError") 282) (Value.ref 66)), (DictEntry.mk (PyData.keyHash P (Str.ofString "SearchStopped")) (Value.str (Str.ofString "SearchStopped") 308) (Value.ref 87)), (DictEntry.mk (PyData.keyHash P (Str.ofString "SearchContext")) (Value.str (Str.ofString "SearchContext") 361) (Value.ref 113)), (DictEntry.mk (PyData.keyHash P (Str.ofString "step_into")) (Value.str (Str.ofString "step_into") 369) (Value.ref 124)), (DictEntry.mk (PyData.keyHash P (Str.ofString "step_back")) (Value.str (Str.ofString "step_back") 376) (Value.ref 131)), (DictEntry.mk (PyData.keyHash P (Str.ofString "clear_line")) (Value.str (Str.ofString "clear_line") 384) (Value.ref 138)), (DictEntry.mk (PyData.keyHash P (Str.ofString "set_line")) (Value.str (Str.ofString "set_line") 393) (Value.ref 145)), (DictEntry.mk (PyData.keyHash P (Str.ofString "start_count")) (Value.str (Str.ofString "start_count") 401) (Value.ref 152)), (DictEntry.mk (PyData.keyHash P (Str.ofString "reward")) (Value.str (Str.ofString "reward") 418) (Value.ref 159)), (DictEntry.mk (PyData.keyHash P (Str.ofString "TABLE_STAGE")) (Value.str (Str.ofString "TABLE_STAGE") 422) (Value.int 0 421)), (DictEntry.mk (PyData.keyHash P (Str.ofString "GOOD_STAGE")) (Value.str (Str.ofString "GOOD_STAGE") 424) (Value.int 1 423)), (DictEntry.mk (PyData.keyHash P (Str.ofString "KILLER_STAGE")) (Value.str (Str.ofString "KILLER_STAGE") 426) (Value.int 2 425)), (DictEntry.mk (PyData.keyHash P (Str.ofString "QUIET_STAGE")) (Value.str (Str.ofString "QUIET_STAGE") 428) (Value.int 3 427)), (DictEntry.mk (PyData.keyHash P (Str.ofString "END_STAGE")) (Value.str (Str.ofString "END_STAGE") 430) (Value.int 5 429)), (DictEntry.mk (PyData.keyHash P (Str.ofString "killer_pair")) (Value.str (Str.ofString "killer_pair") 438) (Value.ref 166)), (DictEntry.mk (PyData.keyHash P (Str.ofString "past_score")) (Value.str (Str.ofString "past_score") 447) (Value.ref 173)), (DictEntry.mk (PyData.keyHash P (Str.ofString "Picker")) (Value.str (Str.ofString "Picker") 529) (Value.ref 223)), (DictEntry.mk (PyData.keyHash P (Str.ofString "take_best")) (Value.str (Str.ofString "take_best") 538) (Value.ref 234)), (DictEntry.mk (PyData.keyHash P (Str.ofString "quiesce")) (Value.str (Str.ofString "quiesce") 554) (Value.ref 241)), (DictEntry.mk (PyData.keyHash P (Str.ofString "quiesce_moves")) (Value.str (Str.ofString "quiesce_moves") 570) (Value.ref 248)), (DictEntry.mk (PyData.keyHash P (Str.ofString "IID_DEPTH")) (Value.str (Str.ofString "IID_DEPTH") 574) (Value.int 4 573)), (DictEntry.mk (PyData.keyHash P (Str.ofString "search")) (Value.str (Str.ofString "search") 593) (Value.ref 255)), (DictEntry.mk (PyData.keyHash P (Str.ofString "search_moves")) (Value.str (Str.ofString "search_moves") 619) (Value.ref 262))]) 46) (List.toArray []))
@[reducible] noncomputable def oc2_12 (P : Params) : Obj := (Obj.mk Value.none (Option.none) (Data.fields (List.toArray [(Value.int 7 0), (Value.int 0 0), (Value.ref 20), (Value.int 9 0), (Value.int 0 0), (Value.ref 27), (Value.int 11 0), (Value.int 0 0), (Value.ref 34), (Value.int 17 0), (Value.int 0 0), (Value.ref 41), (Value.int 28 0), (Value.int 0 0), (Value.ref 48), (Value.int 41 0), (Value.int 0 0), (Value.ref 55), (Value.int 46 0), (Value.int 0 0), (Value.ref 75), (Value.int 52 0), (Value.int 0 0), (Value.ref 95), (Value.int 70 0), (Value.int 0 0), (Value.ref 123), (Value.int 73 0), (Value.int 0 0), (Value.ref 130), (Value.int 76 0), (Value.int 0 0), (Value.ref 137), (Value.int 80 0), (Value.int 0 0), (Value.ref 144), (Value.int 82 0), (Value.int 0 0), (Value.ref 151), (Value.int 86 0), (Value.int 0 0), (Value.ref 158), (Value.int 99 0), (Value.int 0 0), (Value.ref 165), (Value.int 103 0), (Value.int 0 0), (Value.ref 172), (Value.int 107 0), (Value.int 0 0), (Value.ref 179), (Value.int 168 0), (Value.int 0 0), (Value.ref 233), (Value.int 175 0), (Value.int 0 0), (Value.ref 240), (Value.int 191 0), (Value.int 0 0), (Value.ref 247), (Value.int 207 0), (Value.int 0 0), (Value.ref 254), (Value.int 237 0), (Value.int 0 0), (Value.ref 261)])) (List.toArray []))
set_option maxRecDepth 100000 in
noncomputable def treeRs (P : Params) : BT := (.node (boot_o_0 P) (.node (boot_o_1 P) (.node (boot_o_3 P) (.node (boot_o_7 P) .nil .nil) (.node (ob11 P) .nil .nil)) (.node (boot_o_5 P) (.node (boot_o_9 P) .nil .nil) (.node (ob13 P) .nil .nil))) (.node (boot_o_2 P) (.node (boot_o_4 P) (.node (boot_o_8 P) .nil .nil) (.node (oca_12 P) .nil .nil)) (.node (boot_o_6 P) (.node (boot_o_10 P) .nil .nil) (.node (ob14 P) .nil .nil))))
set_option maxRecDepth 100000 in
noncomputable def treeR0 (P : Params) : BT := (.node (boot_o_0 P) (.node (boot_o_1 P) (.node (oc0_3 P) (.node (boot_o_7 P) (.node (ob15 P) (.node (ob31 P) (.node (ob63 P) .nil .nil) .nil) (.node (ob47 P) (.node (ob79 P) .nil .nil) .nil)) (.node (ob23 P) (.node (ob39 P) (.node (ob71 P) .nil .nil) .nil) (.node (ob55 P) (.node (ob87 P) .nil .nil) .nil))) (.node (ob11 P) (.node (ob19 P) (.node (ob35 P) (.node (ob67 P) .nil .nil) .nil) (.node (ob51 P) (.node (ob83 P) .nil .nil) .nil)) (.node (ob27 P) (.node (ob43 P) (.node (ob75 P) .nil .nil) .nil) (.node (ob59 P) .nil .nil)))) (.node (boot_o_5 P) (.node (boot_o_9 P) (.node (ob17 P) (.node (ob33 P) (.node (ob65 P) .nil .nil) .nil) (.node (ob49 P) (.node (ob81 P) .nil .nil) .nil)) (.node (ob25 P) (.node (ob41 P) (.node (ob73 P) .nil .nil) .nil) (.node (ob57 P) (.node (ob89 P) .nil .nil) .nil))) (.node (ob13 P) (.node (ob21 P) (.node (ob37 P) (.node (ob69 P) .nil .nil) .nil) (.node (ob53 P) (.node (ob85 P) .nil .nil) .nil)) (.node (ob29 P) (.node (ob45 P) (.node (ob77 P) .nil .nil) .nil) (.node (ob61 P) .nil .nil))))) (.node (ob2 P) (.node (boot_o_4 P) (.node (boot_o_8 P) (.node (ob16 P) (.node (ob32 P) (.node (ob64 P) .nil .nil) .nil) (.node (ob48 P) (.node (ob80 P) .nil .nil) .nil)) (.node (ob24 P) (.node (ob40 P) (.node (ob72 P) .nil .nil) .nil) (.node (ob56 P) (.node (ob88 P) .nil .nil) .nil))) (.node (oc0_12 P) (.node (ob20 P) (.node (ob36 P) (.node (ob68 P) .nil .nil) .nil) (.node (ob52 P) (.node (ob84 P) .nil .nil) .nil)) (.node (ob28 P) (.node (ob44 P) (.node (ob76 P) .nil .nil) .nil) (.node (ob60 P) .nil .nil)))) (.node (boot_o_6 P) (.node (boot_o_10 P) (.node (ob18 P) (.node (ob34 P) (.node (ob66 P) .nil .nil) .nil) (.node (ob50 P) (.node (ob82 P) .nil .nil) .nil)) (.node (ob26 P) (.node (ob42 P) (.node (ob74 P) .nil .nil) .nil) (.node (ob58 P) .nil .nil))) (.node (ob14 P) (.node (ob22 P) (.node (ob38 P) (.node (ob70 P) .nil .nil) .nil) (.node (ob54 P) (.node (ob86 P) .nil .nil) .nil)) (.node (ob30 P) (.node (ob46 P) (.node (ob78 P) .nil .nil) .nil) (.node (ob62 P) .nil .nil))))))
set_option maxRecDepth 100000 in
noncomputable def treeR1 (P : Params) : BT := (.node (boot_o_0 P) (.node (boot_o_1 P) (.node (oc1_3 P) (.node (boot_o_7 P) (.node (ob15 P) (.node (ob31 P) (.node (ob63 P) (.node (ob127 P) .nil .nil) .nil) (.node (ob95 P) (.node (ob159 P) .nil .nil) .nil)) (.node (ob47 P) (.node (ob79 P) (.node (ob143 P) .nil .nil) .nil) (.node (ob111 P) .nil .nil))) (.node (ob23 P) (.node (ob39 P) (.node (ob71 P) (.node (ob135 P) .nil .nil) .nil) (.node (ob103 P) .nil .nil)) (.node (ob55 P) (.node (ob87 P) (.node (ob151 P) .nil .nil) .nil) (.node (ob119 P) .nil .nil)))) (.node (ob11 P) (.node (ob19 P) (.node (ob35 P) (.node (ob67 P) (.node (ob131 P) .nil .nil) .nil) (.node (ob99 P) (.node (ob163 P) .nil .nil) .nil)) (.node (ob51 P) (.node (ob83 P) (.node (ob147 P) .nil .nil) .nil) (.node (ob115 P) .nil .nil))) (.node (ob27 P) (.node (ob43 P) (.node (ob75 P) (.node (ob139 P) .nil .nil) .nil) (.node (ob107 P) .nil .nil)) (.node (ob59 P) (.node (ob91 P) (.node (ob155 P) .nil .nil) .nil) (.node (ob123 P) .nil .nil))))) (.node (boot_o_5 P) (.node (boot_o_9 P) (.node (ob17 P) (.node (ob33 P) (.node (ob65 P) (.node (ob129 P) .nil .nil) .nil) (.node (ob97 P) (.node (ob161 P) .nil .nil) .nil)) (.node (ob49 P) (.node (ob81 P) (.node (ob145 P) .nil .nil) .nil) (.node (ob113 P) .nil .nil))) (.node (ob25 P) (.node (ob41 P) (.node (ob73 P) (.node (ob137 P) .nil .nil) .nil) (.node (ob105 P) .nil .nil)) (.node (ob57 P) (.node (ob89 P) (.node (ob153 P) .nil .nil) .nil) (.node (ob121 P) .nil .nil)))) (.node (ob13 P) (.node (ob21 P) (.node (ob37 P) (.node (ob69 P) (.node (ob133 P) .nil .nil) .nil) (.node (ob101 P) (.node (ob165 P) .nil .nil) .nil)) (.node (ob53 P) (.node (ob85 P) (.node (ob149 P) .nil .nil) .nil) (.node (ob117 P) .nil .nil))) (.node (ob29 P) (.node (ob45 P) (.node (ob77 P) (.node (ob141 P) .nil .nil) .nil) (.node (ob109 P) .nil .nil)) (.node (ob61 P) (.node (ob93 P) (.node (ob157 P) .nil .nil) .nil) (.node (ob125 P) .nil .nil)))))) (.node (ob2 P) (.node (boot_o_4 P) (.node (boot_o_8 P) (.node (ob16 P) (.node (ob32 P) (.node (ob64 P) (.node (ob128 P) .nil .nil) .nil) (.node (ob96 P) (.node (ob160 P) .nil .nil) .nil)) (.node (ob48 P) (.node (ob80 P) (.node (ob144 P) .nil .nil) .nil) (.node (ob112 P) .nil .nil))) (.node (ob24 P) (.node (ob40 P) (.node (ob72 P) (.node (ob136 P) .nil .nil) .nil) (.node (ob104 P) .nil .nil)) (.node (ob56 P) (.node (ob88 P) (.node (ob152 P) .nil .nil) .nil) (.node (ob120 P) .nil .nil)))) (.node (oc1_12 P) (.node (ob20 P) (.node (ob36 P) (.node (ob68 P) (.node (ob132 P) .nil .nil) .nil) (.node (ob100 P) (.node (ob164 P) .nil .nil) .nil)) (.node (ob52 P) (.node (ob84 P) (.node (ob148 P) .nil .nil) .nil) (.node (ob116 P) .nil .nil))) (.node (ob28 P) (.node (ob44 P) (.node (ob76 P) (.node (ob140 P) .nil .nil) .nil) (.node (ob108 P) .nil .nil)) (.node (ob60 P) (.node (ob92 P) (.node (ob156 P) .nil .nil) .nil) (.node (ob124 P) .nil .nil))))) (.node (boot_o_6 P) (.node (boot_o_10 P) (.node (ob18 P) (.node (ob34 P) (.node (ob66 P) (.node (ob130 P) .nil .nil) .nil) (.node (ob98 P) (.node (ob162 P) .nil .nil) .nil)) (.node (ob50 P) (.node (ob82 P) (.node (ob146 P) .nil .nil) .nil) (.node (ob114 P) .nil .nil))) (.node (ob26 P) (.node (ob42 P) (.node (ob74 P) (.node (ob138 P) .nil .nil) .nil) (.node (ob106 P) .nil .nil)) (.node (ob58 P) (.node (ob90 P) (.node (ob154 P) .nil .nil) .nil) (.node (ob122 P) .nil .nil)))) (.node (ob14 P) (.node (ob22 P) (.node (ob38 P) (.node (ob70 P) (.node (ob134 P) .nil .nil) .nil) (.node (ob102 P) (.node (ob166 P) .nil .nil) .nil)) (.node (ob54 P) (.node (ob86 P) (.node (ob150 P) .nil .nil) .nil) (.node (ob118 P) .nil .nil))) (.node (ob30 P) (.node (ob46 P) (.node (ob78 P) (.node (ob142 P) .nil .nil) .nil) (.node (ob110 P) .nil .nil)) (.node (ob62 P) (.node (ob94 P) (.node (ob158 P) .nil .nil) .nil) (.node (ob126 P) .nil .nil)))))))
set_option maxRecDepth 100000 in
noncomputable def treeR2 (P : Params) : BT := (.node (boot_o_0 P) (.node (boot_o_1 P) (.node (oc2_3 P) (.node (boot_o_7 P) (.node (ob15 P) (.node (ob31 P) (.node (ob63 P) (.node (ob127 P) (.node (ob255 P) .nil .nil) .nil) (.node (ob191 P) .nil .nil)) (.node (ob95 P) (.node (ob159 P) .nil .nil) (.node (ob223 P) .nil .nil))) (.node (ob47 P) (.node (ob79 P) (.node (ob143 P) .nil .nil) (.node (ob207 P) .nil .nil)) (.node (ob111 P) (.node (ob175 P) .nil .nil) (.node (ob239 P) .nil .nil)))) (.node (ob23 P) (.node (ob39 P) (.node (ob71 P) (.node (ob135 P) .nil .nil) (.node (ob199 P) .nil .nil)) (.node (ob103 P) (.node (ob167 P) .nil .nil) (.node (ob231 P) .nil .nil))) (.node (ob55 P) (.node (ob87 P) (.node (ob151 P) .nil .nil) (.node (ob215 P) .nil .nil)) (.node (ob119 P) (.node (ob183 P) .nil .nil) (.node (ob247 P) .nil .nil))))) (.node (ob11 P) (.node (ob19 P) (.node (ob35 P) (.node (ob67 P) (.node (ob131 P) (.node (ob259 P) .nil .nil) .nil) (.node (ob195 P) .nil .nil)) (.node (ob99 P) (.node (ob163 P) .nil .nil) (.node (ob227 P) .nil .nil))) (.node (ob51 P) (.node (ob83 P) (.node (ob147 P) .nil .nil) (.node (ob211 P) .nil .nil)) (.node (ob115 P) (.node (ob179 P) .nil .nil) (.node (ob243 P) .nil .nil)))) (.node (ob27 P) (.node (ob43 P) (.node (ob75 P) (.node (ob139 P) .nil .nil) (.node (ob203 P) .nil .nil)) (.node (ob107 P) (.node (ob171 P) .nil .nil) (.node (ob235 P) .nil .nil))) (.node (ob59 P) (.node (ob91 P) (.node (ob155 P) .nil .nil) (.node (ob219 P) .nil .nil)) (.node (ob123 P) (.node (ob187 P) .nil .nil) (.node (ob251 P) .nil .nil)))))) (.node (boot_o_5 P) (.node (boot_o_9 P) (.node (ob17 P) (.node (ob33 P) (.node (ob65 P) (.node (ob129 P) (.node (ob257 P) .nil .nil) .nil) (.node (ob193 P) .nil .nil)) (.node (ob97 P) (.node (ob161 P) .nil .nil) (.node (ob225 P) .nil .nil))) (.node (ob49 P) (.node (ob81 P) (.node (ob145 P) .nil .nil) (.node (ob209 P) .nil .nil)) (.node (ob113 P) (.node (ob177 P) .nil .nil) (.node (ob241 P) .nil .nil)))) (.node (ob25 P) (.node (ob41 P) (.node (ob73 P) (.node (ob137 P) .nil .nil) (.node (ob201 P) .nil .nil)) (.node (ob105 P) (.node (ob169 P) .nil .nil) (.node (ob233 P) .nil .nil))) (.node (ob57 P) (.node (ob89 P) (.node (ob153 P) .nil .nil) (.node (ob217 P) .nil .nil)) (.node (ob121 P) (.node (ob185 P) .nil .nil) (.node (ob249 P) .nil .nil))))) (.node (ob13 P) (.node (ob21 P) (.node (ob37 P) (.node (ob69 P) (.node (ob133 P) (.node (ob261 P) .nil .nil) .nil) (.node (ob197 P) .nil .nil)) (.node (ob101 P) (.node (ob165 P) .nil .nil) (.node (ob229 P) .nil .nil))) (.node (ob53 P) (.node (ob85 P) (.node (ob149 P) .nil .nil) (.node (ob213 P) .nil .nil)) (.node (ob117 P) (.node (ob181 P) .nil .nil) (.node (ob245 P) .nil .nil)))) (.node (ob29 P) (.node (ob45 P) (.node (ob77 P) (.node (ob141 P) .nil .nil) (.node (ob205 P) .nil .nil)) (.node (ob109 P) (.node (ob173 P) .nil .nil) (.node (ob237 P) .nil .nil))) (.node (ob61 P) (.node (ob93 P) (.node (ob157 P) .nil .nil) (.node (ob221 P) .nil .nil)) (.node (ob125 P) (.node (ob189 P) .nil .nil) (.node (ob253 P) .nil .nil))))))) (.node (ob2 P) (.node (boot_o_4 P) (.node (boot_o_8 P) (.node (ob16 P) (.node (ob32 P) (.node (ob64 P) (.node (ob128 P) (.node (ob256 P) .nil .nil) .nil) (.node (ob192 P) .nil .nil)) (.node (ob96 P) (.node (ob160 P) .nil .nil) (.node (ob224 P) .nil .nil))) (.node (ob48 P) (.node (ob80 P) (.node (ob144 P) .nil .nil) (.node (ob208 P) .nil .nil)) (.node (ob112 P) (.node (ob176 P) .nil .nil) (.node (ob240 P) .nil .nil)))) (.node (ob24 P) (.node (ob40 P) (.node (ob72 P) (.node (ob136 P) .nil .nil) (.node (ob200 P) .nil .nil)) (.node (ob104 P) (.node (ob168 P) .nil .nil) (.node (ob232 P) .nil .nil))) (.node (ob56 P) (.node (ob88 P) (.node (ob152 P) .nil .nil) (.node (ob216 P) .nil .nil)) (.node (ob120 P) (.node (ob184 P) .nil .nil) (.node (ob248 P) .nil .nil))))) (.node (oc2_12 P) (.node (ob20 P) (.node (ob36 P) (.node (ob68 P) (.node (ob132 P) (.node (ob260 P) .nil .nil) .nil) (.node (ob196 P) .nil .nil)) (.node (ob100 P) (.node (ob164 P) .nil .nil) (.node (ob228 P) .nil .nil))) (.node (ob52 P) (.node (ob84 P) (.node (ob148 P) .nil .nil) (.node (ob212 P) .nil .nil)) (.node (ob116 P) (.node (ob180 P) .nil .nil) (.node (ob244 P) .nil .nil)))) (.node (ob28 P) (.node (ob44 P) (.node (ob76 P) (.node (ob140 P) .nil .nil) (.node (ob204 P) .nil .nil)) (.node (ob108 P) (.node (ob172 P) .nil .nil) (.node (ob236 P) .nil .nil))) (.node (ob60 P) (.node (ob92 P) (.node (ob156 P) .nil .nil) (.node (ob220 P) .nil .nil)) (.node (ob124 P) (.node (ob188 P) .nil .nil) (.node (ob252 P) .nil .nil)))))) (.node (boot_o_6 P) (.node (boot_o_10 P) (.node (ob18 P) (.node (ob34 P) (.node (ob66 P) (.node (ob130 P) (.node (ob258 P) .nil .nil) .nil) (.node (ob194 P) .nil .nil)) (.node (ob98 P) (.node (ob162 P) .nil .nil) (.node (ob226 P) .nil .nil))) (.node (ob50 P) (.node (ob82 P) (.node (ob146 P) .nil .nil) (.node (ob210 P) .nil .nil)) (.node (ob114 P) (.node (ob178 P) .nil .nil) (.node (ob242 P) .nil .nil)))) (.node (ob26 P) (.node (ob42 P) (.node (ob74 P) (.node (ob138 P) .nil .nil) (.node (ob202 P) .nil .nil)) (.node (ob106 P) (.node (ob170 P) .nil .nil) (.node (ob234 P) .nil .nil))) (.node (ob58 P) (.node (ob90 P) (.node (ob154 P) .nil .nil) (.node (ob218 P) .nil .nil)) (.node (ob122 P) (.node (ob186 P) .nil .nil) (.node (ob250 P) .nil .nil))))) (.node (ob14 P) (.node (ob22 P) (.node (ob38 P) (.node (ob70 P) (.node (ob134 P) (.node (ob262 P) .nil .nil) .nil) (.node (ob198 P) .nil .nil)) (.node (ob102 P) (.node (ob166 P) .nil .nil) (.node (ob230 P) .nil .nil))) (.node (ob54 P) (.node (ob86 P) (.node (ob150 P) .nil .nil) (.node (ob214 P) .nil .nil)) (.node (ob118 P) (.node (ob182 P) .nil .nil) (.node (ob246 P) .nil .nil)))) (.node (ob30 P) (.node (ob46 P) (.node (ob78 P) (.node (ob142 P) .nil .nil) (.node (ob206 P) .nil .nil)) (.node (ob110 P) (.node (ob174 P) .nil .nil) (.node (ob238 P) .nil .nil))) (.node (ob62 P) (.node (ob94 P) (.node (ob158 P) .nil .nil) (.node (ob222 P) .nil .nil)) (.node (ob126 P) (.node (ob190 P) .nil .nil) (.node (ob254 P) .nil .nil))))))))
set_option maxRecDepth 100000 in
noncomputable def treeR3 (P : Params) : BT := (.node (boot_o_0 P) (.node (boot_o_1 P) (.node (ob3 P) (.node (boot_o_7 P) (.node (ob15 P) (.node (ob31 P) (.node (ob63 P) (.node (ob127 P) (.node (ob255 P) .nil .nil) (.node (ob383 P) .nil .nil)) (.node (ob191 P) (.node (ob319 P) .nil .nil) .nil)) (.node (ob95 P) (.node (ob159 P) (.node (ob287 P) .nil .nil) .nil) (.node (ob223 P) (.node (ob351 P) .nil .nil) .nil))) (.node (ob47 P) (.node (ob79 P) (.node (ob143 P) (.node (ob271 P) .nil .nil) .nil) (.node (ob207 P) (.node (ob335 P) .nil .nil) .nil)) (.node (ob111 P) (.node (ob175 P) (.node (ob303 P) .nil .nil) .nil) (.node (ob239 P) (.node (ob367 P) .nil .nil) .nil)))) (.node (ob23 P) (.node (ob39 P) (.node (ob71 P) (.node (ob135 P) (.node (ob263 P) .nil .nil) .nil) (.node (ob199 P) (.node (ob327 P) .nil .nil) .nil)) (.node (ob103 P) (.node (ob167 P) (.node (ob295 P) .nil .nil) .nil) (.node (ob231 P) (.node (ob359 P) .nil .nil) .nil))) (.node (ob55 P) (.node (ob87 P) (.node (ob151 P) (.node (ob279 P) .nil .nil) .nil) (.node (ob215 P) (.node (ob343 P) .nil .nil) .nil)) (.node (ob119 P) (.node (ob183 P) (.node (ob311 P) .nil .nil) .nil) (.node (ob247 P) (.node (ob375 P) .nil .nil) .nil))))) (.node (ob11 P) (.node (ob19 P) (.node (ob35 P) (.node (ob67 P) (.node (ob131 P) (.node (ob259 P) .nil .nil) (.node (ob387 P) .nil .nil)) (.node (ob195 P) (.node (ob323 P) .nil .nil) .nil)) (.node (ob99 P) (.node (ob163 P) (.node (ob291 P) .nil .nil) .nil) (.node (ob227 P) (.node (ob355 P) .nil .nil) .nil))) (.node (ob51 P) (.node (ob83 P) (.node (ob147 P) (.node (ob275 P) .nil .nil) .nil) (.node (ob211 P) (.node (ob339 P) .nil .nil) .nil)) (.node (ob115 P) (.node (ob179 P) (.node (ob307 P) .nil .nil) .nil) (.node (ob243 P) (.node (ob371 P) .nil .nil) .nil)))) (.node (ob27 P) (.node (ob43 P) (.node (ob75 P) (.node (ob139 P) (.node (ob267 P) .nil .nil) .nil) (.node (ob203 P) (.node (ob331 P) .nil .nil) .nil)) (.node (ob107 P) (.node (ob171 P) (.node (ob299 P) .nil .nil) .nil) (.node (ob235 P) (.node (ob363 P) .nil .nil) .nil))) (.node (ob59 P) (.node (ob91 P) (.node (ob155 P) (.node (ob283 P) .nil .nil) .nil) (.node (ob219 P) (.node (ob347 P) .nil .nil) .nil)) (.node (ob123 P) (.node (ob187 P) (.node (ob315 P) .nil .nil) .nil) (.node (ob251 P) (.node (ob379 P) .nil .nil) .nil)))))) (.node (boot_o_5 P) (.node (boot_o_9 P) (.node (ob17 P) (.node (ob33 P) (.node (ob65 P) (.node (ob129 P) (.node (ob257 P) .nil .nil) (.node (ob385 P) .nil .nil)) (.node (ob193 P) (.node (ob321 P) .nil .nil) .nil)) (.node (ob97 P) (.node (ob161 P) (.node (ob289 P) .nil .nil) .nil) (.node (ob225 P) (.node (ob353 P) .nil .nil) .nil))) (.node (ob49 P) (.node (ob81 P) (.node (ob145 P) (.node (ob273 P) .nil .nil) .nil) (.node (ob209 P) (.node (ob337 P) .nil .nil) .nil)) (.node (ob113 P) (.node (ob177 P) (.node (ob305 P) .nil .nil) .nil) (.node (ob241 P) (.node (ob369 P) .nil .nil) .nil)))) (.node (ob25 P) (.node (ob41 P) (.node (ob73 P) (.node (ob137 P) (.node (ob265 P) .nil .nil) .nil) (.node (ob201 P) (.node (ob329 P) .nil .nil) .nil)) (.node (ob105 P) (.node (ob169 P) (.node (ob297 P) .nil .nil) .nil) (.node (ob233 P) (.node (ob361 P) .nil .nil) .nil))) (.node (ob57 P) (.node (ob89 P) (.node (ob153 P) (.node (ob281 P) .nil .nil) .nil) (.node (ob217 P) (.node (ob345 P) .nil .nil) .nil)) (.node (ob121 P) (.node (ob185 P) (.node (ob313 P) .nil .nil) .nil) (.node (ob249 P) (.node (ob377 P) .nil .nil) .nil))))) (.node (ob13 P) (.node (ob21 P) (.node (ob37 P) (.node (ob69 P) (.node (ob133 P) (.node (ob261 P) .nil .nil) .nil) (.node (ob197 P) (.node (ob325 P) .nil .nil) .nil)) (.node (ob101 P) (.node (ob165 P) (.node (ob293 P) .nil .nil) .nil) (.node (ob229 P) (.node (ob357 P) .nil .nil) .nil))) (.node (ob53 P) (.node (ob85 P) (.node (ob149 P) (.node (ob277 P) .nil .nil) .nil) (.node (ob213 P) (.node (ob341 P) .nil .nil) .nil)) (.node (ob117 P) (.node (ob181 P) (.node (ob309 P) .nil .nil) .nil) (.node (ob245 P) (.node (ob373 P) .nil .nil) .nil)))) (.node (ob29 P) (.node (ob45 P) (.node (ob77 P) (.node (ob141 P) (.node (ob269 P) .nil .nil) .nil) (.node (ob205 P) (.node (ob333 P) .nil .nil) .nil)) (.node (ob109 P) (.node (ob173 P) (.node (ob301 P) .nil .nil) .nil) (.node (ob237 P) (.node (ob365 P) .nil .nil) .nil))) (.node (ob61 P) (.node (ob93 P) (.node (ob157 P) (.node (ob285 P) .nil .nil) .nil) (.node (ob221 P) (.node (ob349 P) .nil .nil) .nil)) (.node (ob125 P) (.node (ob189 P) (.node (ob317 P) .nil .nil) .nil) (.node (ob253 P) (.node (ob381 P) .nil .nil) .nil))))))) (.node (ob2 P) (.node (boot_o_4 P) (.node (boot_o_8 P) (.node (ob16 P) (.node (ob32 P) (.node (ob64 P) (.node (ob128 P) (.node (ob256 P) .nil .nil) (.node (ob384 P) .nil .nil)) (.node (ob192 P) (.node (ob320 P) .nil .nil) .nil)) (.node (ob96 P) (.node (ob160 P) (.node (ob288 P) .nil .nil) .nil) (.node (ob224 P) (.node (ob352 P) .nil .nil) .nil))) (.node (ob48 P) (.node (ob80 P) (.node (ob144 P) (.node (ob272 P) .nil .nil) .nil) (.node (ob208 P) (.node (ob336 P) .nil .nil) .nil)) (.node (ob112 P) (.node (ob176 P) (.node (ob304 P) .nil .nil) .nil) (.node (ob240 P) (.node (ob368 P) .nil .nil) .nil)))) (.node (ob24 P) (.node (ob40 P) (.node (ob72 P) (.node (ob136 P) (.node (ob264 P) .nil .nil) .nil) (.node (ob200 P) (.node (ob328 P) .nil .nil) .nil)) (.node (ob104 P) (.node (ob168 P) (.node (ob296 P) .nil .nil) .nil) (.node (ob232 P) (.node (ob360 P) .nil .nil) .nil))) (.node (ob56 P) (.node (ob88 P) (.node (ob152 P) (.node (ob280 P) .nil .nil) .nil) (.node (ob216 P) (.node (ob344 P) .nil .nil) .nil)) (.node (ob120 P) (.node (ob184 P) (.node (ob312 P) .nil .nil) .nil) (.node (ob248 P) (.node (ob376 P) .nil .nil) .nil))))) (.node (ob12 P) (.node (ob20 P) (.node (ob36 P) (.node (ob68 P) (.node (ob132 P) (.node (ob260 P) .nil .nil) (.node (ob388 P) .nil .nil)) (.node (ob196 P) (.node (ob324 P) .nil .nil) .nil)) (.node (ob100 P) (.node (ob164 P) (.node (ob292 P) .nil .nil) .nil) (.node (ob228 P) (.node (ob356 P) .nil .nil) .nil))) (.node (ob52 P) (.node (ob84 P) (.node (ob148 P) (.node (ob276 P) .nil .nil) .nil) (.node (ob212 P) (.node (ob340 P) .nil .nil) .nil)) (.node (ob116 P) (.node (ob180 P) (.node (ob308 P) .nil .nil) .nil) (.node (ob244 P) (.node (ob372 P) .nil .nil) .nil)))) (.node (ob28 P) (.node (ob44 P) (.node (ob76 P) (.node (ob140 P) (.node (ob268 P) .nil .nil) .nil) (.node (ob204 P) (.node (ob332 P) .nil .nil) .nil)) (.node (ob108 P) (.node (ob172 P) (.node (ob300 P) .nil .nil) .nil) (.node (ob236 P) (.node (ob364 P) .nil .nil) .nil))) (.node (ob60 P) (.node (ob92 P) (.node (ob156 P) (.node (ob284 P) .nil .nil) .nil) (.node (ob220 P) (.node (ob348 P) .nil .nil) .nil)) (.node (ob124 P) (.node (ob188 P) (.node (ob316 P) .nil .nil) .nil) (.node (ob252 P) (.node (ob380 P) .nil .nil) .nil)))))) (.node (boot_o_6 P) (.node (boot_o_10 P) (.node (ob18 P) (.node (ob34 P) (.node (ob66 P) (.node (ob130 P) (.node (ob258 P) .nil .nil) (.node (ob386 P) .nil .nil)) (.node (ob194 P) (.node (ob322 P) .nil .nil) .nil)) (.node (ob98 P) (.node (ob162 P) (.node (ob290 P) .nil .nil) .nil) (.node (ob226 P) (.node (ob354 P) .nil .nil) .nil))) (.node (ob50 P) (.node (ob82 P) (.node (ob146 P) (.node (ob274 P) .nil .nil) .nil) (.node (ob210 P) (.node (ob338 P) .nil .nil) .nil)) (.node (ob114 P) (.node (ob178 P) (.node (ob306 P) .nil .nil) .nil) (.node (ob242 P) (.node (ob370 P) .nil .nil) .nil)))) (.node (ob26 P) (.node (ob42 P) (.node (ob74 P) (.node (ob138 P) (.node (ob266 P) .nil .nil) .nil) (.node (ob202 P) (.node (ob330 P) .nil .nil) .nil)) (.node (ob106 P) (.node (ob170 P) (.node (ob298 P) .nil .nil) .nil) (.node (ob234 P) (.node (ob362 P) .nil .nil) .nil))) (.node (ob58 P) (.node (ob90 P) (.node (ob154 P) (.node (ob282 P) .nil .nil) .nil) (.node (ob218 P) (.node (ob346 P) .nil .nil) .nil)) (.node (ob122 P) (.node (ob186 P) (.node (ob314 P) .nil .nil) .nil) (.node (ob250 P) (.node (ob378 P) .nil .nil) .nil))))) (.node (ob14 P) (.node (ob22 P) (.node (ob38 P) (.node (ob70 P) (.node (ob134 P) (.node (ob262 P) .nil .nil) .nil) (.node (ob198 P) (.node (ob326 P) .nil .nil) .nil)) (.node (ob102 P) (.node (ob166 P) (.node (ob294 P) .nil .nil) .nil) (.node (ob230 P) (.node (ob358 P) .nil .nil) .nil))) (.node (ob54 P) (.node (ob86 P) (.node (ob150 P) (.node (ob278 P) .nil .nil) .nil) (.node (ob214 P) (.node (ob342 P) .nil .nil) .nil)) (.node (ob118 P) (.node (ob182 P) (.node (ob310 P) .nil .nil) .nil) (.node (ob246 P) (.node (ob374 P) .nil .nil) .nil)))) (.node (ob30 P) (.node (ob46 P) (.node (ob78 P) (.node (ob142 P) (.node (ob270 P) .nil .nil) .nil) (.node (ob206 P) (.node (ob334 P) .nil .nil) .nil)) (.node (ob110 P) (.node (ob174 P) (.node (ob302 P) .nil .nil) .nil) (.node (ob238 P) (.node (ob366 P) .nil .nil) .nil))) (.node (ob62 P) (.node (ob94 P) (.node (ob158 P) (.node (ob286 P) .nil .nil) .nil) (.node (ob222 P) (.node (ob350 P) .nil .nil) .nil)) (.node (ob126 P) (.node (ob190 P) (.node (ob318 P) .nil .nil) .nil) (.node (ob254 P) (.node (ob382 P) .nil .nil) .nil))))))))
@[reducible] noncomputable def envQ : Env := { scope := PySem.Challenge.pw_pf0102_01.main.scope, locals := mainNs, globals := mainNs, cells := [], code := (Value.ref 13), frame := some 14 }
noncomputable def bodyQ : List Stmt := behindTheImports PySem.Challenge.pw_pf0102_01
noncomputable abbrev codeQ : Code := Code.body bodyQ envQ
noncomputable abbrev posQ : Pos := (Pos.mk 0 0 0 0)
noncomputable abbrev lifeQ : Life := (Life.mk [] [] [] 0 [] [] Bool.false (List.toArray []) [] 0 Bool.false Bool.false Bool.false 0 [2000, 10, 10] Bool.false 0 Bool.true [] [] 0 Bool.false)
noncomputable abbrev drawnQ : Drawn := (Drawn.mk 0 0 0 0)
set_option maxRecDepth 100000 in
theorem runPre : ∀ (w : World) (os : OsState), topGo treeTable PySem.Challenge.pw_pf0102_01 w (nat_lit 11) (Option.some (Value.ref 6)) 12 ⟨boot_heap w.params, Array.mk [], boot_drawn, boot_toks, os⟩ (topStub PySem.Challenge.pw_pf0102_01) = some ((SharedT.abs ⟨treeRs w.params, nat_lit 15, lifeQ, Array.mk [], drawnQ, nat_lit 187, os⟩), ⟨denote treeTable codeQ, codeQ, (Pos.mk 0 0 0 0), [topFrame posQ]⟩) := fun w os => by kernel_rfl
theorem runBlock : ∀ (w : World) (os : OsState), segRun treeTable PySem.Challenge.pw_pf0102_01 w (nat_lit 11) (Option.some (Value.ref 6)) 1 1 (SharedT.abs ⟨treeRs w.params, nat_lit 15, lifeQ, Array.mk [], drawnQ, nat_lit 187, os⟩) (blockOf bodyQ envQ codeQ (Pos.mk 0 0 0 0) [topFrame posQ]) = some (.next, (SharedT.abs ⟨treeRs w.params, nat_lit 15, lifeQ, Array.mk [], drawnQ, nat_lit 187, os⟩), codeQ, (Pos.mk 0 0 0 0)) := fun w os => by kernel_rfl
noncomputable def stsR0 : List Stmt := (bodyQ.drop 0).take 19
set_option maxRecDepth 100000 in
theorem run0 : ∀ (w : World) (os : OsState), segRunT treeTable PySem.Challenge.pw_pf0102_01 w (nat_lit 11) (Option.some (Value.ref 6)) 1 745 ⟨treeRs w.params, nat_lit 15, lifeQ, Array.mk [], drawnQ, nat_lit 187, os⟩ (piecesOf stsR0 envQ codeQ (Pos.mk 0 0 0 0) [topFrame posQ]) = some (.next, ⟨treeR0 w.params, nat_lit 90, lifeQ, Array.mk [], drawnQ, nat_lit 309, os⟩, codeQ, (Pos.mk 46 0 50 26)) := fun w os => by kernel_rfl
noncomputable def stsR1 : List Stmt := (bodyQ.drop 19).take 16
set_option maxRecDepth 100000 in
theorem run1 : ∀ (w : World) (os : OsState), segRunT treeTable PySem.Challenge.pw_pf0102_01 w (nat_lit 11) (Option.some (Value.ref 6)) 1 558 ⟨treeR0 w.params, nat_lit 90, lifeQ, Array.mk [], drawnQ, nat_lit 309, os⟩ (piecesOf stsR1 envQ codeQ (Pos.mk 46 0 50 26) [topFrame posQ]) = some (.next, ⟨treeR1 w.params, nat_lit 167, lifeQ, Array.mk [], drawnQ, nat_lit 439, os⟩, codeQ, (Pos.mk 99 0 102 28)) := fun w os => by kernel_rfl
noncomputable def stsR2 : List Stmt := (bodyQ.drop 35).take 10
set_option maxRecDepth 100000 in
theorem run2 : ∀ (w : World) (os : OsState), segRunT treeTable PySem.Challenge.pw_pf0102_01 w (nat_lit 11) (Option.some (Value.ref 6)) 1 646 ⟨treeR1 w.params, nat_lit 167, lifeQ, Array.mk [], drawnQ, nat_lit 439, os⟩ (piecesOf stsR2 envQ codeQ (Pos.mk 99 0 102 28) [topFrame posQ]) = some (.next, ⟨treeR2 w.params, nat_lit 263, lifeQ, Array.mk [], drawnQ, nat_lit 620, os⟩, codeQ, (Pos.mk 237 0 270 15)) := fun w os => by kernel_rfl
noncomputable def stsR3 : List Stmt := (bodyQ.drop 45).take 22
set_option maxRecDepth 100000 in
theorem run3 : ∀ (w : World) (os : OsState), segRunT treeTable PySem.Challenge.pw_pf0102_01 w (nat_lit 11) (Option.some (Value.ref 6)) 1 639 ⟨treeR2 w.params, nat_lit 263, lifeQ, Array.mk [], drawnQ, nat_lit 620, os⟩ (piecesOf stsR3 envQ codeQ (Pos.mk 237 0 270 15) [topFrame posQ]) = some (.next, ⟨treeR3 w.params, nat_lit 389, lifeQ, Array.mk [], drawnQ, nat_lit 834, os⟩, codeQ, (Pos.mk 412 0 439 15)) := fun w os => by kernel_rfl
set_option maxRecDepth 100000 in
theorem runFin : ∀ (w : World) (os : OsState), topRun treeTable PySem.Challenge.pw_pf0102_01 w (nat_lit 11) (Option.some (Value.ref 6)) 2 (SharedT.abs ⟨treeR3 w.params, nat_lit 389, lifeQ, Array.mk [], drawnQ, nat_lit 834, os⟩) ⟨doneF .next, codeQ, (Pos.mk 412 0 439 15), [topFrame posQ]⟩ = some ⟨heapE w.params, Array.mk [], drawnQ, nat_lit 834, os⟩ := fun w os => by kernel_rfl
set_option maxRecDepth 100000 in
theorem bodyCut : bodyQ = stsR0 ++ (stsR1 ++ (stsR2 ++ (stsR3 ++ []))) := by kernel_rfl
set_option maxRecDepth 100000 in
theorem run_here : ∀ (w : World) (os : OsState), topRun treeTable PySem.Challenge.pw_pf0102_01 w (nat_lit 11) (Option.some (Value.ref 6)) (12 + (1 + (745 + (558 + (646 + (639 + 2)))))) ⟨boot_heap w.params, Array.mk [], boot_drawn, boot_toks, os⟩ (topStub PySem.Challenge.pw_pf0102_01) = some ⟨heapE w.params, Array.mk [], drawnQ, nat_lit 834, os⟩ := fun w os =>
  go_top (runPre w os) (piece_block (runBlock w os) (by rw [bodyCut]; exact piece_app (segRun_of (run0 w os)) (piece_app (segRun_of (run1 w os)) (piece_app (segRun_of (run2 w os)) (piece_app (segRun_of (run3 w os)) (piece_nil (runFin w os)))))))
noncomputable abbrev modsQ : List Str := importedModules PySem.Challenge.pw_pf0102_01.main.body
noncomputable abbrev sharedQ (w : World) (os : OsState) : Shared := ⟨heapE w.params, Array.mk [], (Drawn.mk 0 0 0 0), nat_lit 834, os⟩
set_option maxRecDepth 100000 in
theorem look1 : ∀ w : World, (fun os : OsState => (seen ((recsOf viewQ).map (·.name)) (ownsOf viewQ) [] { sharedQ w os with gens := #[] }, (heapE w.params).keysOk (looseW viewQ looseQ) ((recsOf viewQ).map (·.name)) ((litsOf viewQ).map (·.1)) ((clssOf viewQ (looseW viewQ looseQ)).map (·.name)), tabsOk viewQ (sharedQ w os))) = fun _ => (expectedOf viewQ, true, true) := fun w => by kernel_rfl
set_option maxRecDepth 100000 in
theorem look2 : ∀ w : World, (fun os : OsState => (plainSeenE viewQ (looseW viewQ looseQ) (sharedQ w os), wideSeen viewQ (sharedQ w os), pinSeenD viewQ (drecsOf viewQ) (sharedQ w os), plainSeenD viewQ looseQ (sharedQ w os), clsSeenW viewQ looseQ (sharedQ w os))) = fun _ => (plainGoodE viewQ (looseW viewQ looseQ), wideGood viewQ, pinGoodD (drecsOf viewQ), plainGoodD viewQ looseQ, clsGoodW viewQ looseQ) := fun w => by kernel_rfl
set_option maxRecDepth 100000 in
theorem look3 : ∀ w : World, (fun os : OsState => (staticsOk modsQ (boot_heap w.params) (heapE w.params) && namesBound PySem.Challenge.pw_pf0102_01 (heapE w.params) && gensDone (sharedQ w os) && laidKept (boot_heap w.params) (heapE w.params), (heapE w.params).accountedOkI modsQ, (heapE w.params).isNs mainGlobals, (heapE w.params).isNs builtinsNs, tablesOk viewQ (heapE w.params), xtQ (sharedQ w os), (if true then (sharedQ w os).gens.size == 0 else !leftWithCleanup (sharedQ w os).gens), (heapE w.params).bltView)) = fun _ => (true, true, true, true, true, true, true, bltViewBooted) := fun w => by kernel_rfl
set_option maxRecDepth 100000 in
theorem look4 : ∀ w : World, keysK.map (Heap.get? (heapE w.params)) = (hd.heap_39 w.params).map fun p => some p.2 := fun w => by kernel_rfl
theorem pair_eq {α β : Type} {a a' : α} {b b' : β} (x : a = a') (y : b = b') : (a, b) = (a', b') := by rw [x, y]
theorem and_of {a b : Bool} (x : a = true) (y : b = true) : (a && b) = true := by rw [x, y]; rfl
theorem look5 (w : World) (os : OsState) : openSeen viewQ looseQ modsQ xtQ true (sharedQ w os) = openGood viewQ looseQ := by
  have h1 := congrFun (look1 w) os
  have h2 := congrFun (look2 w) os
  have h3 := congrFun (look3 w) os
  simp only [Prod.mk.injEq] at h1 h2 h3
  obtain ⟨a1, a2, a3⟩ := h1
  obtain ⟨b1, b2, b3, b4, b5⟩ := h2
  obtain ⟨_, c2, c3, c4, c5, c6, c7, c8⟩ := h3
  exact pair_eq a1 (pair_eq c8 (pair_eq (and_of (and_of (and_of (and_of (and_of (and_of a2 c2) c3) c4) c5) c6) c7) (pair_eq a3 (pair_eq b3 (pair_eq b1 (pair_eq b4 (pair_eq b2 b5)))))))
theorem looks_here : ∀ w : World, (fun os => ((staticsOk modsQ (boot_heap w.params) (heapE w.params) && namesBound PySem.Challenge.pw_pf0102_01 (heapE w.params) && gensDone ⟨heapE w.params, Array.mk [], (Drawn.mk 0 0 0 0), nat_lit 834, os⟩ && laidKept (boot_heap w.params) (heapE w.params)),
        openSeen viewQ looseQ modsQ xtQ true ⟨heapE w.params, Array.mk [], (Drawn.mk 0 0 0 0), nat_lit 834, os⟩, keysK.map (Heap.get? (heapE w.params)))) = fun _ => (true, openGood viewQ looseQ, (hd.heap_39 w.params).map fun p => some p.2) := fun w => funext fun os => by
  have h3 := congrArg Prod.fst (congrFun (look3 w) os)
  exact pair_eq h3 (pair_eq (look5 w os) (look4 w))

theorem keys_ok : ∀ P, keysK = (hd.heap_39 P).map (·.1) := fun P => by kernel_rfl
theorem left : LeftO rowQ.prog viewQ looseQ xtQ (kHook hd.heap_39 keysK keys_ok).obs (kHook hd.heap_39 keysK keys_ok).val 5294 := LeftO.of_pieces boot_here size_here run_here (by decide +kernel) looks_here
set_option maxRecDepth 100000 in
set_option maxHeartbeats 8000000 in
theorem said_here : PySem.Challenge.rw_pf0102_01.wellSaid = true := by
  delta OpenLaw.wellSaid
  repeat' (first | with_reducible refine look_both ?_ ?_ | (with_reducible show OpenRow.wellSaid _ = true; delta OpenRow.wellSaid) | (with_reducible show OpenRow.partSaid _ = true; delta OpenRow.partSaid) | (with_reducible show looksOpen _ = true; delta looksOpen))
  all_goals decide +kernel
set_option maxRecDepth 100000 in
theorem ok_here : (chainsOk viewQ && opensWell rowQ.prog && (frees rowQ.toRowW && rowQ.within.isEmpty)) = true := by decide +kernel
noncomputable abbrev PR : Program := PySem.Challenge.rw_pf0102_01.row.prog
theorem fillK : (fun (_ : OpenLaw) (_ : Params → Frag) => True) PySem.Challenge.rw_pf0102_01 hd.heap_39 := by
  k_fill
  trivial

/-- places that differ, the first above all others -/
noncomputable def Dist : List Nat → Prop
  | [] => True
  | a :: l => (∀ b ∈ l, b ≠ a) ∧ Dist l
noncomputable def DB : List Nat → Prop
  | [] => True
  | a :: l => (∀ b ∈ l, b < a) ∧ Dist l
theorem DB.dist : ∀ {as : List Nat}, DB as → Dist as
  | [], _ => trivial
  | _ :: _, h => ⟨fun b hb => Nat.ne_of_lt (h.1 b hb), h.2⟩
theorem DB.cons {news : List (Addr × Obj)} {as : List Nat} {d : Nat} (D : Dist as) (h : ∀ p ∈ news, p.1 < d) (e : news.map (·.1) = as) : DB (d :: as) := by
  subst e
  refine ⟨fun b hb => ?_, D⟩
  obtain ⟨p, hp, rfl⟩ := List.mem_map.mp hb
  exact h p hp
theorem Dist.tl {as : List Nat} {a : Nat} (D : Dist (a :: as)) : Dist as := D.2
theorem DB.c1 {as : List Nat} {a : Nat} (D : DB (a :: as)) : DB ((a + 1) :: as) := ⟨fun b hb => Nat.lt_succ_of_lt (D.1 b hb), D.2⟩
theorem DB.head2 {as : List Nat} {a b : Nat} (D : DB (a :: b :: as)) : @LT.lt Nat _ b a := D.1 b (.head _)
theorem DB.up {as : List Nat} {d x : Nat} (D : DB (d :: as)) (h : d < x) : DB (x :: d :: as) := by
  refine ⟨fun b hb => ?_, D.dist⟩
  rcases List.mem_cons.mp hb with rfl | hb
  · exact h
  · exact Nat.lt_trans (D.1 b hb) h
theorem DB.c2 {as : List Nat} {a : Nat} (D : DB (a :: as)) : DB ((a + 1 + 1) :: (a + 1) :: as) := D.c1.up (Nat.lt_succ_self _)
theorem DB.two {as : List Nat} {a x y z : Nat} (D : DB (a :: as)) (h1 : a < x) (h2 : x < y) (h3 : y < z) : DB (z :: x :: y :: a :: as) := by
  have U := D.up h1
  refine ⟨fun b hb => ?_, ⟨fun b hb => ?_, fun b hb => ?_, D.dist⟩⟩
  · rcases List.mem_cons.mp hb with rfl | hb
    · omega
    rcases List.mem_cons.mp hb with rfl | hb
    · exact h3
    · have := U.1 b hb
      omega
  · rcases List.mem_cons.mp hb with rfl | hb
    · omega
    · have := U.1 b hb
      omega
  · have := U.1 b hb
    omega
theorem DB.base2 {x y z : Nat} (h2 : x < y) (h3 : y < z) : DB [z, x, y] := by
  refine ⟨fun b hb => ?_, ⟨fun b hb => ?_, fun b hb => (nomatch hb), trivial⟩⟩
  · simp only [List.mem_cons, List.not_mem_nil, or_false] at hb
    omega
  · simp only [List.mem_cons, List.not_mem_nil, or_false] at hb
    omega
theorem DB.base {L : Nat} (h : @LT.lt Nat _ 327 L ∧ @LT.lt Nat _ 383 L) : DB [L + 1 + 1 + 1 + 1 + 1, L + 1 + 1 + 1 + 1, L + 1 + 1 + 1, L + 1 + 1, L + 1, 327, 383] := by
  refine DB.up (DB.up (DB.up (DB.up (?_ : DB [L + 1, 327, 383]) (Nat.lt_succ_self _)) (Nat.lt_succ_self _)) (Nat.lt_succ_self _)) (Nat.lt_succ_self _)
  refine ⟨fun b hb => ?_, fun b hb => ?_, fun b hb => (nomatch hb), trivial⟩
  · simp only [List.mem_cons, List.not_mem_nil, or_false] at hb
    omega
  · simp only [List.mem_cons, List.not_mem_nil, or_false] at hb
    omega
theorem DB.lt {as : List Nat} {a b : Nat} (D : DB (a :: as)) (h : b ∈ as) : @LT.lt Nat _ b a := D.1 b h
theorem DB.ofDist {as : List Nat} (D : Dist as) : ∃ x, DB (x :: as) := by
  have h : ∀ l : List Nat, ∃ x, ∀ b ∈ l, b < x := by
    intro l
    induction l with
    | nil => exact ⟨0, fun b hb => nomatch hb⟩
    | cons a l ih =>
      obtain ⟨x, hx⟩ := ih
      refine ⟨x + a + 1, fun b hb => ?_⟩
      rcases List.mem_cons.mp hb with rfl | hb
      · omega
      · have := hx b hb
        omega
  obtain ⟨x, hx⟩ := h as
  exact ⟨x, hx, D⟩
theorem Dist.consNe {news : List (Addr × Obj)} {as : List Nat} {a : Nat} (D : Dist as) (h : ∀ p ∈ news, p.1 ≠ a) (e : news.map (·.1) = as) : Dist (a :: as) := by
  subst e
  refine ⟨fun b hb => ?_, D⟩
  obtain ⟨p, hp, rfl⟩ := List.mem_map.mp hb
  exact h p hp
/-- a store's place in the ledger -/
inductive AtU (d : Addr) (o o' : Obj) : List (Addr × Obj) → List (Addr × Obj) → Prop
  | head {r} : AtU d o o' ((d, o) :: r) ((d, o') :: r)
  | tail {p r r'} : AtU d o o' r r' → AtU d o o' (p :: r) (p :: r')
theorem AtU.mem {d : Addr} {o o' : Obj} : ∀ {l l' : List (Addr × Obj)}, AtU d o o' l l' → d ∈ l.map (·.1)
  | _, _, .head => .head _
  | _, _, .tail h => .tail _ h.mem
theorem AtU.upd0 {d : Addr} {o o' : Obj} : ∀ {l l' : List (Addr × Obj)}, AtU d o o' l l' → Dist (l.map (·.1)) → Upd d o o' l l'
  | _, _, .head, D => .head fun p hp => D.1 _ (List.mem_map_of_mem hp)
  | _, _, .tail h, D => .tail (fun e => D.1 _ h.mem e.symm) (h.upd0 D.2)
theorem AtU.upd {d : Addr} {o o' : Obj} {l l' : List (Addr × Obj)} {as : List Nat} (D : Dist as) (e : l.map (·.1) = as) (h : AtU d o o' l l') : Upd d o o' l l' := h.upd0 (e ▸ D)
inductive AtF (d : Addr) (o : Obj) : List (Addr × Obj) → (Obj → List (Addr × Obj)) → Prop
  | head {r} : AtF d o ((d, o) :: r) (fun o' => (d, o') :: r)
  | tail {p r g} : AtF d o r g → AtF d o (p :: r) (fun o' => p :: g o')
theorem AtF.mem {d : Addr} {o : Obj} : ∀ {l : List (Addr × Obj)} {g : Obj → List (Addr × Obj)}, AtF d o l g → d ∈ l.map (·.1)
  | _, _, .head => .head _
  | _, _, .tail h => .tail _ h.mem
theorem AtF.upd0 {d : Addr} {o : Obj} : ∀ {l : List (Addr × Obj)} {g : Obj → List (Addr × Obj)}, AtF d o l g → Dist (l.map (·.1)) → UpdF d o l g
  | _, _, .head, D => .head fun p hp => D.1 _ (List.mem_map_of_mem hp)
  | _, _, .tail h, D => .tail (fun e => D.1 _ h.mem e.symm) (h.upd0 D.2)
theorem AtF.upd {d : Addr} {o : Obj} {l : List (Addr × Obj)} {g : Obj → List (Addr × Obj)} {as : List Nat} (D : Dist as) (e : l.map (·.1) = as) (h : AtF d o l g) : UpdF d o l g := h.upd0 (e ▸ D)
/-- out of a chain of bounds -/
theorem pickAnd {x y a : Nat} {B : Prop} (h : a < y ∧ B) (p : (a < y ∧ B) → x < y) : x < y := p h
theorem andR {A B C : Prop} (h : B → C) : (A ∧ B) → C := fun x => h x.2
/-- what the ground of a callee holds -/
noncomputable def Holds' (h g : Heap) (as : List Addr) : Prop := ∀ b o, h.get? b = some o → b ∉ as → g.get? b = some o

section
variable {prog : Program} {w : World} {A₀ A : Around} {s : Shared} {base h₀ : Heap} {outer : List Env} {L : Addr} {m : Str → Option Value} {env : Env} {news : List (Addr × Obj)} {K : Frag} {p : Program} {loose : List Str} {mean : ExcName → Option Value} {mg mb : Str → Option Value}
  {R : Result → Shared → Prop} {name qual : Str} {params : Arguments} {body : List Stmt} {scope : Scope} {cl : List (Str × Addr)} {dV kV doc pm cdv ct oc : Value} {an od : Option Addr} {osl : Array (Option Value)} {fo : Obj} {f : Addr} {args : Args} {binds : List (Str × Value)}

theorem enterX (B : Below A₀ base outer h₀) (F : Fr h₀ L s.heap m) (N : News h₀ L s.heap news) (hlim : h₀.NoLimit) (hA : A.frames = some (env :: outer)) (hf : env.frame = some L) (hke : env.scope.kind = .function)
    (ho : s.heap.get? f = some fo) (hd : fo.data = .func (fnX name qual params body scope cl dV kV doc pm an cdv ct)) (hcd : s.heap.CodeRec cdv qual) (hroom : A.depth < recursionLimit)
    (hbind : BindsTo s (fnX name qual params body scope cl dV kV doc pm an cdv ct) args binds) (hloc : ∀ y ∈ binds, scope.names.lookup y.1 = some .local)
    (h : ∀ g L' h₁, Fr h₀ L g m → Fr g L' h₁ (fun y => binds.reverse.lookup y) → News g L' h₁ news → Below A base (env :: outer) g → h₀.StaysIn g → (∀ p ∈ news, p.1 < L') → Holds' s.heap g (news.map (·.1)) →
      wpAny (model prog w) (A.deeper (envX qual scope L' f cdv cl)) (execs body (envX qual scope L' f cdv cl))
        (fun fl s' => LeaveK h₀ L m g R (match fl with | .ret v => v | _ => .none) s')
        (fun e s' => wpAny (model prog w) (A.deeper (envX qual scope L' f cdv cl)) (leaving (envX qual scope L' f cdv cl) e) (fun _ s'' => R (.error e) s'') (fun e' s'' => R (.error e') s'') s')
        { s with heap := h₁, toks := s.toks + binds.length })
    (hcell : ∀ x ∈ scope.names, x.2 ≠ .cell) (hco : scope.isCoroutine = false := by rfl) (hgen : scope.isGenerator = false := by rfl) (hk : scope.kind = .function := by rfl) : codeAny (model prog w) A (.call (.ref f) args) R s := by
  obtain ⟨FG, BG, st, lv⟩ := groundX (R := R) B F N hA hf hke
  refine codeAny_call_def (fd := fnX name qual params body scope cl dV kV doc pm an cdv ct) (body := body) (binds := binds) hroom ho hd (hlim.keeps F.keep) hcd rfl hbind hcell hloc (fun h₁ hns hk₁ => ?_) hco hgen hk
  refine wpAny_mono (h _ s.heap.objs.size h₁ FG ⟨hns, fun b o e => hk₁ b o (of_hideAll _ e), Nat.le_of_eq (hideAll_size _ _)⟩
    (fun p hp => ⟨hk₁ _ _ (N p hp).1, Nat.ne_of_lt (Heap.lt_size (N p hp).1), hideAll_none _ (List.mem_map_of_mem hp)⟩) BG st (fun p hp => Heap.lt_size (N p hp).1) (fun b o e n => hideAll_get _ e n)) (fun fl s' hl => lv _ _ hl) fun _ _ y => y

theorem enterK (B : Below A₀ base outer h₀) (F : Fr h₀ L s.heap m) (X₀ : K.In h₀) (T : Top p loose mean mg mb h₀) (N : News h₀ L s.heap news) (hA : A.frames = some (env :: outer)) (hf : env.frame = some L) (hke : env.scope.kind = .function)
    (ho : K.lookup f = some ⟨oc, od, .func (fnOf name qual params body scope dV kV doc pm an cdv ct), osl⟩) (hcd : codeIn K cdv qual = true) (hroom : A.depth < recursionLimit)
    (hbind : BindsTo s (fnOf name qual params body scope dV kV doc pm an cdv ct) args binds) (hloc : ∀ y ∈ binds, scope.names.lookup y.1 = some .local)
    (h : ∀ g L' h₁, Fr h₀ L g m → Fr g L' h₁ (fun y => binds.reverse.lookup y) → News g L' h₁ news → Below A base (env :: outer) g → K.In g → Top p loose mean mg mb g → AllLt L' news → Holds' s.heap g (news.map (·.1)) →
      wpAny (model prog w) (A.deeper (envOf qual scope L' f cdv)) (execs body (envOf qual scope L' f cdv))
        (fun fl s' => LeaveK h₀ L m g R (match fl with | .ret v => v | _ => .none) s')
        (fun e s' => wpAny (model prog w) (A.deeper (envOf qual scope L' f cdv)) (leaving (envOf qual scope L' f cdv) e) (fun _ s'' => R (.error e) s'') (fun e' s'' => R (.error e') s'') s')
        { s with heap := h₁, toks := s.toks + binds.length })
    (hcell : ∀ x ∈ scope.names, x.2 ≠ .cell) (hco : scope.isCoroutine = false) (hgen : scope.isGenerator = false) (hk : scope.kind = .function) : codeAny (model prog w) A (.call (.ref f) args) R s :=
  enterX (cl := []) B F N T.nolimit hA hf hke ((X₀.keeps F.keep) _ _ ho) rfl (codeRec_of (X₀.keeps F.keep) hcd) hroom hbind hloc (fun g L' h₁ FG F' N' B' st l hg => h g L' h₁ FG F' N' B' (X₀.keeps st) (T.keeps st) (allLt_of l) hg) hcell hco hgen hk
end
local macro_rules | `(tactic| k_lt $h:ident) => `(tactic| first | ((with_reducible rename DB _ => zDB); k_dflt (first | replace zDB := DB.cons zDB.dist $h rfl | replace zDB := DB.cons zDB.dist.tl $h rfl | replace zDB := DB.cons zDB.dist.tl.tl $h rfl | replace zDB := DB.cons zDB.c1.dist $h rfl | replace zDB := DB.cons zDB.c2.dist $h rfl); have hDB := DB.head2 zDB) | (replace $h := allLt_of $h; dsimp only [AllLt] at $h:ident))
local macro_rules | `(tactic| k_lt2 $h:ident) => `(tactic| first | ((with_reducible rename DB _ => zDB); k_dflt (replace zDB := DB.up zDB $h); replace $h := ltN $h) | replace $h := ltN $h)
local macro_rules | `(tactic| tm_at "open") => `(tactic| repeat ((with_reducible rename (∀ p ∈ _, Prod.fst p < _) => hAl); replace hAl := allLt_of hAl; dsimp only [AllLt] at hAl))
local macro_rules | `(tactic| k_ne) => `(tactic| (refine neN ?_; (try dsimp only); first | omega | (tm_at "open"; omega)))
local macro_rules | `(tactic| tm_at "at") => `(tactic| first | exact AtU.head | (refine' AtU.tail ?kt_a; (case kt_a => tm_at "at")))
local macro_rules | `(tactic| tm_at "atf") => `(tactic| first | exact AtF.head | (refine' AtF.tail ?kt_a; (case kt_a => tm_at "atf")))
local macro_rules | `(tactic| k_upd) => `(tactic| ((with_reducible rename DB _ => zDB); k_dflt (first | refine' AtU.upd zDB.dist rfl ?ku_a | refine' AtU.upd zDB.dist.tl rfl ?ku_a | refine' AtU.upd zDB.dist.tl.tl rfl ?ku_a | refine' AtU.upd zDB.c1.dist rfl ?ku_a | refine' AtU.upd zDB.c2.dist rfl ?ku_a); (case ku_a => tm_at "at")))
local macro_rules | `(tactic| k_updF) => `(tactic| ((with_reducible rename DB _ => zDB); k_dflt (first | refine' AtF.upd zDB.dist rfl ?ku_a | refine' AtF.upd zDB.dist.tl rfl ?ku_a | refine' AtF.upd zDB.dist.tl.tl rfl ?ku_a | refine' AtF.upd zDB.c1.dist rfl ?ku_a | refine' AtF.upd zDB.c2.dist rfl ?ku_a); (case ku_a => tm_at "atf")))
local macro_rules | `(tactic| k_room) => `(tactic| ((simp only [depth_under_make, depth_under_kw, depth_in1, depth_deeper, depth_caller, recursionLimit] at *); omega))
section
theorem freshL1 : True := by
  w_top off
  trivial
theorem news_put {h₀ h h' : Heap} {L b : Addr} {ob ob' : Obj} {news : List (Addr × Obj)} {gf : Obj → List (Addr × Obj)} (N : News h₀ L h news) (U : UpdF b ob news gf) (hb : h'.get? b = some ob')
    (keep : ∀ x o, h.get? x = some o → x ≠ b → h'.get? x = some o) : News h₀ L h' (gf ob') := by
  obtain ⟨pre, post, rfl, hg, h1, h2⟩ := U.split
  rw [hg]
  intro q hq
  rcases List.mem_append.mp hq with hq | hq
  · have z := N q (List.mem_append_left _ hq)
    exact ⟨keep _ _ z.1 (h1 q hq), z.2⟩
  · rcases List.mem_cons.mp hq with rfl | hq
    · exact ⟨hb, (N (b, ob) (List.mem_append_right _ (.head _))).2⟩
    · have z := N q (List.mem_append_right _ (.tail _ hq))
      exact ⟨keep _ _ z.1 (h2 q hq), z.2⟩
theorem fmod_range (a m : Int) (h : 0 < m) : 0 ≤ a.fmod m ∧ a.fmod m < m := ⟨Int.fmod_nonneg_of_pos a h, Int.fmod_lt_of_pos a h⟩


set_option maxRecDepth 100000 in
set_option maxHeartbeats 8000000 in
theorem leaf_spec {w : World} {A₀ : Around} {dep un : Nat} {gu : Option (List Code)} {base h₀ : Heap} {env : Env} {outer : List Env} {L : Addr} {m mg mb : Str → Option Value} {p : Program} {loose : List Str} {mean : ExcName → Option Value}
    {E : Value → Shared → Prop} {Q : Value → Shared → Prop} {s : Shared} {b pl : Addr} {ob : Obj} {vs : List Value} {ns : List Int} {ep : Nat} {leaf many : Int} {t t2 : Tok}
    (hdep : dep ≤ 320) (hun : un ≤ 200)
    (B : Below A₀ base outer h₀) (F : Fr h₀ L s.heap m) (X : (hd.heap_39 w.params).In h₀) (T : Top p loose mean mg mb h₀) (hf : env.frame = some L) (hke : env.scope.kind = .function)
    (N : News h₀ L s.heap [(b, ob), (pl, listOf vs.toArray ep)]) (hne : @LT.lt Nat _ b pl) (hI : IntsAre vs ns) (hlen : ns.length ≤ 40)
    (hb : Obj.IsDictOf (PySem.strKind PR w) ob [(Str.ofString "pages", .ref pl), (Str.ofString "leaf", .int leaf t)])
    (h0 : 0 ≤ leaf) (hm : 0 < many)
    (hQ : ∀ r tr h' tk ob' leaf' t', 0 ≤ r → r < many → 0 ≤ leaf' → Fr h₀ L h' m → News h₀ L h' [(b, ob'), (pl, listOf vs.toArray ep)] → Obj.IsDictOf (PySem.strKind PR w) ob' [(Str.ofString "pages", .ref pl), (Str.ofString "leaf", .int leaf' t')] →
      Holds' s.heap h' [b, pl] → Q (.int r tr) { s with heap := h', toks := tk }) :
    wpAny (model PR w) { handled := none, depth := dep, frames := some (env :: outer), guards := gu, units := un } (call (.ref 325) [.ref b, .int many t2]) Q E s := by
  refine wpAny_call ?_
  refine' enterK B F X T N ?kA hf hke ?k6 ?k7 ?k8 ?k9 ?kB ?_ ?c5 ?c2 ?c3 ?c4
  case kA => exact rfl
  case k6 => k_is
  case k7 => k_is
  case k8 => show dep < 1000; omega
  case k9 => exact BindsTo.of_eq rfl
  case c5 => decide
  case kB => exact locs rfl
  case c2 => exact rfl
  case c3 => exact rfl
  case c4 => exact rfl
  intro g' L' h' FG' F' N' B' X' T' l1 hg
  (try dsimp only)
  simp only [AllLt, and_true] at l1
  (try k_fold)
  clear F N X T
  k_steps
  all_goals (
    refine leaveK_ (by assumption) (by assumption) ?_
    intro kF kN
    dsimp only at kN ⊢
    (with_reducible rename Obj.IsDictOf _ _ _ => hdd)
    (with_reducible rename Fr g' _ _ _ => hFF)
    refine hQ _ _ _ _ _ _ _ (fmod_range _ _ (by first | assumption | omega)).1 (fmod_range _ _ (by first | assumption | omega)).2 ?_ kF kN hdd (fun x o e n => hFF.keep x o (hg x o e n))
    omega)

theorem leaf_call {w : World} {A₀ : Around} {dep un : Nat} {gu : Option (List Code)} {base h₀ : Heap} {env : Env} {outer : List Env} {L : Addr} {m mg mb : Str → Option Value} {p : Program} {loose : List Str} {mean : ExcName → Option Value}
    {E : Value → Shared → Prop} {Q : Value → Shared → Prop} {s : Shared} {b pl : Addr} {ob : Obj} {vs : List Value} {ns : List Int} {ep : Nat} {leaf many : Int} {t t2 : Tok} {news : List (Addr × Obj)} {gf : Obj → List (Addr × Obj)} {A : Around}
    (hA : A = { handled := none, depth := dep, frames := some (env :: outer), guards := gu, units := un }) (hdep : dep ≤ 320) (hun : un ≤ 200)
    (B : Below A₀ base outer h₀) (F : Fr h₀ L s.heap m) (X : (hd.heap_39 w.params).In h₀) (T : Top p loose mean mg mb h₀) (hf : env.frame = some L) (hke : env.scope.kind = .function)
    (N : News h₀ L s.heap news) (U : UpdF b ob news gf) (hpl : (pl, listOf vs.toArray ep) ∈ news) (hne : @LT.lt Nat _ b pl) (hI : IntsAre vs ns) (hlen : ns.length ≤ 40)
    (hb : Obj.IsDictOf (PySem.strKind PR w) ob [(Str.ofString "pages", .ref pl), (Str.ofString "leaf", .int leaf t)])
    (h0 : 0 ≤ leaf) (hm : 0 < many)
    (hQ : ∀ r tr h' tk ob' leaf' t', 0 ≤ r → r < many → 0 ≤ leaf' → Fr h₀ L h' m → News h₀ L h' (gf ob') → Obj.IsDictOf (PySem.strKind PR w) ob' [(Str.ofString "pages", .ref pl), (Str.ofString "leaf", .int leaf' t')] →
      Q (.int r tr) { s with heap := h', toks := tk }) :
    wpAny (model PR w) A (call (.ref 325) [.ref b, .int many t2]) Q E s := by
  subst hA
  have hmb : (b, ob) ∈ news := by
    obtain ⟨pre, post, rfl, _⟩ := U.split
    exact List.mem_append_right _ (.head _)
  refine leaf_spec (ep := ep) hdep hun B F X T hf hke (fun q hq => ?_) hne hI hlen hb h0 hm fun r tr h' tk ob' leaf' t' h1 h2 h3 F' N' hd' hk => hQ r tr h' tk ob' leaf' t' h1 h2 h3 F' (news_put N U (N' _ (.head _)).1 fun x o e n => ?_) hd'
  · rcases List.mem_cons.mp hq with rfl | hq
    · exact N _ hmb
    · rcases List.mem_cons.mp hq with rfl | hq
      · exact N _ hpl
      · exact nomatch hq
  · by_cases hx : x = pl
    · subst hx
      have e2 := (N _ hpl).1
      rw [e] at e2
      cases e2
      exact (N' _ (.tail _ (.head _))).1
    · exact hk x o e (by simp [n, hx])
end
section
theorem freshL2 : True := by
  w_top off
  trivial
local macro_rules | `(tactic| walk_at "LeaveK") => `(tactic| (k_dflt (refine' leaveK_ ?k1 ?k2 ?_; (case k1 | k2 => k_asm)); intro kF kN; (try dsimp only at kN ⊢)))
set_option maxRecDepth 100000 in
set_option maxHeartbeats 8000000 in
theorem look_spec {w : World} {A₀ : Around} {dep un : Nat} {gu : Option (List Code)} {base h₀ : Heap} {env : Env} {outer : List Env} {L : Addr} {m mg mb : Str → Option Value} {p : Program} {loose : List Str} {mean : ExcName → Option Value}
    {E : Value → Shared → Prop} {Q : Value → Shared → Prop} {s : Shared} {o vl : Addr} {oo : Obj} {vs : List Value} {ns : List Int} {ep : Nat} {n most : Int} {t t2 : Tok}
    (hdep : dep ≤ 320) (hun : un ≤ 200)
    (B : Below A₀ base outer h₀) (F : Fr h₀ L s.heap m) (X : (hd.heap_39 w.params).In h₀) (T : Top p loose mean mg mb h₀) (hf : env.frame = some L) (hke : env.scope.kind = .function)
    (N : News h₀ L s.heap [(o, oo), (vl, listOf vs.toArray ep)]) (hne : @LT.lt Nat _ vl o) (hI : IntsAre vs ns) (hlen : ns.length ≤ 6) (hpos : 0 < ns.length)
    (hb : Obj.IsDictOf (PySem.strKind PR w) oo [(Str.ofString "values", .ref vl), (Str.ofString "looks", .int n t), (Str.ofString "most", .int most t2)])
    (h0 : 0 ≤ n)
    (hQ0 : 0 < most → most ≤ n → ∀ h' tk, Fr h₀ L h' m → News h₀ L h' [(o, oo), (vl, listOf vs.toArray ep)] → Holds' s.heap h' [o, vl] → Q .none { s with heap := h', toks := tk })
    (hQ1 : ¬ (0 < most ∧ most ≤ n) → ∀ tr h' tk oo' t', Fr h₀ L h' m → News h₀ L h' [(o, oo'), (vl, listOf vs.toArray ep)] → Obj.IsDictOf (PySem.strKind PR w) oo' [(Str.ofString "values", .ref vl), (Str.ofString "looks", .int (n + 1) t'), (Str.ofString "most", .int most t2)] →
      Holds' s.heap h' [o, vl] → Q (.int (lookV ns (n + 1)) tr) { s with heap := h', toks := tk }) :
    wpAny (model PR w) { handled := none, depth := dep, frames := some (env :: outer), guards := gu, units := un } (call (.ref 339) [.ref o]) Q E s := by
  refine wpAny_call ?_
  refine' enterK B F X T N ?kA hf hke ?k6 ?k7 ?k8 ?k9 ?kB ?_ ?c5 ?c2 ?c3 ?c4
  case kA => exact rfl
  case k6 => k_is
  case k7 => k_is
  case k8 => show dep < 1000; omega
  case k9 => exact BindsTo.of_eq rfl
  case c5 => decide
  case kB => exact locs rfl
  case c2 => exact rfl
  case c3 => exact rfl
  case c4 => exact rfl
  intro g' L' h' FG' F' N' B' X' T' l1 hg
  (try dsimp only)
  simp only [AllLt, and_true] at l1
  (try k_fold)
  clear F N X T
  k_steps
  all_goals (
    (with_reducible rename Fr g' _ _ _ => hFF)
    first
    | exact hQ0 (by assumption) (by assumption) _ _ (by assumption) (by assumption) (fun x o e n => hFF.keep x o (hg x o e n))
    | ((with_reducible rename Obj.IsDictOf _ _ _ => hdd); exact hQ1 (by omega) _ _ _ _ _ (by assumption) (by assumption) hdd (fun x o e n => hFF.keep x o (hg x o e n))))
end
section
theorem freshL4 : True := by
  w_top off
  trivial
set_option maxRecDepth 100000 in
set_option maxHeartbeats 8000000 in
theorem lower_spec {w : World} {A₀ A : Around} {dep un : Nat} {gu : Option (List Code)} {base h₀ : Heap} {env : Env} {outer : List Env} {L : Addr} {m mg mb : Str → Option Value} {p : Program} {loose : List Str} {mean : ExcName → Option Value}
    {E : Value → Shared → Prop} {Q : Value → Shared → Prop} {s : Shared} {news : List (Addr × Obj)} {v d : Int} {t t2 : Tok}
    (hA : A = { handled := none, depth := dep, frames := some (env :: outer), guards := gu, units := un }) (hdep : dep ≤ 330)
    (B : Below A₀ base outer h₀) (F : Fr h₀ L s.heap m) (X : (hd.heap_39 w.params).In h₀) (T : Top p loose mean mg mb h₀) (hf : env.frame = some L) (hke : env.scope.kind = .function)
    (N : News h₀ L s.heap news)
    (hQ : ∀ x tr h' tk, x = loE v d → Fr h₀ L h' m → News h₀ L h' news → Q (.int x tr) { s with heap := h', toks := tk }) :
    wpAny (model PR w) A (call (.ref 290) [.int v t, .int d t2]) Q E s := by
  subst hA
  refine wpAny_call ?_
  refine' enterK B F X T N ?kA hf hke ?k6 ?k7 ?k8 ?k9 ?kB ?_ ?c5 ?c2 ?c3 ?c4
  case kA => exact rfl
  case k6 => k_is
  case k7 => k_is
  case k8 => show dep < 1000; omega
  case k9 => exact BindsTo.of_eq rfl
  case c5 => decide
  case kB => exact locs rfl
  case c2 => exact rfl
  case c3 => exact rfl
  case c4 => exact rfl
  intro g' L' h' FG' F' N' B' X' T' l1 hg
  (try dsimp only)
  clear l1
  (try k_fold)
  k_steps
  all_goals exact hQ _ _ _ _ (by unfold loE; (repeat' split) <;> omega) (by assumption) (by assumption)
set_option maxRecDepth 100000 in
set_option maxHeartbeats 8000000 in
theorem upper_spec {w : World} {A₀ A : Around} {dep un : Nat} {gu : Option (List Code)} {base h₀ : Heap} {env : Env} {outer : List Env} {L : Addr} {m mg mb : Str → Option Value} {p : Program} {loose : List Str} {mean : ExcName → Option Value}
    {E : Value → Shared → Prop} {Q : Value → Shared → Prop} {s : Shared} {news : List (Addr × Obj)} {v d : Int} {t t2 : Tok}
    (hA : A = { handled := none, depth := dep, frames := some (env :: outer), guards := gu, units := un }) (hdep : dep ≤ 330)
    (B : Below A₀ base outer h₀) (F : Fr h₀ L s.heap m) (X : (hd.heap_39 w.params).In h₀) (T : Top p loose mean mg mb h₀) (hf : env.frame = some L) (hke : env.scope.kind = .function)
    (N : News h₀ L s.heap news)
    (hQ : ∀ x tr h' tk, x = hiE v d → Fr h₀ L h' m → News h₀ L h' news → Q (.int x tr) { s with heap := h', toks := tk }) :
    wpAny (model PR w) A (call (.ref 297) [.int v t, .int d t2]) Q E s := by
  subst hA
  refine wpAny_call ?_
  refine' enterK B F X T N ?kA hf hke ?k6 ?k7 ?k8 ?k9 ?kB ?_ ?c5 ?c2 ?c3 ?c4
  case kA => exact rfl
  case k6 => k_is
  case k7 => k_is
  case k8 => show dep < 1000; omega
  case k9 => exact BindsTo.of_eq rfl
  case c5 => decide
  case kB => exact locs rfl
  case c2 => exact rfl
  case c3 => exact rfl
  case c4 => exact rfl
  intro g' L' h' FG' F' N' B' X' T' l1 hg
  (try dsimp only)
  clear l1
  (try k_fold)
  k_steps
  all_goals exact hQ _ _ _ _ (by unfold hiE; (repeat' split) <;> omega) (by assumption) (by assumption)
set_option maxRecDepth 100000 in
set_option maxHeartbeats 8000000 in
theorem edge_spec {w : World} {A₀ A : Around} {dep un : Nat} {gu : Option (List Code)} {base h₀ : Heap} {env : Env} {outer : List Env} {L : Addr} {m mg mb : Str → Option Value} {p : Program} {loose : List Str} {mean : ExcName → Option Value}
    {E : Value → Shared → Prop} {Q : Value → Shared → Prop} {s : Shared} {news : List (Addr × Obj)} {v d sg : Int} {t t2 t3 : Tok}
    (hA : A = { handled := none, depth := dep, frames := some (env :: outer), guards := gu, units := un }) (hdep : dep ≤ 330)
    (B : Below A₀ base outer h₀) (F : Fr h₀ L s.heap m) (X : (hd.heap_39 w.params).In h₀) (T : Top p loose mean mg mb h₀) (hf : env.frame = some L) (hke : env.scope.kind = .function)
    (N : News h₀ L s.heap news) (hsg : sg = 1 ∨ sg = -1) (hv : -32000 ≤ v ∧ v ≤ 32000) (hd1 : 1 ≤ d)
    (hQ : ∀ x tr h' tk, (sg = 1 → x = hiE v d) → (sg = -1 → x = loE v d) → Fr h₀ L h' m → News h₀ L h' news → Q (.int x tr) { s with heap := h', toks := tk }) :
    wpAny (model PR w) A (call (.ref 353) [.int v t, .int d t2, .int sg t3]) Q E s := by
  subst hA
  refine wpAny_call ?_
  refine' enterK B F X T N ?kA hf hke ?k6 ?k7 ?k8 ?k9 ?kB ?_ ?c5 ?c2 ?c3 ?c4
  case kA => exact rfl
  case k6 => k_is
  case k7 => k_is
  case k8 => show dep < 1000; omega
  case k9 => exact BindsTo.of_eq rfl
  case c5 => decide
  case kB => exact locs rfl
  case c2 => exact rfl
  case c3 => exact rfl
  case c4 => exact rfl
  intro g' L' h' FG' F' N' B' X' T' l1 hg
  (try dsimp only)
  clear l1
  (try k_fold)
  k_steps
  all_goals exact hQ _ _ _ _ (by intro e; subst e; simp only [hiE]; (repeat' split) <;> omega) (by intro e; subst e; simp only [loE]; (repeat' split) <;> omega) (by assumption) (by assumption)
end
section
noncomputable abbrev ent (w : World) (name : String) (tk : Tok) (v : Value) : DictEntry := { hash := PyData.keyHash w.params (Str.ofString name), key := .str (Str.ofString name) tk, val := v }
structure KT where
  a : Tok
  b : Tok
  c : Tok
  d : Tok
  e : Tok
  f : Tok
  g : Tok
  h : Tok
  i : Tok
  j : Tok
  k : Tok
  l : Tok
  q : Tok
  m : Tok
/-- the dict of the context -/
noncomputable abbrev ctxD (w : World) (k : KT) (game ln : Addr) (most nodes : Int) (tm tn : Tok) : Obj := dictOf [ent w "game" k.a (.ref game), ent w "table" k.b .none, ent w "killers" k.c .none, ent w "history" k.d .none, ent w "qdepth" k.e (.int 0 k.q), ent w "is_exact" k.f (.bool true),
  ent w "max_nodes" k.g (.int most tm), ent w "nodes" k.h (.int nodes tn), ent w "made" k.i (.int 0 k.m), ent w "lines" k.j (.ref ln)] 10
/-- the dict of the place -/
noncomputable abbrev placeD (w : World) (k : KT) (ln fv fi : Addr) (x y : Tok) : Obj := dictOf [ent w "game" k.a .none, ent w "table" k.b .none, ent w "killers" k.c .none, ent w "history" k.d .none, ent w "qdepth" k.e (.int 0 k.q), ent w "is_exact" k.f (.bool true),
  ent w "max_nodes" k.g (.int 0 x), ent w "nodes" k.h (.int 0 y), ent w "made" k.i (.int 0 k.m), ent w "lines" k.j (.ref ln), ent w "value" k.k (.ref fv), ent w "in_check" k.l (.ref fi)] 12
set_option maxRecDepth 100000 in
@[reducible] noncomputable def noArgs : Arguments := by
  have h : argsOf (nthSt (bodyOf (stAt 58)) 1) = argsOf (nthSt (bodyOf (stAt 58)) 1) := rfl
  conv at h =>
    rhs
    whnf
  exact valOf h
set_option maxRecDepth 100000 in
@[reducible] noncomputable def chkBody : List Stmt := by
  have h : bodyOf (nthSt (bodyOf (stAt 58)) 2) = bodyOf (nthSt (bodyOf (stAt 58)) 2) := rfl
  conv at h =>
    rhs
    whnf
  exact valOf h
set_option maxRecDepth 100000 in
@[reducible] noncomputable def valBody : List Stmt := by
  have h : bodyOf (nthSt (bodyOf (stAt 58)) 1) = bodyOf (nthSt (bodyOf (stAt 58)) 1) := rfl
  conv at h =>
    rhs
    whnf
  exact valOf h
set_option maxRecDepth 100000 in
@[reducible] noncomputable def valScope : Scope := by
  have h : scopeOf (nthSt (bodyOf (stAt 58)) 1) = scopeOf (nthSt (bodyOf (stAt 58)) 1) := rfl
  conv at h =>
    rhs
    whnf
  exact valOf h
set_option maxRecDepth 100000 in
@[reducible] noncomputable def chkScope : Scope := by
  have h : scopeOf (nthSt (bodyOf (stAt 58)) 2) = scopeOf (nthSt (bodyOf (stAt 58)) 2) := rfl
  conv at h =>
    rhs
    whnf
  exact valOf h
@[reducible] noncomputable def chkF (q : Str) (dc pm : Value) (c : Addr) (ct : Value) : Obj := fnMade (Str.ofString "in_check") q noArgs chkBody chkScope [] dc pm c ct
@[reducible] noncomputable def valF (q : Str) (cv cl : Addr) (dc pm : Value) (c : Addr) (ct : Value) : Obj := fnMade (Str.ofString "value") q noArgs valBody valScope [(Str.ofString "values", cv), (Str.ofString "looks", cl)] dc pm c ct
/-- the places of a context and of the place it looks at -/
structure Pl where
  vl : Addr
  lk : Addr
  cv : Addr
  cl : Addr
  dp : Addr
  p : Addr
  lp : Addr
  c1 : Addr
  fv : Addr
  c2 : Addr
  fi : Addr
  dc : Addr
  c : Addr
  ln : Addr
  ocv : Obj
  ocl : Obj
  oc1 : Obj
  oc2 : Obj
  kp : KT
  kc : KT
  px : Tok
  py : Tok
  q1 : Str
  q2 : Str
  d1 : Value
  d2 : Value
  pm : Value
  t1 : Value
  t2 : Value
@[reducible] noncomputable def Pl.core (P : Pl) (w : World) (vs : List Value) (ev : Nat) (lkv : List Value) (el : Nat) (most nodes : Int) (tm tn : Tok) (l0 : Addr) (eln : Nat) : List (Addr × Obj) :=
  [(P.ln, listOf #[.ref l0] eln), (P.c, instObj 113 P.dc), (P.dc, ctxD w P.kc P.p P.ln most nodes tm tn), (P.fi, chkF P.q2 P.d2 P.pm P.c2 P.t2), (P.c2, P.oc2), (P.fv, valF P.q1 P.cv P.cl P.d1 P.pm P.c1 P.t1), (P.c1, P.oc1),
    (P.p, instObj 113 P.dp), (P.dp, placeD w P.kp P.lp P.fv P.fi P.px P.py), (P.cl, P.ocl), (P.cv, P.ocv), (P.vl, listOf vs.toArray ev), (P.lk, listOf lkv.toArray el)]
/-- the places are apart; what the cells and the codes hold -/
structure Pl.Ok (P : Pl) : Prop where
  o1 : @LT.lt Nat _ P.vl P.lk
  o2 : @LT.lt Nat _ P.lk P.cv
  o3 : @LT.lt Nat _ P.cv P.cl
  o4 : @LT.lt Nat _ P.cl P.dp
  o5 : @LT.lt Nat _ P.dp P.p
  o6 : @LT.lt Nat _ P.p P.c1
  o7 : @LT.lt Nat _ P.c1 P.fv
  o8 : @LT.lt Nat _ P.fv P.c2
  o9 : @LT.lt Nat _ P.c2 P.fi
  o10 : @LT.lt Nat _ P.fi P.dc
  o11 : @LT.lt Nat _ P.dc P.c
  o12 : @LT.lt Nat _ P.c P.ln
  cv : P.ocv.data = .cell (some (.ref P.vl))
  cl : P.ocl.data = .cell (some (.ref P.lk))
  e1 : ∃ vs t, P.oc1.data = .fields vs ∧ vs[1]? = some (.str P.q1 t)
  e2 : ∃ vs t, P.oc2.data = .fields vs ∧ vs[1]? = some (.str P.q2 t)
end
section
/-- an exception of an own class, freshly made -/
noncomputable abbrev excObj (C t : Addr) (d : Option Addr) : Obj := { cls := .ref C, dict := d, data := .fields #[.ref t, .none, .none, .none, .bool false, .none] }
noncomputable abbrev tupObj (vs : List Value) : Obj := { cls := .type "tuple", data := .seq vs.toArray }

section
variable {M : Model} {prog : Program} {w : World} {A : Around} {E : Value → Shared → Prop} {R : Result → Shared → Prop} {h : Heap} {g : Array GenState} {d : Drawn} {t : Nat} {os : OsState}
variable {nm q : Str} {C N : Addr} {bs bm bmB : List Value} {hdct : Bool} {sn : List Str} {sub : List Value} {ab : Bool} {col : Option Bool} {dd : Option Addr} {k0 k1 k2 k3 k5 : Option Value} {B newId initId : String} {rest : List Value}

theorem exc_checkNew (F : ExcBaseFacts B newId initId bmB) (hB : bm.contains (.type B) = true) {Q : Unit → Shared → Prop} (hC : h.get? C = some (excClassObj nm q C N bs bm hdct sn sub ab col dd k0 k1 k2 k3 k5 newId))
    (hq : Q () ⟨h, g, d, t, os⟩) : wpAny M A (checkBuiltinCall newId ⟨.ref C :: rest, []⟩) Q E ⟨h, g, d, t, os⟩ := by
  have hcont : (Value.ref C :: bm).contains (.type B) = true := by rw [List.contains_cons, hB, Bool.or_true]
  have hstar := F.noStar
  simp only [checkBuiltinCall, F.newKind, F.newSplit, F.newRow]
  repeat (first | refine wpAny_loadPart_at hC ?_ | (refine wpAny_isSubtype_exc hC ?_; rw [hcont]) | refine wpAny_staticBase_exc hC ?_ | refine wpAny_madeBy_exc hC ?_ | simp only [bne_self_eq_false, Bool.false_eq_true, if_false] | wp_step)
  exact hq

theorem exc_new (F : ExcBaseFacts B newId initId bmB) (hB : bm.contains (.type B) = true) (hAt : bm.contains (.type "AttributeError") = false) (hNa : bm.contains (.type "NameError") = false)
    (hC : h.get? C = some (excClassObj nm q C N bs bm hdct sn sub ab col dd k0 k1 k2 k3 k5 newId))
    (hq : R (.ok (.ret (.ref (h.objs.size + 1)))) ⟨(h.push (tupObj rest)).push (excObj C h.objs.size none), g, d, t, os⟩) (hrest : rest.length ≤ sizeLine) :
    codeAny (model prog w) A (.builtin newId ⟨.ref C :: rest, []⟩) R ⟨h, g, d, t, os⟩ := by
  have hends := F.ends
  have hcB : (Value.ref C :: bm).contains (.type B) = true := by rw [List.contains_cons, hB, Bool.or_true]
  have hcA : (Value.ref C :: bm).contains (.type "AttributeError") = false := by rw [List.contains_cons, hAt]; rfl
  have hcN : (Value.ref C :: bm).contains (.type "NameError") = false := by rw [List.contains_cons, hNa]; rfl
  refine codeAny_builtinAt F.entry ?_
  unfold Builtin.«BaseException.__new__»
  refine PySem.wpAt_bind ?_
  show PySem.wpAt _ _ _ (stack >>= _) _ _ _
  refine PySem.wpAt_bind (PySem.wpAt_stack fun p below => PySem.wpAt_of_wpAny ?_)
  wp_walk
  refine PySem.wpAt_of_wpAny ?_
  rw [F.owner]
  repeat (first | with_reducible refine wpAny_madeHere_exc F.canon hC ?_ | with_reducible refine wpAny_loadPart_at hC ?_ | (with_reducible refine wpAny_isSubtype_exc hC ?_; first | rw [hcB] | rw [hcA] | rw [hcN]) | wp_step)
  show R _ _
  rw [Heap.size_push]
  exact hq

theorem exc_make {K : Frag} {fI : Addr} (X : K.In h) (F : ExcBaseFacts B newId initId bmB) (hB : bm.contains (.type B) = true) (hAt : bm.contains (.type "AttributeError") = false) (hNa : bm.contains (.type "NameError") = false)
    (hC : h.get? C = some (excClassObj nm q C N bs bm hdct sn sub ab col dd k0 k1 k2 k3 k5 newId)) (hrest : rest.length ≤ sizeLine)
    (hi : findIn K (.ref C) "__init__" = some (some (.ref fI))) (hf : typeIn K (.ref fI) = some (.type "function"))
    (hq : codeAny (model prog w) (A.under (.builtin "type.__call__" ⟨.ref C :: rest, []⟩)) (.call (.ref fI) ⟨.ref (h.objs.size + 1) :: rest, []⟩) (InitBack (h.objs.size + 1) R) ⟨(h.push (tupObj rest)).push (excObj C h.objs.size none), g, d, t, os⟩) :
    codeAny (model prog w) A (.call (.ref C) ⟨rest, []⟩) R ⟨h, g, d, t, os⟩ := by
  have f1 := tc_lookup
  have f2 := tc_bind (.ref C)
  have hT : (⟨h, g, d, t, os⟩ : Shared).TypeIs (.ref C) "type" := ⟨_, hC, rfl⟩
  refine codeAny_of_tree ?_
  show wpAny _ _ (callAny (.ref C) _) _ _ _
  repeat (any_goals (first | assumption | with_reducible refine wpAny_loadPart_at hC ?_ | wp_step))
  refine ⟨rfl, ?_⟩
  refine codeAny_call_builtin_at (Code.quiet_builtin _ (by decide +kernel)) entry_typeCall (wpAny_check_type_call_sub hC ?_)
  repeat (first | with_reducible refine wpAny_loadPart_at hC ?_ | with_reducible refine wpAny_madeBy_exc hC ?_ | wp_step)
  refine codeAny_call_builtin_code (Code.quiet_builtin _ F.quiet) (exc_checkNew F hB hC ?_)
  refine exc_new F hB hAt hNa hC ?_ hrest
  show wpAny _ _ _ _ _ _
  have k : ∀ b o, h.get? b = some o → ((h.push (tupObj rest)).push (excObj C h.objs.size none)).get? b = some o := fun b o e => Heap.get?_push_of_some _ (Heap.get?_push_of_some _ e)
  have hC₁ := k _ _ hC
  have hget : ((h.push (tupObj rest)).push (excObj C h.objs.size none)).get? (h.objs.size + 1) = some (excObj C h.objs.size none) := by heap_get
  have hcC : (Value.ref C :: bm).contains (.ref C) = true := by simp
  unfold isInstance
  repeat (first | (with_reducible refine wpAny_loadPart_at hget ?_; dsimp only) | (with_reducible refine wpAny_isSubtype_exc hC₁ ?_; rw [hcC]) | wp_step | (show wpAny _ _ (isSubtype (Value.ref C) (Value.ref C)) _ _ _; refine wpAny_isSubtype_exc hC₁ ?_; rw [hcC]))
  have X₁ : K.In ((h.push (tupObj rest)).push (excObj C h.objs.size none)) := X.keeps k
  refine (looks_findIn X₁ hi).at ?_
  refine wpAny_holding (wpAny_bind ((bind_fn X₁ _ hf).at ?_))
  refine wpAny_bind (wpAny_call (codeAny_mono hq fun r s' z => ?_))
  rcases r with e | (v | _ | _ | _) <;> first | exact z | exact z.elim | skip
  obtain ⟨rfl, z⟩ := z
  exact wpAny_pure (wpAny_pure z)
end

section
variable {prog : Program} {w : World} {A : Around} {E : Value → Shared → Prop} {s : Shared} {K : Frag} {C L fI : Addr} {h₀ : Heap} {m : Str → Option Value} {news : List (Addr × Obj)} {rest : List Value}
variable {nm q : Str} {N : Addr} {bs bm bmB : List Value} {hdct : Bool} {sn : List Str} {sub : List Value} {ab : Bool} {col : Option Bool} {dd : Option Addr} {k0 k1 k2 k3 k5 : Option Value} {B newId initId : String}

theorem exc_call_K {Q : Value → Shared → Prop} (Fr₀ : Fr h₀ L s.heap m) (X₀ : K.In h₀) (Nw : News h₀ L s.heap news) (F : ExcBaseFacts B newId initId bmB) (hB : bm.contains (.type B) = true) (hAt : bm.contains (.type "AttributeError") = false) (hNa : bm.contains (.type "NameError") = false)
    (hC : K.lookup C = some (excClassObj nm q C N bs bm hdct sn sub ab col dd k0 k1 k2 k3 k5 newId)) (hrest : rest.length ≤ sizeLine)
    (hi : findIn K (.ref C) "__init__" = some (some (.ref fI))) (hf : isFn K (.ref fI) = true)
    (h : ∀ e t h', Fr h₀ L h' m → News h₀ L h' ((e, excObj C t none) :: (t, tupObj rest) :: news) → (∀ p ∈ news, p.1 < t) → t < e →
      codeAny (model prog w) (A.under (.builtin "type.__call__" ⟨.ref C :: rest, []⟩)) (.call (.ref fI) ⟨.ref e :: rest, []⟩) (InitBack e fun r s' => match r with | .ok (.ret v) => Q v s' | .ok _ => False | .error e => E e s') { s with heap := h' }) :
    wpAny (model prog w) A (call (.ref C) rest []) Q E s := by
  obtain ⟨hp, g, d, tk, os⟩ := s
  have X := X₀.keeps Fr₀.keep
  refine wpAny_call (exc_make X F hB hAt hNa (X _ _ hC) hrest hi (beq_iff_eq.mp hf) (h _ hp.objs.size _ ((Fr₀.push _).push _) ?_ (fun p hq => Heap.lt_size (Nw p hq).1) (Nat.lt_succ_self _)))
  have := (Nw.push Fr₀ (tupObj rest)).push (Fr₀.push _) (excObj C hp.objs.size none)
  rwa [Heap.size_push] at this

/-- an exception of an own class, ready to be raised -/
noncomputable def OwnRaise (E : Value → Shared → Prop) (v : Value) (s₁ : Shared) : Prop :=
  ∃ e ob vs C nm q N bs bm hdct sn sub ab col dd k0 k1 k2 k3 k5 newId, v = .ref e ∧ s₁.heap.get? e = some ob ∧ ob.cls = .ref C ∧ ob.data = .fields vs ∧ vs[1]? = some .none ∧
    s₁.heap.get? C = some (excClassObj nm q C N bs bm hdct sn sub ab col dd k0 k1 k2 k3 k5 newId) ∧ bm.contains (.type "BaseException") = true ∧ E (.ref e) s₁

theorem exec_raise_own {M : Model} {env : Env} {e : Expr} {pos : Pos} {Q : Flow → Shared → Prop} (hh : A.handled = none)
    (h : wpAny M A (eval e env) (OwnRaise E) E s) : wpAny M A (exec (.Raise (some e) none pos) env) Q E s := by
  show wpAny M A (do standAt pos; raiseStmt env (some (do let v ← eval e env; standAt pos; pure v)) none) Q E s
  refine wpAny_bind (wpAny_standAt ?_)
  unfold raiseStmt
  dsimp only
  refine wpAny_bind (wpAny_bind (wpAny_mono h (fun v s₁ h₁ => wpAny_bind (wpAny_standAt (wpAny_pure ?_))) fun _ _ x => x))
  obtain ⟨a, ob, vs, C, nm, q, N, bs, bm, hdct, sn, sub, ab, col, dd, k0, k1, k2, k3, k5, newId, rfl, ha, hcls, hd, h1, hC, hb, hE⟩ := h₁
  obtain ⟨hp, g, d, tk, os⟩ := s₁
  have hcB : (Value.ref C :: bm).contains (.type "BaseException") = true := by rw [List.contains_cons, hb, Bool.or_true]
  have hnt : ∀ {Q' : Bool → Shared → Prop}, Q' false ⟨hp, g, d, tk, os⟩ → wpAny M A (isType (.ref a)) Q' E ⟨hp, g, d, tk, os⟩ := by
    intro Q' hq
    simp only [isType, loadHead]
    refine wpAny_bind (wpAny_loadPart ha ?_)
    rw [hd]; exact wpAny_pure hq
  have hty : ∀ {Q' : Value → Shared → Prop}, Q' (.ref C) ⟨hp, g, d, tk, os⟩ → wpAny M A (typeOf (.ref a)) Q' E ⟨hp, g, d, tk, os⟩ := by
    intro Q' hq
    simp only [typeOf, loadHead]
    refine wpAny_bind (wpAny_loadPart ha ?_)
    rw [hcls]; exact wpAny_pure hq
  have hty2 : ∀ {Q' : Value → Shared → Prop}, Q' (.type "type") ⟨hp, g, d, tk, os⟩ → wpAny M A (typeOf (.ref C)) Q' E ⟨hp, g, d, tk, os⟩ := by
    intro Q' hq
    simp only [typeOf, loadHead]
    refine wpAny_bind (wpAny_loadPart hC ?_)
    exact wpAny_pure hq
  refine wpAny_bind (wpAny_pure ?_)
  dsimp only
  refine wpAny_bind (wpAny_holding ?_)
  unfold excFromValue isExcClass
  refine wpAny_bind (wpAny_bind (hnt ?_))
  simp only [Bool.false_eq_true, if_false]
  refine wpAny_pure ?_
  simp only [Bool.false_eq_true, if_false]
  unfold isInstance
  refine wpAny_bind (wpAny_bind (hty (wpAny_isSubtype_exc hC ?_)))
  rw [hcB]
  simp only [if_true]
  refine wpAny_pure ?_
  refine wpAny_bind (hnt ?_)
  simp only [Bool.false_eq_true, if_false]
  unfold raisedInstance
  refine wpAny_bind (wpAny_bind (hty (wpAny_bind (hty2 ?_))))
  rw [if_pos (by decide)]
  refine wpAny_pure ?_
  unfold setFlight raiseNew
  refine wpAny_bind (wpAny_bind (wpAny_field ha hd h1 ?_))
  rw [if_neg (by decide)]
  refine wpAny_pure (wpAny_bind (wpAny_handled ?_))
  rw [hh]
  first
    | exact wpAny_throw hE
    | exact wpAny_bind (wpAny_pure (wpAny_throw hE))
end
end
section
theorem meta_exc : typeOf (.type "Exception") = pure (.type "type") := by kernel_rfl

section
variable {M : Model} {prog : Program} {w : World} {A : Around} {E : Value → Shared → Prop} {R : Result → Shared → Prop} {h : Heap} {g : Array GenState} {d : Drawn} {t : Nat} {os : OsState}
variable {nm q : Str} {C N : Addr} {bs bm bmB : List Value} {hdct : Bool} {sn : List Str} {sub : List Value} {ab : Bool} {col : Option Bool} {dd : Option Addr} {k0 k1 k2 k3 k5 : Option Value} {B newId initId : String} {rest : List Value}

theorem exc_checkInit (F : ExcBaseFacts B newId initId bmB) (hB : bm.contains (.type B) = true) {e : Addr} {oe : Obj} {Q : Unit → Shared → Prop}
    (hC : h.get? C = some (excClassObj nm q C N bs bm hdct sn sub ab col dd k0 k1 k2 k3 k5 newId)) (he : h.get? e = some oe) (hcls : oe.cls = .ref C) (hq : Q () ⟨h, g, d, t, os⟩) :
    wpAny M A (checkBuiltinCall initId ⟨.ref e :: rest, []⟩) Q E ⟨h, g, d, t, os⟩ := by
  have hcB : (Value.ref C :: bm).contains (.type B) = true := by rw [List.contains_cons, hB, Bool.or_true]
  have hshort := F.noStar
  simp only [checkBuiltinCall, F.initKind, F.initSplit, F.initRow]
  repeat (first | (with_reducible refine wpAny_loadPart_at he ?_; rw [hcls]) | with_reducible refine wpAny_loadPart_at hC ?_ | (with_reducible refine wpAny_isSubtype_exc hC ?_; rw [hcB]) | wp_step)
  refine wpAny_onRaise ?_
  rw [show ∀ (a b : String) (n : Nat), Bind.check ⟨.positional, "*", B, .self, [⟨"args", .varPos, false⟩]⟩ a b n (List.map (fun x => x.fst) ({ pos := Value.ref e :: rest } : Args).kw) = pure () from
    fun a b n => check_star_args _ _ _ _ _ _]
  exact wpAny_pure hq

theorem exc_init (F : ExcBaseFacts B newId initId bmB) (hB : bm.contains (.type B) = true) {e tp : Addr} {od : Option Addr} {Q : Value → Shared → Prop}
    (hC : h.get? C = some (excClassObj nm q C N bs bm hdct sn sub ab col dd k0 k1 k2 k3 k5 newId)) (he : h.get? e = some (excObj C tp od)) (hrest : rest.length ≤ sizeLine)
    (hq : Q .none ⟨(h.push (tupObj rest)).update e (Obj.mapFields (·.setIfInBounds 0 (Value.ref h.objs.size))), g, d, t, os⟩) :
    wpAny (model prog w) A (call (.builtin initId) (.ref e :: rest)) Q E ⟨h, g, d, t, os⟩ := by
  refine wpAny_call (codeAny_call_builtin F.init.plain F.initEntry (exc_checkInit F hB hC he rfl ?_))
  have he' := Heap.get?_push_of_some (tupObj rest) he
  unfold Builtin.«BaseException.__init__»
  wp_walk
  exact hq

variable {K : Frag} {h₀ : Heap} {L : Addr} {m : Str → Option Value} {news : List (Addr × Obj)} {s : Shared} {gf : Obj → List (Addr × Obj)}
theorem exc_init_K {e tp : Addr} {od : Option Addr} {Q : Value → Shared → Prop} (Fr₀ : Fr h₀ L s.heap m) (X₀ : K.In h₀) (Nw : News h₀ L s.heap news) (F : ExcBaseFacts B newId initId bmB) (U : UpdF e (excObj C tp od) news gf)
    (hC : K.lookup C = some (excClassObj nm q C N bs bm hdct sn sub ab col dd k0 k1 k2 k3 k5 newId)) (hB : bm.contains (.type B) = true) (hrest : rest.length ≤ sizeLine)
    (hq : ∀ t' h', Fr h₀ L h' m → News h₀ L h' ((t', tupObj rest) :: gf (excObj C t' od)) → (∀ p ∈ news, p.1 < t') → Q .none { s with heap := h' }) :
    wpAny (model prog w) A (call (.builtin initId) (.ref e :: rest)) Q E s := by
  obtain ⟨hp, g, d, tk, os⟩ := s
  obtain ⟨pre, post, rfl, hg, h1, h2⟩ := U.split
  have hm := Nw (e, excObj C tp od) (List.mem_append_right _ (.head _))
  refine exc_init F hB (X₀.keeps Fr₀.keep _ _ hC) hm.1 hrest ?_
  have F1 := Fr₀.push (tupObj rest)
  have N1 := Nw.push Fr₀ (tupObj rest)
  have lt : ∀ p ∈ pre ++ (e, excObj C tp od) :: post, p.1 < hp.objs.size := fun p hq => Heap.lt_size (Nw p hq).1
  have e1 : ∀ p ∈ ((hp.objs.size, tupObj rest) :: pre), p.1 ≠ e := fun p hq => by
    rcases List.mem_cons.mp hq with rfl | hq
    · exact Nat.ne_of_gt (lt _ (List.mem_append_right _ (.head _)))
    · exact h1 p hq
  obtain ⟨U1, U2⟩ := news_upd (pre := (hp.objs.size, tupObj rest) :: pre) (post := post) (o := excObj C tp od) (o' := excObj C hp.objs.size od) (f := Obj.mapFields (·.setIfInBounds 0 (Value.ref hp.objs.size))) F1 N1 e1 h2 rfl rfl
  exact hq hp.objs.size _ U1 (by rw [hg]; exact U2) lt
end
end
section
open Builtin Builtin.ObjectAttr
section
variable {prog : Program} {w : World} {A : Around} {K : Frag} {C x L : Addr} {s : Shared} {h₀ : Heap} {m : Str → Option Value} {news : List (Addr × Obj)} {R : Result → Shared → Prop} {E : Value → Shared → Prop} {cd : ClassData}

/-- the classes at which a store of a name is let through -/
theorem xs_open {ox : Obj} {od : Option Obj} {name : Str} {tk : Tok} {v : Value} {r : Option Value} (X : K.In s.heap) (I : InstAt s.heap x ox C od) (hc : clsIn K C = some cd) (ne : cd.mro.isEmpty = false)
    (ho : cd.mro.contains (.type "object") = true) (hp : refuseLoop (.ref x) "__setattr__" cd.mro = pure ()) (ht : takerIn K C name = some r)
    (h : ∀ b, wpAny (model prog w) A.in1 (match r with | some a => setByDescriptor a (.ref x) v | none => storeInOwnDict (.ref x) (.ref C) (.str name tk) name v b)
      (fun fin s' => match fin with | .done f => R (.ok f) s' | .again c' => c'.quiet = true ∧ codeAny (model prog w) A c' R s') (fun e s' => R (.error e) s') s) :
    codeAny (model prog w) A (.call (.builtin "object.__setattr__") ⟨[.ref x, .str name tk, v], []⟩) R s := by
  have SF := PySem.F.store_object
  have sub : Looks (model prog w) s.heap (isInstance (.ref x) (.type "object")) true := I.type.andThen (looks_mroIn X (by unfold mroIn; rw [hc, Option.bind_some, if_neg (by rw [ne]; decide), ho]))
  refine codeAny_call_builtin SF.slot.plain SF.entry (@check_slot (model prog w) _ _ s "object.__setattr__" "object" "__setattr__" (.ref x) [.str name tk, v] [] _ SF.kind SF.split sub (SF.args (.ref x) (.str name tk) v) ?_)
  obtain ⟨attr, ha, hr⟩ := Option.bind_eq_some_iff.mp ht
  have hm : Looks (model prog w) s.heap (mroOf (.ref C)) cd.mro := (looks_clsIn X hc).andThen .now
  have L3 : Looks (model prog w) s.heap (storeTaker? attr) r := by
    cases attr with
    | none => cases hr; exact .now
    | some a =>
      obtain ⟨b, hb, rfl⟩ := Option.map_eq_some_iff.mp hr
      refine (looks_takesIn X hb).andThen ?_
      cases b <;> exact .now
  rw [osa_eq, refuse_eq]
  refine wpAny_bind (wpAny_bind (I.type.here (wpAny_bind (hm.here ?_))))
  rw [hp]
  exact wpAny_pure (wpAny_bind (I.type.here (wpAny_bind ((looks_findIn X ha).here (wpAny_bind (L3.here (h _)))))))

/-- a name stored into a dict of written entries -/
theorem xs_put {dx : Addr} {name : Str} {v : Value} {es es' : List DictEntry} {n n' : Nat} {pre post : List (Addr × Obj)} {β : Type} {k : Unit → Sem β} {Q : β → Shared → Prop} {A' : Around} {E' : Value → Shared → Prop} (F : Fr h₀ L s.heap m) (N : News h₀ L s.heap (pre ++ (dx, dictOf es n) :: post))
    (hl : (getL name es).isSome = true) (h1 : ∀ p ∈ pre, p.1 ≠ dx) (h2 : ∀ p ∈ post, p.1 ≠ dx)
    (e : (putL name (PyData.keyHash w.params name) (.str name s.toks) v es, putN name es n) = (es', n')) (hz : es'.length ≤ 1000)
    (h : ∀ h', Fr h₀ L h' m → News h₀ L h' (pre ++ (dx, dictOf es' n') :: post) → wpAny (model prog w) A' (k ()) Q E' { s with heap := h', toks := s.toks + 1 }) :
    wpAny (model prog w) A' (nsSet dx name v >>= fun _ => lookBehind dx (some (.str name 0)) >>= k) Q E' s := by
  obtain ⟨e1, e2⟩ := Prod.mk.inj e
  obtain ⟨U1, U2⟩ := news_upd (f := Obj.putName name (PyData.keyHash w.params name) (.str name s.toks) v) F N h1 h2 (by rw [putName_dict, e1, e2]) rfl
  have D := (N (dx, dictOf es n) (by simp)).1
  have D' := (U2 (dx, dictOf es' n') (by simp)).1
  unfold nsSet
  refine wpAny_bind (wpAny_bind (wpAny_bind (wpAny_askSetting (wpAny_pure (wpAny_bind (wpAny_mkText (wpAny_bind (wpAny_loadPart D ?_))))))))
  dsimp only
  have c : (!es.toArray.any (·.key.isStr name) && es.toArray.any (·.refKey)) = false := by
    rw [← Array.any_toList, ← Array.any_toList]
    unfold getL at hl
    split at hl
    · rename_i en he
      rw [List.any_eq_true.mpr ⟨en, List.mem_of_find?_eq_some he, List.find?_some he⟩]; rfl
    · split at hl
      · cases hl
      · rename_i z; rw [Bool.not_eq_true] at z; rw [z, Bool.and_false]
  rw [aRefKeyMayBeTheName_at, c]
  refine wpAny_updatePart D ?_
  exact wpAny_bind (wpAny_lookBehind D' (pastItsLine_dict (by rw [List.size_toArray, sizeLine_eq]; omega)) (h _ U1 U2))

theorem exc_notCls {C t : Addr} {d : Option Addr} : notCls (excObj C t d) = true := rfl

/-- the first name of an exception: its dict is made -/
theorem exc_set0 {e t : Addr} {name : Str} {v : Value} {gf : Obj → List (Addr × Obj)} {Q : Unit → Shared → Prop} (F : Fr h₀ L s.heap m) (X₀ : K.In h₀) (N : News h₀ L s.heap news) (U : UpdF e (excObj C t none) news gf)
    (hc : clsIn K C = some cd) (ne : cd.mro.isEmpty = false) (ho : cd.mro.contains (.type "object") = true) (hd : cd.hasDict = true) (hp : refuseLoop (.ref e) "__setattr__" cd.mro = pure ()) (ht : takerIn K C name = some none)
    (hs : findIn K (.ref C) "__setattr__" = some (some (.builtin "object.__setattr__")))
    (h : ∀ d h', Fr h₀ L h' m → News h₀ L h' ((d, dictOf [⟨PyData.keyHash w.params name, .str name (s.toks + 1), v⟩] 1) :: gf (excObj C t (some d))) → (∀ p ∈ news, p.1 < d) → Q () { s with heap := h', toks := s.toks + 1 + 1 }) :
    wpAny (model prog w) A (setAttr (.ref e) name v) Q E s := by
  obtain ⟨pre, post, rfl, hg, h1, h2⟩ := U.split
  have hm := N (e, excObj C t none) (List.mem_append_right _ (.head _))
  have X := X₀.keeps F.keep
  have I : InstAt s.heap e (excObj C t none) C none := ⟨hm.1, rfl, rfl, trivial⟩
  refine set_plain X I hs ?_
  refine xs_open (s := { s with toks := s.toks + 1 }) X I hc ne ho hp ht fun b => ?_
  have lt : ∀ p ∈ pre ++ (e, excObj C t none) :: post, p.1 < s.heap.objs.size := fun p hq => Heap.lt_size (N p hq).1
  have F1 := F.push emptyDict
  have N1 := N.push F emptyDict
  have e1 : ∀ p ∈ ((s.heap.objs.size, emptyDict) :: pre), p.1 ≠ e := fun p hq => by
    rcases List.mem_cons.mp hq with rfl | hq
    · exact Nat.ne_of_gt (lt _ (List.mem_append_right _ (.head _)))
    · exact h1 p hq
  obtain ⟨U1, U2⟩ := news_upd (pre := (s.heap.objs.size, emptyDict) :: pre) (post := post) (o := excObj C t none) (o' := excObj C t (some s.heap.objs.size)) (f := fun o => { o with dict := some s.heap.objs.size }) F1 N1 e1 h2 rfl rfl
  unfold storeInOwnDict
  refine wpAny_bind (wpAny_pure (wpAny_bind ?_))
  show wpAny _ _ (instanceDict e true) _ _ _
  unfold instanceDict
  refine wpAny_bind (wpAny_loadPart hm.1 (wpAny_bind (Looks.here (s := { s with toks := s.toks + 1 }) (looks_clsIn X hc) ?_)))
  rw [hd]
  refine wpAny_bind (wpAny_alloc ?_)
  refine wpAny_bind (wpAny_update (Heap.get?_push_of_some _ hm.1) ?_)
  refine wpAny_pure (a := some s.heap.objs.size) ?_
  show wpAny _ _ (storeInDict s.heap.objs.size (Value.str name s.toks) name v) _ _ _
  unfold storeInDict
  refine wpAny_bind (wpAny_pure ?_)
  refine xs_put (s := { heap := (s.heap.push emptyDict).update e fun o => { o with dict := some s.heap.objs.size }, gens := s.gens, drawn := s.drawn, toks := s.toks + 1, os := s.os }) (pre := []) (es := []) (n := 0) (es' := [⟨PyData.keyHash w.params name, .str name (s.toks + 1), v⟩]) (n' := 1) U1 U2 rfl (fun _ hq => (nomatch hq)) ?_ rfl (by show 1 ≤ 1000; omega) fun h' F' N' => ?_
  · intro p hq
    have z : p ∈ pre ++ (e, excObj C t (some s.heap.objs.size)) :: post := hq
    rcases List.mem_append.mp z with z | z
    · exact Nat.ne_of_lt (lt _ (List.mem_append_left _ z))
    · rcases List.mem_cons.mp z with rfl | z
      · exact Nat.ne_of_lt (lt (e, excObj C t none) (List.mem_append_right _ (.head _)))
      · exact Nat.ne_of_lt (lt _ (List.mem_append_right _ (.tail _ z)))
  · exact wpAny_pure (h _ h' F' (by rw [hg]; exact N') lt)

/-- a further name of an exception -/
theorem exc_set1 {e t dx : Addr} {name : Str} {v : Value} {es es' : List DictEntry} {n n' : Nat} {news' : List (Addr × Obj)} {Q : Unit → Shared → Prop} (F : Fr h₀ L s.heap m) (X₀ : K.In h₀) (N : News h₀ L s.heap news) (hme : (e, excObj C t (some dx)) ∈ news) (_hmd : (dx, dictOf es n) ∈ news)
    (U : Upd dx (dictOf es n) (dictOf es' n') news news') (hl : (getL name es).isSome = true)
    (he : (putL name (PyData.keyHash w.params name) (.str name (s.toks + 1)) v es, putN name es n) = (es', n')) (hz : es'.length ≤ 1000)
    (hc : clsIn K C = some cd) (ne : cd.mro.isEmpty = false) (ho : cd.mro.contains (.type "object") = true) (hd : cd.hasDict = true) (hp : refuseLoop (.ref e) "__setattr__" cd.mro = pure ()) (ht : takerIn K C name = some none)
    (hs : findIn K (.ref C) "__setattr__" = some (some (.builtin "object.__setattr__")))
    (h : ∀ h', Fr h₀ L h' m → News h₀ L h' news' → Q () { s with heap := h', toks := s.toks + 1 + 1 }) :
    wpAny (model prog w) A (setAttr (.ref e) name v) Q E s := by
  obtain ⟨pre, post, rfl, rfl, h1, h2⟩ := U.split
  have hm := N _ hme
  have hD := N (dx, dictOf es n) (List.mem_append_right _ (.head _))
  have X := X₀.keeps F.keep
  have I : InstAt s.heap e (excObj C t (some dx)) C (some (dictOf es n)) := ⟨hm.1, rfl, rfl, hD.1⟩
  refine set_plain X I hs ?_
  refine xs_open (s := { s with toks := s.toks + 1 }) X I hc ne ho hp ht fun b => ?_
  unfold storeInOwnDict
  refine wpAny_bind (wpAny_pure (wpAny_bind ?_))
  show wpAny _ _ (instanceDict e true) _ _ _
  unfold instanceDict
  refine wpAny_bind (wpAny_loadPart hm.1 (wpAny_bind (Looks.here (s := { s with toks := s.toks + 1 }) (looks_clsIn X hc) ?_)))
  rw [hd]
  refine wpAny_pure (a := some dx) ?_
  show wpAny _ _ (storeInDict dx (Value.str name s.toks) name v) _ _ _
  unfold storeInDict
  refine wpAny_bind (wpAny_pure ?_)
  exact xs_put (s := { s with toks := s.toks + 1 }) F N hl h1 h2 he hz fun h' F' N' => wpAny_pure (h h' F' N')
end
end
section
theorem dict_mapFields (f : Array Value → Array Value) (o : Obj) : (Obj.mapFields f o).dict = o.dict := by
  obtain ⟨c, d, dt, sl⟩ := o
  cases dt <;> rfl

/-- an exception of class C under way, with its dict dx and its traceback; fl: the frame in which it stands -/
noncomputable def TraX (h base : Heap) (e C dx : Addr) (fl : Value) : Prop :=
  ∃ oe vs T oT ts, h.get? e = some oe ∧ (oe.cls = .ref C ∧ oe.dict = some dx) ∧ oe.data = .fields vs ∧ vs[1]? = some (.ref T) ∧ base.get? T = none ∧ T ≠ e ∧ h.get? T = some oT ∧ oT.data = .fields ts ∧ ts[3]? = some fl
noncomputable def StepX (base : Heap) (l : List Env) (e C dx : Addr) (fl : Value) (h h' : Heap) : Prop :=
  base.StaysIn h' ∧ h'.FunFrames base l ∧ TraX h' base e C dx fl ∧ h.UpToSlots h'

section
variable {M : Model} {A : Around} {E : Value → Shared → Prop} {s : Shared} {base : Heap} {env : Env} {outer l : List Env} {L e C dx : Addr} {Q : Unit → Shared → Prop}

theorem x_entry {oe : Obj} {vs : Array Value} {head : Value} {hadNext : Bool}
    (hfr : A.frames = some (env :: outer)) (hl : s.heap.FunFrames base (env :: outer)) (hf : env.frame = some L)
    (he : s.heap.get? e = some oe) (hkb : base.StaysIn s.heap) (hen : base.get? e = none) (hd : oe.data = .fields vs) (hsz : 1 < vs.size) (hc : oe.cls = .ref C) (hdx : oe.dict = some dx)
    (h : ∀ h', StepX base (env :: outer) e C dx (rawInt L) s.heap h' → Q () { s with heap := h' }) :
    wpAny M A (do let a ← frameOf env; let pl ← entryPlaceOf L hadNext; let b ← EntryCells.newEntry head a .none (rawInt L) .none pl; setField (.ref e) 1 b) Q E s := by
  have hene : e ∉ (env :: outer).filterMap (·.frame) := fun hm => by
    obtain ⟨_, o, ho, hnf⟩ := hl.mem hm
    rw [he] at ho; cases ho; exact hnf vs hd
  refine wpAny_bind (wpAny_frameOf_fun hfr hl hf fun h₁ hs₁ => ?_)
  refine wpAny_bind (wpAny_entryPlaceOf fun pl hpl => ?_)
  unfold EntryCells.newEntry newFields
  refine wpAny_bind (wpAny_newObj_type ?_ (hpl.sizeOk5 _ _ _ _ _))
  generalize hob : ({ cls := .type "traceback", dict := none, data := .fields ([head, .ref L, .none, rawInt L, .none] ++ (if pl.isEmpty then List.replicate 6 Value.none else pl)).toArray } : Obj) = tb
  have htb : tb.isFreed = false := by subst hob; rfl
  have htd : ∃ ts, tb.data = .fields ts ∧ ts[3]? = some (rawInt L) := by subst hob; exact ⟨_, rfl, by simp⟩
  have he₁ : h₁.get? e = some oe := (hs₁.2.1 e hene).trans he
  have kb₁ : base.StaysIn h₁ := fun b o hbo => (hs₁.2.1 b fun hm => by rw [(hl.mem hm).1] at hbo; cases hbo).trans (hkb b o hbo)
  have he₂ := Heap.get?_push_of_some (h := h₁) tb he₁
  refine wpAny_setField he₂ hd hsz (h _ ?_)
  have hTe : h₁.objs.size ≠ e := Nat.ne_of_gt (Heap.lt_size he₁)
  have hd₃ := Obj.data_mapFields hd (·.setIfInBounds 1 (Value.ref h₁.objs.size))
  have he₃ := Heap.get?_update_self (Obj.mapFields (·.setIfInBounds 1 (Value.ref h₁.objs.size))) he₂ (Obj.isFreed_of_fields hd₃)
  have hT₃ := (Heap.get?_update_other (h₁.push tb) (Obj.mapFields (·.setIfInBounds 1 (Value.ref h₁.objs.size))) (Ne.symm hTe)).trans (Heap.get?_push_size h₁ htb)
  have keep : ∀ b o, b ≠ e → h₁.get? b = some o → ((h₁.push tb).update e (Obj.mapFields (·.setIfInBounds 1 (Value.ref h₁.objs.size)))).get? b = some o := fun b o hbe hb => by
    rw [Heap.get?_update_other _ _ (Ne.symm hbe)]
    exact Heap.get?_push_of_some _ hb
  have noRecord : ∀ b o, s.heap.get? b = some o → (∀ vs, o.data ≠ .fields vs) → b ≠ e := fun b o hb hnf q => by
    rw [q, he] at hb; cases hb; exact hnf vs hd
  refine ⟨fun b o hbo => keep b o (fun q => by rw [q, hen] at hbo; cases hbo) (kb₁ b o hbo), hl.of_keeps fun b o hb hnf => ?_, ?_, fun b o hb hnf => ?_⟩
  · obtain ⟨sl, hs⟩ := hs₁.2.2 b o hb
    exact ⟨_, keep b _ (noRecord b o hb hnf) hs, rfl⟩
  · obtain ⟨ts, ht1, ht2⟩ := htd
    exact ⟨_, _, h₁.objs.size, _, ts, he₃, ⟨(Obj.cls_mapFields _ _).trans hc, (dict_mapFields _ _).trans hdx⟩, hd₃, by simp [hsz], kb₁.fresh, hTe, hT₃, ht1, ht2⟩
  · obtain ⟨sl, hs⟩ := hs₁.2.2 b o hb
    exact ⟨sl, keep b _ (noRecord b o hb hnf) hs⟩

theorem x_noteFirst {oe : Obj} {vs : Array Value} (hfr : A.frames = some (env :: outer)) (hl : s.heap.FunFrames base (env :: outer)) (hf : env.frame = some L)
    (he : s.heap.get? e = some oe) (hkb : base.StaysIn s.heap) (hen : base.get? e = none) (hd : oe.data = .fields vs) (h1 : vs[1]? = some .none) (hc : oe.cls = .ref C) (hdx : oe.dict = some dx)
    (h : ∀ h', StepX base (env :: outer) e C dx (rawInt L) s.heap h' → Q () { s with heap := h' }) : wpAny M A (noteFrame (.ref e) env) Q E s := by
  unfold noteFrame
  simp only [hf]
  refine wpAny_bind (wpAny_field he hd h1 ?_)
  rw [if_neg (by decide)]
  exact x_entry hfr hl hf he hkb hen hd (Array.getElem?_eq_some_iff.mp h1).1 hc hdx h

theorem x_noteNext (hfr : A.frames = some (env :: outer)) (hl : s.heap.FunFrames base (env :: outer)) (hf : env.frame = some L) (ht : TraX s.heap base e C dx .none) (hkb : base.StaysIn s.heap) (hen : base.get? e = none)
    (h : ∀ h', StepX base (env :: outer) e C dx (rawInt L) s.heap h' → Q () { s with heap := h' }) : wpAny M A (noteFrame (.ref e) env) Q E s := by
  obtain ⟨oe, vs, T, oT, ts, he, ⟨hcls, hdx⟩, hd, h1, hnT, hTe, hT, hdT, h3⟩ := ht
  unfold noteFrame
  simp only [hf]
  refine wpAny_bind (wpAny_field he hd h1 ?_)
  rw [if_pos (show (Value.ref T != Value.none) = true from by simp)]
  refine wpAny_bind (wpAny_field hT hdT h3 ?_)
  rw [if_neg (show ¬ ((Value.none == rawInt L) = true) from by simp [rawInt])]
  refine wpAny_bind (wpAny_setField hT hdT (Array.getElem?_eq_some_iff.mp h3).1 ?_)
  have other : ∀ b, b ≠ T → (s.heap.update T (Obj.mapFields (·.setIfInBounds 3 Value.none))).get? b = s.heap.get? b := fun b hb => Heap.get?_update_other _ _ (Ne.symm hb)
  have noRecord : ∀ b o, s.heap.get? b = some o → (∀ vs, o.data ≠ .fields vs) → b ≠ T := fun b o hb hnf q => by
    rw [q, hT] at hb; cases hb; exact hnf ts hdT
  refine x_entry hfr (hl.of_keeps fun b o hb hnf => ⟨o, (other b (noRecord b o hb hnf)).trans hb, rfl⟩) hf ((other e (Ne.symm hTe)).trans he)
    (fun b o hbo => (other b fun q => by rw [q, hnT] at hbo; cases hbo).trans (hkb b o hbo)) hen hd (Array.getElem?_eq_some_iff.mp h1).1 hcls hdx
    fun h' ⟨x1, x2, x3, x4⟩ => h h' ⟨x1, x2, x3, fun b o hb hnf => x4 b o ((other b (noRecord b o hb hnf)).trans hb) hnf⟩

theorem x_noteAgain (hf : env.frame = some L) (ht : TraX s.heap base e C dx (rawInt L)) (h : Q () s) : wpAny M A (noteFrame (.ref e) env) Q E s := by
  obtain ⟨oe, vs, T, oT, ts, he, hcls, hd, h1, hnT, hTe, hT, hdT, h3⟩ := ht
  unfold noteFrame
  simp only [hf]
  refine wpAny_bind (wpAny_field he hd h1 ?_)
  rw [if_pos (show (Value.ref T != Value.none) = true from by simp)]
  refine wpAny_bind (wpAny_field hT hdT h3 ?_)
  rw [if_pos (show (rawInt L == rawInt L) = true from by simp)]
  exact wpAny_pure h

theorem x_flight {fl : Value} {fr : Option Addr} (hkb : base.StaysIn s.heap) (hl : s.heap.FunFrames base l) (ht : TraX s.heap base e C dx fl)
    (h : ∀ h', StepX base l e C dx (fr.elim Value.none fun f => rawInt f) s.heap h' → Q () { s with heap := h' }) : wpAny M A (setFlight (.ref e) fr) Q E s := by
  obtain ⟨oe, vs, T, oT, ts, he, hcls, hd, h1, hnT, hTe, hT, hdT, h3⟩ := ht
  have hsz3 : 3 < ts.size := (Array.getElem?_eq_some_iff.mp h3).1
  have other : ∀ b, b ≠ T → (s.heap.update T (Obj.mapFields (·.setIfInBounds 3 (fr.elim Value.none fun f => rawInt f)))).get? b = s.heap.get? b := fun b hb => Heap.get?_update_other _ _ (Ne.symm hb)
  have noRecord : ∀ b o, s.heap.get? b = some o → (∀ vs, o.data ≠ .fields vs) → b ≠ T := fun b o hb hnf q => by
    rw [q, hT] at hb; cases hb; exact hnf ts hdT
  unfold setFlight
  refine wpAny_bind (wpAny_field he hd h1 ?_)
  rw [if_pos (show (Value.ref T != Value.none) = true from by simp)]
  refine wpAny_setField hT hdT hsz3 (h _ ⟨fun b o hbo => (other b fun q => by rw [q, hnT] at hbo; cases hbo).trans (hkb b o hbo),
    hl.of_keeps fun b o hb hnf => ⟨o, (other b (noRecord b o hb hnf)).trans hb, rfl⟩, ?_, fun b o hb hnf => ⟨o.slots, (other b (noRecord b o hb hnf)).trans hb⟩⟩)
  exact ⟨oe, vs, T, _, _, (other e (Ne.symm hTe)).trans he, hcls, hd, h1, hnT, hTe, Heap.get?_update_self _ hT (Obj.isFreed_of_fields (Obj.data_mapFields hdT _)), Obj.data_mapFields hdT _, by simp [hsz3]⟩
end
end
section
noncomputable def FlyX (base : Heap) (l : List Env) (e C dx : Addr) (fl : Value) (h : Heap) : Prop := base.StaysIn h ∧ base.get? e = none ∧ h.FunFrames base l ∧ TraX h base e C dx fl
noncomputable def RaisedX (base G : Heap) (l : List Env) (e C dx : Addr) (fl : Value) (news : List (Addr × Obj)) (h : Heap) : Prop :=
  ∃ B, base.StaysIn B ∧ (∀ b o, G.get? b = some o → b ∉ l.filterMap (·.frame) → B.get? b = some o) ∧ (∀ q ∈ news, B.get? q.1 = some q.2 ∧ G.get? q.1 = none ∧ base.get? q.1 = none) ∧ FlyX B l e C dx fl h
theorem frame_mem {env : Env} {outer : List Env} {L b : Addr} (hf : env.frame = some L) (hm : b ∈ (env :: outer).filterMap (·.frame)) : b = L ∨ b ∈ outer.filterMap (·.frame) := by
  obtain ⟨en, he, hb⟩ := List.mem_filterMap.mp hm
  rcases List.mem_cons.mp he with rfl | he
  · rw [hf] at hb; exact .inl (Option.some.inj hb).symm
  · exact .inr (List.mem_filterMap.mpr ⟨en, he, hb⟩)
section
variable {M : Model} {A : Around} {E : Value → Shared → Prop} {s' : Shared} {base g g₂ : Heap} {outer : List Env} {env : Env} {L e t C dx : Addr} {m : Str → Option Value} {Q : Unit → Shared → Prop} {news news₀ : List (Addr × Obj)}

theorem x_leaveFirst (K : Below A base outer g) (F : Fr g L s'.heap m) (N : News g L s'.heap news) (hme : (e, excObj C t (some dx)) ∈ news) (hsub : ∀ q ∈ news₀, q ∈ news ∧ q.1 ≠ e)
    (hf : env.frame = some L) (hke : env.scope.kind = .function)
    (hQ : ∀ h', RaisedX base g outer e C dx .none news₀ h' → g.UpToSlots h' → Q () { s' with heap := h' }) :
    wpAny M (A.deeper env) (leaving env (.ref e)) Q E s' := by
  have K' := pushX K F hf hke
  have hme' := N _ hme
  have hbe : base.get? e = none := by
    cases q : base.get? e with
    | none => rfl
    | some o => have z := K.stays e o q; rw [hme'.2.2] at z; cases z
  have hin : ∀ en ∈ (env :: outer), ∀ b, en.frame = some b → b ∈ (env :: outer).filterMap (·.frame) ++ [e] := fun en he b hb => List.mem_append_left _ (List.mem_filterMap.mpr ⟨en, he, hb⟩)
  have nof : ∀ q ∈ news, q.1 ∉ (env :: outer).filterMap (·.frame) := fun q hq hm => by
    rcases frame_mem hf hm with z | z
    · exact (N q hq).2.1 z
    · obtain ⟨o, ho, _⟩ := (K.frames.mem z).2
      rw [(N q hq).2.2] at ho; cases ho
  have st : base.StaysIn (hideAll s'.heap ((env :: outer).filterMap (·.frame) ++ [e])) := fun b o q => hideAll_get _ (K'.stays b o q) fun hm => by
    rcases List.mem_append.mp hm with hm | hm
    · rw [(K'.frames.mem hm).1] at q; cases q
    · rw [List.mem_singleton.mp hm, hbe] at q; cases q
  have sg : ∀ b o, g.get? b = some o → b ∉ outer.filterMap (·.frame) → (hideAll s'.heap ((env :: outer).filterMap (·.frame) ++ [e])).get? b = some o := fun b o q nm => hideAll_get _ (F.keep b o q) fun hm => by
    rcases List.mem_append.mp hm with hm | hm
    · rcases frame_mem hf hm with z | z
      · rw [z, kts_self F] at q; cases q
      · exact nm z
    · rw [List.mem_singleton.mp hm, hme'.2.2] at q; cases q
  have hl : ∀ q ∈ news₀, (hideAll s'.heap ((env :: outer).filterMap (·.frame) ++ [e])).get? q.1 = some q.2 ∧ g.get? q.1 = none ∧ base.get? q.1 = none := fun q hq => by
    obtain ⟨h1, h2⟩ := hsub q hq
    refine ⟨hideAll_get _ (N q h1).1 fun hm => ?_, (N q h1).2.2, fresh_of_stays K.stays (N q h1).2.2⟩
    rcases List.mem_append.mp hm with hm | hm
    · exact nof q h1 hm
    · exact h2 (List.mem_singleton.mp hm)
  have fe : (hideAll s'.heap ((env :: outer).filterMap (·.frame) ++ [e])).get? e = none := hideAll_none _ (List.mem_append_right _ (.head _))
  unfold leaving
  refine wpAny_bind (x_noteFirst K'.stack (funFrames_hide K'.frames hin) hf hme'.1 (fun b o q => of_hideAll _ q) fe rfl rfl rfl rfl fun h₁ x => ?_)
  refine x_flight (s := { s' with heap := h₁ }) (fr := none) x.1 x.2.1 x.2.2.1 fun h₂ y => ?_
  exact hQ h₂ ⟨_, st, sg, hl, y.1, fe, y.2.1.2.2, y.2.2.1⟩ ((Heap.UpToSlots.of_keeps F.keep).trans (x.2.2.2.trans y.2.2.2))

theorem x_leaveOn {fl : Value} (K : Below A base outer g) (F : Fr g L g₂ m) (R : RaisedX base g₂ (env :: outer) e C dx fl news s'.heap) (hfl : fl = .none ∨ fl = rawInt L) (hsm : g₂.UpToSlots s'.heap)
    (hf : env.frame = some L)
    (hQ : ∀ h', RaisedX base g outer e C dx .none news h' → g.UpToSlots h' → Q () { s' with heap := h' }) :
    wpAny M (A.deeper env) (leaving env (.ref e)) Q E s' := by
  obtain ⟨B, hB, hBG, hl, f1, f2, f3, f4⟩ := R
  have fin : ∀ h₂, StepX B (env :: outer) e C dx Value.none s'.heap h₂ → Q () { s' with heap := h₂ } := fun h₂ y =>
    hQ h₂ ⟨B, hB, fun b o q nm => hBG b o (F.keep b o q) (fun hm => by
      rcases frame_mem hf hm with z | z
      · rw [z, kts_self F] at q; cases q
      · exact nm z), fun q hq => ⟨(hl q hq).1, kts_none F.keep (hl q hq).2.1, (hl q hq).2.2⟩, y.1, f2, y.2.1.2.2, y.2.2.1⟩ ((Heap.UpToSlots.of_keeps F.keep).trans (hsm.trans y.2.2.2))
  unfold leaving
  rcases hfl with rfl | rfl
  · refine wpAny_bind (x_noteNext (Around.frames_deeper K.stack) f3 hf f4 f1 f2 fun h₁ x => ?_)
    exact x_flight (s := { s' with heap := h₁ }) (fr := none) x.1 x.2.1 x.2.2.1 fun h₂ y => fin h₂ ⟨y.1, y.2.1, y.2.2.1, x.2.2.2.trans y.2.2.2⟩
  · refine wpAny_bind (x_noteAgain hf f4 ?_)
    exact x_flight (fr := none) f1 f3 f4 fun h₂ y => fin h₂ y

/-- the exception stands in this frame: noted, or held again -/
theorem x_passes {fl : Value} (hfr : A.frames = some (env :: outer)) (R : RaisedX base g (env :: outer) e C dx fl news s'.heap) (hfl : fl = .none ∨ fl = rawInt L) (hf : env.frame = some L) (hsm : g.UpToSlots s'.heap)
    (hQ : ∀ h', RaisedX base g (env :: outer) e C dx (rawInt L) news h' → g.UpToSlots h' → Q () { s' with heap := h' }) :
    wpAny M A (noteFrame (.ref e) env) Q E s' := by
  obtain ⟨B, hB, hBG, hl, f1, f2, f3, f4⟩ := R
  rcases hfl with rfl | rfl
  · exact x_noteNext hfr f3 hf f4 f1 f2 fun h₁ x => hQ h₁ ⟨B, hB, hBG, hl, x.1, f2, x.2.1, x.2.2.1⟩ (hsm.trans x.2.2.2)
  · exact x_noteAgain hf f4 (hQ _ ⟨B, hB, hBG, hl, f1, f2, f3, f4⟩ hsm)
theorem x_held {fl : Value} {fr : Option Addr} (R : RaisedX base g (env :: outer) e C dx fl news s'.heap) (hsm : g.UpToSlots s'.heap)
    (hQ : ∀ h', RaisedX base g (env :: outer) e C dx (fr.elim Value.none fun f => rawInt f) news h' → g.UpToSlots h' → Q () { s' with heap := h' }) :
    wpAny M A (setFlight (.ref e) fr) Q E s' := by
  obtain ⟨B, hB, hBG, hl, f1, f2, f3, f4⟩ := R
  exact x_flight f1 f3 f4 fun h₁ x => hQ h₁ ⟨B, hB, hBG, hl, x.1, f2, x.2.1, x.2.2.1⟩ (hsm.trans x.2.2.2)
end
end
section
/-- the ledger without one place -/
inductive Del (e : Addr) : List (Addr × Obj) → List (Addr × Obj) → Prop
  | head {o r} : (∀ p ∈ r, p.1 ≠ e) → Del e ((e, o) :: r) r
  | tail {p r r'} : p.1 ≠ e → Del e r r' → Del e (p :: r) (p :: r')
theorem Del.sub {e : Addr} : ∀ {l l' : List (Addr × Obj)}, Del e l l' → ∀ q ∈ l', q ∈ l ∧ q.1 ≠ e
  | _, _, .head h => fun q hq => ⟨.tail _ hq, h q hq⟩
  | _, _, .tail h r => fun q hq => by
    rcases List.mem_cons.mp hq with rfl | hq
    · exact ⟨.head _, h⟩
    · exact ⟨.tail _ (r.sub q hq).1, (r.sub q hq).2⟩
inductive AtD (e : Addr) : List (Addr × Obj) → List (Addr × Obj) → Prop
  | head {o r} : AtD e ((e, o) :: r) r
  | tail {p r r'} : AtD e r r' → AtD e (p :: r) (p :: r')
theorem AtD.mem {e : Addr} : ∀ {l l' : List (Addr × Obj)}, AtD e l l' → e ∈ l.map (·.1)
  | _, _, .head => .head _
  | _, _, .tail h => .tail _ h.mem
theorem AtD.del0 {e : Addr} : ∀ {l l' : List (Addr × Obj)}, AtD e l l' → Dist (l.map (·.1)) → Del e l l'
  | _, _, .head, D => .head fun p hp => D.1 _ (List.mem_map_of_mem hp)
  | _, _, .tail h, D => .tail (fun q => D.1 _ h.mem q.symm) (h.del0 D.2)
theorem AtD.del {e : Addr} {l l' : List (Addr × Obj)} {as : List Nat} (D : Dist as) (q : l.map (·.1) = as) (h : AtD e l l') : Del e l l' := h.del0 (q ▸ D)
theorem RaisedX.mono {base g h : Heap} {l : List Env} {e C dx : Addr} {fl : Value} {news news' : List (Addr × Obj)} (R : RaisedX base g l e C dx fl news h) (hs : ∀ q ∈ news', q ∈ news) : RaisedX base g l e C dx fl news' h := by
  obtain ⟨B, hB, hBG, hl, r⟩ := R
  exact ⟨B, hB, hBG, fun q hq => hl q (hs q hq), r⟩
section
variable {M : Model} {A : Around} {E : Value → Shared → Prop} {s s' : Shared} {base g g₂ h₀ : Heap} {outer : List Env} {env : Env} {L e t C dx : Addr} {m : Str → Option Value} {Q : Unit → Shared → Prop} {news news₀ : List (Addr × Obj)} {K : Frag}
variable {nm q : Str} {N : Addr} {bs bm : List Value} {hdct : Bool} {sn : List Str} {sub : List Value} {ab : Bool} {col : Option Bool} {dd : Option Addr} {k0 k1 k2 k3 k5 : Option Value} {newId : String} {d : Option Addr}
theorem ownRaise_of (F : Fr h₀ L s.heap m) (X₀ : K.In h₀) (Nw : News h₀ L s.heap news) (hme : (e, excObj C t d) ∈ news) (hC : K.lookup C = some (excClassObj nm q C N bs bm hdct sn sub ab col dd k0 k1 k2 k3 k5 newId)) (hb : bm.contains (.type "BaseException") = true)
    (hE : E (.ref e) s) : OwnRaise E (.ref e) s :=
  ⟨e, _, _, C, nm, q, N, bs, bm, hdct, sn, sub, ab, col, dd, k0, k1, k2, k3, k5, newId, rfl, (Nw _ hme).1, rfl, rfl, rfl, X₀.keeps F.keep _ _ hC, hb, hE⟩
theorem x_leaveFirst' (K : Below A base outer g) (F : Fr g L s'.heap m) (Nw : News g L s'.heap news) (hme : (e, excObj C t (some dx)) ∈ news) (D : Del e news news₀)
    (hf : env.frame = some L) (hke : env.scope.kind = .function)
    (hQ : ∀ h', RaisedX base g outer e C dx .none news₀ h' → g.UpToSlots h' → Q () { s' with heap := h' }) :
    wpAny M (A.deeper env) (leaving env (.ref e)) Q E s' := x_leaveFirst K F Nw hme D.sub hf hke hQ
end
end
section
theorem freshL3 : True := by
  w_top off
  trivial
noncomputable abbrev excD (w : World) (a b c d : Tok) (nodes : Int) : Obj := dictOf [ent w "text" a (.str (Str.ofString "the nodes are used up") c), ent w "nodes" b (.int nodes d)] 2
local macro_rules | `(tactic| walk_at "exec Raise some none") => `(tactic| (k_here; (refine exec_raise_own ?hh ?_; (case hh => k_dflt (exact rfl)))))
local macro_rules | `(tactic| walk_at "call ref") => `(tactic| (k_here; (with_reducible show wpAny _ _ (call (Value.ref 87) _ _) _ _ _); k_dflt (refine' exc_call_K ?F ?X ?N PySem.F.excBase_Exception ?b1 ?b2 ?b3 ?C ?r ?i ?f ?_; (case F | X | N => k_asm); (case C => k_is); (case b1 | b2 | b3 => decide); (case r => size_fits); (case i | f => k_is); k_whole); intro e' t' h' F' N' l1 l2; (try k_lt l1); (try k_lt2 l2); (try k_sweep); k_enter))
local macro_rules | `(tactic| walk_at "getMethod type:Exception") => `(tactic| (k_here; refine' method_type ?F ?X ?m (by decide +kernel) ?e ?h ?_; (case F | X => k_asm); (case m => exact meta_exc); (case e => k_dflt k_is); (case h => k_handed)))
local macro_rules | `(tactic| walk_at "call builtin:Exception.__init__") => `(tactic| (k_here; k_dflt (refine' exc_init_K ?F ?X ?N PySem.F.excBase_Exception ?U ?C ?b ?r ?_; (case F | X | N => k_asm); (case U => k_updF); (case C => k_is); (case b => decide); (case r => size_fits)); intro t' h' F' N' l1; (try dsimp only at N'); (try k_lt l1); (try k_sweep)))
local macro_rules | `(tactic| walk_at "setAttr ref") => `(tactic| (k_here; k_dflt (refine' exc_set0 ?F ?X ?N ?U ?hc ?ne ?ho ?hd ?hp ?ht ?hs ?_; (case F | X | N => k_asm); (case U => k_updF); (case hc => k_is); (case ne => rfl); (case ho => decide); (case hd => rfl); (case hp => (rw [refuseLoop_ref, refuseLoop_ref]; exact PySem.F.store_Exception.passes _)); (case ht | hs => k_is)); intro d' h' F' N' l1; (try dsimp only at N'); (try k_lt l1); (try k_sweep)))
local macro_rules | `(tactic| walk_at "setAttr ref") => `(tactic| (k_here; k_dflt (refine' exc_set1 ?F ?X ?N ?me ?md ?U ?hl ?he ?hz ?hc ?ne ?ho ?hd ?hp ?ht ?hs ?_; (case F | X | N => k_asm); (case me | md => k_mem); (case hl => k_get); (case he => k_put); (case U => k_upd); (case hz => exact Nat.le_of_ble_eq_true rfl); (case hc => k_is); (case ne => rfl); (case ho => decide); (case hd => rfl); (case hp => (rw [refuseLoop_ref, refuseLoop_ref]; exact PySem.F.store_Exception.passes _)); (case ht | hs => k_is)); intro h' F' N'; (try k_sweep)))
local macro_rules | `(tactic| tm_at "atd") => `(tactic| first | exact AtD.head | (refine' AtD.tail ?kt_a; (case kt_a => tm_at "atd")))
local macro_rules | `(tactic| k_upd) => `(tactic| ((with_reducible rename DB _ => zDB); k_dflt (first | refine' AtD.del zDB.dist rfl ?ku_a | refine' AtD.del zDB.dist.tl rfl ?ku_a | refine' AtD.del zDB.dist.tl.tl rfl ?ku_a); (case ku_a => tm_at "atd")))
local macro_rules | `(tactic| walk_at "OwnRaise") => `(tactic| (k_here; k_dflt (refine' ownRaise_of ?F ?X ?N ?me ?C ?b ?_; (case F | X | N => k_asm); (case me => k_mem); (case C => k_is); (case b => decide))))
local macro_rules | `(tactic| walk_at "leaving ref") => `(tactic| (k_here; (k_dflt (refine' x_leaveFirst' ?K ?F ?N ?me ?D ?hf ?hk ?_; (case K | F | N => k_asm); (case me => k_mem); (case D => k_upd); (case hf | hk => exact rfl))); intro h' R' U'; (try dsimp only)))
local macro_rules | `(tactic| walk_at "leaving ref") => `(tactic| (k_here; (k_dflt (refine' x_leaveOn ?K ?F ?R ?fl ?U ?hf ?_; (case K | R | F | U => k_asm); (case fl => first | exact Or.inl rfl | exact Or.inr rfl); (case hf => exact rfl))); intro h' R' U'; (try dsimp only)))

theorem News.mono' {h₀ h : Heap} {L : Addr} {news news' : List (Addr × Obj)} (N : News h₀ L h news) (hs : ∀ q ∈ news', q ∈ news) : News h₀ L h news' := fun q hq => N q (hs q hq)
theorem IntsAre.snoc1 {vs : List Value} {ns : List Int} {k : Int} {t : Tok} (h : IntsAre vs ns) : IntsAre (vs ++ [.int k t]) (ns ++ [k]) := IntsAre.append h (by first | exact .cons _ _ .nil | exact .cons .nil | constructor <;> constructor)
set_option maxRecDepth 100000 in
set_option maxHeartbeats 8000000 in
theorem search_spec {w : World} {A₀ : Around} {dep un : Nat} {gu : Option (List Code)} {base h₀ : Heap} {env : Env} {outer : List Env} {L : Addr} {m mg mb : Str → Option Value} {p : Program} {loose : List Str} {mean : ExcName → Option Value}
    {E : Value → Shared → Prop} {Q : Value → Shared → Prop} {s : Shared} {P : Pl} {vs lkv : List Value} {ns lki : List Int} {ev el eln : Nat} {most nodes alpha beta : Int} {tm tn ta tb tc td : Tok} {l0 : Addr} {pv : Bool}
    (hdep : dep ≤ 320) (hun : un ≤ 200)
    (B : Below A₀ base outer h₀) (F : Fr h₀ L s.heap m) (X : (hd.heap_39 w.params).In h₀) (T : Top p loose mean mg mb h₀) (hf : env.frame = some L) (hke : env.scope.kind = .function)
    (C : CodeHd base 331 327)
    (N : News h₀ L s.heap (P.core w vs ev lkv el most nodes tm tn l0 eln)) (O : P.Ok) (hI : IntsAre vs ns) (hlen : ns.length ≤ 6) (hpos : 0 < ns.length)
    (hJ : IntsAre lkv lki) (hn : (lki.length : Int) = nodes) (hno : nodes ≤ 100)
    (hQ : ¬ (0 < most ∧ most ≤ nodes) → ∀ tr h' tk lkv' lki' el' tn' l0' eln', Fr h₀ L h' m → News h₀ L h' (P.core w vs ev lkv' el' most (nodes + 1) tm tn' l0' eln') → IntsAre lkv' lki' → (lki'.length : Int) = nodes + 1 →
      Holds' s.heap h' ((P.core w vs ev lkv el most nodes tm tn l0 eln).map (·.1)) → Q (.int (lookV ns (nodes + 1)) tr) { s with heap := h', toks := tk })
    (hE : 0 < most → most ≤ nodes → ∀ e dx g₂ h' tk a b c d l0' eln', Fr h₀ L g₂ m → Holds' s.heap g₂ ((P.core w vs ev lkv el most nodes tm tn l0 eln).map (·.1)) →
      RaisedX base g₂ (env :: outer) e 87 dx .none ((dx, excD w a b c d nodes) :: P.core w vs ev lkv el most nodes tm tn l0' eln') h' → g₂.UpToSlots h' → E (.ref e) { s with heap := h', toks := tk }) :
    wpAny (model PR w) { handled := none, depth := dep, frames := some (env :: outer), guards := gu, units := un } (call (.ref 255) [.ref P.c, .int alpha ta, .int beta tb, .int 0 tc, .int 0 td, .bool pv]) Q E s := by
  obtain ⟨vl, lk, cv, cl, dp, pp, lp, c1, fv, c2, fi, dc, c, ln, ocv, ocl, oc1, oc2, kp, kc, px, py, q1, q2, d1, d2, pm, t1, t2⟩ := P
  obtain ⟨o1, o2, o3, o4, o5, o6, o7, o8, o9, o10, o11, o12, hcv, hcl, ⟨vs1, tt1, he1, he1'⟩, ⟨vs2, tt2, he2, he2'⟩⟩ := O
  dsimp only [Pl.core] at *
  have zDB := ((((((((((DB.base2 o1 o2).up o3).up o4).up o5).up o6).up o7).up o8).up o9).up o10).up o11).up o12
  refine wpAny_call ?_
  refine' enterK B F X T N ?kA hf hke ?k6 ?k7 ?k8 ?k9 ?kB ?_ ?c5 ?c2 ?c3 ?c4
  case kA => exact rfl
  case k6 => k_is
  case k7 => k_is
  case k8 => show dep < 1000; omega
  case k9 => exact BindsTo.of_eq rfl
  case c5 => decide
  case kB => exact locs rfl
  case c2 => exact rfl
  case c3 => exact rfl
  case c4 => exact rfl
  intro g' L' h' FG' F' N' B' X' T' l1 hg
  (try dsimp only)
  simp only [AllLt, and_true] at l1
  (try k_lift B')
  (try k_fold)
  k_steps
  all_goals (
    (with_reducible rename Fr g' _ _ _ => hFF)
    (first
      | (with_reducible rename RaisedX _ _ _ _ _ _ _ _ _ => hR)
        exact hE (by assumption) (by assumption) _ _ g' _ _ _ _ _ _ _ _ FG' hg (hR.mono (by k_allIn)) (by assumption)
      | (have hcast : ((lki.length + 1 : Nat) : Int) = nodes + 1 := by omega)
        rw [hcast]
        refine' hQ (by omega) _ _ _ _ _ _ _ _ _ ?q1 ?q2 ?q3 ?q4 ?q5
        case q1 => assumption
        case q2 => (refine News.mono' (by assumption) ?_; k_allIn)
        case q3 => exact IntsAre.snoc1 hJ
        case q4 => (simp only [List.length_append, List.length_cons, List.length_nil] <;> omega)
        case q5 => exact (fun x o e n => hFF.keep x o (hg x o e n))))
end
section
/-- an exception stands in the frame env (or flies into it) -/
noncomputable def XE (base g : Heap) (env : Env) (outer : List Env) (L C : Addr) (s : Shared) (P : Heap → Addr → List (Addr × Obj) → Prop) (v : Value) (s' : Shared) : Prop :=
  ∃ e dx g₂ m fl news h' tk, v = .ref e ∧ s' = { s with heap := h', toks := tk } ∧ Fr g L g₂ m ∧ (fl = Value.none ∨ fl = rawInt L) ∧ RaisedX base g₂ (env :: outer) e C dx fl news h' ∧ g₂.UpToSlots h' ∧ P g₂ dx news
theorem RaisedX.tra {base g h : Heap} {l : List Env} {e C dx : Addr} {fl : Value} {news : List (Addr × Obj)} (R : RaisedX base g l e C dx fl news h) : ∃ B, TraX h B e C dx fl := by
  obtain ⟨B, _, _, _, _, _, _, f4⟩ := R
  exact ⟨B, f4⟩
theorem xe_passes {M : Model} {A : Around} {base g : Heap} {env : Env} {outer : List Env} {L C : Addr} {s : Shared} {P : Heap → Addr → List (Addr × Obj) → Prop} (hfr : A.frames = some (env :: outer)) (hf : env.frame = some L) :
    PassesOwn M A env (XE base g env outer L C s P) := by
  rintro v s' ⟨e, dx, g₂, m, fl, news, h', tk, rfl, rfl, F, hfl, R, U, hP⟩
  refine x_passes hfr R hfl hf U fun h₁ R₁ U₁ => ?_
  obtain ⟨B, oe, vs, T, oT, ts, he, _, hd, h1, _⟩ := R₁.tra
  unfold cameBackBy
  refine wpAny_bind (wpAny_field he hd h1 ?_)
  rw [if_neg (by simp)]
  rw [hf]
  exact x_held R₁ U₁ fun h₂ R₂ U₂ => ⟨e, dx, g₂, m, _, news, h₂, tk, rfl, rfl, F, .inr rfl, R₂, U₂, hP⟩

section
variable {prog : Program} {w : World} {A : Around} {E : Value → Shared → Prop} {Q : Flow → Shared → Prop} {s : Shared} {env : Env} {h₀ base : Heap} {L C : Addr} {outer : List Env}
theorem While_x {test : Expr} {body : List Stmt} {pos : Pos} {m : Str → Option Value} {news : List (Addr × Obj)} (J : Nat → (Str → Option Value) → List (Addr × Obj) → Prop) (P : Heap → Addr → List (Addr × Obj) → Prop) {n₀ : Nat}
    (hfr : A.frames = some (env :: outer)) (hf : env.frame = some L)
    (F : Fr h₀ L s.heap m) (N : News h₀ L s.heap news) (hJ : J n₀ m news)
    (turn : ∀ n m₁ news₁ h₁ tk₁, Fr h₀ L h₁ m₁ → News h₀ L h₁ news₁ → J n m₁ news₁ →
      wpAny (model prog w) A (isTrue test env (eval test env)) (fun b s₂ =>
        if b = true then wpAny (model prog w) A (execs body env) (WhileStep2 h₀ L s J Q n) (XE base h₀ env outer L C s P) s₂ else Q .next s₂) (XE base h₀ env outer L C s P) { s with heap := h₁, toks := tk₁ })
    (hexc : ∀ v s', XE base h₀ env outer L C s P v s' → E v s') :
    wpAny (model prog w) A (exec (.While test body [] pos) env) Q E s :=
  wpAny_mono (While_inv2 (E := XE base h₀ env outer L C s P) J F N hJ turn (xe_passes hfr hf)) (fun _ _ x => x) hexc
end
end
section
theorem freshL5 : True := by
  w_top off
  trivial
theorem look_call {w : World} {A₀ A : Around} {dep un : Nat} {gu : Option (List Code)} {base h₀ : Heap} {env : Env} {outer : List Env} {L : Addr} {m mg mb : Str → Option Value} {p : Program} {loose : List Str} {mean : ExcName → Option Value}
    {E : Value → Shared → Prop} {Q : Value → Shared → Prop} {s : Shared} {o vl : Addr} {oo : Obj} {vs : List Value} {ns : List Int} {ep : Nat} {n most : Int} {t t2 : Tok} {news : List (Addr × Obj)} {gf : Obj → List (Addr × Obj)}
    (hA : A = { handled := none, depth := dep, frames := some (env :: outer), guards := gu, units := un }) (hdep : dep ≤ 320) (hun : un ≤ 200)
    (B : Below A₀ base outer h₀) (F : Fr h₀ L s.heap m) (X : (hd.heap_39 w.params).In h₀) (T : Top p loose mean mg mb h₀) (hf : env.frame = some L) (hke : env.scope.kind = .function)
    (N : News h₀ L s.heap news) (U : UpdF o oo news gf) (hvl : (vl, listOf vs.toArray ep) ∈ news) (hne : @LT.lt Nat _ vl o) (hI : IntsAre vs ns) (hlen : ns.length ≤ 6) (hpos : 0 < ns.length)
    (hb : Obj.IsDictOf (PySem.strKind PR w) oo [(Str.ofString "values", .ref vl), (Str.ofString "looks", .int n t), (Str.ofString "most", .int most t2)])
    (h0 : 0 ≤ n)
    (hQ0 : Refused most n → ∀ h' tk, Fr h₀ L h' m → News h₀ L h' news → Q .none { s with heap := h', toks := tk })
    (hQ1 : ¬ Refused most n → ∀ tr h' tk oo' t', Fr h₀ L h' m → News h₀ L h' (gf oo') → Obj.IsDictOf (PySem.strKind PR w) oo' [(Str.ofString "values", .ref vl), (Str.ofString "looks", .int (n + 1) t'), (Str.ofString "most", .int most t2)] →
      Q (.int (lookV ns (n + 1)) tr) { s with heap := h', toks := tk }) :
    wpAny (model PR w) A (call (.ref 339) [.ref o]) Q E s := by
  subst hA
  have hmb : (o, oo) ∈ news := by
    obtain ⟨pre, post, rfl, _⟩ := U.split
    exact List.mem_append_right _ (.head _)
  refine look_spec (ep := ep) hdep hun B F X T hf hke (fun q hq => ?_) hne hI hlen hpos hb h0 (fun a b h' tk F' N' hk => hQ0 ⟨a, b⟩ h' tk F' fun q hq => ?_) fun hr tr h' tk oo' t' F' N' hd' hk => hQ1 hr tr h' tk oo' t' F' (news_put N U (N' _ (.head _)).1 fun x ox e n => ?_) hd'
  · rcases List.mem_cons.mp hq with rfl | hq
    · exact N _ hmb
    · rcases List.mem_cons.mp hq with rfl | hq
      · exact N _ hvl
      · exact nomatch hq
  · refine ⟨?_, (N q hq).2⟩
    have e := (N q hq).1
    by_cases hx : q.1 = vl
    · rw [hx] at e ⊢
      rw [(N _ hvl).1] at e
      rw [← Option.some.inj e]
      exact (N' _ (.tail _ (.head _))).1
    · by_cases hy : q.1 = o
      · rw [hy] at e ⊢
        rw [(N _ hmb).1] at e
        rw [← Option.some.inj e]
        exact (N' _ (.head _)).1
      · exact hk _ _ e (by simp [hx, hy])
  · by_cases hx : x = vl
    · subst hx
      have e2 := (N _ hvl).1
      rw [e] at e2
      cases e2
      exact (N' _ (.tail _ (.head _))).1
    · exact hk x ox e (by simp [n, hx])
theorem look_call1 {w : World} {A₀ A : Around} {dep un : Nat} {gu : Option (List Code)} {base h₀ : Heap} {env : Env} {outer : List Env} {L : Addr} {m mg mb : Str → Option Value} {p : Program} {loose : List Str} {mean : ExcName → Option Value}
    {E : Value → Shared → Prop} {Q : Value → Shared → Prop} {s : Shared} {o vl : Addr} {oo : Obj} {vs : List Value} {ns : List Int} {ep : Nat} {n most : Int} {t t2 : Tok} {news : List (Addr × Obj)} {gf : Obj → List (Addr × Obj)}
    (hA : A = { handled := none, depth := dep, frames := some (env :: outer), guards := gu, units := un }) (hdep : dep ≤ 320) (hun : un ≤ 200)
    (B : Below A₀ base outer h₀) (F : Fr h₀ L s.heap m) (X : (hd.heap_39 w.params).In h₀) (T : Top p loose mean mg mb h₀) (hf : env.frame = some L) (hke : env.scope.kind = .function)
    (N : News h₀ L s.heap news) (U : UpdF o oo news gf) (hvl : (vl, listOf vs.toArray ep) ∈ news) (hne : @LT.lt Nat _ vl o) (hI : IntsAre vs ns) (hlen : ns.length ≤ 6) (hpos : 0 < ns.length)
    (hb : Obj.IsDictOf (PySem.strKind PR w) oo [(Str.ofString "values", .ref vl), (Str.ofString "looks", .int n t), (Str.ofString "most", .int most t2)])
    (h0 : 0 ≤ n)
    (hQ : ∀ v n' h' tk oo' t', ((v = .none ∧ Refused most n ∧ n' = n) ∨ ∃ tr, v = .int (lookV ns (n + 1)) tr ∧ ¬ Refused most n ∧ n' = n + 1) → Fr h₀ L h' m → News h₀ L h' (gf oo') → Obj.IsDictOf (PySem.strKind PR w) oo' [(Str.ofString "values", .ref vl), (Str.ofString "looks", .int n' t'), (Str.ofString "most", .int most t2)] →
      Q v { s with heap := h', toks := tk }) :
    wpAny (model PR w) A (call (.ref 339) [.ref o]) Q E s := by
  have eg : gf oo = news := by
    obtain ⟨pre, post, rfl, e, _⟩ := U.split
    exact e oo
  exact look_call hA hdep hun B F X T hf hke N U hvl hne hI hlen hpos hb h0
    (fun hr h' tk F' N' => hQ .none n h' tk oo t (.inl ⟨rfl, hr, rfl⟩) F' (eg ▸ N') hb)
    (fun hr tr h' tk oo' t' F' N' hd => hQ _ _ h' tk oo' t' (.inr ⟨tr, rfl, hr, rfl⟩) F' N' hd)
noncomputable def RetV (r : Option Int) (v : Value) : Prop := match r with
  | none => v = .none
  | some x => ∃ tr, v = .int x tr
local macro_rules | `(tactic| walk_at "KswEnd") => `(tactic| fail)
local macro_rules | `(tactic| walk_at "call ref") => `(tactic| (k_here; (with_reducible show wpAny _ _ (call (Value.ref 339) _) _ _ _); k_dflt (refine' look_call ?lk_hA ?lk_d ?lk_u ?lk_B ?lk_F ?lk_X ?lk_T ?lk_hf ?lk_hk ?lk_N ?lk_U ?lk_m ?lk_ne ?lk_I ?lk_l ?lk_p ?lk_b ?lk_z ?_ ?_; (case lk_hA => exact rfl); (case lk_d | lk_u => first | assumption | omega | k_room); (case lk_B | lk_F | lk_X | lk_T => k_asm); (case lk_hf | lk_hk => exact rfl); (case lk_N => k_asm); (case lk_U => k_updF); (case lk_b | lk_I => assumption); (case lk_m => k_mem); (case lk_ne | lk_l | lk_p => assumption); (case lk_z => first | assumption | omega)); all_goals (intros; (with_reducible rename News _ _ _ _ => zN); (try dsimp only at zN); (try k_sweep))))
structure Stop (P : Prop) : Prop where
  go : P
local macro_rules | `(tactic| walk_at "exec While Compare cons nil") => `(tactic| (k_here; refine Stop.go ?_))
local macro_rules | `(tactic| ksw_same) => `(tactic| (intro z h2 h3; (try simp only [List.forall_mem_cons, List.not_mem_nil, false_implies, implies_true, and_true, ne_eq] at h2); (try simp only [List.contains_cons, List.contains_nil, Bool.or_false, Bool.or_eq_false_iff, beq_eq_false_iff_ne, ne_eq] at h3); (simp [h2, h3, kstB]; done)))
structure HalS where
  lo : Int
  hi : Int
  n : Int
  tl : Tok
  th : Tok
  t : Tok
  oo : Obj
set_option maxRecDepth 100000 in
set_option maxHeartbeats 8000000 in
theorem halves_spec {w : World} {A₀ A : Around} {dep un : Nat} {gu : Option (List Code)} {base h₀ : Heap} {env : Env} {outer : List Env} {L : Addr} {m mg mb : Str → Option Value} {p : Program} {loose : List Str} {mean : ExcName → Option Value}
    {E : Value → Shared → Prop} {Q : Value → Shared → Prop} {s : Shared} {o vl : Addr} {oo : Obj} {vs : List Value} {ns : List Int} {ep : Nat} {lo hi most : Int} {t t2 t3 t4 : Tok}
    (hA : A = { handled := none, depth := dep, frames := some (env :: outer), guards := gu, units := un }) (hdep : dep ≤ 310) (hun : un ≤ 190)
    (B : Below A₀ base outer h₀) (F : Fr h₀ L s.heap m) (X : (hd.heap_39 w.params).In h₀) (T : Top p loose mean mg mb h₀) (hf : env.frame = some L) (hke : env.scope.kind = .function)
    (N : News h₀ L s.heap [(o, oo), (vl, listOf vs.toArray ep)]) (hne : @LT.lt Nat _ vl o) (hI : IntsAre vs ns) (hlen : ns.length ≤ 6) (hpos : 0 < ns.length)
    (hb : Obj.IsDictOf (PySem.strKind PR w) oo [(Str.ofString "values", .ref vl), (Str.ofString "looks", .int 0 t), (Str.ofString "most", .int most t2)])
    (hQ : ∀ r n' v h' tk oo' t', HalR ns most 0 lo hi r n' → RetV r v → 0 ≤ n' → Fr h₀ L h' m → News h₀ L h' [(o, oo'), (vl, listOf vs.toArray ep)] → Obj.IsDictOf (PySem.strKind PR w) oo' [(Str.ofString "values", .ref vl), (Str.ofString "looks", .int n' t'), (Str.ofString "most", .int most t2)] →
      Holds' s.heap h' [o, vl] → Q v { s with heap := h', toks := tk }) :
    wpAny (model PR w) A (call (.ref 374) [.ref o, .int lo t3, .int hi t4]) Q E s := by
  subst hA
  refine wpAny_call ?_
  refine' enterK B F X T N ?kA hf hke ?k6 ?k7 ?k8 ?k9 ?kB ?_ ?c5 ?c2 ?c3 ?c4
  case kA => exact rfl
  case k6 => k_is
  case k7 => k_is
  case k8 => show dep < 1000; omega
  case k9 => exact BindsTo.of_eq rfl
  case c5 => decide
  case kB => exact locs rfl
  case c2 => exact rfl
  case c3 => exact rfl
  case c4 => exact rfl
  intro g' L' h' FG' F' N' B' X' T' l1 hg
  (try dsimp only)
  simp only [AllLt, and_true] at l1
  (try k_fold)
  k_steps
  refine ⟨?_⟩
  (rename Fr g' _ _ _ => lF')
  (rename News g' _ _ _ => lN')
  (with_unfolding_all refine' ksw_while (σ := HalS) (fun c => [(o, c.oo), (vl, listOf vs.toArray ep)]) (fun c => [(Str.ofString "low", .int c.lo c.tl), (Str.ofString "high", .int c.hi c.th)]) (fun c => Obj.IsDictOf (PySem.strKind PR w) c.oo [(Str.ofString "values", .ref vl), (Str.ofString "looks", .int c.n c.t), (Str.ofString "most", .int most t2)]) [Str.ofString "middle", Str.ofString "value"] (fun c => 0 ≤ c.n ∧ ∀ r n', HalR ns most c.n c.lo c.hi r n' → HalR ns most 0 lo hi r n') (fun c => halM ns c.n c.lo c.hi) ⟨lo, hi, 0, t3, t4, t, oo⟩ lF' ?kn ?kf ?kk ?kp ?_)
  case kn => exact lN'
  case kf => exact hb
  case kk => kst_all
  case kp => exact ⟨Int.le_refl _, fun _ _ x => x⟩
  clear lF' lN'
  rintro ⟨lo', hi', n, tl, th, tt, oo'⟩ kU kH kTk hb' ⟨hn0, hrel⟩ kF kN
  dsimp only at hb' hn0 hrel kF kN
  (try k_fold)
  k_steps
  all_goals first
    | ((with_reducible rename Fr g' _ _ _ => hFF)
       (with_reducible rename Obj.IsDictOf _ _ _ => hdd)
       first
       | exact hQ none n _ _ _ _ _ (hrel _ _ (.cut (by assumption) (by assumption))) rfl hn0 (by assumption) (by assumption) hdd (fun x o e n => hFF.keep x o (hg x o e n))
       | exact hQ (some lo') n _ _ _ _ _ (hrel _ _ (.stop (by omega))) ⟨_, rfl⟩ hn0 (by assumption) (by assumption) hdd (fun x o e n => hFF.keep x o (hg x o e n)))
    | skip
  all_goals (
    (rename News _ _ _ _ => nE')
    (with_reducible rename Obj.IsDictOf _ _ _ => hdd)
    refine ksw_end (⟨_, _, n + 1, _, _, _, _⟩ : HalS) (by assumption) nE' ?_ hdd (by kst_all) (by ksw_same) ?_ ?_
    · exact fun q hq => hq
    · refine ⟨by show 0 ≤ n + 1; omega, fun r n' h => ?_⟩
      first
      | exact hrel _ _ (.down (by assumption) (by assumption) (by rw [← fdiv_mid]; omega) h)
      | exact hrel _ _ (.up (by assumption) (by assumption) (by rw [← fdiv_mid]; omega) h)
    · dsimp only
      first
      | exact halM_down (by assumption) (by rw [← fdiv_mid]; omega)
      | exact halM_up (by assumption) (by rw [← fdiv_mid]; omega))
section
theorem freshL6 : True := by
  w_top off
  trivial
local macro_rules | `(tactic| walk_at "no such key 0") => `(tactic| fail)
theorem withHead {h₀ h : Heap} {L a : Addr} {ob : Obj} {r : List (Addr × Obj)} (_ : News h₀ L h ((a, ob) :: r)) {P : Prop} (k : ∀ a', a' = a → P) : P := k a rfl
theorem drop1 {h₀ h : Heap} {L : Addr} {x : Addr × Obj} {r : List (Addr × Obj)} (N : News h₀ L h (x :: r)) : News h₀ L h r := fun q hq => N q (.tail _ hq)
structure MtdS where
  lo : Int
  hi : Int
  v : Int
  n : Int
  tl : Tok
  th : Tok
  tv : Tok
  t : Tok
  ep : Nat
  oo : Obj
set_option maxRecDepth 100000 in
set_option maxHeartbeats 8000000 in
theorem closing_spec {w : World} {A₀ A : Around} {dep un : Nat} {gu : Option (List Code)} {base h₀ : Heap} {env : Env} {outer : List Env} {L : Addr} {m mg mb : Str → Option Value} {p : Program} {loose : List Str} {mean : ExcName → Option Value}
    {E : Value → Shared → Prop} {Q : Value → Shared → Prop} {s : Shared} {o vl : Addr} {oo : Obj} {vs : List Value} {ns : List Int} {ep : Nat} {gs most : Int} {t t2 t3 : Tok}
    (hA : A = { handled := none, depth := dep, frames := some (env :: outer), guards := gu, units := un }) (hdep : dep ≤ 310) (hun : un ≤ 190)
    (B : Below A₀ base outer h₀) (F : Fr h₀ L s.heap m) (X : (hd.heap_39 w.params).In h₀) (T : Top p loose mean mg mb h₀) (hf : env.frame = some L) (hke : env.scope.kind = .function)
    (N : News h₀ L s.heap [(o, oo), (vl, listOf vs.toArray ep)]) (hne : @LT.lt Nat _ vl o) (hI : IntsAre vs ns) (hlen : ns.length ≤ 6) (hpos : 0 < ns.length)
    (hb : Obj.IsDictOf (PySem.strKind PR w) oo [(Str.ofString "values", .ref vl), (Str.ofString "looks", .int 0 t), (Str.ofString "most", .int most t2)])
    (hQ : ∀ r n' v h' tk oo' t', MtdR ns most 0 (-32001) 32001 (clampG gs) r n' → RetV r v → 0 ≤ n' → Fr h₀ L h' m → News h₀ L h' [(o, oo'), (vl, listOf vs.toArray ep)] → Obj.IsDictOf (PySem.strKind PR w) oo' [(Str.ofString "values", .ref vl), (Str.ofString "looks", .int n' t'), (Str.ofString "most", .int most t2)] →
      Holds' s.heap h' [o, vl] → Q v { s with heap := h', toks := tk }) :
    wpAny (model PR w) A (call (.ref 367) [.ref o, .int gs t3]) Q E s := by
  subst hA
  refine wpAny_call ?_
  refine' enterK B F X T N ?kA hf hke ?k6 ?k7 ?k8 ?k9 ?kB ?_ ?c5 ?c2 ?c3 ?c4
  case kA => exact rfl
  case k6 => k_is
  case k7 => k_is
  case k8 => show dep < 1000; omega
  case k9 => exact BindsTo.of_eq rfl
  case c5 => decide
  case kB => exact locs rfl
  case c2 => exact rfl
  case c3 => exact rfl
  case c4 => exact rfl
  intro g' L' h' FG' F' N' B' X' T' l1 hg
  (try dsimp only)
  simp only [AllLt, and_true] at l1
  (try k_fold)
  k_steps
  refine ⟨?_⟩
  (rename Fr g' _ _ _ => lF')
  (rename News g' _ _ _ => lN')
  refine withHead lN' fun en hen => ?_
  subst hen
  (with_unfolding_all refine' ksw_while (σ := MtdS) (fun c => [(en, listOf #[.int c.lo c.tl, .int c.hi c.th] c.ep), (o, c.oo), (vl, listOf vs.toArray ep)]) (fun c => [(Str.ofString "value", .int c.v c.tv)]) (fun c => Obj.IsDictOf (PySem.strKind PR w) c.oo [(Str.ofString "values", .ref vl), (Str.ofString "looks", .int c.n c.t), (Str.ofString "most", .int most t2)]) [Str.ofString "border"] (fun c => 0 ≤ c.n ∧ ((ns.length : Int) ≤ c.n → c.v = lookV ns c.n) ∧ ∀ r n', MtdR ns most c.n c.lo c.hi c.v r n' → MtdR ns most 0 (-32001) 32001 (clampG gs) r n') (fun c => mtdM ns c.n c.lo c.hi c.v) ⟨_, _, _, 0, _, _, _, t, 0, oo⟩ lF' ?kn ?kf ?kk ?kp ?_)
  case kn => exact lN'
  case kf => exact hb
  case kk => kst_all
  case kp =>
    refine ⟨Int.le_refl _, fun h => ?_, fun r n' x => ?_⟩
    · dsimp only at h; omega
    · dsimp only at x
      have e : clampG gs = if (if gs < 32000 then gs else 32000) > -32000 then if gs < 32000 then gs else 32000 else -32000 := clampG_eq gs
      rw [e]
      exact x
  clear lF' lN'
  rintro ⟨lo, hi, v, n, tl, th, tv, tt, ep', oo'⟩ kU kH kTk hb' ⟨hn0, hvl, hrel⟩ kF kN
  dsimp only at hb' hn0 hvl hrel kF kN
  (try k_fold)
  k_steps
  all_goals first
    | ((with_reducible rename Fr g' _ _ _ => hFF)
       (with_reducible rename Obj.IsDictOf _ _ _ => hdd)
       first
       | exact hQ none n _ _ _ _ _ (hrel _ _ (.cut (by have e0 : [lo, hi].getD (Int.toNat 0) 0 = lo := rfl; have e1 : [lo, hi].getD (Int.toNat 1) 0 = hi := rfl; omega) (by first | assumption | exact ⟨by assumption, by assumption⟩))) rfl hn0 (by assumption) (drop1 (by assumption)) hdd (fun x o e n => hFF.keep x o (hg x o e n))
       | exact hQ (some v) n _ _ _ _ _ (hrel _ _ (.stop (by have e0 : [lo, hi].getD (Int.toNat 0) 0 = lo := rfl; have e1 : [lo, hi].getD (Int.toNat 1) 0 = hi := rfl; omega))) ⟨_, rfl⟩ hn0 (by assumption) (drop1 (by assumption)) hdd (fun x o e n => hFF.keep x o (hg x o e n)))
    | skip
  all_goals (
    (rename News _ _ _ _ => nE')
    (with_reducible rename Obj.IsDictOf _ _ _ => hdd)
    have hlt : lo < hi := by have e0 : [lo, hi].getD (Int.toNat 0) 0 = lo := rfl; have e1 : [lo, hi].getD (Int.toNat 1) 0 = hi := rfl; omega
    refine ksw_end (⟨_, _, _, n + 1, _, _, _, _, _, _⟩ : MtdS) (by assumption) nE' (fun q hq => hq) hdd (by kst_all) (by ksw_same) ?_ ?_
    · refine ⟨by show 0 ≤ n + 1; omega, fun _ => rfl, fun r n' h => ?_⟩
      have hR : ¬ Refused most n := by first | assumption | (show ¬ (0 < most ∧ most ≤ n); omega)
      first
      | exact hrel _ _ (.low hlt hR (by have e0 : [lo, hi].getD (Int.toNat 0) 0 = lo := rfl; have e1 : [lo, hi].getD (Int.toNat 1) 0 = hi := rfl; have eL : lookV ns (n + 1) = ns.getD ((if (ns.length : Int) < n + 1 then (ns.length : Int) else n + 1) - 1).toNat 0 := rfl; split <;> omega) h)
      | exact hrel _ _ (.high hlt hR (by have e0 : [lo, hi].getD (Int.toNat 0) 0 = lo := rfl; have e1 : [lo, hi].getD (Int.toNat 1) 0 = hi := rfl; have eL : lookV ns (n + 1) = ns.getD ((if (ns.length : Int) < n + 1 then (ns.length : Int) else n + 1) - 1).toNat 0 := rfl; split <;> omega) h)
    · dsimp only
      first
      | exact mtdM_low hvl hlt (by have e0 : [lo, hi].getD (Int.toNat 0) 0 = lo := rfl; have e1 : [lo, hi].getD (Int.toNat 1) 0 = hi := rfl; have eL : lookV ns (n + 1) = ns.getD ((if (ns.length : Int) < n + 1 then (ns.length : Int) else n + 1) - 1).toNat 0 := rfl; split <;> omega)
      | exact mtdM_high hvl hlt (by have e0 : [lo, hi].getD (Int.toNat 0) 0 = lo := rfl; have e1 : [lo, hi].getD (Int.toNat 1) 0 = hi := rfl; have eL : lookV ns (n + 1) = ns.getD ((if (ns.length : Int) < n + 1 then (ns.length : Int) else n + 1) - 1).toNat 0 := rfl; split <;> omega))
end
section
theorem freshL7 : True := by
  w_top off
  trivial
local macro_rules | `(tactic| walk_at "call ref") => `(tactic| (k_here; (with_reducible show wpAny _ _ (call (Value.ref 339) _) _ _ _); k_dflt (refine' look_call1 ?lk_hA ?lk_d ?lk_u ?lk_B ?lk_F ?lk_X ?lk_T ?lk_hf ?lk_hk ?lk_N ?lk_U ?lk_m ?lk_ne ?lk_I ?lk_l ?lk_p ?lk_b ?lk_z ?_; (case lk_hA => exact rfl); (case lk_d | lk_u => first | assumption | omega | k_room); (case lk_B | lk_F | lk_X | lk_T => k_asm); (case lk_hf | lk_hk => exact rfl); (case lk_N => k_asm); (case lk_U => k_updF); (case lk_b | lk_I => assumption); (case lk_m => k_mem); (case lk_ne | lk_l | lk_p => assumption); (case lk_z => first | assumption | omega)); all_goals (intros; (with_reducible rename News _ _ _ _ => zN); (try dsimp only at zN); (try k_sweep))))
local macro_rules | `(tactic| walk_at "exec While BoolOp And nil") => `(tactic| (k_here; refine Stop.go ?_))
local macro_rules | `(tactic| walk_at "exec While BoolOp") => `(tactic| (k_here; refine Stop.go ?_))
local macro_rules | `(tactic| walk_at "call ref") => `(tactic| (k_here; (with_reducible show wpAny _ _ (call (Value.ref 353) _) _ _ _); k_dflt (refine' edge_spec ?ed_hA ?ed_d ?ed_B ?ed_F ?ed_X ?ed_T ?ed_hf ?ed_hk ?ed_N ?ed_sg ?ed_v ?ed_1 ?_; (case ed_hA => exact rfl); (case ed_d => first | assumption | omega | k_room); (case ed_B | ed_F | ed_X | ed_T => k_asm); (case ed_hf | ed_hk => exact rfl); (case ed_N => k_asm); (case ed_sg => first | exact Or.inl rfl | exact Or.inr rfl); (case ed_v => first | assumption | (constructor <;> (repeat' split) <;> omega)); (case ed_1 => first | assumption | ((repeat' split) <;> omega))); (intro x tr h' tk e1 e2 F' N'; k_dflt (first | (have ee := e1 rfl; subst ee; clear e1 e2) | (have ee := e2 rfl; subst ee; clear e1 e2)); (try k_sweep))))
theorem sub_skip2 {α : Type} {a x b c : α} : ∀ p ∈ [a, b, c], p ∈ [a, x, b, c] := fun p h => by
  simp only [List.mem_cons, List.not_mem_nil, or_false] at h ⊢
  rcases h with h | h | h <;> simp [h]
noncomputable def wid (w : Int) : Int := if w < 1 then 1 else w
structure AspS where
  en : Addr
  lo : Int
  hi : Int
  d : Int
  n : Int
  tl : Tok
  th : Tok
  td : Tok
  val : Value
  t : Tok
  ep : Nat
  oo : Obj
  mu : Nat
/-- what a look gave: nothing more, or the next value -/
noncomputable abbrev Looked (ns : List Int) (most n : Int) (x : Value) (n' : Int) : Prop := (x = .none ∧ Refused most n ∧ n' = n) ∨ ∃ tr, x = .int (lookV ns (n + 1)) tr ∧ ¬ Refused most n ∧ n' = n + 1
/-- the loop's state, T what is to be told -/
noncomputable abbrev AspOn (ns : List Int) (most : Int) (T : Option Int → Int → Prop) (x : Value) (n lo hi d : Int) (mu : Nat) : Prop :=
  (x = .none ∧ T none n ∧ mu = 0) ∨ ∃ v tv, x = .int v tv ∧ 1 ≤ n ∧ v = lookV ns n ∧ 1 ≤ d ∧ mu = aspM ns n lo hi v + 1 ∧ ∀ r n', AspR ns most n lo hi d v r n' → T r n'
theorem asp_start {ns : List Int} {most g w' lo hi d : Int} {x : Value} {n' : Int} (hlo : lo = loE g w') (hhi : hi = hiE g w') (hd : d = w') (hw : 1 ≤ w') (h : Looked ns most 0 x n') :
    ∃ mu, AspOn ns most (AspT ns most g w') x n' lo hi d mu ∧ 0 ≤ n' := by
  subst hlo hhi hd
  rcases h with ⟨rfl, hR, rfl⟩ | ⟨tr, rfl, hR, rfl⟩
  · exact ⟨0, .inl ⟨rfl, .cut hR, rfl⟩, by omega⟩
  · exact ⟨_, .inr ⟨_, _, rfl, by omega, rfl, hw, rfl, fun r n' h => .go hR h⟩, by omega⟩
theorem asp_low {ns : List Int} {most n lo hi d v : Int} {mu : Nat} {T : Option Int → Int → Prop} {x : Value} {n' : Int} (hr : ∀ x ∈ ns, -32000 ≤ x ∧ x ≤ 32000) (hpos : 0 < ns.length) (hn1 : 1 ≤ n) (hd1 : 1 ≤ d) (hv : v = lookV ns n) (hmu : mu = aspM ns n lo hi v + 1)
    (hrel : ∀ r n', AspR ns most n lo hi d v r n' → T r n') (hlo : v ≤ lo) (hgap : ¬ (lo < v ∧ v < hi)) (h : Looked ns most n x n') :
    ∃ mu', AspOn ns most T x n' (loE v d) ((lo + hi).fdiv 2) (d + d.fdiv 4 + 5) mu' ∧ mu' < mu ∧ 0 ≤ n' := by
  have hd4 : 1 ≤ d + d.fdiv 4 + 5 := by rw [Int.fdiv_eq_ediv_of_nonneg _ (by omega)]; omega
  rcases h with ⟨rfl, hR, rfl⟩ | ⟨tr, rfl, hR, rfl⟩
  · exact ⟨0, .inl ⟨rfl, hrel _ _ (.cut hgap hR), rfl⟩, by omega, by omega⟩
  · refine ⟨_, .inr ⟨_, _, rfl, by omega, rfl, hd4, rfl, fun r n' h => hrel _ _ (.low hlo hR (by rw [← Int.add_assoc]; exact h))⟩, ?_, by omega⟩
    rw [hmu, hv]
    exact Nat.succ_lt_succ (aspM_low hr hpos hn1 hd1 (by omega))
theorem asp_high {ns : List Int} {most n lo hi d v : Int} {mu : Nat} {T : Option Int → Int → Prop} {x : Value} {n' : Int} (hr : ∀ x ∈ ns, -32000 ≤ x ∧ x ≤ 32000) (hpos : 0 < ns.length) (hn1 : 1 ≤ n) (hd1 : 1 ≤ d) (hv : v = lookV ns n) (hmu : mu = aspM ns n lo hi v + 1)
    (hrel : ∀ r n', AspR ns most n lo hi d v r n' → T r n') (hlo : lo < v) (hhi : hi ≤ v) (h : Looked ns most n x n') :
    ∃ mu', AspOn ns most T x n' lo (hiE v d) (d + d.fdiv 4 + 5) mu' ∧ mu' < mu ∧ 0 ≤ n' := by
  have hd4 : 1 ≤ d + d.fdiv 4 + 5 := by rw [Int.fdiv_eq_ediv_of_nonneg _ (by omega)]; omega
  rcases h with ⟨rfl, hR, rfl⟩ | ⟨tr, rfl, hR, rfl⟩
  · exact ⟨0, .inl ⟨rfl, hrel _ _ (.cut (by omega) hR), rfl⟩, by omega, by omega⟩
  · refine ⟨_, .inr ⟨_, _, rfl, by omega, rfl, hd4, rfl, fun r n' h => hrel _ _ (.high hlo hhi hR (by rw [← Int.add_assoc]; exact h))⟩, ?_, by omega⟩
    rw [hmu, hv]
    exact Nat.succ_lt_succ (aspM_high hr hpos hn1 hd1 (by omega) (by omega))
set_option maxRecDepth 100000 in
set_option maxHeartbeats 8000000 in
theorem asp_spec {w : World} {A₀ A : Around} {dep un : Nat} {gu : Option (List Code)} {base h₀ : Heap} {env : Env} {outer : List Env} {L : Addr} {m mg mb : Str → Option Value} {p : Program} {loose : List Str} {mean : ExcName → Option Value}
    {E : Value → Shared → Prop} {Q : Value → Shared → Prop} {s : Shared} {o vl : Addr} {oo : Obj} {vs : List Value} {ns : List Int} {ep : Nat} {gs ws most : Int} {t t2 t3 t4 : Tok}
    (hA : A = { handled := none, depth := dep, frames := some (env :: outer), guards := gu, units := un }) (hdep : dep ≤ 310) (hun : un ≤ 190)
    (B : Below A₀ base outer h₀) (F : Fr h₀ L s.heap m) (X : (hd.heap_39 w.params).In h₀) (T : Top p loose mean mg mb h₀) (hf : env.frame = some L) (hke : env.scope.kind = .function)
    (N : News h₀ L s.heap [(o, oo), (vl, listOf vs.toArray ep)]) (hne : @LT.lt Nat _ vl o) (hI : IntsAre vs ns) (hlen : ns.length ≤ 6) (hpos : 0 < ns.length) (hr : ∀ x ∈ ns, -32000 ≤ x ∧ x ≤ 32000)
    (hb : Obj.IsDictOf (PySem.strKind PR w) oo [(Str.ofString "values", .ref vl), (Str.ofString "looks", .int 0 t), (Str.ofString "most", .int most t2)])
    (hQ : ∀ r n' v h' tk oo' t', AspT ns most (clampG gs) (wid ws) r n' → RetV r v → 0 ≤ n' → Fr h₀ L h' m → News h₀ L h' [(o, oo'), (vl, listOf vs.toArray ep)] → Obj.IsDictOf (PySem.strKind PR w) oo' [(Str.ofString "values", .ref vl), (Str.ofString "looks", .int n' t'), (Str.ofString "most", .int most t2)] →
      Holds' s.heap h' [o, vl] → Q v { s with heap := h', toks := tk }) :
    wpAny (model PR w) A (call (.ref 360) [.ref o, .int gs t3, .int ws t4]) Q E s := by
  subst hA
  refine wpAny_call ?_
  refine' enterK B F X T N ?kA hf hke ?k6 ?k7 ?k8 ?k9 ?kB ?_ ?c5 ?c2 ?c3 ?c4
  case kA => exact rfl
  case k6 => k_is
  case k7 => k_is
  case k8 => show dep < 1000; omega
  case k9 => exact BindsTo.of_eq rfl
  case c5 => decide
  case kB => exact locs rfl
  case c2 => exact rfl
  case c3 => exact rfl
  case c4 => exact rfl
  intro g' L' h' FG' F' N' B' X' T' l1 hg
  (try dsimp only)
  simp only [AllLt, and_true] at l1
  (try k_fold)
  k_steps
  all_goals refine ⟨?_⟩
  all_goals (
    (rename Fr g' _ _ _ => lF')
    (rename News g' _ _ _ => lN')
    (with_reducible rename Obj.IsDictOf _ _ _ => hdd)
    refine withHead lN' fun en hen => ?_
    subst hen
    have eg : clampG gs = if (if gs < 32000 then gs else 32000) > -32000 then if gs < 32000 then gs else 32000 else -32000 := clampG_eq gs
    have ew : wid ws = if 1 > ws then 1 else ws := by unfold wid; (repeat' split) <;> omega
    (rename Looked _ _ _ _ _ => hval)
    obtain ⟨mu0, hst, hn0⟩ := asp_start (g := clampG gs) (w' := wid ws) (lo := loE (if (if gs < 32000 then gs else 32000) > -32000 then if gs < 32000 then gs else 32000 else -32000) (if 1 > ws then 1 else ws)) (hi := hiE (if (if gs < 32000 then gs else 32000) > -32000 then if gs < 32000 then gs else 32000 else -32000) (if 1 > ws then 1 else ws)) (d := (if 1 > ws then 1 else ws)) (by rw [eg, ew]) (by rw [eg, ew]) ew.symm (by unfold wid; split <;> omega) hval
    (with_unfolding_all refine' ksw_while (σ := AspS) (fun c => [(c.en, listOf #[.int c.lo c.tl, .int c.hi c.th] c.ep), (o, c.oo), (vl, listOf vs.toArray ep)]) (fun c => [(Str.ofString "ends", .ref c.en), (Str.ofString "width", .int c.d c.td), (Str.ofString "value", c.val)]) (fun c => Obj.IsDictOf (PySem.strKind PR w) c.oo [(Str.ofString "values", .ref vl), (Str.ofString "looks", .int c.n c.t), (Str.ofString "most", .int most t2)]) [] (fun c => @LT.lt Nat _ o c.en ∧ @LT.lt Nat _ vl c.en ∧ 0 ≤ c.n ∧ AspOn ns most (AspT ns most (clampG gs) (wid ws)) c.val c.n c.lo c.hi c.d c.mu) (fun c => c.mu) ⟨en, loE (if (if gs < 32000 then gs else 32000) > -32000 then if gs < 32000 then gs else 32000 else -32000) (if 1 > ws then 1 else ws), hiE (if (if gs < 32000 then gs else 32000) > -32000 then if gs < 32000 then gs else 32000 else -32000) (if 1 > ws then 1 else ws), (if 1 > ws then 1 else ws), _, _, _, _, _, _, _, _, mu0⟩ lF' ?kn ?kf ?kk ?kp ?_)
    case kn => exact lN'
    case kf => exact hdd
    case kk => kst_all
    case kp => exact ⟨by dsimp only; omega, by dsimp only; omega, hn0, hst⟩
    clear hval hst
    clear lF' lN')
  all_goals (
    rintro ⟨en, lo, hi, d, n, tl, th, td, val, tt, ep', oo', mu⟩ kU kH kTk hb' ⟨ho1, ho2, hn0, hc⟩ kF kN
    dsimp only at hb' ho1 ho2 hn0 hc kF kN
    rcases hc with ⟨rfl, hT, rfl⟩ | ⟨v, tv, rfl, hn1, hv, hd1, hmu, hrel⟩)
  all_goals (try have hvr : -32000 ≤ v ∧ v ≤ 32000 := by rw [hv]; exact hr _ (lookV_mem hpos hn1))
  all_goals (try k_fold)
  all_goals k_steps
  all_goals (
    (with_reducible rename Fr g' _ _ _ => hFF)
    (with_reducible rename Obj.IsDictOf _ _ _ => hdd))
  all_goals try exact hQ none n _ _ _ _ _ hT rfl hn0 (by assumption) (drop1 (by assumption)) hdd (fun x o e n => hFF.keep x o (hg x o e n))
  all_goals (
    have e0 : [lo, hi].getD (Int.toNat 0) 0 = lo := rfl
    have e1 : [lo, hi].getD (Int.toNat 1) 0 = hi := rfl
    try exact hQ (some v) n _ _ _ _ _ (hrel _ _ (.stop (by omega) (by omega))) ⟨_, rfl⟩ hn0 (by assumption) (drop1 (by assumption)) hdd (fun x o e n => hFF.keep x o (hg x o e n)))
  all_goals (
    (rename News g' _ _ _ => nE')
    refine withHead nE' fun en' hen' => ?_
    subst hen'
    (rename Looked _ _ _ _ _ => hval')
    first
    | (have hlo : v ≤ lo := by omega
       obtain ⟨mu', hst', hlt', hn'⟩ := asp_low hr hpos hn1 hd1 hv hmu hrel hlo (by omega) hval'
       exact ksw_end (⟨en', loE v d, (lo + hi).fdiv 2, d + d.fdiv 4 + 5, _, _, _, _, _, _, _, _, mu'⟩ : AspS) hFF nE' sub_skip2 hdd (by kst_all) (by ksw_same)
           ⟨by dsimp only; omega, by dsimp only; omega, hn', hst'⟩ hlt')
    | (have hlo : lo < v := by omega
       have hhi : hi ≤ v := by omega
       obtain ⟨mu', hst', hlt', hn'⟩ := asp_high hr hpos hn1 hd1 hv hmu hrel hlo hhi hval'
       exact ksw_end (⟨en', lo, hiE v d, d + d.fdiv 4 + 5, _, _, _, _, _, _, _, _, mu'⟩ : AspS) hFF nE' sub_skip2 hdd (by kst_all) (by ksw_same)
           ⟨by dsimp only; omega, by dsimp only; omega, hn', hst'⟩ hlt'))
end
section
theorem freshL8 : True := by
  w_top off
  trivial
noncomputable def Pl.addrs (P : Pl) : List Addr := [P.ln, P.c, P.dc, P.fi, P.c2, P.fv, P.c1, P.p, P.dp, P.cl, P.cv, P.vl, P.lk]
noncomputable def Pl.cor (P : Pl) (w : World) (vs : List Value) (ev : Nat) (lkv : List Value) (el : Nat) (most nodes : Int) (tm tn : Tok) (l0 : Addr) (eln : Nat) : List (Addr × Obj) := P.core w vs ev lkv el most nodes tm tn l0 eln
/-- what flies when the looks are used up: R tells at which count -/
noncomputable def ExcP (w : World) (P : Pl) (vs : List Value) (ev : Nat) (most : Int) (tm : Tok) (R : Int → Prop) (dx : Addr) (news : List (Addr × Obj)) : Prop :=
  ∃ n a b c d lkv lki el tn l0 eln, R n ∧ news = (dx, excD w a b c d n) :: P.cor w vs ev lkv el most n tm tn l0 eln ∧ IntsAre lkv lki ∧ (lki.length : Int) = n
theorem search_call {w : World} {A₀ A : Around} {dep un : Nat} {gu : Option (List Code)} {base h₀ : Heap} {env : Env} {outer : List Env} {L : Addr} {m mg mb : Str → Option Value} {p : Program} {loose : List Str} {mean : ExcName → Option Value}
    {E : Value → Shared → Prop} {Q : Value → Shared → Prop} {s : Shared} {P : Pl} {vs lkv : List Value} {ns lki : List Int} {ev el eln : Nat} {most nodes alpha beta : Int} {tm tn ta tb tc td : Tok} {l0 : Addr} {pv : Bool}
    (hA : A = { handled := none, depth := dep, frames := some (env :: outer), guards := gu, units := un }) (hdep : dep ≤ 320) (hun : un ≤ 200)
    (B : Below A₀ base outer h₀) (F : Fr h₀ L s.heap m) (X : (hd.heap_39 w.params).In h₀) (T : Top p loose mean mg mb h₀) (hf : env.frame = some L) (hke : env.scope.kind = .function)
    (C : CodeHd base 331 327)
    (N : News h₀ L s.heap (P.cor w vs ev lkv el most nodes tm tn l0 eln)) (O : P.Ok) (hI : IntsAre vs ns) (hlen : ns.length ≤ 6) (hpos : 0 < ns.length)
    (hJ : IntsAre lkv lki) (hn : (lki.length : Int) = nodes) (hno : nodes ≤ 100)
    (hQ : ¬ Refused most nodes → ∀ tr h' tk lkv' lki' el' tn' l0' eln', Fr h₀ L h' m → News h₀ L h' (P.cor w vs ev lkv' el' most (nodes + 1) tm tn' l0' eln') → IntsAre lkv' lki' → (lki'.length : Int) = nodes + 1 →
      Q (.int (lookV ns (nodes + 1)) tr) { s with heap := h', toks := tk })
    (hE : Refused most nodes → ∀ e dx g₂ h' tk news, ExcP w P vs ev most tm (fun n => n = nodes) dx news → Fr h₀ L g₂ m →
      RaisedX base g₂ (env :: outer) e 87 dx .none news h' → g₂.UpToSlots h' → E (.ref e) { s with heap := h', toks := tk }) :
    wpAny (model PR w) A (call (.ref 255) [.ref P.c, .int alpha ta, .int beta tb, .int 0 tc, .int 0 td, .bool pv]) Q E s := by
  subst hA
  exact search_spec hdep hun B F X T hf hke C N O hI hlen hpos hJ hn hno (fun hr tr h' tk lkv' lki' el' tn' l0' eln' F' N' hJ' hn' _ => hQ (fun z => hr z) tr h' tk lkv' lki' el' tn' l0' eln' F' N' hJ' hn')
    (fun h1 h2 e dx g₂ h' tk a b c d l0' eln' F' _ R U => hE ⟨h1, h2⟩ e dx g₂ h' tk _ ⟨nodes, a, b, c, d, lkv, lki, el, tn, l0', eln', rfl, rfl, hJ, hn⟩ F' R U)

section
variable {prog : Program} {w : World} {A : Around} {E : Value → Shared → Prop} {Q : Flow → Shared → Prop} {s : Shared} {env : Env} {h₀ base : Heap} {L C : Addr} {outer : List Env}
theorem ksw_while_x {σ : Type} {test : Expr} {body : List Stmt} {pos : Pos} {m₀ : Str → Option Value} (Led : σ → List (Addr × Obj)) (ps : σ → List (Str × Value)) (Facts : σ → Prop) (stored : List Str) (P : σ → Prop) (μ : σ → Nat) (X : Heap → Addr → List (Addr × Obj) → Prop) (c₀ : σ)
    (hfr : A.frames = some (env :: outer)) (hf : env.frame = some L)
    (F : Fr h₀ L s.heap m₀) (N : News h₀ L s.heap (Led c₀)) (hF : Facts c₀) (hk : ∀ p ∈ ps c₀, m₀ p.1 = some p.2) (hp : P c₀)
    (turn : ∀ (c : σ) (u : Str → Option Value) h tk, Facts c → P c → Fr h₀ L h (kstB (fun z => if stored.contains z then u z else m₀ z) (ps c)) → News h₀ L h (Led c) →
      wpAny (model prog w) A (isTrue test env (eval test env)) (fun b s₂ =>
        if b = true then wpAny (model prog w) A (execs body env) (KswPost h₀ L s Led ps Facts stored m₀ P μ Q c) (XE base h₀ env outer L C s X) s₂ else Q .next s₂) (XE base h₀ env outer L C s X) { s with heap := h, toks := tk })
    (hexc : ∀ v s', XE base h₀ env outer L C s X v s' → E v s') :
    wpAny (model prog w) A (exec (.While test body [] pos) env) Q E s :=
  wpAny_mono (ksw_while (E := XE base h₀ env outer L C s X) Led ps Facts stored P μ c₀ F N hF hk hp turn (xe_passes hfr hf)) (fun _ _ x => x) hexc
end
theorem Holds'.keep {h g g' : Heap} {as : List Addr} (H : Holds' h g as) (k : ∀ b o, g.get? b = some o → g'.get? b = some o) : Holds' h g' as := fun b o e n => k b o (H b o e n)
structure HvS where
  lo : Int
  hi : Int
  n : Int
  tl : Tok
  th : Tok
  lkv : List Value
  lki : List Int
  el : Nat
  tn : Tok
  l0 : Addr
  eln : Nat
local macro_rules | `(tactic| walk_at "exec While BoolOp Or nil") => `(tactic| (k_here; refine Stop.go ?_))
local macro_rules | `(tactic| walk_at "exec While BoolOp") => `(tactic| (k_here; refine Stop.go ?_))
local macro_rules | `(tactic| walk_at "call ref") => `(tactic| (k_here; (with_reducible show wpAny _ _ (call (Value.ref 255) _) _ _ _); k_dflt (refine' search_call ?sc_hA ?sc_d ?sc_u ?sc_B ?sc_F ?sc_X ?sc_T ?sc_hf ?sc_hk ?sc_C ?sc_N ?sc_O ?sc_I ?sc_l ?sc_p ?sc_J ?sc_n ?sc_no ?_ ?_; (case sc_hA => exact rfl); (case sc_d | sc_u => first | assumption | omega | k_room); (case sc_B | sc_F | sc_X | sc_T => k_asm); (case sc_hf | sc_hk => exact rfl); (case sc_C => assumption); (case sc_N => k_asm); (case sc_O | sc_I | sc_l | sc_p | sc_J | sc_n => assumption); (case sc_no => first | assumption | omega)); all_goals (intros; (try k_sweep))))
set_option maxRecDepth 100000 in
set_option maxHeartbeats 8000000 in
theorem halve_spec {w : World} {A₀ A : Around} {dep un : Nat} {gu : Option (List Code)} {base h₀ : Heap} {env : Env} {outer : List Env} {L : Addr} {m mg mb : Str → Option Value} {p : Program} {loose : List Str} {mean : ExcName → Option Value}
    {E : Value → Shared → Prop} {Q : Value → Shared → Prop} {s : Shared} {P : Pl} {vs lkv : List Value} {ns lki : List Int} {ev el eln : Nat} {most lo hi : Int} {tm tn ta tb tc : Tok} {l0 : Addr}
    (hA : A = { handled := none, depth := dep, frames := some (env :: outer), guards := gu, units := un }) (hdep : dep ≤ 310) (hun : un ≤ 190)
    (B : Below A₀ base outer h₀) (F : Fr h₀ L s.heap m) (X : (hd.heap_39 w.params).In h₀) (T : Top p loose mean mg mb h₀) (hf : env.frame = some L) (hke : env.scope.kind = .function)
    (C : CodeHd base 331 327)
    (N : News h₀ L s.heap (P.cor w vs ev lkv el most 0 tm tn l0 eln)) (O : P.Ok) (hI : IntsAre vs ns) (hlen : ns.length ≤ 6) (hpos : 0 < ns.length)
    (hJ : IntsAre lkv lki) (hn : (lki.length : Int) = 0)
    (hQ : ∀ x n tr h' tk lkv' lki' el' tn' l0' eln', HalR ns most 0 lo hi (some x) n → Fr h₀ L h' m → News h₀ L h' (P.cor w vs ev lkv' el' most n tm tn' l0' eln') → IntsAre lkv' lki' → (lki'.length : Int) = n →
      Holds' s.heap h' P.addrs → Q (.int x tr) { s with heap := h', toks := tk })
    (hE : ∀ e dx g₂ h' tk news, ExcP w P vs ev most tm (fun n => HalR ns most 0 lo hi none n) dx news → Holds' s.heap g₂ P.addrs → Fr h₀ L g₂ m →
      RaisedX base g₂ (env :: outer) e 87 dx .none news h' → g₂.UpToSlots h' → E (.ref e) { s with heap := h', toks := tk }) :
    wpAny (model PR w) A (call (.ref 318) [.ref P.c, .int 0 ta, .int lo tb, .int hi tc]) Q E s := by
  subst hA
  refine wpAny_call ?_
  refine' enterK B F X T N ?kA hf hke ?k6 ?k7 ?k8 ?k9 ?kB ?_ ?c5 ?c2 ?c3 ?c4
  case kA => exact rfl
  case k6 => k_is
  case k7 => k_is
  case k8 => show dep < 1000; omega
  case k9 => exact BindsTo.of_eq rfl
  case c5 => decide
  case kB => exact locs rfl
  case c2 => exact rfl
  case c3 => exact rfl
  case c4 => exact rfl
  intro g' L' h' FG' F' N' B' X' T' l1 hg
  (try dsimp only)
  clear l1
  (try k_fold)
  k_steps
  refine ⟨?_⟩
  (rename Fr g' _ _ _ => lF')
  (rename News g' _ _ _ => lN')
  (with_unfolding_all refine' ksw_while_x (base := base) (C := 87) (σ := HvS) (fun c => P.cor w vs ev c.lkv c.el most c.n tm c.tn c.l0 c.eln) (fun c => [(Str.ofString "low", .int c.lo c.tl), (Str.ofString "high", .int c.hi c.th)]) (fun c => IntsAre c.lkv c.lki ∧ (c.lki.length : Int) = c.n) [Str.ofString "middle", Str.ofString "value"] (fun c => 0 ≤ c.n ∧ c.n + (halM ns c.n c.lo c.hi : Nat) ≤ 40 ∧ ∀ r n', HalR ns most c.n c.lo c.hi r n' → HalR ns most 0 lo hi r n') (fun c => halM ns c.n c.lo c.hi) (fun _ dx news => ExcP w P vs ev most tm (fun n => HalR ns most 0 lo hi none n) dx news) ⟨lo, hi, 0, tb, tc, lkv, lki, el, tn, l0, eln⟩ ?hfr ?hfe lF' ?kn ?kf ?kk ?kp ?_ ?hexc)
  case hfr => exact rfl
  case hfe => exact rfl
  case kn => exact lN'
  case kf => exact ⟨hJ, hn⟩
  case kk => kst_all
  case kp => exact ⟨Int.le_refl _, by dsimp only; unfold halM; (repeat' split) <;> omega, fun _ _ x => x⟩
  case hexc =>
    rintro v s' ⟨e, dx, g₂, m', fl, news, h'', tk', rfl, rfl, F₂, hfl, R, U, hX⟩
    exact x_leaveOn B' F₂ R hfl U rfl fun h₃ R₃ U₃ => hE e dx g' h₃ _ news hX hg FG' R₃ U₃
  clear lF' lN'
  rintro ⟨lo', hi', n, tl, th, lkv', lki', el', tn', l0', eln'⟩ kU kH kTk ⟨hJ', hn'⟩ ⟨hn0, hbd, hrel⟩ kF kN
  dsimp only at hJ' hn' hn0 hbd hrel kF kN
  (try k_fold)
  k_steps
  all_goals try (
    (with_reducible rename Fr g' _ _ _ => hFF)
    exact hQ lo' n _ _ _ _ _ _ _ _ _ (hrel _ _ (.stop (by omega))) (by assumption) (by assumption) hJ' hn' (fun x o e n => hFF.keep x o (hg x o e n)))
  all_goals try (
    (with_reducible rename ExcP _ _ _ _ _ _ _ _ _ => hX)
    obtain ⟨n₁, a, b, c, d, lkv₁, lki₁, el₁, tn₁, l₁, eln₁, rfl, rfl, hJ₁, hn₁⟩ := hX
    exact ⟨_, _, _, _, _, _, _, _, rfl, rfl, by assumption, .inl rfl, by assumption, by assumption, _, a, b, c, d, lkv₁, lki₁, el₁, tn₁, l₁, eln₁, hrel _ _ (.cut (by assumption) (by assumption)), rfl, hJ₁, hn₁⟩)
  all_goals (
    (rename News g' _ _ _ => nE')
    first
    | (have hmid : (lo' + hi' + 1).fdiv 2 ≤ lookV ns (n + 1) := by assumption
       have hme := halM_up (ns := ns) (n := n) (lo := lo') (hi := hi') (by assumption) hmid
       exact ksw_end (⟨if lo' < lookV ns (n + 1) then lookV ns (n + 1) else lo', hi', n + 1, _, _, _, _, _, _, _, _⟩ : HvS) (by assumption) nE' (fun q hq => hq) ⟨by assumption, by assumption⟩ (by kst_all) (by ksw_same)
         ⟨by dsimp only; omega, by dsimp only; omega, fun r n' h => hrel _ _ (.up (by assumption) (by assumption) hmid h)⟩ hme)
    | (have hmid : ¬ (lo' + hi' + 1).fdiv 2 ≤ lookV ns (n + 1) := by omega
       have hme := halM_down (ns := ns) (n := n) (lo := lo') (hi := hi') (by assumption) hmid
       exact ksw_end (⟨lo', if lookV ns (n + 1) < hi' then lookV ns (n + 1) else hi', n + 1, _, _, _, _, _, _, _, _⟩ : HvS) (by assumption) nE' (fun q hq => hq) ⟨by assumption, by assumption⟩ (by kst_all) (by ksw_same)
         ⟨by dsimp only; omega, by dsimp only; omega, fun r n' h => hrel _ _ (.down (by assumption) (by assumption) hmid h)⟩ hme))
section
theorem freshL9 : True := by
  w_top off
  trivial
local macro_rules | `(tactic| walk_at "no such key 0") => `(tactic| fail)
structure MtS where
  lo : Int
  hi : Int
  v : Int
  n : Int
  tl : Tok
  th : Tok
  tv : Tok
  lkv : List Value
  lki : List Int
  el : Nat
  tn : Tok
  l0 : Addr
  eln : Nat
set_option maxRecDepth 100000 in
set_option maxHeartbeats 8000000 in
theorem mtdf_spec {w : World} {A₀ A : Around} {dep un : Nat} {gu : Option (List Code)} {base h₀ : Heap} {env : Env} {outer : List Env} {L : Addr} {m mg mb : Str → Option Value} {p : Program} {loose : List Str} {mean : ExcName → Option Value}
    {E : Value → Shared → Prop} {Q : Value → Shared → Prop} {s : Shared} {P : Pl} {vs lkv : List Value} {ns lki : List Int} {ev el eln : Nat} {most gs : Int} {tm tn ta tb : Tok} {l0 : Addr}
    (hA : A = { handled := none, depth := dep, frames := some (env :: outer), guards := gu, units := un }) (hdep : dep ≤ 310) (hun : un ≤ 190)
    (B : Below A₀ base outer h₀) (F : Fr h₀ L s.heap m) (X : (hd.heap_39 w.params).In h₀) (T : Top p loose mean mg mb h₀) (hf : env.frame = some L) (hke : env.scope.kind = .function)
    (C : CodeHd base 331 327)
    (N : News h₀ L s.heap (P.cor w vs ev lkv el most 0 tm tn l0 eln)) (O : P.Ok) (hI : IntsAre vs ns) (hlen : ns.length ≤ 6) (hpos : 0 < ns.length)
    (hJ : IntsAre lkv lki) (hn : (lki.length : Int) = 0)
    (hQ : ∀ x n tr h' tk lkv' lki' el' tn' l0' eln', MtdR ns most 0 (-32001) 32001 (clampG gs) (some x) n → Fr h₀ L h' m → News h₀ L h' (P.cor w vs ev lkv' el' most n tm tn' l0' eln') → IntsAre lkv' lki' → (lki'.length : Int) = n →
      Holds' s.heap h' P.addrs → Q (.int x tr) { s with heap := h', toks := tk })
    (hE : ∀ e dx g₂ h' tk news, ExcP w P vs ev most tm (fun n => MtdR ns most 0 (-32001) 32001 (clampG gs) none n) dx news → Holds' s.heap g₂ P.addrs → Fr h₀ L g₂ m →
      RaisedX base g₂ (env :: outer) e 87 dx .none news h' → g₂.UpToSlots h' → E (.ref e) { s with heap := h', toks := tk }) :
    wpAny (model PR w) A (call (.ref 311) [.ref P.c, .int 0 ta, .int gs tb]) Q E s := by
  subst hA
  refine wpAny_call ?_
  refine' enterK B F X T N ?kA hf hke ?k6 ?k7 ?k8 ?k9 ?kB ?_ ?c5 ?c2 ?c3 ?c4
  case kA => exact rfl
  case k6 => k_is
  case k7 => k_is
  case k8 => show dep < 1000; omega
  case k9 => exact BindsTo.of_eq rfl
  case c5 => decide
  case kB => exact locs rfl
  case c2 => exact rfl
  case c3 => exact rfl
  case c4 => exact rfl
  intro g' L' h' FG' F' N' B' X' T' l1 hg
  (try dsimp only)
  clear l1
  (try k_fold)
  k_steps
  refine ⟨?_⟩
  (rename Fr g' _ _ _ => lF')
  (rename News g' _ _ _ => lN')
  have eg : clampG gs = if (if gs < 32000 then gs else 32000) > -32000 then if gs < 32000 then gs else 32000 else -32000 := clampG_eq gs
  (with_unfolding_all refine' ksw_while_x (base := base) (C := 87) (σ := MtS) (fun c => P.cor w vs ev c.lkv c.el most c.n tm c.tn c.l0 c.eln) (fun c => [(Str.ofString "low", .int c.lo c.tl), (Str.ofString "high", .int c.hi c.th), (Str.ofString "value", .int c.v c.tv)]) (fun c => IntsAre c.lkv c.lki ∧ (c.lki.length : Int) = c.n) [Str.ofString "beta"] (fun c => 0 ≤ c.n ∧ c.n + (mtdM ns c.n c.lo c.hi c.v : Nat) ≤ 40 ∧ ((ns.length : Int) ≤ c.n → c.v = lookV ns c.n) ∧ ∀ r n', MtdR ns most c.n c.lo c.hi c.v r n' → MtdR ns most 0 (-32001) 32001 (clampG gs) r n') (fun c => mtdM ns c.n c.lo c.hi c.v) (fun _ dx news => ExcP w P vs ev most tm (fun n => MtdR ns most 0 (-32001) 32001 (clampG gs) none n) dx news) ⟨-32001, 32001, (if (if gs < 32000 then gs else 32000) > -32000 then if gs < 32000 then gs else 32000 else -32000), 0, _, _, _, lkv, lki, el, tn, l0, eln⟩ ?hfr ?hfe lF' ?kn ?kf ?kk ?kp ?_ ?hexc)
  case hfr => exact rfl
  case hfe => exact rfl
  case kn => exact lN'
  case kf => exact ⟨hJ, hn⟩
  case kk => kst_all
  case kp => exact ⟨Int.le_refl _, by dsimp only; unfold mtdM; (repeat' split) <;> omega, fun h => by dsimp only at h; omega, fun _ _ x => by rw [eg]; exact x⟩
  case hexc =>
    rintro v s' ⟨e, dx, g₂, m', fl, news, h'', tk', rfl, rfl, F₂, hfl, R, U, hX⟩
    exact x_leaveOn B' F₂ R hfl U rfl fun h₃ R₃ U₃ => hE e dx g' h₃ _ news hX hg FG' R₃ U₃
  clear lF' lN'
  rintro ⟨lo, hi, v, n, tl, th, tv, lkv', lki', el', tn', l0', eln'⟩ kU kH kTk ⟨hJ', hn'⟩ ⟨hn0, hbd, hvl, hrel⟩ kF kN
  dsimp only at hJ' hn' hn0 hbd hvl hrel kF kN
  (try k_fold)
  k_steps
  all_goals try (
    (with_reducible rename Fr g' _ _ _ => hFF)
    exact hQ v n _ _ _ _ _ _ _ _ _ (hrel _ _ (.stop (by omega))) (by assumption) (by assumption) hJ' hn' (fun x o e n => hFF.keep x o (hg x o e n)))
  all_goals try (
    (with_reducible rename ExcP _ _ _ _ _ _ _ _ _ => hX)
    obtain ⟨n₁, a, b, c, d, lkv₁, lki₁, el₁, tn₁, l₁, eln₁, rfl, rfl, hJ₁, hn₁⟩ := hX
    exact ⟨_, _, _, _, _, _, _, _, rfl, rfl, by assumption, .inl rfl, by assumption, by assumption, _, a, b, c, d, lkv₁, lki₁, el₁, tn₁, l₁, eln₁, hrel _ _ (.cut (by assumption) (by assumption)), rfl, hJ₁, hn₁⟩)
  all_goals (
    (rename News g' _ _ _ => nE')
    first
    | (have hmid : lookV ns (n + 1) < (if v < lo + 1 then lo + 1 else v) := by split <;> omega
       have hme := mtdM_low (ns := ns) (n := n) (lo := lo) (hi := hi) hvl (by assumption) hmid
       exact ksw_end (⟨lo, lookV ns (n + 1), lookV ns (n + 1), n + 1, _, _, _, _, _, _, _, _, _⟩ : MtS) (by assumption) nE' (fun q hq => hq) ⟨by assumption, by assumption⟩ (by kst_all) (by ksw_same)
         ⟨by dsimp only; omega, by dsimp only; omega, fun _ => rfl, fun r n' h => hrel _ _ (.low (by assumption) (by assumption) hmid h)⟩ hme)
    | (have hmid : ¬ lookV ns (n + 1) < (if v < lo + 1 then lo + 1 else v) := by split <;> omega
       have hme := mtdM_high (ns := ns) (n := n) (lo := lo) (hi := hi) hvl (by assumption) hmid
       exact ksw_end (⟨lookV ns (n + 1), hi, lookV ns (n + 1), n + 1, _, _, _, _, _, _, _, _, _⟩ : MtS) (by assumption) nE' (fun q hq => hq) ⟨by assumption, by assumption⟩ (by kst_all) (by ksw_same)
         ⟨by dsimp only; omega, by dsimp only; omega, fun _ => rfl, fun r n' h => hrel _ _ (.high (by assumption) (by assumption) hmid h)⟩ hme))
end
section
theorem freshL10 : True := by
  w_top off
  trivial
structure ApS where
  lo : Int
  hi : Int
  v : Int
  d : Int
  n : Int
  tl : Tok
  th : Tok
  tv : Tok
  td : Tok
  lkv : List Value
  lki : List Int
  el : Nat
  tn : Tok
  l0 : Addr
  eln : Nat
local macro_rules | `(tactic| walk_at "leaving ref") => `(tactic| (k_here; (k_dflt (refine' x_leaveOn ?K ?F ?R ?fl ?U ?hf ?_; (case K | R | F | U => k_asm); (case fl => first | exact Or.inl rfl | exact Or.inr rfl); (case hf => exact rfl))); intro h' R' U'; (try dsimp only)))
local macro_rules | `(tactic| walk_at "call ref") => `(tactic| (k_here; (with_reducible show wpAny _ _ (call (Value.ref 290) _) _ _ _); k_dflt (refine' lower_spec ?le_hA ?le_d ?le_B ?le_F ?le_X ?le_T ?le_hf ?le_hk ?le_N ?_; (case le_hA => exact rfl); (case le_d => first | assumption | omega | k_room); (case le_B | le_F | le_X | le_T => k_asm); (case le_hf | le_hk => exact rfl); (case le_N => k_asm)); intro x tr h' tk ee F' N'; subst ee; (try k_sweep)))
local macro_rules | `(tactic| walk_at "call ref") => `(tactic| (k_here; (with_reducible show wpAny _ _ (call (Value.ref 297) _) _ _ _); k_dflt (refine' upper_spec ?ue_hA ?ue_d ?ue_B ?ue_F ?ue_X ?ue_T ?ue_hf ?ue_hk ?ue_N ?_; (case ue_hA => exact rfl); (case ue_d => first | assumption | omega | k_room); (case ue_B | ue_F | ue_X | ue_T => k_asm); (case ue_hf | ue_hk => exact rfl); (case ue_N => k_asm)); intro x tr h' tk ee F' N'; subst ee; (try k_sweep)))
set_option maxRecDepth 100000 in
set_option maxHeartbeats 8000000 in
theorem aspirate_spec {w : World} {A₀ A : Around} {dep un : Nat} {gu : Option (List Code)} {base h₀ : Heap} {env : Env} {outer : List Env} {L : Addr} {m mg mb : Str → Option Value} {p : Program} {loose : List Str} {mean : ExcName → Option Value}
    {E : Value → Shared → Prop} {Q : Value → Shared → Prop} {s : Shared} {P : Pl} {vs lkv : List Value} {ns lki : List Int} {ev el eln : Nat} {most gs ws : Int} {tm tn ta tb tc : Tok} {l0 : Addr}
    (hA : A = { handled := none, depth := dep, frames := some (env :: outer), guards := gu, units := un }) (hdep : dep ≤ 310) (hun : un ≤ 190)
    (B : Below A₀ base outer h₀) (F : Fr h₀ L s.heap m) (X : (hd.heap_39 w.params).In h₀) (T : Top p loose mean mg mb h₀) (hf : env.frame = some L) (hke : env.scope.kind = .function)
    (C : CodeHd base 331 327)
    (N : News h₀ L s.heap (P.cor w vs ev lkv el most 0 tm tn l0 eln)) (O : P.Ok) (hI : IntsAre vs ns) (hlen : ns.length ≤ 6) (hpos : 0 < ns.length) (hr : ∀ x ∈ ns, -32000 ≤ x ∧ x ≤ 32000)
    (hJ : IntsAre lkv lki) (hn : (lki.length : Int) = 0)
    (hQ : ∀ x n tr h' tk lkv' lki' el' tn' l0' eln', AspT ns most (clampG gs) (wid ws) (some x) n → Fr h₀ L h' m → News h₀ L h' (P.cor w vs ev lkv' el' most n tm tn' l0' eln') → IntsAre lkv' lki' → (lki'.length : Int) = n →
      Holds' s.heap h' P.addrs → Q (.int x tr) { s with heap := h', toks := tk })
    (hE : ∀ e dx g₂ h' tk news, ExcP w P vs ev most tm (fun n => AspT ns most (clampG gs) (wid ws) none n) dx news → Holds' s.heap g₂ P.addrs → Fr h₀ L g₂ m →
      RaisedX base g₂ (env :: outer) e 87 dx .none news h' → g₂.UpToSlots h' → E (.ref e) { s with heap := h', toks := tk }) :
    wpAny (model PR w) A (call (.ref 304) [.ref P.c, .int 0 ta, .int gs tb, .int ws tc]) Q E s := by
  subst hA
  refine wpAny_call ?_
  refine' enterK B F X T N ?kA hf hke ?k6 ?k7 ?k8 ?k9 ?kB ?_ ?c5 ?c2 ?c3 ?c4
  case kA => exact rfl
  case k6 => k_is
  case k7 => k_is
  case k8 => show dep < 1000; omega
  case k9 => exact BindsTo.of_eq rfl
  case c5 => decide
  case kB => exact locs rfl
  case c2 => exact rfl
  case c3 => exact rfl
  case c4 => exact rfl
  intro g' L' h' FG' F' N' B' X' T' l1 hg
  (try dsimp only)
  clear l1
  (try k_fold)
  k_steps
  rotate_left
  · (with_reducible rename ExcP _ _ _ _ _ _ _ _ _ => hX)
    obtain ⟨n₁, a, b, c, d, lkv₁, lki₁, el₁, tn₁, l₁, eln₁, rfl, rfl, hJ₁, hn₁⟩ := hX
    exact hE _ _ g' _ _ _ ⟨_, a, b, c, d, lkv₁, lki₁, el₁, tn₁, l₁, eln₁, .cut (by assumption), rfl, hJ₁, hn₁⟩ hg FG' (by assumption) (by assumption)
  refine ⟨?_⟩
  (rename Fr g' _ _ _ => lF')
  (rename News g' _ _ _ => lN')
  have eg : clampG gs = (if (if gs < 32000 then gs else 32000) > -32000 then if gs < 32000 then gs else 32000 else -32000) := clampG_eq gs
  have ew : wid ws = (if ws > 1 then ws else 1) := by unfold wid; (repeat' split) <;> omega
  have hw1 : 1 ≤ (if ws > 1 then ws else 1) := by split <;> omega
  (with_unfolding_all refine' ksw_while_x (base := base) (C := 87) (σ := ApS) (fun c => P.cor w vs ev c.lkv c.el most c.n tm c.tn c.l0 c.eln) (fun c => [(Str.ofString "alpha", .int c.lo c.tl), (Str.ofString "beta", .int c.hi c.th), (Str.ofString "value", .int c.v c.tv), (Str.ofString "delta", .int c.d c.td)]) (fun c => IntsAre c.lkv c.lki ∧ (c.lki.length : Int) = c.n) [] (fun c => 1 ≤ c.n ∧ c.n + (aspM ns c.n c.lo c.hi c.v : Nat) ≤ 40 ∧ c.v = lookV ns c.n ∧ 1 ≤ c.d ∧ ∀ r n', AspR ns most c.n c.lo c.hi c.d c.v r n' → AspT ns most (clampG gs) (wid ws) r n') (fun c => aspM ns c.n c.lo c.hi c.v) (fun _ dx news => ExcP w P vs ev most tm (fun n => AspT ns most (clampG gs) (wid ws) none n) dx news) ⟨loE (if (if gs < 32000 then gs else 32000) > -32000 then if gs < 32000 then gs else 32000 else -32000) (if ws > 1 then ws else 1), hiE (if (if gs < 32000 then gs else 32000) > -32000 then if gs < 32000 then gs else 32000 else -32000) (if ws > 1 then ws else 1), lookV ns (0 + 1), (if ws > 1 then ws else 1), 0 + 1, _, _, _, _, _, _, _, _, _, _⟩ ?hfr ?hfe lF' ?kn ?kf ?kk ?kp ?_ ?hexc)
  case hfr => exact rfl
  case hfe => exact rfl
  case kn => exact lN'
  case kf => exact ⟨by assumption, by assumption⟩
  case kk => kst_all
  case kp => exact ⟨by dsimp only; omega, by dsimp only; unfold aspM; (repeat' split) <;> omega, rfl, hw1, fun _ _ x => .go (by assumption) (by rw [eg, ew]; exact x)⟩
  case hexc =>
    rintro v s' ⟨e, dx, g₂, m', fl, news, h'', tk', rfl, rfl, F₂, hfl, R, U, hX⟩
    exact x_leaveOn B' F₂ R hfl U rfl fun h₃ R₃ U₃ => hE e dx g' h₃ _ news hX hg FG' R₃ U₃
  clear lF' lN'
  rintro ⟨lo, hi, v, d, n, tl, th, tv, td, lkv', lki', el', tn', l0', eln'⟩ kU kH kTk ⟨hJ', hn'⟩ ⟨hn0, hbd, hv, hd1, hrel⟩ kF kN
  dsimp only at hJ' hn' hn0 hbd hv hd1 hrel kF kN
  have hvr : -32000 ≤ v ∧ v ≤ 32000 := by rw [hv]; exact hr _ (lookV_mem hpos hn0)
  (try k_fold)
  k_steps
  all_goals try (
    (with_reducible rename Fr g' _ _ _ => hFF)
    exact hQ v n _ _ _ _ _ _ _ _ _ (hrel _ _ (.stop (by omega) (by omega))) (by assumption) (by assumption) hJ' hn' (fun x o e n => hFF.keep x o (hg x o e n)))
  all_goals try (
    (with_reducible rename ExcP _ _ _ _ _ _ _ _ _ => hX)
    obtain ⟨n₁, a, b, c, d, lkv₁, lki₁, el₁, tn₁, l₁, eln₁, rfl, rfl, hJ₁, hn₁⟩ := hX
    exact ⟨_, _, _, _, _, _, _, _, rfl, rfl, by assumption, .inl rfl, by assumption, by assumption, _, a, b, c, d, lkv₁, lki₁, el₁, tn₁, l₁, eln₁, hrel _ _ (.cut (by omega) (by assumption)), rfl, hJ₁, hn₁⟩)
  all_goals (
    (rename News g' _ _ _ => nE')
    have hd4 : 1 ≤ d + (d.fdiv 4 + 5) := by rw [Int.fdiv_eq_ediv_of_nonneg _ (by omega)]; omega
    first
    | (have hlo : v ≤ lo := by omega
       have hme := aspM_low (ns := ns) (n := n) (a := lo) (b := hi) (d := d) hr hpos hn0 hd1 (by omega)
       rw [← hv] at hme
       exact ksw_end (⟨loE v d, (lo + hi).fdiv 2, lookV ns (n + 1), d + (d.fdiv 4 + 5), n + 1, _, _, _, _, _, _, _, _, _, _⟩ : ApS) (by assumption) nE' (fun q hq => hq) ⟨by assumption, by assumption⟩ (by kst_all) (by ksw_same)
         ⟨by dsimp only; omega, by dsimp only; omega, rfl, hd4, fun r n' h => hrel _ _ (.low hlo (by assumption) h)⟩ hme)
    | (have hlo : lo < v := by omega
       have hhi : hi ≤ v := by omega
       have hme := aspM_high (ns := ns) (n := n) (a := lo) (b := hi) (d := d) hr hpos hn0 hd1 (by omega) (by omega)
       rw [← hv] at hme
       exact ksw_end (⟨lo, hiE v d, lookV ns (n + 1), d + (d.fdiv 4 + 5), n + 1, _, _, _, _, _, _, _, _, _, _⟩ : ApS) (by assumption) nE' (fun q hq => hq) ⟨by assumption, by assumption⟩ (by kst_all) (by ksw_same)
         ⟨by dsimp only; omega, by dsimp only; omega, rfl, hd4, fun r n' h => hrel _ _ (.high hlo hhi (by assumption) h)⟩ hme))
end
end
end
section
open Builtin Builtin.ObjectAttr
section
variable {prog : Program} {w : World} {A : Around} {K : Frag} {C x L : Addr} {s : Shared} {h₀ : Heap} {m : Str → Option Value} {news : List (Addr × Obj)} {R : Result → Shared → Prop} {E : Value → Shared → Prop} {cd : ClassData}
theorem exc_get {ox : Obj} {od : Obj} {name : Str} {v : Value} {expr : Bool} {Q : Value → Shared → Prop} (X : K.In s.heap) (I : InstAt s.heap x ox C (some od)) (hc : clsIn K C = some cd) (ne : cd.mro.isEmpty = false)
    (ho : cd.mro.contains (.type "BaseException") = true) (hga : findIn K (.ref C) "__getattribute__" = some (some (.builtin "BaseException.__getattribute__"))) (hk : findIn K (.ref C) "__getattr__" = some none)
    (hf : findObj K C (some od) name = some (.value v)) (hh : handedIn v = true) (h : Q v { s with toks := s.toks + 1 }) : wpAny (model prog w) A (getAttr (.ref x) name expr) Q E s := by
  have L0 := I.type (M := model prog w)
  have L1 := looks_findIn (M := model prog w) X hga
  have L2 := looks_findIn (M := model prog w) X hk
  have L3 := looks_find (M := model prog w) X I hf
  have sub : Looks (model prog w) s.heap (isInstance (.ref x) (.type "BaseException")) true := I.type.andThen (looks_mroIn X (by unfold mroIn; rw [hc, Option.bind_some, if_neg (by rw [ne]; decide), ho]))
  have f3 := PySem.F.excAttr_ValueError.ga.bind (.ref x)
  have hx0 : (expr && onTheHeap (Value.builtin "BaseException.__getattribute__")) = false := by cases expr <;> rfl
  have hx2 : (Value.builtin "BaseException.__getattribute__" == Value.builtin "object.__getattribute__") = false := by decide +kernel
  have hx1 : (onTheHeap (Value.ref C) && Value.builtin "BaseException.__getattribute__" == Value.builtin "object.__getattribute__") = false := by rw [hx2]; rfl
  have hk' : builtinKind "BaseException.__getattribute__" = some .slot := by decide +kernel
  have hsplit : splitId "BaseException.__getattribute__" = some ("BaseException", "__getattribute__") := by decide +kernel
  obtain ⟨hp, g, d, t, os⟩ := s
  unfold getAttr getAttrBy
  refine wpAny_bind (wpAny_mkText (wpAny_holding (wpAny_bind (L0.at (wpAny_bind (L1.at ?_))))))
  dsimp only
  rw [hx1]
  show wpAny _ _ (getAttrByItsOwn _ _ _ _ _ _) _ _ _
  unfold getAttrByItsOwn hookBefore
  refine wpAny_bind (L2.at (wpAny_bind (wpAny_attempt ?_)))
  unfold callGetattribute
  rw [hx0]
  refine wpAny_holding ?_
  show wpAny _ _ (boundAndCalled _ _ _) _ _ _
  unfold boundAndCalled
  rw [f3]
  refine wpAny_bind (wpAny_pure ?_)
  refine wpAny_call (codeAny_call_builtin PySem.F.excAttr_ValueError.ga.plain PySem.F.entry_bexc_ga (@check_slot (model prog w) _ _ ⟨hp, g, d, t + 1, os⟩ "BaseException.__getattribute__" "BaseException" "__getattribute__" (.ref x) [.str name t] [] _ hk' hsplit sub (PySem.F.args_bexc_ga (.ref x) (.str name t)) ?_))
  unfold Builtin.«object.__getattribute__»
  refine wpAny_bind (wpAny_pure (wpAny_bind (wpAny_pure (wpAny_bind (L0.at (wpAny_bind (L3.at ?_)))))))
  refine wpAny_pure ?_
  show wpAny _ _ (handedOut v) _ _ _
  rw [handedOut_of hh]
  exact wpAny_pure h
end
end
section
section
variable {prog : Program} {w : World} {A₀ : Around} {E : Value → Shared → Prop} {s' : Shared} {base g g₀ G : Heap} {outer : List Env} {L a e C dx : Addr} {m : Str → Option Value} {name : Str} {scope : Scope} {cd fl : Value}
  {n : Str} {b₀ : Stmt} {suite : List Stmt} {pos np : Pos} {rest : List ExceptHandler} {Q : Flow → Shared → Prop} {news : List (Addr × Obj)} {KF : Frag}
  {p : Program} {loose : List Str} {mean : ExcName → Option Value} {mg mb : Str → Option Value} {x : Str}

theorem x_caught (R : RaisedX base G (envOf name scope L a cd :: outer) e C dx .none news s'.heap) (F : Fr g L G m) (K : Below A₀ base outer g) (hsm : G.UpToSlots s'.heap) (XB : KF.In base) (TB : Top p loose mean mg mb base)
    (ex : nsIn KF mainGlobals x = some (some (.ref C))) (q : ktsIn KF C "BaseException" = true)
    (k : ∀ h' g' oe ws tk, KtsTurn (outer.filterMap (·.frame)) g g' → Fr g' L h' (fun y => if y = n then some (.ref e) else m y) → News g' L h' ((e, oe) :: news) → oe.cls = .ref C → oe.dict = some dx → oe.data = .fields ws → Below A₀ base outer g' → KF.In g' → Top p loose mean mg mb g' →
      wpAny (model prog w) ((A₀.deeper (envOf name scope L a cd)).mark (some (.ref e))) (execs (b₀ :: suite) (envOf name scope L a cd))
        (fun f s₄ => wpAny (model prog w) (A₀.deeper (envOf name scope L a cd)) (do bindName (envOf name scope L a cd) n .none; unbindBehindTheSuite (envOf name scope L a cd) n pos) (fun _ s₅ => Q f s₅) E s₄)
        (AsSuiteRaised (model prog w) ((A₀.deeper (envOf name scope L a cd)).mark (some (.ref e))) (envOf name scope L a cd) n pos (notedBy (model prog w) ((A₀.deeper (envOf name scope L a cd)).mark (some (.ref e))) (envOf name scope L a cd) (cameBackBy (model prog w) (A₀.deeper (envOf name scope L a cd)) (envOf name scope L a cd) E)))
        { s' with heap := h', toks := tk })
    (hk : scope.kind = .function := by rfl) (hlo : (envOf name scope L a cd).kindOf n = some .local := by rfl) (hx : (envOf name scope L a cd).kindOf x = some .globalImplicit := by rfl) (hd : (x == ("__debug__" : Str)) = false := by decide) :
    wpAny (model prog w) (A₀.deeper (envOf name scope L a cd)) (noteFrame (.ref e) (envOf name scope L a cd))
      (fun _ s₂ => wpAny (model prog w) (A₀.deeper (envOf name scope L a cd)) (setFlight (.ref e) none) (fun _ s₃ =>
        wpAny (model prog w) (A₀.deeper (envOf name scope L a cd)) (handleBy (.ref e) (envOf name scope L a cd) (.ExceptHandler (some (.Name x np)) (some n) (b₀ :: suite) pos :: rest)) Q E s₃) E s₂) E s' := by
  refine x_passes (Around.frames_deeper K.stack) R (.inl rfl) rfl hsm fun h₄ R₄ U₄ => ?_
  refine x_held (s' := { s' with heap := h₄ }) (fr := none) R₄ U₄ fun h₅ R₅ U₅ => ?_
  have R₅' := R₅
  obtain ⟨B, hB, hBG, hl, f1, f2, f3, f4⟩ := R₅
  obtain ⟨g₅, T₅, F₅, K₅⟩ := kts_ground K F hBG f1 U₅
  have X₅ : KF.In g₅ := XB.keeps K₅.stays
  have P₅ : TopRead p loose mg mb g₅ := topRead_of (TB.keeps K₅.stays)
  obtain ⟨ob, _, _, _, _, hob, ⟨hobc, _⟩, _⟩ := f4
  obtain ⟨nm, q', N, bs, bm, hdct, sn, sub, ab, col, dd, k0, k1, k2, k3, k5, newId, hC, hbase, hbT⟩ := kts_cls X₅ q
  have hC₅ := F₅.keep _ _ hC
  refine wpAny_handleBy_cons (codeAny_handlers_test (name_K F₅ X₅ P₅ ex ?_ hk hx hd)) (by intro q; cases q)
  refine wpAny_excMatches_sub_self hC₅ hob hobc hbase (codeAny_handlers_suite_as ?_)
  refine x_held (s' := { s' with heap := h₅ }) (fr := none) R₅' U₅ fun h₆ R₆ U₆ => ?_
  obtain ⟨B₆, hB₆, hBG₆, hl₆, e1, e2, e3, e4⟩ := R₆
  obtain ⟨g₆, T₆, F₆, K₆⟩ := kts_ground K F hBG₆ e1 U₆
  obtain ⟨oe, ws, _, _, _, hoe, ⟨hoec, hoedx⟩, hoed, _⟩ := e4
  have hL : B₆.get? L = none := (e3.mem (List.mem_filterMap.mpr ⟨_, .head _, rfl⟩)).1
  have ne₆ : g₆.get? e = none := T₆.none_ _ (kts_fresh F hBG₆ e2 fun o ho hm => by
    obtain ⟨_, o', ho', hd⟩ := K.frames.mem hm
    rw [ho] at ho'
    cases ho'
    obtain ⟨sl, hs⟩ := U₆ _ _ (F.keep _ _ ho) hd
    rw [hoe] at hs
    cases hs
    exact hd _ hoed)
  have N₆ := News.more F₆ News.nil hoe (fun es n q => by rw [hoed] at q; cases q) ne₆
  have Nl : News g₆ L h₆ news := fun q hq => ⟨e1 _ _ (hl₆ q hq).1, (fun z => by have := (hl₆ q hq).1; rw [z, hL] at this; cases this), T₆.none_ _ (kts_none F.keep (hl₆ q hq).2.1)⟩
  have X₆ : KF.In g₆ := XB.keeps K₆.stays
  have P₆ : Top p loose mean mg mb g₆ := TB.keeps K₆.stays
  refine stN F₆ (news := (e, oe) :: news) (fun q hq => (List.mem_cons.mp hq).elim (fun z => N₆ q (z ▸ .head _)) (Nl q)) (fun h₇ F₇ N₇ => ?_) hk hlo
  exact k h₇ g₆ oe ws _ T₆ F₇ N₇ hoec hoedx hoed K₆ X₆ P₆
end
end
section
section
variable {prog : Program} {w : World} {A₀ A : Around} {s : Shared} {base h₀ : Heap} {outer : List Env} {L : Addr} {m : Str → Option Value} {env : Env} {news : List (Addr × Obj)} {K : Frag} {p : Program} {loose : List Str} {mean : ExcName → Option Value} {mg mb : Str → Option Value}
  {R : Result → Shared → Prop} {name qual : Str} {params : Arguments} {body : List Stmt} {scope : Scope} {cl : List (Str × Addr)} {dV kV doc pm cdv ct oc : Value} {an od : Option Addr} {osl : Array (Option Value)} {fo : Obj} {f : Addr} {args : Args} {binds : List (Str × Value)}
theorem enterS0 (B : Below A₀ base [] h₀) (F : Fr h₀ L s.heap m) (X₀ : K.In h₀) (T : Top p loose mean mg mb h₀) (N : News h₀ L s.heap news) (hA : A.frames = some [env]) (hf : env.frame = some L) (hke : env.scope.kind = .function)
    (ho : K.lookup f = some ⟨oc, od, .func (fnOf name qual params body scope dV kV doc pm an cdv ct), osl⟩) (hcd : codeIn K cdv qual = true) (hroom : A.depth < recursionLimit)
    (hbind : BindsTo s (fnOf name qual params body scope dV kV doc pm an cdv ct) args binds) (hloc : ∀ y ∈ binds, scope.names.lookup y.1 = some .local)
    (h : ∀ g L' h₁, Fr h₀ L g m → Fr g L' h₁ (fun y => binds.reverse.lookup y) → News g L' h₁ news → Below A base [env] g → K.In g → Top p loose mean mg mb g → AllLt L' news → Holds' s.heap g (news.map (·.1)) →
      wpAny (model prog w) (A.deeper (envOf qual scope L' f cdv)) (execs body (envOf qual scope L' f cdv))
        (fun fl s' => LeaveS0 [L] h₀ L m g R (match fl with | .ret v => v | _ => .none) s')
        (fun e s' => wpAny (model prog w) (A.deeper (envOf qual scope L' f cdv)) (leaving (envOf qual scope L' f cdv) e) (fun _ s'' => R (.error e) s'') (fun e' s'' => R (.error e') s'') s')
        { s with heap := h₁, toks := s.toks + binds.length })
    (hcell : ∀ x ∈ scope.names, x.2 ≠ .cell) (hco : scope.isCoroutine = false) (hgen : scope.isGenerator = false) (hk : scope.kind = .function) : codeAny (model prog w) A (.call (.ref f) args) R s := by
  obtain ⟨FG, BG, st, _⟩ := groundX (R := R) B F N hA hf hke
  have X := X₀.keeps F.keep
  refine codeAny_call_def (fd := fnOf name qual params body scope dV kV doc pm an cdv ct) (body := body) (binds := binds) hroom (X _ _ ho) rfl (T.nolimit.keeps F.keep) (codeRec_of X hcd) rfl hbind hcell hloc (fun h₁ hns hk₁ => ?_) hco hgen hk
  obtain ⟨oL, es, ep, hLg, hLd, hLk, hLf⟩ := FG.ns
  refine wpAny_mono (h _ s.heap.objs.size h₁ FG ⟨hns, fun b o e => hk₁ b o (of_hideAll _ e), Nat.le_of_eq (hideAll_size _ _)⟩
    (fun p hp => ⟨hk₁ _ _ (N p hp).1, Nat.ne_of_lt (Heap.lt_size (N p hp).1), hideAll_none _ (List.mem_map_of_mem hp)⟩) BG (X₀.keeps st) (T.keeps st) (allLt_of fun p hp => Heap.lt_size (N p hp).1) (fun b o e n => hideAll_get _ e n)) (fun fl s' hl => ?_) fun _ _ y => y
  obtain ⟨g', L', m', news', T', F', N', k⟩ := hl
  have nL₀ : h₀.get? L = none := kts_self F
  obtain ⟨sl, hs⟩ := T'.up hLg
  refine k ⟨⟨_, es, ep, F'.keep _ _ hs, hLd, hLk, hLf⟩, fun b o e => F'.keep b o (T'.other b o (st b o e) (fun q => by
    rw [List.mem_singleton.mp q, nL₀] at e
    cases e)), F.above⟩ fun p hp => ⟨(N' p hp).1, fun q => ?_, ?_⟩
  · have := (N' p hp).2.2; rw [q, hs] at this; cases this
  · cases q : h₀.get? p.1 with
    | none => rfl
    | some o =>
      obtain ⟨sl', hs'⟩ := T'.up (st _ _ q)
      have := (N' p hp).2.2
      rw [hs'] at this
      cases this

/-- a lambda's call -/
theorem enterLam {body : Expr} {c' : Addr} {ctv : Value} (B : Below A₀ base outer h₀) (F : Fr h₀ L s.heap m) (X₀ : K.In h₀) (N : News h₀ L s.heap news) (T : Top p loose mean mg mb h₀) (hA : A.frames = some (env :: outer)) (hf : env.frame = some L) (hke : env.scope.kind = .function)
    (ho : (f, kla_obj name qual params body scope cl pm c' ctv) ∈ news) (hcd : s.heap.CodeRec (.ref c') qual) (hroom : A.depth < recursionLimit)
    (hbind : bindArgs (kla_fn name qual params body scope cl pm (.ref c') ctv) args = pure binds) (hloc : ∀ y ∈ binds, scope.names.lookup y.1 = some .local)
    (h : ∀ g L' h₁, Fr h₀ L g m → Fr g L' h₁ (fun y => binds.reverse.lookup y) → News g L' h₁ news → Below A base (env :: outer) g → K.In g → Top p loose mean mg mb g → AllLt L' news → Holds' s.heap g (news.map (·.1)) →
      wpAny (model prog w) (A.deeper (envX qual scope L' f (.ref c') cl)) (eval body (envX qual scope L' f (.ref c') cl))
        (fun v s' => LeaveK h₀ L m g R v s')
        (fun e s' => wpAny (model prog w) (A.deeper (envX qual scope L' f (.ref c') cl)) (leaving (envX qual scope L' f (.ref c') cl) e) (fun _ s'' => R (.error e) s'') (fun e' s'' => R (.error e') s'') s')
        { s with heap := h₁, toks := s.toks + binds.length })
    (hco : scope.isCoroutine = false) (hgen : scope.isGenerator = false) (hk : scope.kind = .function)
    (hcell : ∀ x ∈ scope.names, x.2 ≠ .cell) : codeAny (model prog w) A (.call (.ref f) args) R s := by
  obtain ⟨FG, BG, st, lv⟩ := groundX (R := R) B F N hA hf hke
  refine kla_callFunE hroom (N _ ho).1 rfl hco hgen rfl hcd ?_
  rw [hbind]
  refine wpAny_pure (wpAny_newFunctionEnv hcell hloc (fun h₁ hns hsb => ⟨((T.nolimit).keeps F.keep).fresh _ hsb, ?_⟩) hk)
  show codeAny _ _ (.expr body (envX qual scope s.heap.objs.size f (.ref c') cl)) _ _
  have hk₁ : ∀ b o, s.heap.get? b = some o → h₁.get? b = some o := fun b o e => hsb.extBut b o (Nat.ne_of_lt (Heap.lt_size e)) (Heap.get?_push_of_some _ e)
  exact kla_codeExpr (wpAny_mono (h _ s.heap.objs.size h₁ FG ⟨hns, fun b o e => hk₁ b o (of_hideAll _ e), Nat.le_of_eq (hideAll_size _ _)⟩
    (fun p hp => ⟨hk₁ _ _ (N p hp).1, Nat.ne_of_lt (Heap.lt_size (N p hp).1), hideAll_none _ (List.mem_map_of_mem hp)⟩) BG (X₀.keeps st) (T.keeps st) (allLt_of fun p hp => Heap.lt_size (N p hp).1) (fun b o e n => hideAll_get _ e n)) (fun v s' hl => lv _ _ hl) fun _ _ y => y)
end
section
variable {M : Model} {A : Around} {E : Value → Shared → Prop} {s' : Shared} {base g g₂ : Heap} {outer : List Env} {env : Env} {L e C dx : Addr} {m : Str → Option Value} {Q : Unit → Shared → Prop} {news wl : List (Addr × Obj)}
/-- what lay in the ground joins the ledger of the flight -/
theorem x_leaveOnW {fl : Value} (K : Below A base outer g) (F : Fr g L g₂ m) (R : RaisedX base g₂ (env :: outer) e C dx fl news s'.heap) (hfl : fl = .none ∨ fl = rawInt L) (hsm : g₂.UpToSlots s'.heap)
    (hf : env.frame = some L) (hw : ∀ q ∈ wl, g₂.get? q.1 = some q.2 ∧ q.1 ≠ L ∧ g.get? q.1 = none)
    (hQ : ∀ h', RaisedX base g outer e C dx .none (wl ++ news) h' → g.UpToSlots h' → Q () { s' with heap := h' }) :
    wpAny M (A.deeper env) (leaving env (.ref e)) Q E s' := by
  obtain ⟨B, hB, hBG, hl, f1, f2, f3, f4⟩ := R
  have hl' : ∀ q ∈ wl ++ news, B.get? q.1 = some q.2 ∧ g.get? q.1 = none ∧ base.get? q.1 = none := fun q hq => by
    rcases List.mem_append.mp hq with hq | hq
    · obtain ⟨h1, h2, h3⟩ := hw q hq
      refine ⟨hBG _ _ h1 fun hm => ?_, h3, fresh_of_stays K.stays h3⟩
      rcases frame_mem hf hm with z | z
      · exact h2 z
      · obtain ⟨_, o, ho, _⟩ := K.frames.mem z
        rw [h3] at ho; cases ho
    · exact ⟨(hl q hq).1, kts_none F.keep (hl q hq).2.1, (hl q hq).2.2⟩
  have fin : ∀ h₂, StepX B (env :: outer) e C dx Value.none s'.heap h₂ → Q () { s' with heap := h₂ } := fun h₂ y =>
    hQ h₂ ⟨B, hB, fun b o q nm => hBG b o (F.keep b o q) (fun hm => by
      rcases frame_mem hf hm with z | z
      · rw [z, kts_self F] at q; cases q
      · exact nm z), hl', y.1, f2, y.2.1.2.2, y.2.2.1⟩ ((Heap.UpToSlots.of_keeps F.keep).trans (hsm.trans y.2.2.2))
  unfold leaving
  rcases hfl with rfl | rfl
  · refine wpAny_bind (x_noteNext (Around.frames_deeper K.stack) f3 hf f4 f1 f2 fun h₁ x => ?_)
    exact x_flight (s := { s' with heap := h₁ }) (fr := none) x.1 x.2.1 x.2.2.1 fun h₂ y => fin h₂ ⟨y.1, y.2.1, y.2.2.1, x.2.2.2.trans y.2.2.2⟩
  · refine wpAny_bind (x_noteAgain hf f4 ?_)
    exact x_flight (fr := none) f1 f3 f4 fun h₂ y => fin h₂ y
end
end
section
theorem freshLW : True := by
  w_top off
  trivial
noncomputable def ExcW (w : World) (P : Pl) (vs : List Value) (ev : Nat) (most : Int) (tm : Tok) (wl : List (Addr × Obj)) (R : Int → Prop) (dx : Addr) (news : List (Addr × Obj)) : Prop :=
  ∃ n a b c d lkv lki el tn l0 eln, R n ∧ news = wl ++ ((dx, excD w a b c d n) :: P.cor w vs ev lkv el most n tm tn l0 eln) ∧ IntsAre lkv lki ∧ (lki.length : Int) = n
/-- what a call of a search from the root gives: a value, or the looks are used up -/
noncomputable def CallOk (w : World) (P : Pl) (vs : List Value) (ev : Nat) (most : Int) (tm : Tok) (wl : List (Addr × Obj)) (d u : Nat) (fn : Value) (args : List Value) (R : Option Int → Int → Prop) : Prop :=
  ∀ {A₀ A : Around} {dep un : Nat} {gu : Option (List Code)} {base h₀ : Heap} {env : Env} {outer : List Env} {L : Addr} {m mg mb : Str → Option Value} {p : Program} {loose : List Str} {mean : ExcName → Option Value}
    {E : Value → Shared → Prop} {Q : Value → Shared → Prop} {s : Shared} {lkv : List Value} {lki : List Int} {el eln : Nat} {tn : Tok} {l0 : Addr},
    A = { handled := none, depth := dep, frames := some (env :: outer), guards := gu, units := un } → dep ≤ d → un ≤ u → Below A₀ base outer h₀ → Fr h₀ L s.heap m → (hd.heap_39 w.params).In h₀ → Top p loose mean mg mb h₀ → env.frame = some L → env.scope.kind = .function → CodeHd base 331 327 →
    News h₀ L s.heap (wl ++ P.cor w vs ev lkv el most 0 tm tn l0 eln) → IntsAre lkv lki → (lki.length : Int) = 0 →
    (∀ x n tr h' tk lkv' lki' el' tn' l0' eln', R (some x) n → Fr h₀ L h' m → News h₀ L h' (wl ++ P.cor w vs ev lkv' el' most n tm tn' l0' eln') → IntsAre lkv' lki' → (lki'.length : Int) = n →
      Holds' s.heap h' (wl.map (·.1) ++ P.addrs) → Q (.int x tr) { s with heap := h', toks := tk }) →
    (∀ e dx g₂ h' tk news, ExcW w P vs ev most tm wl (fun n => R none n) dx news → Holds' s.heap g₂ (wl.map (·.1) ++ P.addrs) → Fr h₀ L g₂ m →
      RaisedX base g₂ (env :: outer) e 87 dx .none news h' → g₂.UpToSlots h' → E (.ref e) { s with heap := h', toks := tk }) →
    wpAny (model PR w) A (call fn args) Q E s
section
variable {w : World} {P : Pl} {vs : List Value} {ns : List Int} {ev : Nat} {most : Int} {tm ta tb tc : Tok}
theorem aspirate_ok (O : P.Ok) (hI : IntsAre vs ns) (hlen : ns.length ≤ 6) (hpos : 0 < ns.length) (hr : ∀ x ∈ ns, -32000 ≤ x ∧ x ≤ 32000) {gs ws : Int} :
    CallOk w P vs ev most tm [] 310 190 (.ref 304) [.ref P.c, .int 0 ta, .int gs tb, .int ws tc] (AspT ns most (clampG gs) (wid ws)) := by
  intro A₀ A dep un gu base h₀ env outer L m mg mb p loose mean E Q s lkv lki el eln tn l0 hA hd hu B F X T hf hke C N hJ hn hQ hE
  exact aspirate_spec hA hd hu B F X T hf hke C N O hI hlen hpos hr hJ hn hQ
    fun e dx g₂ h' tk news hx => hE e dx g₂ h' tk news hx
theorem mtdf_ok (O : P.Ok) (hI : IntsAre vs ns) (hlen : ns.length ≤ 6) (hpos : 0 < ns.length) {gs : Int} :
    CallOk w P vs ev most tm [] 310 190 (.ref 311) [.ref P.c, .int 0 ta, .int gs tb] (MtdR ns most 0 (-32001) 32001 (clampG gs)) := by
  intro A₀ A dep un gu base h₀ env outer L m mg mb p loose mean E Q s lkv lki el eln tn l0 hA hd hu B F X T hf hke C N hJ hn hQ hE
  exact mtdf_spec hA hd hu B F X T hf hke C N O hI hlen hpos hJ hn hQ
    fun e dx g₂ h' tk news hx => hE e dx g₂ h' tk news hx
theorem halve_ok (O : P.Ok) (hI : IntsAre vs ns) (hlen : ns.length ≤ 6) (hpos : 0 < ns.length) {lo hi : Int} :
    CallOk w P vs ev most tm [] 310 190 (.ref 318) [.ref P.c, .int 0 ta, .int lo tb, .int hi tc] (HalR ns most 0 lo hi) := by
  intro A₀ A dep un gu base h₀ env outer L m mg mb p loose mean E Q s lkv lki el eln tn l0 hA hd hu B F X T hf hke C N hJ hn hQ hE
  exact halve_spec hA hd hu B F X T hf hke C N O hI hlen hpos hJ hn hQ
    fun e dx g₂ h' tk news hx => hE e dx g₂ h' tk news hx
end
set_option maxRecDepth 100000 in
@[reducible] noncomputable def lamP : Arguments := by
  have h : lamArgs (nthE (eltsOf (nthE (eltsOf (valAt (nthSt fb388 10))) 0)) 0) = lamArgs (nthE (eltsOf (nthE (eltsOf (valAt (nthSt fb388 10))) 0)) 0) := rfl
  conv at h =>
    rhs
    whnf
  exact valOf h
set_option maxRecDepth 100000 in
@[reducible] noncomputable def wkABody : Expr := by
  have h : lamBody (nthE (eltsOf (nthE (eltsOf (valAt (nthSt fb388 10))) 0)) 0) = lamBody (nthE (eltsOf (nthE (eltsOf (valAt (nthSt fb388 10))) 0)) 0) := rfl
  conv at h =>
    rhs
    whnf
  exact valOf h
set_option maxRecDepth 100000 in
@[reducible] noncomputable def wkAScope : Scope := by
  have h : lamScope (nthE (eltsOf (nthE (eltsOf (valAt (nthSt fb388 10))) 0)) 0) = lamScope (nthE (eltsOf (nthE (eltsOf (valAt (nthSt fb388 10))) 0)) 0) := rfl
  conv at h =>
    rhs
    whnf
  exact valOf h
set_option maxRecDepth 100000 in
@[reducible] noncomputable def wkMBody : Expr := by
  have h : lamBody (nthE (eltsOf (nthE (eltsOf (valAt (nthSt fb388 10))) 1)) 0) = lamBody (nthE (eltsOf (nthE (eltsOf (valAt (nthSt fb388 10))) 1)) 0) := rfl
  conv at h =>
    rhs
    whnf
  exact valOf h
set_option maxRecDepth 100000 in
@[reducible] noncomputable def wkMScope : Scope := by
  have h : lamScope (nthE (eltsOf (nthE (eltsOf (valAt (nthSt fb388 10))) 1)) 0) = lamScope (nthE (eltsOf (nthE (eltsOf (valAt (nthSt fb388 10))) 1)) 0) := rfl
  conv at h =>
    rhs
    whnf
  exact valOf h
set_option maxRecDepth 100000 in
@[reducible] noncomputable def wkHBody : Expr := by
  have h : lamBody (nthE (eltsOf (nthE (eltsOf (valAt (nthSt fb388 10))) 2)) 0) = lamBody (nthE (eltsOf (nthE (eltsOf (valAt (nthSt fb388 10))) 2)) 0) := rfl
  conv at h =>
    rhs
    whnf
  exact valOf h
set_option maxRecDepth 100000 in
@[reducible] noncomputable def wkHScope : Scope := by
  have h : lamScope (nthE (eltsOf (nthE (eltsOf (valAt (nthSt fb388 10))) 2)) 0) = lamScope (nthE (eltsOf (nthE (eltsOf (valAt (nthSt fb388 10))) 2)) 0) := rfl
  conv at h =>
    rhs
    whnf
  exact valOf h
structure Halt2 (P : Prop) : Prop where
  go : P
theorem skipW {wl cor : List (Addr × Obj)} {h₀ h : Heap} {L : Addr} (N : News h₀ L h (wl ++ cor)) : News h₀ L h cor := fun q hq => N q (List.mem_append_right _ hq)
/-- after an inner call the outer ledger stands again -/
theorem joinW {wl cor cor' : List (Addr × Obj)} {h₀ h h' : Heap} {L : Addr} {P : Pl} (N : News h₀ L h (wl ++ cor)) (N' : News h₀ L h' cor') (H : Holds' h h' P.addrs) (hap : ∀ q ∈ wl, q.1 ∉ P.addrs) : News h₀ L h' (wl ++ cor') := fun q hq => by
  rcases List.mem_append.mp hq with hq | hq
  · have z := N q (List.mem_append_left _ hq)
    exact ⟨H _ _ z.1 (hap q hq), z.2⟩
  · exact N' q hq
local macro_rules | `(tactic| walk_at "call ref") => `(tactic| (k_here; refine Halt2.go ?_))
set_option maxRecDepth 100000 in
set_option maxHeartbeats 8000000 in
theorem workA {w : World} {P : Pl} {vs : List Value} {ns : List Int} {ev : Nat} {most : Int} {tm : Tok} {f c' a1 a2 a3 : Addr} {oc o1 o2 o3 : Obj} {cvs : Array Value} {ct : Tok} {qual : Str} {pm ctv : Value} {g wv : Int} {tg tw : Tok}
    (O : P.Ok) (hI : IntsAre vs ns) (hlen : ns.length ≤ 6) (hpos : 0 < ns.length) (hr : ∀ x ∈ ns, -32000 ≤ x ∧ x ≤ 32000)
    (hc1 : oc.data = .fields cvs) (hc2 : cvs[1]? = some (.str qual ct)) (h1 : o1.data = .cell (some (.ref P.c))) (h2 : o2.data = .cell (some (.int g tg))) (h3 : o3.data = .cell (some (.int wv tw)))
    (hap : ∀ q ∈ [(f, kla_obj (Str.ofString "<lambda>") qual lamP wkABody wkAScope [(Str.ofString "width", a3), (Str.ofString "guess", a2), (Str.ofString "ctx", a1)] pm c' ctv), (c', oc), (a1, o1), (a2, o2), (a3, o3)], q.1 ∉ P.addrs) :
    CallOk w P vs ev most tm [(f, kla_obj (Str.ofString "<lambda>") qual lamP wkABody wkAScope [(Str.ofString "width", a3), (Str.ofString "guess", a2), (Str.ofString "ctx", a1)] pm c' ctv), (c', oc), (a1, o1), (a2, o2), (a3, o3)] 305 180 (.ref f) [] (AspT ns most (clampG g) (wid wv)) := by
  intro A₀ A dep un gu base h₀ env outer L m mg mb p loose mean E Q s lkv lki el eln tn l0 hA hd hu B F X T hf hke C N hJ hn hQ hE
  subst hA
  refine wpAny_call ?_
  refine enterLam B F X N T rfl hf hke (.head _) (codeRec_news N (.tail _ (.head _)) hc1 hc2) (by show dep < 1000; omega) rfl (locs rfl) ?_ rfl rfl rfl (by decide)
  intro g' L' h' FG' F' N' B' X' T' l1 hg
  (try dsimp only)
  have N0 := N'
  simp only [List.cons_append, List.nil_append] at N'
  dsimp only [Pl.cor, Pl.core] at N'
  clear l1
  (try k_fold)
  k_steps
  refine ⟨?_⟩
  clear N'
  refine aspirate_ok O hI hlen hpos hr rfl (by show dep + 1 ≤ 310; omega) (by show un + 3 ≤ 190; omega) B' F' X' T' rfl rfl C (skipW N0) hJ hn ?_ ?_
  · intro x n tr h2 tk lkv' lki' el' tn' l0' eln' hR F2 N2 hJ2 hn2 H2
    refine leaveK_ F2 (joinW N0 N2 H2 hap) fun kF kN => ?_
    exact hQ x n tr _ _ lkv' lki' el' tn' l0' eln' hR kF kN hJ2 hn2 (fun b o e nm => F2.keep b o (hg b o e nm))
  · intro e dx g₂ h2 tk news hX H2 F2 R U
    obtain ⟨n, a, b, c, d, lkv', lki', el', tn', l0', eln', hR, rfl, hJ', hn'⟩ := hX
    refine x_leaveOnW B' F2 R (.inl rfl) U rfl (fun q hq => ⟨H2 _ _ (N0 q (List.mem_append_left _ hq)).1 (hap q hq), (N0 q (List.mem_append_left _ hq)).2.1, (N0 q (List.mem_append_left _ hq)).2.2⟩) fun h3 R3 U3 => ?_
    exact hE e dx g' h3 _ _ ⟨n, a, b, c, d, lkv', lki', el', tn', l0', eln', hR, rfl, hJ', hn'⟩ (fun b o e nm => hg b o e nm) FG' R3 U3
set_option maxRecDepth 100000 in
set_option maxHeartbeats 8000000 in
theorem workM {w : World} {P : Pl} {vs : List Value} {ns : List Int} {ev : Nat} {most : Int} {tm : Tok} {f c' a1 a2 a3 : Addr} {oc o1 o2 o3 : Obj} {cvs : Array Value} {ct : Tok} {qual : Str} {pm ctv : Value} {g wv : Int} {tg tw : Tok}
    (O : P.Ok) (hI : IntsAre vs ns) (hlen : ns.length ≤ 6) (hpos : 0 < ns.length) (hr : ∀ x ∈ ns, -32000 ≤ x ∧ x ≤ 32000)
    (hc1 : oc.data = .fields cvs) (hc2 : cvs[1]? = some (.str qual ct)) (h1 : o1.data = .cell (some (.ref P.c))) (h2 : o2.data = .cell (some (.int g tg))) (h3 : o3.data = .cell (some (.int wv tw)))
    (hap : ∀ q ∈ [(f, kla_obj (Str.ofString "<lambda>") qual lamP wkMBody wkMScope [(Str.ofString "guess", a2), (Str.ofString "ctx", a1)] pm c' ctv), (c', oc), (a1, o1), (a2, o2), (a3, o3)], q.1 ∉ P.addrs) :
    CallOk w P vs ev most tm [(f, kla_obj (Str.ofString "<lambda>") qual lamP wkMBody wkMScope [(Str.ofString "guess", a2), (Str.ofString "ctx", a1)] pm c' ctv), (c', oc), (a1, o1), (a2, o2), (a3, o3)] 305 180 (.ref f) [] (MtdR ns most 0 (-32001) 32001 (clampG g)) := by
  intro A₀ A dep un gu base h₀ env outer L m mg mb p loose mean E Q s lkv lki el eln tn l0 hA hd hu B F X T hf hke C N hJ hn hQ hE
  subst hA
  refine wpAny_call ?_
  refine enterLam B F X N T rfl hf hke (.head _) (codeRec_news N (.tail _ (.head _)) hc1 hc2) (by show dep < 1000; omega) rfl (locs rfl) ?_ rfl rfl rfl (by decide)
  intro g' L' h' FG' F' N' B' X' T' l1 hg
  (try dsimp only)
  have N0 := N'
  simp only [List.cons_append, List.nil_append] at N'
  dsimp only [Pl.cor, Pl.core] at N'
  clear l1
  (try k_fold)
  k_steps
  refine ⟨?_⟩
  clear N'
  refine mtdf_ok O hI hlen hpos rfl (by show dep + 1 ≤ 310; omega) (by show un + 3 ≤ 190; omega) B' F' X' T' rfl rfl C (skipW N0) hJ hn ?_ ?_
  · intro x n tr h2 tk lkv' lki' el' tn' l0' eln' hR F2 N2 hJ2 hn2 H2
    refine leaveK_ F2 (joinW N0 N2 H2 hap) fun kF kN => ?_
    exact hQ x n tr _ _ lkv' lki' el' tn' l0' eln' hR kF kN hJ2 hn2 (fun b o e nm => F2.keep b o (hg b o e nm))
  · intro e dx g₂ h2 tk news hX H2 F2 R U
    obtain ⟨n, a, b, c, d, lkv', lki', el', tn', l0', eln', hR, rfl, hJ', hn'⟩ := hX
    refine x_leaveOnW B' F2 R (.inl rfl) U rfl (fun q hq => ⟨H2 _ _ (N0 q (List.mem_append_left _ hq)).1 (hap q hq), (N0 q (List.mem_append_left _ hq)).2.1, (N0 q (List.mem_append_left _ hq)).2.2⟩) fun h3 R3 U3 => ?_
    exact hE e dx g' h3 _ _ ⟨n, a, b, c, d, lkv', lki', el', tn', l0', eln', hR, rfl, hJ', hn'⟩ (fun b o e nm => hg b o e nm) FG' R3 U3
set_option maxRecDepth 100000 in
set_option maxHeartbeats 8000000 in
theorem workH {w : World} {P : Pl} {vs : List Value} {ns : List Int} {ev : Nat} {most : Int} {tm : Tok} {f c' a1 a2 a3 : Addr} {oc o1 o2 o3 : Obj} {cvs : Array Value} {ct : Tok} {qual : Str} {pm ctv : Value} {g wv : Int} {tg tw : Tok}
    (O : P.Ok) (hI : IntsAre vs ns) (hlen : ns.length ≤ 6) (hpos : 0 < ns.length) (hr : ∀ x ∈ ns, -32000 ≤ x ∧ x ≤ 32000)
    (hc1 : oc.data = .fields cvs) (hc2 : cvs[1]? = some (.str qual ct)) (h1 : o1.data = .cell (some (.ref P.c))) (h2 : o2.data = .cell (some (.int g tg))) (h3 : o3.data = .cell (some (.int wv tw)))
    (hap : ∀ q ∈ [(f, kla_obj (Str.ofString "<lambda>") qual lamP wkHBody wkHScope [(Str.ofString "span", a3), (Str.ofString "low", a2), (Str.ofString "ctx", a1)] pm c' ctv), (c', oc), (a1, o1), (a2, o2), (a3, o3)], q.1 ∉ P.addrs) :
    CallOk w P vs ev most tm [(f, kla_obj (Str.ofString "<lambda>") qual lamP wkHBody wkHScope [(Str.ofString "span", a3), (Str.ofString "low", a2), (Str.ofString "ctx", a1)] pm c' ctv), (c', oc), (a1, o1), (a2, o2), (a3, o3)] 305 180 (.ref f) [] (HalR ns most 0 g (g + wv)) := by
  intro A₀ A dep un gu base h₀ env outer L m mg mb p loose mean E Q s lkv lki el eln tn l0 hA hd hu B F X T hf hke C N hJ hn hQ hE
  subst hA
  refine wpAny_call ?_
  refine enterLam B F X N T rfl hf hke (.head _) (codeRec_news N (.tail _ (.head _)) hc1 hc2) (by show dep < 1000; omega) rfl (locs rfl) ?_ rfl rfl rfl (by decide)
  intro g' L' h' FG' F' N' B' X' T' l1 hg
  (try dsimp only)
  have N0 := N'
  simp only [List.cons_append, List.nil_append] at N'
  dsimp only [Pl.cor, Pl.core] at N'
  clear l1
  (try k_fold)
  k_steps
  refine ⟨?_⟩
  clear N'
  refine halve_ok O hI hlen hpos rfl (by show dep + 1 ≤ 310; omega) (by show un + 3 ≤ 190; omega) B' F' X' T' rfl rfl C (skipW N0) hJ hn ?_ ?_
  · intro x n tr h2 tk lkv' lki' el' tn' l0' eln' hR F2 N2 hJ2 hn2 H2
    refine leaveK_ F2 (joinW N0 N2 H2 hap) fun kF kN => ?_
    exact hQ x n tr _ _ lkv' lki' el' tn' l0' eln' hR kF kN hJ2 hn2 (fun b o e nm => F2.keep b o (hg b o e nm))
  · intro e dx g₂ h2 tk news hX H2 F2 R U
    obtain ⟨n, a, b, c, d, lkv', lki', el', tn', l0', eln', hR, rfl, hJ', hn'⟩ := hX
    refine x_leaveOnW B' F2 R (.inl rfl) U rfl (fun q hq => ⟨H2 _ _ (N0 q (List.mem_append_left _ hq)).1 (hap q hq), (N0 q (List.mem_append_left _ hq)).2.1, (N0 q (List.mem_append_left _ hq)).2.2⟩) fun h3 R3 U3 => ?_
    exact hE e dx g' h3 _ _ ⟨n, a, b, c, d, lkv', lki', el', tn', l0', eln', hR, rfl, hJ', hn'⟩ (fun b o e nm => hg b o e nm) FG' R3 U3
end
section
theorem freshLH : True := by
  w_top off
  trivial
theorem exc_get_n {prog : Program} {w : World} {A : Around} {K : Frag} {C e dx L : Addr} {s : Shared} {h₀ : Heap} {m : Str → Option Value} {news : List (Addr × Obj)} {E : Value → Shared → Prop} {cd : ClassData} {oe : Obj} {ws : Array Value} {es : List DictEntry} {nn : Nat} {name : Str} {v : Value} {attr : Option Value} {expr : Bool} {Q : Value → Shared → Prop}
    (F : Fr h₀ L s.heap m) (X₀ : K.In h₀) (N : News h₀ L s.heap news) (me : (e, oe) ∈ news) (hc : oe.cls = .ref C) (hd : oe.dict = some dx) (hf : oe.data = .fields ws) (md : (dx, dictOf es nn) ∈ news)
    (hcl : clsIn K C = some cd) (ne : cd.mro.isEmpty = false) (ho : cd.mro.contains (.type "BaseException") = true) (hga : findIn K (.ref C) "__getattribute__" = some (some (.builtin "BaseException.__getattribute__"))) (hk : findIn K (.ref C) "__getattr__" = some none)
    (hh : hasDictIn K C = true) (ha : findIn K (.ref C) name = some attr) (hn : noGet K attr = true) (hl : getL name es = some (some v)) (hv : handedIn v = true) (h : Q v { s with toks := s.toks + 1 }) :
    wpAny (model prog w) A (getAttr (.ref e) name expr) Q E s := by
  refine exc_get (od := dictOf es nn) (X₀.keeps F.keep) ⟨(N _ me).1, hc, ?_, ?_⟩ hcl ne ho hga hk (findObj_own hh ha hn (by show lookIn name (dictOf es nn) = _; rw [lookIn_dict, hl])) hv h
  · unfold notCls; rw [hf]
  · rw [hd]; exact (N _ md).1
theorem pick {h₀ h : Heap} {L : Addr} {t x d : Addr × Obj} {a1 a2 a3 a4 a5 : Addr × Obj} {r : List (Addr × Obj)} (N : News h₀ L h (t :: x :: a1 :: a2 :: a3 :: a4 :: a5 :: d :: r)) : News h₀ L h (t :: ([a1, a2, a3, a4, a5] ++ r)) := fun q hq => N q (by
  simp only [List.mem_cons, List.mem_append, List.not_mem_nil, or_false] at hq ⊢
  rcases hq with h | ((h | h | h | h | h) | h) <;> simp [h])
structure Halt3 (P : Prop) : Prop where
  go : P
local macro_rules | `(tactic| walk_at "call ref") => `(tactic| (k_here; refine Halt3.go ?_))
local macro_rules | `(tactic| walk_at "getAttr ref") => `(tactic| (k_here; k_dflt (refine' exc_get_n ?eg_F ?eg_X ?eg_N ?eg_me ?eg_hc ?eg_hd ?eg_hf ?eg_md ?eg_cl ?eg_ne ?eg_ho ?eg_ga ?eg_k ?eg_hh ?eg_ha ?eg_hn ?eg_hl ?eg_hv ?_; (case eg_F | eg_X | eg_N => k_asm); (case eg_hc | eg_hd | eg_hf => assumption); (case eg_me | eg_md => k_mem); (case eg_cl => k_is); (case eg_ne => rfl); (case eg_ho => decide); (case eg_ga | eg_k | eg_hh | eg_ha => k_is); (case eg_hn => first | rfl | k_is); (case eg_hl => k_get); (case eg_hv => rfl))))
set_option maxRecDepth 100000 in
set_option maxHeartbeats 8000000 in
theorem heard_spec {w : World} {P : Pl} {vs lkv : List Value} {lki : List Int} {ev el eln : Nat} {most : Int} {tm tn : Tok} {l0 f c' a1 a2 a3 : Addr} {oc o1 o2 o3 : Obj} {qual : Str} {bd : PySem.Expr} {sc : Scope} {cl : List (Str × Addr)} {pm ctv : Value} {R : Option Int → Int → Prop}
    {A₀ A : Around} {dep un : Nat} {gu : Option (List Code)} {base h₀ : Heap} {env : Env} {L : Addr} {m mg mb : Str → Option Value} {p : Program} {loose : List Str} {mean : ExcName → Option Value}
    {E : Value → Shared → Prop} {Q : Value → Shared → Prop} {s : Shared}
    (hw : CallOk w P vs ev most tm [(f, kla_obj (Str.ofString "<lambda>") qual lamP bd sc cl pm c' ctv), (c', oc), (a1, o1), (a2, o2), (a3, o3)] 305 180 (.ref f) [] R)
    (hA : A = { handled := none, depth := dep, frames := some [env], guards := gu, units := un }) (hdep : dep ≤ 304) (hun : un ≤ 170)
    (B : Below A₀ base [] h₀) (F : Fr h₀ L s.heap m) (X : (hd.heap_39 w.params).In h₀) (T : Top p loose mean mg mb h₀) (hf : env.frame = some L) (hke : env.scope.kind = .function)
    (XB : (hd.heap_39 w.params).In base) (TB : Top p loose mean mg mb base) (C : CodeHd base 331 327)
    (N : News h₀ L s.heap ([(f, kla_obj (Str.ofString "<lambda>") qual lamP bd sc cl pm c' ctv), (c', oc), (a1, o1), (a2, o2), (a3, o3)] ++ P.cor w vs ev lkv el most 0 tm tn l0 eln)) (hJ : IntsAre lkv lki) (hn : (lki.length : Int) = 0)
    (hQ : ∀ r n v t T' h' tk lkv' lki' el' tn' l0' eln', R r n → RetV r v → Fr h₀ L h' m → News h₀ L h' ((T', tupObj [v, .int n t]) :: ([(f, kla_obj (Str.ofString "<lambda>") qual lamP bd sc cl pm c' ctv), (c', oc), (a1, o1), (a2, o2), (a3, o3)] ++ P.cor w vs ev lkv' el' most n tm tn' l0' eln')) → IntsAre lkv' lki' → (lki'.length : Int) = n →
      Holds' s.heap h' (L :: ([f, c', a1, a2, a3] ++ P.addrs)) → Q (.ref T') { s with heap := h', toks := tk }) :
    wpAny (model PR w) A (call (.ref 381) [.ref f, .ref P.c]) Q E s := by
  subst hA
  refine wpAny_call ?_
  refine' enterS0 B F X T N ?kA hf hke ?k6 ?k7 ?k8 ?k9 ?kB ?_ ?c5 ?c2 ?c3 ?c4
  case kA => exact rfl
  case k6 => k_is
  case k7 => k_is
  case k8 => show dep < 1000; omega
  case k9 => exact BindsTo.of_eq rfl
  case c5 => decide
  case kB => exact locs rfl
  case c2 => exact rfl
  case c3 => exact rfl
  case c4 => exact rfl
  intro g' L' h' FG' F' N' B' X' T' l1 hg
  (try dsimp only)
  have N0 := N'
  simp only [List.cons_append, List.nil_append] at N'
  dsimp only [Pl.cor, Pl.core] at N'
  clear l1
  (try k_fold)
  k_steps
  refine ⟨?_⟩
  clear N'
  refine hw rfl (by show dep + 1 ≤ 305; omega) (by show un + 3 ≤ 180; omega) B' F' X' T' rfl rfl C N0 hJ hn ?_ ?_
  · intro x n tr h2 tk lkv' lki' el' tn' l0' eln' hR F2 N2 hJ2 hn2 H2
    clear F' N0 F N
    have N3 := N2
    simp only [List.cons_append, List.nil_append] at N2
    dsimp only [Pl.cor, Pl.core] at N2
    (try k_fold)
    k_steps
    (with_reducible rename Fr g' L' _ _ => hFF)
    (with_reducible rename News h₀ L _ _ => zN)
    exact hQ (some x) n _ _ _ _ _ lkv' lki' el' tn' l0' eln' hR ⟨_, rfl⟩ (by assumption) zN hJ2 hn2 (fun b o e nm => hFF.keep b o (hg b o e (fun hm => nm (List.mem_cons_of_mem _ hm))))
  · intro e dx g₂ h2 tk news hX H2 F2 R U
    obtain ⟨n, a, b, c, d, lkv', lki', el', tn', l0', eln', hR, rfl, hJ', hn'⟩ := hX
    refine x_caught (KF := hd.heap_39 w.params) R F2 B' U XB TB (by k_is) (by first | exact rfl | with_unfolding_all rfl | kernel_rfl) fun h3 g3 oe wx tk3 T3 F3 N3 hcl hdx hdt B3 X3 P3 => ?_
    have ef : List.filterMap (fun x : Env => x.frame) [env] = [L] := by simp [hf]
    rw [ef] at T3
    clear F' N0 F N F2 R
    simp only [List.cons_append, List.nil_append] at N3
    dsimp only [Pl.cor, Pl.core] at N3
    (try k_fold)
    k_steps
    (with_reducible rename Fr g3 L' _ _ => hFF)
    (with_reducible rename Fr h₀ L _ _ => kF)
    (with_reducible rename News h₀ L _ _ => kN)
    exact hQ none n _ _ _ _ _ lkv' lki' el' tn' l0' eln' hR rfl kF (pick kN) hJ' hn' (fun b o e nm => hFF.keep b o (T3.other b o (hg b o e (fun hm => nm (List.mem_cons_of_mem _ hm))) (fun hm => nm (List.mem_singleton.mp hm ▸ .head _))))
end
section
theorem freshLD : True := by
  w_top off
  trivial
local macro_rules | `(tactic| walk_at "no such key 0") => `(tactic| fail)
/-- what a call of the law's own search gives -/
noncomputable def DueOk (w : World) (vs : List Value) (most : Int) (t2 : Tok) (vl : Addr) (wl : List (Addr × Obj)) (d u : Nat) (fn : Value) (args : Addr → List Value) (R : Option Int → Int → Prop) : Prop :=
  ∀ {A₀ A : Around} {dep un : Nat} {gu : Option (List Code)} {base h₀ : Heap} {env : Env} {outer : List Env} {L : Addr} {m mg mb : Str → Option Value} {p : Program} {loose : List Str} {mean : ExcName → Option Value}
    {E : Value → Shared → Prop} {Q : Value → Shared → Prop} {s : Shared} {o : Addr} {oo : Obj} {ep : Nat} {t : Tok},
    A = { handled := none, depth := dep, frames := some (env :: outer), guards := gu, units := un } → dep ≤ d → un ≤ u → Below A₀ base outer h₀ → Fr h₀ L s.heap m → (hd.heap_39 w.params).In h₀ → Top p loose mean mg mb h₀ → env.frame = some L → env.scope.kind = .function →
    News h₀ L s.heap (wl ++ [(o, oo), (vl, listOf vs.toArray ep)]) → @LT.lt Nat _ vl o → (∀ q ∈ wl, q.1 ≠ o) → (∀ q ∈ wl, q.1 ≠ vl) →
    Obj.IsDictOf (PySem.strKind PR w) oo [(Str.ofString "values", .ref vl), (Str.ofString "looks", .int 0 t), (Str.ofString "most", .int most t2)] →
    (∀ r n' v h' tk oo' t', R r n' → RetV r v → 0 ≤ n' → Fr h₀ L h' m → News h₀ L h' (wl ++ [(o, oo'), (vl, listOf vs.toArray ep)]) → Obj.IsDictOf (PySem.strKind PR w) oo' [(Str.ofString "values", .ref vl), (Str.ofString "looks", .int n' t'), (Str.ofString "most", .int most t2)] →
      Holds' s.heap h' (wl.map (·.1) ++ [o, vl]) → Q v { s with heap := h', toks := tk }) →
    wpAny (model PR w) A (call fn (args o)) Q E s
section
variable {w : World} {vs : List Value} {ns : List Int} {most : Int} {t2 t3 t4 : Tok} {vl : Addr}
theorem dueA_ok (hI : IntsAre vs ns) (hlen : ns.length ≤ 6) (hpos : 0 < ns.length) (hr : ∀ x ∈ ns, -32000 ≤ x ∧ x ≤ 32000) {gs ws : Int} :
    DueOk w vs most t2 vl [] 310 190 (.ref 360) (fun o => [.ref o, .int gs t3, .int ws t4]) (AspT ns most (clampG gs) (wid ws)) := by
  intro A₀ A dep un gu base h₀ env outer L m mg mb p loose mean E Q s o oo ep t hA hd hu B F X T hf hke N hne _ _ hb hQ
  exact asp_spec hA hd hu B F X T hf hke N hne hI hlen hpos hr hb hQ
theorem dueM_ok (hI : IntsAre vs ns) (hlen : ns.length ≤ 6) (hpos : 0 < ns.length) {gs : Int} :
    DueOk w vs most t2 vl [] 310 190 (.ref 367) (fun o => [.ref o, .int gs t3]) (MtdR ns most 0 (-32001) 32001 (clampG gs)) := by
  intro A₀ A dep un gu base h₀ env outer L m mg mb p loose mean E Q s o oo ep t hA hd hu B F X T hf hke N hne _ _ hb hQ
  exact closing_spec hA hd hu B F X T hf hke N hne hI hlen hpos hb hQ
theorem dueH_ok (hI : IntsAre vs ns) (hlen : ns.length ≤ 6) (hpos : 0 < ns.length) {lo hi : Int} :
    DueOk w vs most t2 vl [] 310 190 (.ref 374) (fun o => [.ref o, .int lo t3, .int hi t4]) (HalR ns most 0 lo hi) := by
  intro A₀ A dep un gu base h₀ env outer L m mg mb p loose mean E Q s o oo ep t hA hd hu B F X T hf hke N hne _ _ hb hQ
  exact halves_spec hA hd hu B F X T hf hke N hne hI hlen hpos hb hQ
end
noncomputable abbrev dueP (c : Nat) : Arguments := { posonlyargs := [], args := [{ arg := Str.ofString "own", annotation := none, pos := { line := c, col := 7, endLine := c, endCol := 10 } }], vararg := none, kwonlyargs := [], kw_defaults := [], kwarg := none, defaults := [] }
set_option maxRecDepth 100000 in
@[reducible] noncomputable def dueABody : Expr := by
  have h : lamBody (nthE (eltsOf (nthE (eltsOf (valAt (nthSt fb388 10))) 0)) 1) = lamBody (nthE (eltsOf (nthE (eltsOf (valAt (nthSt fb388 10))) 0)) 1) := rfl
  conv at h =>
    rhs
    whnf
  exact valOf h
set_option maxRecDepth 100000 in
@[reducible] noncomputable def dueAScope : Scope := by
  have h : lamScope (nthE (eltsOf (nthE (eltsOf (valAt (nthSt fb388 10))) 0)) 1) = lamScope (nthE (eltsOf (nthE (eltsOf (valAt (nthSt fb388 10))) 0)) 1) := rfl
  conv at h =>
    rhs
    whnf
  exact valOf h
set_option maxRecDepth 100000 in
@[reducible] noncomputable def dueMBody : Expr := by
  have h : lamBody (nthE (eltsOf (nthE (eltsOf (valAt (nthSt fb388 10))) 1)) 1) = lamBody (nthE (eltsOf (nthE (eltsOf (valAt (nthSt fb388 10))) 1)) 1) := rfl
  conv at h =>
    rhs
    whnf
  exact valOf h
set_option maxRecDepth 100000 in
@[reducible] noncomputable def dueMScope : Scope := by
  have h : lamScope (nthE (eltsOf (nthE (eltsOf (valAt (nthSt fb388 10))) 1)) 1) = lamScope (nthE (eltsOf (nthE (eltsOf (valAt (nthSt fb388 10))) 1)) 1) := rfl
  conv at h =>
    rhs
    whnf
  exact valOf h
set_option maxRecDepth 100000 in
@[reducible] noncomputable def dueHBody : Expr := by
  have h : lamBody (nthE (eltsOf (nthE (eltsOf (valAt (nthSt fb388 10))) 2)) 1) = lamBody (nthE (eltsOf (nthE (eltsOf (valAt (nthSt fb388 10))) 2)) 1) := rfl
  conv at h =>
    rhs
    whnf
  exact valOf h
set_option maxRecDepth 100000 in
@[reducible] noncomputable def dueHScope : Scope := by
  have h : lamScope (nthE (eltsOf (nthE (eltsOf (valAt (nthSt fb388 10))) 2)) 1) = lamScope (nthE (eltsOf (nthE (eltsOf (valAt (nthSt fb388 10))) 2)) 1) := rfl
  conv at h =>
    rhs
    whnf
  exact valOf h
structure Halt4 (P : Prop) : Prop where
  go : P
theorem joinD {wl : List (Addr × Obj)} {h₀ h h' : Heap} {L o vl : Addr} {oo oo' ov : Obj} (N : News h₀ L h (wl ++ [(o, oo), (vl, ov)])) (N' : News h₀ L h' [(o, oo'), (vl, ov)]) (H : Holds' h h' [o, vl]) (h1 : ∀ q ∈ wl, q.1 ≠ o) (h2 : ∀ q ∈ wl, q.1 ≠ vl) : News h₀ L h' (wl ++ [(o, oo'), (vl, ov)]) := fun q hq => by
  rcases List.mem_append.mp hq with hq | hq
  · have z := N q (List.mem_append_left _ hq)
    exact ⟨H _ _ z.1 (by simp [h1 q hq, h2 q hq]), z.2⟩
  · exact N' q hq
local macro_rules | `(tactic| walk_at "call ref") => `(tactic| (k_here; refine Halt4.go ?_))
local macro_rules | `(tactic| walk_at "eval Name") => `(tactic| (k_here; k_dflt (refine' nameX_F ?nf_N ?nf_c ?nf_m ?nf_d ?_ ?nf_a ?nf_b; (case nf_a | nf_b => rfl); (case nf_N => k_asm); (case nf_c => rfl); (case nf_m => k_mem); (case nf_d => k_asm))))
set_option maxRecDepth 100000 in
set_option maxHeartbeats 8000000 in
theorem dueA {w : World} {vs : List Value} {ns : List Int} {most : Int} {t2 : Tok} {vl f c' a2 a3 : Addr} {oc o2 o3 : Obj} {cvs : Array Value} {ct : Tok} {qual : Str} {pm ctv : Value} {g wv : Int} {tg tw : Tok}
    (hI : IntsAre vs ns) (hlen : ns.length ≤ 6) (hpos : 0 < ns.length) (hr : ∀ x ∈ ns, -32000 ≤ x ∧ x ≤ 32000)
    (hc1 : oc.data = .fields cvs) (hc2 : cvs[1]? = some (.str qual ct)) (h2 : o2.data = .cell (some (.int g tg))) (h3 : o3.data = .cell (some (.int wv tw))) :
    DueOk w vs most t2 vl [(f, kla_obj (Str.ofString "<lambda>") qual (dueP 427) dueABody dueAScope [(Str.ofString "width", a3), (Str.ofString "guess", a2)] pm c' ctv), (c', oc), (a2, o2), (a3, o3)] 305 180 (.ref f) (fun o => [.ref o]) (AspT ns most (clampG g) (wid wv)) := by
  intro A₀ A dep un gu base h₀ env outer L m mg mb p loose mean E Q s o oo ep t hA hd hu B F X T hf hke N hne hw1 hw2 hb hQ
  subst hA
  refine wpAny_call ?_
  refine' enterLam B F X N T ?k1 hf hke ?k2 ?k3 ?k4 ?k5 ?k6 ?_ ?k7 ?k8 ?k9 ?k0
  case k1 => exact rfl
  case k2 => exact .head _
  case k3 => exact codeRec_news N (.tail _ (.head _)) hc1 hc2
  case k4 => show dep < 1000; omega
  case k5 => exact rfl
  case k6 => exact locs rfl
  case k7 => exact rfl
  case k8 => exact rfl
  case k9 => exact rfl
  case k0 => decide
  intro g' L' h' FG' F' N' B' X' T' l1 hg
  (try dsimp only)
  have N0 := N'
  simp only [List.cons_append, List.nil_append] at N'
  clear l1
  (try k_fold)
  k_steps
  refine ⟨?_⟩
  clear N'
  refine dueA_ok hI hlen hpos hr rfl (by show dep + 1 ≤ 310; omega) (by show un + 3 ≤ 190; omega) B' F' X' T' rfl rfl (show News g' L' h' ([] ++ [(o, oo), (vl, listOf vs.toArray ep)]) from skipW N0) hne (fun _ h => nomatch h) (fun _ h => nomatch h) hb ?_
  intro r n' v h2 tk oo' t' hR hV hn0 F2 N2 hb2 H2
  refine leaveK_ F2 (joinD N0 N2 H2 hw1 hw2) fun kF kN => ?_
  exact hQ r n' v _ _ oo' t' hR hV hn0 kF kN hb2 (fun b x e nm => F2.keep b x (hg b x e nm))
set_option maxRecDepth 100000 in
set_option maxHeartbeats 8000000 in
theorem dueM {w : World} {vs : List Value} {ns : List Int} {most : Int} {t2 : Tok} {vl f c' a2 a3 : Addr} {oc o2 o3 : Obj} {cvs : Array Value} {ct : Tok} {qual : Str} {pm ctv : Value} {g wv : Int} {tg tw : Tok}
    (hI : IntsAre vs ns) (hlen : ns.length ≤ 6) (hpos : 0 < ns.length) (hr : ∀ x ∈ ns, -32000 ≤ x ∧ x ≤ 32000)
    (hc1 : oc.data = .fields cvs) (hc2 : cvs[1]? = some (.str qual ct)) (h2 : o2.data = .cell (some (.int g tg))) (h3 : o3.data = .cell (some (.int wv tw))) :
    DueOk w vs most t2 vl [(f, kla_obj (Str.ofString "<lambda>") qual (dueP 429) dueMBody dueMScope [(Str.ofString "guess", a2)] pm c' ctv), (c', oc), (a2, o2), (a3, o3)] 305 180 (.ref f) (fun o => [.ref o]) (MtdR ns most 0 (-32001) 32001 (clampG g)) := by
  intro A₀ A dep un gu base h₀ env outer L m mg mb p loose mean E Q s o oo ep t hA hd hu B F X T hf hke N hne hw1 hw2 hb hQ
  subst hA
  refine wpAny_call ?_
  refine' enterLam B F X N T ?k1 hf hke ?k2 ?k3 ?k4 ?k5 ?k6 ?_ ?k7 ?k8 ?k9 ?k0
  case k1 => exact rfl
  case k2 => exact .head _
  case k3 => exact codeRec_news N (.tail _ (.head _)) hc1 hc2
  case k4 => show dep < 1000; omega
  case k5 => exact rfl
  case k6 => exact locs rfl
  case k7 => exact rfl
  case k8 => exact rfl
  case k9 => exact rfl
  case k0 => decide
  intro g' L' h' FG' F' N' B' X' T' l1 hg
  (try dsimp only)
  have N0 := N'
  simp only [List.cons_append, List.nil_append] at N'
  clear l1
  (try k_fold)
  k_steps
  refine ⟨?_⟩
  clear N'
  refine dueM_ok hI hlen hpos rfl (by show dep + 1 ≤ 310; omega) (by show un + 3 ≤ 190; omega) B' F' X' T' rfl rfl (show News g' L' h' ([] ++ [(o, oo), (vl, listOf vs.toArray ep)]) from skipW N0) hne (fun _ h => nomatch h) (fun _ h => nomatch h) hb ?_
  intro r n' v h2 tk oo' t' hR hV hn0 F2 N2 hb2 H2
  refine leaveK_ F2 (joinD N0 N2 H2 hw1 hw2) fun kF kN => ?_
  exact hQ r n' v _ _ oo' t' hR hV hn0 kF kN hb2 (fun b x e nm => F2.keep b x (hg b x e nm))
set_option maxRecDepth 100000 in
set_option maxHeartbeats 8000000 in
theorem dueH {w : World} {vs : List Value} {ns : List Int} {most : Int} {t2 : Tok} {vl f c' a2 a3 : Addr} {oc o2 o3 : Obj} {cvs : Array Value} {ct : Tok} {qual : Str} {pm ctv : Value} {g wv : Int} {tg tw : Tok}
    (hI : IntsAre vs ns) (hlen : ns.length ≤ 6) (hpos : 0 < ns.length) (hr : ∀ x ∈ ns, -32000 ≤ x ∧ x ≤ 32000)
    (hc1 : oc.data = .fields cvs) (hc2 : cvs[1]? = some (.str qual ct)) (h2 : o2.data = .cell (some (.int g tg))) (h3 : o3.data = .cell (some (.int wv tw))) :
    DueOk w vs most t2 vl [(f, kla_obj (Str.ofString "<lambda>") qual (dueP 431) dueHBody dueHScope [(Str.ofString "span", a3), (Str.ofString "low", a2)] pm c' ctv), (c', oc), (a2, o2), (a3, o3)] 305 180 (.ref f) (fun o => [.ref o]) (HalR ns most 0 g (g + wv)) := by
  intro A₀ A dep un gu base h₀ env outer L m mg mb p loose mean E Q s o oo ep t hA hd hu B F X T hf hke N hne hw1 hw2 hb hQ
  subst hA
  refine wpAny_call ?_
  refine' enterLam B F X N T ?k1 hf hke ?k2 ?k3 ?k4 ?k5 ?k6 ?_ ?k7 ?k8 ?k9 ?k0
  case k1 => exact rfl
  case k2 => exact .head _
  case k3 => exact codeRec_news N (.tail _ (.head _)) hc1 hc2
  case k4 => show dep < 1000; omega
  case k5 => exact rfl
  case k6 => exact locs rfl
  case k7 => exact rfl
  case k8 => exact rfl
  case k9 => exact rfl
  case k0 => decide
  intro g' L' h' FG' F' N' B' X' T' l1 hg
  (try dsimp only)
  have N0 := N'
  simp only [List.cons_append, List.nil_append] at N'
  clear l1
  (try k_fold)
  k_steps
  refine ⟨?_⟩
  clear N'
  refine dueH_ok hI hlen hpos rfl (by show dep + 1 ≤ 310; omega) (by show un + 3 ≤ 190; omega) B' F' X' T' rfl rfl (show News g' L' h' ([] ++ [(o, oo), (vl, listOf vs.toArray ep)]) from skipW N0) hne (fun _ h => nomatch h) (fun _ h => nomatch h) hb ?_
  intro r n' v h2 tk oo' t' hR hV hn0 F2 N2 hb2 H2
  refine leaveK_ F2 (joinD N0 N2 H2 hw1 hw2) fun kF kN => ?_
  exact hQ r n' v _ _ oo' t' hR hV hn0 kF kN hb2 (fun b x e nm => F2.keep b x (hg b x e nm))
end
section
section
variable {prog : Program} {w : World} {A : Around} {E : Value → Shared → Prop} {s : Shared} {env : Env} {h₀ : Heap} {x : Str} {body : List Stmt} {Q : Flow → Shared → Prop}
noncomputable def RgEnd {σ : Type} (h₀ : Heap) (env : Env) (I : Addr) (oI : Obj) (Led : σ → List (Addr × Obj)) (ps : σ → List (Str × Value)) (Facts : σ → Prop) (x : Str) (stored : List Str) (m₀ : Str → Option Value) (P : Nat → σ → Prop) (i : Nat) (s₁ : Shared) (s₂ : Shared) : Prop :=
  ∃ (c : σ) (h' : Heap) (tk : Nat) (m' : Str → Option Value) (news' : List (Addr × Obj)), s₂ = { s₁ with heap := h', toks := tk } ∧ Fr h₀ env.locals h' m' ∧ News h₀ env.locals h' news' ∧ (I, oI) ∈ news' ∧ (∀ p ∈ Led c, p ∈ news') ∧ (∀ p ∈ Led c, p.1 ≠ I) ∧ Facts c ∧ (∀ p ∈ ps c, m' p.1 = some p.2) ∧
    (∀ z, z ≠ x → (∀ p ∈ ps c, z ≠ p.1) → stored.contains z = false → m' z = m₀ z) ∧ P i c
noncomputable def RgPost {σ : Type} (h₀ : Heap) (env : Env) (I : Addr) (oI : Obj) (Led : σ → List (Addr × Obj)) (ps : σ → List (Str × Value)) (Facts : σ → Prop) (x : Str) (stored : List Str) (m₀ : Str → Option Value) (P : Nat → σ → Prop) (i : Nat) (Q : Flow → Shared → Prop) (s₁ : Shared) (f : Flow) (s₂ : Shared) : Prop :=
  match f with
  | .ret v => Q (.ret v) s₂
  | .brk => Q .next s₂
  | _ => RgEnd h₀ env I oI Led ps Facts x stored m₀ P i s₁ s₂
theorem range1 {σ : Type} {r : Addr} {a₀ b₀ : Int} {t₀ u₀ v₀ : Tok} {n : Nat} {m₀ : Str → Option Value} (Led : σ → List (Addr × Obj)) (ps : σ → List (Str × Value)) (Facts : σ → Prop) (stored : List Str) (P : Nat → σ → Prop) (c₀ : σ)
    (hh : A.handled = none) (hr : IsRange s.heap r a₀ b₀ 1 t₀ u₀ v₀) (hsmall : Builtin.Range.small a₀ b₀ 1 = true) (hn : Builtin.Range.rangeSize a₀ b₀ 1 = (n : Int)) (F : Fr h₀ env.locals s.heap m₀) (N : News h₀ env.locals s.heap (Led c₀)) (hf : Facts c₀) (hk : ∀ p ∈ ps c₀, m₀ p.1 = some p.2) (hp : P 0 c₀)
    (turn : ∀ (c : σ) (i : Nat) (k : Int) t (u : Str → Option Value) h tk I oI, i < n → (∀ p ∈ Led c, p.1 ≠ I) → Facts c → P i c →
      Fr h₀ env.locals h (fun y => if y = x then some (.int k t) else kstB (fun z => if stored.contains z then u z else m₀ z) (ps c) y) → News h₀ env.locals h ((I, oI) :: Led c) →
      wpAny (model prog w) A (execs body env) (RgPost h₀ env I oI Led ps Facts x stored m₀ P (i + 1) Q { s with heap := h, toks := tk }) E { s with heap := h, toks := tk })
    (done : ∀ (c : σ) (u : Str → Option Value) h tk, Facts c → P n c → Fr h₀ env.locals h (fun y => if y = x then u y else kstB (fun z => if stored.contains z then u z else m₀ z) (ps c) y) → News h₀ env.locals h (Led c) → Q .next { s with heap := h, toks := tk }) :
    wpAny (model prog w) A (pyIter (.ref r)) (fun it s₂ => LoopAtV prog w A h₀ env x body Q E it s₂) E s := by
  refine wpAny_pyIter_range hr hsmall ?_
  have W : Walks prog w A s.heap.objs.size [s.heap.objs.size] [s.heap.objs.size] n (fun i v => i < n ∧ ∃ t, v = .int (a₀ + i * 1) t)
      (fun i h => IsRangeIter h s.heap.objs.size (a₀ + (i : Nat) * 1) ((n : Int) - (i : Nat)) 1) := (Walks.range hh _ a₀ 1 n).bound
  let J : Nat → (Str → Option Value) → List (Addr × Obj) → Prop := fun i m nx => ∃ c : σ, nx = Led c ∧ Facts c ∧ (∀ p ∈ ps c, m p.1 = some p.2) ∧ (∀ z, z ≠ x → (∀ p ∈ ps c, z ≠ p.1) → stored.contains z = false → m z = m₀ z) ∧ P i c
  refine ⟨s.heap.objs.size, _, _, n, _, _, m₀, Led c₀, J, rfl, W, ?_, ?_, ?_, (by show IsRangeIter _ _ _ _ _; rw [hn]; simpa using Heap.get?_push_size _ rfl), F.push _, (fun p hp => ⟨Heap.get?_push_of_some _ (N p hp).1, (N p hp).2⟩), ⟨c₀, rfl, hf, hk, fun _ _ _ _ => rfl, hp⟩, ?_, ?_⟩
  · intro hm
    exact absurd F.ns.lt ((List.mem_singleton.mp hm) ▸ Nat.lt_irrefl _)
  · intro b hb
    rw [List.mem_singleton.mp hb]
    exact next_is_new F
  · intro p hp hI
    exact absurd (Heap.lt_size (N p hp).1) ((List.mem_singleton.mp hI) ▸ Nat.lt_irrefl _)
  · rintro i v m₁ nx s₁ own ⟨h, tk, rfl⟩ hin ⟨_, t, rfl⟩ ⟨c, rfl, hf', h1, h2, hp'⟩ hoff hown hget hmem hst F₁ N₁
    have hI : (s.heap.objs.size, _) ∈ own := hmem _ (.head _) (next_is_new F) _ hst
    have hoI : ∀ p ∈ own, p = (s.heap.objs.size, ({ cls := .type "range_iterator", dict := none, data := .fields #[rawInt (a₀ + ((i + 1 : Nat) : Int) * 1), rawInt ((n : Int) - ((i + 1 : Nat) : Int)), rawInt 1], slots := #[] } : Obj)) := fun p hp => by
      have e1 : p.1 = s.heap.objs.size := List.mem_singleton.mp (hown p hp)
      have e2 := hget p hp
      rw [e1] at e2
      have e3 := hst.symm.trans e2
      exact Prod.ext e1 (Option.some.inj e3).symm
    have hne : ∀ p ∈ Led c, p.1 ≠ s.heap.objs.size := fun p hp q => hoff p hp (q ▸ .head _)
    refine wpAny_mono (turn c i _ t m₁ h tk _ _ hin hne hf' hp' (kst_fr h1 h2 F₁) (fun p hp => N₁ p (by
      rcases List.mem_cons.mp hp with rfl | hp
      · exact List.mem_append_left _ hI
      · exact List.mem_append_right _ hp))) (fun f s₂ q => ?_) fun _ _ e => e
    have fin : RgEnd h₀ env s.heap.objs.size ({ cls := .type "range_iterator", dict := none, data := .fields #[rawInt (a₀ + ((i + 1 : Nat) : Int) * 1), rawInt ((n : Int) - ((i + 1 : Nat) : Int)), rawInt 1], slots := #[] } : Obj) Led ps Facts x stored m₀ P (i + 1) { s with heap := h, toks := tk } s₂ → LoopStepU h₀ env.locals [s.heap.objs.size] own (J (i + 1)) { s with heap := h, toks := tk } .next s₂ := by
      rintro ⟨c', h', tk', m', news', rfl, F', N', hi', hn', hne', hf'', h1', h2', hp''⟩
      refine ⟨rfl, h', tk', m', Led c', rfl, F', fun p hp => ?_, fun p hp hq => hne' p hp (List.mem_singleton.mp hq), c', rfl, hf'', h1', h2', hp''⟩
      rcases List.mem_append.mp hp with hp | hp
      · rw [hoI p hp]; exact N' _ hi'
      · exact N' _ (hn' p hp)
    cases f with
    | ret v => exact .ret q
    | brk => exact .brk q
    | next => exact .next (fin q)
    | cont => exact .cont (fin q)
  · rintro h tk m₁ nx F₁ N₁ _ ⟨c, rfl, hf', h1, h2, hp'⟩
    exact done c m₁ h tk hf' hp' (kst_frOut h1 h2 F₁) N₁
end
end
section
noncomputable def forBody : Stmt → List Stmt
  | .For _ _ b _ _ => b
  | _ => []
@[reducible] noncomputable def lawScope : Scope := fs388
set_option maxRecDepth 100000 in
@[reducible] noncomputable def lawS0 : Stmt := by
  have h : nthSt fb388 0 = nthSt fb388 0 := rfl
  conv at h =>
    rhs
    whnf
  exact valOf h
set_option maxRecDepth 100000 in
@[reducible] noncomputable def lawS1 : Stmt := by
  have h : nthSt fb388 1 = nthSt fb388 1 := rfl
  conv at h =>
    rhs
    whnf
  exact valOf h
set_option maxRecDepth 100000 in
@[reducible] noncomputable def lawS2 : Stmt := by
  have h : nthSt fb388 2 = nthSt fb388 2 := rfl
  conv at h =>
    rhs
    whnf
  exact valOf h
set_option maxRecDepth 100000 in
@[reducible] noncomputable def lawS3 : Stmt := by
  have h : nthSt fb388 3 = nthSt fb388 3 := rfl
  conv at h =>
    rhs
    whnf
  exact valOf h
set_option maxRecDepth 100000 in
@[reducible] noncomputable def lawS4 : Stmt := by
  have h : nthSt fb388 4 = nthSt fb388 4 := rfl
  conv at h =>
    rhs
    whnf
  exact valOf h
set_option maxRecDepth 100000 in
@[reducible] noncomputable def lawS5 : Stmt := by
  have h : nthSt fb388 5 = nthSt fb388 5 := rfl
  conv at h =>
    rhs
    whnf
  exact valOf h
set_option maxRecDepth 100000 in
@[reducible] noncomputable def lawS6 : Stmt := by
  have h : nthSt fb388 6 = nthSt fb388 6 := rfl
  conv at h =>
    rhs
    whnf
  exact valOf h
set_option maxRecDepth 100000 in
@[reducible] noncomputable def lawS7 : Stmt := by
  have h : nthSt fb388 7 = nthSt fb388 7 := rfl
  conv at h =>
    rhs
    whnf
  exact valOf h
set_option maxRecDepth 100000 in
@[reducible] noncomputable def lawS8 : Stmt := by
  have h : nthSt fb388 8 = nthSt fb388 8 := rfl
  conv at h =>
    rhs
    whnf
  exact valOf h
set_option maxRecDepth 100000 in
@[reducible] noncomputable def lawS9 : Stmt := by
  have h : nthSt fb388 9 = nthSt fb388 9 := rfl
  conv at h =>
    rhs
    whnf
  exact valOf h
set_option maxRecDepth 100000 in
@[reducible] noncomputable def lawS10 : Stmt := by
  have h : nthSt fb388 10 = nthSt fb388 10 := rfl
  conv at h =>
    rhs
    whnf
  exact valOf h
set_option maxRecDepth 100000 in
@[reducible] noncomputable def lawS11 : Stmt := by
  have h : nthSt fb388 11 = nthSt fb388 11 := rfl
  conv at h =>
    rhs
    whnf
  exact valOf h
set_option maxRecDepth 100000 in
@[reducible] noncomputable def lawS12 : Stmt := by
  have h : nthSt fb388 12 = nthSt fb388 12 := rfl
  conv at h =>
    rhs
    whnf
  exact valOf h
set_option maxRecDepth 100000 in
@[reducible] noncomputable def lawT0 : Stmt := by
  have h : nthSt (forBody (nthSt fb388 11)) 0 = nthSt (forBody (nthSt fb388 11)) 0 := rfl
  conv at h =>
    rhs
    whnf
  exact valOf h
set_option maxRecDepth 100000 in
@[reducible] noncomputable def lawT1 : Stmt := by
  have h : nthSt (forBody (nthSt fb388 11)) 1 = nthSt (forBody (nthSt fb388 11)) 1 := rfl
  conv at h =>
    rhs
    whnf
  exact valOf h
set_option maxRecDepth 100000 in
@[reducible] noncomputable def lawT2 : Stmt := by
  have h : nthSt (forBody (nthSt fb388 11)) 2 = nthSt (forBody (nthSt fb388 11)) 2 := rfl
  conv at h =>
    rhs
    whnf
  exact valOf h
set_option maxRecDepth 100000 in
@[reducible] noncomputable def lawT3 : Stmt := by
  have h : nthSt (forBody (nthSt fb388 11)) 3 = nthSt (forBody (nthSt fb388 11)) 3 := rfl
  conv at h =>
    rhs
    whnf
  exact valOf h
set_option maxRecDepth 100000 in
@[reducible] noncomputable def lawT4 : Stmt := by
  have h : nthSt (forBody (nthSt fb388 11)) 4 = nthSt (forBody (nthSt fb388 11)) 4 := rfl
  conv at h =>
    rhs
    whnf
  exact valOf h
end
section
@[reducible] noncomputable def lawEnv (L fa : Addr) : Env := envOfC (Str.ofString "law") lawScope L fa (Value.ref 387)
theorem toKst {G h : Heap} {L : Addr} {m : Str → Option Value} (ps : List (Str × Value)) (hk : ∀ p ∈ ps, m p.1 = some p.2) (F : Fr G L h m) : Fr G L h (kstB m ps) := by
  have e : kstB m ps = m := by
    funext y
    exact kstB_eq hk fun _ => rfl
  rw [e]; exact F
theorem item_some {w : World} {prog : Program} {A : Around} {h₀ : Heap} {L D : Addr} {s : Shared} {E : Value → Shared → Prop} {news : List (Addr × Obj)} {vs : List Value} {ns : List Int} {n : Nat} {k : Int} {u : Tok} {value slice : PySem.Expr} {Q : Value → Shared → Prop} (N : News h₀ L s.heap news) (hm : (D, listOf vs.toArray n) ∈ news) (hi : IntsAre vs ns) (h0 : 0 ≤ k) (h1 : k < ns.length) (hfit : k < 2 ^ 63) (h : ∀ x t, Q (.int x t) s)
    (hs : subscripted slice false (.ref D) (.int k u) = operate [.ref D, .int k u] (getItem (.ref D) (.int k u))) :
    wpAny (model prog w) A (subscriptTail value slice (.ref D) (.int k u)) Q E s := ksa_sub N hm hi h0 h1 hfit (fun t => h _ t) hs
structure Halt (P : Prop) : Prop where
  go : P
theorem pow_any {prog : Program} {w : World} {A : Around} {E : Value → Shared → Prop} {s : Shared} {a n : Int} {t u : Tok} {Q : Value → Shared → Prop} (hn : 0 ≤ n) (hn2 : n ≤ 1000000) (ha : a.natAbs < 2 ^ 64)
    (h : ∀ x : Int, Q (.int x s.toks) { s with toks := s.toks + 1 }) : wpAny (model prog w) A (binaryOp .Pow (.int a t) (.int n u)) Q E s := pow_int_small hn hn2 ha (h _)
end
section
set_option maxRecDepth 100000
section
variable {prog : Program} {w : World} {A : Around} {E : Value → Shared → Prop} {s : Shared} {h₀ : Heap} {L : Addr} {m : Str → Option Value} {news : List (Addr × Obj)}
/-- a whole list is overwritten by the items of an empty one -/
theorem set_all0 {l sl e : Addr} {items : Array Value} {n n2 : Nat} {Q : Unit → Shared → Prop} (ho : s.heap.get? l = some (listOf items n)) (he : s.heap.get? e = some (listOf #[] n2)) (hne : l ≠ e)
    (hs : s.heap.IsSliceOf sl .none .none .none) (hz : items.size ≤ 1000)
    (hQ : Q () { s with heap := s.heap.update l (Obj.mapSeq fun xs => xs.extract 0 (0 : Int).toNat ++ #[] ++ xs.extract (max (0 : Int) (items.size : Int)).toNat xs.size) }) :
    wpAny (model prog w) A (setItem (.ref l) (.ref sl) (.ref e)) Q E s := by
  have hl : s.heap.IsList l items := PySem.IsL.isList (n := n) ho
  have hle : s.heap.IsList e #[] := PySem.IsL.isList (n := n2) he
  obtain ⟨os, hos, hcs, hds⟩ := id hs
  have hTs : s.TypeIs (.ref sl) "slice" := ⟨os, hos, hcs⟩
  unfold setItem
  try with_reducible refine wpAny_holding ?_
  first | refine wpAny_bind (wpAny_pure ?_) | skip
  refine wpAny_bind (wpAny_sequenceKey hl.typeIs (by decide) ?_)
  refine wpAny_bind (wpAny_callSpecial?_slot (name := Str.ofString "__setitem__") hl.typeIs slot_list_setitem
    (wpAny_call_entry slot_list_setitem hl.typeIs entry_list_setitem ?_ (args_list_setitem _ _ _)))
  show wpAny _ _ (Builtin.List.listSubscript? (.ref sl) >>= _) _ _ s
  refine wpAny_bind ?_
  unfold Builtin.List.listSubscript?
  refine wpAny_bind (wpAny_specialOf hTs slice_no_index ?_)
  simp only [Option.isNone_none, if_true]
  refine wpAny_pure ?_
  show wpAny _ _ (typeOf (.ref sl) >>= _) _ _ s
  refine wpAny_bind (wpAny_typeOf hTs ?_)
  rw [if_neg (by decide)]
  rw [listSliceParts_eq]
  refine wpAny_bind (wpAny_bind (wpAny_field hos hds (x := .none) rfl (wpAny_bind (wpAny_listPart .none ?_))))
  rw [if_neg (show ¬ ((rawPart none == rawInt 0) = true) from Bool.false_ne_true)]
  refine wpAny_bind (wpAny_field hos hds (x := .none) rfl (wpAny_bind (wpAny_listPart .none ?_)))
  refine wpAny_bind (wpAny_field hos hds (x := .none) rfl (wpAny_bind (wpAny_listPart .none (wpAny_pure ?_))))
  have hsame : Builtin.List.listSameRef (.ref l) (.ref e) = false := by
    show (l == e) = false
    simp [hne]
  dsimp only
  rw [hsame]
  rw [if_neg Bool.false_ne_true]
  refine wpAny_bind (m := Builtin.List.listAllItems (.ref e) "must assign iterable to extended slice") ?_
  unfold Builtin.List.listAllItems
  refine wpAny_bind (wpAny_typeOf hle.typeIs ?_)
  rw [if_pos (by decide)]
  refine wpAny_bind (wpAny_seqItems he rfl (wpAny_pure ?_))
  refine wpAny_bind (m := Builtin.List.listItems (.ref l)) ?_
  unfold Builtin.List.listItems
  refine wpAny_bind (wpAny_seqItems ho rfl (wpAny_pure ?_))
  refine wpAny_bind (wpAny_of_eq (sliceIndices_raw none none none items.size (by simp)) ?_)
  have hb : sliceBounds none none none items.size = (0, (items.size : Int), 1) := by
    simp [sliceBounds]
  rw [hb]
  refine wpAny_bind (wpAny_rule ?_)
  have hnt : Builtin.List.listTooLong (items.size + (#[] : Array Value).size) = false := by
    simp [Builtin.List.listTooLong, sizeLine]; omega
  rw [hnt]
  rw [if_neg Bool.false_ne_true]
  refine wpAny_bind (m := Builtin.List.listUpdate (.ref l) _) ?_
  show wpAny _ _ (updateSeq l _) _ _ s
  refine wpAny_updateSeq ho rfl ?_ (by simp only [sizeLine]; omega) (by simp [sizeLine])
  refine wpAny_bind (wpAny_letGo ?_)
  exact wpAny_pure ⟨.none, rfl, wpAny_pure hQ⟩
theorem set_all0_N {D e : Addr} {its : Array Value} {n n2 : Nat} {gf : Obj → List (Addr × Obj)} {Q : Unit → Shared → Prop} (F : Fr h₀ L s.heap m) (N : News h₀ L s.heap news) (U : UpdF D (listOf its n) news gf) (he : (e, listOf #[] n2) ∈ news) (hne : @Ne Nat D e) (hz : its.size ≤ 1000)
    (h : ∀ h' n', Fr h₀ L h' m → News h₀ L h' (gf (listOf #[] n')) → Q () { s with heap := h' }) :
    wpAny (model prog w) A (setItem (.ref D) (.ref s.heap.objs.size) (.ref e)) Q E { s with heap := s.heap.push { cls := .type "slice", data := .fields #[.none, .none, .none] } } := by
  obtain ⟨pre, post, rfl, hg, h1, h2⟩ := U.split
  have z := N (D, listOf its n) (List.mem_append.mpr (.inr (.head _)))
  have N1 : News h₀ L (s.heap.push { cls := .type "slice", data := .fields #[.none, .none, .none] }) (pre ++ (D, listOf its n) :: post) := N.grown fun _ _ e => Heap.get?_push_of_some _ e
  refine set_all0 (n := n) (n2 := n2) (s := { s with heap := s.heap.push { cls := .type "slice", data := .fields #[.none, .none, .none] } }) (Heap.get?_push_of_some _ z.1) (Heap.get?_push_of_some _ (N _ he).1) hne (Heap.IsSliceOf.new ..) hz ?_
  refine h _ (if (#[] : Array Value).size == its.size then n else n + 1) ((F.push _).change (Heap.SameBut.update ..) z.2.1 z.2.2) ?_
  rw [hg]
  refine ki_turn _ N1 h1 h2 ?_ rfl
  apply Array.toList_inj.mp
  have q : (max (0 : Int) (its.size : Int)).toNat = its.size := by omega
  simp [q]
end
end
section
theorem same_obj {h₀ h : Heap} {L : Addr} {old : List (Addr × Obj)} (N : News h₀ L h old) {p q : Addr × Obj} (hp : p ∈ old) (hq : q ∈ old) (e : p.1 = q.1) : p = q := by
  have a := (N p hp).1
  have b := (N q hq).1
  rw [e, b] at a
  exact Prod.ext e (Option.some.inj a).symm
theorem in_wl {h₀ h : Heap} {L : Addr} {wl old : List (Addr × Obj)} (N : News h₀ L h old) (hw : ∀ q ∈ wl, q ∈ old) {q : Addr × Obj} (hq : q ∈ old) (hm : q.1 ∈ wl.map (·.1)) : q ∈ wl := by
  obtain ⟨p, hp, e⟩ := List.mem_map.mp hm
  rw [← same_obj N (hw p hp) hq e]
  exact hp
theorem join_due {h₀ h h' : Heap} {L own vl : Addr} {oo oo' ov : Obj} {wl rest : List (Addr × Obj)} (N : News h₀ L h ((own, oo) :: rest)) (N' : News h₀ L h' (wl ++ [(own, oo'), (vl, ov)])) (H : Holds' h h' (wl.map (·.1) ++ [own, vl])) (hw : ∀ q ∈ wl, q ∈ rest) (hv : (vl, ov) ∈ rest) (ho : ∀ q ∈ rest, q.1 ≠ own) :
    News h₀ L h' ((own, oo') :: rest) := fun q hq => by
  rcases List.mem_cons.mp hq with rfl | hq
  · exact N' _ (List.mem_append_right _ (.head _))
  have Nr : News h₀ L h rest := fun q hq => N q (.tail _ hq)
  by_cases hm : q.1 ∈ wl.map (·.1)
  · exact N' q (List.mem_append_left _ (in_wl Nr hw hq hm))
  by_cases hvl : q.1 = vl
  · rw [same_obj Nr hq hv hvl]
    exact N' _ (List.mem_append_right _ (.tail _ (.head _)))
  have z := Nr q hq
  refine ⟨H _ _ z.1 fun hc => ?_, z.2⟩
  rcases List.mem_append.mp hc with hc | hc
  · exact hm hc
  · rcases List.mem_cons.mp hc with hc | hc
    · exact ho q hq hc
    · exact hvl (List.mem_singleton.mp hc)
theorem join_heard {h₀ h h' : Heap} {L own T' : Addr} {ot oo : Obj} {wl X1 X2 cor cor' : List (Addr × Obj)} {as : List Addr} (N : News h₀ L h ((own, oo) :: (X1 ++ (cor ++ X2)))) (N' : News h₀ L h' ((T', ot) :: (wl ++ cor'))) (H : Holds' h h' (L :: (wl.map (·.1) ++ as)))
    (hw : ∀ q ∈ wl, q ∈ X1 ++ X2) (ha : ∀ q ∈ X1 ++ X2, q.1 ∉ as) (ho : own ∉ as) :
    News h₀ L h' ((T', ot) :: (own, oo) :: (X1 ++ (cor' ++ X2))) := fun q hq => by
  have Nx : News h₀ L h ((own, oo) :: (X1 ++ X2)) := fun q hq => N q (by
    simp only [List.mem_cons, List.mem_append] at hq ⊢
    rcases hq with h | h | h <;> simp [h])
  have K : ∀ q ∈ (own, oo) :: (X1 ++ X2), h'.get? q.1 = some q.2 ∧ q.1 ≠ L ∧ h₀.get? q.1 = none := fun q hq => by
    by_cases hm : q.1 ∈ wl.map (·.1)
    · exact N' q (.tail _ (List.mem_append_left _ (in_wl Nx (fun q h => .tail _ (hw q h)) hq hm)))
    have z := Nx q hq
    refine ⟨H _ _ z.1 fun hc => ?_, z.2⟩
    rcases List.mem_cons.mp hc with hc | hc
    · exact z.2.1 hc
    rcases List.mem_append.mp hc with hc | hc
    · exact hm hc
    rcases List.mem_cons.mp hq with rfl | hq
    · exact ho hc
    · exact ha q hq hc
  simp only [List.mem_cons, List.mem_append] at hq
  rcases hq with rfl | rfl | h | h | h
  · exact N' _ (.head _)
  · exact K _ (.head _)
  · exact K _ (.tail _ (List.mem_append_left _ h))
  · exact N' _ (.tail _ (List.mem_append_right _ h))
  · exact K _ (.tail _ (List.mem_append_right _ h))
end
section
theorem allLt_all {d : Nat} {l : List (Addr × Obj)} : AllLt d l → ∀ q ∈ l, @LT.lt Nat _ q.1 d := by
  induction l with
  | nil => intro _ q hq; exact nomatch hq
  | cons p r ih =>
    intro h q hq
    have h1 : @LT.lt Nat _ p.1 d := h.1
    have h2 : AllLt d r := h.2
    rcases List.mem_cons.mp hq with rfl | hq
    · exact h1
    · exact ih h2 q hq
theorem dueN {h₀ h : Heap} {L own vl l' : Addr} {oo ov ol : Obj} {X1 X2 cor wl : List (Addr × Obj)} (N : News h₀ L h ((own, oo) :: (l', ol) :: (X1 ++ (cor ++ X2)))) (hm : ∀ q ∈ wl, q ∈ X1 ++ X2) (hv : (vl, ov) ∈ cor) : News h₀ L h (wl ++ [(own, oo), (vl, ov)]) := fun q hq => by
  rcases List.mem_append.mp hq with hq | hq
  · rcases List.mem_append.mp (hm q hq) with h | h
    · exact N q (.tail _ (.tail _ (List.mem_append_left _ h)))
    · exact N q (.tail _ (.tail _ (List.mem_append_right _ (List.mem_append_right _ h))))
  · rcases List.mem_cons.mp hq with rfl | hq
    · exact N _ (.head _)
    · rw [List.mem_singleton.mp hq]
      exact N _ (.tail _ (.tail _ (List.mem_append_right _ (List.mem_append_left _ hv))))
theorem in_rest {X1 X2 cor wl : List (Addr × Obj)} (hm : ∀ q ∈ wl, q ∈ X1 ++ X2) : ∀ q ∈ wl, q ∈ X1 ++ (cor ++ X2) := fun q hq => by
  rcases List.mem_append.mp (hm q hq) with h | h
  · exact List.mem_append_left _ h
  · exact List.mem_append_right _ (List.mem_append_right _ h)
theorem vl_cor {w : World} {P : Pl} {vs lkv : List Value} {ev el eln : Nat} {most n : Int} {tm tn : Tok} {l0 : Addr} : (P.vl, listOf vs.toArray ev) ∈ P.cor w vs ev lkv el most n tm tn l0 eln := by
  simp [Pl.cor, Pl.core]
section
variable {w : World} {A₀ A : Around} {dep un : Nat} {gu : Option (List Code)} {base G : Heap} {env : Env} {L : Addr} {m mg mb : Str → Option Value} {p : Program} {loose : List Str} {mean : ExcName → Option Value} {E Q : Value → Shared → Prop} {s : Shared}
  {P : Pl} {vs lkv : List Value} {lki : List Int} {ev el eln : Nat} {most : Int} {tm tn t t2 : Tok} {l0 own l' g f c' a1 a2 a3 : Addr} {oo ol oc x1 x2 x3 : Obj} {X1 X2 wl : List (Addr × Obj)} {R : Option Int → Int → Prop} {qual : Str} {bd : PySem.Expr} {sc : Scope} {cl : List (Str × Addr)} {pm ctv : Value}
theorem due_step (hdu : ∀ t2, DueOk w vs most t2 P.vl wl 305 180 (.ref g) (fun o => [.ref o]) R)
    (hA : A = { handled := none, depth := dep, frames := some [env], guards := gu, units := un }) (hdep : dep ≤ 305) (hun : un ≤ 180) (zB : Below A₀ base [] G) (zF : Fr G L s.heap m) (zX : (hd.heap_39 w.params).In G) (zT : Top p loose mean mg mb G) (hf : env.frame = some L) (hke : env.scope.kind = .function)
    (zN : News G L s.heap ((own, oo) :: (l', ol) :: (X1 ++ (P.cor w vs ev lkv el most 0 tm tn l0 eln ++ X2)))) (zL : AllLt own ((l', ol) :: (X1 ++ (P.cor w vs ev lkv el most 0 tm tn l0 eln ++ X2)))) (hm4 : ∀ q ∈ wl, q ∈ X1 ++ X2) (hwvl : ∀ q ∈ wl, q.1 ≠ P.vl)
    (zD : Obj.IsDictOf (PySem.strKind PR w) oo [(Str.ofString "values", .ref P.vl), (Str.ofString "looks", .int 0 t), (Str.ofString "most", .int most t2)])
    (hQ : own ∉ P.addrs → ∀ r n' v h' tk oo' t', R r n' → RetV r v → 0 ≤ n' → Fr G L h' m → News G L h' ((own, oo') :: (X1 ++ (P.cor w vs ev lkv el most 0 tm tn l0 eln ++ X2))) → Obj.IsDictOf (PySem.strKind PR w) oo' [(Str.ofString "values", .ref P.vl), (Str.ofString "looks", .int n' t'), (Str.ofString "most", .int most t2)] → Q v { s with heap := h', toks := tk }) :
    wpAny (model PR w) A (call (.ref g) [.ref own]) Q E s := by
  have lt := allLt_all zL
  have hlt : ∀ q ∈ X1 ++ (P.cor w vs ev lkv el most 0 tm tn l0 eln ++ X2), q.1 ≠ own := fun q hq => Nat.ne_of_lt (lt q (.tail _ hq))
  have zr : News G L s.heap ((own, oo) :: (X1 ++ (P.cor w vs ev lkv el most 0 tm tn l0 eln ++ X2))) := fun q hq => zN q (by
    rcases List.mem_cons.mp hq with rfl | hq
    · exact .head _
    · exact .tail _ (.tail _ hq))
  have hoA : own ∉ P.addrs := fun hm => by
    have e : P.addrs = (P.cor w vs ev lkv el most 0 tm tn l0 eln).map (·.1) := rfl
    rw [e] at hm
    obtain ⟨q, hq, rfl⟩ := List.mem_map.mp hm
    exact hlt q (List.mem_append_right _ (List.mem_append_left _ hq)) rfl
  refine hdu t2 hA hdep hun zB zF zX zT hf hke (dueN zN hm4 (vl_cor)) (lt _ (.tail _ (List.mem_append_right _ (List.mem_append_left _ vl_cor)))) (fun q hq => hlt q (in_rest hm4 q hq)) hwvl zD ?_
  intro r n' v h' tk oo' t' hR hV hn F' N' hD' H'
  exact hQ hoA r n' v h' tk oo' t' hR hV hn F' (join_due zr N' H' (in_rest hm4) (List.mem_append_right _ (List.mem_append_left _ vl_cor)) hlt) hD'
theorem heard_step (hw : ∀ tm, CallOk w P vs ev most tm [(f, kla_obj (Str.ofString "<lambda>") qual lamP bd sc cl pm c' ctv), (c', oc), (a1, x1), (a2, x2), (a3, x3)] 305 180 (.ref f) [] R)
    (hA : A = { handled := none, depth := dep, frames := some [env], guards := gu, units := un }) (hdep : dep ≤ 304) (hun : un ≤ 170) (zB : Below A₀ base [] G) (zF : Fr G L s.heap m) (zX : (hd.heap_39 w.params).In G) (zT : Top p loose mean mg mb G) (hf : env.frame = some L) (hke : env.scope.kind = .function)
    (XB : (hd.heap_39 w.params).In base) (TB : Top p loose mean mg mb base) (C : CodeHd base 331 327)
    (zN : News G L s.heap ((own, oo) :: (X1 ++ (P.cor w vs ev lkv el most 0 tm tn l0 eln ++ X2)))) (hJ : IntsAre lkv lki) (hn : (lki.length : Int) = 0)
    (hm5 : ∀ q ∈ [(f, kla_obj (Str.ofString "<lambda>") qual lamP bd sc cl pm c' ctv), (c', oc), (a1, x1), (a2, x2), (a3, x3)], q ∈ X1 ++ X2) (hap : ∀ q ∈ X1 ++ X2, q.1 ∉ P.addrs) (ho : own ∉ P.addrs)
    (hQ : ∀ r n v t T' h' tk lkv' lki' el' tn' l0' eln', R r n → RetV r v → Fr G L h' m → News G L h' ((T', tupObj [v, .int n t]) :: (own, oo) :: (X1 ++ (P.cor w vs ev lkv' el' most n tm tn' l0' eln' ++ X2))) → IntsAre lkv' lki' → (lki'.length : Int) = n → Q (.ref T') { s with heap := h', toks := tk }) :
    wpAny (model PR w) A (call (.ref 381) [.ref f, .ref P.c]) Q E s := by
  have z5 : News G L s.heap ([(f, kla_obj (Str.ofString "<lambda>") qual lamP bd sc cl pm c' ctv), (c', oc), (a1, x1), (a2, x2), (a3, x3)] ++ P.cor w vs ev lkv el most 0 tm tn l0 eln) := fun q hq => zN q (by
    rcases List.mem_append.mp hq with hq | hq
    · exact .tail _ (in_rest hm5 q hq)
    · exact .tail _ (List.mem_append_right _ (List.mem_append_left _ hq)))
  refine heard_spec (hw tm) hA hdep hun zB zF zX zT hf hke XB TB C z5 hJ hn ?_
  intro r n v t T' h' tk lkv' lki' el' tn' l0' eln' hR hV F' N' hJ' hn' H'
  exact hQ r n v t T' h' tk lkv' lki' el' tn' l0' eln' hR hV F' (join_heard zN N' H' hm5 hap ho) hJ' hn'
end
end
section
theorem freshTA : True := by
  w_top off
  trivial
structure Wk where
  l : Addr
  t1 : Addr
  t2 : Addr
  t3 : Addr
  f1 : Addr
  g1 : Addr
  f2 : Addr
  g2 : Addr
  f3 : Addr
  g3 : Addr
  c1 : Addr
  d1 : Addr
  c2 : Addr
  d2 : Addr
  c3 : Addr
  d3 : Addr
theorem Dist.apart : ∀ {as ys : List Nat}, Dist (as ++ ys) → ∀ x ∈ ys, x ∉ as
  | [], _, _, _, _ => List.not_mem_nil
  | a :: as, ys, D, x, hx => fun h => by
    rcases List.mem_cons.mp h with rfl | h
    · exact D.1 _ (List.mem_append_right _ hx) rfl
    · exact Dist.apart D.2 x hx h
theorem Dist.mid : ∀ {xs as ys : List Nat}, Dist (xs ++ (as ++ ys)) → ∀ x ∈ xs ++ ys, x ∉ as
  | [], as, ys, D, x, hx => Dist.apart (as := as) (ys := ys) D x hx
  | a :: xs, as, ys, D, x, hx => fun h => by
    rcases List.mem_cons.mp hx with rfl | hx
    · exact D.1 _ (List.mem_append_right _ (List.mem_append_left _ h)) rfl
    · exact Dist.mid D.2 x hx h
local macro_rules | `(tactic| walk_at "call builtin:len") => `(tactic| (k_here; k_dflt (refine' len_ints_fit ?ln_l ?ln_I ?ln_f ?_; (case ln_l => exact News.isList (by k_asm) (by k_mem)); (case ln_I => assumption); (case ln_f => omega))))
local macro_rules | `(tactic| walk_at "setItem ref ref ref") => `(tactic| (k_here; k_dflt (refine' set_all0_N ?sa_F ?sa_N ?sa_U ?sa_e ?sa_ne ?sa_z ?_; (case sa_F | sa_N => k_asm); (case sa_U => k_updF); (case sa_e => k_mem); (case sa_ne => omega); (case sa_z => (simp only [List.size_toArray]; omega))); intro h2 n2 F2 N2; (try dsimp only at N2); (try k_sweep)))
local macro_rules | `(tactic| walk_at "call ref") => `(tactic| (k_here; (fail_if_success (with_reducible show wpAny _ _ (call (Value.ref 152) _) _ _ _)); refine Halt.go ?_))
local macro_rules | `(tactic| walk_at "callWith ref") => `(tactic| (k_here; (fail_if_success (with_reducible show wpAny _ _ (callWith _ (Value.ref 152) _ _ _) _ _ _)); (fail_if_success (with_reducible show wpAny _ _ (callWith _ (Value.ref 381) _ _ _) _ _ _)); refine Halt.go ?_))
local macro_rules | `(tactic| walk_at "FnAt") => `(tactic| (refine Halt.go ?_))
set_option maxRecDepth 100000 in
set_option maxHeartbeats 8000000 in
theorem turn {w : World} {G : Heap} {L fa : Addr} {s : Shared} {P : Pl} {W : Wk} {vs lkv : List Value} {lki : List Int} {ev el eln : Nat} {most nd : Int} {tm tn tmo : Tok} {l0 I f g c' a1 a2 a3 : Addr} {p : Program} {loose : List Str} {mean : ExcName → Option Value} {mg mb : Str → Option Value} {y1 y2 y3 y4 y5 y6 y7 y8 y9 y10 y11 y12 y13 y14 y15 y16 oI o1 o2 o3 o4 o5 oa ob oc x1 x2 x3 : Obj}
    {qual : Str} {bd : PySem.Expr} {sc : Scope} {cl : List (Str × Addr)} {pm ctv : Value} {wl : List (Addr × Obj)} {R : Option Int → Int → Prop} {u : Str → Option Value} {Q : Flow → Shared → Prop} {E : Value → Shared → Prop}
    (zB : Below callerA G [] G) (zX : (hd.heap_39 w.params).In G) (zT : Top p loose mean mg mb G) (O : P.Ok)
    (hw : (∀ q ∈ [(f, kla_obj (Str.ofString "<lambda>") qual lamP bd sc cl pm c' ctv), (c', oc), (a1, x1), (a2, x2), (a3, x3)], q.1 ∉ P.addrs) → ∀ tm, CallOk w P vs ev most tm [(f, kla_obj (Str.ofString "<lambda>") qual lamP bd sc cl pm c' ctv), (c', oc), (a1, x1), (a2, x2), (a3, x3)] 305 180 (.ref f) [] R)
    (hdu : ∀ t2, DueOk w vs most t2 P.vl wl 305 180 (.ref g) (fun o => [.ref o]) R)
    (hdet : ∀ {r n r' n'}, R r n → R r' n' → r = r' ∧ n = n') (hbd : ∀ {r n}, R r n → n ≤ 1000)
    (hm5 : ∀ q ∈ [(f, kla_obj (Str.ofString "<lambda>") qual lamP bd sc cl pm c' ctv), (c', oc), (a1, x1), (a2, x2), (a3, x3)], q ∈ [(I, oI), (W.l, y1), (W.t3, y2), (W.g3, y3), (W.d3, y4), (W.f3, y5), (W.c3, y6), (W.t2, y7), (W.g2, y8), (W.d2, y9), (W.f2, y10), (W.c2, y11), (W.t1, y12), (W.g1, y13), (W.d1, y14), (W.f1, y15), (W.c1, y16)] ++ [(L + 1 + 1 + 1 + 1 + 1, o5), (L + 1 + 1 + 1 + 1, o4), (L + 1 + 1 + 1, o3), (L + 1 + 1, o2), (L + 1, o1), (327, oa), (383, ob)])
    (hm4 : ∀ q ∈ wl, q ∈ [(I, oI), (W.l, y1), (W.t3, y2), (W.g3, y3), (W.d3, y4), (W.f3, y5), (W.c3, y6), (W.t2, y7), (W.g2, y8), (W.d2, y9), (W.f2, y10), (W.c2, y11), (W.t1, y12), (W.g1, y13), (W.d1, y14), (W.f1, y15), (W.c1, y16)] ++ [(L + 1 + 1 + 1 + 1 + 1, o5), (L + 1 + 1 + 1 + 1, o4), (L + 1 + 1 + 1, o3), (L + 1 + 1, o2), (L + 1, o1), (327, oa), (383, ob)])
    (hgf : ∃ oc od fd sl, (g, (⟨oc, od, .func fd, sl⟩ : Obj)) ∈ [(I, oI), (W.l, y1), (W.t3, y2), (W.g3, y3), (W.d3, y4), (W.f3, y5), (W.c3, y6), (W.t2, y7), (W.g2, y8), (W.d2, y9), (W.f2, y10), (W.c2, y11), (W.t1, y12), (W.g1, y13), (W.d1, y14), (W.f1, y15), (W.c1, y16)]) 
    (zF : Fr G L s.heap (fun y => if y = Str.ofString "due" then some (.ref g) else if y = Str.ofString "work" then some (.ref f) else kstB u [(Str.ofString "works", .ref W.l), (Str.ofString "looks", .ref P.lk), (Str.ofString "most", .int most tmo), (Str.ofString "values", .ref P.vl)] y))
    (h1 : o1.data = .cell (some (.ref P.c)))
    (zH1 : CodeHd G 331 327) (zH2 : CodeHd G 387 383) (z0 : @LT.lt Nat _ 327 L ∧ @LT.lt Nat _ 383 L) (a0 : @LT.lt Nat _ (L + 1 + 1 + 1 + 1 + 1) P.vl) (b0 : @LT.lt Nat _ P.ln W.c1) (b1 : @LT.lt Nat _ W.c1 W.f1) (b2 : @LT.lt Nat _ W.f1 W.d1) (b3 : @LT.lt Nat _ W.d1 W.g1) (b4 : @LT.lt Nat _ W.g1 W.t1) (b5 : @LT.lt Nat _ W.t1 W.c2) (b6 : @LT.lt Nat _ W.c2 W.f2) (b7 : @LT.lt Nat _ W.f2 W.d2) (b8 : @LT.lt Nat _ W.d2 W.g2) (b9 : @LT.lt Nat _ W.g2 W.t2) (b10 : @LT.lt Nat _ W.t2 W.c3) (b11 : @LT.lt Nat _ W.c3 W.f3) (b12 : @LT.lt Nat _ W.f3 W.d3) (b13 : @LT.lt Nat _ W.d3 W.g3) (b14 : @LT.lt Nat _ W.g3 W.t3) (b15 : @LT.lt Nat _ W.t3 W.l) (b16 : @LT.lt Nat _ W.l I)
    (zN : News G L s.heap ([(I, oI), (W.l, y1), (W.t3, y2), (W.g3, y3), (W.d3, y4), (W.f3, y5), (W.c3, y6), (W.t2, y7), (W.g2, y8), (W.d2, y9), (W.f2, y10), (W.c2, y11), (W.t1, y12), (W.g1, y13), (W.d1, y14), (W.f1, y15), (W.c1, y16)] ++ (P.cor w vs ev lkv el most nd tm tn l0 eln ++ [(L + 1 + 1 + 1 + 1 + 1, o5), (L + 1 + 1 + 1 + 1, o4), (L + 1 + 1 + 1, o3), (L + 1 + 1, o2), (L + 1, o1), (327, oa), (383, ob)])))
    (hJ : IntsAre lkv lki) (hn : lki.length ≤ 1000)
    (hC : ∀ h' tk lkv' lki' el' eln' n tm' tn' l0' (u' : Str → Option Value), Fr G L h' (kstB u' [(Str.ofString "works", .ref W.l), (Str.ofString "looks", .ref P.lk), (Str.ofString "most", .int most tmo), (Str.ofString "values", .ref P.vl)]) →
      News G L h' ([(I, oI), (W.l, y1), (W.t3, y2), (W.g3, y3), (W.d3, y4), (W.f3, y5), (W.c3, y6), (W.t2, y7), (W.g2, y8), (W.d2, y9), (W.f2, y10), (W.c2, y11), (W.t1, y12), (W.g1, y13), (W.d1, y14), (W.f1, y15), (W.c1, y16)] ++ (P.cor w vs ev lkv' el' most n tm' tn' l0' eln' ++ [(L + 1 + 1 + 1 + 1 + 1, o5), (L + 1 + 1 + 1 + 1, o4), (L + 1 + 1 + 1, o3), (L + 1 + 1, o2), (L + 1, o1), (327, oa), (383, ob)])) → IntsAre lkv' lki' → lki'.length ≤ 1000 → Q .next { s with heap := h', toks := tk }) :
    wpAny (model PR w) (callerA.deeper (lawEnv L fa)) (execs [lawT0, lawT1, lawT2, lawT3, lawT4] (lawEnv L fa)) Q E s := by
  have NX := zN
  simp only [List.cons_append, List.nil_append] at zN
  dsimp only [Pl.cor, Pl.core] at zN
  simp only [List.cons_append, List.nil_append] at zN
  obtain ⟨q1, q2, q3, q4, q5, q6, q7, q8, q9, q10, q11, q12, hcv, hcl, _, _⟩ := id O
  have hlz := hJ.length
  clear NX
  have zDB := DB.two (DB.base z0) a0 q1 q2
  replace zDB := ((((((((((zDB.up q3).up q4).up q5).up q6).up q7).up q8).up q9).up q10).up q11).up q12)
  replace zDB := ((((((((((((((((zDB.up b0).up b1).up b2).up b3).up b4).up b5).up b6).up b7).up b8).up b9).up b10).up b11).up b12).up b13).up b14).up b15).up b16
  have hap : ∀ q ∈ [(I, oI), (W.l, y1), (W.t3, y2), (W.g3, y3), (W.d3, y4), (W.f3, y5), (W.c3, y6), (W.t2, y7), (W.g2, y8), (W.d2, y9), (W.f2, y10), (W.c2, y11), (W.t1, y12), (W.g1, y13), (W.d1, y14), (W.f1, y15), (W.c1, y16)] ++ [(L + 1 + 1 + 1 + 1 + 1, o5), (L + 1 + 1 + 1 + 1, o4), (L + 1 + 1 + 1, o3), (L + 1 + 1, o2), (L + 1, o1), (327, oa), (383, ob)], q.1 ∉ P.addrs := fun q hq => Dist.mid (xs := [I, W.l, W.t3, W.g3, W.d3, W.f3, W.c3, W.t2, W.g2, W.d2, W.f2, W.c2, W.t1, W.g1, W.d1, W.f1, W.c1]) (as := P.addrs) (ys := [L + 1 + 1 + 1 + 1 + 1, L + 1 + 1 + 1 + 1, L + 1 + 1 + 1, L + 1 + 1, L + 1, 327, 383]) zDB.dist q.1 (List.mem_map_of_mem (f := fun p : Addr × Obj => p.1) hq)
  have hwvl : ∀ q ∈ wl, q.1 ≠ P.vl := fun q hq e => hap q (hm4 q hq) (by rw [e]; simp [Pl.addrs])
  have hw := hw fun q hq => hap q (hm5 q hq)
  delta lawT0 lawT1 lawT2 lawT3 lawT4
  delta valOf
  (try k_fold)
  k_steps
  refine ⟨?_⟩
  obtain ⟨hg1, hg2, hg3, hg4, hgm⟩ := hgf
  (with_reducible rename News G L _ _ => zN)
  k_dflt (refine' callWith_F ?k1 ?_)
  case k1 => exact FnAt.of zN (.tail _ (.tail _ (List.mem_append_left _ hgm)))
  k_whole
  k_steps
  · exact ⟨FnAt.of zN (.tail _ (.tail _ (List.mem_append_left _ hgm)))⟩
  k_steps
  refine ⟨?_⟩
  (with_reducible rename Fr G L _ _ => zF)
  (with_reducible rename Obj.IsDictOf _ _ _ => zD)
  (with_reducible rename (∀ p ∈ _, Prod.fst p < _) => zL)
  refine' due_step (X1 := [(I, oI), (W.l, y1), (W.t3, y2), (W.g3, y3), (W.d3, y4), (W.f3, y5), (W.c3, y6), (W.t2, y7), (W.g2, y8), (W.d2, y9), (W.f2, y10), (W.c2, y11), (W.t1, y12), (W.g1, y13), (W.d1, y14), (W.f1, y15), (W.c1, y16)]) (X2 := [(L + 1 + 1 + 1 + 1 + 1, o5), (L + 1 + 1 + 1 + 1, o4), (L + 1 + 1 + 1, o3), (L + 1 + 1, o2), (L + 1, o1), (327, oa), (383, ob)]) (lkv := []) hdu ?d1 ?d2 ?d3 zB zF zX zT ?d4 ?d5 zN ?d6 hm4 hwvl zD ?_
  case d1 => exact rfl
  case d2 => decide
  case d3 => decide
  case d4 => exact rfl
  case d5 => exact rfl
  case d6 =>
    exact allLt_of zL
  intro hoA r n' v h3 tk3 oo3 t3 hR hV hn0 F3 N3 hD3
  clear zF zN zD zL
  have N4 := N3
  simp only [List.cons_append, List.nil_append] at N3
  dsimp only [Pl.cor, Pl.core] at N3
  simp only [List.cons_append, List.nil_append] at N3
  clear N4
  (try k_fold)
  k_steps
  refine ⟨?_⟩
  (with_reducible rename Fr G L _ _ => zF)
  (with_reducible rename News G L _ _ => zN)
  refine' heard_step (X1 := [(I, oI), (W.l, y1), (W.t3, y2), (W.g3, y3), (W.d3, y4), (W.f3, y5), (W.c3, y6), (W.t2, y7), (W.g2, y8), (W.d2, y9), (W.f2, y10), (W.c2, y11), (W.t1, y12), (W.g1, y13), (W.d1, y14), (W.f1, y15), (W.c1, y16)]) (X2 := [(L + 1 + 1 + 1 + 1 + 1, o5), (L + 1 + 1 + 1 + 1, o4), (L + 1 + 1 + 1, o3), (L + 1 + 1, o2), (L + 1, o1), (327, oa), (383, ob)]) (lkv := []) (lki := []) hw ?e1 ?e2 ?e3 zB zF zX zT ?e4 ?e5 zX zT zH1 zN .nil rfl hm5 hap hoA ?_
  case e1 => exact rfl
  case e2 => decide
  case e3 => decide
  case e4 => exact rfl
  case e5 => exact rfl
  intro r2 n2 v2 t2 T2 h4 tk4 lkv2 lki2 el2 tn2 l02 eln2 hR2 hV2 F4 N4 hJ2 hn2
  obtain ⟨rfl, rfl⟩ := hdet hR hR2
  have hb := hbd hR2
  have hl2 := hJ2.length
  have hz2 : lki2.length ≤ 1000 := by omega
  have hz3 : (lkv2.length : Int) = n' := by omega
  clear zF zN hlz
  simp only [List.cons_append, List.nil_append] at N4
  dsimp only [Pl.cor, Pl.core] at N4
  simp only [List.cons_append, List.nil_append] at N4
  cases r with
  | none =>
    have e1 : v = .none := hV
    have e2 : v2 = .none := hV2
    subst e1 e2
    (try k_fold)
    k_steps
    · exfalso
      omega
    · (with_reducible rename Fr G L _ _ => zF)
      (with_reducible rename News G L _ _ => zN)
      refine hC _ _ lkv2 lki2 el2 eln2 n' tmo tn2 l02 _ (toKst _ (by kst_all) zF) (fun q hq => zN q (.tail _ (.tail _ (.tail _ hq)))) hJ2 hz2
  | some x =>
    obtain ⟨ta, rfl⟩ := hV
    obtain ⟨tb, rfl⟩ := hV2
    (try k_fold)
    k_steps
    · exfalso
      omega
    · (with_reducible rename Fr G L _ _ => zF)
      (with_reducible rename News G L _ _ => zN)
      refine hC _ _ lkv2 lki2 el2 eln2 n' tmo tn2 l02 _ (toKst _ (by kst_all) zF) (fun q hq => zN q (.tail _ (.tail _ (.tail _ hq)))) hJ2 hz2
end
section
theorem freshSD : True := by
  w_top off
  trivial
@[reducible] noncomputable def lamQ (L fa : Addr) : Str := (lawEnv L fa).qual ++ Str.ofString "<lambda>"
local macro_rules | `(tactic| walk_at "execs cons Expr cons") => `(tactic| (k_here; refine Halt.go ?_))
set_option maxRecDepth 100000 in
set_option maxHeartbeats 8000000 in
theorem segD {w : World} {G : Heap} {L fa : Addr} {s : Shared} {P : Pl} {W : Wk} {vs lkv : List Value} {ns lki : List Int} {ev el eln : Nat} {most : Int} {tm tn tmo : Tok} {l0 : Addr} {p : Program} {loose : List Str} {mean : ExcName → Option Value} {mg mb : Str → Option Value} {pm k1 k2 k3 k4 k5 k6 : Value} {o1 o2 o3 o4 o5 oc1 od1 oc2 od2 oc3 od3 : Obj} {ps qs : Array Value} {g wv lo sp : Int} {tg tw tl ts : Tok} {u : Str → Option Value} {Q : Flow → Shared → Prop} {R₁ : Value → Shared → Prop}
    {voc1 : Array Value} {yoc1 : Tok} (hoc11 : oc1.data = .fields voc1) (hoc12 : voc1[1]? = some (.str (lamQ L fa) yoc1)) {vod1 : Array Value} {yod1 : Tok} (hod11 : od1.data = .fields vod1) (hod12 : vod1[1]? = some (.str (lamQ L fa) yod1)) {voc2 : Array Value} {yoc2 : Tok} (hoc21 : oc2.data = .fields voc2) (hoc22 : voc2[1]? = some (.str (lamQ L fa) yoc2)) {vod2 : Array Value} {yod2 : Tok} (hod21 : od2.data = .fields vod2) (hod22 : vod2[1]? = some (.str (lamQ L fa) yod2)) {voc3 : Array Value} {yoc3 : Tok} (hoc31 : oc3.data = .fields voc3) (hoc32 : voc3[1]? = some (.str (lamQ L fa) yoc3)) {vod3 : Array Value} {yod3 : Tok} (hod31 : od3.data = .fields vod3) (hod32 : vod3[1]? = some (.str (lamQ L fa) yod3))
    (zB : Below callerA G [] G) (zX : (hd.heap_39 w.params).In G) (zT : Top p loose mean mg mb G) (O : P.Ok) (hI : IntsAre vs ns) (hlen : ns.length ≤ 6) (hpos : 0 < ns.length) (hr : ∀ x ∈ ns, -32000 ≤ x ∧ x ≤ 32000)
    (zF : Fr G L s.heap (kstB u [(Str.ofString "works", .ref W.l), (Str.ofString "looks", .ref P.lk), (Str.ofString "most", .int most tmo), (Str.ofString "values", .ref P.vl)]))
    (h1 : o1.data = .cell (some (.ref P.c))) (h2 : o2.data = .cell (some (.int g tg))) (h3 : o3.data = .cell (some (.int lo tl))) (h4 : o4.data = .cell (some (.int sp ts))) (h5 : o5.data = .cell (some (.int wv tw)))
    (zH1 : CodeHd G 331 327) (zH2 : CodeHd G 387 383) (z0 : @LT.lt Nat _ 327 L ∧ @LT.lt Nat _ 383 L) (a0 : @LT.lt Nat _ (L + 1 + 1 + 1 + 1 + 1) P.vl) (b0 : @LT.lt Nat _ P.ln W.c1) (b1 : @LT.lt Nat _ W.c1 W.f1) (b2 : @LT.lt Nat _ W.f1 W.d1) (b3 : @LT.lt Nat _ W.d1 W.g1) (b4 : @LT.lt Nat _ W.g1 W.t1) (b5 : @LT.lt Nat _ W.t1 W.c2) (b6 : @LT.lt Nat _ W.c2 W.f2) (b7 : @LT.lt Nat _ W.f2 W.d2) (b8 : @LT.lt Nat _ W.d2 W.g2) (b9 : @LT.lt Nat _ W.g2 W.t2) (b10 : @LT.lt Nat _ W.t2 W.c3) (b11 : @LT.lt Nat _ W.c3 W.f3) (b12 : @LT.lt Nat _ W.f3 W.d3) (b13 : @LT.lt Nat _ W.d3 W.g3) (b14 : @LT.lt Nat _ W.g3 W.t3) (b15 : @LT.lt Nat _ W.t3 W.l)
    (zN : News G L s.heap ([(W.l, listOf #[.ref W.t1, .ref W.t2, .ref W.t3] 0), (W.t3, tupObj [.ref W.f3, .ref W.g3]), (W.g3, kla_obj (Str.ofString "<lambda>") (lamQ L fa) (dueP 431) dueHBody dueHScope [(Str.ofString "span", L + 1 + 1 + 1 + 1), (Str.ofString "low", L + 1 + 1 + 1)] pm W.d3 k6), (W.d3, od3), (W.f3, kla_obj (Str.ofString "<lambda>") (lamQ L fa) lamP wkHBody wkHScope [(Str.ofString "span", L + 1 + 1 + 1 + 1), (Str.ofString "low", L + 1 + 1 + 1), (Str.ofString "ctx", L + 1)] pm W.c3 k5), (W.c3, oc3), (W.t2, tupObj [.ref W.f2, .ref W.g2]), (W.g2, kla_obj (Str.ofString "<lambda>") (lamQ L fa) (dueP 429) dueMBody dueMScope [(Str.ofString "guess", L + 1 + 1)] pm W.d2 k4), (W.d2, od2), (W.f2, kla_obj (Str.ofString "<lambda>") (lamQ L fa) lamP wkMBody wkMScope [(Str.ofString "guess", L + 1 + 1), (Str.ofString "ctx", L + 1)] pm W.c2 k3), (W.c2, oc2), (W.t1, tupObj [.ref W.f1, .ref W.g1]), (W.g1, kla_obj (Str.ofString "<lambda>") (lamQ L fa) (dueP 427) dueABody dueAScope [(Str.ofString "width", L + 1 + 1 + 1 + 1 + 1), (Str.ofString "guess", L + 1 + 1)] pm W.d1 k2), (W.d1, od1), (W.f1, kla_obj (Str.ofString "<lambda>") (lamQ L fa) lamP wkABody wkAScope [(Str.ofString "width", L + 1 + 1 + 1 + 1 + 1), (Str.ofString "guess", L + 1 + 1), (Str.ofString "ctx", L + 1)] pm W.c1 k1), (W.c1, oc1)] ++ (P.cor w vs ev lkv el most 0 tm tn l0 eln ++ [(L + 1 + 1 + 1 + 1 + 1, o5), (L + 1 + 1 + 1 + 1, o4), (L + 1 + 1 + 1, o3), (L + 1 + 1, o2), (L + 1, o1), (327, tabObj ps), (383, tabObj qs)])))
    (hJ : IntsAre lkv lki) (hz : lki.length ≤ 1000)
    (hQ : ∀ h' tk m', Fr G L h' m' → News G L h' [(327, tabObj ps), (383, tabObj qs)] → Q (.ret (.bool true)) { s with heap := h', toks := tk }) :
    wpAny (model PR w) (callerA.deeper (lawEnv L fa)) (execs [lawS11, lawS12] (lawEnv L fa)) Q (fun e s' => wpAny (model PR w) (callerA.deeper (lawEnv L fa)) (leaving (lawEnv L fa) e) (fun _ s'' => R₁ e s'') (fun e' s'' => R₁ e' s'') s') s := by
  simp only [List.cons_append, List.nil_append] at zN
  dsimp only [Pl.cor, Pl.core] at zN
  simp only [List.cons_append, List.nil_append] at zN
  obtain ⟨q1, q2, q3, q4, q5, q6, q7, q8, q9, q10, q11, q12, hcv, hcl, _, _⟩ := id O
  have hlz := hJ.length
  delta lawS11 lawS12
  delta valOf
  (try k_fold)
  k_steps
  (with_reducible rename _ ∧ _ => zL)
  have b16 := zL.1
  refine ⟨?_⟩
  (with_reducible rename Fr G L _ _ => zF)
  (with_reducible rename News G L _ _ => zN)
  refine' turn (W := W) (f := W.f1) (g := W.g1) (R := AspT ns most (clampG g) (wid wv)) (wl := [(W.g1, kla_obj (Str.ofString "<lambda>") (lamQ L fa) (dueP 427) dueABody dueAScope [(Str.ofString "width", L + 1 + 1 + 1 + 1 + 1), (Str.ofString "guess", L + 1 + 1)] pm W.d1 k2), (W.d1, od1), (L + 1 + 1, o2), (L + 1 + 1 + 1 + 1 + 1, o5)]) zB zX zT O ?t1 ?t2 ?t3 ?t4 ?t5 ?t6 ?t7 zF h1 zH1 zH2 z0 a0 b0 b1 b2 b3 b4 b5 b6 b7 b8 b9 b10 b11 b12 b13 b14 b15 b16 zN hJ hz ?_
  case t1 => exact fun h tm => workA O hI hlen hpos hr hoc11 hoc12 h1 h2 h5 h
  case t2 => exact fun t2 => dueA hI hlen hpos hr hod11 hod12 h2 h5
  case t3 => exact fun a b => a.det b
  case t4 => exact fun h => h.le hr hpos hlen (by unfold wid; split <;> omega)
  case t5 => exact (List.forall_mem_cons.mpr ⟨(.tail _ (.tail _ (.tail _ (.tail _ (.tail _ (.tail _ (.tail _ (.tail _ (.tail _ (.tail _ (.tail _ (.tail _ (.tail _ (.tail _ (.tail _ (.head _)))))))))))))))), (List.forall_mem_cons.mpr ⟨(.tail _ (.tail _ (.tail _ (.tail _ (.tail _ (.tail _ (.tail _ (.tail _ (.tail _ (.tail _ (.tail _ (.tail _ (.tail _ (.tail _ (.tail _ (.tail _ (.head _))))))))))))))))), (List.forall_mem_cons.mpr ⟨(.tail _ (.tail _ (.tail _ (.tail _ (.tail _ (.tail _ (.tail _ (.tail _ (.tail _ (.tail _ (.tail _ (.tail _ (.tail _ (.tail _ (.tail _ (.tail _ (.tail _ (.tail _ (.tail _ (.tail _ (.tail _ (.head _)))))))))))))))))))))), (List.forall_mem_cons.mpr ⟨(.tail _ (.tail _ (.tail _ (.tail _ (.tail _ (.tail _ (.tail _ (.tail _ (.tail _ (.tail _ (.tail _ (.tail _ (.tail _ (.tail _ (.tail _ (.tail _ (.tail _ (.tail _ (.tail _ (.tail _ (.head _))))))))))))))))))))), (List.forall_mem_cons.mpr ⟨(.tail _ (.tail _ (.tail _ (.tail _ (.tail _ (.tail _ (.tail _ (.tail _ (.tail _ (.tail _ (.tail _ (.tail _ (.tail _ (.tail _ (.tail _ (.tail _ (.tail _ (.head _)))))))))))))))))), (fun _ h => nomatch h)⟩)⟩)⟩)⟩)⟩)
  case t6 => exact (List.forall_mem_cons.mpr ⟨(.tail _ (.tail _ (.tail _ (.tail _ (.tail _ (.tail _ (.tail _ (.tail _ (.tail _ (.tail _ (.tail _ (.tail _ (.tail _ (.head _)))))))))))))), (List.forall_mem_cons.mpr ⟨(.tail _ (.tail _ (.tail _ (.tail _ (.tail _ (.tail _ (.tail _ (.tail _ (.tail _ (.tail _ (.tail _ (.tail _ (.tail _ (.tail _ (.head _))))))))))))))), (List.forall_mem_cons.mpr ⟨(.tail _ (.tail _ (.tail _ (.tail _ (.tail _ (.tail _ (.tail _ (.tail _ (.tail _ (.tail _ (.tail _ (.tail _ (.tail _ (.tail _ (.tail _ (.tail _ (.tail _ (.tail _ (.tail _ (.tail _ (.head _))))))))))))))))))))), (List.forall_mem_cons.mpr ⟨(.tail _ (.tail _ (.tail _ (.tail _ (.tail _ (.tail _ (.tail _ (.tail _ (.tail _ (.tail _ (.tail _ (.tail _ (.tail _ (.tail _ (.tail _ (.tail _ (.tail _ (.head _)))))))))))))))))), (fun _ h => nomatch h)⟩)⟩)⟩)⟩)
  case t7 => exact ⟨_, _, _, _, (.tail _ (.tail _ (.tail _ (.tail _ (.tail _ (.tail _ (.tail _ (.tail _ (.tail _ (.tail _ (.tail _ (.tail _ (.tail _ (.head _))))))))))))))⟩
  clear zF zN hJ hz hlz
  intro hp1 tk1 lkv1 lki1 el1 eln1 n1 tm1 tn1 l01 u1 zF zN hJ hz
  have hlz := hJ.length
  simp only [List.cons_append, List.nil_append] at zN
  dsimp only [Pl.cor, Pl.core] at zN
  simp only [List.cons_append, List.nil_append] at zN
  (try k_fold)
  dsimp only [UnrPostW]
  refine' ⟨_, _, _, _, rfl, zF, zN, ?uo, ?us, ?_⟩
  case uo =>
    intro p hp q hq
    rw [List.mem_singleton.mp hq]
    refine Nat.ne_of_lt (allLt_all ?_ p hp)
    exact zL
  case us => k_subL
  k_steps
  refine ⟨?_⟩
  (with_reducible rename Fr G L _ _ => zF)
  (with_reducible rename News G L _ _ => zN)
  refine' turn (W := W) (f := W.f2) (g := W.g2) (R := MtdR ns most 0 (-32001) 32001 (clampG g)) (wl := [(W.g2, kla_obj (Str.ofString "<lambda>") (lamQ L fa) (dueP 429) dueMBody dueMScope [(Str.ofString "guess", L + 1 + 1)] pm W.d2 k4), (W.d2, od2), (L + 1 + 1, o2), (L + 1 + 1 + 1 + 1 + 1, o5)]) zB zX zT O ?t1 ?t2 ?t3 ?t4 ?t5 ?t6 ?t7 zF h1 zH1 zH2 z0 a0 b0 b1 b2 b3 b4 b5 b6 b7 b8 b9 b10 b11 b12 b13 b14 b15 b16 zN hJ hz ?_
  case t1 => exact fun h tm => workM O hI hlen hpos hr hoc21 hoc22 h1 h2 h5 h
  case t2 => exact fun t2 => dueM hI hlen hpos hr hod21 hod22 h2 h5
  case t3 => exact fun a b => a.det b
  case t4 => exact fun h => h.le0 hpos hlen
  case t5 => exact (List.forall_mem_cons.mpr ⟨(.tail _ (.tail _ (.tail _ (.tail _ (.tail _ (.tail _ (.tail _ (.tail _ (.tail _ (.tail _ (.head _))))))))))), (List.forall_mem_cons.mpr ⟨(.tail _ (.tail _ (.tail _ (.tail _ (.tail _ (.tail _ (.tail _ (.tail _ (.tail _ (.tail _ (.tail _ (.head _)))))))))))), (List.forall_mem_cons.mpr ⟨(.tail _ (.tail _ (.tail _ (.tail _ (.tail _ (.tail _ (.tail _ (.tail _ (.tail _ (.tail _ (.tail _ (.tail _ (.tail _ (.tail _ (.tail _ (.tail _ (.tail _ (.tail _ (.tail _ (.tail _ (.tail _ (.head _)))))))))))))))))))))), (List.forall_mem_cons.mpr ⟨(.tail _ (.tail _ (.tail _ (.tail _ (.tail _ (.tail _ (.tail _ (.tail _ (.tail _ (.tail _ (.tail _ (.tail _ (.tail _ (.tail _ (.tail _ (.tail _ (.tail _ (.tail _ (.tail _ (.tail _ (.head _))))))))))))))))))))), (List.forall_mem_cons.mpr ⟨(.tail _ (.tail _ (.tail _ (.tail _ (.tail _ (.tail _ (.tail _ (.tail _ (.tail _ (.tail _ (.tail _ (.tail _ (.tail _ (.tail _ (.tail _ (.tail _ (.tail _ (.head _)))))))))))))))))), (fun _ h => nomatch h)⟩)⟩)⟩)⟩)⟩)
  case t6 => exact (List.forall_mem_cons.mpr ⟨(.tail _ (.tail _ (.tail _ (.tail _ (.tail _ (.tail _ (.tail _ (.tail _ (.head _))))))))), (List.forall_mem_cons.mpr ⟨(.tail _ (.tail _ (.tail _ (.tail _ (.tail _ (.tail _ (.tail _ (.tail _ (.tail _ (.head _)))))))))), (List.forall_mem_cons.mpr ⟨(.tail _ (.tail _ (.tail _ (.tail _ (.tail _ (.tail _ (.tail _ (.tail _ (.tail _ (.tail _ (.tail _ (.tail _ (.tail _ (.tail _ (.tail _ (.tail _ (.tail _ (.tail _ (.tail _ (.tail _ (.head _))))))))))))))))))))), (List.forall_mem_cons.mpr ⟨(.tail _ (.tail _ (.tail _ (.tail _ (.tail _ (.tail _ (.tail _ (.tail _ (.tail _ (.tail _ (.tail _ (.tail _ (.tail _ (.tail _ (.tail _ (.tail _ (.tail _ (.head _)))))))))))))))))), (fun _ h => nomatch h)⟩)⟩)⟩)⟩)
  case t7 => exact ⟨_, _, _, _, (.tail _ (.tail _ (.tail _ (.tail _ (.tail _ (.tail _ (.tail _ (.tail _ (.head _)))))))))⟩
  clear zF zN hJ hz hlz
  intro hp2 tk2 lkv2 lki2 el2 eln2 n2 tm2 tn2 l02 u2 zF zN hJ hz
  have hlz := hJ.length
  simp only [List.cons_append, List.nil_append] at zN
  dsimp only [Pl.cor, Pl.core] at zN
  simp only [List.cons_append, List.nil_append] at zN
  (try k_fold)
  dsimp only [UnrPostW]
  refine' ⟨_, _, _, _, rfl, zF, zN, ?uo, ?us, ?_⟩
  case uo =>
    intro p hp q hq
    rw [List.mem_singleton.mp hq]
    refine Nat.ne_of_lt (allLt_all ?_ p hp)
    exact zL
  case us => k_subL
  k_steps
  refine ⟨?_⟩
  (with_reducible rename Fr G L _ _ => zF)
  (with_reducible rename News G L _ _ => zN)
  refine' turn (W := W) (f := W.f3) (g := W.g3) (R := HalR ns most 0 lo (lo + sp)) (wl := [(W.g3, kla_obj (Str.ofString "<lambda>") (lamQ L fa) (dueP 431) dueHBody dueHScope [(Str.ofString "span", L + 1 + 1 + 1 + 1), (Str.ofString "low", L + 1 + 1 + 1)] pm W.d3 k6), (W.d3, od3), (L + 1 + 1 + 1, o3), (L + 1 + 1 + 1 + 1, o4)]) zB zX zT O ?t1 ?t2 ?t3 ?t4 ?t5 ?t6 ?t7 zF h1 zH1 zH2 z0 a0 b0 b1 b2 b3 b4 b5 b6 b7 b8 b9 b10 b11 b12 b13 b14 b15 b16 zN hJ hz ?_
  case t1 => exact fun h tm => workH O hI hlen hpos hr hoc31 hoc32 h1 h3 h4 h
  case t2 => exact fun t2 => dueH hI hlen hpos hr hod31 hod32 h3 h4
  case t3 => exact fun a b => a.det b
  case t4 => exact fun h => h.le0 hlen
  case t5 => exact (List.forall_mem_cons.mpr ⟨(.tail _ (.tail _ (.tail _ (.tail _ (.tail _ (.head _)))))), (List.forall_mem_cons.mpr ⟨(.tail _ (.tail _ (.tail _ (.tail _ (.tail _ (.tail _ (.head _))))))), (List.forall_mem_cons.mpr ⟨(.tail _ (.tail _ (.tail _ (.tail _ (.tail _ (.tail _ (.tail _ (.tail _ (.tail _ (.tail _ (.tail _ (.tail _ (.tail _ (.tail _ (.tail _ (.tail _ (.tail _ (.tail _ (.tail _ (.tail _ (.tail _ (.head _)))))))))))))))))))))), (List.forall_mem_cons.mpr ⟨(.tail _ (.tail _ (.tail _ (.tail _ (.tail _ (.tail _ (.tail _ (.tail _ (.tail _ (.tail _ (.tail _ (.tail _ (.tail _ (.tail _ (.tail _ (.tail _ (.tail _ (.tail _ (.tail _ (.head _)))))))))))))))))))), (List.forall_mem_cons.mpr ⟨(.tail _ (.tail _ (.tail _ (.tail _ (.tail _ (.tail _ (.tail _ (.tail _ (.tail _ (.tail _ (.tail _ (.tail _ (.tail _ (.tail _ (.tail _ (.tail _ (.tail _ (.tail _ (.head _))))))))))))))))))), (fun _ h => nomatch h)⟩)⟩)⟩)⟩)⟩)
  case t6 => exact (List.forall_mem_cons.mpr ⟨(.tail _ (.tail _ (.tail _ (.head _)))), (List.forall_mem_cons.mpr ⟨(.tail _ (.tail _ (.tail _ (.tail _ (.head _))))), (List.forall_mem_cons.mpr ⟨(.tail _ (.tail _ (.tail _ (.tail _ (.tail _ (.tail _ (.tail _ (.tail _ (.tail _ (.tail _ (.tail _ (.tail _ (.tail _ (.tail _ (.tail _ (.tail _ (.tail _ (.tail _ (.tail _ (.head _)))))))))))))))))))), (List.forall_mem_cons.mpr ⟨(.tail _ (.tail _ (.tail _ (.tail _ (.tail _ (.tail _ (.tail _ (.tail _ (.tail _ (.tail _ (.tail _ (.tail _ (.tail _ (.tail _ (.tail _ (.tail _ (.tail _ (.tail _ (.head _))))))))))))))))))), (fun _ h => nomatch h)⟩)⟩)⟩)⟩)
  case t7 => exact ⟨_, _, _, _, (.tail _ (.tail _ (.tail _ (.head _))))⟩
  clear zF zN hJ hz hlz
  intro hp3 tk3 lkv3 lki3 el3 eln3 n3 tm3 tn3 l03 u3 zF zN hJ hz
  have hlz := hJ.length
  simp only [List.cons_append, List.nil_append] at zN
  dsimp only [Pl.cor, Pl.core] at zN
  simp only [List.cons_append, List.nil_append] at zN
  (try k_fold)
  dsimp only [UnrPostW]
  refine' ⟨_, _, _, _, rfl, zF, zN, ?uo, ?us, ?_⟩
  case uo =>
    intro p hp q hq
    rw [List.mem_singleton.mp hq]
    refine Nat.ne_of_lt (allLt_all ?_ p hp)
    exact zL
  case us => k_subL
  k_steps
  (with_reducible rename Fr G _ _ _ => zF)
  (with_reducible rename News G _ _ _ => zN)
  refine hQ _ _ _ zF fun q hq => zN q ?_
  rcases List.mem_cons.mp hq with rfl | hq
  · k_mem
  · rw [List.mem_singleton.mp hq]
    k_mem
end
section
theorem tri_snoc {pos : Pos} {c : Value} (l : List Value) (h : TriplesOk l) : TriplesOk (l ++ [rawInt pos.line, rawInt pos.col, c]) := by
  fun_induction TriplesOk l with
  | case1 => simp [TriplesOk, rawInt]
  | case2 _ _ _ _ _ _ ih => simpa [TriplesOk] using ih h
  | case3 => exact h.elim
theorem among_snoc {pos pos' : Pos} {c : Value} (l : List Value) (h : TriplesOk l) (hn : codeAmong pos' l = none) (hl : pos.line ≠ pos'.line) : codeAmong pos' (l ++ [rawInt pos.line, rawInt pos.col, c]) = none := by
  fun_induction TriplesOk l with
  | case1 =>
    have e : ¬ ((pos.line : Int) = (pos'.line : Int)) := by omega
    simp [codeAmong, rawInt, e]
  | case2 a b c1 d x rest ih =>
    simp only [List.cons_append, codeAmong] at hn ⊢
    split at hn
    · exact nomatch hn
    · rename_i hc
      rw [if_neg hc]
      exact ih h hn
  | case3 => exact h.elim
/-- the table of codes: triples, no line beyond n -/
noncomputable def TabLn (n : Nat) (ps : Array Value) : Prop := TriplesOk ps.toList ∧ ∀ pos : Pos, n < pos.line → codeAmong pos ps.toList = none
theorem tabLn_nil {n : Nat} : TabLn n #[] := ⟨trivial, fun _ _ => rfl⟩
theorem tabLn_snoc {n : Nat} {ps : Array Value} {pos : Pos} {c : Value} (h : TabLn n ps) (hl : n < pos.line) : TabLn pos.line (ps ++ #[rawInt pos.line, rawInt pos.col, c]) := by
  unfold TabLn
  rw [Array.toList_append]
  exact ⟨tri_snoc _ h.1, fun pos' hp => among_snoc _ h.1 (h.2 pos' (by omega)) (by omega)⟩
section
variable {M : Model} {A : Around} {E : Value → Shared → Prop} {s : Shared} {h₀ : Heap} {L a c P : Addr} {m mg mb : Str → Option Value} {cn : Str} {cs : Scope} {ccd : Value} {cl : List (Str × Addr)} {news : List (Addr × Obj)} {g : Obj → List (Addr × Obj)}
  {p : Program} {loose : List Str} {mean : ExcName → Option Value} {name qual : Str} {params : Arguments} {body : PySem.Expr} {scope : Scope} {ps : Array Value} {pos : Pos} {firstLine : Nat} {clos : List (Str × Addr)} {n : Nat}
theorem lam_T {Q : Value → Shared → Prop} (F : Fr h₀ L s.heap m) (N : News h₀ L s.heap news) (T : Top p loose mean mg mb h₀) (C : CodeHd h₀ c P) (hcd : ccd = .ref c) (U : UpdF P (tabObj ps) news g) (ht : TabLn n ps) (hl : n < pos.line)
    (hcl : closureFor scope (envX cn cs L a ccd cl) = pure clos)
    (h : ∀ f c' oc vs t ctv h' tk ps', Fr h₀ L h' m →
      News h₀ L h' ((f, kla_obj name qual params body scope clos ((mg "__name__").getD .none) c' ctv) :: (c', oc) :: g (tabObj ps')) →
      oc.data = .fields vs → vs[1]? = some (.str qual t) → (∀ q ∈ news, q.1 < c') → c' < f → TabLn pos.line ps' → Q (.ref f) { s with heap := h', toks := tk }) :
    wpAny M A (makeFunction name qual params (.expr body) scope (envX cn cs L a ccd cl) [] [] [] pos firstLine) Q E s :=
  kla_nest F N T C hcd U ht.1 (ht.2 pos hl) hcl fun f c' oc vs t ctv h' tk F' N' d1 d2 l1 l2 => h f c' oc vs t ctv h' tk _ F' N' d1 d2 l1 l2 (tabLn_snoc ht hl)
end
end
section
set_option maxRecDepth 100000 in
set_option maxHeartbeats 8000000 in
theorem segC_end {w : World} {G : Heap} {L fa : Addr} {s : Shared} {vl lk cv cl dp p lp lq c1 fv c2 fi dc c ln l0 tp ml pl bk wl wt3 wg3 wd3 wf3 wc3 wt2 wg2 wd2 wf2 wc2 wt1 wg1 wd1 wf1 wc1 : Addr} {ocv ocl oc1 oc2 ol0 olp olq otp oml opl obk o1 o2 o3 o4 o5 xc1 xd1 xc2 xd2 xc3 xd3 ow6 ow5 ow4 ow3 ow2 ow1 oCt oPl : Obj} {ka kb kc0 kd ke kf kg kh ki kj kq km ja jb jc jd je jf jg jh ji jj jk jl jq jm px py tm tn tmo : Tok} {q1 q2 : Str} {d1 d2 pm t1 t2 pw k1 k2 k3 k4 k5 k6 : Value}
    {vs : List Value} {ns : List Int} {ev el eln : Nat} {most : Int} {pp : Program} {loose : List Str} {mean : ExcName → Option Value} {mg mb : Str → Option Value} {ps qs : Array Value} {g wv lo sp : Int} {tg tw tl ts : Tok} {m : Str → Option Value} {Q : Flow → Shared → Prop} {R₁ : Value → Shared → Prop}
    (gow6 : kla_obj (Str.ofString "<lambda>") (lamQ L fa) (dueP 431) dueHBody dueHScope [(Str.ofString "span", L + 1 + 1 + 1 + 1), (Str.ofString "low", L + 1 + 1 + 1)] pw wd3 k6 = ow6)
    (gow5 : kla_obj (Str.ofString "<lambda>") (lamQ L fa) lamP wkHBody wkHScope [(Str.ofString "span", L + 1 + 1 + 1 + 1), (Str.ofString "low", L + 1 + 1 + 1), (Str.ofString "ctx", L + 1)] pw wc3 k5 = ow5)
    (gow4 : kla_obj (Str.ofString "<lambda>") (lamQ L fa) (dueP 429) dueMBody dueMScope [(Str.ofString "guess", L + 1 + 1)] pw wd2 k4 = ow4)
    (gow3 : kla_obj (Str.ofString "<lambda>") (lamQ L fa) lamP wkMBody wkMScope [(Str.ofString "guess", L + 1 + 1), (Str.ofString "ctx", L + 1)] pw wc2 k3 = ow3)
    (gow2 : kla_obj (Str.ofString "<lambda>") (lamQ L fa) (dueP 427) dueABody dueAScope [(Str.ofString "width", L + 1 + 1 + 1 + 1 + 1), (Str.ofString "guess", L + 1 + 1)] pw wd1 k2 = ow2)
    (gow1 : kla_obj (Str.ofString "<lambda>") (lamQ L fa) lamP wkABody wkAScope [(Str.ofString "width", L + 1 + 1 + 1 + 1 + 1), (Str.ofString "guess", L + 1 + 1), (Str.ofString "ctx", L + 1)] pw wc1 k1 = ow1)
    (goCt : ctxD w ⟨ka, kb, kc0, kd, ke, kf, kg, kh, ki, kj, 0, 0, kq, km⟩ p ln most 0 tm tn = oCt)
    (goPl : placeD w ⟨ja, jb, jc, jd, je, jf, jg, jh, ji, jj, jk, jl, jq, jm⟩ lp fv fi px py = oPl)
    (zN : News G L s.heap [(wl, listOf #[.ref wt1, .ref wt2, .ref wt3] 0), (wt3, tupObj [.ref wf3, .ref wg3]), (wg3, ow6), (wd3, xd3), (wf3, ow5), (wc3, xc3), (wt2, tupObj [.ref wf2, .ref wg2]), (wg2, ow4), (wd2, xd2), (wf2, ow3), (wc2, xc2), (wt1, tupObj [.ref wf1, .ref wg1]), (wg1, ow2), (wd1, xd1), (wf1, ow1), (wc1, xc1), (ln, listOf #[.ref l0] eln), (l0, ol0), (c, instObj 113 dc), (dc, oCt), (fi, chkF q2 d2 pm c2 t2), (c2, oc2), (fv, valF q1 cv cl d1 pm c1 t1), (c1, oc1), (lp, olp), (lq, olq), (p, instObj 113 dp), (dp, oPl), (cl, ocl), (cv, ocv), (lk, listOf #[] el), (tp, otp), (ml, oml), (vl, listOf vs.toArray ev), (pl, opl), (bk, obk), (L + 1 + 1 + 1 + 1 + 1, o5), (L + 1 + 1 + 1 + 1, o4), (L + 1 + 1 + 1, o3), (L + 1 + 1, o2), (L + 1, o1), (327, tabObj ps), (383, tabObj qs)])
    (zB : Below callerA G [] G) (zX : (hd.heap_39 w.params).In G) (zT : Top pp loose mean mg mb G) (hI : IntsAre vs ns) (hlen : ns.length ≤ 6) (hpos : 0 < ns.length) (hr : ∀ x ∈ ns, -32000 ≤ x ∧ x ≤ 32000)
    (zF : Fr G L s.heap m) (hm : ∀ q ∈ [(Str.ofString "works", Value.ref wl), (Str.ofString "looks", .ref lk), (Str.ofString "most", .int most tmo), (Str.ofString "values", .ref vl)], m q.1 = some q.2)
    {vxc1 : Array Value} {yxc1 : Tok} (hxc11 : xc1.data = .fields vxc1) (hxc12 : vxc1[1]? = some (.str (lamQ L fa) yxc1)) {vxd1 : Array Value} {yxd1 : Tok} (hxd11 : xd1.data = .fields vxd1) (hxd12 : vxd1[1]? = some (.str (lamQ L fa) yxd1)) {vxc2 : Array Value} {yxc2 : Tok} (hxc21 : xc2.data = .fields vxc2) (hxc22 : vxc2[1]? = some (.str (lamQ L fa) yxc2)) {vxd2 : Array Value} {yxd2 : Tok} (hxd21 : xd2.data = .fields vxd2) (hxd22 : vxd2[1]? = some (.str (lamQ L fa) yxd2)) {vxc3 : Array Value} {yxc3 : Tok} (hxc31 : xc3.data = .fields vxc3) (hxc32 : vxc3[1]? = some (.str (lamQ L fa) yxc3)) {vxd3 : Array Value} {yxd3 : Tok} (hxd31 : xd3.data = .fields vxd3) (hxd32 : vxd3[1]? = some (.str (lamQ L fa) yxd3))
    (hv1 : ∃ v t, oc1.data = .fields v ∧ v[1]? = some (.str q1 t)) (hv2 : ∃ v t, oc2.data = .fields v ∧ v[1]? = some (.str q2 t))
    (hcv : ocv.data = .cell (some (.ref vl))) (hcl : ocl.data = .cell (some (.ref lk)))
    (h1 : o1.data = .cell (some (.ref c))) (h2 : o2.data = .cell (some (.int g tg))) (h3 : o3.data = .cell (some (.int lo tl))) (h4 : o4.data = .cell (some (.int sp ts))) (h5 : o5.data = .cell (some (.int wv tw)))
    (zH1 : CodeHd G 331 327) (zH2 : CodeHd G 387 383) (z0 : @LT.lt Nat _ 327 L ∧ @LT.lt Nat _ 383 L) (e0 : @LT.lt Nat _ (L + 1 + 1 + 1 + 1 + 1) bk) (e1 : @LT.lt Nat _ bk pl) (e2 : @LT.lt Nat _ pl vl) (e3 : @LT.lt Nat _ vl ml) (e4 : @LT.lt Nat _ ml tp) (e5 : @LT.lt Nat _ tp lk) (e6 : @LT.lt Nat _ lk cv) (e7 : @LT.lt Nat _ cv cl) (e8 : @LT.lt Nat _ cl dp) (e9 : @LT.lt Nat _ dp p) (e10 : @LT.lt Nat _ p lq) (e11 : @LT.lt Nat _ lq lp) (e12 : @LT.lt Nat _ lp c1) (e13 : @LT.lt Nat _ c1 fv) (e14 : @LT.lt Nat _ fv c2) (e15 : @LT.lt Nat _ c2 fi) (e16 : @LT.lt Nat _ fi dc) (e17 : @LT.lt Nat _ dc c) (e18 : @LT.lt Nat _ c l0) (e19 : @LT.lt Nat _ l0 ln) (e20 : @LT.lt Nat _ ln wc1) (e21 : @LT.lt Nat _ wc1 wf1) (e22 : @LT.lt Nat _ wf1 wd1) (e23 : @LT.lt Nat _ wd1 wg1) (e24 : @LT.lt Nat _ wg1 wt1) (e25 : @LT.lt Nat _ wt1 wc2) (e26 : @LT.lt Nat _ wc2 wf2) (e27 : @LT.lt Nat _ wf2 wd2) (e28 : @LT.lt Nat _ wd2 wg2) (e29 : @LT.lt Nat _ wg2 wt2) (e30 : @LT.lt Nat _ wt2 wc3) (e31 : @LT.lt Nat _ wc3 wf3) (e32 : @LT.lt Nat _ wf3 wd3) (e33 : @LT.lt Nat _ wd3 wg3) (e34 : @LT.lt Nat _ wg3 wt3) (e35 : @LT.lt Nat _ wt3 wl)
    (hQ : ∀ h' tk ps qs m', Fr G L h' m' → News G L h' [(327, tabObj ps), (383, tabObj qs)] → Q (.ret (.bool true)) { s with heap := h', toks := tk }) :
    wpAny (model PR w) (callerA.deeper (lawEnv L fa)) (execs [lawS11, lawS12] (lawEnv L fa)) Q (fun e s' => wpAny (model PR w) (callerA.deeper (lawEnv L fa)) (leaving (lawEnv L fa) e) (fun _ s'' => R₁ e s'') (fun e' s'' => R₁ e' s'') s') s := by
  subst gow6 gow5 gow4 gow3 gow2 gow1 goCt goPl
  refine segD (P := ⟨vl, lk, cv, cl, dp, p, lp, c1, fv, c2, fi, dc, c, ln, ocv, ocl, oc1, oc2, ⟨ja, jb, jc, jd, je, jf, jg, jh, ji, jj, jk, jl, jq, jm⟩, ⟨ka, kb, kc0, kd, ke, kf, kg, kh, ki, kj, 0, 0, kq, km⟩, px, py, q1, q2, d1, d2, pm, t1, t2⟩) (W := ⟨wl, wt1, wt2, wt3, wf1, wg1, wf2, wg2, wf3, wg3, wc1, wd1, wc2, wd2, wc3, wd3⟩) (lkv := []) (lki := []) (vs := vs) (ev := ev) (el := el) (eln := eln) (l0 := l0) (tm := tm) (tn := tn) (pm := pw) (k1 := k1) (k2 := k2) (k3 := k3) (k4 := k4) (k5 := k5) (k6 := k6)
    hxc11 hxc12 hxd11 hxd12 hxc21 hxc22 hxd21 hxd22 hxc31 hxc32 hxd31 hxd32 zB zX zT ?_ hI hlen hpos hr (toKst _ hm zF) h1 h2 h3 h4 h5 zH1 zH2 z0 ?_ ?_ ?_ ?_ ?_ ?_ ?_ ?_ ?_ ?_ ?_ ?_ ?_ ?_ ?_ ?_ ?_ ?_ .nil (by simp) (fun h' tk m' F' N' => hQ h' tk ps qs m' F' N')
  · exact ⟨by dsimp only; omega, by dsimp only; omega, by dsimp only; omega, by dsimp only; omega, by dsimp only; omega, by dsimp only; omega, by dsimp only; omega, by dsimp only; omega, by dsimp only; omega, by dsimp only; omega, by dsimp only; omega, by dsimp only; omega, hcv, hcl, hv1, hv2⟩
  rotate_right
  · have H : ∀ q ∈ ([(wl, listOf #[.ref wt1, .ref wt2, .ref wt3] 0), (wt3, tupObj [.ref wf3, .ref wg3]), (wg3, kla_obj (Str.ofString "<lambda>") (lamQ L fa) (dueP 431) dueHBody dueHScope [(Str.ofString "span", L + 1 + 1 + 1 + 1), (Str.ofString "low", L + 1 + 1 + 1)] pw wd3 k6), (wd3, xd3), (wf3, kla_obj (Str.ofString "<lambda>") (lamQ L fa) lamP wkHBody wkHScope [(Str.ofString "span", L + 1 + 1 + 1 + 1), (Str.ofString "low", L + 1 + 1 + 1), (Str.ofString "ctx", L + 1)] pw wc3 k5), (wc3, xc3), (wt2, tupObj [.ref wf2, .ref wg2]), (wg2, kla_obj (Str.ofString "<lambda>") (lamQ L fa) (dueP 429) dueMBody dueMScope [(Str.ofString "guess", L + 1 + 1)] pw wd2 k4), (wd2, xd2), (wf2, kla_obj (Str.ofString "<lambda>") (lamQ L fa) lamP wkMBody wkMScope [(Str.ofString "guess", L + 1 + 1), (Str.ofString "ctx", L + 1)] pw wc2 k3), (wc2, xc2), (wt1, tupObj [.ref wf1, .ref wg1]), (wg1, kla_obj (Str.ofString "<lambda>") (lamQ L fa) (dueP 427) dueABody dueAScope [(Str.ofString "width", L + 1 + 1 + 1 + 1 + 1), (Str.ofString "guess", L + 1 + 1)] pw wd1 k2), (wd1, xd1), (wf1, kla_obj (Str.ofString "<lambda>") (lamQ L fa) lamP wkABody wkAScope [(Str.ofString "width", L + 1 + 1 + 1 + 1 + 1), (Str.ofString "guess", L + 1 + 1), (Str.ofString "ctx", L + 1)] pw wc1 k1), (wc1, xc1), (ln, listOf #[.ref l0] eln), (c, instObj 113 dc), (dc, ctxD w ⟨ka, kb, kc0, kd, ke, kf, kg, kh, ki, kj, 0, 0, kq, km⟩ p ln most 0 tm tn), (fi, chkF q2 d2 pm c2 t2), (c2, oc2), (fv, valF q1 cv cl d1 pm c1 t1), (c1, oc1), (p, instObj 113 dp), (dp, placeD w ⟨ja, jb, jc, jd, je, jf, jg, jh, ji, jj, jk, jl, jq, jm⟩ lp fv fi px py), (cl, ocl), (cv, ocv), (vl, listOf vs.toArray ev), (lk, listOf #[] el), (L + 1 + 1 + 1 + 1 + 1, o5), (L + 1 + 1 + 1 + 1, o4), (L + 1 + 1 + 1, o3), (L + 1 + 1, o2), (L + 1, o1), (327, tabObj ps), (383, tabObj qs)] : List (Addr × Obj)), q ∈ ([(wl, listOf #[.ref wt1, .ref wt2, .ref wt3] 0), (wt3, tupObj [.ref wf3, .ref wg3]), (wg3, kla_obj (Str.ofString "<lambda>") (lamQ L fa) (dueP 431) dueHBody dueHScope [(Str.ofString "span", L + 1 + 1 + 1 + 1), (Str.ofString "low", L + 1 + 1 + 1)] pw wd3 k6), (wd3, xd3), (wf3, kla_obj (Str.ofString "<lambda>") (lamQ L fa) lamP wkHBody wkHScope [(Str.ofString "span", L + 1 + 1 + 1 + 1), (Str.ofString "low", L + 1 + 1 + 1), (Str.ofString "ctx", L + 1)] pw wc3 k5), (wc3, xc3), (wt2, tupObj [.ref wf2, .ref wg2]), (wg2, kla_obj (Str.ofString "<lambda>") (lamQ L fa) (dueP 429) dueMBody dueMScope [(Str.ofString "guess", L + 1 + 1)] pw wd2 k4), (wd2, xd2), (wf2, kla_obj (Str.ofString "<lambda>") (lamQ L fa) lamP wkMBody wkMScope [(Str.ofString "guess", L + 1 + 1), (Str.ofString "ctx", L + 1)] pw wc2 k3), (wc2, xc2), (wt1, tupObj [.ref wf1, .ref wg1]), (wg1, kla_obj (Str.ofString "<lambda>") (lamQ L fa) (dueP 427) dueABody dueAScope [(Str.ofString "width", L + 1 + 1 + 1 + 1 + 1), (Str.ofString "guess", L + 1 + 1)] pw wd1 k2), (wd1, xd1), (wf1, kla_obj (Str.ofString "<lambda>") (lamQ L fa) lamP wkABody wkAScope [(Str.ofString "width", L + 1 + 1 + 1 + 1 + 1), (Str.ofString "guess", L + 1 + 1), (Str.ofString "ctx", L + 1)] pw wc1 k1), (wc1, xc1), (ln, listOf #[.ref l0] eln), (l0, ol0), (c, instObj 113 dc), (dc, ctxD w ⟨ka, kb, kc0, kd, ke, kf, kg, kh, ki, kj, 0, 0, kq, km⟩ p ln most 0 tm tn), (fi, chkF q2 d2 pm c2 t2), (c2, oc2), (fv, valF q1 cv cl d1 pm c1 t1), (c1, oc1), (lp, olp), (lq, olq), (p, instObj 113 dp), (dp, placeD w ⟨ja, jb, jc, jd, je, jf, jg, jh, ji, jj, jk, jl, jq, jm⟩ lp fv fi px py), (cl, ocl), (cv, ocv), (lk, listOf #[] el), (tp, otp), (ml, oml), (vl, listOf vs.toArray ev), (pl, opl), (bk, obk), (L + 1 + 1 + 1 + 1 + 1, o5), (L + 1 + 1 + 1 + 1, o4), (L + 1 + 1 + 1, o3), (L + 1 + 1, o2), (L + 1, o1), (327, tabObj ps), (383, tabObj qs)] : List (Addr × Obj)) := (List.forall_mem_cons.mpr ⟨(.head _), (List.forall_mem_cons.mpr ⟨(.tail _ (.head _)), (List.forall_mem_cons.mpr ⟨(.tail _ (.tail _ (.head _))), (List.forall_mem_cons.mpr ⟨(.tail _ (.tail _ (.tail _ (.head _)))), (List.forall_mem_cons.mpr ⟨(.tail _ (.tail _ (.tail _ (.tail _ (.head _))))), (List.forall_mem_cons.mpr ⟨(.tail _ (.tail _ (.tail _ (.tail _ (.tail _ (.head _)))))), (List.forall_mem_cons.mpr ⟨(.tail _ (.tail _ (.tail _ (.tail _ (.tail _ (.tail _ (.head _))))))), (List.forall_mem_cons.mpr ⟨(.tail _ (.tail _ (.tail _ (.tail _ (.tail _ (.tail _ (.tail _ (.head _)))))))), (List.forall_mem_cons.mpr ⟨(.tail _ (.tail _ (.tail _ (.tail _ (.tail _ (.tail _ (.tail _ (.tail _ (.head _))))))))), (List.forall_mem_cons.mpr ⟨(.tail _ (.tail _ (.tail _ (.tail _ (.tail _ (.tail _ (.tail _ (.tail _ (.tail _ (.head _)))))))))), (List.forall_mem_cons.mpr ⟨(.tail _ (.tail _ (.tail _ (.tail _ (.tail _ (.tail _ (.tail _ (.tail _ (.tail _ (.tail _ (.head _))))))))))), (List.forall_mem_cons.mpr ⟨(.tail _ (.tail _ (.tail _ (.tail _ (.tail _ (.tail _ (.tail _ (.tail _ (.tail _ (.tail _ (.tail _ (.head _)))))))))))), (List.forall_mem_cons.mpr ⟨(.tail _ (.tail _ (.tail _ (.tail _ (.tail _ (.tail _ (.tail _ (.tail _ (.tail _ (.tail _ (.tail _ (.tail _ (.head _))))))))))))), (List.forall_mem_cons.mpr ⟨(.tail _ (.tail _ (.tail _ (.tail _ (.tail _ (.tail _ (.tail _ (.tail _ (.tail _ (.tail _ (.tail _ (.tail _ (.tail _ (.head _)))))))))))))), (List.forall_mem_cons.mpr ⟨(.tail _ (.tail _ (.tail _ (.tail _ (.tail _ (.tail _ (.tail _ (.tail _ (.tail _ (.tail _ (.tail _ (.tail _ (.tail _ (.tail _ (.head _))))))))))))))), (List.forall_mem_cons.mpr ⟨(.tail _ (.tail _ (.tail _ (.tail _ (.tail _ (.tail _ (.tail _ (.tail _ (.tail _ (.tail _ (.tail _ (.tail _ (.tail _ (.tail _ (.tail _ (.head _)))))))))))))))), (List.forall_mem_cons.mpr ⟨(.tail _ (.tail _ (.tail _ (.tail _ (.tail _ (.tail _ (.tail _ (.tail _ (.tail _ (.tail _ (.tail _ (.tail _ (.tail _ (.tail _ (.tail _ (.tail _ (.head _))))))))))))))))), (List.forall_mem_cons.mpr ⟨(.tail _ (.tail _ (.tail _ (.tail _ (.tail _ (.tail _ (.tail _ (.tail _ (.tail _ (.tail _ (.tail _ (.tail _ (.tail _ (.tail _ (.tail _ (.tail _ (.tail _ (.tail _ (.head _))))))))))))))))))), (List.forall_mem_cons.mpr ⟨(.tail _ (.tail _ (.tail _ (.tail _ (.tail _ (.tail _ (.tail _ (.tail _ (.tail _ (.tail _ (.tail _ (.tail _ (.tail _ (.tail _ (.tail _ (.tail _ (.tail _ (.tail _ (.tail _ (.head _)))))))))))))))))))), (List.forall_mem_cons.mpr ⟨(.tail _ (.tail _ (.tail _ (.tail _ (.tail _ (.tail _ (.tail _ (.tail _ (.tail _ (.tail _ (.tail _ (.tail _ (.tail _ (.tail _ (.tail _ (.tail _ (.tail _ (.tail _ (.tail _ (.tail _ (.head _))))))))))))))))))))), (List.forall_mem_cons.mpr ⟨(.tail _ (.tail _ (.tail _ (.tail _ (.tail _ (.tail _ (.tail _ (.tail _ (.tail _ (.tail _ (.tail _ (.tail _ (.tail _ (.tail _ (.tail _ (.tail _ (.tail _ (.tail _ (.tail _ (.tail _ (.tail _ (.head _)))))))))))))))))))))), (List.forall_mem_cons.mpr ⟨(.tail _ (.tail _ (.tail _ (.tail _ (.tail _ (.tail _ (.tail _ (.tail _ (.tail _ (.tail _ (.tail _ (.tail _ (.tail _ (.tail _ (.tail _ (.tail _ (.tail _ (.tail _ (.tail _ (.tail _ (.tail _ (.tail _ (.head _))))))))))))))))))))))), (List.forall_mem_cons.mpr ⟨(.tail _ (.tail _ (.tail _ (.tail _ (.tail _ (.tail _ (.tail _ (.tail _ (.tail _ (.tail _ (.tail _ (.tail _ (.tail _ (.tail _ (.tail _ (.tail _ (.tail _ (.tail _ (.tail _ (.tail _ (.tail _ (.tail _ (.tail _ (.head _)))))))))))))))))))))))), (List.forall_mem_cons.mpr ⟨(.tail _ (.tail _ (.tail _ (.tail _ (.tail _ (.tail _ (.tail _ (.tail _ (.tail _ (.tail _ (.tail _ (.tail _ (.tail _ (.tail _ (.tail _ (.tail _ (.tail _ (.tail _ (.tail _ (.tail _ (.tail _ (.tail _ (.tail _ (.tail _ (.tail _ (.tail _ (.head _))))))))))))))))))))))))))), (List.forall_mem_cons.mpr ⟨(.tail _ (.tail _ (.tail _ (.tail _ (.tail _ (.tail _ (.tail _ (.tail _ (.tail _ (.tail _ (.tail _ (.tail _ (.tail _ (.tail _ (.tail _ (.tail _ (.tail _ (.tail _ (.tail _ (.tail _ (.tail _ (.tail _ (.tail _ (.tail _ (.tail _ (.tail _ (.tail _ (.head _)))))))))))))))))))))))))))), (List.forall_mem_cons.mpr ⟨(.tail _ (.tail _ (.tail _ (.tail _ (.tail _ (.tail _ (.tail _ (.tail _ (.tail _ (.tail _ (.tail _ (.tail _ (.tail _ (.tail _ (.tail _ (.tail _ (.tail _ (.tail _ (.tail _ (.tail _ (.tail _ (.tail _ (.tail _ (.tail _ (.tail _ (.tail _ (.tail _ (.tail _ (.head _))))))))))))))))))))))))))))), (List.forall_mem_cons.mpr ⟨(.tail _ (.tail _ (.tail _ (.tail _ (.tail _ (.tail _ (.tail _ (.tail _ (.tail _ (.tail _ (.tail _ (.tail _ (.tail _ (.tail _ (.tail _ (.tail _ (.tail _ (.tail _ (.tail _ (.tail _ (.tail _ (.tail _ (.tail _ (.tail _ (.tail _ (.tail _ (.tail _ (.tail _ (.tail _ (.head _)))))))))))))))))))))))))))))), (List.forall_mem_cons.mpr ⟨(.tail _ (.tail _ (.tail _ (.tail _ (.tail _ (.tail _ (.tail _ (.tail _ (.tail _ (.tail _ (.tail _ (.tail _ (.tail _ (.tail _ (.tail _ (.tail _ (.tail _ (.tail _ (.tail _ (.tail _ (.tail _ (.tail _ (.tail _ (.tail _ (.tail _ (.tail _ (.tail _ (.tail _ (.tail _ (.tail _ (.tail _ (.tail _ (.tail _ (.head _)))))))))))))))))))))))))))))))))), (List.forall_mem_cons.mpr ⟨(.tail _ (.tail _ (.tail _ (.tail _ (.tail _ (.tail _ (.tail _ (.tail _ (.tail _ (.tail _ (.tail _ (.tail _ (.tail _ (.tail _ (.tail _ (.tail _ (.tail _ (.tail _ (.tail _ (.tail _ (.tail _ (.tail _ (.tail _ (.tail _ (.tail _ (.tail _ (.tail _ (.tail _ (.tail _ (.tail _ (.head _))))))))))))))))))))))))))))))), (List.forall_mem_cons.mpr ⟨(.tail _ (.tail _ (.tail _ (.tail _ (.tail _ (.tail _ (.tail _ (.tail _ (.tail _ (.tail _ (.tail _ (.tail _ (.tail _ (.tail _ (.tail _ (.tail _ (.tail _ (.tail _ (.tail _ (.tail _ (.tail _ (.tail _ (.tail _ (.tail _ (.tail _ (.tail _ (.tail _ (.tail _ (.tail _ (.tail _ (.tail _ (.tail _ (.tail _ (.tail _ (.tail _ (.tail _ (.head _))))))))))))))))))))))))))))))))))))), (List.forall_mem_cons.mpr ⟨(.tail _ (.tail _ (.tail _ (.tail _ (.tail _ (.tail _ (.tail _ (.tail _ (.tail _ (.tail _ (.tail _ (.tail _ (.tail _ (.tail _ (.tail _ (.tail _ (.tail _ (.tail _ (.tail _ (.tail _ (.tail _ (.tail _ (.tail _ (.tail _ (.tail _ (.tail _ (.tail _ (.tail _ (.tail _ (.tail _ (.tail _ (.tail _ (.tail _ (.tail _ (.tail _ (.tail _ (.tail _ (.head _)))))))))))))))))))))))))))))))))))))), (List.forall_mem_cons.mpr ⟨(.tail _ (.tail _ (.tail _ (.tail _ (.tail _ (.tail _ (.tail _ (.tail _ (.tail _ (.tail _ (.tail _ (.tail _ (.tail _ (.tail _ (.tail _ (.tail _ (.tail _ (.tail _ (.tail _ (.tail _ (.tail _ (.tail _ (.tail _ (.tail _ (.tail _ (.tail _ (.tail _ (.tail _ (.tail _ (.tail _ (.tail _ (.tail _ (.tail _ (.tail _ (.tail _ (.tail _ (.tail _ (.tail _ (.head _))))))))))))))))))))))))))))))))))))))), (List.forall_mem_cons.mpr ⟨(.tail _ (.tail _ (.tail _ (.tail _ (.tail _ (.tail _ (.tail _ (.tail _ (.tail _ (.tail _ (.tail _ (.tail _ (.tail _ (.tail _ (.tail _ (.tail _ (.tail _ (.tail _ (.tail _ (.tail _ (.tail _ (.tail _ (.tail _ (.tail _ (.tail _ (.tail _ (.tail _ (.tail _ (.tail _ (.tail _ (.tail _ (.tail _ (.tail _ (.tail _ (.tail _ (.tail _ (.tail _ (.tail _ (.tail _ (.head _)))))))))))))))))))))))))))))))))))))))), (List.forall_mem_cons.mpr ⟨(.tail _ (.tail _ (.tail _ (.tail _ (.tail _ (.tail _ (.tail _ (.tail _ (.tail _ (.tail _ (.tail _ (.tail _ (.tail _ (.tail _ (.tail _ (.tail _ (.tail _ (.tail _ (.tail _ (.tail _ (.tail _ (.tail _ (.tail _ (.tail _ (.tail _ (.tail _ (.tail _ (.tail _ (.tail _ (.tail _ (.tail _ (.tail _ (.tail _ (.tail _ (.tail _ (.tail _ (.tail _ (.tail _ (.tail _ (.tail _ (.head _))))))))))))))))))))))))))))))))))))))))), (List.forall_mem_cons.mpr ⟨(.tail _ (.tail _ (.tail _ (.tail _ (.tail _ (.tail _ (.tail _ (.tail _ (.tail _ (.tail _ (.tail _ (.tail _ (.tail _ (.tail _ (.tail _ (.tail _ (.tail _ (.tail _ (.tail _ (.tail _ (.tail _ (.tail _ (.tail _ (.tail _ (.tail _ (.tail _ (.tail _ (.tail _ (.tail _ (.tail _ (.tail _ (.tail _ (.tail _ (.tail _ (.tail _ (.tail _ (.tail _ (.tail _ (.tail _ (.tail _ (.tail _ (.head _)))))))))))))))))))))))))))))))))))))))))), (List.forall_mem_cons.mpr ⟨(.tail _ (.tail _ (.tail _ (.tail _ (.tail _ (.tail _ (.tail _ (.tail _ (.tail _ (.tail _ (.tail _ (.tail _ (.tail _ (.tail _ (.tail _ (.tail _ (.tail _ (.tail _ (.tail _ (.tail _ (.tail _ (.tail _ (.tail _ (.tail _ (.tail _ (.tail _ (.tail _ (.tail _ (.tail _ (.tail _ (.tail _ (.tail _ (.tail _ (.tail _ (.tail _ (.tail _ (.tail _ (.tail _ (.tail _ (.tail _ (.tail _ (.tail _ (.head _))))))))))))))))))))))))))))))))))))))))))), (fun _ h => nomatch h)⟩)⟩)⟩)⟩)⟩)⟩)⟩)⟩)⟩)⟩)⟩)⟩)⟩)⟩)⟩)⟩)⟩)⟩)⟩)⟩)⟩)⟩)⟩)⟩)⟩)⟩)⟩)⟩)⟩)⟩)⟩)⟩)⟩)⟩)⟩)⟩)
    exact fun q hq => zN q (H q hq)
  all_goals (dsimp only; omega)
end
section
theorem freshCB2 : True := by
  w_top off
  trivial
local macro_rules | `(tactic| walk_at "binaryOp Pow int int") => `(tactic| (k_here; (with_reducible refine pow_any ?pw1 ?pw2 ?pw3 ?_); (case pw1 | pw2 | pw3 => k_dflt decide); intro big))
local macro_rules | `(tactic| walk_at "call ref") => `(tactic| (k_here; (with_reducible show wpAny _ _ (call (Value.ref 325) _) _ _ _); k_dflt (refine' leaf_call ?lf_A ?lf_d ?lf_u ?lf_B ?lf_F ?lf_X ?lf_T ?lf_hf ?lf_hk ?lf_N ?lf_U ?lf_m ?lf_ne ?lf_I ?lf_l ?lf_b ?lf_0 ?lf_1 ?_; (case lf_A => exact rfl); (case lf_d | lf_u => first | assumption | decide | omega); (case lf_B | lf_F | lf_X | lf_T => k_asm); (case lf_hf | lf_hk => exact rfl); (case lf_N => k_asm); (case lf_U => k_updF); (case lf_b => assumption); (case lf_m => k_mem); (case lf_I => k_asm); (case lf_ne | lf_l | lf_0 => first | assumption | omega); (case lf_1 => first | decide | omega)); intros; (with_reducible rename News _ _ _ _ => zN); (try dsimp only at zN); (try k_sweep)))
local macro_rules | `(tactic| walk_at "subscriptTail List") => `(tactic| (k_here; k_dflt (refine' item_some ?ki_N ?ki_m ?ki_I ?ki_0 ?ki_1 ?ki_f ?_ ?ki_s; (case ki_N => k_asm); (case ki_m => k_mem); (case ki_I => repeat constructor); (case ki_0 => assumption); (case ki_1 => (simp only [List.length_cons, List.length_nil]; omega)); (case ki_f => omega); (case ki_s => with_unfolding_all rfl)); intro xi ti; (try k_sweep)))
local macro_rules | `(tactic| walk_at "execs cons For cons") => `(tactic| (k_here; refine Halt.go ?_))
local macro_rules | `(tactic| walk_at "exec For Name Call cons nil") => `(tactic| (k_here; (rename Fr _ _ _ _ => lF'); (with_unfolding_all refine' For_invVF lF' ?k1 ?k2 ?_; (case k1 | k2 => exact rfl))))
local macro_rules | `(tactic| walk_at "call type:range") => `(tactic| (k_here; (rename Fr _ _ _ _ => rgF); (rename News _ _ _ _ => rgN); (with_unfolding_all refine range1_rows rgF rgN ?_); intro rh rtk rt1 ru1 rv1 rIs rF rN rk; clear rgF rgN rk))
local macro_rules | `(tactic| walk_at "pyIter ref") => `(tactic| (k_here; refine Halt.go ?_))
theorem ne_map {I : Addr} {l l' : List (Addr × Obj)} (e : l'.map (·.1) = l.map (·.1)) (h : ∀ p ∈ l, p.1 ≠ I) : ∀ p ∈ l', p.1 ≠ I := fun p hp q => by
  have h1 : p.1 ∈ l.map (·.1) := e ▸ List.mem_map_of_mem hp
  obtain ⟨r, hr, e1⟩ := List.mem_map.mp h1
  exact h r hr (e1.trans q)
theorem withVal {G h : Heap} {L vl : Addr} {vvs : List Value} {x : Int} {t : Tok} {ep : Nat} {a b c : Addr × Obj} {r : List (Addr × Obj)} (_ : News G L h (a :: b :: c :: (vl, listOf (vvs ++ [Value.int x t]).toArray ep) :: r)) {P : Prop} (k : ∀ x' t', x = x' → t = t' → P) : P := k x t rfl rfl
structure VS where
  ob : Obj
  leaf : Int
  t : Tok
  vvs : List Value
  vns : List Int
  ep : Nat
set_option maxRecDepth 100000 in
set_option maxHeartbeats 8000000 in
theorem segB {w : World} {G : Heap} {L fa l vl pl bk : Addr} {s : Shared} {ws : List Value} {wns : List Int} {p : Program} {loose : List Str} {mean : ExcName → Option Value} {mg mb : Str → Option Value} {c1 cg c3 c4 cw ob : Obj} {g wv md leaf : Int} {tg tw tmd tlf : Tok} {Q : Flow → Shared → Prop} {R₁ : Value → Shared → Prop} {u₀ : Str → Option Value}
    (zB : Below callerA G [] G) (zX : (hd.heap_39 w.params).In G) (zT : Top p loose mean mg mb G) (zI : IntsAre ws wns) (z1 : wns.length ≤ 40)
    (zF : Fr G L s.heap (kstB u₀ [(Str.ofString "values", .ref vl), (Str.ofString "middle", .int md tmd), (Str.ofString "book", .ref bk), (Str.ofString "script", .ref l)]))
    (hcw : cw.data = .cell (some (.int wv tw))) (hc4 : c4.data = .cell none) (hc3 : c3.data = .cell none) (hcg : cg.data = .cell (some (.int g tg))) (hc1 : c1.data = .cell none)
    (zH1 : CodeHd G 331 327) (zH2 : CodeHd G 387 383)
    (zN : News G L s.heap [(vl, listOf #[] 0), (pl, listOf ws.toArray 0), (bk, ob), (L + 1 + 1 + 1 + 1 + 1, cw), (L + 1 + 1 + 1 + 1, c4), (L + 1 + 1 + 1, c3), (L + 1 + 1, cg), (L + 1, c1), (327, tabObj #[]), (383, tabObj #[])]) (z0 : @LT.lt Nat _ 327 L ∧ @LT.lt Nat _ 383 L)
    (a1 : @LT.lt Nat _ (L + 1 + 1 + 1 + 1 + 1) bk) (a2 : @LT.lt Nat _ bk pl) (a3 : @LT.lt Nat _ pl vl)
    (hb : Obj.IsDictOf (PySem.strKind PR w) ob [(Str.ofString "pages", .ref pl), (Str.ofString "leaf", .int leaf tlf)]) (h0 : 0 ≤ leaf)
    (hC : ∀ h' tk vvs vns ep ob' leaf' t' (u : Str → Option Value), Fr G L h' (kstB u [(Str.ofString "values", .ref vl), (Str.ofString "middle", .int md tmd), (Str.ofString "book", .ref bk), (Str.ofString "script", .ref l)]) →
      News G L h' [(vl, listOf vvs.toArray ep), (pl, listOf ws.toArray 0), (bk, ob'), (L + 1 + 1 + 1 + 1 + 1, cw), (L + 1 + 1 + 1 + 1, c4), (L + 1 + 1 + 1, c3), (L + 1 + 1, cg), (L + 1, c1), (327, tabObj #[]), (383, tabObj #[])] →
      Obj.IsDictOf (PySem.strKind PR w) ob' [(Str.ofString "pages", .ref pl), (Str.ofString "leaf", .int leaf' t')] → 0 ≤ leaf' → IntsAre vvs vns → vns.length ≤ 6 → 0 < vns.length → (∀ x ∈ vns, -32000 ≤ x ∧ x ≤ 32000) →
      wpAny (model PR w) (callerA.deeper (lawEnv L fa)) (execs [lawS6, lawS7, lawS8, lawS9, lawS10, lawS11, lawS12] (lawEnv L fa)) Q (fun e s' => wpAny (model PR w) (callerA.deeper (lawEnv L fa)) (leaving (lawEnv L fa) e) (fun _ s'' => R₁ e s'') (fun e' s'' => R₁ e' s'') s') { s with heap := h', toks := tk }) :
    wpAny (model PR w) (callerA.deeper (lawEnv L fa)) (execs [lawS5, lawS6, lawS7, lawS8, lawS9, lawS10, lawS11, lawS12] (lawEnv L fa)) Q (fun e s' => wpAny (model PR w) (callerA.deeper (lawEnv L fa)) (leaving (lawEnv L fa) e) (fun _ s'' => R₁ e s'') (fun e' s'' => R₁ e' s'') s') s := by
  delta lawS5
  delta valOf
  refine wpAny_execs_cons ?_
  (try k_fold)
  k_steps
  refine ⟨?_⟩
  (rename Fr _ _ _ _ => lF')
  (rename News _ _ _ _ => lN')
  (rename IsRange _ _ _ _ _ _ _ _ => lR')
  (with_reducible rename Obj.IsDictOf _ _ _ => hdd)
  (with_unfolding_all refine' range1 (σ := VS) (fun c => [(vl, listOf c.vvs.toArray c.ep), (pl, listOf ws.toArray 0), (bk, c.ob), (L + 1 + 1 + 1 + 1 + 1, cw), (L + 1 + 1 + 1 + 1, c4), (L + 1 + 1 + 1, c3), (L + 1 + 1, cg), (L + 1, c1), (327, tabObj #[]), (383, tabObj #[])]) (fun _ => []) (fun c => Obj.IsDictOf (PySem.strKind PR w) c.ob [(Str.ofString "pages", .ref pl), (Str.ofString "leaf", .int c.leaf c.t)] ∧ IntsAre c.vvs c.vns) [Str.ofString "far"] (fun i c => c.vns.length = i ∧ 0 ≤ c.leaf ∧ ∀ x ∈ c.vns, -32000 ≤ x ∧ x ≤ 32000) ⟨_, _, _, [], [], 0⟩ rfl lR' ?ks (rangeSize_nat _ _) lF' ?kn ?kf ?kk ?kp ?_ ?_)
  case ks => exact small_one (by omega) (by omega) (by omega) (by omega)
  case kn => exact lN'
  case kf => exact ⟨by dsimp only; exact hdd, .nil⟩
  case kk => exact fun _ h => nomatch h
  case kp => exact ⟨rfl, by assumption, fun _ h => nomatch h⟩
  rotate_left
  · rintro ⟨ob', leaf', t', vvs, vns, ep'⟩ u h tk ⟨hb', hI'⟩ ⟨hlen', h0', hr'⟩ F₁ N₁
    dsimp only at hb' hI' hlen' h0' hr' F₁ N₁
    exact hC h tk vvs vns ep' ob' leaf' t' _ (toKst _ (by kst_all) F₁) N₁ hb' h0' hI' (by omega) (by omega) hr'
  clear lF' lN' lR' hdd
  rintro ⟨ob', leaf', t', vvs, vns, ep'⟩ i k tk0 u h tk I oI hi hne ⟨hb', hI'⟩ ⟨hlen', h0', hr'⟩ F₁ N₁
  dsimp only at hb' hI' hlen' h0' hr' F₁ N₁ hne
  have hne1 : @Ne Nat vl I := hne _ (.head _)
  have hne2 : @Ne Nat bk I := hne _ (.tail _ (.tail _ (.head _)))
  have hne3 : @Ne Nat pl I := hne _ (.tail _ (.head _))
  have hneL := hne
  have hi6 : i < 6 := by omega
  clear hne
  obtain ⟨x0, zDB⟩ := DB.ofDist (Dist.consNe (DB.up (DB.up (DB.up (DB.base z0) a1) a2) a3).dist hneL rfl)
  revert hneL zDB
  (try k_fold)
  intro hneL zDB
  k_steps
  all_goals (
    (rename Fr G L _ _ => lF')
    (rename News G L _ _ => lN')
    (with_reducible rename Obj.IsDictOf _ _ _ => hdd)
    simp only [List.push_toArray] at lN'
    dsimp only [RgPost]
    unfold RgEnd
    refine withVal lN' fun x t ex et => ?_
    rw [ex, et] at lN'
    refine' ⟨(⟨_, _, _, vvs ++ [.int x t], vns ++ [x], _⟩ : VS), _, _, _, _, rfl, lF', lN', ?e1, (fun q hq => List.mem_cons_of_mem _ (List.mem_cons_of_mem _ (List.mem_cons_of_mem _ hq))), ?e2, ?e3, ?e6, ?e4, ?e5⟩
    case e6 => exact fun _ h => nomatch h
    case e1 => exact .tail _ (.tail _ (.head _))
    case e3 => exact ⟨by dsimp only; exact hdd, hI'.append (.cons _ _ .nil)⟩
    case e2 => exact ne_map (l := [(vl, W.listOf vvs.toArray ep'), (pl, W.listOf ws.toArray 0), (bk, ob'), (L + 1 + 1 + 1 + 1 + 1, cw), (L + 1 + 1 + 1 + 1, c4), (L + 1 + 1 + 1, c3), (L + 1 + 1, cg), (L + 1, c1), (327, tabObj #[]), (383, tabObj #[])]) rfl hneL
    case e4 =>
      intro z h1 h2 h3
      (simp only [List.contains_cons, List.contains_nil, Bool.or_false, beq_eq_false_iff_ne, ne_eq] at h3)
      simp [h1, h3, kstB]
    case e5 =>
      refine ⟨by simp [hlen'], by dsimp only; assumption, fun x hx => ?_⟩
      rcases List.mem_append.mp hx with hx | hx
      · exact hr' x hx
      · rw [List.mem_singleton.mp hx, ← ex]
        constructor <;> (repeat' split) <;> omega)
section
theorem freshCC2 : True := by
  w_top off
  trivial
local macro_rules | `(tactic| walk_at "eval Lambda") => `(tactic| (k_here; (try ((with_reducible rename True ∧ True => hFl); clear hFl; (with_reducible rename News _ _ _ _ => zN9); generalize hoC : dictOf _ 10 = oC at zN9; generalize hoP : dictOf _ 12 = oP at zN9)); k_dflt (refine' kla_eval ?d0 ?_; (case d0 => exact rfl)); k_dflt (refine' lam_T ?lt_F ?lt_N ?lt_T ?lt_C ?lt_cd ?lt_U ?lt_t ?lt_n ?lt_cl ?_; (case lt_F | lt_N | lt_T => k_asm); (case lt_cd => exact rfl); (case lt_C => kn_code); (case lt_U => k_updF); (case lt_t => assumption); (case lt_n => decide); (case lt_cl => exact rfl); k_whole); intro f' c' oc' vs' t' ct' h' tk' ps' F' N' d1' d2' l1 l2 tb; (try dsimp only at N'); (try (generalize hoL : kla_obj _ _ _ _ _ _ _ _ _ = oL at N')); (try k_lt l1); (try k_lt2 l2)))
local macro_rules | `(tactic| walk_at "callWith ref") => `(tactic| (k_here; (with_reducible show wpAny _ _ (callWith _ (Value.ref 113) _ _ _) _ _ _); k_dflt (refine' callWith_K ?cw1 ?cw2 ?_; (case cw1 => k_asm); (case cw2 => k_is); k_whole)))
set_option maxRecDepth 100000 in
set_option maxHeartbeats 8000000 in
theorem segC {w : World} {G : Heap} {L fa l vl pl bk : Addr} {s : Shared} {ws vvs : List Value} {wns vns : List Int} {ep : Nat} {p : Program} {loose : List Str} {mean : ExcName → Option Value} {mg mb : Str → Option Value} {c1 cg c3 c4 cw ob : Obj} {g wv md leaf : Int} {tg tw tmd tlf : Tok} {Q : Flow → Shared → Prop} {R₁ : Value → Shared → Prop} {u : Str → Option Value}
    (zB : Below callerA G [] G) (zX : (hd.heap_39 w.params).In G) (zT : Top p loose mean mg mb G) (zI : IntsAre ws wns) (z1 : wns.length ≤ 40)
    (zF : Fr G L s.heap (kstB u [(Str.ofString "values", .ref vl), (Str.ofString "middle", .int md tmd), (Str.ofString "book", .ref bk), (Str.ofString "script", .ref l)]))
    (hcw : cw.data = .cell (some (.int wv tw))) (hc4 : c4.data = .cell none) (hc3 : c3.data = .cell none) (hcg : cg.data = .cell (some (.int g tg))) (hc1 : c1.data = .cell none)
    (zH1 : CodeHd G 331 327) (zH2 : CodeHd G 387 383)
    (zN : News G L s.heap [(vl, listOf vvs.toArray ep), (pl, listOf ws.toArray 0), (bk, ob), (L + 1 + 1 + 1 + 1 + 1, cw), (L + 1 + 1 + 1 + 1, c4), (L + 1 + 1 + 1, c3), (L + 1 + 1, cg), (L + 1, c1), (327, tabObj #[]), (383, tabObj #[])]) (z0 : @LT.lt Nat _ 327 L ∧ @LT.lt Nat _ 383 L)
    (a1 : @LT.lt Nat _ (L + 1 + 1 + 1 + 1 + 1) bk) (a2 : @LT.lt Nat _ bk pl) (a3 : @LT.lt Nat _ pl vl)
    (hb : Obj.IsDictOf (PySem.strKind PR w) ob [(Str.ofString "pages", .ref pl), (Str.ofString "leaf", .int leaf tlf)]) (h0 : 0 ≤ leaf)
    (hI : IntsAre vvs vns) (hlen : vns.length ≤ 6) (hpos : 0 < vns.length) (hr : ∀ x ∈ vns, -32000 ≤ x ∧ x ≤ 32000)
    (hQ : ∀ h' tk ps qs m', Fr G L h' m' → News G L h' [(327, tabObj ps), (383, tabObj qs)] → Q (.ret (.bool true)) { s with heap := h', toks := tk }) :
    wpAny (model PR w) (callerA.deeper (lawEnv L fa)) (execs [lawS6, lawS7, lawS8, lawS9, lawS10, lawS11, lawS12] (lawEnv L fa)) Q (fun e s' => wpAny (model PR w) (callerA.deeper (lawEnv L fa)) (leaving (lawEnv L fa) e) (fun _ s'' => R₁ e s'') (fun e' s'' => R₁ e' s'') s') s := by
  have tb0 : TabLn 0 (#[] : Array Value) := tabLn_nil
  have zDB := DB.up (DB.up (DB.up (DB.base z0) a1) a2) a3
  have hFlag : True ∧ True := ⟨trivial, trivial⟩
  delta lawS6 lawS7 lawS8 lawS9 lawS10 lawS11 lawS12
  delta valOf
  (try k_fold)
  k_steps
  refine ⟨?_⟩
  (with_reducible rename Fr G _ _ _ => zF)
  (with_reducible rename News G _ _ _ => zN)
  refine' segC_end ?g1 ?g2 ?g3 ?g4 ?g5 ?g6 ?g7 ?g8 zN zB zX zT hI hlen hpos hr zF ?hm ?m0 ?m1 ?m2 ?m3 ?m4 ?m5 ?m6 ?m7 ?m8 ?m9 ?m10 ?m11 ?v1 ?v2 ?v3 ?v4 ?x1 ?x2 ?x3 ?x4 ?x5 zH1 zH2 z0 ?r0 ?r1 ?r2 ?r3 ?r4 ?r5 ?r6 ?r7 ?r8 ?r9 ?r10 ?r11 ?r12 ?r13 ?r14 ?r15 ?r16 ?r17 ?r18 ?r19 ?r20 ?r21 ?r22 ?r23 ?r24 ?r25 ?r26 ?r27 ?r28 ?r29 ?r30 ?r31 ?r32 ?r33 ?r34 ?r35 ?hq
  case g1 => first | assumption | k_dflt assumption
  case g2 => first | assumption | k_dflt assumption
  case g3 => first | assumption | k_dflt assumption
  case g4 => first | assumption | k_dflt assumption
  case g5 => first | assumption | k_dflt assumption
  case g6 => first | assumption | k_dflt assumption
  case g7 => first | assumption | k_dflt assumption
  case g8 => first | assumption | k_dflt assumption
  case hm => kst_all
  case m0 => assumption
  case m1 => assumption
  case m2 => assumption
  case m3 => assumption
  case m4 => assumption
  case m5 => assumption
  case m6 => assumption
  case m7 => assumption
  case m8 => assumption
  case m9 => assumption
  case m10 => assumption
  case m11 => assumption
  case v1 => exact ⟨_, _, by assumption, by assumption⟩
  case v2 => exact ⟨_, _, by assumption, by assumption⟩
  case v3 => first | assumption | k_dflt assumption
  case v4 => first | assumption | k_dflt assumption
  case x1 => assumption
  case x2 => assumption
  case x3 => assumption
  case x4 => assumption
  case x5 => assumption
  case r0 => first | assumption | (apply And.left; assumption)
  case r1 => first | assumption | (apply And.left; assumption)
  case r2 => first | assumption | (apply And.left; assumption)
  case r3 => first | assumption | (apply And.left; assumption)
  case r4 => first | assumption | (apply And.left; assumption)
  case r5 => first | assumption | (apply And.left; assumption)
  case r6 => exact Nat.lt_succ_of_lt (by assumption)
  case r7 => exact Nat.lt_succ_self _
  case r8 => first | assumption | (apply And.left; assumption)
  case r9 => first | assumption | (apply And.left; assumption)
  case r10 => first | assumption | (apply And.left; assumption)
  case r11 => first | assumption | (apply And.left; assumption)
  case r12 => first | assumption | (apply And.left; assumption)
  case r13 => first | assumption | (apply And.left; assumption)
  case r14 => first | assumption | (apply And.left; assumption)
  case r15 => first | assumption | (apply And.left; assumption)
  case r16 => first | assumption | (apply And.left; assumption)
  case r17 => first | assumption | (apply And.left; assumption)
  case r18 => first | assumption | (apply And.left; assumption)
  case r19 => first | assumption | (apply And.left; assumption)
  case r20 => first | assumption | (apply And.left; assumption)
  case r21 => first | assumption | (apply And.left; assumption)
  case r22 => first | assumption | (apply And.left; assumption)
  case r23 => first | assumption | (apply And.left; assumption)
  case r24 => first | assumption | (apply And.left; assumption)
  case r25 => first | assumption | (apply And.left; assumption)
  case r26 => first | assumption | (apply And.left; assumption)
  case r27 => first | assumption | (apply And.left; assumption)
  case r28 => first | assumption | (apply And.left; assumption)
  case r29 => first | assumption | (apply And.left; assumption)
  case r30 => first | assumption | (apply And.left; assumption)
  case r31 => first | assumption | (apply And.left; assumption)
  case r32 => first | assumption | (apply And.left; assumption)
  case r33 => first | assumption | (apply And.left; assumption)
  case r34 => first | assumption | (apply And.left; assumption)
  case r35 => first | assumption | (apply And.left; assumption)
  case hq => exact hQ
end
section
theorem freshCA : True := by
  w_top off
  trivial
theorem pickB {h₀ h : Heap} {L : Addr} {x0 x1 x2 x3 x4 : Addr × Obj} {r : List (Addr × Obj)} (N : News h₀ L h (x0 :: x1 :: x2 :: x3 :: x4 :: r)) : News h₀ L h (x0 :: x3 :: x4 :: r) := fun q hq => N q (by
  simp only [List.mem_cons] at hq ⊢
  rcases hq with h | h | h | h <;> simp [h])
set_option maxRecDepth 100000 in
set_option maxHeartbeats 8000000 in
theorem law_core {w : World} {G : Heap} {L fa l : Addr} {s : Shared} {vs : List Value} {ns : List Int} {p : Program} {loose : List Str} {mean : ExcName → Option Value} {mg mb : Str → Option Value} {c1 c2 c3 c4 c5 : Obj} {Q : Flow → Shared → Prop} {R₁ : Value → Shared → Prop}
    (zB : Below callerA G [] G) (zX : (hd.heap_39 w.params).In G) (zT : Top p loose mean mg mb G) (zL : G.IsList l vs.toArray) (zI : IntsAre vs ns) (z1 : ns.length ≤ 63)
    (zF : Fr G L s.heap (kstB (fun _ => none) [(Str.ofString "script", .ref l)]))
    (hc5 : c5.data = .cell none) (hc4 : c4.data = .cell none) (hc3 : c3.data = .cell none) (hc2 : c2.data = .cell none) (hc1 : c1.data = .cell none)
    (zH1 : CodeHd G 331 327) (zH2 : CodeHd G 387 383)
    (zN : News G L s.heap [(L + 1 + 1 + 1 + 1 + 1, c5), (L + 1 + 1 + 1 + 1, c4), (L + 1 + 1 + 1, c3), (L + 1 + 1, c2), (L + 1, c1), (327, tabObj #[]), (383, tabObj #[])]) (z0 : @LT.lt Nat _ 327 L ∧ @LT.lt Nat _ 383 L)
    (hQ : ∀ h' tk ps qs m', Fr G L h' m' → News G L h' [(327, tabObj ps), (383, tabObj qs)] → Q (.ret (.bool true)) { s with heap := h', toks := tk }) :
    wpAny (model PR w) (callerA.deeper (lawEnv L fa)) (execs [lawS0, lawS1, lawS2, lawS3, lawS4, lawS5, lawS6, lawS7, lawS8, lawS9, lawS10, lawS11, lawS12] (lawEnv L fa)) Q (fun e s' => wpAny (model PR w) (callerA.deeper (lawEnv L fa)) (leaving (lawEnv L fa) e) (fun _ s'' => R₁ e s'') (fun e' s'' => R₁ e' s'') s') s := by
  delta lawS0 lawS1 lawS2 lawS3 lawS4 lawS5
  delta valOf
  have zDB := DB.base z0
  (try k_fold)
  k_steps
  refine ⟨?_⟩
  (with_reducible rename Fr G _ _ _ => zF)
  (with_reducible rename News G _ _ _ => zN)
  (with_reducible rename Obj.IsDictOf _ _ _ => hdd)
  (with_reducible rename IntsAre _ _ => hI')
  refine' segB (R₁ := R₁) zB zX zT hI' ?b1 (toKst _ ?b2 zF) ?b3 ?b4 ?b5 ?b6 ?b7 zH1 zH2 (pickB zN) z0 ?b8 ?b9 ?b10 hdd ?b11 ?b12
  case b2 => kst_all
  case b1 =>
    rw [List.length_take]
    omega
  case b3 => assumption
  case b4 => assumption
  case b5 => assumption
  case b6 => assumption
  case b7 => assumption
  case b8 => first | assumption | exact DB.lt (by with_reducible assumption) (by repeat (first | exact List.Mem.head _ | refine List.Mem.tail _ ?_)) | (apply And.left; assumption)
  case b9 => first | assumption | exact DB.lt (by with_reducible assumption) (by repeat (first | exact List.Mem.head _ | refine List.Mem.tail _ ?_)) | (apply And.left; assumption)
  case b10 => first | assumption | exact DB.lt (by with_reducible assumption) (by repeat (first | exact List.Mem.head _ | refine List.Mem.tail _ ?_)) | (apply And.left; apply And.right; apply And.right; assumption)
  case b11 => assumption
  case b12 =>
    intro h2 tk2 vvs vns ep ob2 leaf2 t2 u F2 N2 hb2 h02 hI2 hl2 hp2 hr2
    refine' segC (R₁ := R₁) zB zX zT hI' ?c1 F2 ?c2 hc4 hc3 ?c3 hc1 zH1 zH2 N2 z0 ?c4 ?c5 ?c6 hb2 h02 hI2 hl2 hp2 hr2 (fun h' tk ps qs m' F' N' => hQ h' tk ps qs m' F' N')
    case c1 =>
      rw [List.length_take]
      omega
    case c2 => assumption
    case c3 => assumption
    case c4 => first | assumption | exact DB.lt (by with_reducible assumption) (by repeat (first | exact List.Mem.head _ | refine List.Mem.tail _ ?_)) | (apply And.left; assumption)
    case c5 => first | assumption | exact DB.lt (by with_reducible assumption) (by repeat (first | exact List.Mem.head _ | refine List.Mem.tail _ ?_)) | (apply And.left; assumption)
    case c6 => first | assumption | exact DB.lt (by with_reducible assumption) (by repeat (first | exact List.Mem.head _ | refine List.Mem.tail _ ?_)) | (apply And.left; apply And.right; apply And.right; assumption)
end
end
set_option maxRecDepth 100000 in
set_option maxHeartbeats 8000000 in
theorem t1 : PySem.Challenge.rw_pf0102_01.Holds := by
  w_on
  refine holds_law said_here fun said => ?_
  refine holds_open (q := viewQ) (loose := looseQ) (Xt := xtQ) (XP := XL viewQ readQ) (Yf := (kHook hd.heap_39 keysK keys_ok).obs) (Ya := (kHook hd.heap_39 keysK keys_ok).val) (YP := (kHook hd.heap_39 keysK keys_ok).says) (N := 5294) left (Hook.of _) (Hook.keeps _) (fun s e => xl_of s (Bool.and_eq_true_iff.mp e).1) XL.keeps (by rfl) (by rfl) (by rfl) (fun s e => recFacts_of (Bool.and_eq_true_iff.mp e).2) (by rfl) said ok_here ⟨rfl, rfl, rfl, rfl, rfl, by decide +kernel⟩ ?hw ?hc
  case hw => w_witness2
  k_go0
  (with_reducible rename Fr _ _ _ _ => zF)
  (with_reducible rename News _ _ _ _ => zN)
  (with_reducible rename Top _ _ _ _ _ (ghostOf _ _) => zT)
  (with_reducible rename Frag.In _ (ghostOf _ _) => zX)
  (with_reducible rename Below _ _ _ _ => zB)
  (with_reducible rename Heap.IsList (ghostOf _ _) _ _ => zL)
  (with_reducible rename IntsAre _ _ => zI)
  rename _ ∧ _ => z0
  rename ¬ _ => z1
  refine law_core (R₁ := _) zB zX zT zL zI (by omega) zF (by assumption) (by assumption) (by assumption) (by assumption) (by assumption) (by assumption) (by assumption) zN ⟨z0.1, by first | exact z0.2.1 | exact z0.2⟩ fun h' tk ps qs m' F' N' => ?_
  clear zF zN
  k_steps
  (all_goals (try k_data))
  all_goals w_report
end Mine
theorem PySem.Challenge.cw_pf0102_01_holds : PySem.Challenge.rw_pf0102_01.Holds :=
  Mine.t1
