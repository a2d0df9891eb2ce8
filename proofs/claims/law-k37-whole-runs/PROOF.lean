import PyProof.Rows.All
import Wide.All
import OpenK.AllK
import Wide.FinOn
import HandS.ForMost
import HandS.ForExc
import HandS.ExcInit
import HandS.Defaults
import HandS.HeadHook1
import HandS.HeadHook2
import HandS.ClsMeth
import HandS.Conv
import HandS.TupMul
import HandS.IsInst
import HandS.ExcIs
import HandS.ExcField
import HandS.CallSlots
import HandS.Flow
import HandS.Nested
import HandS.Evl
import KE.KExcSuper
import HandS.Comp
import HandS.Text
import HandS.WordsDict
import HandS.Iter
import HandS.GenList
import HandS.IterNext
import HandS.Words
import KE.KDictKeyed
import KE.KeyNested
import HandS.Star
import HandS.SetFor
import HandS.MakeKwOnly
import HandS.Head0
import HandS.Head1
import HandS.Head2
import HandS.HeadEnd
import Lean
import PySem.Challenge.RW_latelink_k37_whole_runs
set_option Elab.async false
set_option linter.all false
set_option maxRecDepth 100000
set_option maxHeartbeats 4000000
/-! Standings in plain Lean. -/
namespace Lk
def ab (i : Int) : Int := if i < 0 then -i else i
def gi (l : List Int) (i : Int) : Int := l.getD i.toNat 0
def gb (l : List Bool) (i : Int) : Bool := l.getD i.toNat false
theorem gi_some {l : List Int} {i : Int} (h0 : 0 ≤ i) (h : i < l.length) : l[i.toNat]? = some (gi l i) := by
  have : i.toNat < l.length := by omega
  unfold gi
  rw [List.getD_eq_getElem?_getD, List.getElem?_eq_getElem this]; rfl
theorem gb_some {l : List Bool} {i : Int} (h0 : 0 ≤ i) (h : i < l.length) : l[i.toNat]? = some (gb l i) := by
  have : i.toNat < l.length := by omega
  unfold gb
  rw [List.getD_eq_getElem?_getD, List.getElem?_eq_getElem this]; rfl
theorem gi_set {l : List Int} {i j v : Int} (hi : 0 ≤ i) (hj : 0 ≤ j) (hl : i < l.length) : gi (l.set i.toNat v) j = if j = i then v else gi l j := by
  unfold gi
  rw [List.getD_eq_getElem?_getD, List.getD_eq_getElem?_getD, List.getElem?_set]
  have h1 : i.toNat < l.length := by omega
  by_cases e : j = i
  · subst e; rw [if_pos rfl, if_pos h1, if_pos rfl]; rfl
  · rw [if_neg (by omega), if_neg e]
theorem gb_set {l : List Bool} {i j : Int} {v : Bool} (hi : 0 ≤ i) (hj : 0 ≤ j) (hl : i < l.length) : gb (l.set i.toNat v) j = if j = i then v else gb l j := by
  unfold gb
  rw [List.getD_eq_getElem?_getD, List.getD_eq_getElem?_getD, List.getElem?_set]
  have h1 : i.toNat < l.length := by omega
  by_cases e : j = i
  · subst e; rw [if_pos rfl, if_pos h1, if_pos rfl]; rfl
  · rw [if_neg (by omega), if_neg e]
theorem gi_ext {l m : List Int} (h : l.length = m.length) (e : ∀ j : Int, 0 ≤ j → j < l.length → gi l j = gi m j) : l = m := by
  apply List.ext_getElem h
  intro i h1 h2
  have := e (i : Int) (by omega) (by omega)
  unfold gi at this
  rw [List.getD_eq_getElem?_getD, List.getD_eq_getElem?_getD] at this
  simpa [h1, h2] using this
theorem gb_ext {l m : List Bool} (h : l.length = m.length) (e : ∀ j : Int, 0 ≤ j → j < l.length → gb l j = gb m j) : l = m := by
  apply List.ext_getElem h
  intro i h1 h2
  have := e (i : Int) (by omega) (by omega)
  unfold gb at this
  rw [List.getD_eq_getElem?_getD, List.getD_eq_getElem?_getD] at this
  simpa [h1, h2] using this
/-- a standing -/
structure Sg where
  L : List Int
  R : List Int
  F : List Bool
def Sg.whole (n : Nat) : Sg := ⟨(List.range (n + 2)).map fun k : Nat => (k : Int) - 1, (List.range (n + 2)).map fun k : Nat => (k : Int) + 1, List.replicate (n + 2) false⟩
structure Wf (n : Nat) (s : Sg) : Prop where
  lL : s.L.length = n + 2
  lR : s.R.length = n + 2
  lF : s.F.length = n + 2
  bl : ∀ x : Int, 1 ≤ x → x ≤ n → 0 ≤ gi s.L x ∧ gi s.L x < x
  br : ∀ x : Int, 1 ≤ x → x ≤ n → x < gi s.R x ∧ gi s.R x ≤ n + 1
  f0 : gb s.F 0 = false
  fn : gb s.F (n + 1) = false
def lo (s : Sg) (op : Int) : Int := gi s.L (ab op)
def hi (s : Sg) (op : Int) : Int := gi s.R (ab op)
def Sg.app (s : Sg) (op : Int) : Sg :=
  ⟨s.L.set (hi s op).toNat (if op < 0 then lo s op else ab op), s.R.set (lo s op).toNat (if op < 0 then hi s op else ab op), s.F.set (ab op).toNat (decide (op < 0))⟩
/-- an operation of a list of size n -/
def IsOp (n : Nat) (op : Int) : Prop := 1 ≤ ab op ∧ ab op ≤ n
theorem IsOp.ne {n : Nat} {op : Int} (h : IsOp n op) : op ≠ 0 := fun e => by subst e; exact absurd h.1 (by decide)
theorem ab_neg {op : Int} (h : op < 0) : ab op = -op := if_pos h
theorem ab_pos {op : Int} (h : ¬ op < 0) : ab op = op := if_neg h
theorem Wf.lo0 {n : Nat} {s : Sg} (W : Wf n s) {op : Int} (h : IsOp n op) : 0 ≤ lo s op ∧ lo s op < ab op := W.bl _ h.1 h.2
theorem Wf.hi0 {n : Nat} {s : Sg} (W : Wf n s) {op : Int} (h : IsOp n op) : ab op < hi s op ∧ hi s op ≤ n + 1 := W.br _ h.1 h.2
section
variable {n : Nat} {s : Sg} {op : Int}
theorem app_L (W : Wf n s) (h : IsOp n op) {j : Int} (hj : 0 ≤ j) : gi (s.app op).L j = if j = hi s op then (if op < 0 then lo s op else ab op) else gi s.L j := by
  have h1 := W.hi0 h; have h2 := h.1
  exact gi_set (by omega) hj (by rw [W.lL]; omega)
theorem app_R (W : Wf n s) (h : IsOp n op) {j : Int} (hj : 0 ≤ j) : gi (s.app op).R j = if j = lo s op then (if op < 0 then hi s op else ab op) else gi s.R j := by
  have h1 := W.lo0 h; have h2 := h.2
  exact gi_set (by omega) hj (by rw [W.lR]; omega)
theorem app_F (W : Wf n s) (h : IsOp n op) {j : Int} (hj : 0 ≤ j) : gb (s.app op).F j = if j = ab op then decide (op < 0) else gb s.F j := by
  have h1 := h.1; have h2 := h.2
  exact gb_set (by omega) hj (by rw [W.lF]; omega)
theorem Wf.app (W : Wf n s) (h : IsOp n op) : Wf n (s.app op) := by
  have h1 := W.lo0 h; have h2 := W.hi0 h; have h3 := h.1; have h4 := h.2
  refine ⟨by simp [Sg.app, W.lL], by simp [Sg.app, W.lR], by simp [Sg.app, W.lF], fun x x1 x2 => ?_, fun x x1 x2 => ?_, ?_, ?_⟩
  · rw [app_L W h (by omega)]
    have := W.bl x x1 x2
    split
    · split <;> omega
    · exact this
  · rw [app_R W h (by omega)]
    have := W.br x x1 x2
    split
    · split <;> omega
    · exact this
  · rw [app_F W h (by omega), if_neg (by omega)]; exact W.f0
  · rw [app_F W h (by omega), if_neg (by omega)]; exact W.fn
end
theorem gi_range (n : Nat) (f : Nat → Int) {j : Int} (h0 : 0 ≤ j) (h1 : j < n) : gi ((List.range n).map f) j = f j.toNat := by
  unfold gi
  have : j.toNat < n := by omega
  rw [List.getD_eq_getElem?_getD, List.getElem?_map, List.getElem?_range this]; rfl
theorem whole_L {n : Nat} {j : Int} (h0 : 0 ≤ j) (h1 : j ≤ n + 1) : gi (Sg.whole n).L j = j - 1 := by
  show gi ((List.range (n + 2)).map fun k : Nat => (k : Int) - 1) j = _
  rw [gi_range _ _ h0 (by omega)]; omega
theorem whole_R {n : Nat} {j : Int} (h0 : 0 ≤ j) (h1 : j ≤ n + 1) : gi (Sg.whole n).R j = j + 1 := by
  show gi ((List.range (n + 2)).map fun k : Nat => (k : Int) + 1) j = _
  rw [gi_range _ _ h0 (by omega)]; omega
theorem whole_F {n : Nat} {j : Int} : gb (Sg.whole n).F j = false := by
  show gb (List.replicate (n + 2) false) j = _
  unfold gb
  rw [List.getD_eq_getElem?_getD, List.getElem?_replicate]; split <;> rfl
theorem wf_whole (n : Nat) : Wf n (Sg.whole n) := by
  refine ⟨by simp [Sg.whole], by simp [Sg.whole], by simp [Sg.whole], fun x x1 x2 => ?_, fun x x1 x2 => ?_, whole_F, whole_F⟩
  · rw [whole_L (by omega) (by omega)]; omega
  · rw [whole_R (by omega) (by omega)]; omega
/-! ### refusals -/
/-- a foreign write at the gap of the left link, of the right link -/
def fgl (s : Sg) (op : Int) : Bool := decide (lo s op ≠ ab op - 1) && decide (gi s.R (lo s op) = lo s op + 1)
def fgr (s : Sg) (op : Int) : Bool := decide (hi s op ≠ ab op + 1) && decide (gi s.L (hi s op) = hi s op - 1)
def hl (s : Sg) (op : Int) : Bool := decide (gi s.L (lo s op + 1) = lo s op)
def hr (s : Sg) (op : Int) : Bool := decide (gi s.R (hi s op - 1) = hi s op)
def refS (s : Sg) (op : Int) : Bool := (fgl s op && !hl s op) || (fgr s op && !hr s op)
def refG (s : Sg) (op : Int) : Bool := (fgl s op && (!hl s op || !gb s.F (lo s op + 1))) || (fgr s op && (!hr s op || !gb s.F (hi s op - 1)))
def locl (s : Sg) (op : Int) : Bool := if gb s.F (lo s op) || gb s.F (hi s op) then false else
  if op < 0 then decide (gi s.R (lo s op) = ab op) && decide (gi s.L (hi s op) = ab op) else decide (gi s.R (lo s op) = hi s op) && decide (gi s.L (hi s op) = lo s op)
inductive Md where
  | free | saving | guarded | checked
  deriving DecidableEq
def ref (s : Sg) (op : Int) : Md → Bool
  | .free => false
  | .saving => refS s op
  | .guarded => refG s op
  | .checked => !locl s op
theorem refS_refG {s : Sg} {op : Int} (h : refS s op = true) : refG s op = true := by
  unfold refS at h; unfold refG
  simp only [Bool.or_eq_true, Bool.and_eq_true] at *
  rcases h with ⟨a, b⟩ | ⟨a, b⟩
  · exact .inl ⟨a, .inl b⟩
  · exact .inr ⟨a, .inl b⟩
/-- what the checked mode admits has no foreign write -/
theorem locl_fg {n : Nat} {s : Sg} {op : Int} (W : Wf n s) (h : IsOp n op) (l : locl s op = true) : fgl s op = false ∧ fgr s op = false := by
  have h1 := W.lo0 h; have h2 := W.hi0 h
  unfold locl at l
  split at l
  · cases l
  · unfold fgl fgr
    simp only [Bool.and_eq_false_iff, decide_eq_false_iff_not, Decidable.not_not]
    split at l
    all_goals
      simp only [Bool.and_eq_true, decide_eq_true_eq] at l
      omega
theorem locl_refG {n : Nat} {s : Sg} {op : Int} (W : Wf n s) (h : IsOp n op) (l : locl s op = true) : refG s op = false := by
  obtain ⟨a, b⟩ := locl_fg W h l
  unfold refG; rw [a, b]; rfl
theorem ref_chk {n : Nat} {s : Sg} {op : Int} (W : Wf n s) (h : IsOp n op) (l : ref s op .checked = false) : ref s op .guarded = false := by
  refine locl_refG W h ?_
  simpa [ref] using l
/-! ### the guarded mode -/
def jl (s : Sg) (v : Int) : Prop := gi s.R v = v + 1
def jr (s : Sg) (v : Int) : Prop := gi s.L (v + 1) = v
structure Gd (n : Nat) (s : Sg) : Prop where
  some : ∀ v : Int, 0 ≤ v → v ≤ n → jl s v ∨ jr s v
  left : ∀ v : Int, 0 ≤ v → v ≤ n → jl s v → ¬ jr s v → gb s.F v = true
  right : ∀ v : Int, 0 ≤ v → v ≤ n → jr s v → ¬ jl s v → gb s.F (v + 1) = true
  a0 : gi s.L 0 = -1
  an : gi s.R (n + 1) = n + 2
theorem gd_whole (n : Nat) : Gd n (Sg.whole n) := by
  have a : ∀ v : Int, 0 ≤ v → v ≤ n → jl (Sg.whole n) v := fun v h0 h1 => by unfold jl; exact whole_R h0 (by omega)
  have b : ∀ v : Int, 0 ≤ v → v ≤ n → jr (Sg.whole n) v := fun v h0 h1 => by unfold jr; rw [whole_L (by omega) (by omega)]; omega
  exact ⟨fun v h0 h1 => .inl (a v h0 h1), fun v h0 h1 _ z => absurd (b v h0 h1) z, fun v h0 h1 _ z => absurd (a v h0 h1) z, by rw [whole_L (by omega) (by omega)]; rfl, by rw [whole_R (by omega) (by omega)]; omega⟩
theorem Gd.app {n : Nat} {s : Sg} {op : Int} (W : Wf n s) (G : Gd n s) (h : IsOp n op) (hF : gb s.F (ab op) = decide (0 < op)) (hr' : refG s op = false) : Gd n (s.app op) := by
  have h1 := W.lo0 h; have h2 := W.hi0 h; have h3 := h.1; have h4 := h.2; have h5 := h.ne
  have hl1 : fgl s op = true → hl s op = true ∧ gb s.F (lo s op + 1) = true := fun z => by
    unfold refG at hr'; rw [z] at hr'
    simp only [Bool.true_and, Bool.or_eq_false_iff, Bool.not_eq_false'] at hr'
    exact hr'.1
  have hr1 : fgr s op = true → hr s op = true ∧ gb s.F (hi s op - 1) = true := fun z => by
    unfold refG at hr'; rw [z] at hr'
    simp only [Bool.true_and, Bool.or_eq_false_iff, Bool.not_eq_false'] at hr'
    exact hr'.2
  have eL : ∀ {j : Int}, 0 ≤ j → gi (s.app op).L j = if j = hi s op then (if op < 0 then lo s op else ab op) else gi s.L j := fun hj => app_L W h hj
  have eR : ∀ {j : Int}, 0 ≤ j → gi (s.app op).R j = if j = lo s op then (if op < 0 then hi s op else ab op) else gi s.R j := fun hj => app_R W h hj
  have eF : ∀ {j : Int}, 0 ≤ j → gb (s.app op).F j = if j = ab op then decide (op < 0) else gb s.F j := fun hj => app_F W h hj
  have key : ∀ v : Int, 0 ≤ v → v ≤ n → (jl (s.app op) v ∨ jr (s.app op) v) ∧ (jl (s.app op) v → ¬ jr (s.app op) v → gb (s.app op).F v = true) ∧ (jr (s.app op) v → ¬ jl (s.app op) v → gb (s.app op).F (v + 1) = true) := by
    intro v v0 v1
    have g1 := G.some v v0 v1
    have g2 := G.left v v0 v1
    have g3 := G.right v v0 v1
    unfold jl jr at *
    rw [eL (by omega), eR (by omega), eF (by omega), eF (by omega)]
    have elo : lo s op = gi s.L (ab op) := rfl
    have ehi : hi s op = gi s.R (ab op) := rfl
    by_cases a1 : v = lo s op
    · have a2 : ¬ v + 1 = hi s op := by omega
      have a3 : ¬ v = ab op := by omega
      rw [if_pos a1, if_neg a2, if_neg a3]
      by_cases a4 : lo s op = ab op - 1
      · -- x's own gap on the left
        have a5 : v + 1 = ab op := by omega
        rw [if_pos a5, a5]
        have a6 : gi s.L (ab op) = v := by omega
        rw [a6]
        by_cases a7 : op < 0
        · rw [if_pos a7]
          simp only [a7, decide_true]
          refine ⟨.inr (by first | trivial | rfl), fun z => ?_, fun _ _ => by first | trivial | rfl⟩
          omega
        · rw [if_neg a7]
          refine ⟨.inr rfl, fun _ z => absurd rfl z, fun _ z => ?_⟩
          exact absurd (by omega) z
      · have a5 : ¬ v + 1 = ab op := by omega
        rw [if_neg a5]
        have a6 : ¬ (if op < 0 then hi s op else ab op) = v + 1 := by split <;> omega
        by_cases a7 : gi s.R v = v + 1
        · have fg : fgl s op = true := by
            unfold fgl
            simp only [Bool.and_eq_true, decide_eq_true_eq]
            exact ⟨a4, by rw [← a1]; exact a7⟩
          obtain ⟨b1, b2⟩ := hl1 fg
          have b3 : gi s.L (lo s op + 1) = lo s op := by simpa [hl] using b1
          rw [← a1] at b2 b3
          exact ⟨.inr b3, fun z => absurd z a6, fun _ _ => b2⟩
        · rcases g1 with z | z
          · exact absurd z a7
          · exact ⟨.inr z, fun y => absurd y a6, fun _ _ => g3 z a7⟩
    · rw [if_neg a1]
      by_cases b1 : v + 1 = hi s op
      · rw [if_pos b1]
        have b2 : ¬ v + 1 = ab op := by omega
        rw [if_neg b2]
        by_cases a4 : hi s op = ab op + 1
        · have a5 : v = ab op := by omega
          rw [if_pos a5, a5]
          have a6 : gi s.R (ab op) = ab op + 1 := by omega
          rw [a6]
          by_cases a7 : op < 0
          · rw [if_pos a7]
            simp only [a7, decide_true]
            refine ⟨.inl (by first | trivial | rfl), fun _ _ => by first | trivial | rfl, fun z => ?_⟩
            omega
          · rw [if_neg a7]
            exact ⟨.inl rfl, fun _ z => absurd rfl z, fun _ z => absurd rfl z⟩
        · have a5 : ¬ v = ab op := by omega
          rw [if_neg a5]
          have a6 : ¬ (if op < 0 then lo s op else ab op) = v := by split <;> omega
          by_cases a7 : gi s.L (v + 1) = v
          · have fg : fgr s op = true := by
              unfold fgr
              simp only [Bool.and_eq_true, decide_eq_true_eq]
              exact ⟨a4, by rw [← b1]; omega⟩
            obtain ⟨c1, c2⟩ := hr1 fg
            have c3 : gi s.R (hi s op - 1) = hi s op := by simpa [hr] using c1
            have c4 : hi s op - 1 = v := by omega
            rw [c4] at c2 c3
            exact ⟨.inl (by omega), fun _ _ => c2, fun z => absurd z a6⟩
          · rcases g1 with z | z
            · exact ⟨.inl z, fun _ _ => g2 z a7, fun y => absurd y a6⟩
            · exact absurd z a7
      · rw [if_neg b1]
        refine ⟨g1, fun y z => ?_, fun y z => ?_⟩
        · have q := g2 y z
          by_cases c : v = ab op
          · -- x holds its right gap alone: then its right link is x + 1
            exfalso
            rw [c] at y
            omega
          · rw [if_neg c]; exact q
        · have q := g3 y z
          by_cases c : v + 1 = ab op
          · exfalso
            rw [c] at y
            omega
          · rw [if_neg c]; exact q
  refine ⟨fun v a b => (key v a b).1, fun v a b => (key v a b).2.1, fun v a b => (key v a b).2.2, ?_, ?_⟩
  · rw [eL (by omega), if_neg (by omega)]; exact G.a0
  · rw [eR (by omega), if_neg (by omega)]; exact G.an
/-- all in: whole -/
theorem Gd.end_ {n : Nat} {s : Sg} (W : Wf n s) (G : Gd n s) (h : ∀ j : Int, 0 ≤ j → j ≤ n + 1 → gb s.F j = false) : s = Sg.whole n := by
  have WW := wf_whole n
  have J : ∀ v : Int, 0 ≤ v → v ≤ n → jl s v ∧ jr s v := fun v a b => by
    have g1 := G.some v a b
    have g2 := G.left v a b
    have g3 := G.right v a b
    rw [h v a (by omega)] at g2
    rw [h (v + 1) (by omega) (by omega)] at g3
    by_cases c : jl s v <;> by_cases d : jr s v
    · exact ⟨c, d⟩
    · exact absurd (g2 c d) (by decide)
    · exact absurd (g3 d c) (by decide)
    · rcases g1 with z | z
      · exact absurd z c
      · exact absurd z d
  obtain ⟨L, R, F⟩ := s
  have e1 : L = (Sg.whole n).L := by
    refine gi_ext (by rw [WW.lL]; exact W.lL) fun j j0 j1 => ?_
    have : L.length = n + 2 := W.lL
    rw [whole_L j0 (by omega)]
    by_cases e : j = 0
    · subst e; exact G.a0
    · have := (J (j - 1) (by omega) (by omega)).2
      unfold jr at this
      rw [show j - 1 + 1 = j by omega] at this
      exact this
  have e2 : R = (Sg.whole n).R := by
    refine gi_ext (by rw [WW.lR]; exact W.lR) fun j j0 j1 => ?_
    have : R.length = n + 2 := W.lR
    rw [whole_R j0 (by omega)]
    by_cases e : j = n + 1
    · subst e
      have := G.an
      show gi R ((n : Int) + 1) = _
      have q : gi R ((n : Int) + 1) = n + 2 := this
      rw [q]; omega
    · exact (J j (by omega) (by omega)).1
  have e3 : F = (Sg.whole n).F := by
    refine gb_ext (by rw [WW.lF]; exact W.lF) fun j j0 j1 => ?_
    have : F.length = n + 2 := W.lF
    rw [whole_F]
    exact h j j0 (by omega)
  rw [e1, e2, e3]
end Lk

set_option maxHeartbeats 4000000
/-! The checked mode, programs, schedules. -/
namespace Lk
theorem in_below {F : List Bool} (f0 : gb F 0 = false) : ∀ k : Nat, ∃ a : Int, 0 ≤ a ∧ a < (k : Int) + 1 ∧ gb F a = false ∧ ∀ c : Int, a < c → c < (k : Int) + 1 → gb F c = true
  | 0 => ⟨0, by omega, by omega, f0, fun c _ _ => by omega⟩
  | k + 1 => by
    by_cases e : gb F ((k : Int) + 1) = false
    · exact ⟨k + 1, by omega, by omega, e, fun c _ _ => by omega⟩
    · obtain ⟨a, a0, a1, a2, a3⟩ := in_below f0 k
      refine ⟨a, a0, by omega, a2, fun c c0 c1 => ?_⟩
      by_cases q : c = (k : Int) + 1
      · rw [q]; simpa using e
      · exact a3 c c0 (by omega)
theorem in_above {F : List Bool} {N : Int} (fN : gb F N = false) : ∀ k : Nat, ∃ b : Int, b ≤ N ∧ N - (k : Int) - 1 < b ∧ gb F b = false ∧ ∀ c : Int, N - (k : Int) - 1 < c → c < b → gb F c = true
  | 0 => ⟨N, by omega, by omega, fN, fun c _ _ => by omega⟩
  | k + 1 => by
    by_cases e : gb F (N - ((k : Int) + 1)) = false
    · exact ⟨N - ((k : Int) + 1), by omega, by omega, e, fun c _ _ => by omega⟩
    · obtain ⟨b, a0, a1, a2, a3⟩ := in_above fN k
      refine ⟨b, a0, by omega, a2, fun c c0 c1 => ?_⟩
      by_cases q : c = N - ((k : Int) + 1)
      · rw [q]; simpa using e
      · exact a3 c (by omega) c1
/-- a standing of the checked mode; O: the nodes that are out, the one that was unlinked last at the end -/
structure Ck (n : Nat) (s : Sg) (O : List Int) : Prop where
  outs : ∀ x : Int, x ∈ O ↔ (1 ≤ x ∧ x ≤ n ∧ gb s.F x = true)
  nd : O.Nodup
  sound : ∀ a b : Int, 0 ≤ a → a < b → b ≤ n + 1 → gb s.F a = false → gb s.F b = false → (∀ c, a < c → c < b → gb s.F c = true) → gi s.R a = b ∧ gi s.L b = a
  B : ∀ y ∈ O, ∀ c, gi s.L y < c → c < gi s.R y → gb s.F c = true
  M : ∀ y ∈ O, ∀ z ∈ O, y ≠ z → ¬ (gi s.L y < z ∧ z < gi s.R y ∧ gi s.L z < y ∧ y < gi s.R z)
  N : O.Pairwise fun z y => gi s.L y ≠ z ∧ gi s.R y ≠ z
theorem ck_whole (n : Nat) : Ck n (Sg.whole n) [] := by
  refine ⟨fun x => ⟨fun h => by simp at h, fun h => by rw [whole_F] at h; exact absurd h.2.2 (by decide)⟩, List.nodup_nil, fun a b a0 ab b1 _ _ hc => ?_, fun y h => by simp at h, fun y h => by simp at h, .nil⟩
  have e : b = a + 1 := by
    by_cases q : a + 1 < b
    · have := hc (a + 1) (by omega) q
      rw [whole_F] at this; cases this
    · omega
  rw [whole_R a0 (by omega), whole_L (by omega) b1]
  omega
/-- the two neighbours of a node that is in -/
theorem Ck.near {n : Nat} {s : Sg} {O : List Int} (W : Wf n s) (C : Ck n s O) {x : Int} (x1 : 1 ≤ x) (xn : x ≤ n) (hx : gb s.F x = false) :
    gb s.F (gi s.L x) = false ∧ gb s.F (gi s.R x) = false ∧ gi s.R (gi s.L x) = x ∧ gi s.L (gi s.R x) = x ∧ (∀ c, gi s.L x < c → c < x → gb s.F c = true) ∧ (∀ c, x < c → c < gi s.R x → gb s.F c = true) := by
  obtain ⟨a, a0, a1, a2, a3⟩ := in_below W.f0 (x - 1).toNat
  obtain ⟨b, b0, b1, b2, b3⟩ := in_above W.fn ((n : Int) + 1 - x - 1).toNat
  have ea : (((x - 1).toNat : Nat) : Int) = x - 1 := by omega
  have eb : ((((n : Int) + 1 - x - 1).toNat : Nat) : Int) = n + 1 - x - 1 := by omega
  rw [ea] at a1 a3
  rw [eb] at b1 b3
  have s1 := C.sound a x a0 (by omega) (by omega) a2 hx fun c c0 c1 => a3 c c0 (by omega)
  have s2 := C.sound x b (by omega) (by omega) b0 hx b2 fun c c0 c1 => b3 c (by omega) c1
  rw [s1.2, s2.1]
  exact ⟨a2, b2, s1.1, s2.2, fun c c0 c1 => a3 c c0 (by omega), fun c c0 c1 => b3 c (by omega) c1⟩
theorem Ck.unlink {n : Nat} {s : Sg} {O : List Int} (W : Wf n s) (C : Ck n s O) {op : Int} (h : IsOp n op) (hn : op < 0) (hF : gb s.F (ab op) = false) : locl s op = true := by
  obtain ⟨a, b, c, d, _, _⟩ := C.near W h.1 h.2 hF
  unfold locl lo hi
  rw [a, b, if_pos hn, c, d]
  simp
theorem Ck.last {n : Nat} {s : Sg} {O : List Int} {y : Int} (W : Wf n s) (C : Ck n s (O ++ [y])) : locl s y = true := by
  have hy : y ∈ O ++ [y] := by simp
  obtain ⟨y1, yn, hF⟩ := (C.outs y).mp hy
  have ey : ab y = y := ab_pos (by omega)
  have l := W.bl y y1 yn
  have r := W.br y y1 yn
  have P := C.N
  rw [List.pairwise_append] at P
  have old : ∀ z ∈ O, gi s.L y ≠ z ∧ gi s.R y ≠ z := fun z hz => P.2.2 z hz y (by simp)
  have inn : ∀ z : Int, 0 ≤ z → z ≤ n + 1 → z ≠ y → (∀ w ∈ O, z ≠ w) → gb s.F z = false := fun z z0 z1 zy hz => by
    cases e : gb s.F z with
    | false => rfl
    | true =>
      exfalso
      have z2 : z ≠ 0 := fun q => by rw [q, W.f0] at e; cases e
      have z3 : z ≠ n + 1 := fun q => by rw [q, W.fn] at e; cases e
      have := (C.outs z).mpr ⟨by omega, by omega, e⟩
      rcases List.mem_append.mp this with m | m
      · exact hz z m rfl
      · exact zy (by simpa using m)
  have fl := inn (gi s.L y) l.1 (by omega) (by omega) fun w hw => (old w hw).1
  have fr := inn (gi s.R y) (by omega) r.2 (by omega) fun w hw => (old w hw).2
  have S := C.sound (gi s.L y) (gi s.R y) l.1 (by omega) r.2 fl fr (C.B y hy)
  unfold locl lo hi
  rw [ey, fl, fr, if_neg (by omega : ¬ y < 0), S.1, S.2]
  simp
/-- the outs behind an operation -/
def stepO (O : List Int) (op : Int) : List Int := if op < 0 then O ++ [ab op] else O.erase (ab op)
theorem Ck.app {n : Nat} {s : Sg} {O : List Int} {op : Int} (W : Wf n s) (C : Ck n s O) (h : IsOp n op) (hF : gb s.F (ab op) = decide (0 < op)) (l : locl s op = true) : Ck n (s.app op) (stepO O op) := by
  have h1 := W.lo0 h; have h2 := W.hi0 h; have h3 := h.1; have h4 := h.2; have h5 := h.ne
  have eL : ∀ {j : Int}, 0 ≤ j → gi (s.app op).L j = if j = hi s op then (if op < 0 then lo s op else ab op) else gi s.L j := fun hj => app_L W h hj
  have eR : ∀ {j : Int}, 0 ≤ j → gi (s.app op).R j = if j = lo s op then (if op < 0 then hi s op else ab op) else gi s.R j := fun hj => app_R W h hj
  have eF : ∀ {j : Int}, 0 ≤ j → gb (s.app op).F j = if j = ab op then decide (op < 0) else gb s.F j := fun hj => app_F W h hj
  have xl : gi s.L (ab op) = lo s op := rfl
  have xr : gi s.R (ab op) = hi s op := rfl
  unfold locl at l
  split at l
  · cases l
  rename_i fF
  have fl : gb s.F (lo s op) = false := by
    cases e : gb s.F (lo s op) with
    | false => rfl
    | true => rw [e] at fF; simp at fF
  have fr : gb s.F (hi s op) = false := by
    cases e : gb s.F (hi s op) with
    | false => rfl
    | true => rw [e] at fF; simp at fF
  -- the links of what is out stay
  have kL : ∀ y ∈ O, gi (s.app op).L y = gi s.L y := fun y hy => by
    obtain ⟨y1, y2, y3⟩ := (C.outs y).mp hy
    rw [eL (by omega), if_neg (fun q => by rw [q, fr] at y3; cases y3)]
  have kR : ∀ y ∈ O, gi (s.app op).R y = gi s.R y := fun y hy => by
    obtain ⟨y1, y2, y3⟩ := (C.outs y).mp hy
    rw [eR (by omega), if_neg (fun q => by rw [q, fl] at y3; cases y3)]
  have x'L : gi (s.app op).L (ab op) = lo s op := by rw [eL (by omega), if_neg (by omega)]; rfl
  have x'R : gi (s.app op).R (ab op) = hi s op := by rw [eR (by omega), if_neg (by omega)]; rfl
  by_cases hn : op < 0
  · rw [if_pos hn] at l
    simp only [Bool.and_eq_true, decide_eq_true_eq] at l
    have hx : gb s.F (ab op) = false := by rw [hF]; exact decide_eq_false (by omega)
    obtain ⟨_, _, _, _, nb, na⟩ := C.near W h3 h4 hx
    have eO : stepO O op = O ++ [ab op] := if_pos hn
    rw [eO]
    have xO : ab op ∉ O := fun m => by
      have := ((C.outs _).mp m).2.2
      rw [hx] at this; cases this
    refine ⟨fun x => ?_, ?_, fun a b a0 hab b1 fa fb hc => ?_, fun y hy c c0 c1 => ?_, fun y hy z hz hyz => ?_, ?_⟩
    · rw [List.mem_append, C.outs]
      constructor
      · rintro (⟨z1, z2, z3⟩ | z)
        · refine ⟨z1, z2, ?_⟩
          rw [eF (by omega)]
          split
          · exact decide_eq_true hn
          · exact z3
        · have z : x = ab op := by simpa using z
          rw [z]
          refine ⟨h3, h4, ?_⟩
          rw [eF (by omega), if_pos rfl]
          exact decide_eq_true hn
      · rintro ⟨z1, z2, z3⟩
        rw [eF (by omega)] at z3
        by_cases e : x = ab op
        · right; simp [e]
        · rw [if_neg e] at z3
          exact .inl ⟨z1, z2, z3⟩
    · rw [List.nodup_append]
      refine ⟨C.nd, by simp, fun a ha b hb => ?_⟩
      have hb : b = ab op := by simpa using hb
      rw [hb]
      exact fun e => xO (e ▸ ha)
    · rw [eF (by omega)] at fa fb
      have ax : a ≠ ab op := fun e => by rw [if_pos e, decide_eq_true hn] at fa; cases fa
      have bx : b ≠ ab op := fun e => by rw [if_pos e, decide_eq_true hn] at fb; cases fb
      rw [if_neg ax] at fa
      rw [if_neg bx] at fb
      have hc' : ∀ c, a < c → c < b → c ≠ ab op → gb s.F c = true := fun c c0 c1 c2 => by
        have := hc c c0 c1
        rw [eF (by omega), if_neg c2] at this
        exact this
      by_cases m : a < ab op ∧ ab op < b
      · have s1 := C.sound a (ab op) a0 m.1 (by omega) fa hx fun c c0 c1 => hc' c c0 (by omega) (by omega)
        have s2 := C.sound (ab op) b (by omega) m.2 b1 hx fb fun c c0 c1 => hc' c (by omega) c1 (by omega)
        have ea : a = lo s op := s1.2.symm
        have eb : b = hi s op := s2.1.symm
        rw [eR a0, eL (by omega), if_pos ea, if_pos eb, if_pos hn, if_pos hn]
        exact ⟨eb.symm, ea.symm⟩
      · have s1 := C.sound a b a0 hab b1 fa fb fun c c0 c1 => hc' c c0 c1 (by omega)
        rw [eR a0, eL (by omega)]
        rw [if_neg (fun e => bx (by rw [e] at s1; rw [← s1.1]; exact l.1)), if_neg (fun e => ax (by rw [e] at s1; rw [← s1.2]; exact l.2))]
        exact s1
    · rcases List.mem_append.mp hy with hy | hy
      · rw [kL y hy] at c0
        rw [kR y hy] at c1
        have := C.B y hy c c0 c1
        obtain ⟨y1, y2, y3⟩ := (C.outs y).mp hy
        have := W.bl y y1 y2
        rw [eF (by omega)]
        split
        · exact decide_eq_true hn
        · assumption
      · have e : y = ab op := by simpa using hy
        rw [e, x'L] at c0
        rw [e, x'R] at c1
        rw [eF (by omega)]
        split
        · exact decide_eq_true hn
        · rename_i q
          by_cases w : c < ab op
          · exact nb c c0 w
          · exact na c (by omega) c1
    · have ex : ∀ y ∈ O, ¬ (gi s.L y < ab op ∧ ab op < gi s.R y) := fun y hy q => by
        have := C.B y hy _ q.1 q.2
        rw [hx] at this; cases this
      rcases List.mem_append.mp hy with hy | hy <;> rcases List.mem_append.mp hz with hz | hz
      · rw [kL y hy, kR y hy, kL z hz, kR z hz]; exact C.M y hy z hz hyz
      · have e : z = ab op := by simpa using hz
        rw [kL y hy, kR y hy, e]
        exact fun q => ex y hy ⟨q.1, q.2.1⟩
      · have e : y = ab op := by simpa using hy
        rw [kL z hz, kR z hz, e]
        exact fun q => ex z hz ⟨q.2.2.1, q.2.2.2⟩
      · have e : y = ab op := by simpa using hy
        have e' : z = ab op := by simpa using hz
        exact absurd (e.trans e'.symm) hyz
    · rw [List.pairwise_append]
      refine ⟨C.N.imp_of_mem fun {z y} hz hy q => by rw [kL y hy, kR y hy]; exact q, by simp, fun z hz y hy => ?_⟩
      have e : y = ab op := by simpa using hy
      rw [e, x'L, x'R]
      obtain ⟨z1, z2, z3⟩ := (C.outs z).mp hz
      exact ⟨fun q => (by rw [← q, fl] at z3; cases z3), fun q => (by rw [← q, fr] at z3; cases z3)⟩
  · rw [if_neg hn] at l
    simp only [Bool.and_eq_true, decide_eq_true_eq] at l
    have hx : gb s.F (ab op) = true := by rw [hF]; exact decide_eq_true (by omega)
    have eO : stepO O op = O.erase (ab op) := if_neg hn
    rw [eO]
    have xO : ab op ∈ O := (C.outs _).mpr ⟨h3, h4, hx⟩
    have me : ∀ z, z ∈ O.erase (ab op) ↔ z ≠ ab op ∧ z ∈ O := fun z => C.nd.mem_erase_iff
    have Bx := C.B _ xO
    rw [xl, xr] at Bx
    have inx : ∀ y ∈ O, y ≠ ab op → ¬ (gi s.L y < ab op ∧ ab op < gi s.R y) := fun y hy yx q => by
      obtain ⟨y1, y2, y3⟩ := (C.outs y).mp hy
      have By := C.B y hy
      have q1 : lo s op ≤ gi s.L y := by
        by_cases w : gi s.L y < lo s op
        · have := By _ w (by omega)
          rw [fl] at this; cases this
        · omega
      have q2 : gi s.R y ≤ hi s op := by
        by_cases w : hi s op < gi s.R y
        · have := By _ (by omega) w
          rw [fr] at this; cases this
        · omega
      have w1 := W.bl y y1 y2
      have w2 := W.br y y1 y2
      exact C.M y hy _ xO yx ⟨q.1, q.2, by rw [xl]; omega, by rw [xr]; omega⟩
    refine ⟨fun x => ?_, C.nd.erase _, fun a b a0 hab b1 fa fb hc => ?_, fun y hy c c0 c1 => ?_, fun y hy z hz hyz => ?_, ?_⟩
    · rw [me, C.outs]
      constructor
      · rintro ⟨z0, z1, z2, z3⟩
        refine ⟨z1, z2, ?_⟩
        rw [eF (by omega), if_neg z0]; exact z3
      · rintro ⟨z1, z2, z3⟩
        rw [eF (by omega)] at z3
        by_cases e : x = ab op
        · rw [if_pos e, decide_eq_false hn] at z3; cases z3
        · rw [if_neg e] at z3
          exact ⟨e, z1, z2, z3⟩
    · rw [eF (by omega)] at fa fb
      have hc' : ∀ c, a < c → c < b → gb s.F c = true ∧ c ≠ ab op := fun c c0 c1 => by
        have := hc c c0 c1
        rw [eF (by omega)] at this
        by_cases e : c = ab op
        · rw [if_pos e, decide_eq_false hn] at this; cases this
        · rw [if_neg e] at this; exact ⟨this, e⟩
      by_cases ax : a = ab op
      · have bx : b ≠ ab op := by omega
        rw [if_neg bx] at fb
        have eb : b = hi s op := by
          by_cases w : b < hi s op
          · have := Bx b (by omega) w
            rw [fb] at this; cases this
          · by_cases w2 : hi s op < b
            · have := (hc' _ (by omega) w2).1
              rw [fr] at this; cases this
            · omega
        rw [ax, x'R, eL (by omega), if_pos eb, if_neg hn]
        exact ⟨eb.symm, rfl⟩
      · rw [if_neg ax] at fa
        by_cases bx : b = ab op
        · have ea : a = lo s op := by
            by_cases w : lo s op < a
            · have := Bx a w (by omega)
              rw [fa] at this; cases this
            · by_cases w2 : a < lo s op
              · have := (hc' _ w2 (by omega)).1
                rw [fl] at this; cases this
              · omega
          rw [bx, x'L, eR a0, if_pos ea, if_neg hn]
          exact ⟨rfl, ea.symm⟩
        · rw [if_neg bx] at fb
          have nm : ¬ (a < ab op ∧ ab op < b) := fun q => (hc' _ q.1 q.2).2 rfl
          have s1 := C.sound a b a0 hab b1 fa fb fun c c0 c1 => (hc' c c0 c1).1
          rw [eR a0, eL (by omega)]
          rw [if_neg (fun e => nm (by rw [e] at s1; omega)), if_neg (fun e => nm (by rw [e] at s1; omega))]
          exact s1
    · obtain ⟨y0, hy⟩ := (me y).mp hy
      rw [kL y hy] at c0
      rw [kR y hy] at c1
      have q := C.B y hy c c0 c1
      obtain ⟨y1, y2, y3⟩ := (C.outs y).mp hy
      have := W.bl y y1 y2
      rw [eF (by omega)]
      split
      · rename_i e
        rw [e] at c0 c1
        exact absurd ⟨c0, c1⟩ (inx y hy y0)
      · exact q
    · obtain ⟨y0, hy⟩ := (me y).mp hy
      obtain ⟨z0, hz⟩ := (me z).mp hz
      rw [kL y hy, kR y hy, kL z hz, kR z hz]; exact C.M y hy z hz hyz
    · refine (C.N.sublist List.erase_sublist).imp_of_mem fun {z y} hz hy q => ?_
      obtain ⟨_, hy⟩ := (me y).mp hy
      rw [kL y hy, kR y hy]; exact q
end Lk

set_option maxHeartbeats 4000000
/-! Programs, schedules, runs. -/
namespace Lk
def outsOf : List Int → List Int → List Int
  | [], o => o
  | op :: r, o => outsOf r (stepO o op)
/-- the first wrong index of a program -/
def fw (n : Int) (tk : List Int) : List Int → Nat → List Int → Option Nat
  | [], i, o => if o = [] then none else some i
  | op :: r, i, o => if ab op < 1 ∨ n < ab op ∨ ab op ∈ tk then some i else
      if decide (0 < op) = decide (ab op ∈ o) then fw n tk r (i + 1) (stepO o op) else some i
/-- the first wrong program, its index -/
def flt (n : Int) : List Int → List (List Int) → Nat → Option (Nat × Nat)
  | _, [], _ => none
  | tk, p :: r, i => match fw n tk p 0 [] with
    | some j => some (i, j)
    | none => flt n (tk ++ p.map ab) r (i + 1)
theorem fw_idx {n : Int} {tk : List Int} : ∀ {p : List Int} {i j : Nat} {o : List Int}, fw n tk p i o = some j → i ≤ j ∧ j ≤ i + p.length
  | [], i, j, o, h => by
    unfold fw at h
    split at h
    · cases h
    · cases h; exact ⟨Nat.le_refl _, Nat.le_add_right _ _⟩
  | op :: r, i, j, o, h => by
    unfold fw at h
    split at h
    · cases h; exact ⟨Nat.le_refl _, Nat.le_add_right _ _⟩
    · split at h
      · have := fw_idx h
        simp only [List.length_cons]
        omega
      · cases h; exact ⟨Nat.le_refl _, Nat.le_add_right _ _⟩
/-- a program that is legal from the outs o on -/
structure LgP (n : Nat) (p o : List Int) : Prop where
  op : ∀ x ∈ p, IsOp n x
  end_ : outsOf p o = []
  leg : ∀ d x, p[d]? = some x → (0 < x ↔ ab x ∈ outsOf (p.take d) o)
theorem fw_none {n : Nat} {tk : List Int} : ∀ {p : List Int} {i : Nat} {o : List Int}, fw n tk p i o = none → LgP n p o ∧ ∀ x ∈ p, ab x ∉ tk
  | [], i, o, h => by
    unfold fw at h
    split at h
    · rename_i e
      exact ⟨⟨fun x hx => by simp at hx, e, fun d x hx => by simp at hx⟩, fun x hx => by simp at hx⟩
    · cases h
  | op :: r, i, o, h => by
    unfold fw at h
    split at h
    · cases h
    · rename_i c
      split at h
      · rename_i e
        obtain ⟨⟨a, b, c2⟩, d⟩ := fw_none h
        have c3 : ¬ ab op < 1 := fun z => c (.inl z)
        have c4 : ¬ (n : Int) < ab op := fun z => c (.inr (.inl z))
        have c5 : ab op ∉ tk := fun z => c (.inr (.inr z))
        refine ⟨⟨fun x hx => ?_, b, fun d x hx => ?_⟩, fun x hx => ?_⟩
        · rcases List.mem_cons.mp hx with rfl | hx
          · exact ⟨by omega, by omega⟩
          · exact a x hx
        · cases d with
          | zero =>
            have ex : op = x := by simpa using hx
            subst ex
            show 0 < op ↔ ab op ∈ o
            by_cases w : 0 < op
            · simp only [w, decide_true] at e ⊢
              simpa using e.symm
            · simp only [w, decide_false] at e ⊢
              have := e.symm
              simpa using this
          | succ d =>
            have hx : r[d]? = some x := by simpa using hx
            exact c2 d x hx
        · rcases List.mem_cons.mp hx with rfl | hx
          · exact c5
          · exact d x hx
      · cases h
theorem outsOf_append : ∀ (p q o : List Int), outsOf (p ++ q) o = outsOf q (outsOf p o)
  | [], q, o => rfl
  | x :: p, q, o => outsOf_append p q (stepO o x)
theorem outsOf_take {p : List Int} {d : Nat} {x : Int} (h : p[d]? = some x) (o : List Int) : outsOf (p.take (d + 1)) o = stepO (outsOf (p.take d) o) x := by
  rw [List.take_add_one, h]
  show outsOf (p.take d ++ [x]) o = _
  rw [outsOf_append]
  rfl
theorem outsOf_sub : ∀ {p o : List Int} {x : Int}, x ∈ outsOf p o → x ∈ o ∨ x ∈ p.map ab
  | [], o, x, h => .inl h
  | y :: p, o, x, h => by
    rcases outsOf_sub (p := p) h with m | m
    · unfold stepO at m
      split at m
      · rcases List.mem_append.mp m with m | m
        · exact .inl m
        · right
          have : x = ab y := by simpa using m
          simp [this]
      · exact .inl (List.mem_of_mem_erase m)
    · exact .inr (by simp only [List.map_cons, List.mem_cons]; exact .inr m)
theorem LgP.nd {n : Nat} {p : List Int} (L : LgP n p []) : ∀ d, (outsOf (p.take d) []).Nodup
  | 0 => by simp [outsOf]
  | d + 1 => by
    cases e : p[d]? with
    | none =>
      rw [List.take_add_one, e]
      simpa using L.nd d
    | some x =>
      rw [outsOf_take e]
      have ih := L.nd d
      have l := L.leg d x e
      unfold stepO
      split
      · rename_i hx
        have : ab x ∉ outsOf (p.take d) [] := fun m => by
          have := l.mpr m
          omega
        rw [List.nodup_append]
        refine ⟨ih, by simp, fun a ha b hb => ?_⟩
        have hb : b = ab x := by simpa using hb
        rw [hb]
        exact fun q => this (q ▸ ha)
      · exact ih.erase _
/-! ### stack programs -/
def nest : List Int → List Int → Bool
  | [], _ => true
  | op :: r, o => if op < 0 then nest r (o ++ [ab op]) else decide (o.getLast? = some op) && nest r o.dropLast
theorem erase_last {o : List Int} {x : Int} (nd : o.Nodup) (h : o.getLast? = some x) : o.erase x = o.dropLast := by
  have ne : o ≠ [] := fun e => by rw [e] at h; cases h
  have e : o = o.dropLast ++ [x] := by
    have q := List.dropLast_concat_getLast ne
    rw [List.getLast?_eq_some_getLast ne] at h
    rw [Option.some.inj h] at q
    exact q.symm
  rw [e] at nd
  have nx : x ∉ o.dropLast := fun m => by
    rw [List.nodup_append] at nd
    exact nd.2.2 x m x (by simp) rfl
  have : (o.dropLast ++ [x]).erase x = o.dropLast := by
    rw [List.erase_append_right _ nx]
    simp
  rw [← e] at this
  exact this
theorem nest_last {n : Nat} : ∀ {p : List Int} {o : List Int}, nest p o = true → o.Nodup → LgP n p o → ∀ d x, p[d]? = some x → 0 < x → (outsOf (p.take d) o).getLast? = some x
  | [], o, h, nd, L, d, x, hx, _ => by simp at hx
  | op :: r, o, h, nd, L, d, x, hx, h0 => by
    have hop := L.op op (by simp)
    have l0 := L.leg 0 op rfl
    have l0 : 0 < op ↔ ab op ∈ o := l0
    have L' : LgP n r (stepO o op) := ⟨fun y hy => L.op y (by simp [hy]), L.end_, fun d y hy => L.leg (d + 1) y (by simpa using hy)⟩
    have nd' : (stepO o op).Nodup := by
      unfold stepO
      split
      · rw [List.nodup_append]
        refine ⟨nd, by simp, fun a ha b hb => ?_⟩
        have hb : b = ab op := by simpa using hb
        rw [hb]
        intro q
        have := l0.mpr (q ▸ ha)
        omega
      · exact nd.erase _
    unfold nest at h
    cases d with
    | zero =>
      have ex : op = x := by simpa using hx
      subst ex
      rw [if_neg (by omega)] at h
      simp only [Bool.and_eq_true, decide_eq_true_eq] at h
      exact h.1
    | succ d =>
      have hx : r[d]? = some x := by simpa using hx
      have hn : nest r (stepO o op) = true := by
        unfold stepO
        split at h
        · rename_i c
          rw [if_pos c]; exact h
        · rename_i c
          simp only [Bool.and_eq_true, decide_eq_true_eq] at h
          rw [if_neg c, ab_pos c, erase_last nd h.1]
          exact h.2
      exact nest_last hn nd' L' d x hx h0
/-! ### all programs -/
structure Lg (n : Nat) (P : List (List Int)) : Prop where
  pr : ∀ p ∈ P, LgP n p []
  dis : ∀ (i j : Nat) (p q : List Int), i ≠ j → P[i]? = some p → P[j]? = some q → ∀ x ∈ p.map ab, x ∉ q.map ab
theorem flt_none {n : Nat} : ∀ {P : List (List Int)} {tk : List Int} {i : Nat}, flt n tk P i = none → Lg n P ∧ ∀ p ∈ P, ∀ x ∈ p.map ab, x ∉ tk
  | [], tk, i, _ => ⟨⟨fun p hp => by simp at hp, fun i j p q _ h => by simp at h⟩, fun p hp => by simp at hp⟩
  | p :: r, tk, i, h => by
    unfold flt at h
    cases e : fw (n : Int) tk p 0 [] with
    | some j => rw [e] at h; cases h
    | none =>
      rw [e] at h
      obtain ⟨⟨a, b⟩, c⟩ := flt_none (P := r) h
      obtain ⟨L, d⟩ := fw_none e
      have cr : ∀ q ∈ r, ∀ x ∈ q.map ab, x ∉ tk ∧ x ∉ p.map ab := fun q hq x hx => by
        have := c q hq x hx
        rw [List.mem_append] at this
        exact ⟨fun z => this (.inl z), fun z => this (.inr z)⟩
      refine ⟨⟨fun q hq => ?_, fun i j u v hij hu hv x hx => ?_⟩, fun q hq x hx => ?_⟩
      · rcases List.mem_cons.mp hq with rfl | hq
        · exact L
        · exact a q hq
      · cases i with
        | zero =>
          have eu : p = u := by simpa using hu
          subst eu
          cases j with
          | zero => exact absurd rfl hij
          | succ j =>
            have hv : r[j]? = some v := by simpa using hv
            exact fun m => (cr v (List.mem_of_getElem? hv) x m).2 hx
        | succ i =>
          have hu : r[i]? = some u := by simpa using hu
          cases j with
          | zero =>
            have ev : p = v := by simpa using hv
            subst ev
            exact fun m => (cr u (List.mem_of_getElem? hu) x hx).2 m
          | succ j =>
            have hv : r[j]? = some v := by simpa using hv
            exact b i j u v (by omega) hu hv x hx
      · rcases List.mem_cons.mp hq with rfl | hq
        · obtain ⟨y, hy, rfl⟩ := List.mem_map.mp hx
          exact d y hy
        · exact (cr q hq x hx).1
/-! ### where the sessions stand -/
def opAt (P : List (List Int)) (dn : List Nat) (i : Nat) : Option Int := (P[i]?).bind fun p => (dn[i]?).bind fun d => p[d]?
theorem opAt_some {P : List (List Int)} {dn : List Nat} {i : Nat} {op : Int} (h : opAt P dn i = some op) : ∃ p d, P[i]? = some p ∧ dn[i]? = some d ∧ p[d]? = some op := by
  unfold opAt at h
  cases e : P[i]? with
  | none => rw [e] at h; cases h
  | some p =>
    rw [e] at h
    cases e2 : dn[i]? with
    | none => rw [e2] at h; cases h
    | some d =>
      rw [e2] at h
      exact ⟨p, d, rfl, rfl, h⟩
theorem opAt_of {P : List (List Int)} {dn : List Nat} {i d : Nat} {p : List Int} {op : Int} (h1 : P[i]? = some p) (h2 : dn[i]? = some d) (h3 : p[d]? = some op) : opAt P dn i = some op := by
  unfold opAt; rw [h1, h2]; exact h3
structure Ln (n : Nat) (P : List (List Int)) (s : Sg) (dn : List Nat) : Prop where
  len : dn.length = P.length
  le : ∀ (i : Nat) (p : List Int) (d : Nat), P[i]? = some p → dn[i]? = some d → d ≤ p.length
  fl : ∀ x : Int, 1 ≤ x → x ≤ n → (gb s.F x = true ↔ ∃ (i : Nat) (p : List Int) (d : Nat), P[i]? = some p ∧ dn[i]? = some d ∧ x ∈ outsOf (p.take d) [])
def adv (dn : List Nat) (i : Nat) : List Nat := dn.set i (dn.getD i 0 + 1)
theorem adv_at {dn : List Nat} {i d : Nat} (h : dn[i]? = some d) : (adv dn i)[i]? = some (d + 1) := by
  unfold adv
  have hl : i < dn.length := (List.getElem?_eq_some_iff.mp h).1
  rw [List.getElem?_set_self hl, List.getD_eq_getElem?_getD, h]; rfl
theorem adv_ne {dn : List Nat} {i j : Nat} (h : j ≠ i) : (adv dn i)[j]? = dn[j]? := by
  unfold adv
  exact List.getElem?_set_ne (Ne.symm h)
theorem ln_start (n : Nat) (P : List (List Int)) : Ln n P (Sg.whole n) (List.replicate P.length 0) := by
  refine ⟨by simp, fun i p d h1 h2 => ?_, fun x x1 x2 => ?_⟩
  · rw [List.getElem?_replicate] at h2
    split at h2
    · cases h2; exact Nat.zero_le _
    · cases h2
  · rw [whole_F]
    constructor
    · intro h; cases h
    · rintro ⟨i, p, d, h1, h2, h3⟩
      rw [List.getElem?_replicate] at h2
      split at h2
      · cases h2; simp [outsOf] at h3
      · cases h2
section
variable {n : Nat} {P : List (List Int)} {s : Sg} {dn : List Nat} {i : Nat} {op : Int}
theorem Ln.isop (G : Lg n P) (h : opAt P dn i = some op) : IsOp n op := by
  obtain ⟨p, d, h1, h2, h3⟩ := opAt_some h
  exact (G.pr p (List.mem_of_getElem? h1)).op op (List.mem_of_getElem? h3)
theorem Ln.legal (G : Lg n P) (L : Ln n P s dn) (h : opAt P dn i = some op) : gb s.F (ab op) = decide (0 < op) := by
  have hop := Ln.isop G h
  obtain ⟨p, d, h1, h2, h3⟩ := opAt_some h
  have l := (G.pr p (List.mem_of_getElem? h1)).leg d op h3
  have f := L.fl (ab op) hop.1 hop.2
  have mem : ab op ∈ p.map ab := List.mem_map_of_mem (List.mem_of_getElem? h3)
  by_cases w : 0 < op
  · rw [decide_eq_true w]
    exact f.mpr ⟨i, p, d, h1, h2, l.mp w⟩
  · rw [decide_eq_false w]
    cases e : gb s.F (ab op) with
    | false => rfl
    | true =>
      exfalso
      obtain ⟨j, q, d', g1, g2, g3⟩ := f.mp e
      by_cases ij : i = j
      · subst ij
        rw [h1] at g1; cases g1
        rw [h2] at g2; cases g2
        exact w (l.mpr g3)
      · have q1 : ab op ∈ q.map ab := by
          rcases outsOf_sub g3 with m | m
          · simp at m
          · rw [List.map_take] at m
            exact List.mem_of_mem_take m
        exact G.dis i j p q ij h1 g1 _ mem q1
theorem Ln.step (G : Lg n P) (W : Wf n s) (L : Ln n P s dn) (h : opAt P dn i = some op) : Ln n P (s.app op) (adv dn i) := by
  have hop := Ln.isop G h
  have hlg := L.legal G h
  obtain ⟨p, d, h1, h2, h3⟩ := opAt_some h
  have Lp := G.pr p (List.mem_of_getElem? h1)
  have mem : ab op ∈ p.map ab := List.mem_map_of_mem (List.mem_of_getElem? h3)
  have hd : d < p.length := (List.getElem?_eq_some_iff.mp h3).1
  refine ⟨by unfold adv; rw [List.length_set]; exact L.len, fun j q e g1 g2 => ?_, fun x x1 x2 => ?_⟩
  · by_cases ji : j = i
    · subst ji
      rw [adv_at h2] at g2; cases g2
      rw [h1] at g1; cases g1
      exact hd
    · rw [adv_ne ji] at g2
      exact L.le j q e g1 g2
  · rw [app_F W hop (by omega)]
    have hstep := outsOf_take h3 ([] : List Int)
    have hnd := Lp.nd d
    by_cases ex : x = ab op
    · rw [if_pos ex]
      by_cases w : op < 0
      · rw [decide_eq_true w]
        refine ⟨fun _ => ⟨i, p, d + 1, h1, adv_at h2, ?_⟩, fun _ => rfl⟩
        rw [hstep]; unfold stepO; rw [if_pos w, ex]; simp
      · rw [decide_eq_false w]
        refine ⟨fun z => (by cases z), fun ⟨j, q, e, g1, g2, g3⟩ => ?_⟩
        exfalso
        by_cases ji : j = i
        · subst ji
          rw [adv_at h2] at g2; cases g2
          rw [h1] at g1; cases g1
          rw [hstep] at g3; unfold stepO at g3; rw [if_neg w, ex] at g3
          exact (hnd.mem_erase_iff.mp g3).1 rfl
        · have q1 : x ∈ q.map ab := by
            rcases outsOf_sub g3 with m | m
            · simp at m
            · rw [List.map_take] at m
              exact List.mem_of_mem_take m
          exact G.dis i j p q (Ne.symm ji) h1 g1 _ mem (ex ▸ q1)
    · rw [if_neg ex, L.fl x x1 x2]
      constructor
      · rintro ⟨j, q, e, g1, g2, g3⟩
        by_cases ji : j = i
        · subst ji
          rw [h1] at g1; cases g1
          rw [h2] at g2; cases g2
          refine ⟨j, p, d + 1, h1, adv_at h2, ?_⟩
          rw [hstep]; unfold stepO
          split
          · simp [g3]
          · exact hnd.mem_erase_iff.mpr ⟨ex, g3⟩
        · exact ⟨j, q, e, g1, by rw [adv_ne ji]; exact g2, g3⟩
      · rintro ⟨j, q, e, g1, g2, g3⟩
        by_cases ji : j = i
        · subst ji
          rw [adv_at h2] at g2; cases g2
          rw [h1] at g1; cases g1
          refine ⟨j, p, d, h1, h2, ?_⟩
          rw [hstep] at g3; unfold stepO at g3
          split at g3
          · rcases List.mem_append.mp g3 with m | m
            · exact m
            · exact absurd (by simpa using m) ex
          · exact List.mem_of_mem_erase g3
        · exact ⟨j, q, e, g1, by rw [adv_ne ji] at g2; exact g2, g3⟩
/-- all sessions have ended: all nodes are in -/
theorem Ln.allin (G : Lg n P) (W : Wf n s) (L : Ln n P s dn) (h : ∀ i : Nat, opAt P dn i = none) (j : Int) (j0 : 0 ≤ j) (j1 : j ≤ n + 1) : gb s.F j = false := by
  by_cases e0 : j = 0
  · rw [e0]; exact W.f0
  · by_cases e1 : j = n + 1
    · rw [e1]; exact W.fn
    · cases e : gb s.F j with
      | false => rfl
      | true =>
        exfalso
        obtain ⟨i, p, d, h1, h2, h3⟩ := (L.fl j (by omega) (by omega)).mp e
        have hd := L.le i p d h1 h2
        have : p.length ≤ d := by
          cases e2 : p[d]? with
          | none => exact List.getElem?_eq_none_iff.mp e2
          | some op => have := h i; rw [opAt_of h1 h2 e2] at this; cases this
        rw [List.take_of_length_le this, (G.pr p (List.mem_of_getElem? h1)).end_] at h3
        simp at h3
end
/-! ### the order of the outs in the checked mode -/
structure Co (n : Nat) (P : List (List Int)) (s : Sg) (dn : List Nat) (O : List Int) : Prop where
  ck : Ck n s O
  ord : ∀ (i : Nat) (p : List Int) (d : Nat), P[i]? = some p → dn[i]? = some d → O.filter (fun x => decide (x ∈ p.map ab)) = outsOf (p.take d) []
theorem co_start (n : Nat) (P : List (List Int)) : Co n P (Sg.whole n) (List.replicate P.length 0) [] := by
  refine ⟨ck_whole n, fun i p d h1 h2 => ?_⟩
  rw [List.getElem?_replicate] at h2
  split at h2
  · cases h2; rfl
  · cases h2
theorem co_step {n : Nat} {P : List (List Int)} {s : Sg} {dn : List Nat} {O : List Int} {i : Nat} {op : Int} (G : Lg n P) (W : Wf n s) (L : Ln n P s dn) (C : Co n P s dn O) (h : opAt P dn i = some op) (l : locl s op = true) :
    Co n P (s.app op) (adv dn i) (stepO O op) := by
  have hop := Ln.isop G h
  have hlg := L.legal G h
  refine ⟨C.ck.app W hop hlg l, fun j q e g1 g2 => ?_⟩
  obtain ⟨p, d, h1, h2, h3⟩ := opAt_some h
  have mem : ab op ∈ p.map ab := List.mem_map_of_mem (List.mem_of_getElem? h3)
  by_cases ji : j = i
  · subst ji
    rw [adv_at h2] at g2; cases g2
    rw [h1] at g1; cases g1
    rw [outsOf_take h3, ← C.ord j _ d h1 h2]
    unfold stepO
    split
    · rw [List.filter_append, List.filter_cons, if_pos (by simp only [decide_eq_true_eq]; exact mem)]
      rfl
    · rw [C.ck.nd.erase_eq_filter, List.Nodup.erase_eq_filter (C.ck.nd.filter _), List.filter_filter, List.filter_filter]
      congr 1
      funext x
      rw [Bool.and_comm]
  · rw [adv_ne ji] at g2
    rw [← C.ord j q e g1 g2]
    have nm : ab op ∉ q.map ab := G.dis i j p q (Ne.symm ji) h1 g1 _ mem
    unfold stepO
    split
    · rw [List.filter_append, List.filter_cons, if_neg (by simp only [decide_eq_true_eq]; exact nm)]
      simp
    · rw [C.ck.nd.erase_eq_filter, List.filter_filter]
      refine List.filter_congr fun x hx => ?_
      by_cases w : x ∈ q.map ab
      · have : x ≠ ab op := fun e => nm (e ▸ w)
        simp [w, this]
      · simp [w]
def rdy (P : List (List Int)) (s : Sg) (dn : List Nat) (m : Md) : List Nat := (List.range P.length).filter fun i => match opAt P dn i with
  | some op => !ref s op m
  | none => false
def unf (P : List (List Int)) (dn : List Nat) : List Nat := (List.range P.length).filter fun i => (opAt P dn i).isSome
theorem opAt_lt {P : List (List Int)} {dn : List Nat} {i : Nat} {op : Int} (h : opAt P dn i = some op) : i < P.length := by
  obtain ⟨p, d, h1, _, _⟩ := opAt_some h
  exact (List.getElem?_eq_some_iff.mp h1).1
theorem mem_rdy {P : List (List Int)} {s : Sg} {dn : List Nat} {m : Md} {i : Nat} : i ∈ rdy P s dn m ↔ ∃ op, opAt P dn i = some op ∧ ref s op m = false := by
  unfold rdy
  rw [List.mem_filter, List.mem_range]
  constructor
  · rintro ⟨h1, h2⟩
    cases e : opAt P dn i with
    | none => rw [e] at h2; cases h2
    | some op => rw [e] at h2; exact ⟨op, rfl, by simpa using h2⟩
  · rintro ⟨op, h1, h2⟩
    exact ⟨opAt_lt h1, by rw [h1]; simpa using h2⟩
theorem mem_unf {P : List (List Int)} {dn : List Nat} {i : Nat} : i ∈ unf P dn ↔ ∃ op, opAt P dn i = some op := by
  unfold unf
  rw [List.mem_filter, List.mem_range]
  constructor
  · rintro ⟨h1, h2⟩
    exact Option.isSome_iff_exists.mp h2
  · rintro ⟨op, h1⟩
    exact ⟨opAt_lt h1, by rw [h1]; rfl⟩
/-- stack programs are never stuck in the checked mode -/
theorem never_stuck {n : Nat} {P : List (List Int)} {s : Sg} {dn : List Nat} {O : List Int} (G : Lg n P) (W : Wf n s) (L : Ln n P s dn) (C : Co n P s dn O) (st : ∀ p ∈ P, nest p [] = true) (h : unf P dn ≠ []) : rdy P s dn .checked ≠ [] := by
  have un : ∀ {i op}, opAt P dn i = some op → op < 0 → rdy P s dn .checked ≠ [] := fun {i op} e w z => by
    have hl := L.legal G e
    rw [decide_eq_false (by omega : ¬ 0 < op)] at hl
    have := C.ck.unlink W (Ln.isop G e) w hl
    have m : i ∈ rdy P s dn .checked := mem_rdy.mpr ⟨op, e, by simp [ref, this]⟩
    rw [z] at m
    simp at m
  obtain ⟨i, hi⟩ := List.exists_mem_of_ne_nil _ h
  obtain ⟨op, e⟩ := mem_unf.mp hi
  have hop := Ln.isop G e
  by_cases w : op < 0
  · exact un e w
  · have w2 : 0 < op := by have := hop.ne; omega
    have hl := L.legal G e
    rw [decide_eq_true w2] at hl
    have mO : ab op ∈ O := (C.ck.outs _).mpr ⟨hop.1, hop.2, hl⟩
    have neO : O ≠ [] := fun q => by rw [q] at mO; simp at mO
    obtain ⟨O0, y, rfl⟩ : ∃ O0 y, O = O0 ++ [y] := ⟨O.dropLast, O.getLast neO, (List.dropLast_concat_getLast neO).symm⟩
    have hy : y ∈ O0 ++ [y] := by simp
    obtain ⟨y1, y2, y3⟩ := (C.ck.outs y).mp hy
    obtain ⟨j, p, d, g1, g2, g3⟩ := (L.fl y y1 y2).mp y3
    have Lp := G.pr p (List.mem_of_getElem? g1)
    have my : y ∈ p.map ab := by
      rcases outsOf_sub g3 with m | m
      · simp at m
      · rw [List.map_take] at m
        exact List.mem_of_mem_take m
    cases e2 : p[d]? with
    | none =>
      rw [List.take_of_length_le (List.getElem?_eq_none_iff.mp e2), Lp.end_] at g3
      simp at g3
    | some op2 =>
      have e3 := opAt_of g1 g2 e2
      by_cases w3 : op2 < 0
      · exact un e3 w3
      · have w4 : 0 < op2 := by have := (Ln.isop G e3).ne; omega
        have last := nest_last (st p (List.mem_of_getElem? g1)) List.nodup_nil Lp d op2 e2 w4
        rw [← C.ord j p d g1 g2, List.filter_append] at last
        have ey : op2 = y := by
          rw [List.filter_cons, if_pos (by simp only [decide_eq_true_eq]; exact my), List.filter_nil, List.getLast?_append] at last
          have last : some y = some op2 := last
          exact (Option.some.inj last).symm
        subst ey
        have := C.ck.last W
        intro z
        have m : j ∈ rdy P s dn .checked := mem_rdy.mpr ⟨op2, e3, by simp [ref, this]⟩
        rw [z] at m
        simp at m
end Lk

set_option maxHeartbeats 4000000
/-! The run: who goes next, how it ends. -/
namespace Lk
def okAt (P : List (List Int)) (s : Sg) (dn : List Nat) (m : Md) (i : Nat) : Bool := match opAt P dn i with
  | some op => !ref s op m
  | none => false
theorem rdy_eq (P : List (List Int)) (s : Sg) (dn : List Nat) (m : Md) : rdy P s dn m = (List.range P.length).filter (okAt P s dn m) := rfl
/-- who goes: the least, or the first behind the last one -/
def pick (rd o : List Nat) (cyc : Bool) : Option Nat := match rd with
  | [] => none
  | r :: _ => some (match (if cyc then o.getLast? else none) with
    | some l => (rd.find? fun x => decide (l < x)).getD r
    | none => r)
def fst0 (o : List Nat) (cyc : Bool) : Nat := match (if cyc then o.getLast? else none) with
  | some l => l + 1
  | none => 0
theorem head_rdy {N : Nat} {f : Nat → Bool} {r : Nat} {t : List Nat} (h : (List.range N).filter f = r :: t) : (List.range N).find? f = some r := by
  rw [← List.head?_filter, h]; rfl
theorem find_range {N i : Nat} {f : Nat → Bool} (h : i < N) (hf : f i = true) (hn : ∀ j, j < i → f j = false) : (List.range N).find? f = some i := by
  rw [List.find?_range_eq_some]
  exact ⟨hf, List.mem_range.mpr h, fun j hj => by rw [hn j hj]; rfl⟩
theorem find_range0 {N : Nat} {f : Nat → Bool} (hn : ∀ j, j < N → f j = false) : (List.range N).find? f = none := by
  rw [List.find?_range_eq_none]
  exact fun j hj => by rw [hn j hj]; rfl
theorem pick_of {N : Nat} {f : Nat → Bool} {o : List Nat} {cyc : Bool} {k : Nat} (ho : ∀ l ∈ o, l < N) (hk : k < N) (hf : f ((fst0 o cyc + k) % N) = true) (hn : ∀ j, j < k → f ((fst0 o cyc + j) % N) = false) :
    pick ((List.range N).filter f) o cyc = some ((fst0 o cyc + k) % N) := by
  cases e : (List.range N).filter f with
  | nil =>
    exfalso
    have m : (fst0 o cyc + k) % N ∈ (List.range N).filter f := List.mem_filter.mpr ⟨List.mem_range.mpr (Nat.mod_lt _ (by omega)), hf⟩
    rw [e] at m; simp at m
  | cons r t =>
    have hr := head_rdy e
    show some _ = _
    congr 1
    unfold fst0 at hf hn ⊢
    cases el : (if cyc then o.getLast? else none) with
    | none =>
      rw [el] at hf hn
      have q : (0 + k) % N = k := by rw [Nat.zero_add]; exact Nat.mod_eq_of_lt hk
      have hf : f ((0 + k) % N) = true := hf
      show r = (0 + k) % N
      rw [q] at hf ⊢
      have := find_range hk hf fun j hj => by
        have q2 : (0 + j) % N = j := by rw [Nat.zero_add]; exact Nat.mod_eq_of_lt (by omega)
        have := hn j hj
        have this : f ((0 + j) % N) = false := this
        rw [q2] at this; exact this
      rw [hr] at this
      exact Option.some.inj this
    | some l =>
      rw [el] at hf hn
      have hl : l < N := by
        refine ho l ?_
        cases cyc with
        | false => cases el
        | true => exact List.mem_of_getLast? el
      have hf : f ((l + 1 + k) % N) = true := hf
      have hn : ∀ j, j < k → f ((l + 1 + j) % N) = false := hn
      show ((r :: t).find? fun x => decide (l < x)).getD r = (l + 1 + k) % N
      rw [← e, List.find?_filter]
      by_cases c : l + 1 + k < N
      · have q : (l + 1 + k) % N = l + 1 + k := Nat.mod_eq_of_lt c
        rw [q] at hf ⊢
        have := find_range (f := fun a => decide (f a = true ∧ decide (l < a) = true)) c (by simp [hf]; omega) fun j hj => by
          by_cases w : l < j
          · have := hn (j - (l + 1)) (by omega)
            rw [show l + 1 + (j - (l + 1)) = j by omega, Nat.mod_eq_of_lt (by omega)] at this
            simp [this]
          · simp [w]
        rw [this]; rfl
      · have q : (l + 1 + k) % N = l + 1 + k - N := by
          rw [Nat.mod_eq_sub_mod (by omega)]
          exact Nat.mod_eq_of_lt (by omega)
        rw [q] at hf ⊢
        have big : ∀ j, l < j → j < N → f j = false := fun j h1 h2 => by
          have := hn (j - (l + 1)) (by omega)
          rw [show l + 1 + (j - (l + 1)) = j by omega, Nat.mod_eq_of_lt (by omega)] at this
          exact this
        have none_ := find_range0 (N := N) (f := fun a => decide (f a = true ∧ decide (l < a) = true)) fun j hj => by
          by_cases w : l < j
          · simp [big j w hj]
          · simp [w]
        rw [none_]
        show r = _
        have := find_range (N := N) (i := l + 1 + k - N) (by omega) hf fun j hj => by
          have := hn (j + N - (l + 1)) (by omega)
          rw [show l + 1 + (j + N - (l + 1)) = j + N by omega, Nat.add_mod_right, Nat.mod_eq_of_lt (by omega)] at this
          exact this
        rw [hr] at this
        exact Option.some.inj this
theorem pick_no {N : Nat} {f : Nat → Bool} {o : List Nat} {cyc : Bool} (hN : fst0 o cyc ≤ N) (hn : ∀ j, j < N → f ((fst0 o cyc + j) % N) = false) : (List.range N).filter f = [] := by
  rw [List.filter_eq_nil_iff]
  intro a ha
  have ha := List.mem_range.mp ha
  by_cases c : fst0 o cyc ≤ a
  · have := hn (a - fst0 o cyc) (by omega)
    rw [show fst0 o cyc + (a - fst0 o cyc) = a by omega, Nat.mod_eq_of_lt ha] at this
    rw [this]; decide
  · have := hn (a + N - fst0 o cyc) (by omega)
    rw [show fst0 o cyc + (a + N - fst0 o cyc) = a + N by omega, Nat.add_mod_right, Nat.mod_eq_of_lt ha] at this
    rw [this]; decide
theorem pick_mem {rd o : List Nat} {cyc : Bool} {i : Nat} (h : pick rd o cyc = some i) : i ∈ rd := by
  cases rd with
  | nil => cases h
  | cons r t =>
    have h : (match (if cyc then o.getLast? else none) with
      | some l => ((r :: t).find? fun x => decide (l < x)).getD r
      | none => r) = i := Option.some.inj h
    cases e : (if cyc then o.getLast? else none) with
    | none => rw [e] at h; have h : r = i := h; rw [← h]; simp
    | some l =>
      rw [e] at h
      have h : ((r :: t).find? fun x => decide (l < x)).getD r = i := h
      cases e2 : (r :: t).find? fun x => decide (l < x) with
      | none => rw [e2] at h; have h : r = i := h; rw [← h]; simp
      | some x => rw [e2] at h; have h : x = i := h; rw [← h]; exact List.mem_of_find?_eq_some e2
/-! ### what is left -/
def rem (P : List (List Int)) (dn : List Nat) : Nat := (List.zipWith (fun (p : List Int) (d : Nat) => p.length - d) P dn).sum
theorem rem_adv : ∀ {P : List (List Int)} {dn : List Nat} {i : Nat} {op : Int}, opAt P dn i = some op → rem P (adv dn i) + 1 = rem P dn
  | [], dn, i, op, h => by unfold opAt at h; simp at h
  | p :: P, [], i, op, h => by
    obtain ⟨_, _, _, h2, _⟩ := opAt_some h
    simp at h2
  | p :: P, d :: dn, 0, op, h => by
    obtain ⟨p', d', h1, h2, h3⟩ := opAt_some h
    have h1 : p = p' := by simpa using h1
    have h2 : d = d' := by simpa using h2
    subst h1 h2
    have hd := (List.getElem?_eq_some_iff.mp h3).1
    show (p.length - (d + 1)) + rem P dn + 1 = (p.length - d) + rem P dn
    omega
  | p :: P, d :: dn, i + 1, op, h => by
    have h' : opAt P dn i = some op := h
    have ih := rem_adv h'
    have e : adv (d :: dn) (i + 1) = d :: adv dn i := rfl
    rw [e]
    show (p.length - d) + rem P (adv dn i) + 1 = (p.length - d) + rem P dn
    omega
theorem rem_zero : ∀ {P : List (List Int)} {dn : List Nat}, rem P dn = 0 → ∀ i, opAt P dn i = none
  | [], dn, _, i => by unfold opAt; simp
  | p :: P, [], _, i => by unfold opAt; simp
  | p :: P, d :: dn, h, i => by
    have h : (p.length - d) + rem P dn = 0 := h
    cases i with
    | zero =>
      show p[d]? = none
      exact List.getElem?_eq_none_iff.mpr (by omega)
    | succ i => exact rem_zero (P := P) (dn := dn) (by omega) i
theorem rem_pos : ∀ {P : List (List Int)} {dn : List Nat}, rem P dn ≠ 0 → ∃ i op, opAt P dn i = some op
  | [], dn, h => absurd rfl h
  | p :: P, [], h => absurd rfl h
  | p :: P, d :: dn, h => by
    have h : (p.length - d) + rem P dn ≠ 0 := h
    by_cases c : p.length - d = 0
    · obtain ⟨i, op, e⟩ := rem_pos (P := P) (dn := dn) (by omega)
      exact ⟨i + 1, op, e⟩
    · exact ⟨0, p[d]'(by omega), by show p[d]? = _; exact List.getElem?_eq_getElem (by omega)⟩
theorem rem_start : ∀ P : List (List Int), rem P (List.replicate P.length 0) = (P.map List.length).sum
  | [] => rfl
  | p :: P => by
    have := rem_start P
    show (p.length - 0) + rem P (List.replicate P.length 0) = p.length + (P.map List.length).sum
    omega
/-! ### the run -/
structure RI (n : Nat) (P : List (List Int)) (m : Md) (s : Sg) (dn : List Nat) : Prop where
  wf : Wf n s
  ln : Ln n P s dn
  gd : m = .guarded ∨ m = .checked → Gd n s
  ck : m = .checked → ∃ O, Co n P s dn O
theorem ri_start (n : Nat) (P : List (List Int)) (m : Md) : RI n P m (Sg.whole n) (List.replicate P.length 0) :=
  ⟨wf_whole n, ln_start n P, fun _ => gd_whole n, fun _ => ⟨[], co_start n P⟩⟩
theorem RI.step {n : Nat} {P : List (List Int)} {m : Md} {s : Sg} {dn : List Nat} {i : Nat} {op : Int} (G : Lg n P) (I : RI n P m s dn) (h : opAt P dn i = some op) (hr : ref s op m = false) : RI n P m (s.app op) (adv dn i) := by
  have hop := Ln.isop G h
  have hl := I.ln.legal G h
  refine ⟨I.wf.app hop, I.ln.step G I.wf h, fun hm => (I.gd hm).app I.wf hop hl ?_, fun hm => ?_⟩
  · rcases hm with rfl | rfl
    · exact hr
    · exact ref_chk I.wf hop hr
  · obtain ⟨O, C⟩ := I.ck hm
    subst hm
    exact ⟨_, co_step G I.wf I.ln C h (by simpa [ref] using hr)⟩
theorem RI.end_ {n : Nat} {P : List (List Int)} {m : Md} {s : Sg} {dn : List Nat} (G : Lg n P) (I : RI n P m s dn) (hm : m = .guarded ∨ m = .checked) (h : rem P dn = 0) : s = Sg.whole n :=
  (I.gd hm).end_ I.wf fun j j0 j1 => I.ln.allin G I.wf (rem_zero h) j j0 j1
theorem RI.free {n : Nat} {P : List (List Int)} {s : Sg} {dn : List Nat} (I : RI n P .free s dn) (h : rem P dn ≠ 0) : rdy P s dn .free ≠ [] := fun z => by
  obtain ⟨i, op, e⟩ := rem_pos h
  have m : i ∈ rdy P s dn .free := mem_rdy.mpr ⟨op, e, rfl⟩
  rw [z] at m; simp at m
theorem RI.stack {n : Nat} {P : List (List Int)} {s : Sg} {dn : List Nat} (G : Lg n P) (I : RI n P .checked s dn) (st : ∀ p ∈ P, nest p [] = true) (h : unf P dn ≠ []) : rdy P s dn .checked ≠ [] := by
  obtain ⟨O, C⟩ := I.ck rfl
  exact never_stuck G I.wf I.ln C st h
def go (P : List (List Int)) (m : Md) (cyc : Bool) : Nat → Sg → List Nat → List Nat → Bool × List Nat × Sg
  | 0, s, _, o => (false, o, s)
  | k + 1, s, dn, o => match pick (rdy P s dn m) o cyc with
    | none => (true, o, s)
    | some i => go P m cyc k (s.app ((opAt P dn i).getD 0)) (adv dn i) (o ++ [i])
/-- the run from the start -/
def run (n : Nat) (P : List (List Int)) (m : Md) (cyc : Bool) : Bool × List Nat × Sg := go P m cyc (P.map List.length).sum (Sg.whole n) (List.replicate P.length 0) []
theorem pick_op {P : List (List Int)} {s : Sg} {dn o : List Nat} {m : Md} {cyc : Bool} {i : Nat} (h : pick (rdy P s dn m) o cyc = some i) : ∃ op, opAt P dn i = some op ∧ ref s op m = false := mem_rdy.mp (pick_mem h)
theorem go_whole {n : Nat} {P : List (List Int)} {m : Md} {cyc : Bool} (G : Lg n P) (hm : m = .guarded ∨ m = .checked) : ∀ (k : Nat) (s : Sg) (dn o : List Nat), RI n P m s dn → rem P dn = k → (go P m cyc k s dn o).1 = false → (go P m cyc k s dn o).2.2 = Sg.whole n
  | 0, s, dn, o, I, hk, _ => I.end_ G hm hk
  | k + 1, s, dn, o, I, hk, h => by
    unfold go at h ⊢
    cases e : pick (rdy P s dn m) o cyc with
    | none => rw [e] at h; cases h
    | some i =>
      rw [e] at h
      obtain ⟨op, h1, h2⟩ := pick_op e
      have h : (go P m cyc k (s.app ((opAt P dn i).getD 0)) (adv dn i) (o ++ [i])).1 = false := h
      show (go P m cyc k (s.app ((opAt P dn i).getD 0)) (adv dn i) (o ++ [i])).2.2 = _
      rw [h1] at h ⊢
      have := rem_adv h1
      exact go_whole G hm k _ _ _ (I.step G h1 h2) (by omega) h
theorem pick_ne {rd o : List Nat} {cyc : Bool} (h : rd ≠ []) : pick rd o cyc ≠ none := by
  cases rd with
  | nil => exact absurd rfl h
  | cons r t => intro q; cases q
theorem go_never {n : Nat} {P : List (List Int)} {m : Md} {cyc : Bool} (G : Lg n P) (hm : m = .free ∨ (m = .checked ∧ ∀ p ∈ P, nest p [] = true)) : ∀ (k : Nat) (s : Sg) (dn o : List Nat), RI n P m s dn → rem P dn = k → (go P m cyc k s dn o).1 = false
  | 0, s, dn, o, I, hk => rfl
  | k + 1, s, dn, o, I, hk => by
    have hne : rdy P s dn m ≠ [] := by
      rcases hm with rfl | ⟨rfl, st⟩
      · exact I.free (by omega)
      · refine I.stack G st fun z => ?_
        obtain ⟨i, op, e⟩ := rem_pos (P := P) (dn := dn) (by omega)
        have q : i ∈ unf P dn := mem_unf.mpr ⟨op, e⟩
        rw [z] at q; simp at q
    unfold go
    cases e : pick (rdy P s dn m) o cyc with
    | none => exact absurd e (pick_ne hne)
    | some i =>
      obtain ⟨op, h1, h2⟩ := pick_op e
      show (go P m cyc k (s.app ((opAt P dn i).getD 0)) (adv dn i) (o ++ [i])).1 = false
      rw [h1]
      have := rem_adv h1
      exact go_never G hm k _ _ _ (I.step G h1 h2) (by omega)
theorem run_whole {n : Nat} {P : List (List Int)} {m : Md} {cyc : Bool} (G : Lg n P) (hm : m = .guarded ∨ m = .checked) (h : (run n P m cyc).1 = false) : (run n P m cyc).2.2 = Sg.whole n :=
  go_whole G hm _ _ _ _ (ri_start n P m) (rem_start P) h
theorem run_never {n : Nat} {P : List (List Int)} {m : Md} {cyc : Bool} (G : Lg n P) (hm : m = .free ∨ (m = .checked ∧ ∀ p ∈ P, nest p [] = true)) : (run n P m cyc).1 = false :=
  go_never G hm _ _ _ _ (ri_start n P m) (rem_start P)
/-! ### few programs -/
theorem legal_even {n : Nat} {p : List Int} (L : LgP n p []) : p.length % 2 = 0 := by
  have key : ∀ d, d ≤ p.length → (outsOf (p.take d) []).length % 2 = d % 2 := by
    intro d
    induction d with
    | zero => intro _; rfl
    | succ d ih =>
      intro hd
      have e : p[d]? = some (p[d]'(by omega)) := List.getElem?_eq_getElem (by omega)
      rw [outsOf_take e]
      have ih := ih (by omega)
      have l := L.leg d _ e
      unfold stepO
      split
      · rw [List.length_append]; simp; omega
      · rename_i c
        have hx := (L.op _ (List.mem_of_getElem? e)).ne
        have m := l.mp (by omega)
        rw [List.length_erase_of_mem m]
        have : 0 < (outsOf (p.take d) []).length := List.length_pos_of_mem m
        omega
  have := key p.length (Nat.le_refl _)
  rw [List.take_of_length_le (Nat.le_refl _), L.end_] at this
  simpa using this.symm
theorem le_pow3 : ∀ k : Nat, 2 * k + 1 ≤ 3 ^ k
  | 0 => by decide
  | k + 1 => by
    have := le_pow3 k
    rw [Nat.pow_succ]; omega
def room (P : List (List Int)) : Nat := P.foldl (fun a p => a * (p.length + 1)) 1
theorem room_le : ∀ (P : List (List Int)) (a : Nat), (∀ p ∈ P, p.length % 2 = 0) → P.foldl (fun a p => a * (p.length + 1)) a ≤ a * 3 ^ ((P.map List.length).sum / 2)
  | [], a, _ => by simp
  | p :: P, a, h => by
    have hp : p.length % 2 = 0 := h p (by simp)
    have ih := room_le P (a * (p.length + 1)) fun q hq => h q (by simp [hq])
    show P.foldl (fun a p => a * (p.length + 1)) (a * (p.length + 1)) ≤ _
    refine Nat.le_trans ih ?_
    have e : ((p :: P).map List.length).sum / 2 = p.length / 2 + (P.map List.length).sum / 2 := by
      show (p.length + (P.map List.length).sum) / 2 = _
      omega
    rw [e, Nat.pow_add, ← Nat.mul_assoc]
    refine Nat.mul_le_mul_right _ (Nat.mul_le_mul_left _ ?_)
    have := le_pow3 (p.length / 2)
    omega
theorem room_small {n : Nat} {P : List (List Int)} (G : Lg n P) (h : (P.map List.length).sum ≤ 8) : room P ≤ 81 := by
  have := room_le P 1 fun p hp => legal_even (G.pr p hp)
  unfold room
  refine Nat.le_trans this ?_
  rw [Nat.one_mul]
  have : (P.map List.length).sum / 2 ≤ 4 := by omega
  exact Nat.pow_le_pow_right (by decide) this
end Lk

set_option maxHeartbeats 4000000
/-! The text by places; what the top leaves. -/
namespace Lk
open PySem PySem.Spec PyProof.Rows L2
def top (i : Nat) : Stmt := PySem.Challenge.pw_latelink_k37_whole_runs.main.body.getD i (.Pass ⟨0, 0, 0, 0⟩)
abbrev s_check_size : Stmt := top 19
abbrev s_check_operation : Stmt := top 20
abbrev s_Links___init__ : Stmt := inClass (top 28) 1
abbrev s_Links_left : Stmt := inClass (top 28) 4
abbrev s_Links_right : Stmt := inClass (top 28) 5
abbrev s_Links_is_out : Stmt := inClass (top 28) 6
abbrev s_Links_operation_on : Stmt := inClass (top 28) 8
abbrev s_Links_apply : Stmt := inClass (top 28) 9
abbrev s_Links_apply_at : Stmt := inClass (top 28) 10
abbrev s_Links_copy : Stmt := inClass (top 28) 15
abbrev s_Links_dump : Stmt := inClass (top 28) 16
abbrev s_Links__dump_parts : Stmt := inClass (top 28) 17
abbrev s_Links_built : Stmt := inClass (top 28) 2
abbrev s_left_holds : Stmt := top 30
abbrev s_right_holds : Stmt := top 31
abbrev s_foreign_writes : Stmt := top 32
abbrev s_check_mode : Stmt := top 35
abbrev s__check_legal : Stmt := top 36
abbrev s__last_holders : Stmt := top 37
abbrev s__loses_gap : Stmt := top 38
abbrev s__leaves_sole_holder : Stmt := top 39
abbrev s__is_local : Stmt := top 40
abbrev s_FreeMode_refusal : Stmt := inClass (top 41) 1
abbrev s_mode_named : Stmt := top 45
abbrev s_refuser : Stmt := top 46
abbrev s_check_programs : Stmt := top 49
abbrev s_first_wrong : Stmt := top 50
abbrev s_check_room : Stmt := top 51
abbrev s_has_ended : Stmt := top 52
abbrev s_next_operation : Stmt := top 53
abbrev s_unfinished : Stmt := top 54
abbrev s_ready_sessions : Stmt := top 56
abbrev s_later_layer : Stmt := top 58
abbrev s_moment_after : Stmt := top 59
abbrev s_advanced : Stmt := top 60
abbrev s_stuck_schedule : Stmt := top 63
abbrev s_check_waiting : Stmt := top 64
abbrev s_run : Stmt := top 65
abbrev s_chosen : Stmt := top 66
abbrev s__law_box : Stmt := top 68
abbrev s__law_take : Stmt := top 69
abbrev s__law_size : Stmt := top 70
abbrev s__law_far_size : Stmt := top 71
abbrev s__law_program : Stmt := top 72
abbrev s__law_bent : Stmt := top 73
abbrev s__law_fault : Stmt := top 74
abbrev s__law_programs : Stmt := top 75
abbrev s__law_start : Stmt := top 76
abbrev s__law_after : Stmt := top 77
abbrev s__law_refused : Stmt := top 79
abbrev s__law_nested : Stmt := top 80
abbrev s__law_stack : Stmt := top 81
abbrev s__law_taker : Stmt := top 82
abbrev s__law_steps : Stmt := top 83
abbrev s__law_due : Stmt := top 84
abbrev s__law_call : Stmt := top 85
abbrev s__law_ask : Stmt := top 86
abbrev s__law_same : Stmt := top 87
abbrev s_law : Stmt := top 88
abbrev s_BadSize___init__ : Stmt := inClass (top 6) 0
abbrev s_BadMode___init__ : Stmt := inClass (top 8) 0
abbrev s_BadProgram___init__ : Stmt := inClass (top 10) 0
abbrev s_BadTurn___init__ : Stmt := inClass (top 12) 0
abbrev s_Stuck___init__ : Stmt := inClass (top 15) 0
abbrev s_SavingMode_refusal : Stmt := inClass (top 42) 1
abbrev s_GuardedMode_refusal : Stmt := inClass (top 43) 1
abbrev s_CheckedMode_refusal : Stmt := inClass (top 44) 1
abbrev s_reached_moments : Stmt := top 57
theorem sc_check_size : FnScope ["size"] ["size"] (defScope s_check_size) := ⟨rfl, rfl, rfl, by decide +kernel, rfl, by decide +kernel, by decide +kernel⟩
theorem sc_check_operation : FnScope ["size", "operation", "index"] ["size", "operation", "index"] (defScope s_check_operation) := ⟨rfl, rfl, rfl, by decide +kernel, rfl, by decide +kernel, by decide +kernel⟩
theorem sc_Links___init__ : FnScope ["self", "size"] ["self", "size"] (defScope s_Links___init__) := ⟨rfl, rfl, rfl, by decide +kernel, rfl, by decide +kernel, by decide +kernel⟩
theorem sc_Links_left : FnScope ["self", "node"] ["self", "node"] (defScope s_Links_left) := ⟨rfl, rfl, rfl, by decide +kernel, rfl, by decide +kernel, by decide +kernel⟩
theorem sc_Links_right : FnScope ["self", "node"] ["self", "node"] (defScope s_Links_right) := ⟨rfl, rfl, rfl, by decide +kernel, rfl, by decide +kernel, by decide +kernel⟩
theorem sc_Links_is_out : FnScope ["self", "node"] ["self", "node"] (defScope s_Links_is_out) := ⟨rfl, rfl, rfl, by decide +kernel, rfl, by decide +kernel, by decide +kernel⟩
theorem sc_Links_operation_on : FnScope ["self", "node"] ["self", "node"] (defScope s_Links_operation_on) := ⟨rfl, rfl, rfl, by decide +kernel, rfl, by decide +kernel, by decide +kernel⟩
theorem sc_Links_apply : FnScope ["self", "operation"] ["self", "operation"] (defScope s_Links_apply) := ⟨rfl, rfl, rfl, by decide +kernel, rfl, by decide +kernel, by decide +kernel⟩
theorem sc_Links_apply_at : FnScope ["self", "operation", "index", "node", "is_unlink", "low", "high"] ["self", "operation", "index"] (defScope s_Links_apply_at) := ⟨rfl, rfl, rfl, by decide +kernel, rfl, by decide +kernel, by decide +kernel⟩
theorem sc_Links_copy : FnScope ["self"] ["self"] (defScope s_Links_copy) := ⟨rfl, rfl, rfl, by decide +kernel, rfl, by decide +kernel, by decide +kernel⟩
theorem sc_Links_dump : FnScope ["self"] ["self"] (defScope s_Links_dump) := ⟨rfl, rfl, rfl, by decide +kernel, rfl, by decide +kernel, by decide +kernel⟩
theorem sc_Links__dump_parts : FnScope ["self", "rights", "lefts", "outs", "link", "node"] ["self"] (defScope s_Links__dump_parts) := ⟨rfl, rfl, rfl, by decide +kernel, rfl, by decide +kernel, by decide +kernel⟩
theorem sc_Links_built : FnScope ["size", "lefts", "rights", "flags", "links"] ["size", "lefts", "rights", "flags"] (defScope s_Links_built) := ⟨rfl, rfl, rfl, by decide +kernel, rfl, by decide +kernel, by decide +kernel⟩
theorem sc_left_holds : FnScope ["links", "gap"] ["links", "gap"] (defScope s_left_holds) := ⟨rfl, rfl, rfl, by decide +kernel, rfl, by decide +kernel, by decide +kernel⟩
theorem sc_right_holds : FnScope ["links", "gap"] ["links", "gap"] (defScope s_right_holds) := ⟨rfl, rfl, rfl, by decide +kernel, rfl, by decide +kernel, by decide +kernel⟩
theorem sc_foreign_writes : FnScope ["links", "operation", "node", "left", "right", "gaps"] ["links", "operation"] (defScope s_foreign_writes) := ⟨rfl, rfl, rfl, by decide +kernel, rfl, by decide +kernel, by decide +kernel⟩
theorem sc_check_mode : FnScope ["mode"] ["mode"] (defScope s_check_mode) := ⟨rfl, rfl, rfl, by decide +kernel, rfl, by decide +kernel, by decide +kernel⟩
theorem sc__check_legal : FnScope ["links", "operation", "index"] ["links", "operation", "index"] (defScope s__check_legal) := ⟨rfl, rfl, rfl, by decide +kernel, rfl, by decide +kernel, by decide +kernel⟩
theorem sc__last_holders : FnScope ["links", "operation", "before", "holders", "gap"] ["links", "operation"] (defScope s__last_holders) := ⟨rfl, rfl, rfl, by decide +kernel, rfl, by decide +kernel, by decide +kernel⟩
theorem sc__loses_gap : FnScope ["links", "operation"] ["links", "operation"] (defScope s__loses_gap) := ⟨rfl, rfl, rfl, by decide +kernel, rfl, by decide +kernel, by decide +kernel⟩
theorem sc__leaves_sole_holder : FnScope ["links", "operation", "holder"] ["links", "operation"] (defScope s__leaves_sole_holder) := ⟨rfl, rfl, rfl, by decide +kernel, rfl, by decide +kernel, by decide +kernel⟩
theorem sc__is_local : FnScope ["links", "operation", "node", "before", "behind"] ["links", "operation"] (defScope s__is_local) := ⟨rfl, rfl, rfl, by decide +kernel, rfl, by decide +kernel, by decide +kernel⟩
theorem sc_FreeMode_refusal : FnScope ["self", "links", "operation"] ["self", "links", "operation"] (defScope s_FreeMode_refusal) := ⟨rfl, rfl, rfl, by decide +kernel, rfl, by decide +kernel, by decide +kernel⟩
theorem sc_mode_named : FnScope ["mode"] ["mode"] (defScope s_mode_named) := ⟨rfl, rfl, rfl, by decide +kernel, rfl, by decide +kernel, by decide +kernel⟩
theorem sc_refuser : FnScope ["links", "operation", "mode", "judge"] ["links", "operation", "mode"] (defScope s_refuser) := ⟨rfl, rfl, rfl, by decide +kernel, rfl, by decide +kernel, by decide +kernel⟩
theorem sc_check_programs : FnScope ["size", "programs", "taken", "session", "program", "index", "operation"] ["size", "programs"] (defScope s_check_programs) := ⟨rfl, rfl, rfl, by decide +kernel, rfl, by decide +kernel, by decide +kernel⟩
theorem sc_first_wrong : FnScope ["size", "program", "taken", "outs", "index", "operation", "node"] ["size", "program", "taken"] (defScope s_first_wrong) := ⟨rfl, rfl, rfl, by decide +kernel, rfl, by decide +kernel, by decide +kernel⟩
theorem sc_check_room : FnScope ["programs", "count", "program"] ["programs"] (defScope s_check_room) := ⟨rfl, rfl, rfl, by decide +kernel, rfl, by decide +kernel, by decide +kernel⟩
theorem sc_has_ended : FnScope ["programs", "positions", "session"] ["programs", "positions", "session"] (defScope s_has_ended) := ⟨rfl, rfl, rfl, by decide +kernel, rfl, by decide +kernel, by decide +kernel⟩
theorem sc_next_operation : FnScope ["programs", "positions", "session"] ["programs", "positions", "session"] (defScope s_next_operation) := ⟨rfl, rfl, rfl, by decide +kernel, rfl, by decide +kernel, by decide +kernel⟩
theorem sc_unfinished : FnScope ["programs", "positions", "session"] ["programs", "positions"] (defScope s_unfinished) := ⟨rfl, rfl, rfl, by decide +kernel, rfl, by decide +kernel, by decide +kernel⟩
theorem sc_ready_sessions : FnScope ["programs", "positions", "links", "mode", "ready", "session", "operation"] ["programs", "positions", "links", "mode"] (defScope s_ready_sessions) := ⟨rfl, rfl, rfl, by decide +kernel, rfl, by decide +kernel, by decide +kernel⟩
theorem sc_later_layer : FnScope ["programs", "layer", "mode", "found", "known", "moment", "session", "schedule", "positions", "links", "row"] ["programs", "layer", "mode"] (defScope s_later_layer) := ⟨rfl, rfl, rfl, by decide +kernel, rfl, by decide +kernel, by decide +kernel⟩
theorem sc_moment_after : FnScope ["programs", "moment", "session", "schedule", "positions", "links", "later"] ["programs", "moment", "session"] (defScope s_moment_after) := ⟨rfl, rfl, rfl, by decide +kernel, rfl, by decide +kernel, by decide +kernel⟩
theorem sc_advanced : FnScope ["positions", "session"] ["positions", "session"] (defScope s_advanced) := ⟨rfl, rfl, rfl, by decide +kernel, rfl, by decide +kernel, by decide +kernel⟩
theorem sc_stuck_schedule : FnScope ["size", "programs", "mode", "schedule", "positions", "links"] ["size", "programs", "mode"] (defScope s_stuck_schedule) := ⟨rfl, rfl, rfl, by decide +kernel, rfl, by decide +kernel, by decide +kernel⟩
theorem sc_check_waiting : FnScope ["size", "programs", "mode"] ["size", "programs", "mode"] (defScope s_check_waiting) := ⟨rfl, rfl, rfl, by decide +kernel, rfl, by decide +kernel, by decide +kernel⟩
theorem sc_run : FnScope ["size", "programs", "mode", "turn", "links", "positions", "schedule", "ready", "session"] ["size", "programs", "mode", "turn"] (defScope s_run) := ⟨rfl, rfl, rfl, by decide +kernel, rfl, by decide +kernel, by decide +kernel⟩
theorem sc_chosen : FnScope ["ready", "schedule", "turn", "session"] ["ready", "schedule", "turn"] (defScope s_chosen) := ⟨rfl, rfl, rfl, by decide +kernel, rfl, by decide +kernel, by decide +kernel⟩
theorem sc__law_box : FnScope ["_law_script", "_law_cell"] ["_law_script"] (defScope s__law_box) := ⟨rfl, rfl, rfl, by decide +kernel, rfl, by decide +kernel, by decide +kernel⟩
theorem sc__law_take : FnScope ["_law_box_here", "_law_many", "_law_cells", "_law_cell", "_law_digit", "_law_mixed"] ["_law_box_here", "_law_many"] (defScope s__law_take) := ⟨rfl, rfl, rfl, by decide +kernel, rfl, by decide +kernel, by decide +kernel⟩
theorem sc__law_size : FnScope ["_law_box_here", "_law_size_here"] ["_law_box_here"] (defScope s__law_size) := ⟨rfl, rfl, rfl, by decide +kernel, rfl, by decide +kernel, by decide +kernel⟩
theorem sc__law_far_size : FnScope ["_law_box_here"] ["_law_box_here"] (defScope s__law_far_size) := ⟨rfl, rfl, rfl, by decide +kernel, rfl, by decide +kernel, by decide +kernel⟩
theorem sc__law_program : FnScope ["_law_box_here", "_law_nodes", "_law_pairs", "_law_tidy", "_law_row", "_law_outs", "_law_step", "_law_node", "_law_inside", "_law_must", "_law_place", "_law_fresh"] ["_law_box_here", "_law_nodes", "_law_pairs", "_law_tidy"] (defScope s__law_program) := ⟨rfl, rfl, rfl, by decide +kernel, rfl, by decide +kernel, by decide +kernel⟩
theorem sc__law_bent : FnScope ["_law_box_here", "_law_size_here", "_law_programs_here", "_law_which", "_law_row", "_law_place", "_law_kind", "_law_operation"] ["_law_box_here", "_law_size_here", "_law_programs_here"] (defScope s__law_bent) := ⟨rfl, rfl, rfl, by decide +kernel, rfl, by decide +kernel, by decide +kernel⟩
theorem sc__law_fault : FnScope ["_law_size_here", "_law_programs_here", "_law_taken", "_law_session", "_law_row", "_law_outs", "_law_index", "_law_node", "_law_operation"] ["_law_size_here", "_law_programs_here"] (defScope s__law_fault) := ⟨rfl, rfl, rfl, by decide +kernel, rfl, by decide +kernel, by decide +kernel⟩
theorem sc__law_programs : FnScope ["_law_box_here", "_law_size_here", "_law_count", "_law_tidy", "_law_owners", "_law_programs_here", "_law_budget", "_law_session", "_law_nodes", "_law_pairs", "_law_k"] ["_law_box_here", "_law_size_here", "_law_count", "_law_tidy"] (defScope s__law_programs) := ⟨rfl, rfl, rfl, by decide +kernel, rfl, by decide +kernel, by decide +kernel⟩
theorem sc__law_start : FnScope ["_law_size_here", "_law_lefts", "_law_rights", "_law_k"] ["_law_size_here"] (defScope s__law_start) := ⟨rfl, rfl, rfl, by decide +kernel, rfl, by decide +kernel, by decide +kernel⟩
theorem sc__law_after : FnScope ["_law_state", "_law_operation", "_law_node", "_law_low", "_law_high", "_law_lefts", "_law_rights", "_law_gone"] ["_law_state", "_law_operation"] (defScope s__law_after) := ⟨rfl, rfl, rfl, by decide +kernel, rfl, by decide +kernel, by decide +kernel⟩
theorem sc__law_refused : FnScope ["_law_state", "_law_operation", "_law_name", "_law_node", "_law_low", "_law_high", "_law_after_here", "_law_gap", "_law_held", "_law_touched"] ["_law_state", "_law_operation", "_law_name"] (defScope s__law_refused) := ⟨rfl, rfl, rfl, by decide +kernel, rfl, by decide +kernel, by decide +kernel⟩
theorem sc__law_nested : FnScope ["_law_row", "_law_outs", "_law_operation"] ["_law_row"] (defScope s__law_nested) := ⟨rfl, rfl, rfl, by decide +kernel, rfl, by decide +kernel, by decide +kernel⟩
theorem sc__law_stack : FnScope ["_law_programs_here", "_law_row"] ["_law_programs_here"] (defScope s__law_stack) := ⟨rfl, rfl, rfl, by decide +kernel, rfl, by decide +kernel, by decide +kernel⟩
theorem sc__law_taker : FnScope ["_law_programs_here", "_law_state", "_law_done", "_law_name", "_law_first", "_law_count", "_law_k", "_law_session", "_law_place"] ["_law_programs_here", "_law_state", "_law_done", "_law_name", "_law_first"] (defScope s__law_taker) := ⟨rfl, rfl, rfl, by decide +kernel, rfl, by decide +kernel, by decide +kernel⟩
theorem sc__law_steps : FnScope ["_law_size_here", "_law_programs_here", "_law_name", "_law_cyclic", "_law_state", "_law_done", "_law_order", "_law_first", "_law_step", "_law_session", "_law_row"] ["_law_size_here", "_law_programs_here", "_law_name", "_law_cyclic"] (defScope s__law_steps) := ⟨rfl, rfl, rfl, by decide +kernel, rfl, by decide +kernel, by decide +kernel⟩
theorem sc__law_due : FnScope ["_law_size_here", "_law_programs_here", "_law_name", "_law_way", "_law_fault_here", "_law_due_here"] ["_law_size_here", "_law_programs_here", "_law_name", "_law_way"] (defScope s__law_due) := ⟨rfl, rfl, rfl, by decide +kernel, rfl, by decide +kernel, by decide +kernel⟩
theorem sc__law_call : FnScope ["_law_size_here", "_law_programs_here", "_law_name", "_law_way", "_law_plain"] ["_law_size_here", "_law_programs_here", "_law_name", "_law_way", "_law_plain"] (defScope s__law_call) := ⟨rfl, rfl, rfl, by decide +kernel, rfl, by decide +kernel, by decide +kernel⟩
theorem sc__law_ask : FnScope ["_law_size_here", "_law_programs_here", "_law_name", "_law_way", "_law_plain", "caught", "_law_marks", "_law_other"] ["_law_size_here", "_law_programs_here", "_law_name", "_law_way", "_law_plain"] (defScope s__law_ask) := ⟨rfl, rfl, rfl, by decide +kernel, rfl, by decide +kernel, by decide +kernel⟩
theorem sc__law_same : FnScope ["_law_actual", "_law_due_here", "_law_k"] ["_law_actual", "_law_due_here"] (defScope s__law_same) := ⟨rfl, rfl, rfl, by decide +kernel, rfl, by decide +kernel, by decide +kernel⟩
theorem sc_law : FnScope ["_law_script", "_law_box_here", "_law_size_here", "_law_tidy", "_law_count", "_law_programs_here", "_law_k", "_law_names", "_law_name", "_law_way", "_law_plain", "_law_due_here", "_law_handed", "_law_again", "_law_told", "_law_row"] ["_law_script"] (defScope s_law) := ⟨rfl, rfl, rfl, by decide +kernel, rfl, by decide +kernel, by decide +kernel⟩
theorem sc_BadSize___init__ : NdefX.NScope ["self", "size", "__class__"] ["self", "size"] ["__class__"] (defScope s_BadSize___init__) := ⟨rfl, rfl, rfl, by decide +kernel, rfl, by decide +kernel, by decide +kernel, by decide +kernel, by decide +kernel⟩
theorem sc_BadMode___init__ : NdefX.NScope ["self", "name", "__class__"] ["self", "name"] ["__class__"] (defScope s_BadMode___init__) := ⟨rfl, rfl, rfl, by decide +kernel, rfl, by decide +kernel, by decide +kernel, by decide +kernel, by decide +kernel⟩
theorem sc_BadProgram___init__ : NdefX.NScope ["self", "session", "index", "__class__"] ["self", "session", "index"] ["__class__"] (defScope s_BadProgram___init__) := ⟨rfl, rfl, rfl, by decide +kernel, rfl, by decide +kernel, by decide +kernel, by decide +kernel, by decide +kernel⟩
theorem sc_BadTurn___init__ : NdefX.NScope ["self", "turn", "__class__"] ["self", "turn"] ["__class__"] (defScope s_BadTurn___init__) := ⟨rfl, rfl, rfl, by decide +kernel, rfl, by decide +kernel, by decide +kernel, by decide +kernel, by decide +kernel⟩
theorem sc_Stuck___init__ : NdefX.NScope ["self", "schedule", "__class__"] ["self", "schedule"] ["__class__"] (defScope s_Stuck___init__) := ⟨rfl, rfl, rfl, by decide +kernel, rfl, by decide +kernel, by decide +kernel, by decide +kernel, by decide +kernel⟩
theorem sc_SavingMode_refusal : NdefX.NScope ["self", "links", "operation", "__class__", "weaker"] ["self", "links", "operation"] ["__class__"] (defScope s_SavingMode_refusal) := ⟨rfl, rfl, rfl, by decide +kernel, rfl, by decide +kernel, by decide +kernel, by decide +kernel, by decide +kernel⟩
theorem sc_GuardedMode_refusal : NdefX.NScope ["self", "links", "operation", "__class__", "weaker"] ["self", "links", "operation"] ["__class__"] (defScope s_GuardedMode_refusal) := ⟨rfl, rfl, rfl, by decide +kernel, rfl, by decide +kernel, by decide +kernel, by decide +kernel, by decide +kernel⟩
theorem sc_CheckedMode_refusal : NdefX.NScope ["self", "links", "operation", "__class__", "weaker"] ["self", "links", "operation"] ["__class__"] (defScope s_CheckedMode_refusal) := ⟨rfl, rfl, rfl, by decide +kernel, rfl, by decide +kernel, by decide +kernel, by decide +kernel, by decide +kernel⟩
def nofd : FuncData := PySem.W.fnOf "" "" { posonlyargs := [], args := [], vararg := none, kwonlyargs := [], kw_defaults := [], kwarg := none, defaults := [] } [] { kind := .function, names := [], isGenerator := false, isCoroutine := false } .none .none .none .none none .none .none
def fdOf (K : PySem.W.Frag) (p : Str × Option Str) : FuncData := match K.lookup (He.fAd K p) with
  | some ⟨_, _, .func fd, _⟩ => fd
  | _ => nofd
abbrev DF (K : PySem.W.Frag) (p : Str × Option Str) (name qual : Str) (st : Stmt) (kws : List (Str × V)) : Prop := FunD K name qual (defArgs st) (defBody st) (defScope st) [] kws (He.fAd K p) (fdOf K p)
structure Top (K : PySem.W.Frag) (mg : Str → Option Value) : Prop where
  d_check_size : DF K ("check_size", none) "check_size" "check_size" s_check_size []
  d_check_operation : DF K ("check_operation", none) "check_operation" "check_operation" s_check_operation []
  d_Links___init__ : DF K ("Links", some "__init__") "__init__" "Links.__init__" s_Links___init__ []
  d_Links_left : DF K ("Links", some "left") "left" "Links.left" s_Links_left []
  d_Links_right : DF K ("Links", some "right") "right" "Links.right" s_Links_right []
  d_Links_is_out : DF K ("Links", some "is_out") "is_out" "Links.is_out" s_Links_is_out []
  d_Links_operation_on : DF K ("Links", some "operation_on") "operation_on" "Links.operation_on" s_Links_operation_on []
  d_Links_apply : DF K ("Links", some "apply") "apply" "Links.apply" s_Links_apply []
  d_Links_apply_at : DF K ("Links", some "apply_at") "apply_at" "Links.apply_at" s_Links_apply_at []
  d_Links_copy : DF K ("Links", some "copy") "copy" "Links.copy" s_Links_copy []
  d_Links_dump : DF K ("Links", some "dump") "dump" "Links.dump" s_Links_dump []
  d_Links__dump_parts : DF K ("Links", some "_dump_parts") "_dump_parts" "Links._dump_parts" s_Links__dump_parts []
  d_left_holds : DF K ("left_holds", none) "left_holds" "left_holds" s_left_holds []
  d_right_holds : DF K ("right_holds", none) "right_holds" "right_holds" s_right_holds []
  d_foreign_writes : DF K ("foreign_writes", none) "foreign_writes" "foreign_writes" s_foreign_writes []
  d_check_mode : DF K ("check_mode", none) "check_mode" "check_mode" s_check_mode []
  d__check_legal : DF K ("_check_legal", none) "_check_legal" "_check_legal" s__check_legal []
  d__last_holders : DF K ("_last_holders", none) "_last_holders" "_last_holders" s__last_holders []
  d__loses_gap : DF K ("_loses_gap", none) "_loses_gap" "_loses_gap" s__loses_gap []
  d__leaves_sole_holder : DF K ("_leaves_sole_holder", none) "_leaves_sole_holder" "_leaves_sole_holder" s__leaves_sole_holder []
  d__is_local : DF K ("_is_local", none) "_is_local" "_is_local" s__is_local []
  d_FreeMode_refusal : DF K ("FreeMode", some "refusal") "refusal" "FreeMode.refusal" s_FreeMode_refusal []
  d_mode_named : DF K ("mode_named", none) "mode_named" "mode_named" s_mode_named []
  d_refuser : DF K ("refuser", none) "refuser" "refuser" s_refuser []
  d_check_programs : DF K ("check_programs", none) "check_programs" "check_programs" s_check_programs []
  d_first_wrong : DF K ("first_wrong", none) "first_wrong" "first_wrong" s_first_wrong []
  d_check_room : DF K ("check_room", none) "check_room" "check_room" s_check_room []
  d_has_ended : DF K ("has_ended", none) "has_ended" "has_ended" s_has_ended []
  d_next_operation : DF K ("next_operation", none) "next_operation" "next_operation" s_next_operation []
  d_unfinished : DF K ("unfinished", none) "unfinished" "unfinished" s_unfinished []
  d_ready_sessions : DF K ("ready_sessions", none) "ready_sessions" "ready_sessions" s_ready_sessions []
  d_later_layer : DF K ("later_layer", none) "later_layer" "later_layer" s_later_layer []
  d_moment_after : DF K ("moment_after", none) "moment_after" "moment_after" s_moment_after []
  d_advanced : DF K ("advanced", none) "advanced" "advanced" s_advanced []
  d_stuck_schedule : DF K ("stuck_schedule", none) "stuck_schedule" "stuck_schedule" s_stuck_schedule [("mode", .str "checked")]
  d_check_waiting : DF K ("check_waiting", none) "check_waiting" "check_waiting" s_check_waiting []
  d_run : DF K ("run", none) "run" "run" s_run [("mode", .str "checked"), ("turn", .str "first")]
  d_chosen : DF K ("chosen", none) "chosen" "chosen" s_chosen []
  d__law_box : DF K ("_law_box", none) "_law_box" "_law_box" s__law_box []
  d__law_take : DF K ("_law_take", none) "_law_take" "_law_take" s__law_take []
  d__law_size : DF K ("_law_size", none) "_law_size" "_law_size" s__law_size []
  d__law_far_size : DF K ("_law_far_size", none) "_law_far_size" "_law_far_size" s__law_far_size []
  d__law_program : DF K ("_law_program", none) "_law_program" "_law_program" s__law_program []
  d__law_bent : DF K ("_law_bent", none) "_law_bent" "_law_bent" s__law_bent []
  d__law_fault : DF K ("_law_fault", none) "_law_fault" "_law_fault" s__law_fault []
  d__law_programs : DF K ("_law_programs", none) "_law_programs" "_law_programs" s__law_programs []
  d__law_start : DF K ("_law_start", none) "_law_start" "_law_start" s__law_start []
  d__law_after : DF K ("_law_after", none) "_law_after" "_law_after" s__law_after []
  d__law_refused : DF K ("_law_refused", none) "_law_refused" "_law_refused" s__law_refused []
  d__law_nested : DF K ("_law_nested", none) "_law_nested" "_law_nested" s__law_nested []
  d__law_stack : DF K ("_law_stack", none) "_law_stack" "_law_stack" s__law_stack []
  d__law_taker : DF K ("_law_taker", none) "_law_taker" "_law_taker" s__law_taker []
  d__law_steps : DF K ("_law_steps", none) "_law_steps" "_law_steps" s__law_steps []
  d__law_due : DF K ("_law_due", none) "_law_due" "_law_due" s__law_due []
  d__law_call : DF K ("_law_call", none) "_law_call" "_law_call" s__law_call []
  d__law_ask : DF K ("_law_ask", none) "_law_ask" "_law_ask" s__law_ask []
  d__law_same : DF K ("_law_same", none) "_law_same" "_law_same" s__law_same []
  d_law : DF K ("law", none) "law" "law" s_law []
  g_check_size : mg "check_size" = some (.ref (He.fAd K ("check_size", none)))
  g_check_operation : mg "check_operation" = some (.ref (He.fAd K ("check_operation", none)))
  g_left_holds : mg "left_holds" = some (.ref (He.fAd K ("left_holds", none)))
  g_right_holds : mg "right_holds" = some (.ref (He.fAd K ("right_holds", none)))
  g_foreign_writes : mg "foreign_writes" = some (.ref (He.fAd K ("foreign_writes", none)))
  g_check_mode : mg "check_mode" = some (.ref (He.fAd K ("check_mode", none)))
  g__check_legal : mg "_check_legal" = some (.ref (He.fAd K ("_check_legal", none)))
  g__last_holders : mg "_last_holders" = some (.ref (He.fAd K ("_last_holders", none)))
  g__loses_gap : mg "_loses_gap" = some (.ref (He.fAd K ("_loses_gap", none)))
  g__leaves_sole_holder : mg "_leaves_sole_holder" = some (.ref (He.fAd K ("_leaves_sole_holder", none)))
  g__is_local : mg "_is_local" = some (.ref (He.fAd K ("_is_local", none)))
  g_mode_named : mg "mode_named" = some (.ref (He.fAd K ("mode_named", none)))
  g_refuser : mg "refuser" = some (.ref (He.fAd K ("refuser", none)))
  g_check_programs : mg "check_programs" = some (.ref (He.fAd K ("check_programs", none)))
  g_first_wrong : mg "first_wrong" = some (.ref (He.fAd K ("first_wrong", none)))
  g_check_room : mg "check_room" = some (.ref (He.fAd K ("check_room", none)))
  g_has_ended : mg "has_ended" = some (.ref (He.fAd K ("has_ended", none)))
  g_next_operation : mg "next_operation" = some (.ref (He.fAd K ("next_operation", none)))
  g_unfinished : mg "unfinished" = some (.ref (He.fAd K ("unfinished", none)))
  g_ready_sessions : mg "ready_sessions" = some (.ref (He.fAd K ("ready_sessions", none)))
  g_later_layer : mg "later_layer" = some (.ref (He.fAd K ("later_layer", none)))
  g_moment_after : mg "moment_after" = some (.ref (He.fAd K ("moment_after", none)))
  g_advanced : mg "advanced" = some (.ref (He.fAd K ("advanced", none)))
  g_stuck_schedule : mg "stuck_schedule" = some (.ref (He.fAd K ("stuck_schedule", none)))
  g_check_waiting : mg "check_waiting" = some (.ref (He.fAd K ("check_waiting", none)))
  g_run : mg "run" = some (.ref (He.fAd K ("run", none)))
  g_chosen : mg "chosen" = some (.ref (He.fAd K ("chosen", none)))
  g__law_box : mg "_law_box" = some (.ref (He.fAd K ("_law_box", none)))
  g__law_take : mg "_law_take" = some (.ref (He.fAd K ("_law_take", none)))
  g__law_size : mg "_law_size" = some (.ref (He.fAd K ("_law_size", none)))
  g__law_far_size : mg "_law_far_size" = some (.ref (He.fAd K ("_law_far_size", none)))
  g__law_program : mg "_law_program" = some (.ref (He.fAd K ("_law_program", none)))
  g__law_bent : mg "_law_bent" = some (.ref (He.fAd K ("_law_bent", none)))
  g__law_fault : mg "_law_fault" = some (.ref (He.fAd K ("_law_fault", none)))
  g__law_programs : mg "_law_programs" = some (.ref (He.fAd K ("_law_programs", none)))
  g__law_start : mg "_law_start" = some (.ref (He.fAd K ("_law_start", none)))
  g__law_after : mg "_law_after" = some (.ref (He.fAd K ("_law_after", none)))
  g__law_refused : mg "_law_refused" = some (.ref (He.fAd K ("_law_refused", none)))
  g__law_nested : mg "_law_nested" = some (.ref (He.fAd K ("_law_nested", none)))
  g__law_stack : mg "_law_stack" = some (.ref (He.fAd K ("_law_stack", none)))
  g__law_taker : mg "_law_taker" = some (.ref (He.fAd K ("_law_taker", none)))
  g__law_steps : mg "_law_steps" = some (.ref (He.fAd K ("_law_steps", none)))
  g__law_due : mg "_law_due" = some (.ref (He.fAd K ("_law_due", none)))
  g__law_call : mg "_law_call" = some (.ref (He.fAd K ("_law_call", none)))
  g__law_ask : mg "_law_ask" = some (.ref (He.fAd K ("_law_ask", none)))
  g__law_same : mg "_law_same" = some (.ref (He.fAd K ("_law_same", none)))
  g_law : mg "law" = some (.ref (He.fAd K ("law", none)))
  g_reached_moments : mg "reached_moments" = some (.ref (He.fAd K ("reached_moments", none)))
  g_Links : mg "Links" = some (.ref (He.ga K "Links"))
  g_FreeMode : mg "FreeMode" = some (.ref (He.ga K "FreeMode"))
  g_SavingMode : mg "SavingMode" = some (.ref (He.ga K "SavingMode"))
  g_GuardedMode : mg "GuardedMode" = some (.ref (He.ga K "GuardedMode"))
  g_CheckedMode : mg "CheckedMode" = some (.ref (He.ga K "CheckedMode"))
  g_LinkError : mg "LinkError" = some (.ref (He.ga K "LinkError"))
  g_LogError : mg "LogError" = some (.ref (He.ga K "LogError"))
  g_BadSize : mg "BadSize" = some (.ref (He.ga K "BadSize"))
  g_BadMode : mg "BadMode" = some (.ref (He.ga K "BadMode"))
  g_BadTurn : mg "BadTurn" = some (.ref (He.ga K "BadTurn"))
  g_BadProgram : mg "BadProgram" = some (.ref (He.ga K "BadProgram"))
  g_Stuck : mg "Stuck" = some (.ref (He.ga K "Stuck"))
  g_BadSchedule : mg "BadSchedule" = some (.ref (He.ga K "BadSchedule"))
  g_TooMany : mg "TooMany" = some (.ref (He.ga K "TooMany"))
  g_Unsafe : mg "Unsafe" = some (.ref (He.ga K "Unsafe"))
  g_MODES : mg "MODES" = some (.ref (He.ga K "MODES"))
  g_TURNS : mg "TURNS" = some (.ref (He.ga K "TURNS"))
  n_abs : mg "abs" = none
  n_len : mg "len" = none
  n_range : mg "range" = none
  n_enumerate : mg "enumerate" = none
  n_list : mg "list" = none
  n_str : mg "str" = none
  n_int : mg "int" = none
  n_bool : mg "bool" = none
  n_tuple : mg "tuple" = none
  n_isinstance : mg "isinstance" = none
  n_min : mg "min" = none
  n_sum : mg "sum" = none
  n_super : mg "super" = none
  n_ValueError : mg "ValueError" = none
  n_None : mg "None" = none
  i_MOST_NODES : ∃ t, mg "MOST_NODES" = some (.int 60 t)
  i_MOST_POSITIONS : ∃ t, mg "MOST_POSITIONS" = some (.int 150 t)
  t_MODES : ∀ H : Hp, SqT K H (He.ga K "MODES") [.str "free", .str "saving", .str "guarded", .str "checked"]
  t_TURNS : ∀ H : Hp, SqT K H (He.ga K "TURNS") [.str "first", .str "round"]
  c_Links : Cls K (He.ga K "Links")
  k_Links : Mk K (He.ga K "Links") (He.fAd K ("Links", some "__init__"))
  na_size : NoAttr K (He.ga K "Links") "size"
  na__lefts : NoAttr K (He.ga K "Links") "_lefts"
  na__rights : NoAttr K (He.ga K "Links") "_rights"
  na__flags : NoAttr K (He.ga K "Links") "_flags"
  m_left : Meth K (He.ga K "Links") "left" (He.fAd K ("Links", some "left"))
  m_right : Meth K (He.ga K "Links") "right" (He.fAd K ("Links", some "right"))
  m_is_out : Meth K (He.ga K "Links") "is_out" (He.fAd K ("Links", some "is_out"))
  m_operation_on : Meth K (He.ga K "Links") "operation_on" (He.fAd K ("Links", some "operation_on"))
  m_apply : Meth K (He.ga K "Links") "apply" (He.fAd K ("Links", some "apply"))
  m_apply_at : Meth K (He.ga K "Links") "apply_at" (He.fAd K ("Links", some "apply_at"))
  m_copy : Meth K (He.ga K "Links") "copy" (He.fAd K ("Links", some "copy"))
  m_dump : Meth K (He.ga K "Links") "dump" (He.fAd K ("Links", some "dump"))
  m__dump_parts : Meth K (He.ga K "Links") "_dump_parts" (He.fAd K ("Links", some "_dump_parts"))
section
variable {K : PySem.W.Frag} {mg : Str → Option Value}
theorem b_check_size (T : Top K mg) : Binds K (fdOf K ("check_size", none)) ["size"] [] := T.d_check_size.bindsN fun _ _ _ _ _ _ us hl => match us, hl with | [_], _ => rfl
theorem b_check_operation (T : Top K mg) : Binds K (fdOf K ("check_operation", none)) ["size", "operation", "index"] [] := T.d_check_operation.bindsN fun _ _ _ _ _ _ us hl => match us, hl with | [_, _, _], _ => rfl
theorem b_Links___init__ (T : Top K mg) : Binds K (fdOf K ("Links", some "__init__")) ["self", "size"] [] := T.d_Links___init__.bindsN fun _ _ _ _ _ _ us hl => match us, hl with | [_, _], _ => rfl
theorem b_Links_left (T : Top K mg) : Binds K (fdOf K ("Links", some "left")) ["self", "node"] [] := T.d_Links_left.bindsN fun _ _ _ _ _ _ us hl => match us, hl with | [_, _], _ => rfl
theorem b_Links_right (T : Top K mg) : Binds K (fdOf K ("Links", some "right")) ["self", "node"] [] := T.d_Links_right.bindsN fun _ _ _ _ _ _ us hl => match us, hl with | [_, _], _ => rfl
theorem b_Links_is_out (T : Top K mg) : Binds K (fdOf K ("Links", some "is_out")) ["self", "node"] [] := T.d_Links_is_out.bindsN fun _ _ _ _ _ _ us hl => match us, hl with | [_, _], _ => rfl
theorem b_Links_operation_on (T : Top K mg) : Binds K (fdOf K ("Links", some "operation_on")) ["self", "node"] [] := T.d_Links_operation_on.bindsN fun _ _ _ _ _ _ us hl => match us, hl with | [_, _], _ => rfl
theorem b_Links_apply (T : Top K mg) : Binds K (fdOf K ("Links", some "apply")) ["self", "operation"] [] := T.d_Links_apply.bindsN fun _ _ _ _ _ _ us hl => match us, hl with | [_, _], _ => rfl
theorem b_Links_apply_at (T : Top K mg) : Binds K (fdOf K ("Links", some "apply_at")) ["self", "operation", "index"] [] := T.d_Links_apply_at.bindsN fun _ _ _ _ _ _ us hl => match us, hl with | [_, _, _], _ => rfl
theorem b_Links_copy (T : Top K mg) : Binds K (fdOf K ("Links", some "copy")) ["self"] [] := T.d_Links_copy.bindsN fun _ _ _ _ _ _ us hl => match us, hl with | [_], _ => rfl
theorem b_Links_dump (T : Top K mg) : Binds K (fdOf K ("Links", some "dump")) ["self"] [] := T.d_Links_dump.bindsN fun _ _ _ _ _ _ us hl => match us, hl with | [_], _ => rfl
theorem b_Links__dump_parts (T : Top K mg) : Binds K (fdOf K ("Links", some "_dump_parts")) ["self"] [] := T.d_Links__dump_parts.bindsN fun _ _ _ _ _ _ us hl => match us, hl with | [_], _ => rfl
theorem b_left_holds (T : Top K mg) : Binds K (fdOf K ("left_holds", none)) ["links", "gap"] [] := T.d_left_holds.bindsN fun _ _ _ _ _ _ us hl => match us, hl with | [_, _], _ => rfl
theorem b_right_holds (T : Top K mg) : Binds K (fdOf K ("right_holds", none)) ["links", "gap"] [] := T.d_right_holds.bindsN fun _ _ _ _ _ _ us hl => match us, hl with | [_, _], _ => rfl
theorem b_foreign_writes (T : Top K mg) : Binds K (fdOf K ("foreign_writes", none)) ["links", "operation"] [] := T.d_foreign_writes.bindsN fun _ _ _ _ _ _ us hl => match us, hl with | [_, _], _ => rfl
theorem b_check_mode (T : Top K mg) : Binds K (fdOf K ("check_mode", none)) ["mode"] [] := T.d_check_mode.bindsN fun _ _ _ _ _ _ us hl => match us, hl with | [_], _ => rfl
theorem b__check_legal (T : Top K mg) : Binds K (fdOf K ("_check_legal", none)) ["links", "operation", "index"] [] := T.d__check_legal.bindsN fun _ _ _ _ _ _ us hl => match us, hl with | [_, _, _], _ => rfl
theorem b__last_holders (T : Top K mg) : Binds K (fdOf K ("_last_holders", none)) ["links", "operation"] [] := T.d__last_holders.bindsN fun _ _ _ _ _ _ us hl => match us, hl with | [_, _], _ => rfl
theorem b__loses_gap (T : Top K mg) : Binds K (fdOf K ("_loses_gap", none)) ["links", "operation"] [] := T.d__loses_gap.bindsN fun _ _ _ _ _ _ us hl => match us, hl with | [_, _], _ => rfl
theorem b__leaves_sole_holder (T : Top K mg) : Binds K (fdOf K ("_leaves_sole_holder", none)) ["links", "operation"] [] := T.d__leaves_sole_holder.bindsN fun _ _ _ _ _ _ us hl => match us, hl with | [_, _], _ => rfl
theorem b__is_local (T : Top K mg) : Binds K (fdOf K ("_is_local", none)) ["links", "operation"] [] := T.d__is_local.bindsN fun _ _ _ _ _ _ us hl => match us, hl with | [_, _], _ => rfl
theorem b_FreeMode_refusal (T : Top K mg) : Binds K (fdOf K ("FreeMode", some "refusal")) ["self", "links", "operation"] [] := T.d_FreeMode_refusal.bindsN fun _ _ _ _ _ _ us hl => match us, hl with | [_, _, _], _ => rfl
theorem b_mode_named (T : Top K mg) : Binds K (fdOf K ("mode_named", none)) ["mode"] [] := T.d_mode_named.bindsN fun _ _ _ _ _ _ us hl => match us, hl with | [_], _ => rfl
theorem b_refuser (T : Top K mg) : Binds K (fdOf K ("refuser", none)) ["links", "operation", "mode"] [] := T.d_refuser.bindsN fun _ _ _ _ _ _ us hl => match us, hl with | [_, _, _], _ => rfl
theorem b_check_programs (T : Top K mg) : Binds K (fdOf K ("check_programs", none)) ["size", "programs"] [] := T.d_check_programs.bindsN fun _ _ _ _ _ _ us hl => match us, hl with | [_, _], _ => rfl
theorem b_first_wrong (T : Top K mg) : Binds K (fdOf K ("first_wrong", none)) ["size", "program", "taken"] [] := T.d_first_wrong.bindsN fun _ _ _ _ _ _ us hl => match us, hl with | [_, _, _], _ => rfl
theorem b_check_room (T : Top K mg) : Binds K (fdOf K ("check_room", none)) ["programs"] [] := T.d_check_room.bindsN fun _ _ _ _ _ _ us hl => match us, hl with | [_], _ => rfl
theorem b_has_ended (T : Top K mg) : Binds K (fdOf K ("has_ended", none)) ["programs", "positions", "session"] [] := T.d_has_ended.bindsN fun _ _ _ _ _ _ us hl => match us, hl with | [_, _, _], _ => rfl
theorem b_next_operation (T : Top K mg) : Binds K (fdOf K ("next_operation", none)) ["programs", "positions", "session"] [] := T.d_next_operation.bindsN fun _ _ _ _ _ _ us hl => match us, hl with | [_, _, _], _ => rfl
theorem b_unfinished (T : Top K mg) : Binds K (fdOf K ("unfinished", none)) ["programs", "positions"] [] := T.d_unfinished.bindsN fun _ _ _ _ _ _ us hl => match us, hl with | [_, _], _ => rfl
theorem b_ready_sessions (T : Top K mg) : Binds K (fdOf K ("ready_sessions", none)) ["programs", "positions", "links", "mode"] [] := T.d_ready_sessions.bindsN fun _ _ _ _ _ _ us hl => match us, hl with | [_, _, _, _], _ => rfl
theorem b_later_layer (T : Top K mg) : Binds K (fdOf K ("later_layer", none)) ["programs", "layer", "mode"] [] := T.d_later_layer.bindsN fun _ _ _ _ _ _ us hl => match us, hl with | [_, _, _], _ => rfl
theorem b_moment_after (T : Top K mg) : Binds K (fdOf K ("moment_after", none)) ["programs", "moment", "session"] [] := T.d_moment_after.bindsN fun _ _ _ _ _ _ us hl => match us, hl with | [_, _, _], _ => rfl
theorem b_advanced (T : Top K mg) : Binds K (fdOf K ("advanced", none)) ["positions", "session"] [] := T.d_advanced.bindsN fun _ _ _ _ _ _ us hl => match us, hl with | [_, _], _ => rfl
theorem b_check_waiting (T : Top K mg) : Binds K (fdOf K ("check_waiting", none)) ["size", "programs", "mode"] [] := T.d_check_waiting.bindsN fun _ _ _ _ _ _ us hl => match us, hl with | [_, _, _], _ => rfl
theorem b_chosen (T : Top K mg) : Binds K (fdOf K ("chosen", none)) ["ready", "schedule", "turn"] [] := T.d_chosen.bindsN fun _ _ _ _ _ _ us hl => match us, hl with | [_, _, _], _ => rfl
theorem b__law_box (T : Top K mg) : Binds K (fdOf K ("_law_box", none)) ["_law_script"] [] := T.d__law_box.bindsN fun _ _ _ _ _ _ us hl => match us, hl with | [_], _ => rfl
theorem b__law_take (T : Top K mg) : Binds K (fdOf K ("_law_take", none)) ["_law_box_here", "_law_many"] [] := T.d__law_take.bindsN fun _ _ _ _ _ _ us hl => match us, hl with | [_, _], _ => rfl
theorem b__law_size (T : Top K mg) : Binds K (fdOf K ("_law_size", none)) ["_law_box_here"] [] := T.d__law_size.bindsN fun _ _ _ _ _ _ us hl => match us, hl with | [_], _ => rfl
theorem b__law_far_size (T : Top K mg) : Binds K (fdOf K ("_law_far_size", none)) ["_law_box_here"] [] := T.d__law_far_size.bindsN fun _ _ _ _ _ _ us hl => match us, hl with | [_], _ => rfl
theorem b__law_program (T : Top K mg) : Binds K (fdOf K ("_law_program", none)) ["_law_box_here", "_law_nodes", "_law_pairs", "_law_tidy"] [] := T.d__law_program.bindsN fun _ _ _ _ _ _ us hl => match us, hl with | [_, _, _, _], _ => rfl
theorem b__law_bent (T : Top K mg) : Binds K (fdOf K ("_law_bent", none)) ["_law_box_here", "_law_size_here", "_law_programs_here"] [] := T.d__law_bent.bindsN fun _ _ _ _ _ _ us hl => match us, hl with | [_, _, _], _ => rfl
theorem b__law_fault (T : Top K mg) : Binds K (fdOf K ("_law_fault", none)) ["_law_size_here", "_law_programs_here"] [] := T.d__law_fault.bindsN fun _ _ _ _ _ _ us hl => match us, hl with | [_, _], _ => rfl
theorem b__law_programs (T : Top K mg) : Binds K (fdOf K ("_law_programs", none)) ["_law_box_here", "_law_size_here", "_law_count", "_law_tidy"] [] := T.d__law_programs.bindsN fun _ _ _ _ _ _ us hl => match us, hl with | [_, _, _, _], _ => rfl
theorem b__law_start (T : Top K mg) : Binds K (fdOf K ("_law_start", none)) ["_law_size_here"] [] := T.d__law_start.bindsN fun _ _ _ _ _ _ us hl => match us, hl with | [_], _ => rfl
theorem b__law_after (T : Top K mg) : Binds K (fdOf K ("_law_after", none)) ["_law_state", "_law_operation"] [] := T.d__law_after.bindsN fun _ _ _ _ _ _ us hl => match us, hl with | [_, _], _ => rfl
theorem b__law_refused (T : Top K mg) : Binds K (fdOf K ("_law_refused", none)) ["_law_state", "_law_operation", "_law_name"] [] := T.d__law_refused.bindsN fun _ _ _ _ _ _ us hl => match us, hl with | [_, _, _], _ => rfl
theorem b__law_nested (T : Top K mg) : Binds K (fdOf K ("_law_nested", none)) ["_law_row"] [] := T.d__law_nested.bindsN fun _ _ _ _ _ _ us hl => match us, hl with | [_], _ => rfl
theorem b__law_stack (T : Top K mg) : Binds K (fdOf K ("_law_stack", none)) ["_law_programs_here"] [] := T.d__law_stack.bindsN fun _ _ _ _ _ _ us hl => match us, hl with | [_], _ => rfl
theorem b__law_taker (T : Top K mg) : Binds K (fdOf K ("_law_taker", none)) ["_law_programs_here", "_law_state", "_law_done", "_law_name", "_law_first"] [] := T.d__law_taker.bindsN fun _ _ _ _ _ _ us hl => match us, hl with | [_, _, _, _, _], _ => rfl
theorem b__law_steps (T : Top K mg) : Binds K (fdOf K ("_law_steps", none)) ["_law_size_here", "_law_programs_here", "_law_name", "_law_cyclic"] [] := T.d__law_steps.bindsN fun _ _ _ _ _ _ us hl => match us, hl with | [_, _, _, _], _ => rfl
theorem b__law_due (T : Top K mg) : Binds K (fdOf K ("_law_due", none)) ["_law_size_here", "_law_programs_here", "_law_name", "_law_way"] [] := T.d__law_due.bindsN fun _ _ _ _ _ _ us hl => match us, hl with | [_, _, _, _], _ => rfl
theorem b__law_call (T : Top K mg) : Binds K (fdOf K ("_law_call", none)) ["_law_size_here", "_law_programs_here", "_law_name", "_law_way", "_law_plain"] [] := T.d__law_call.bindsN fun _ _ _ _ _ _ us hl => match us, hl with | [_, _, _, _, _], _ => rfl
theorem b__law_ask (T : Top K mg) : Binds K (fdOf K ("_law_ask", none)) ["_law_size_here", "_law_programs_here", "_law_name", "_law_way", "_law_plain"] [] := T.d__law_ask.bindsN fun _ _ _ _ _ _ us hl => match us, hl with | [_, _, _, _, _], _ => rfl
theorem b__law_same (T : Top K mg) : Binds K (fdOf K ("_law_same", none)) ["_law_actual", "_law_due_here"] [] := T.d__law_same.bindsN fun _ _ _ _ _ _ us hl => match us, hl with | [_, _], _ => rfl
theorem b_law (T : Top K mg) : Binds K (fdOf K ("law", none)) ["_law_script"] [] := T.d_law.bindsN fun _ _ _ _ _ _ us hl => match us, hl with | [_], _ => rfl
end
section
variable {P : Program} {w : World} {K : PySem.W.Frag} {mg : Str → Option Value} {base : Heap}
theorem fd_ok {x qual : Str} {params : Arguments} {body : List Stmt} {scope : Scope} {kws : List (Str × V)} {f : Addr} {fd : FuncData} {N ps : List Str} {k : Nat} {sp : Sp} (F : FunD K x qual params body scope [] kws f fd) (S : FnScope N ps scope) (len : ∀ vs H Q E, sp vs H Q E → vs.length = ps.length)
    (hbody : ∀ (cdv : Value) (A : Around) (outer : List Env) (s : Shared) (H : Hp) (vs : List V) (Q : VK) (E : XK), Room k (A.deeper (envOfC qual scope s.heap.objs.size f cdv)) → sp vs H Q E →
      ∃ t, PSs (cxOf CX0 P w K mg base N qual scope f cdv A outer s H E).nox body t ∧ t { nx := fun _ H' => Q .non H', rt := Q } (start N vs) H) : FnOk P w K mg base CX0 (k + 1) f fd ps sp :=
  F.ok S len fun cdv A outer s H vs Q E hr h => let ⟨t, a, b⟩ := hbody cdv A outer s H vs Q E hr h
    ⟨t, a.nox, b⟩
end
end Lk

set_option maxHeartbeats 4000000
/-! Links: the object, its reading methods, apply. -/
namespace Lk
open PySem PySem.Spec PyProof.Rows L2
theorem e01 : (("_lefts" : Str) == ("size" : Str)) = false := by decide +kernel
theorem e02 : (("_rights" : Str) == ("size" : Str)) = false := by decide +kernel
theorem e03 : (("_flags" : Str) == ("size" : Str)) = false := by decide +kernel
theorem e12 : (("_rights" : Str) == ("_lefts" : Str)) = false := by decide +kernel
theorem e13 : (("_flags" : Str) == ("_lefts" : Str)) = false := by decide +kernel
theorem e23 : (("_flags" : Str) == ("_rights" : Str)) = false := by decide +kernel
def lf (n : Int) (aL aR aF : Addr) : List (Str × V) := [("size", .int n), ("_lefts", .ref aL), ("_rights", .ref aR), ("_flags", .ref aF)]
theorem lf_size {n : Int} {aL aR aF : Addr} : (lf n aL aR aF).lookup ("size" : Str) = some (.int n) := by simp [lf, List.lookup]
theorem lf_L {n : Int} {aL aR aF : Addr} : (lf n aL aR aF).lookup ("_lefts" : Str) = some (.ref aL) := by simp [lf, List.lookup, e01]
theorem lf_R {n : Int} {aL aR aF : Addr} : (lf n aL aR aF).lookup ("_rights" : Str) = some (.ref aR) := by simp [lf, List.lookup, e02, e12]
theorem lf_F {n : Int} {aL aR aF : Addr} : (lf n aL aR aF).lookup ("_flags" : Str) = some (.ref aF) := by simp [lf, List.lookup, e03, e13, e23]
theorem lf_no {n : Int} {aL aR aF : Addr} {m : Str} (h0 : (m == ("size" : Str)) = false) (h1 : (m == ("_lefts" : Str)) = false) (h2 : (m == ("_rights" : Str)) = false) (h3 : (m == ("_flags" : Str)) = false) : (lf n aL aR aF).lookup m = none := by
  simp [lf, List.lookup, h0, h1, h2, h3]
/-- a Links object stands at p: its standing is s, its size n -/
structure LkAt (C : Addr) (H : Hp) (p dx aL aR aF : Addr) (n : Nat) (s : Sg) : Prop where
  ob : H p = some (.ins C dx (lf n aL aR aF))
  l : H aL = some (.lst (s.L.map V.int))
  r : H aR = some (.lst (s.R.map V.int))
  f : H aF = some (.lst (s.F.map V.bl))
  lr : aL ≠ aR
  lf : aL ≠ aF
  rf : aR ≠ aF
theorem LkAt.same {C : Addr} {H H' : Hp} {p dx aL aR aF : Addr} {n : Nat} {s : Sg} (a : LkAt C H p dx aL aR aF n s) (e : Same H H') : LkAt C H' p dx aL aR aF n s :=
  ⟨e _ _ a.ob, e _ _ a.l, e _ _ a.r, e _ _ a.f, a.lr, a.lf, a.rf⟩
/-- somewhere -/
def LkS (C : Addr) (H : Hp) (p : Addr) (n : Nat) (s : Sg) : Prop := ∃ dx aL aR aF, LkAt C H p dx aL aR aF n s
theorem LkS.same {C : Addr} {H H' : Hp} {p : Addr} {n : Nat} {s : Sg} (a : LkS C H p n s) (e : Same H H') : LkS C H' p n s :=
  let ⟨dx, aL, aR, aF, h⟩ := a
  ⟨dx, aL, aR, aF, h.same e⟩
abbrev CL (K : PySem.W.Frag) : Addr := He.ga K "Links"
/-! ### promises -/
def spCheckOp : Sp := fun vs H Q _ => ∃ (n : Nat) (op i : Int), vs = [.int n, .int op, .int i] ∧ IsOp n op ∧ Q .non H
def spLeft (K : PySem.W.Frag) : Sp := fun vs H Q _ => ∃ (p : Addr) (n : Nat) (s : Sg) (x : Int), vs = [.ref p, .int x] ∧ LkS (CL K) H p n s ∧ s.L.length = n + 2 ∧ 1 ≤ x ∧ x ≤ n + 1 ∧ Q (.int (gi s.L x)) H
def spRight (K : PySem.W.Frag) : Sp := fun vs H Q _ => ∃ (p : Addr) (n : Nat) (s : Sg) (x : Int), vs = [.ref p, .int x] ∧ LkS (CL K) H p n s ∧ s.R.length = n + 2 ∧ 0 ≤ x ∧ x ≤ n ∧ Q (.int (gi s.R x)) H
def spIsOut (K : PySem.W.Frag) : Sp := fun vs H Q _ => ∃ (p : Addr) (n : Nat) (s : Sg) (x : Int), vs = [.ref p, .int x] ∧ LkS (CL K) H p n s ∧ s.F.length = n + 2 ∧ 0 ≤ x ∧ x ≤ n + 1 ∧ Q (.bl (gb s.F x)) H
def spOpOn (K : PySem.W.Frag) : Sp := fun vs H Q _ => ∃ (p : Addr) (n : Nat) (s : Sg) (x : Int), vs = [.ref p, .int x] ∧ LkS (CL K) H p n s ∧ s.F.length = n + 2 ∧ 1 ≤ x ∧ x ≤ n ∧ Q (.int (if gb s.F x = true then x else -x)) H
def spApplyAt (K : PySem.W.Frag) : Sp := fun vs H Q _ => ∃ (p dx aL aR aF : Addr) (n : Nat) (s : Sg) (op i : Int), vs = [.ref p, .int op, .int i] ∧ LkAt (CL K) H p dx aL aR aF n s ∧ Wf n s ∧ IsOp n op ∧ gb s.F (ab op) = decide (0 < op) ∧
  ∀ H', LkAt (CL K) H' p dx aL aR aF n (s.app op) → (∀ b o, H b = some o → b ≠ aL → b ≠ aR → b ≠ aF → H' b = some o) → Q .non H'
def spApply (K : PySem.W.Frag) : Sp := fun vs H Q _ => ∃ (p dx aL aR aF : Addr) (n : Nat) (s : Sg) (op : Int), vs = [.ref p, .int op] ∧ LkAt (CL K) H p dx aL aR aF n s ∧ Wf n s ∧ IsOp n op ∧ gb s.F (ab op) = decide (0 < op) ∧
  ∀ H', LkAt (CL K) H' p dx aL aR aF n (s.app op) → (∀ b o, H b = some o → b ≠ aL → b ≠ aR → b ≠ aF → H' b = some o) → Q .non H'
theorem at_int {l : List Int} {i : Int} (h0 : 0 ≤ i) (h : i < l.length) : atI (l.map V.int) i = some (.int (gi l i)) :=
  at_of (j := i.toNat) (by omega) (by rw [List.getElem?_map, gi_some h0 h]; rfl)
theorem at_bl {l : List Bool} {i : Int} (h0 : 0 ≤ i) (h : i < l.length) : atI (l.map V.bl) i = some (.bl (gb l i)) :=
  at_of (j := i.toNat) (by omega) (by rw [List.getElem?_map, gb_some h0 h]; rfl)
theorem ixN_of {n : Nat} {i : Int} (h0 : 0 ≤ i) (h : i < n) : ixN n i = some i.toNat := by unfold ixN; rw [if_pos h0, if_pos h]
theorem dT {c A B : Prop} [Decidable c] (hc : c) (h : A) : if decide c = true then A else B := by rw [if_pos (decide_eq_true hc)]; exact h
theorem dF {c A B : Prop} [Decidable c] (hc : ¬ c) (h : B) : if decide c = true then A else B := by rw [decide_eq_false hc]; exact iteF h
theorem nF {c A B : Prop} [Decidable c] (hc : c) (h : B) : if (!decide c) = true then A else B := by rw [decide_eq_true hc]; exact iteF h
theorem nT {c A B : Prop} [Decidable c] (hc : ¬ c) (h : A) : if (!decide c) = true then A else B := by rw [decide_eq_false hc]; exact iteT h
section
variable {P : Program} {w : World} {K : PySem.W.Frag} {mg : Str → Option Value} {base : Heap}
theorem ok_check_operation (T : Top K mg) : FnOk P w K mg base CX0 1 (He.fAd K ("check_operation", none)) (fdOf K ("check_operation", none)) ["size", "operation", "index"] spCheckOp := by
  refine fd_ok T.d_check_operation sc_check_operation (fun vs H Q E h => ?_) (fun cdv A outer s H vs Q E hr h => ?_)
  · obtain ⟨n, op, i, rfl, _⟩ := h
    rfl
  · obtain ⟨n, op, i, rfl, ho, k⟩ := h
    refine ⟨_, pss_one (ps_if (PW.pt (pw_or (pt_cmpR op_eq (pv 1) pe_int (nomark _)) (pw_or1 (pt_cmpR op_gt (pe_callB call_abs (by rfl) T.n_abs (by decide +kernel) (pa_cons (pv 1) pa_nil)) (pv 0) (nomark _))))) (pss_one ps_never) pss_nil), ?_⟩
    refine ⟨_, rfl, rfl, _, rfl, ?_⟩
    refine dF (fun e => ho.ne (by injection e)) ⟨_, rfl, op, rfl, _, rfl, _, _, rfl, rfl, _, rfl, ?_⟩
    exact dF (by have := ho.2; unfold ab at this; omega) k
theorem ok_left (T : Top K mg) : FnOk P w K mg base CX0 1 (He.fAd K ("Links", some "left")) (fdOf K ("Links", some "left")) ["self", "node"] (spLeft K) := by
  refine fd_ok T.d_Links_left sc_Links_left (fun vs H Q E h => ?_) (fun cdv A outer s H vs Q E hr h => ?_)
  · obtain ⟨p, n, s, x, rfl, _⟩ := h
    rfl
  · obtain ⟨p, n, sg, x, rfl, ⟨dx, aL, aR, aF, S⟩, hl, x1, x2, k⟩ := h
    refine ⟨_, pss_cons (ps_if (pt_not (pt_chain op_le op_le pe_int (pv 1) (pe_op op_add (pe_fld (pv 0) rfl) pe_int))) (pss_one ps_never) pss_nil)
      (pss_one (ps_ret (pe_ix ix_list (pe_fld (pv 0) rfl) (pv 1) (fun _ _ => rfl)))), ?_⟩
    refine ⟨_, rfl, _, _, rfl, rfl, _, rfl, dT x1 ⟨_, rfl, p, _, dx, _, _, rfl, S.ob, T.c_Links, T.na_size, lf_size, _, _, rfl, rfl, _, _, rfl, rfl, _, rfl, nF x2 ?_⟩⟩
    exact ⟨_, rfl, p, _, dx, _, _, rfl, S.ob, T.c_Links, T.na__lefts, lf_L, _, rfl, aL, _, _, _, rfl, rfl, SqL.of S.l, at_int (by omega) (by omega), k⟩
theorem ok_right (T : Top K mg) : FnOk P w K mg base CX0 1 (He.fAd K ("Links", some "right")) (fdOf K ("Links", some "right")) ["self", "node"] (spRight K) := by
  refine fd_ok T.d_Links_right sc_Links_right (fun vs H Q E h => ?_) (fun cdv A outer s H vs Q E hr h => ?_)
  · obtain ⟨p, n, s, x, rfl, _⟩ := h
    rfl
  · obtain ⟨p, n, sg, x, rfl, ⟨dx, aL, aR, aF, S⟩, hl, x1, x2, k⟩ := h
    refine ⟨_, pss_cons (ps_if (pt_not (pt_chain op_le op_le pe_int (pv 1) (pe_fld (pv 0) rfl))) (pss_one ps_never) pss_nil)
      (pss_one (ps_ret (pe_ix ix_list (pe_fld (pv 0) rfl) (pv 1) (fun _ _ => rfl)))), ?_⟩
    refine ⟨_, rfl, _, _, rfl, rfl, _, rfl, dT x1 ⟨_, rfl, p, _, dx, _, _, rfl, S.ob, T.c_Links, T.na_size, lf_size, _, _, rfl, rfl, _, rfl, nF x2 ?_⟩⟩
    exact ⟨_, rfl, p, _, dx, _, _, rfl, S.ob, T.c_Links, T.na__rights, lf_R, _, rfl, aR, _, _, _, rfl, rfl, SqL.of S.r, at_int (by omega) (by omega), k⟩
theorem ok_is_out (T : Top K mg) : FnOk P w K mg base CX0 1 (He.fAd K ("Links", some "is_out")) (fdOf K ("Links", some "is_out")) ["self", "node"] (spIsOut K) := by
  refine fd_ok T.d_Links_is_out sc_Links_is_out (fun vs H Q E h => ?_) (fun cdv A outer s H vs Q E hr h => ?_)
  · obtain ⟨p, n, s, x, rfl, _⟩ := h
    rfl
  · obtain ⟨p, n, sg, x, rfl, ⟨dx, aL, aR, aF, S⟩, hl, x1, x2, k⟩ := h
    refine ⟨_, pss_cons (ps_if (pt_not (pt_chain op_le op_le pe_int (pv 1) (pe_op op_add (pe_fld (pv 0) rfl) pe_int))) (pss_one ps_never) pss_nil)
      (pss_one (ps_ret (pe_ix ix_list (pe_fld (pv 0) rfl) (pv 1) (fun _ _ => rfl)))), ?_⟩
    refine ⟨_, rfl, _, _, rfl, rfl, _, rfl, dT x1 ⟨_, rfl, p, _, dx, _, _, rfl, S.ob, T.c_Links, T.na_size, lf_size, _, _, rfl, rfl, _, _, rfl, rfl, _, rfl, nF x2 ?_⟩⟩
    exact ⟨_, rfl, p, _, dx, _, _, rfl, S.ob, T.c_Links, T.na__flags, lf_F, _, rfl, aF, _, _, _, rfl, rfl, SqL.of S.f, at_bl (by omega) (by omega), k⟩
theorem ok_operation_on (T : Top K mg) : FnOk P w K mg base CX0 1 (He.fAd K ("Links", some "operation_on")) (fdOf K ("Links", some "operation_on")) ["self", "node"] (spOpOn K) := by
  refine fd_ok T.d_Links_operation_on sc_Links_operation_on (fun vs H Q E h => ?_) (fun cdv A outer s H vs Q E hr h => ?_)
  · obtain ⟨p, n, s, x, rfl, _⟩ := h
    rfl
  · obtain ⟨p, n, sg, x, rfl, ⟨dx, aL, aR, aF, S⟩, hl, x1, x2, k⟩ := h
    refine ⟨_, pss_one (ps_ret (pe_ifExp (pt_val (pe_ix ix_list (pe_fld (pv 0) rfl) (pv 1) (fun _ _ => rfl))) (pv 1) (pe_un un_neg (pv 1)))), ?_⟩
    refine ⟨_, rfl, p, _, dx, _, _, rfl, S.ob, T.c_Links, T.na__flags, lf_F, _, rfl, aF, _, _, _, rfl, rfl, SqL.of S.f, at_bl (i := x) (by omega) (by omega), _, rfl, ?_⟩
    by_cases c : gb sg.F x = true
    · rw [if_pos c] at k
      rw [c]
      exact iteT ⟨_, rfl, k⟩
    · rw [if_neg c] at k
      rw [Bool.not_eq_true] at c
      rw [c]
      exact iteF ⟨_, rfl, _, rfl, k⟩
theorem ok_apply_at (T : Top K mg) : FnOk P w K mg base CX0 2 (He.fAd K ("Links", some "apply_at")) (fdOf K ("Links", some "apply_at")) ["self", "operation", "index"] (spApplyAt K) := by
  refine fd_ok T.d_Links_apply_at sc_Links_apply_at (fun vs H Q E h => ?_) (fun cdv A outer s H vs Q E hr h => ?_)
  · obtain ⟨p, dx, aL, aR, aF, n, s, op, i, rfl, _⟩ := h
    rfl
  · obtain ⟨p, dx, aL, aR, aF, n, sg, op, i, rfl, S, W, ho, hF, k⟩ := h
    have h1 := W.lo0 ho; have h2 := W.hi0 ho; have h3 := ho.1; have h4 := ho.2
    have lL := W.lL; have lR := W.lR; have lF := W.lF
    refine ⟨_, pss_cons (ps_expr (pe_call (ok_check_operation T) hr rfl T.g_check_operation T.d_check_operation.kp (b_check_operation T) .nil pass0 (pa_cons (pe_fld (pv 0) rfl) (pa_cons (pv 1) (pa_cons (pv 2) pa_nil)))))
      (pss_cons (ps_set (i := 3) sc_Links_apply_at.nd rfl (Or.inl rfl) (pe_callB call_abs (by rfl) T.n_abs (by decide +kernel) (pa_cons (pv 1) pa_nil)))
      (pss_cons (ps_set (i := 4) sc_Links_apply_at.nd rfl (Or.inl rfl) (pe_cmpR op_lt (pv 1) pe_int (nomark _)))
      (pss_cons (ps_if (pt_cmpR op_eq (pe_ix ix_list (pe_fld (pv 0) rfl) (pv 3) (fun _ _ => rfl)) (pv 4) (nomark _)) (pss_one ps_never) pss_nil)
      (pss_cons (ps_set (i := 5) sc_Links_apply_at.nd rfl (Or.inl rfl) (pe_ix ix_list (pe_fld (pv 0) rfl) (pv 3) (fun _ _ => rfl)))
      (pss_cons (ps_set (i := 6) sc_Links_apply_at.nd rfl (Or.inl rfl) (pe_ix ix_list (pe_fld (pv 0) rfl) (pv 3) (fun _ _ => rfl)))
      (pss_cons (ps_asg (pe_ifExp (pt_val (pv 4)) (pv 6) (pv 3)) (pg_sub (pe_fld (pv 0) rfl) (pv 5) set_list))
      (pss_cons (ps_asg (pe_ifExp (pt_val (pv 4)) (pv 5) (pv 3)) (pg_sub (pe_fld (pv 0) rfl) (pv 6) set_list))
      (pss_one (ps_asg (pv 4) (pg_sub (pe_fld (pv 0) rfl) (pv 3) set_list)))))))))), ?_⟩
    refine ⟨_, rfl, p, _, dx, _, _, rfl, S.ob, T.c_Links, T.na_size, lf_size, _, rfl, _, rfl, n, op, i, rfl, ho, ?_⟩
    refine ⟨_, rfl, op, rfl, _, rfl, _, _, rfl, rfl, ?_⟩
    refine ⟨_, rfl, p, _, dx, _, _, rfl, S.ob, T.c_Links, T.na__flags, lf_F, _, rfl, aF, _, _, _, rfl, rfl, SqL.of S.f, at_bl (i := ab op) (by omega) (by omega), _, rfl, rfl, _, rfl, ?_⟩
    refine dF (fun e => ?_) ?_
    · have e := V.bl.inj e
      rw [hF] at e
      have := ho.ne
      by_cases c : op < 0
      · rw [decide_eq_true c, decide_eq_false (by omega)] at e; cases e
      · rw [decide_eq_false c, decide_eq_true (by omega)] at e; cases e
    refine ⟨_, rfl, p, _, dx, _, _, rfl, S.ob, T.c_Links, T.na__lefts, lf_L, _, rfl, aL, _, _, _, rfl, rfl, SqL.of S.l, at_int (i := ab op) (by omega) (by omega), ?_⟩
    refine ⟨_, rfl, p, _, dx, _, _, rfl, S.ob, T.c_Links, T.na__rights, lf_R, _, rfl, aR, _, _, _, rfl, rfl, SqL.of S.r, at_int (i := ab op) (by omega) (by omega), ?_⟩
    have ne1 : aL ≠ p := fun e => by have q := S.l; rw [e, S.ob] at q; cases q
    have ne2 : aR ≠ p := fun e => by have q := S.r; rw [e, S.ob] at q; cases q
    have ne3 : aF ≠ p := fun e => by have q := S.f; rw [e, S.ob] at q; cases q
    have key : ∀ (x y : Int) (H1 H2 H3 : Hp), x = (if op < 0 then hi sg op else ab op) → y = (if op < 0 then lo sg op else ab op) →
        H1 = upd H aR (.lst ((sg.R.map V.int).set (lo sg op).toNat (.int x))) → H2 = upd H1 aL (.lst ((sg.L.map V.int).set (hi sg op).toNat (.int y))) → H3 = upd H2 aF (.lst ((sg.F.map V.bl).set (ab op).toNat (.bl (decide (op < 0))))) →
        LkAt (CL K) H3 p dx aL aR aF n (sg.app op) ∧ ∀ b o, H b = some o → b ≠ aL → b ≠ aR → b ≠ aF → H3 b = some o := by
      intro x y H1 H2 H3 ex ey e1 e2 e3
      subst ex ey e1 e2 e3
      refine ⟨⟨?_, ?_, ?_, ?_, S.lr, S.lf, S.rf⟩, fun b o e n1 n2 n3 => ?_⟩
      · rw [upd_ne ne3.symm, upd_ne ne1.symm, upd_ne ne2.symm]; exact S.ob
      · rw [upd_ne S.lf, upd_same]; unfold Sg.app; rw [List.map_set]
      · rw [upd_ne S.rf, upd_ne S.lr.symm, upd_same]; unfold Sg.app; rw [List.map_set]
      · rw [upd_same]; unfold Sg.app; rw [List.map_set]
      · rw [upd_ne n3, upd_ne n1, upd_ne n2]; exact e
    have ob1 : ∀ o, (upd H aR o) p = some (.ins (CL K) dx (lf n aL aR aF)) := fun o => by rw [upd_ne ne2.symm]; exact S.ob
    have ob2 : ∀ o o', (upd (upd H aR o) aL o') p = some (.ins (CL K) dx (lf n aL aR aF)) := fun o o' => by rw [upd_ne ne1.symm]; exact ob1 o
    refine ⟨_, rfl, _, rfl, ?_⟩
    by_cases c : op < 0
    · refine dT c ⟨_, rfl, _, rfl, p, _, dx, _, _, rfl, S.ob, T.c_Links, T.na__rights, lf_R, _, rfl, aR, _, _, _, rfl, rfl, S.r, ixN_of h1.1 (by rw [List.length_map]; show lo sg op < _; omega), ?_⟩
      refine ⟨_, rfl, _, rfl, dT c ⟨_, rfl, _, rfl, p, _, dx, _, _, rfl, ob1 _, T.c_Links, T.na__lefts, lf_L, _, rfl, aL, _, _, _, rfl, rfl, (by rw [upd_ne S.lr]; exact S.l), ixN_of (i := hi sg op) (by omega) (by rw [List.length_map]; omega), ?_⟩⟩
      refine ⟨_, rfl, _, rfl, p, _, dx, _, _, rfl, ob2 _ _, T.c_Links, T.na__flags, lf_F, _, rfl, aF, _, _, _, rfl, rfl, (by rw [upd_ne S.lf.symm, upd_ne S.rf.symm]; exact S.f), ixN_of (i := ab op) (by omega) (by rw [List.length_map]; omega), ?_⟩
      obtain ⟨a, b⟩ := key (hi sg op) (lo sg op) _ _ _ (if_pos c).symm (if_pos c).symm rfl rfl rfl
      exact k _ a b
    · refine dF c ⟨_, rfl, _, rfl, p, _, dx, _, _, rfl, S.ob, T.c_Links, T.na__rights, lf_R, _, rfl, aR, _, _, _, rfl, rfl, S.r, ixN_of h1.1 (by rw [List.length_map]; show lo sg op < _; omega), ?_⟩
      refine ⟨_, rfl, _, rfl, dF c ⟨_, rfl, _, rfl, p, _, dx, _, _, rfl, ob1 _, T.c_Links, T.na__lefts, lf_L, _, rfl, aL, _, _, _, rfl, rfl, (by rw [upd_ne S.lr]; exact S.l), ixN_of (i := hi sg op) (by omega) (by rw [List.length_map]; omega), ?_⟩⟩
      refine ⟨_, rfl, _, rfl, p, _, dx, _, _, rfl, ob2 _ _, T.c_Links, T.na__flags, lf_F, _, rfl, aF, _, _, _, rfl, rfl, (by rw [upd_ne S.lf.symm, upd_ne S.rf.symm]; exact S.f), ixN_of (i := ab op) (by omega) (by rw [List.length_map]; omega), ?_⟩
      obtain ⟨a, b⟩ := key (ab op) (ab op) _ _ _ (if_neg c).symm (if_neg c).symm rfl rfl rfl
      exact k _ a b
theorem ok_apply (T : Top K mg) : FnOk P w K mg base CX0 3 (He.fAd K ("Links", some "apply")) (fdOf K ("Links", some "apply")) ["self", "operation"] (spApply K) := by
  refine fd_ok T.d_Links_apply sc_Links_apply (fun vs H Q E h => ?_) (fun cdv A outer s H vs Q E hr h => ?_)
  · obtain ⟨p, dx, aL, aR, aF, n, s, op, rfl, _⟩ := h
    rfl
  · obtain ⟨p, dx, aL, aR, aF, n, sg, op, rfl, S, W, ho, hF, k⟩ := h
    refine ⟨_, pss_one (ps_expr (pe_meth (pv 0) T.c_Links T.m_apply_at (ok_apply_at T) hr (b_Links_apply_at T) .nil pass0 (pa_cons (pv 1) (pa_cons pe_int pa_nil)))), ?_⟩
    exact ⟨_, rfl, p, dx, _, rfl, S.ob, lf_no (by decide +kernel) (by decide +kernel) (by decide +kernel) (by decide +kernel), _, rfl, p, dx, aL, aR, aF, n, sg, op, 0, rfl, S, W, ho, hF, k⟩
end
end Lk

set_option maxHeartbeats 4000000
/-! Gaps, what the modes ask. -/
namespace Lk
open PySem PySem.Spec PyProof.Rows L2
def fws (s : Sg) (op : Int) : List Int := (if fgl s op = true then [lo s op] else []) ++ (if fgr s op = true then [hi s op - 1] else [])
/-- who holds on behind the operation -/
def hold (s : Sg) (op g : Int) : V := if g = lo s op then (if hl s op = true then .int (lo s op + 1) else .non) else (if hr s op = true then .int (hi s op - 1) else .non)
def holders (s : Sg) (op : Int) : List V := (fws s op).map (hold s op)
theorem fws_at {s : Sg} {op g : Int} (h : g ∈ fws s op) : g = lo s op ∨ g = hi s op - 1 := by
  unfold fws at h
  rcases List.mem_append.mp h with m | m
  · split at m
    · left; simpa using m
    · simp at m
  · split at m
    · right; simpa using m
    · simp at m
theorem fws_len (s : Sg) (op : Int) : (fws s op).length ≤ 2 := by
  unfold fws
  rw [List.length_append]
  split <;> split <;> simp
theorem lo_hi {n : Nat} {s : Sg} {op : Int} (W : Wf n s) (h : IsOp n op) : hi s op - 1 ≠ lo s op := by
  have h1 := W.lo0 h; have h2 := W.hi0 h
  omega
theorem none_in {n : Nat} {s : Sg} {op : Int} (W : Wf n s) (h : IsOp n op) : inV .non (holders s op) = refS s op := by
  have q := lo_hi W h
  have e1 : hold s op (lo s op) = (if hl s op = true then .int (lo s op + 1) else .non) := if_pos rfl
  have e2 : hold s op (hi s op - 1) = (if hr s op = true then .int (hi s op - 1) else .non) := if_neg q
  unfold holders fws refS
  cases a : fgl s op <;> cases b : fgr s op <;> cases c : hl s op <;> cases d : hr s op <;> simp [inV, e1, e2, a, b, c, d, eqV]
/-- one of them is gone or in -/
def badH (s : Sg) (v : V) : Bool := match v with
  | .int x => !gb s.F x
  | _ => true
theorem bad_in {n : Nat} {s : Sg} {op : Int} (W : Wf n s) (h : IsOp n op) : (holders s op).any (badH s) = refG s op := by
  have q := lo_hi W h
  have e1 : hold s op (lo s op) = (if hl s op = true then .int (lo s op + 1) else .non) := if_pos rfl
  have e2 : hold s op (hi s op - 1) = (if hr s op = true then .int (hi s op - 1) else .non) := if_neg q
  unfold holders fws refG
  cases a : fgl s op <;> cases b : fgr s op <;> cases c : hl s op <;> cases d : hr s op <;> simp [e1, e2, a, b, c, d, badH]
def spLH (K : PySem.W.Frag) : Sp := fun vs H Q _ => ∃ (p : Addr) (n : Nat) (s : Sg) (g : Int), vs = [.ref p, .int g] ∧ LkS (CL K) H p n s ∧ Wf n s ∧ 0 ≤ g ∧ g ≤ n ∧ Q (.bl (decide (gi s.R g = g + 1))) H
def spRH (K : PySem.W.Frag) : Sp := fun vs H Q _ => ∃ (p : Addr) (n : Nat) (s : Sg) (g : Int), vs = [.ref p, .int g] ∧ LkS (CL K) H p n s ∧ Wf n s ∧ 0 ≤ g ∧ g ≤ n ∧ Q (.bl (decide (gi s.L (g + 1) = g))) H
/-- the links, a legal operation -/
structure OpP (K : PySem.W.Frag) (H : Hp) (p : Addr) (n : Nat) (s : Sg) (op : Int) : Prop where
  at_ : LkS (CL K) H p n s
  wf : Wf n s
  isop : IsOp n op
  lg : gb s.F (ab op) = decide (0 < op)
theorem OpP.same {K : PySem.W.Frag} {H H' : Hp} {p : Addr} {n : Nat} {s : Sg} {op : Int} (o : OpP K H p n s op) (e : Same H H') : OpP K H' p n s op := ⟨o.at_.same e, o.wf, o.isop, o.lg⟩
def spFW (K : PySem.W.Frag) : Sp := fun vs H Q _ => ∃ (p : Addr) (n : Nat) (s : Sg) (op : Int), vs = [.ref p, .int op] ∧ OpP K H p n s op ∧ ∀ H' a, Same H H' → H a = none → H' a = some (.lst ((fws s op).map V.int)) → Q (.ref a) H'
def spLegal (K : PySem.W.Frag) : Sp := fun vs H Q _ => ∃ (p : Addr) (n : Nat) (s : Sg) (op i : Int), vs = [.ref p, .int op, .int i] ∧ OpP K H p n s op ∧ Q .non H
def spHolders (K : PySem.W.Frag) : Sp := fun vs H Q _ => ∃ (p : Addr) (n : Nat) (s : Sg) (op : Int), vs = [.ref p, .int op] ∧ OpP K H p n s op ∧ ∀ H' a, Same H H' → H a = none → H' a = some (.lst (holders s op)) → Q (.ref a) H'
/-- a test of the operation: its answer is f -/
def spTest (K : PySem.W.Frag) (f : Sg → Int → Bool) : Sp := fun vs H Q _ => ∃ (p : Addr) (n : Nat) (s : Sg) (op : Int), vs = [.ref p, .int op] ∧ OpP K H p n s op ∧ ∀ H', Same H H' → Q (.bl (f s op)) H'
theorem op_eq_on {s : Sg} {op : Int} (h : op ≠ 0) (lg : gb s.F (ab op) = decide (0 < op)) : (if gb s.F (ab op) = true then ab op else -ab op) = op := by
  rw [lg]
  unfold ab
  by_cases c : 0 < op
  · rw [decide_eq_true c, if_pos rfl, if_neg (by omega)]
  · rw [decide_eq_false c, if_neg (by decide), if_pos (by omega)]; omega
section
variable {P : Program} {w : World} {K : PySem.W.Frag} {mg : Str → Option Value} {base : Heap}
theorem lfno {n : Int} {aL aR aF : Addr} {m : Str} (h : ((m == ("size" : Str)) || (m == ("_lefts" : Str)) || (m == ("_rights" : Str)) || (m == ("_flags" : Str))) = false) : (lf n aL aR aF).lookup m = none := by
  simp only [Bool.or_eq_false_iff] at h
  exact lf_no h.1.1.1 h.1.1.2 h.1.2 h.2
theorem ok_left_holds (T : Top K mg) : FnOk P w K mg base CX0 2 (He.fAd K ("left_holds", none)) (fdOf K ("left_holds", none)) ["links", "gap"] (spLH K) := by
  refine fd_ok T.d_left_holds sc_left_holds (fun vs H Q E h => ?_) (fun cdv A outer s H vs Q E hr h => ?_)
  · obtain ⟨p, n, s, g, rfl, _⟩ := h
    rfl
  · obtain ⟨p, n, sg, g, rfl, S, W, g0, g1, k⟩ := h
    obtain ⟨dx, aL, aR, aF, S'⟩ := id S
    refine ⟨_, pss_one (ps_ret (pe_cmpR op_eq (pe_meth (pv 0) T.c_Links T.m_right (ok_right T) hr (b_Links_right T) .nil pass0 (pa_cons (pv 1) pa_nil)) (pe_op op_add (pv 1) pe_int) (nomark _))), ?_⟩
    refine ⟨_, rfl, p, dx, _, rfl, S'.ob, lfno (by decide +kernel), _, rfl, p, n, sg, g, rfl, S, W.lR, g0, g1, _, rfl, _, _, rfl, rfl, rfl, ?_⟩
    show Q (.bl (decide (V.int (gi sg.R g) = V.int (g + 1)))) H
    rw [dec_int, Bool.beq_eq_decide_eq]
    exact k
theorem ok_right_holds (T : Top K mg) : FnOk P w K mg base CX0 2 (He.fAd K ("right_holds", none)) (fdOf K ("right_holds", none)) ["links", "gap"] (spRH K) := by
  refine fd_ok T.d_right_holds sc_right_holds (fun vs H Q E h => ?_) (fun cdv A outer s H vs Q E hr h => ?_)
  · obtain ⟨p, n, s, g, rfl, _⟩ := h
    rfl
  · obtain ⟨p, n, sg, g, rfl, S, W, g0, g1, k⟩ := h
    obtain ⟨dx, aL, aR, aF, S'⟩ := id S
    refine ⟨_, pss_one (ps_ret (pe_cmpR op_eq (pe_meth (pv 0) T.c_Links T.m_left (ok_left T) hr (b_Links_left T) .nil pass0 (pa_cons (pe_op op_add (pv 1) pe_int) pa_nil)) (pv 1) (nomark _))), ?_⟩
    refine ⟨_, rfl, p, dx, _, rfl, S'.ob, lfno (by decide +kernel), _, rfl, _, _, rfl, rfl, p, n, sg, g + 1, rfl, S, W.lL, by omega, by omega, _, rfl, rfl, ?_⟩
    show Q (.bl (decide (V.int (gi sg.L (g + 1)) = V.int g))) H
    rw [dec_int, Bool.beq_eq_decide_eq]
    exact k
theorem ok_foreign_writes (T : Top K mg) : FnOk P w K mg base CX0 3 (He.fAd K ("foreign_writes", none)) (fdOf K ("foreign_writes", none)) ["links", "operation"] (spFW K) := by
  refine fd_ok T.d_foreign_writes sc_foreign_writes (fun vs H Q E h => ?_) (fun cdv A outer s H vs Q E hr h => ?_)
  · obtain ⟨p, n, s, op, rfl, _⟩ := h
    rfl
  · obtain ⟨p, n, sg, op, rfl, O, k⟩ := h
    obtain ⟨S, W, ho, lg⟩ := id O
    have h1 := W.lo0 ho; have h2 := W.hi0 ho; have h3 := ho.1; have h4 := ho.2; have h5 := ho.ne
    obtain ⟨dx, aL, aR, aF, S'⟩ := id S
    have hr1 : Room 1 _ := hr.mono (by decide)
    have nd := sc_foreign_writes.nd
    refine ⟨_, pss_cons (ps_expr (pe_call (ok_check_operation T) hr1 rfl T.g_check_operation T.d_check_operation.kp (b_check_operation T) .nil pass0 (pa_cons (pe_fld (pv 0) rfl) (pa_cons (pv 1) (pa_cons pe_int pa_nil)))))
      (pss_cons (ps_set (i := 2) nd rfl (Or.inl rfl) (pe_callB call_abs (by rfl) T.n_abs (by decide +kernel) (pa_cons (pv 1) pa_nil)))
      (pss_cons (ps_if (pt_cmpR op_ne (pe_meth (pv 0) T.c_Links T.m_operation_on (ok_operation_on T) hr1 (b_Links_operation_on T) .nil pass0 (pa_cons (pv 2) pa_nil)) (pv 1) (nomark _)) (pss_one ps_never) pss_nil)
      (pss_cons (ps_set (i := 3) nd rfl (Or.inl rfl) (pe_meth (pv 0) T.c_Links T.m_left (ok_left T) hr1 (b_Links_left T) .nil pass0 (pa_cons (pv 2) pa_nil)))
      (pss_cons (ps_set (i := 4) nd rfl (Or.inl rfl) (pe_meth (pv 0) T.c_Links T.m_right (ok_right T) hr1 (b_Links_right T) .nil pass0 (pa_cons (pv 2) pa_nil)))
      (pss_cons (ps_set (i := 5) nd rfl (Or.inl rfl) (pe_lst pa_nil))
      (Evl.pss_cut (ps_if (PW.pt (pw_and (pt_cmpR op_ne (pv 3) (pe_op op_sub (pv 2) pe_int) (nomark _)) (pw_and1 (pt_val (pe_call (ok_left_holds T) hr rfl T.g_left_holds T.d_left_holds.kp (b_left_holds T) .nil pass0 (pa_cons (pv 0) (pa_cons (pv 3) pa_nil)))))))
        (pss_one (ps_expr (pe_bm PySem.F.plainAttrs_list PySem.F.slot_list_append PySem.F.type_list_append mt_append (pv 5) (pa_cons (pv 3) pa_nil)))) pss_nil)
      (Evl.pss_cut (ps_if (PW.pt (pw_and (pt_cmpR op_ne (pv 4) (pe_op op_add (pv 2) pe_int) (nomark _)) (pw_and1 (pt_val (pe_call (ok_right_holds T) hr rfl T.g_right_holds T.d_right_holds.kp (b_right_holds T) .nil pass0 (pa_cons (pv 0) (pa_cons (pe_op op_sub (pv 4) pe_int) pa_nil)))))))
        (pss_one (ps_expr (pe_bm PySem.F.plainAttrs_list PySem.F.slot_list_append PySem.F.type_list_append mt_append (pv 5) (pa_cons (pe_op op_sub (pv 4) pe_int) pa_nil)))) pss_nil)
      (pss_one (ps_ret (pv 5)))))))))), ?_⟩
    refine ⟨_, rfl, p, _, dx, _, _, rfl, S'.ob, T.c_Links, T.na_size, lf_size, _, rfl, n, op, 0, rfl, ho, ?_⟩
    refine ⟨_, rfl, op, rfl, _, rfl, p, dx, _, rfl, S'.ob, lfno (by decide +kernel), _, rfl, p, n, sg, ab op, rfl, S, W.lF, h3, h4, ?_⟩
    refine ⟨_, rfl, rfl, _, rfl, nF (congrArg V.int (op_eq_on h5 lg)) ?_⟩
    refine ⟨_, rfl, p, dx, _, rfl, S'.ob, lfno (by decide +kernel), _, rfl, p, n, sg, ab op, rfl, S, W.lL, h3, by omega, ?_⟩
    refine ⟨_, rfl, p, dx, _, rfl, S'.ob, lfno (by decide +kernel), _, rfl, p, n, sg, ab op, rfl, S, W.lR, by omega, h4, ?_⟩
    refine ⟨by decide, fun a ha => ?_⟩
    have same : ∀ o, Same H (upd H a o) := fun o b u e => by rw [upd_ne (ne_of_none e ha)]; exact e
    have e5 : (if op < 0 then -op else op) = ab op := rfl
    -- if left != node - 1 and left_holds(links, left): gaps.append(left)
    refine ⟨fun σ' H' => σ' = [some (.ref p), some (.int op), some (.int (ab op)), some (.int (lo sg op)), some (.int (hi sg op)), some (.ref a)] ∧ H' = upd H a (.lst ((if fgl sg op = true then [lo sg op] else []).map V.int)), ?_, ?_⟩
    · refine ⟨_, rfl, _, rfl, _, _, rfl, rfl, rfl, _, rfl, ?_⟩
      by_cases c1 : lo sg op = ab op - 1
      · have f : fgl sg op = false := by unfold fgl; rw [decide_eq_false (fun z => z c1)]; rfl
        refine nF (congrArg V.int c1) (iteF ⟨rfl, ?_⟩)
        rw [f]; rfl
      · refine nT (fun z => c1 (V.int.inj z)) ⟨_, rfl, _, rfl, p, n, sg, lo sg op, rfl, S.same (same _), W, h1.1, by omega, _, rfl, ?_⟩
        by_cases c2 : gi sg.R (lo sg op) = lo sg op + 1
        · have f : fgl sg op = true := by unfold fgl; rw [decide_eq_true c1, decide_eq_true c2]; rfl
          refine dT c2 ⟨_, rfl, Or.inl ⟨rfl, _, Or.inl (Or.inl upd_same)⟩, _, rfl, a, _, _, rfl, rfl, upd_same, by decide, rfl, ?_⟩
          rw [f, upd_upd]; rfl
        · have f : fgl sg op = false := by unfold fgl; rw [decide_eq_false c2, Bool.and_false]
          refine dF c2 ⟨rfl, ?_⟩
          rw [f]; rfl
    rintro _ _ ⟨rfl, rfl⟩
    -- if right != node + 1 and right_holds(links, right - 1): gaps.append(right - 1)
    refine ⟨fun σ' H' => σ' = [some (.ref p), some (.int op), some (.int (ab op)), some (.int (lo sg op)), some (.int (hi sg op)), some (.ref a)] ∧ H' = upd H a (.lst ((fws sg op).map V.int)), ?_, ?_⟩
    · refine ⟨_, rfl, _, rfl, _, _, rfl, rfl, rfl, _, rfl, ?_⟩
      by_cases c1 : hi sg op = ab op + 1
      · have f : fgr sg op = false := by unfold fgr; rw [decide_eq_false (fun z => z c1)]; rfl
        refine nF (congrArg V.int c1) (iteF ⟨rfl, ?_⟩)
        rw [show fws sg op = (if fgl sg op = true then [lo sg op] else []) by unfold fws; rw [f]; simp]
      · refine nT (fun z => c1 (V.int.inj z)) ⟨_, rfl, _, rfl, _, _, rfl, rfl, p, n, sg, hi sg op - 1, rfl, S.same (same _), W, by omega, by omega, _, rfl, ?_⟩
        by_cases c2 : gi sg.L (hi sg op) = hi sg op - 1
        · have f : fgr sg op = true := by unfold fgr; rw [decide_eq_true c1, decide_eq_true c2]; rfl
          refine dT (by rw [show hi sg op - 1 + 1 = hi sg op by omega]; exact c2) ⟨_, rfl, Or.inl ⟨rfl, _, Or.inl (Or.inl upd_same)⟩, _, rfl, _, _, rfl, rfl, a, _, _, rfl, rfl, upd_same, ?_, rfl, ?_⟩
          · rw [List.length_map]; exact small1000 (by split <;> simp)
          · rw [show fws sg op = (if fgl sg op = true then [lo sg op] else []) ++ [hi sg op - 1] by unfold fws; rw [f]; simp, upd_upd, List.map_append]; rfl
        · have f : fgr sg op = false := by unfold fgr; rw [decide_eq_false c2, Bool.and_false]
          refine dF (by rw [show hi sg op - 1 + 1 = hi sg op by omega]; exact c2) ⟨rfl, ?_⟩
          rw [show fws sg op = (if fgl sg op = true then [lo sg op] else []) by unfold fws; rw [f]; simp]
    rintro _ _ ⟨rfl, rfl⟩
    exact ⟨_, rfl, k _ a (same _) ha upd_same⟩
end
end Lk

set_option maxHeartbeats 4000000
/-! What the modes ask, further. -/
namespace Lk
open PySem PySem.Spec PyProof.Rows L2
theorem map_at {α : Type} {l : List α} {f : α → V} {i : Nat} {y : V} (h : (l.map f)[i]? = some y) : ∃ x, l[i]? = some x ∧ y = f x := by
  rw [List.getElem?_map] at h
  cases e : l[i]? with
  | none => rw [e] at h; cases h
  | some x => rw [e] at h; exact ⟨x, rfl, (Option.some.inj h).symm⟩
theorem take_snoc {α : Type} {l : List α} {i : Nat} {x : α} (h : l[i]? = some x) : l.take (i + 1) = l.take i ++ [x] := by
  rw [List.take_add_one, h]; rfl
/-- all but what stands at a is kept -/
def But (a : Addr) (H H' : Hp) : Prop := ∀ b o, H b = some o → b ≠ a → H' b = some o
theorem But.refl {a : Addr} {H : Hp} : But a H H := fun _ _ e _ => e
theorem But.trans {a : Addr} {H H1 H2 : Hp} (x : But a H H1) (y : But a H1 H2) : But a H H2 := fun b o e n => y b o (x b o e n) n
theorem But.upd {a : Addr} {H H1 : Hp} {o : HO} (x : But a H H1) : But a H (upd H1 a o) := fun b u e n => by rw [upd_ne n]; exact x b u e n
theorem But.same {a : Addr} {H H1 H2 : Hp} (x : But a H H1) (y : Same H1 H2) : But a H H2 := fun b o e n => y b o (x b o e n)
theorem But.of {a : Addr} {H H1 : Hp} (x : Same H H1) : But a H H1 := fun b o e _ => x b o e
/-- .. where a was free before -/
theorem But.fresh {a : Addr} {H H1 H2 : Hp} (s : Same H H1) (n : H a = none) (x : But a H1 H2) : Same H H2 := fun b o e => x b o (s b o e) (ne_of_none e n)
theorem Same.new {H : Hp} {a : Addr} {o : HO} (h : H a = none) : Same H (upd H a o) := fun b u e => by rw [upd_ne (ne_of_none e h)]; exact e
section
variable {P : Program} {w : World} {K : PySem.W.Frag} {mg : Str → Option Value} {base : Heap}
theorem ok_check_legal (T : Top K mg) : FnOk P w K mg base CX0 2 (He.fAd K ("_check_legal", none)) (fdOf K ("_check_legal", none)) ["links", "operation", "index"] (spLegal K) := by
  refine fd_ok T.d__check_legal sc__check_legal (fun vs H Q E h => ?_) (fun cdv A outer s H vs Q E hr h => ?_)
  · obtain ⟨p, n, s, op, i, rfl, _⟩ := h
    rfl
  · obtain ⟨p, n, sg, op, i, rfl, O, k⟩ := h
    obtain ⟨S, W, ho, lg⟩ := id O
    obtain ⟨dx, aL, aR, aF, S'⟩ := id S
    refine ⟨_, pss_cons (ps_expr (pe_call (ok_check_operation T) hr rfl T.g_check_operation T.d_check_operation.kp (b_check_operation T) .nil pass0 (pa_cons (pe_fld (pv 0) rfl) (pa_cons (pv 1) (pa_cons (pv 2) pa_nil)))))
      (pss_one (ps_if (pt_cmpR op_ne (pv 1) (pe_meth (pv 0) T.c_Links T.m_operation_on (ok_operation_on T) hr (b_Links_operation_on T) .nil pass0 (pa_cons (pe_callB call_abs (by rfl) T.n_abs (by decide +kernel) (pa_cons (pv 1) pa_nil)) pa_nil)) (nomark _)) (pss_one ps_never) pss_nil)), ?_⟩
    refine ⟨_, rfl, p, _, dx, _, _, rfl, S'.ob, T.c_Links, T.na_size, lf_size, _, rfl, _, rfl, n, op, i, rfl, ho, ?_⟩
    exact ⟨_, rfl, _, rfl, p, dx, _, rfl, S'.ob, lfno (by decide +kernel), _, rfl, op, rfl, p, n, sg, ab op, rfl, S, W.lF, ho.1, ho.2, rfl, _, rfl, nF (congrArg V.int (op_eq_on ho.ne lg).symm) k⟩
theorem ok_last_holders (T : Top K mg) : FnOk P w K mg base CX0 4 (He.fAd K ("_last_holders", none)) (fdOf K ("_last_holders", none)) ["links", "operation"] (spHolders K) := by
  refine fd_ok T.d__last_holders sc__last_holders (fun vs H Q E h => ?_) (fun cdv A outer s H vs Q E hr h => ?_)
  · obtain ⟨p, n, s, op, rfl, _⟩ := h
    rfl
  · obtain ⟨p, n, sg, op, rfl, O, k⟩ := h
    obtain ⟨S, W, ho, lg⟩ := id O
    obtain ⟨dx, aL, aR, aF, S'⟩ := id S
    have h1 := W.lo0 ho; have h2 := W.hi0 ho; have h3 := ho.1; have h4 := ho.2
    have hr1 : Room 1 _ := hr.mono (by decide)
    have hr2 : Room 2 _ := hr.mono (by decide)
    have nd := sc__last_holders.nd
    refine ⟨_, pss_cons (ps_set (i := 2) nd rfl (Or.inl rfl) (pe_meth (pv 0) T.c_Links T.m_left (ok_left T) hr1 (b_Links_left T) .nil pass0 (pa_cons (pe_callB call_abs (by rfl) T.n_abs (by decide +kernel) (pa_cons (pv 1) pa_nil)) pa_nil)))
      (pss_cons (ps_set (i := 3) nd rfl (Or.inl rfl) (pe_lst pa_nil))
      (pss_cons (ps_for PassesOwn.never rfl (pi_list (pe_call (ok_foreign_writes T) hr rfl T.g_foreign_writes T.d_foreign_writes.kp (b_foreign_writes T) .nil pass0 (pa_cons (pv 0) (pa_cons (pv 1) pa_nil)))) (pg_name (i := 4) nd rfl (Or.inl rfl))
        (pss_one (ps_if (pt_cmpR op_eq (pv 4) (pv 2) (nomark _))
          (pss_one (ps_expr (pe_bm PySem.F.plainAttrs_list PySem.F.slot_list_append PySem.F.type_list_append mt_append (pv 3) (pa_cons (pe_ifExp (pt_val (pe_call (ok_right_holds T) hr2 rfl T.g_right_holds T.d_right_holds.kp (b_right_holds T) .nil pass0 (pa_cons (pv 0) (pa_cons (pv 4) pa_nil)))) (pe_op op_add (pv 4) pe_int) pe_non) pa_nil))))
          (pss_one (ps_expr (pe_bm PySem.F.plainAttrs_list PySem.F.slot_list_append PySem.F.type_list_append mt_append (pv 3) (pa_cons (pe_ifExp (pt_val (pe_call (ok_left_holds T) hr2 rfl T.g_left_holds T.d_left_holds.kp (b_left_holds T) .nil pass0 (pa_cons (pv 0) (pa_cons (pv 4) pa_nil)))) (pv 4) pe_non) pa_nil)))))))
      (pss_one (ps_ret (pv 3))))), ?_⟩
    refine ⟨_, rfl, p, dx, _, rfl, S'.ob, lfno (by decide +kernel), _, rfl, op, rfl, p, n, sg, ab op, rfl, S, W.lL, h3, by omega, ?_⟩
    refine ⟨by decide, fun hd hh => ?_⟩
    have s0 : Same H (upd H hd (.lst [])) := Same.new hh
    refine ⟨_, rfl, _, rfl, p, n, sg, op, rfl, O.same s0, fun H1 a s1 ha hli => ⟨a, rfl, ⟨_, SqL.of hli⟩, ?_⟩⟩
    have nad : a ≠ hd := fun e => by rw [e, upd_same] at ha; cases ha
    have hhd : H1 hd = some (.lst []) := s1 _ _ upd_same
    refine for_list (K := K) (a := a) (xs := (fws sg op).map V.int) (fun i σ' H' => ∃ v : Option V, σ' = [some (.ref p), some (.int op), some (.int (lo sg op)), some (.ref hd), v] ∧ But hd H1 H' ∧ H' hd = some (.lst (((fws sg op).take i).map (hold sg op))))
      ⟨none, rfl, But.refl, hhd⟩ (fun i σ' H' _ ⟨_, _, b, _⟩ => SqL.of (b a _ hli nad)) ?_ ?_
    · rintro i y σ' H' hix ⟨v, rfl, b, ehd⟩
      obtain ⟨g, hg, rfl⟩ := map_at hix
      have hgm := List.mem_of_getElem? hg
      have SL : LkS (CL K) H' p n sg := S.same (But.fresh (s0.trans s1) hh b)
      have hlen : ((fws sg op).take i).length < sizeLine := small1000 (Nat.le_trans (by rw [List.length_take]; exact Nat.min_le_right _ _) (Nat.le_trans (fws_len sg op) (by decide)))
      have st : ((fws sg op).take (i + 1)).map (hold sg op) = ((fws sg op).take i).map (hold sg op) ++ [hold sg op g] := by rw [take_snoc hg, List.map_append]; rfl
      refine ⟨_, rfl, _, rfl, rfl, _, rfl, ?_⟩
      by_cases c : g = lo sg op
      · refine dT (congrArg V.int c) ⟨_, rfl, Or.inl ⟨rfl, _, Or.inl (Or.inl ehd)⟩, _, rfl, _, rfl, p, n, sg, g, rfl, SL, W, by omega, by omega, _, rfl, ?_⟩
        have e1 : hold sg op g = if hl sg op = true then .int (lo sg op + 1) else .non := if_pos c
        by_cases c2 : gi sg.L (g + 1) = g
        · have f : Lk.hl sg op = true := by unfold Lk.hl; rw [← c]; exact decide_eq_true c2
          refine dT c2 ⟨_, rfl, _, _, rfl, rfl, hd, _, _, rfl, rfl, ehd, ?_, ?_⟩
          · rw [List.length_map]; exact hlen
          · refine ⟨_, rfl, b.upd, ?_⟩
            rw [upd_same, st, e1, if_pos f, c]
        · have f : ¬ Lk.hl sg op = true := by unfold Lk.hl; rw [← c]; simpa using c2
          refine dF c2 ⟨hd, _, _, rfl, rfl, ehd, ?_, ?_⟩
          · rw [List.length_map]; exact hlen
          · refine ⟨_, rfl, b.upd, ?_⟩
            rw [upd_same, st, e1, if_neg f]
      · have cg : g = hi sg op - 1 := (fws_at hgm).resolve_left c
        refine dF (fun z => c (V.int.inj z)) ⟨_, rfl, Or.inl ⟨rfl, _, Or.inl (Or.inl ehd)⟩, _, rfl, _, rfl, p, n, sg, g, rfl, SL, W, by omega, by omega, _, rfl, ?_⟩
        have e1 : hold sg op g = if Lk.hr sg op = true then .int (hi sg op - 1) else .non := if_neg c
        by_cases c2 : gi sg.R g = g + 1
        · have f : Lk.hr sg op = true := by unfold Lk.hr; rw [← cg]; exact decide_eq_true (by omega)
          refine dT c2 ⟨_, rfl, hd, _, _, rfl, rfl, ehd, ?_, ?_⟩
          · rw [List.length_map]; exact hlen
          · refine ⟨_, rfl, b.upd, ?_⟩
            rw [upd_same, st, e1, if_pos f, cg]
        · have f : ¬ Lk.hr sg op = true := by unfold Lk.hr; rw [← cg]; simp; omega
          refine dF c2 ⟨hd, _, _, rfl, rfl, ehd, ?_, ?_⟩
          · rw [List.length_map]; exact hlen
          · refine ⟨_, rfl, b.upd, ?_⟩
            rw [upd_same, st, e1, if_neg f]
    · rintro σ' H' ⟨v, rfl, b, ehd⟩
      rw [List.length_map, List.take_length] at ehd
      exact ⟨_, rfl, k H' hd (But.fresh (s0.trans s1) hh b) hh ehd⟩
theorem ok_loses_gap (T : Top K mg) : FnOk P w K mg base CX0 5 (He.fAd K ("_loses_gap", none)) (fdOf K ("_loses_gap", none)) ["links", "operation"] (spTest K refS) := by
  refine fd_ok T.d__loses_gap sc__loses_gap (fun vs H Q E h => ?_) (fun cdv A outer s H vs Q E hr h => ?_)
  · obtain ⟨p, n, s, op, rfl, _⟩ := h
    rfl
  · obtain ⟨p, n, sg, op, rfl, O, k⟩ := h
    refine ⟨_, pss_one (ps_ret (pe_cmpR op_in_seq pe_non (pe_call (ok_last_holders T) hr rfl T.g__last_holders T.d__last_holders.kp (b__last_holders T) .nil pass0 (pa_cons (pv 0) (pa_cons (pv 1) pa_nil))) (by rfl))), ?_⟩
    refine ⟨_, rfl, _, rfl, p, n, sg, op, rfl, O, fun H1 a s1 ha hli => ⟨a, _, rfl, Or.inl (SqL.of hli), rfl, ?_, ?_⟩⟩
    · rw [List.all_eq_true]
      intro x hx
      obtain ⟨g, _, rfl⟩ := List.mem_map.mp hx
      unfold hold
      split <;> split <;> rfl
    · have e := none_in O.wf O.isop
      show Q (.bl (inV .non (holders sg op))) H1
      rw [e]
      exact k H1 s1
theorem ok_leaves (T : Top K mg) : FnOk P w K mg base CX0 5 (He.fAd K ("_leaves_sole_holder", none)) (fdOf K ("_leaves_sole_holder", none)) ["links", "operation"] (spTest K refG) := by
  refine fd_ok T.d__leaves_sole_holder sc__leaves_sole_holder (fun vs H Q E h => ?_) (fun cdv A outer s H vs Q E hr h => ?_)
  · obtain ⟨p, n, s, op, rfl, _⟩ := h
    rfl
  · obtain ⟨p, n, sg, op, rfl, O, k⟩ := h
    obtain ⟨S, W, ho, lg⟩ := id O
    obtain ⟨dx, aL, aR, aF, S'⟩ := id S
    have h1 := W.lo0 ho; have h2 := W.hi0 ho; have h3 := ho.1; have h4 := ho.2
    have hr1 : Room 1 _ := hr.mono (by decide)
    have nd := sc__leaves_sole_holder.nd
    refine ⟨_, pss_cons (ps_for PassesOwn.never rfl (pi_list (pe_call (ok_last_holders T) hr rfl T.g__last_holders T.d__last_holders.kp (b__last_holders T) .nil pass0 (pa_cons (pv 0) (pa_cons (pv 1) pa_nil)))) (pg_name (i := 2) nd rfl (Or.inl rfl))
        (pss_one (ps_if (PW.pt (pw_or (pt_cmpR op_isN (pv 2) pe_non (nomark _)) (pw_or1 (pt_not (pt_val (pe_meth (pv 0) T.c_Links T.m_is_out (ok_is_out T) hr1 (b_Links_is_out T) .nil pass0 (pa_cons (pv 2) pa_nil))))))) (pss_one (ps_ret pe_bl)) pss_nil)))
      (pss_one (ps_ret pe_bl)), ?_⟩
    refine ⟨_, rfl, _, rfl, p, n, sg, op, rfl, O, fun H1 a s1 ha hli => ⟨a, rfl, ⟨_, SqL.of hli⟩, ?_⟩⟩
    have O1 := O.same s1
    obtain ⟨S1, _, _, _⟩ := id O1
    obtain ⟨dx1, aL1, aR1, aF1, S1'⟩ := id S1
    refine for_list (K := K) (a := a) (xs := holders sg op) (fun i σ' H' => ∃ v : Option V, σ' = [some (.ref p), some (.int op), v] ∧ H' = H1 ∧ ((holders sg op).take i).any (badH sg) = false)
      ⟨none, rfl, rfl, rfl⟩ (fun i σ' H' _ ⟨_, _, e, _⟩ => by rw [e]; exact SqL.of hli) ?_ ?_
    · rintro i y σ' H' hix ⟨v, rfl, rfl, hb⟩
      have hm := List.mem_of_getElem? hix
      obtain ⟨g, hg, ey⟩ := List.mem_map.mp hm
      have bad : badH sg y = true → refG sg op = true := fun z => by
        rw [← bad_in W ho, List.any_eq_true]
        exact ⟨y, hm, z⟩
      have fine : badH sg y = false → ((holders sg op).take (i + 1)).any (badH sg) = false := fun z => by
        rw [take_snoc hix, List.any_append, hb]
        simp [z]
      have num : y = .non ∨ ∃ x : Int, y = .int x ∧ 0 ≤ x ∧ x ≤ n + 1 := by
        rw [← ey]
        unfold hold
        split
        · split
          · exact .inr ⟨_, rfl, by omega, by omega⟩
          · exact .inl rfl
        · split
          · exact .inr ⟨_, rfl, by omega, by omega⟩
          · exact .inl rfl
      refine ⟨_, rfl, rfl, _, rfl, ?_⟩
      rcases num with e | ⟨x, e, x0, x1⟩
      · have e2 := bad (by rw [e]; rfl)
        refine dT e ?_
        show Q (.bl true) _
        rw [← e2]
        exact k _ s1
      · subst e
        refine dF (fun z => by cases z) ⟨_, rfl, p, dx1, _, rfl, S1'.ob, lfno (by decide +kernel), _, rfl, p, n, sg, x, rfl, S1, W.lF, x0, x1, _, rfl, ?_⟩
        cases c : gb sg.F x with
        | true =>
          refine iteF ⟨_, rfl, rfl, fine ?_⟩
          show (!gb sg.F x) = false
          rw [c]; rfl
        | false =>
          have e2 := bad (by show (!gb sg.F x) = true; rw [c]; rfl)
          refine iteT ?_
          show Q (.bl true) _
          rw [← e2]
          exact k _ s1
    · rintro σ' H' ⟨v, rfl, rfl, hb⟩
      rw [List.take_length, bad_in W ho] at hb
      show Q (.bl false) _
      rw [← hb]
      exact k _ s1
theorem ok_is_local (T : Top K mg) : FnOk P w K mg base CX0 2 (He.fAd K ("_is_local", none)) (fdOf K ("_is_local", none)) ["links", "operation"] (spTest K locl) := by
  refine fd_ok T.d__is_local sc__is_local (fun vs H Q E h => ?_) (fun cdv A outer s H vs Q E hr h => ?_)
  · obtain ⟨p, n, s, op, rfl, _⟩ := h
    rfl
  · obtain ⟨p, n, sg, op, rfl, O, k⟩ := h
    obtain ⟨S, W, ho, lg⟩ := id O
    obtain ⟨dx, aL, aR, aF, S'⟩ := id S
    have h1 := W.lo0 ho; have h2 := W.hi0 ho; have h3 := ho.1; have h4 := ho.2
    have nd := sc__is_local.nd
    have k : Q (.bl (locl sg op)) H := k H (Same.refl H)
    refine ⟨_, pss_cons (ps_set (i := 2) nd rfl (Or.inl rfl) (pe_callB call_abs (by rfl) T.n_abs (by decide +kernel) (pa_cons (pv 1) pa_nil)))
      (pss_cons (ps_set (i := 3) nd rfl (Or.inl rfl) (pe_meth (pv 0) T.c_Links T.m_left (ok_left T) hr (b_Links_left T) .nil pass0 (pa_cons (pv 2) pa_nil)))
      (pss_cons (ps_set (i := 4) nd rfl (Or.inl rfl) (pe_meth (pv 0) T.c_Links T.m_right (ok_right T) hr (b_Links_right T) .nil pass0 (pa_cons (pv 2) pa_nil)))
      (pss_cons (ps_if (PW.pt (pw_or (pt_val (pe_meth (pv 0) T.c_Links T.m_is_out (ok_is_out T) hr (b_Links_is_out T) .nil pass0 (pa_cons (pv 3) pa_nil))) (pw_or1 (pt_val (pe_meth (pv 0) T.c_Links T.m_is_out (ok_is_out T) hr (b_Links_is_out T) .nil pass0 (pa_cons (pv 4) pa_nil)))))) (pss_one (ps_ret pe_bl)) pss_nil)
      (pss_cons (ps_if (pt_cmpR op_lt (pv 1) pe_int (nomark _))
        (pss_one (ps_ret (pe_and (pe_cmpR op_eq (pe_meth (pv 0) T.c_Links T.m_right (ok_right T) hr (b_Links_right T) .nil pass0 (pa_cons (pv 3) pa_nil)) (pv 2) (nomark _)) (pe_one (pe_cmpR op_eq (pe_meth (pv 0) T.c_Links T.m_left (ok_left T) hr (b_Links_left T) .nil pass0 (pa_cons (pv 4) pa_nil)) (pv 2) (nomark _)))))) pss_nil)
      (pss_one (ps_ret (pe_and (pe_cmpR op_eq (pe_meth (pv 0) T.c_Links T.m_right (ok_right T) hr (b_Links_right T) .nil pass0 (pa_cons (pv 3) pa_nil)) (pv 4) (nomark _)) (pe_one (pe_cmpR op_eq (pe_meth (pv 0) T.c_Links T.m_left (ok_left T) hr (b_Links_left T) .nil pass0 (pa_cons (pv 4) pa_nil)) (pv 3) (nomark _)))))))))), ?_⟩
    refine ⟨_, rfl, op, rfl, ?_⟩
    refine ⟨_, rfl, p, dx, _, rfl, S'.ob, lfno (by decide +kernel), _, rfl, p, n, sg, ab op, rfl, S, W.lL, h3, by omega, ?_⟩
    refine ⟨_, rfl, p, dx, _, rfl, S'.ob, lfno (by decide +kernel), _, rfl, p, n, sg, ab op, rfl, S, W.lR, by omega, h4, ?_⟩
    refine ⟨_, rfl, p, dx, _, rfl, S'.ob, lfno (by decide +kernel), _, rfl, p, n, sg, lo sg op, rfl, S, W.lF, h1.1, by omega, _, rfl, ?_⟩
    unfold locl at k
    cases c1 : gb sg.F (lo sg op) with
    | true =>
      rw [c1, Bool.true_or, if_pos rfl] at k
      exact iteT k
    | false =>
    rw [c1, Bool.false_or] at k
    refine iteF ⟨_, rfl, p, dx, _, rfl, S'.ob, lfno (by decide +kernel), _, rfl, p, n, sg, hi sg op, rfl, S, W.lF, by omega, by omega, _, rfl, ?_⟩
    cases c2 : gb sg.F (hi sg op) with
    | true =>
      rw [c2, if_pos rfl] at k
      exact iteT k
    | false =>
    rw [c2, if_neg (by decide)] at k
    refine iteF ⟨_, rfl, _, _, rfl, rfl, _, rfl, ?_⟩
    by_cases c : op < 0
    · rw [if_pos c] at k
      refine dT c ⟨_, rfl, p, dx, _, rfl, S'.ob, lfno (by decide +kernel), _, rfl, p, n, sg, lo sg op, rfl, S, W.lR, by omega, by omega, _, rfl, rfl, _, rfl, ?_⟩
      by_cases q : gi sg.R (lo sg op) = ab op
      · rw [decide_eq_true q, Bool.true_and] at k
        refine dT (congrArg V.int q) ⟨_, rfl, p, dx, _, rfl, S'.ob, lfno (by decide +kernel), _, rfl, p, n, sg, hi sg op, rfl, S, W.lL, by omega, by omega, _, rfl, rfl, ?_⟩
        show Q (.bl (decide (V.int (gi sg.L (hi sg op)) = V.int (ab op)))) H
        rw [dec_int, Bool.beq_eq_decide_eq]
        exact k
      · rw [decide_eq_false q, Bool.false_and] at k
        exact dF (fun z => q (V.int.inj z)) k
    · rw [if_neg c] at k
      refine dF c ⟨_, rfl, p, dx, _, rfl, S'.ob, lfno (by decide +kernel), _, rfl, p, n, sg, lo sg op, rfl, S, W.lR, by omega, by omega, _, rfl, rfl, _, rfl, ?_⟩
      by_cases q : gi sg.R (lo sg op) = hi sg op
      · rw [decide_eq_true q, Bool.true_and] at k
        refine dT (congrArg V.int q) ⟨_, rfl, p, dx, _, rfl, S'.ob, lfno (by decide +kernel), _, rfl, p, n, sg, hi sg op, rfl, S, W.lL, by omega, by omega, _, rfl, rfl, ?_⟩
        show Q (.bl (decide (V.int (gi sg.L (hi sg op)) = V.int (lo sg op)))) H
        rw [dec_int, Bool.beq_eq_decide_eq]
        exact k
      · rw [decide_eq_false q, Bool.false_and] at k
        exact dF (fun z => q (V.int.inj z)) k
end
end Lk

set_option maxHeartbeats 4000000
/-! super() in a method: the object, the method of the next class. -/
namespace Lk
open PySem PySem.Spec PyProof.Rows L2
open PySem.W (ks_superObj ks_superIn methodObj)
/-- what stands behind a def that says super() -/
structure SupF (P : Program) (K : PySem.W.Frag) (f cda cc D : Addr) (fd : FuncData) : Prop where
  lk : ∃ (oc : Value) (od : Option Addr) (osl : Array (Option Value)), K.lookup f = some ⟨oc, od, .func fd, osl⟩
  par : ∃ ar : Arg, (fd.params.posonlyargs ++ fd.params.args).head? = some ar ∧ ar.arg = "self"
  code : ∃ (co : Value) (cd : Option Addr) (vs : Array Value) (cs : Array (Option Value)) (file : Str) (tf : Tok), K.lookup cda = some ⟨co, cd, .fields vs, cs⟩ ∧ vs[2]? = some (.str file tf) ∧ ((P.main.file : Str) == file) = true
  cell : ∃ (co : Value) (cd : Option Addr) (cs : Array (Option Value)), K.lookup cc = some ⟨co, cd, .cell (some (.ref D)), cs⟩
  cls : ∃ cd, PySem.W.clsIn K D = some cd
  tp : (P.main.scope.names.lookup ("super" : Str)).isSome = false
/-- how the running frame lies to it -/
structure SupX (X : Cx) (f cda cc : Addr) : Prop where
  fu : X.env.func = some f
  co : X.env.code = .ref cda
  sup : X.env.kindOf "super" = some .globalImplicit
  cls : X.env.kindOf "__class__" = some .free
  cell : X.env.cells.lookup ("__class__" : Str) = some cc
  s0 : X.N[0]? = some ("self" : Str)
  self : X.env.kindOf "self" = some .local
section
variable {X : Cx} {pins : List (Addr × Obj)} {σ : L2.St} {H : Hp} {s : Shared} {f cda cc D x C : Addr} {fd : FuncData} {E : Value → Shared → Prop}
theorem cls_at {K : PySem.W.Frag} {h : Heap} {D : Addr} {cd : ClassData} (k : K.In h) (e : PySem.W.clsIn K D = some cd) : ∃ o, h.get? D = some o ∧ o.data = .cls cd := by
  unfold PySem.W.clsIn at e
  split at e
  · rename_i q
    cases e
    exact ⟨_, k _ _ q, rfl⟩
  · cases e
theorem sup_new {body : List Stmt} {p0 p1 : Pos} {attr : Str} {whole : Sem Value} {ox : Obj} {Q : Value → Shared → Prop} (S : SupF X.prog X.K f cda cc D fd) (Y : SupX X f cda cc) (nm : X.mg "super" = none) (I : Inv X pins σ H s)
    (hs : σ[0]? = some (some (.ref x))) (hx : s.heap.get? x = some ox) (hc : ox.cls = .ref C) (hn : ∀ c, ox.data ≠ .cls c) (hm : PySem.W.mroIn X.K C (.ref D) = some true) (ha : (attr == ("__class__" : Str)) = false)
    (h : ∀ so s', s'.heap.get? x = some ox → Inv X ((so, ks_superObj D x C) :: pins) σ H s' → Q (.ref so) s') :
    _root_.PySem.wpAt (model X.prog X.w) X.A (.func body X.env) (attributeBase (.Call (.Name "super" p0) [] [] p1) attr X.env whole) Q E s := by
  obtain ⟨oc, od, osl, l1⟩ := S.lk
  obtain ⟨ar, hp, har⟩ := S.par
  obtain ⟨co, cdd, vs, cs, file, tf, l2, hv, hf⟩ := S.code
  obtain ⟨co', cdd', cs', l3⟩ := S.cell
  obtain ⟨cd, l4⟩ := S.cls
  have kin := I.kIn
  obtain ⟨oD, hD, hDt⟩ := cls_at kin l4
  obtain ⟨mb, hb1, hb2⟩ := I.ok.mod.blt
  obtain ⟨m, hns, hl⟩ := id I.loc
  obtain ⟨u, ru, lk⟩ := hl 0 "self" (.ref x) Y.s0 hs (.inl Y.self)
  obtain rfl : u = Value.ref x := ru
  have mself : m "self" = some (.ref x) := by
    rcases lk with ⟨_, q⟩ | ⟨q, _⟩
    · exact q
    · rw [Y.self] at q
      rcases q with q | q <;> cases q
  refine ks_wpAt_super_base (f := f) (cc := cda) (ar := ar) Y.sup Y.cls ha Y.fu (kin _ _ l1) rfl hp Y.co (kin _ _ l2) rfl hv hf S.tp ?_
  rw [har]
  refine PySem.W.ks_loadName_global I.ok.kind Y.sup (PySem.Calls.loadGlobal_builtin (mg := X.mg) (mb := mb) (v := .type "super") ?_ nm ?_ ((hb2 _ (by decide +kernel)).trans (by decide +kernel)) ⟨rfl, ?_⟩)
  · rw [I.ok.glob]; exact I.ok.mod.glob.keeps I.bk
  · rw [I.ok.blt]; exact hb1.keeps I.bk
  refine wpAny_loadName_free I.ok.kind Y.cls Y.cell ⟨_, kin _ _ l3, rfl⟩ ?_
  refine wpAny_loadName_local I.ok.kind Y.self hns mself ?_
  obtain ⟨hh, g, d, t, os⟩ := s
  refine ks_wpAny_isType_cls hD hDt ⟨rfl, ?_⟩
  refine ks_wpAny_call_super hD hDt hx hc hn (PySem.W.looks_mroIn kin hm) fun h' e k => ?_
  exact h _ _ (k _ _ hx) (ClX.pin_new (t' := t) I k (Nat.le_refl _) e (fun v z => nomatch z))
/-- the object's class is no instance -/
theorem ins_ne {a : Addr} {dx : Addr} {fs : List (Str × V)} {cd : ClassData} (I : Inv X pins σ H s) (e : PySem.W.clsIn X.K C = some cd) {ox : Obj} (hx : s.heap.get? x = some ox) (hn : ∀ c, ox.data ≠ .cls c) : x ≠ C := fun q => by
  obtain ⟨o, h1, h2⟩ := cls_at I.kIn e
  rw [← q, hx] at h1
  cases h1
  exact hn _ h2
theorem sup_get {name : Str} {pl : Sem Bool} {so f2 : Addr} {ox : Obj} {A : Around} {Q : Value × List Value → Shared → Prop} (I : Inv X ((so, ks_superObj D x C) :: pins) σ H s) (hx : s.heap.get? x = some ox) (hn : ∀ c, ox.data ≠ .cls c) (ho : PySem.W.nsIn X.K cStatics "thirdparty.any" = some none)
    (hm : ks_superIn X.K C D name = some (some (.ref f2))) (ht : PySem.W.typeIn X.K (.ref f2) = some (.type "function")) (hc : (name == ("__class__" : Str)) = false)
    (h : ∀ q s', Inv X ((q, methodObj (.ref f2) (.ref x)) :: pins) σ H s' → X.base.get? q = none → Q (.ref q, []) s') : wpAny (model X.prog X.w) A (getMethod (.ref so) name pl) Q E s := by
  have hso := ClX.pin_at I
  have kin := I.kIn
  unfold ks_superIn at hm
  cases e : PySem.W.clsIn X.K C with
  | none => rw [e] at hm; cases hm
  | some cd =>
    rw [e] at hm
    have neC := ins_ne (a := x) (dx := x) (fs := []) I e hx hn
    obtain ⟨of, h1, h2⟩ : ∃ of, s.heap.get? f2 = some of ∧ of.cls = .type "function" := by
      cases z : X.K.lookup f2 with
      | none =>
        have ht : (X.K.lookup f2).map (·.cls) = some (.type "function") := ht
        rw [z] at ht; cases ht
      | some of =>
        have ht : (X.K.lookup f2).map (·.cls) = some (.type "function") := ht
        rw [z] at ht
        exact ⟨of, kin _ _ z, Option.some.inj ht⟩
    have I0 := ClX.unpin I
    obtain ⟨hh, g, d, t, os⟩ := s
    refine ks_wpAny_getMethod_super hso (PySem.W.looks_opaque kin ho) (l₀ := cd.mro) (fun A Q E s k q => wpAny_bind ((PySem.W.looks_clsIn kin e) A _ E s k (wpAny_pure q))) rfl kin hm h1 h2 neC hc ?_
    refine h _ _ (ClX.pin_new (o := methodObj (.ref f2) (.ref x)) I0 (fun b o z => Heap.get?_push_of_some _ z) (Nat.le_refl _) (Heap.get?_push_size _ rfl) (fun v z => nomatch z)) ?_
    exact ClX.base_none I0 (Nat.le_refl _)
end
/-- an expression, a statement at the head of the running def's body -/
structure PEA (X : Cx) (body : List Stmt) (e : Expr) (t : TE) : Prop where
  run : ∀ (pins : List (Addr × Obj)) (s : Shared) (σ : L2.St) (H : Hp) (Q : VK), Inv X pins σ H s → t σ H Q → _root_.PySem.wpAt (model X.prog X.w) X.A (.func body X.env) (eval e X.env) (EP X pins σ Q) X.xe s
structure PSA (X : Cx) (body : List Stmt) (st : Stmt) (t : TS) : Prop where
  run : ∀ (pins : List (Addr × Obj)) (s : Shared) (σ : L2.St) (H : Hp) (D : Ends), Inv X pins σ H s → t D σ H → _root_.PySem.wpAt (model X.prog X.w) X.A (.func body X.env) (exec st X.env) (SP X pins D) X.xe s
def tSupM (K : PySem.W.Frag) (D : Addr) (m : Str) (f2 : Addr) (sp : Sp) (E : XK) (t : TA) : TE := fun σ H Q => ∃ (x C dx : Addr) (fs : List (Str × V)), σ[0]? = some (some (.ref x)) ∧ H x = some (.ins C dx fs) ∧ PySem.W.mroIn K C (.ref D) = some true ∧
  ks_superIn K C D m = some (some (.ref f2)) ∧ t σ H fun vs H1 => sp (.ref x :: vs) H1 Q E
section
variable {X : Cx} {f cda cc D f2 : Addr} {fd : FuncData} {body : List Stmt}
theorem pea_sup {CX : CXT} {k : Nat} {sp : Sp} {E : XK} {e : Expr} {es : List Expr} {m : Str} {p0 p1 pos apos : Pos} {t : TA} {pl : Sem Bool} (S : SupF X.prog X.K f cda cc D fd) (Y : SupX X f cda cc) (nm : X.mg "super" = none) (ho : PySem.W.nsIn X.K cStatics "thirdparty.any" = some none)
    (ht : PySem.W.typeIn X.K (.ref f2) = some (.type "function")) (hf : PySem.W.fnIn X.K f2 = true) (hm : (m == ("__class__" : Str)) = false) (F : FnR X.prog X.w X.K X.mg X.base CX k f2 sp) (hr : Room k X.A) (hx : Passes CX X E) (ha : PA X (e :: es) t)
    (hst : starEach (e :: es) X.env = (false, eval e X.env) :: starEach es X.env := by rfl) (hpl : (backTo pos (starEach es X.env)).any (·.1) = false := by rfl)
    (he : eval (.Call (.Attribute (.Call (.Name "super" p0) [] [] p1) m apos) (e :: es) [] pos) X.env = (do
      let ov ← attributeBase (.Call (.Name "super" p0) [] [] p1) m X.env (eval (.Call (.Name "super" p0) [] [] p1) X.env)
      standAt apos.atName
      let (f, first) ← holding [ov] (getMethod ov m pl)
      callWith pos f first (backTo pos (starEach (e :: es) X.env)) []) := by rfl) :
    PEA X body (.Call (.Attribute (.Call (.Name "super" p0) [] [] p1) m apos) (e :: es) [] pos) (tSupM X.K D m f2 sp E t) := by
  refine ⟨fun pins s σ H Q I h => ?_⟩
  obtain ⟨x, C, dx, fs, h0, hi, h1, h2, q⟩ := h
  obtain ⟨mA, O, _⟩ := ins_get I.hok hi
  refine ks_wpAt_MethodCall (pl := pl) (sup_new (C := C) S Y nm I h0 O.obj rfl (fun c z => nomatch z) h1 hm fun so s1 hx1 I1 => ?_) he
  refine sup_get I1 hx1 (fun c z => nomatch z) ho h2 ht hm fun qa s2 I2 hb => ?_
  refine ClX.callwith_cm I2 hb hf (thn (ha.run pos _ s2 σ H _ I2 q) fun us s3 ⟨vs, H2, I3, rv, q2⟩ => ⟨⟨ClX.pin_at I3, I3.kIn⟩, ?_⟩) hst hpl
  have z : wpAny (model X.prog X.w) X.A (call (.ref qa) us) (EP X ((qa, methodObj (.ref f2) (.ref x)) :: pins) σ Q) X.xe s3 :=
    wpAny_call (PySem.W.method_call (ClX.pin_at I3) (run_fnR (us := .ref x :: us) (vs := .ref x :: vs) F hr hx I3 (.cons rfl rv) q2))
  exact thn z fun _ _ y => ClX.unpinE y
theorem psa_set {i : Nat} {x : Str} {e : Expr} {te : TE} {pos' pos : Pos} (hN : X.N.Nodup) (hi : X.N[i]? = some x) (hx : Loc X.env.scope x) (he : PEA X body e te) (hf : X.fn x = true ∨ X.env.scope.names.lookup x = some .local)
    (hs : swapsWith e (some (.Name x pos')) pos.line X.env = pure false := by rfl) : PSA X body (.Assign [.Name x pos'] e pos) (tAsg te (gName i)) := by
  refine ⟨fun pins s σ H D I h => ?_⟩
  refine ks_wpAt_Assign_Name (ks_wpAt_mono (he.run pins s σ H _ I h) (fun u s1 ⟨v, H1, I1, r, q⟩ => ?_) fun _ _ z => z) hs
  exact store_ok I1 hN hi hx r (fun s2 I2 => ⟨_, H1, I2, q⟩) hf
end
/-- a def whose first statement says super() -/
theorem fn_sup {CX : CXT} {P : Program} {w : World} {K : PySem.W.Frag} {mg : Str → Option Value} {base : Heap} {k : Nat} {f cda cc D : Addr} {name qual : Str} {params : Arguments} {st : Stmt} {rest : List Stmt} {scope : Scope} {dV kV doc pm ct : Value} {an : Option Addr} {N ps : List Str} {sp : Sp}
    (hfd : ∃ (oc : Value) (od : Option Addr) (osl : Array (Option Value)), K.lookup f = some ⟨oc, od, .func (PySem.W.fnX name qual params (st :: rest) scope [("__class__", cc)] dV kV doc pm an (.ref cda) ct), osl⟩)
    (hcd : PySem.W.codeIn K (.ref cda) qual = true) (hcell : ∃ (co : Value) (cd : Option Addr) (cs : Array (Option Value)), K.lookup cc = some ⟨co, cd, .cell (some (.ref D)), cs⟩)
    (S : NdefX.NScope N ps ["__class__"] scope) (len : ∀ vs H Q E, sp vs H Q E → vs.length = ps.length)
    (hbody : ∀ (A : Around) (outer : List Env) (s : Shared) (H : Hp) (vs : List V) (Q : VK) (E : XK), Room k (A.deeper (NdefX.envF ⟨name, qual, params, st :: rest, scope, [("__class__", cc)], cda⟩ f s.heap.objs.size)) → sp vs H Q E →
      ∃ t1 t2, PSA (NdefX.ncx CX P w K mg base N ⟨name, qual, params, st :: rest, scope, [("__class__", cc)], cda⟩ f A outer s H E) (st :: rest) st t1 ∧ PSs (NdefX.ncx CX P w K mg base N ⟨name, qual, params, st :: rest, scope, [("__class__", cc)], cda⟩ f A outer s H E) rest t2 ∧
        tSeq t1 t2 { nx := fun _ H' => Q .non H', rt := Q } (NdefX.startF N vs [some (.ref D)]) H) :
    FnOk P w K mg base CX (k + 1) f (PySem.W.fnX name qual params (st :: rest) scope [("__class__", cc)] dV kV doc pm an (.ref cda) ct) ps sp := by
  refine ⟨len, fun A outer s H args us vs Q E hr e0 hb r hsp => ?_⟩
  have hl := len _ _ _ _ hsp
  have KX : K.In s.heap := e0.mod.kin.keeps fun b o e => (e0.bs b o e).1
  have lim : s.heap.NoLimit := e0.mod.nolimit.keeps fun b o e => (e0.bs b o e).1
  obtain ⟨oc, od, osl, lk⟩ := hfd
  obtain ⟨co, cd, cs, lc⟩ := hcell
  obtain ⟨t1, t2, h1, h2, hq⟩ := hbody A outer s H vs Q E (hr.deeper _) hsp
  refine ks_codeAny_call_defAt hr.depth (KX _ _ lk) rfl lim (PySem.W.codeRec_of KX hcd) rfl hb S.nocell (fun ⟨y, v⟩ hy => S.par y (List.of_mem_zip hy).1) (fun h0 hns kp => ?_) S.co S.gen S.kind
  have C : NdefX.CellsAt [("__class__", cc)] ["__class__"] [some (.ref D)] s.heap H := by
    refine ⟨rfl, fun y c e => ?_, fun x y c e1 e2 => ?_, fun i y e => ?_⟩
    · have e2 : c = cc := by
        unfold List.lookup at e
        split at e
        · exact (Option.some.inj e).symm
        · cases e
      subst e2
      have q := e0.bs c _ (e0.mod.kin _ _ lc)
      exact ⟨q.2, _, _, q.1, rfl⟩
    · unfold List.lookup at e1 e2
      split at e1
      · rename_i q1
        split at e2
        · rename_i q2
          exact (beq_iff_eq.mp q1).trans (beq_iff_eq.mp q2).symm
        · cases e2
      · cases e1
    · cases i with
      | zero =>
        have ey : ("__class__" : Str) = y := Option.some.inj e
        subst ey
        refine ⟨cc, ?_, fun v ev => ?_⟩
        · unfold List.lookup
          rw [beq_self_eq_true]
        · have ev : V.ref D = v := Option.some.inj (Option.some.inj ev)
          subst ev
          exact ⟨.ref D, rfl, _, KX _ _ lc, rfl⟩
      | succ i => cases e
  have I := NdefX.inv_startN (CX := CX) (P := P) (w := w) (mg := mg) (F := ⟨name, qual, params, st :: rest, scope, [("__class__", cc)], cda⟩) (f := f) (E := E) (tk := s.toks + (ps.zip us).length) S hr.hd e0 hl r C hns kp
  have fin : ∀ {σ' : L2.St} {H' : Hp} {v : V} {u : Value} {s' : Shared}, Inv (NdefX.ncx CX P w K mg base N ⟨name, qual, params, st :: rest, scope, [("__class__", cc)], cda⟩ f A outer s H E) [] σ' H' s' → RelV v u → Q v H' → CE outer P w H s Q u s' :=
    fun {σ' H' v u s'} J rv q => ⟨v, H', J.os, J.bare, J.base, J.hok, rv, q⟩
  refine ks_wpAt_execs_cons (ks_wpAt_mono (h1.run [] _ _ H _ I hq) (fun fl s' hs => ?_) fun _ _ z => z)
  cases fl with
  | next =>
    obtain ⟨σ', H', J, q⟩ := hs
    refine _root_.PySem.wpAt_of_wpAny (wpAny_mono (h2.run [] s' σ' H' _ J q) (fun fl s2 hs2 => ?_) fun _ _ z => z)
    cases fl with
    | ret u =>
      obtain ⟨v, σ2, H2, J2, rv, q2⟩ := hs2
      exact fin J2 rv q2
    | next =>
      obtain ⟨σ2, H2, J2, q2⟩ := hs2
      exact fin (v := V.non) (u := Value.none) J2 rfl q2
    | brk => obtain ⟨_, _, _, q2⟩ := hs2; exact q2.elim
    | cont => obtain ⟨_, _, _, q2⟩ := hs2; exact q2.elim
  | ret u =>
    obtain ⟨v, σ2, H2, J2, rv, q2⟩ := hs
    exact fin J2 rv q2
  | brk => obtain ⟨_, _, _, q2⟩ := hs; exact q2.elim
  | cont => obtain ⟨_, _, _, q2⟩ := hs; exact q2.elim
/-! ### C() where there is no __init__ -/
structure Mk0 (K : PySem.W.Frag) (C : Addr) : Prop where
  makes : PySem.W.makesIn K C = true
  init : PySem.W.findIn K (.ref C) "__init__" = some (some (.builtin "object.__init__"))
  kp : PySem.W.keepIn K (.ref C) = true
  obj : PySem.W.mroIn K C (.type "object") = some true
def tNew (C : Addr) : TE := fun σ H Q => ∀ x dx, H x = none → H dx = none → dx ≠ x → Q (.ref x) (upd (upd H dx (.own x)) x (.ins C dx []))
theorem pe_new {X : Cx} {C : Addr} {x : Str} {p pos : Pos} (M : Mk0 X.K C) (hg : Gl X x) (hm : X.mg x = some (.ref C)) (hdb : (x == ("__debug__" : Str)) = false := by decide) : PE X (.Call (.Name x p) [] [] pos) (tNew C) := by
  refine ⟨fun pins s σ H Q I h => ?_⟩
  refine wpAny_Call_Name_kw (ld_glob I hg hm ?_ hdb)
  refine PySem.W.callWith_K0 I.kIn M.kp (wpAny_call ?_)
  have I2 := Inv.made (C := C) I
  have hq := h (s.heap.objs.size + 1) s.heap.objs.size (I.hok.fresh (Nat.le_succ _)) (I.hok.fresh (Nat.le_refl _)) (Nat.ne_of_lt (Nat.lt_succ_self _))
  refine make_map0 I.kIn M.makes M.init (fun self => PySem.W.Looks.of_pure (PySem.W.oi_bind self)) ?_
  have hi : ((s.heap.push PySem.W.emptyDict).push (PySem.W.instObj C s.heap.objs.size)).get? (s.heap.objs.size + 1) = some (PySem.W.instObj C s.heap.objs.size) := by
    have q := Heap.get?_push_size (s.heap.push PySem.W.emptyDict) (o := PySem.W.instObj C s.heap.objs.size) rfl
    rwa [Heap.size_push] at q
  have t1 : PySem.W.Looks (model X.prog X.w) ((s.heap.push PySem.W.emptyDict).push (PySem.W.instObj C s.heap.objs.size)) (typeOf (.ref (s.heap.objs.size + 1))) (.ref C) := (PySem.W.Looks.ld hi).andThen .now
  have t2 : PySem.W.Looks (model X.prog X.w) ((s.heap.push PySem.W.emptyDict).push (PySem.W.instObj C s.heap.objs.size)) (isInstance (.ref (s.heap.objs.size + 1)) (.type "object")) true := t1.andThen (PySem.W.looks_mroIn I2.kIn M.obj)
  refine codeAny_call_builtin PySem.W.oi_plain PySem.W.entry_oi (@PySem.W.check_slot (model X.prog X.w) _ _ _ "object.__init__" "object" "__init__" _ [] [] _ PySem.W.oi_kind PySem.W.oi_split t2 (PySem.W.oi_args _) ?_)
  rw [PySem.W.oi_run]
  exact wpAny_pure ⟨rfl, ⟨V.ref (s.heap.objs.size + 1), _, I2, rfl, hq⟩⟩
end Lk

set_option maxHeartbeats 4000000
/-! super().__init__(text) in an own error; its making. -/
namespace Lk
open PySem PySem.Spec PyProof.Rows L2
open PySem.W (ks_superObj ks_superIn kxs_mw)
section
variable {X : Cx} {pins : List (Addr × Obj)} {σ : L2.St} {H : Hp} {s : Shared} {f cda cc D a C u : Addr} {fd : FuncData} {E : Value → Shared → Prop} {A : Around}
theorem mw_call {us : List Value} {Q : Value → Shared → Prop} (T : OexC X.K C) (I : Inv X pins σ H s) (hu : s.heap.get? u = some (kxs_mw "ValueError.__init__" a)) (e : H a = some (exo a C none)) (hl : us.length ≤ sizeLine)
    (h : ∀ s', Inv X pins σ H s' → Q .none s') : wpAny (model X.prog X.w) A (call (.ref u) us) Q E s := by
  obtain ⟨nm, qn, N, bs, bm, sn, sub, ab, col, dd, k0, k1, k2, k3, k5, hC, hbm⟩ := T.cls
  obtain ⟨t1, ho⟩ := exo_at I.hok e
  have kin := I.kIn
  have fin : ∀ h', (∀ b o, b ≠ a → s.heap.get? b = some o → h'.get? b = some o) → (∃ t2 : Addr, h'.get? a = some ({ cls := .ref C, dict := none, data := .fields #[.ref t2, .none, .none, .none, .bool false, .none] } : Obj)) → Q .none { s with heap := h' } := fun h' k ⟨t2, hx⟩ => by
    have J := I.write (t' := s.toks) (x := a) (e := a) (o := exo a C none) (by rw [e]; exact True.intro) (.inl rfl) k ⟨_, hx⟩ (exo_ok hx)
    have eu : upd H a (exo a C none) = H := by
      funext b
      by_cases q : b = a
      · rw [q, upd_same, e]
      · rw [upd_ne q]
    rw [eu] at J
    exact h _ J
  obtain ⟨hh, g, d, tk, os⟩ := s
  have t1' : (Value.type "method-wrapper" == Value.type "method" || Value.type "method-wrapper" == Value.type "builtin_function_or_method" || Value.type "method-wrapper" == Value.type "method-wrapper") = true := by decide
  refine wpAny_call (codeAny_of_tree (show wpAny _ A.in1 (callAny (.ref u) ⟨us, []⟩) _ _ _ from ?_))
  (simp only [callAny]; refine wpAny_bind (wpAny_load hu ?_); simp only [kxs_mw, t1', if_true])
  refine PySem.W.KFB.if_so (by decide) (wpAny_bind (PySem.W.check_bound_init F.excBase_ValueError.toExcCallFacts (kin _ _ hC) ho rfl ?_))
  refine wpAny_bind (wpAny_pure (wpAny_pure ⟨plainId_quiet F.excBase_ValueError.init.plain _, codeAny_builtin F.excBase_ValueError.initEntry ?_⟩))
  exact PySem.W.exc_init_tree (cls := .ref C) (t0 := t1) (dv := none) (c2 := .none) (c3 := .none) (b4 := .bool false) ho hl fun h' k e' _ => fin h' k ⟨_, e'⟩
def tSupI (K : PySem.W.Frag) (D : Addr) (ta : TA) : TS := fun W σ H => ∃ a C : Addr, σ[0]? = some (some (.ref a)) ∧ OexC K C ∧ H a = some (exo a C none) ∧ PySem.W.mroIn K C (.ref D) = some true ∧
  ks_superIn K C D "__init__" = some (some (.builtin "ValueError.__init__")) ∧ PySem.W.subIn K (.ref C) (.type "ValueError") = some true ∧ ta σ H fun vs H1 => vs.length ≤ 1000 ∧ H1 a = some (exo a C none) ∧ W.nx σ H1
theorem psa_init {body : List Stmt} {e : Expr} {es : List Expr} {p0 p1 pos apos pos' : Pos} {t : TA} {pl : Sem Bool} (S : SupF X.prog X.K f cda cc D fd) (Y : SupX X f cda cc) (nm : X.mg "super" = none) (ho : PySem.W.nsIn X.K cStatics "thirdparty.any" = some none)
    (ha : PA X (e :: es) t)
    (hst : starEach (e :: es) X.env = (false, eval e X.env) :: starEach es X.env := by rfl) (hpl : (backTo pos (starEach es X.env)).any (·.1) = false := by rfl)
    (he : eval (.Call (.Attribute (.Call (.Name "super" p0) [] [] p1) "__init__" apos) (e :: es) [] pos) X.env = (do
      let ov ← attributeBase (.Call (.Name "super" p0) [] [] p1) "__init__" X.env (eval (.Call (.Name "super" p0) [] [] p1) X.env)
      standAt apos.atName
      let (f, first) ← holding [ov] (getMethod ov "__init__" pl)
      callWith pos f first (backTo pos (starEach (e :: es) X.env)) []) := by rfl)
    (hs : swapsWith (.Call (.Attribute (.Call (.Name "super" p0) [] [] p1) "__init__" apos) (e :: es) [] pos) none pos'.line X.env = pure false := by rfl) :
    PSA X body (.Expr (.Call (.Attribute (.Call (.Name "super" p0) [] [] p1) "__init__" apos) (e :: es) [] pos) pos') (tSupI X.K D t) := by
  refine ⟨fun pins s σ H W I h => ?_⟩
  obtain ⟨a, C, h0, T, hi, h1, h2, h3, q⟩ := h
  obtain ⟨t1, hx⟩ := exo_at I.hok hi
  refine ks_wpAt_Expr_any (ks_wpAt_MethodCall (pl := pl) (sup_new (C := C) S Y nm I h0 hx rfl (fun c z => nomatch z) h1 (by decide +kernel) fun so s1 hx1 I1 => ?_) he) I.quiet hs
  have hso := ClX.pin_at I1
  have kin := I1.kIn
  have I0 := ClX.unpin I1
  cases ec : PySem.W.clsIn X.K C with
  | none => unfold ks_superIn at h2; rw [ec] at h2; cases h2
  | some cd =>
    have h2' : PySem.W.alongIn X.K "__init__" ((cd.mro.dropWhile (· != .ref D)).drop 1) = some (some (.builtin "ValueError.__init__")) := by
      unfold ks_superIn at h2
      rw [ec] at h2
      exact h2
    have neC := ins_ne (a := a) (dx := a) (fs := []) I1 ec hx1 (fun c z => nomatch z)
    have isI : PySem.W.Looks (model X.prog X.w) s1.heap (isInstance (.ref a) (.type "ValueError")) true := ((PySem.W.Looks.ld hx1).andThen .now).andThen (PySem.W.looks_subIn kin h3)
    obtain ⟨hh, g, d, tk, os⟩ := s1
    refine PySem.W.kxs_getMethod PySem.W.kxs_ValueError hso (PySem.W.looks_opaque kin ho) (l₀ := cd.mro) (fun A Q E s k q => wpAny_bind ((PySem.W.looks_clsIn kin ec) A _ E s k (wpAny_pure q))) rfl kin h2' isI neC (by decide +kernel) ?_
    have I2 := ClX.pin_new (t' := tk + 1) (o := kxs_mw "ValueError.__init__" a) I0 (fun b o z => Heap.get?_push_of_some _ z) (Nat.le_refl _) (Heap.get?_push_size _ rfl) (fun v z => nomatch z)
    have hb := ClX.base_none I0 (Nat.le_refl _)
    have hL : hh.objs.size ≠ X.env.locals := (I2.pin (hh.objs.size, kxs_mw "ValueError.__init__" a) (List.mem_append_right _ List.mem_cons_self)).2.2.1
    refine PySem.W.kxs_callWith1 (L := X.env.locals) (news_at hL hb (ClX.pin_at I2)) List.mem_cons_self (thn (ha.run pos _ _ σ H _ I2 q) fun us s3 ⟨vs, H2, I3, rv, hz, hi2, q2⟩ => ⟨ClX.pin_at I3, ?_⟩) hst hpl
    refine mw_call T I3 (ClX.pin_at I3) hi2 ?_ fun s4 I4 => ⟨σ, H2, ClX.unpin I4, q2⟩
    rw [← Paired.length rv, sizeLine_eq]
    omega
end
/-! ### what stands behind an own error class with an __init__ -/
structure ErrC (P : Program) (K : PySem.W.Frag) (C fI cda cc : Addr) (fd : FuncData) : Prop where
  T : OexC K C
  iC : PySem.W.findIn K (.ref C) "__init__" = some (some (.ref fI))
  tI : PySem.W.typeIn K (.ref fI) = some (.type "function")
  mro : PySem.W.mroIn K C (.ref C) = some true
  sup : ks_superIn K C C "__init__" = some (some (.builtin "ValueError.__init__"))
  ve : PySem.W.subIn K (.ref C) (.type "ValueError") = some true
  S : SupF P K fI cda cc C fd
  st : PySem.W.nsIn K cStatics "thirdparty.any" = some none
theorem del_made {H : Hp} {a d : Addr} {o o1 o2 : HO} {C : Addr} (ha : H a = none) (hd : d ≠ a) : upd (del (upd (upd (upd H a o) d o1) a o2) a) d (.xd []) = upd H d (.xd []) := by
  funext b
  by_cases q : b = d
  · rw [q, upd_same, upd_same]
  · rw [upd_ne q, upd_ne q]
    by_cases r : b = a
    · rw [r, del_same, ha]
    · rw [del_ne r, upd_ne r, upd_ne q, upd_ne r]
end Lk

set_option maxHeartbeats 4000000
/-! The own errors' __init__. -/
namespace Lk
open PySem PySem.Spec PyProof.Rows L2
/-- a def that closes over __class__, as it stands -/
structure DC (P : Program) (K : PySem.W.Frag) (name qual : Str) (st : Stmt) (D f cda cc : Addr) (fd : FuncData) : Prop where
  eq : ∃ (kV doc pm : Value) (an : Option Addr) (ct : Value), fd = PySem.W.fnX name qual (defArgs st) (defBody st) (defScope st) [("__class__", cc)] .none kV doc pm an (.ref cda) ct
  cd : PySem.W.codeIn K (.ref cda) qual = true
  S : SupF P K f cda cc D fd
  kp : PySem.W.keepIn K (.ref f) = true
  st : PySem.W.nsIn K cStatics "thirdparty.any" = some none
theorem DC.binds {P : Program} {K : PySem.W.Frag} {name qual : Str} {st : Stmt} {D f cda cc : Addr} {fd : FuncData} {ps : List Str} (d : DC P K name qual st D f cda cc fd)
    (h : ∀ (kV doc pm : Value) (an : Option Addr) (ct : Value) (us : List Value), us.length = ps.length → bindArgs (PySem.W.fnX name qual (defArgs st) (defBody st) (defScope st) [("__class__", cc)] .none kV doc pm an (.ref cda) ct) ⟨us, []⟩ = pure (ps.zip us)) : Binds K fd ps [] := by
  obtain ⟨kV, doc, pm, an, ct, e⟩ := d.eq
  subst e
  exact .all (h kV doc pm an ct)
theorem supX_of {CX : CXT} {P : Program} {w : World} {K : PySem.W.Frag} {mg : Str → Option Value} {base : Heap} {N : List Str} {name qual : Str} {params : Arguments} {body : List Stmt} {scope : Scope} {f cda cc : Addr} {A : Around} {outer : List Env} {s : Shared} {H : Hp} {E : XK}
    (h1 : scope.names.lookup ("super" : Str) = some .globalImplicit) (h2 : scope.names.lookup ("__class__" : Str) = some .free) (h3 : scope.names.lookup ("self" : Str) = some .local) (h0 : N[0]? = some ("self" : Str)) :
    SupX (NdefX.ncx CX P w K mg base N ⟨name, qual, params, body, scope, [("__class__", cc)], cda⟩ f A outer s H E) f cda cc :=
  ⟨rfl, rfl, h1, h2, by show List.lookup ("__class__" : Str) [(("__class__" : Str), cc)] = some cc; unfold List.lookup; rw [beq_self_eq_true], h0, h3⟩
/-- an __init__ of one field -/
def spInit1 (C : Addr) (f : Str) : Sp := fun vs H Q _ => ∃ (a : Addr) (y : V), vs = [.ref a, y] ∧ H a = some (exo a C none) ∧ ∀ d, H d = none → d ≠ a → Q .non (upd (upd H d (exd d [(f, y)])) a (exo a C (some d)))
def spInit2 (C : Addr) : Sp := fun vs H Q _ => ∃ (a : Addr) (y z : V), vs = [.ref a, y, z] ∧ H a = some (exo a C none) ∧
  ∀ d, H d = none → d ≠ a → Q .non (upd (upd (upd H d (exd d [("session", y)])) a (exo a C (some d))) d (exd d [("index", z), ("session", y)]))
def spInitS (K : PySem.W.Frag) (C : Addr) : Sp := fun vs H Q _ => ∃ (a l : Addr) (xs : List V), vs = [.ref a, .ref l] ∧ H a = some (exo a C none) ∧ SqL K H l xs ∧
  ∀ q d, H q = none → (upd H q (.lst xs)) d = none → d ≠ a → Q .non (upd (upd (upd H q (.lst xs)) d (exd d [("schedule", .ref q)])) a (exo a C (some d)))
section
variable {P : Program} {w : World} {K : PySem.W.Frag} {mg : Str → Option Value} {base : Heap}
theorem ok_init_BadSize {C fI cda cc : Addr} {fd : FuncData} (B : ErrC P K C fI cda cc fd) (d : DC P K "__init__" "BadSize.__init__" s_BadSize___init__ C fI cda cc fd) (nm : mg "super" = none) (no : PySem.W.findIn K (.ref C) "size" = some none) :
    FnOk P w K mg base CX0 1 fI fd ["self", "size"] (spInit1 C "size") := by
  obtain ⟨kV, doc, pm, an, ct, e⟩ := d.eq
  obtain ⟨oc, od, osl, lk⟩ := d.S.lk
  subst e
  refine fn_sup ⟨oc, od, osl, lk⟩ d.cd d.S.cell sc_BadSize___init__ (fun vs H Q E h => ?_) fun A outer s H vs Q E hr h => ?_
  · obtain ⟨a, y, rfl, _⟩ := h
    rfl
  · obtain ⟨a, y, rfl, hi, k⟩ := h
    refine ⟨_, _, psa_init B.S (supX_of rfl rfl rfl rfl) nm d.st (pa_cons pe_str pa_nil), pss_one (ps_ost (pv 0) (pv 1)), ?_⟩
    refine ⟨a, C, rfl, B.T, hi, B.mro, B.sup, B.ve, (by show 1 ≤ 1000; decide), hi, ?_⟩
    exact ⟨_, rfl, _, rfl, a, C, rfl, B.T, no, .inl ⟨hi, k⟩⟩
theorem ok_init_BadMode {C fI cda cc : Addr} {fd : FuncData} (B : ErrC P K C fI cda cc fd) (d : DC P K "__init__" "BadMode.__init__" s_BadMode___init__ C fI cda cc fd) (nm : mg "super" = none) (no : PySem.W.findIn K (.ref C) "name" = some none) :
    FnOk P w K mg base CX0 1 fI fd ["self", "name"] (spInit1 C "name") := by
  obtain ⟨kV, doc, pm, an, ct, e⟩ := d.eq
  obtain ⟨oc, od, osl, lk⟩ := d.S.lk
  subst e
  refine fn_sup ⟨oc, od, osl, lk⟩ d.cd d.S.cell sc_BadMode___init__ (fun vs H Q E h => ?_) fun A outer s H vs Q E hr h => ?_
  · obtain ⟨a, y, rfl, _⟩ := h
    rfl
  · obtain ⟨a, y, rfl, hi, k⟩ := h
    refine ⟨_, _, psa_init B.S (supX_of rfl rfl rfl rfl) nm d.st (pa_cons pe_str pa_nil), pss_one (ps_ost (pv 0) (pv 1)), ?_⟩
    refine ⟨a, C, rfl, B.T, hi, B.mro, B.sup, B.ve, (by show 1 ≤ 1000; decide), hi, ?_⟩
    exact ⟨_, rfl, _, rfl, a, C, rfl, B.T, no, .inl ⟨hi, k⟩⟩
theorem ok_init_BadTurn {C fI cda cc : Addr} {fd : FuncData} (B : ErrC P K C fI cda cc fd) (d : DC P K "__init__" "BadTurn.__init__" s_BadTurn___init__ C fI cda cc fd) (nm : mg "super" = none) (no : PySem.W.findIn K (.ref C) "turn" = some none) :
    FnOk P w K mg base CX0 1 fI fd ["self", "turn"] (spInit1 C "turn") := by
  obtain ⟨kV, doc, pm, an, ct, e⟩ := d.eq
  obtain ⟨oc, od, osl, lk⟩ := d.S.lk
  subst e
  refine fn_sup ⟨oc, od, osl, lk⟩ d.cd d.S.cell sc_BadTurn___init__ (fun vs H Q E h => ?_) fun A outer s H vs Q E hr h => ?_
  · obtain ⟨a, y, rfl, _⟩ := h
    rfl
  · obtain ⟨a, y, rfl, hi, k⟩ := h
    refine ⟨_, _, psa_init B.S (supX_of rfl rfl rfl rfl) nm d.st (pa_cons pe_str pa_nil), pss_one (ps_ost (pv 0) (pv 1)), ?_⟩
    refine ⟨a, C, rfl, B.T, hi, B.mro, B.sup, B.ve, (by show 1 ≤ 1000; decide), hi, ?_⟩
    exact ⟨_, rfl, _, rfl, a, C, rfl, B.T, no, .inl ⟨hi, k⟩⟩
theorem ok_init_BadProgram {C fI cda cc : Addr} {fd : FuncData} (B : ErrC P K C fI cda cc fd) (d : DC P K "__init__" "BadProgram.__init__" s_BadProgram___init__ C fI cda cc fd) (nm : mg "super" = none) (no1 : PySem.W.findIn K (.ref C) "session" = some none)
    (no2 : PySem.W.findIn K (.ref C) "index" = some none) : FnOk P w K mg base CX0 1 fI fd ["self", "session", "index"] (spInit2 C) := by
  obtain ⟨kV, doc, pm, an, ct, e⟩ := d.eq
  obtain ⟨oc, od, osl, lk⟩ := d.S.lk
  subst e
  refine fn_sup ⟨oc, od, osl, lk⟩ d.cd d.S.cell sc_BadProgram___init__ (fun vs H Q E h => ?_) fun A outer s H vs Q E hr h => ?_
  · obtain ⟨a, y, z, rfl, _⟩ := h
    rfl
  · obtain ⟨a, y, z, rfl, hi, k⟩ := h
    refine ⟨_, _, psa_init B.S (supX_of rfl rfl rfl rfl) nm d.st (pa_cons pe_str pa_nil), pss_cons (ps_ost (pv 0) (pv 1)) (pss_one (ps_ost (pv 0) (pv 2))), ?_⟩
    refine ⟨a, C, rfl, B.T, hi, B.mro, B.sup, B.ve, (by show 1 ≤ 1000; decide), hi, ?_⟩
    refine ⟨_, rfl, _, rfl, a, C, rfl, B.T, no1, .inl ⟨hi, fun dx n1 n2 => ?_⟩⟩
    refine ⟨_, rfl, _, rfl, a, C, rfl, B.T, no2, .inr ⟨dx, _, upd_same, (by rw [upd_ne n2, upd_same]), (by show 1 ≤ 900; decide), ?_⟩⟩
    exact k dx n1 n2
theorem ok_init_Stuck {C fI cda cc : Addr} {fd : FuncData} (B : ErrC P K C fI cda cc fd) (d : DC P K "__init__" "Stuck.__init__" s_Stuck___init__ C fI cda cc fd) (nm : mg "super" = none) (nl : mg "list" = none) (no : PySem.W.findIn K (.ref C) "schedule" = some none) :
    FnOk P w K mg base CX0 1 fI fd ["self", "schedule"] (spInitS K C) := by
  obtain ⟨kV, doc, pm, an, ct, e⟩ := d.eq
  obtain ⟨oc, od, osl, lk⟩ := d.S.lk
  subst e
  refine fn_sup ⟨oc, od, osl, lk⟩ d.cd d.S.cell sc_Stuck___init__ (fun vs H Q E h => ?_) fun A outer s H vs Q E hr h => ?_
  · obtain ⟨a, l, xs, rfl, _⟩ := h
    rfl
  · obtain ⟨a, l, xs, rfl, hi, hs, k⟩ := h
    refine ⟨_, _, psa_init B.S (supX_of rfl rfl rfl rfl) nm d.st (pa_cons pe_str pa_nil), pss_one (ps_ost (pv 0) (pe_callTy call_list_of (by rfl) nl (by decide +kernel) (pa_cons (pv 1) pa_nil))), ?_⟩
    refine ⟨a, C, rfl, B.T, hi, B.mro, B.sup, B.ve, (by show 1 ≤ 1000; decide), hi, ?_⟩
    refine ⟨_, rfl, l, _, rfl, .inl hs, fun q hq => ?_⟩
    exact ⟨_, rfl, a, C, rfl, B.T, no, .inl ⟨by rw [upd_ne (ne_of_none hi hq)]; exact hi, fun dx n1 n2 => k q dx hq n1 n2⟩⟩
end
/-! ### the raises -/
theorem made_eq {H : Hp} {a d : Addr} {o1 o2 o3 : HO} {fs : List (Str × V)} (ha : H a = none) (hd : d ≠ a) : upd (del (upd (upd (upd H a o1) d o2) a o3) a) d (.xd fs) = upd H d (.xd fs) := by
  funext b
  by_cases q : b = d
  · rw [q, upd_same, upd_same]
  · rw [upd_ne q, upd_ne q]
    by_cases r : b = a
    · rw [r, del_same, ha]
    · rw [del_ne r, upd_ne r, upd_ne q, upd_ne r]
theorem free_of {H : Hp} {a d : Addr} {o : HO} (h : upd H a o d = none) (hd : d ≠ a) : H d = none := by rw [upd_ne hd] at h; exact h
theorem mk1 {C : Addr} {f : Str} {y : V} {H : Hp} {Q : XK} (k : ∀ d, H d = none → Q (.ref C) (some d) (upd H d (.xd [(f, y)]))) : ∀ a, H a = none → spInit1 C f (.ref a :: ([y] ++ [])) (upd H a (exo a C none))
    (fun v H2 => v = .non ∧ ∃ (d : Addr) (fs : List (Str × V)), H2 a = some (exo a C (some d)) ∧ H2 d = some (exd d fs) ∧ H d = none ∧ Q (.ref C) (some d) (upd (del H2 a) d (.xd fs))) (fun _ _ _ => False) := by
  intro a ha
  refine ⟨a, y, rfl, upd_same, fun d n1 n2 => ⟨rfl, d, _, upd_same, (by rw [upd_ne n2, upd_same]), free_of n1 n2, ?_⟩⟩
  rw [made_eq ha n2]
  exact k d (free_of n1 n2)
theorem mk2 {C : Addr} {y z : V} {H : Hp} {Q : XK} (k : ∀ d, H d = none → Q (.ref C) (some d) (upd H d (.xd [("index", z), ("session", y)]))) : ∀ a, H a = none → spInit2 C (.ref a :: ([y, z] ++ [])) (upd H a (exo a C none))
    (fun v H2 => v = .non ∧ ∃ (d : Addr) (fs : List (Str × V)), H2 a = some (exo a C (some d)) ∧ H2 d = some (exd d fs) ∧ H d = none ∧ Q (.ref C) (some d) (upd (del H2 a) d (.xd fs))) (fun _ _ _ => False) := by
  intro a ha
  refine ⟨a, y, z, rfl, upd_same, fun d n1 n2 => ⟨rfl, d, _, (by rw [upd_ne n2.symm, upd_same]), upd_same, free_of n1 n2, ?_⟩⟩
  have e : upd (del (upd (upd (upd (upd H a (exo a C none)) d (exd d [("session", y)])) a (exo a C (some d))) d (exd d [("index", z), ("session", y)])) a) d (.xd [("index", z), ("session", y)]) = upd H d (.xd [("index", z), ("session", y)]) := by
    funext b
    by_cases q : b = d
    · rw [q, upd_same, upd_same]
    · rw [upd_ne q, upd_ne q]
      by_cases r : b = a
      · rw [r, del_same, ha]
      · rw [del_ne r, upd_ne q, upd_ne r, upd_ne q, upd_ne r]
  rw [e]
  exact k d (free_of n1 n2)
theorem mkS {K : PySem.W.Frag} {C l : Addr} {xs : List V} {H : Hp} {Q : XK} (hs : SqL K H l xs) (k : ∀ q d, H q = none → H d = none → d ≠ q → Q (.ref C) (some d) (upd (upd H q (.lst xs)) d (.xd [("schedule", .ref q)]))) : ∀ a, H a = none → spInitS K C (.ref a :: ([.ref l] ++ [])) (upd H a (exo a C none))
    (fun v H2 => v = .non ∧ ∃ (d : Addr) (fs : List (Str × V)), H2 a = some (exo a C (some d)) ∧ H2 d = some (exd d fs) ∧ H d = none ∧ Q (.ref C) (some d) (upd (del H2 a) d (.xd fs))) (fun _ _ _ => False) := by
  intro a ha
  refine ⟨a, l, xs, rfl, upd_same, Same.seq (Same.new ha) hs, fun q d hq n1 n2 => ?_⟩
  have qa : q ≠ a := fun e => by rw [e, upd_same] at hq; cases hq
  have dq : d ≠ q := fun e => by rw [e, upd_same] at n1; cases n1
  have hd : H d = none := by rw [upd_ne dq, upd_ne n2] at n1; exact n1
  refine ⟨rfl, d, _, upd_same, (by rw [upd_ne n2, upd_same]), hd, ?_⟩
  have e : upd (del (upd (upd (upd (upd H a (exo a C none)) q (.lst xs)) d (exd d [("schedule", .ref q)])) a (exo a C (some d))) a) d (.xd [("schedule", .ref q)]) = upd (upd H q (.lst xs)) d (.xd [("schedule", .ref q)]) := by
    funext b
    by_cases qd : b = d
    · rw [qd, upd_same, upd_same]
    · rw [upd_ne qd, upd_ne qd]
      by_cases r : b = a
      · rw [r, del_same, upd_ne qa.symm, ha]
      · rw [del_ne r, upd_ne r, upd_ne qd]
        by_cases rq : b = q
        · rw [rq, upd_same, upd_same]
        · rw [upd_ne rq, upd_ne rq, upd_ne r]
  rw [e]
  exact k q d (free_of hq qa) hd dq
end Lk

set_option maxHeartbeats 4000000
/-! The modes. -/
namespace Lk
open PySem PySem.Spec PyProof.Rows L2
open PySem.W (ks_superIn)
def cdAd (K : PySem.W.Frag) (p : Str × Option Str) : Addr := match (fdOf K p).code with
  | .ref c => c
  | _ => 0
def ccAd (K : PySem.W.Frag) (p : Str × Option Str) : Addr := match (fdOf K p).closure with
  | (_, c) :: _ => c
  | _ => 0
def mdN : Md → Str
  | .free => "FreeMode"
  | .saving => "SavingMode"
  | .guarded => "GuardedMode"
  | .checked => "CheckedMode"
def mdS : Md → Str
  | .free => "free"
  | .saving => "saving"
  | .guarded => "guarded"
  | .checked => "checked"
abbrev mdC (K : PySem.W.Frag) (m : Md) : Addr := He.ga K (mdN m)
abbrev fRef (K : PySem.W.Frag) (m : Md) : Addr := He.fAd K (mdN m, some "refusal")
abbrev EC (P : Program) (K : PySem.W.Frag) (x : Str) : Prop := ErrC P K (He.ga K x) (He.fAd K (x, some "__init__")) (cdAd K (x, some "__init__")) (ccAd K (x, some "__init__")) (fdOf K (x, some "__init__"))
abbrev ED (P : Program) (K : PySem.W.Frag) (x q : Str) (st : Stmt) : Prop := DC P K "__init__" q st (He.ga K x) (He.fAd K (x, some "__init__")) (cdAd K (x, some "__init__")) (ccAd K (x, some "__init__")) (fdOf K (x, some "__init__"))
abbrev MD (P : Program) (K : PySem.W.Frag) (x q : Str) (st : Stmt) : Prop := DC P K "refusal" q st (He.ga K x) (He.fAd K (x, some "refusal")) (cdAd K (x, some "refusal")) (ccAd K (x, some "refusal")) (fdOf K (x, some "refusal"))
structure TopX (P : Program) (K : PySem.W.Frag) (mg : Str → Option Value) : Prop extends Top K mg where
  e_BadSize : EC P K "BadSize"
  e_BadMode : EC P K "BadMode"
  e_BadTurn : EC P K "BadTurn"
  e_BadProgram : EC P K "BadProgram"
  e_Stuck : EC P K "Stuck"
  i_BadSize : ED P K "BadSize" "BadSize.__init__" s_BadSize___init__
  i_BadMode : ED P K "BadMode" "BadMode.__init__" s_BadMode___init__
  i_BadTurn : ED P K "BadTurn" "BadTurn.__init__" s_BadTurn___init__
  i_BadProgram : ED P K "BadProgram" "BadProgram.__init__" s_BadProgram___init__
  i_Stuck : ED P K "Stuck" "Stuck.__init__" s_Stuck___init__
  nf_size : PySem.W.findIn K (.ref (He.ga K "BadSize")) "size" = some none
  nf_name : PySem.W.findIn K (.ref (He.ga K "BadMode")) "name" = some none
  nf_turn : PySem.W.findIn K (.ref (He.ga K "BadTurn")) "turn" = some none
  nf_session : PySem.W.findIn K (.ref (He.ga K "BadProgram")) "session" = some none
  nf_index : PySem.W.findIn K (.ref (He.ga K "BadProgram")) "index" = some none
  nf_schedule : PySem.W.findIn K (.ref (He.ga K "Stuck")) "schedule" = some none
  q_saving : MD P K "SavingMode" "SavingMode.refusal" s_SavingMode_refusal
  q_guarded : MD P K "GuardedMode" "GuardedMode.refusal" s_GuardedMode_refusal
  q_checked : MD P K "CheckedMode" "CheckedMode.refusal" s_CheckedMode_refusal
  cm : ∀ m : Md, Cls K (mdC K m)
  mo : ∀ m : Md, Mk0 K (mdC K m)
  mt : ∀ m : Md, Meth K (mdC K m) "refusal" (fRef K m)
  rd : ∀ m : Md, ClX.CRead K (mdC K m) (.type "type")
  nmC : ∀ m : Md, ∃ u, ClX.CVal K (mdC K m) (.type "type") "NAME" (.str (mdS m)) u
  su_saving : ∀ m : Md, m ∈ [Md.saving, .guarded, .checked] → PySem.W.mroIn K (mdC K m) (.ref (mdC K .saving)) = some true ∧ ks_superIn K (mdC K m) (mdC K .saving) "refusal" = some (some (.ref (fRef K .free)))
  su_guarded : ∀ m : Md, m ∈ [Md.guarded, .checked] → PySem.W.mroIn K (mdC K m) (.ref (mdC K .guarded)) = some true ∧ ks_superIn K (mdC K m) (mdC K .guarded) "refusal" = some (some (.ref (fRef K .saving)))
  su_checked : ∀ m : Md, m ∈ [Md.checked] → PySem.W.mroIn K (mdC K m) (.ref (mdC K .checked)) = some true ∧ ks_superIn K (mdC K m) (mdC K .checked) "refusal" = some (some (.ref (fRef K .guarded)))
  ty : ∀ m : Md, PySem.W.typeIn K (.ref (fRef K m)) = some (.type "function") ∧ PySem.W.fnIn K (fRef K m) = true
/-- refusal: the empty text where nothing is refused; ms: whose instance self may be -/
def spRefusal (K : PySem.W.Frag) (ms : List Md) (f : Sg → Int → Bool) : Sp := fun vs H Q _ => ∃ (a p dx : Addr) (m : Md) (n : Nat) (s : Sg) (op : Int), vs = [.ref a, .ref p, .int op] ∧ m ∈ ms ∧ H a = some (.ins (mdC K m) dx []) ∧ OpP K H p n s op ∧
  ∀ H' (z : Str), Same H H' → (z = "" ↔ f s op = false) → Q (.str z) H'
section
variable {P : Program} {w : World} {K : PySem.W.Frag} {mg : Str → Option Value} {base : Heap}
theorem ok_ref_free (T : TopX P K mg) : FnOk P w K mg base CX0 3 (fRef K .free) (fdOf K ("FreeMode", some "refusal")) ["self", "links", "operation"] (spRefusal K [.free, .saving, .guarded, .checked] fun _ _ => false) := by
  refine fd_ok T.d_FreeMode_refusal sc_FreeMode_refusal (fun vs H Q E h => ?_) (fun cdv A outer s H vs Q E hr h => ?_)
  · obtain ⟨a, p, dx, m, n, s, op, rfl, _⟩ := h
    rfl
  · obtain ⟨a, p, dx, m, n, sg, op, rfl, hm, ha, O, k⟩ := h
    refine ⟨_, pss_cons (ps_expr (pe_call (ok_check_legal T.toTop) hr rfl T.g__check_legal T.d__check_legal.kp (b__check_legal T.toTop) .nil pass0 (pa_cons (pv 1) (pa_cons (pv 2) (pa_cons pe_int pa_nil))))) (pss_one (ps_ret pe_str)), ?_⟩
    exact ⟨_, rfl, _, rfl, p, n, sg, op, 0, rfl, O, k H "" (Same.refl H) ⟨fun _ => rfl, fun _ => rfl⟩⟩
theorem ok_ref_saving (T : TopX P K mg) : FnOk P w K mg base CX0 6 (fRef K .saving) (fdOf K ("SavingMode", some "refusal")) ["self", "links", "operation"] (spRefusal K [.saving, .guarded, .checked] refS) := by
  have d := T.q_saving
  obtain ⟨kV, doc, pm, an, ct, e⟩ := d.eq
  obtain ⟨oc, od, osl, lk⟩ := d.S.lk
  rw [e] at lk ⊢
  refine fn_sup ⟨oc, od, osl, lk⟩ d.cd d.S.cell sc_SavingMode_refusal (fun vs H Q E h => ?_) fun A outer s H vs Q E hr h => ?_
  · obtain ⟨a, p, dx, m, n, s, op, rfl, _⟩ := h
    rfl
  · obtain ⟨a, p, dx, m, n, sg, op, rfl, hm, ha, O, k⟩ := h
    have hr3 : Room 3 _ := hr.mono (by decide)
    obtain ⟨u, cv⟩ := T.nmC .saving
    refine ⟨_, _, psa_set (i := 4) sc_SavingMode_refusal.nd rfl (.inl rfl) (pea_sup d.S (supX_of rfl rfl rfl rfl) T.n_super d.st (T.ty .free).1 (T.ty .free).2 (by decide +kernel) ((ok_ref_free T).raw (b_FreeMode_refusal T.toTop) .nil) hr3 pass0 (pa_cons (pv 1) (pa_cons (pv 2) pa_nil))) (.inr rfl),
      pss_cons (ps_if (PW.pt (pw_and (pt_cmpR op_eq (pv 4) pe_str (nomark _)) (pw_and1 (pt_val (pe_call (ok_loses_gap T.toTop) hr rfl T.g__loses_gap T.d__loses_gap.kp (b__loses_gap T.toTop) .nil pass0 (pa_cons (pv 1) (pa_cons (pv 2) pa_nil))))))) (pss_one (ps_ret (ClX.pe_cval (pe_glob rfl T.g_SavingMode (v := .ref (He.ga K "SavingMode")) rfl)))) pss_nil)
      (pss_one (ps_ret (pv 4))), ?_⟩
    obtain ⟨s1, s2⟩ := T.su_saving m hm
    refine ⟨a, mdC K m, dx, [], rfl, ha, s1, s2, _, rfl, _, rfl, a, p, dx, m, n, sg, op, rfl, List.mem_cons_of_mem _ hm, ha, O, fun H1 z e1 hz => ?_⟩
    have ez : z = "" := hz.mpr rfl
    subst ez
    refine ⟨_, rfl, rfl, _, rfl, dT rfl ⟨_, rfl, _, rfl, p, n, sg, op, rfl, O.same e1, fun H2 e2 => ⟨_, rfl, ?_⟩⟩⟩
    cases c : refS sg op with
    | true => exact iteT ⟨He.ga K "SavingMode", _, _, u, rfl, T.rd .saving, cv, k H2 _ (e1.trans e2) ⟨fun q => absurd q (by decide +kernel), fun q => by rw [c] at q; cases q⟩⟩
    | false => exact iteF ⟨_, rfl, k H2 _ (e1.trans e2) ⟨fun _ => c, fun _ => rfl⟩⟩
theorem ok_ref_guarded (T : TopX P K mg) : FnOk P w K mg base CX0 7 (fRef K .guarded) (fdOf K ("GuardedMode", some "refusal")) ["self", "links", "operation"] (spRefusal K [.guarded, .checked] refG) := by
  have bS : Binds K (fdOf K ("SavingMode", some "refusal")) ["self", "links", "operation"] [] := T.q_saving.binds fun _ _ _ _ _ us hl => match us, hl with | [_, _, _], _ => rfl
  have d := T.q_guarded
  obtain ⟨kV, doc, pm, an, ct, e⟩ := d.eq
  obtain ⟨oc, od, osl, lk⟩ := d.S.lk
  rw [e] at lk ⊢
  refine fn_sup ⟨oc, od, osl, lk⟩ d.cd d.S.cell sc_GuardedMode_refusal (fun vs H Q E h => ?_) fun A outer s H vs Q E hr h => ?_
  · obtain ⟨a, p, dx, m, n, s, op, rfl, _⟩ := h
    rfl
  · obtain ⟨a, p, dx, m, n, sg, op, rfl, hm, ha, O, k⟩ := h
    have hr5 : Room 5 _ := hr.mono (by decide)
    obtain ⟨u, cv⟩ := T.nmC .guarded
    refine ⟨_, _, psa_set (i := 4) sc_GuardedMode_refusal.nd rfl (.inl rfl) (pea_sup d.S (supX_of rfl rfl rfl rfl) T.n_super d.st (T.ty .saving).1 (T.ty .saving).2 (by decide +kernel) ((ok_ref_saving T).raw bS .nil) hr pass0 (pa_cons (pv 1) (pa_cons (pv 2) pa_nil))) (.inr rfl),
      pss_cons (ps_if (PW.pt (pw_and (pt_cmpR op_eq (pv 4) pe_str (nomark _)) (pw_and1 (pt_val (pe_call (ok_leaves T.toTop) hr5 rfl T.g__leaves_sole_holder T.d__leaves_sole_holder.kp (b__leaves_sole_holder T.toTop) .nil pass0 (pa_cons (pv 1) (pa_cons (pv 2) pa_nil))))))) (pss_one (ps_ret (ClX.pe_cval (pe_glob rfl T.g_GuardedMode (v := .ref (He.ga K "GuardedMode")) rfl)))) pss_nil)
      (pss_one (ps_ret (pv 4))), ?_⟩
    obtain ⟨s1, s2⟩ := T.su_guarded m hm
    refine ⟨a, mdC K m, dx, [], rfl, ha, s1, s2, _, rfl, _, rfl, a, p, dx, m, n, sg, op, rfl, List.mem_cons_of_mem _ hm, ha, O, fun H1 z e1 hz => ?_⟩
    refine ⟨_, rfl, rfl, _, rfl, ?_⟩
    by_cases ez : z = ""
    · subst ez
      refine dT rfl ⟨_, rfl, _, rfl, p, n, sg, op, rfl, O.same e1, fun H2 e2 => ⟨_, rfl, ?_⟩⟩
      cases c : refG sg op with
      | true => exact iteT ⟨He.ga K "GuardedMode", _, _, u, rfl, T.rd .guarded, cv, k H2 _ (e1.trans e2) ⟨fun q => absurd q (by decide +kernel), fun q => by rw [c] at q; cases q⟩⟩
      | false => exact iteF ⟨_, rfl, k H2 _ (e1.trans e2) ⟨fun _ => c, fun _ => rfl⟩⟩
    · refine dF (fun q => ez (V.str.inj q)) (iteF ⟨_, rfl, k H1 z e1 ⟨fun q => absurd q ez, fun q => ?_⟩⟩)
      refine hz.mpr ?_
      cases c : refS sg op with
      | false => rfl
      | true => rw [refS_refG c] at q; cases q
theorem ok_ref_checked (T : TopX P K mg) : FnOk P w K mg base CX0 8 (fRef K .checked) (fdOf K ("CheckedMode", some "refusal")) ["self", "links", "operation"] (spRefusal K [.checked] fun s op => !locl s op) := by
  have bS : Binds K (fdOf K ("GuardedMode", some "refusal")) ["self", "links", "operation"] [] := T.q_guarded.binds fun _ _ _ _ _ us hl => match us, hl with | [_, _, _], _ => rfl
  have d := T.q_checked
  obtain ⟨kV, doc, pm, an, ct, e⟩ := d.eq
  obtain ⟨oc, od, osl, lk⟩ := d.S.lk
  rw [e] at lk ⊢
  refine fn_sup ⟨oc, od, osl, lk⟩ d.cd d.S.cell sc_CheckedMode_refusal (fun vs H Q E h => ?_) fun A outer s H vs Q E hr h => ?_
  · obtain ⟨a, p, dx, m, n, s, op, rfl, _⟩ := h
    rfl
  · obtain ⟨a, p, dx, m, n, sg, op, rfl, hm, ha, O, k⟩ := h
    have hr2 : Room 2 _ := hr.mono (by decide)
    obtain ⟨u, cv⟩ := T.nmC .checked
    refine ⟨_, _, psa_set (i := 4) sc_CheckedMode_refusal.nd rfl (.inl rfl) (pea_sup d.S (supX_of rfl rfl rfl rfl) T.n_super d.st (T.ty .guarded).1 (T.ty .guarded).2 (by decide +kernel) ((ok_ref_guarded T).raw bS .nil) hr pass0 (pa_cons (pv 1) (pa_cons (pv 2) pa_nil))) (.inr rfl),
      pss_cons (ps_if (PW.pt (pw_and (pt_cmpR op_eq (pv 4) pe_str (nomark _)) (pw_and1 (pt_not (pt_val (pe_call (ok_is_local T.toTop) hr2 rfl T.g__is_local T.d__is_local.kp (b__is_local T.toTop) .nil pass0 (pa_cons (pv 1) (pa_cons (pv 2) pa_nil)))))))) (pss_one (ps_ret (ClX.pe_cval (pe_glob rfl T.g_CheckedMode (v := .ref (He.ga K "CheckedMode")) rfl)))) pss_nil)
      (pss_one (ps_ret (pv 4))), ?_⟩
    obtain ⟨s1, s2⟩ := T.su_checked m hm
    refine ⟨a, mdC K m, dx, [], rfl, ha, s1, s2, _, rfl, _, rfl, a, p, dx, m, n, sg, op, rfl, List.mem_cons_of_mem _ hm, ha, O, fun H1 z e1 hz => ?_⟩
    refine ⟨_, rfl, rfl, _, rfl, ?_⟩
    by_cases ez : z = ""
    · subst ez
      refine dT rfl ⟨_, rfl, _, rfl, p, n, sg, op, rfl, O.same e1, fun H2 e2 => ⟨_, rfl, ?_⟩⟩
      cases c : locl sg op with
      | false => exact iteT ⟨He.ga K "CheckedMode", _, _, u, rfl, T.rd .checked, cv, k H2 _ (e1.trans e2) ⟨fun q => absurd q (by decide +kernel), fun q => by have q : (!locl sg op) = false := q; rw [c] at q; cases q⟩⟩
      | true => exact iteF ⟨_, rfl, k H2 _ (e1.trans e2) ⟨fun _ => by show (!locl sg op) = false; rw [c]; rfl, fun _ => rfl⟩⟩
    · refine dF (fun q => ez (V.str.inj q)) (iteF ⟨_, rfl, k H1 z e1 ⟨fun q => absurd q ez, fun q => ?_⟩⟩)
      exact hz.mpr (locl_refG O.wf O.isop (by simpa using q))
/-- all four in one -/
def rfLev : Md → Nat
  | .free => 3
  | .saving => 6
  | .guarded => 7
  | .checked => 8
theorem ok_refusal (T : TopX P K mg) (m : Md) : FnOk P w K mg base CX0 8 (fRef K m) (fdOf K (mdN m, some "refusal")) ["self", "links", "operation"] (spRefusal K [m] fun s op => ref s op m) := by
  have imp : ∀ {ms : List Md} {f : Sg → Int → Bool} {k : Nat}, m ∈ ms → k ≤ 8 → (∀ s op, f s op = ref s op m) → FnOk P w K mg base CX0 k (fRef K m) (fdOf K (mdN m, some "refusal")) ["self", "links", "operation"] (spRefusal K ms f) →
      FnOk P w K mg base CX0 8 (fRef K m) (fdOf K (mdN m, some "refusal")) ["self", "links", "operation"] (spRefusal K [m] fun s op => ref s op m) := fun {ms f k} hm hk hf F =>
    (F.mono hk).imp fun vs H Q E ⟨a, p, dx, m', n, s, op, h1, h2, h3, h4, h5⟩ => by
      have e : m' = m := by simpa using h2
      subst e
      exact ⟨a, p, dx, m', n, s, op, h1, hm, h3, h4, fun H' z e1 e2 => h5 H' z e1 (by show z = "" ↔ ref s op m' = false; rw [← hf]; exact e2)⟩
  cases m with
  | free => exact imp (by simp) (by decide) (fun _ _ => rfl) (ok_ref_free T)
  | saving => exact imp (by simp) (by decide) (fun _ _ => rfl) (ok_ref_saving T)
  | guarded => exact imp (by simp) (by decide) (fun _ _ => rfl) (ok_ref_guarded T)
  | checked => exact imp (by simp) (by decide) (fun _ _ => rfl) (ok_ref_checked T)
theorem b_refusal (T : TopX P K mg) (m : Md) : Binds K (fdOf K (mdN m, some "refusal")) ["self", "links", "operation"] [] := by
  cases m with
  | free => exact b_FreeMode_refusal T.toTop
  | saving => exact T.q_saving.binds fun _ _ _ _ _ us hl => match us, hl with | [_, _, _], _ => rfl
  | guarded => exact T.q_guarded.binds fun _ _ _ _ _ us hl => match us, hl with | [_, _, _], _ => rfl
  | checked => exact T.q_checked.binds fun _ _ _ _ _ us hl => match us, hl with | [_, _, _], _ => rfl
/-! ### the checks that raise -/
abbrev err1 (K : PySem.W.Frag) (x f : Str) (y : V) (H : Hp) (E : XK) : Prop := ∀ d, H d = none → E (.ref (He.ga K x)) (some d) (upd H d (.xd [(f, y)]))
def spCheckSize (K : PySem.W.Frag) : Sp := fun vs H Q E => ∃ n : Int, vs = [.int n] ∧ ((0 ≤ n ∧ n ≤ 60) → Q .non H) ∧ (¬ (0 ≤ n ∧ n ≤ 60) → err1 K "BadSize" "size" (.int n) H E)
theorem ok_check_size (T : TopX P K mg) : FnOk P w K mg base (L2.CX P w) 3 (He.fAd K ("check_size", none)) (fdOf K ("check_size", none)) ["size"] (spCheckSize K) := by
  refine T.d_check_size.ok sc_check_size (fun vs H Q E h => ?_) (fun cdv A outer s H vs Q E hr h => ?_)
  · obtain ⟨n, rfl, _⟩ := h
    rfl
  · obtain ⟨n, rfl, k1, k2⟩ := h
    obtain ⟨t, ht⟩ := T.i_MOST_NODES
    have bI : Binds K (fdOf K ("BadSize", some "__init__")) ["self", "size"] [] := T.i_BadSize.binds fun _ _ _ _ _ us hl => match us, hl with | [_, _], _ => rfl
    refine ⟨_, pss_one (ps_if (pt_not (pt_chain op_le op_le pe_int (pv 0) (pe_glob rfl ht (v := .int 60) ⟨_, rfl⟩)))
      (pss_one (ps_raise rfl (takes_of rfl rfl rfl rfl) (pmk_oex T.e_BadSize.T T.e_BadSize.iC T.e_BadSize.tI (ok_init_BadSize T.e_BadSize T.i_BadSize T.n_super T.nf_size) hr bI .nil pass0 rfl T.g_BadSize (pa_cons (pv 0) pa_nil)))) pss_nil), ?_⟩
    refine ⟨_, rfl, _, _, rfl, rfl, _, rfl, ?_⟩
    by_cases c : 0 ≤ n
    · refine dT c ⟨_, _, rfl, rfl, _, rfl, ?_⟩
      by_cases c2 : n ≤ 60
      · exact nF c2 (k1 ⟨c, c2⟩)
      · exact nT c2 ⟨_, rfl, (by show 1 ≤ 1000; decide), mk1 (k2 fun z => c2 z.2)⟩
    · exact dF c ⟨_, rfl, iteT ⟨_, rfl, (by show 1 ≤ 1000; decide), mk1 (k2 fun z => c z.1)⟩⟩
end
end Lk

set_option maxHeartbeats 4000000
/-! check_mode, mode_named, refuser. -/
namespace Lk
open PySem PySem.Spec PyProof.Rows L2
def mdOf (z : Str) : Option Md := if z = "free" then some .free else if z = "saving" then some .saving else if z = "guarded" then some .guarded else if z = "checked" then some .checked else none
theorem mdOf_some {z : Str} {m : Md} (h : mdOf z = some m) : z = mdS m := by
  unfold mdOf at h
  split at h
  · cases h; assumption
  · split at h
    · cases h; assumption
    · split at h
      · cases h; assumption
      · split at h
        · cases h; assumption
        · cases h
theorem mdS_of : ∀ m, mdOf (mdS m) = some m := by
  intro m
  cases m <;> decide +kernel
theorem in_modes (z : Str) : inV (.str z) [.str "free", .str "saving", .str "guarded", .str "checked"] = (mdOf z).isSome := by
  unfold mdOf inV
  simp only [List.any_cons, List.any_nil, eqV, Bool.or_false]
  by_cases h1 : z = "free"
  · subst h1; decide +kernel
  rw [if_neg h1]
  by_cases h2 : z = "saving"
  · subst h2; decide +kernel
  rw [if_neg h2]
  by_cases h3 : z = "guarded"
  · subst h3; decide +kernel
  rw [if_neg h3]
  by_cases h4 : z = "checked"
  · subst h4; decide +kernel
  rw [if_neg h4]
  simp [Ne.symm h1, Ne.symm h2, Ne.symm h3, Ne.symm h4, h1, h2, h3, h4]
theorem passF {X : Cx} : Passes (L2.CX X.prog X.w) X (fun _ _ _ => False) := fun _ _ _ _ _ _ _ ⟨_, _, _, _, _, _, _, _, _, _, _, _, h⟩ => h.elim
def spCheckMode (K : PySem.W.Frag) : Sp := fun vs H Q E => ∃ z : Str, vs = [.str z] ∧ (∀ m, mdOf z = some m → Q .non H) ∧ (mdOf z = none → err1 K "BadMode" "name" (.str z) H E)
def spModeNamed (K : PySem.W.Frag) : Sp := fun vs H Q _ => ∃ m : Md, vs = [.str (mdS m)] ∧ ∀ a dx, H a = none → H dx = none → dx ≠ a → Q (.ref a) (upd (upd H dx (.own a)) a (.ins (mdC K m) dx []))
def spRefuser (K : PySem.W.Frag) : Sp := fun vs H Q _ => ∃ (p : Addr) (m : Md) (n : Nat) (s : Sg) (op : Int), vs = [.ref p, .int op, .str (mdS m)] ∧ OpP K H p n s op ∧
  ∀ H' (z : Str), Same H H' → (z = "" ↔ ref s op m = false) → Q (.str z) H'
section
variable {P : Program} {w : World} {K : PySem.W.Frag} {mg : Str → Option Value} {base : Heap}
theorem ok_check_mode (T : TopX P K mg) : FnOk P w K mg base (L2.CX P w) 3 (He.fAd K ("check_mode", none)) (fdOf K ("check_mode", none)) ["mode"] (spCheckMode K) := by
  refine T.d_check_mode.ok sc_check_mode (fun vs H Q E h => ?_) (fun cdv A outer s H vs Q E hr h => ?_)
  · obtain ⟨z, rfl, _⟩ := h
    rfl
  · obtain ⟨z, rfl, k1, k2⟩ := h
    have bI : Binds K (fdOf K ("BadMode", some "__init__")) ["self", "name"] [] := T.i_BadMode.binds fun _ _ _ _ _ us hl => match us, hl with | [_, _], _ => rfl
    refine ⟨_, pss_one (ps_if (pt_cmpR op_notIn_seq (pv 0) (pe_glob rfl T.g_MODES (v := .ref (He.ga K "MODES")) rfl) (by rfl))
      (pss_one (ps_raise rfl (takes_of rfl rfl rfl rfl) (pmk_oex T.e_BadMode.T T.e_BadMode.iC T.e_BadMode.tI (ok_init_BadMode T.e_BadMode T.i_BadMode T.n_super T.nf_name) hr bI .nil pass0 rfl T.g_BadMode (pa_cons (pv 0) pa_nil)))) pss_nil), ?_⟩
    refine ⟨_, rfl, _, _, rfl, .inr (T.t_MODES H), rfl, rfl, ?_⟩
    rw [in_modes]
    refine ⟨_, rfl, ?_⟩
    cases c : mdOf z with
    | none => exact iteT ⟨_, rfl, (by show 1 ≤ 1000; decide), mk1 (k2 c)⟩
    | some m => exact iteF (k1 m c)
theorem ok_mode_named (T : TopX P K mg) : FnOk P w K mg base CX0 4 (He.fAd K ("mode_named", none)) (fdOf K ("mode_named", none)) ["mode"] (spModeNamed K) := by
  refine fd_ok T.d_mode_named sc_mode_named (fun vs H Q E h => ?_) (fun cdv A outer s H vs Q E hr h => ?_)
  · obtain ⟨z, rfl, _⟩ := h
    rfl
  · obtain ⟨m, rfl, k⟩ := h
    obtain ⟨u1, v1⟩ := T.nmC .saving
    obtain ⟨u2, v2⟩ := T.nmC .guarded
    obtain ⟨u3, v3⟩ := T.nmC .checked
    refine ⟨_, pss_cons (ps_expr (pe_call (ok_check_mode T) hr rfl T.g_check_mode T.d_check_mode.kp (b_check_mode T.toTop) .nil passF (pa_cons (pv 0) pa_nil)))
      (pss_cons (ps_if (pt_cmpR op_eq (pv 0) (ClX.pe_cval (pe_glob rfl T.g_SavingMode (v := .ref (He.ga K "SavingMode")) rfl)) (nomark _)) (pss_one (ps_ret (pe_new (T.mo .saving) rfl T.g_SavingMode))) pss_nil)
      (pss_cons (ps_if (pt_cmpR op_eq (pv 0) (ClX.pe_cval (pe_glob rfl T.g_GuardedMode (v := .ref (He.ga K "GuardedMode")) rfl)) (nomark _)) (pss_one (ps_ret (pe_new (T.mo .guarded) rfl T.g_GuardedMode))) pss_nil)
      (pss_cons (ps_if (pt_cmpR op_eq (pv 0) (ClX.pe_cval (pe_glob rfl T.g_CheckedMode (v := .ref (He.ga K "CheckedMode")) rfl)) (nomark _)) (pss_one (ps_ret (pe_new (T.mo .checked) rfl T.g_CheckedMode))) pss_nil)
      (pss_one (ps_ret (pe_new (T.mo .free) rfl T.g_FreeMode)))))), ?_⟩
    refine ⟨_, rfl, mdS m, rfl, fun m' _ => ?_, fun e => by rw [mdS_of] at e; cases e⟩
    refine ⟨_, rfl, He.ga K "SavingMode", _, _, u1, rfl, T.rd .saving, v1, rfl, _, rfl, ?_⟩
    by_cases c1 : m = .saving
    · subst c1
      exact dT rfl k
    refine dF (by cases m <;> first | exact absurd rfl c1 | decide +kernel) ?_
    refine ⟨_, rfl, He.ga K "GuardedMode", _, _, u2, rfl, T.rd .guarded, v2, rfl, _, rfl, ?_⟩
    by_cases c2 : m = .guarded
    · subst c2
      exact dT rfl k
    refine dF (by cases m <;> first | exact absurd rfl c1 | exact absurd rfl c2 | decide +kernel) ?_
    refine ⟨_, rfl, He.ga K "CheckedMode", _, _, u3, rfl, T.rd .checked, v3, rfl, _, rfl, ?_⟩
    by_cases c3 : m = .checked
    · subst c3
      exact dT rfl k
    refine dF (by cases m <;> first | exact absurd rfl c1 | exact absurd rfl c2 | exact absurd rfl c3 | decide +kernel) ?_
    cases m <;> first | exact absurd rfl c1 | exact absurd rfl c2 | exact absurd rfl c3 | exact k
theorem ok_refuser (T : TopX P K mg) : FnOk P w K mg base CX0 9 (He.fAd K ("refuser", none)) (fdOf K ("refuser", none)) ["links", "operation", "mode"] (spRefuser K) := by
  refine fd_ok T.d_refuser sc_refuser (fun vs H Q E h => ?_) (fun cdv A outer s H vs Q E hr h => ?_)
  · obtain ⟨p, m, n, s, op, rfl, _⟩ := h
    rfl
  · obtain ⟨p, m, n, sg, op, rfl, O, k⟩ := h
    have hr4 : Room 4 _ := hr.mono (by decide)
    refine ⟨_, pss_cons (ps_set (i := 3) sc_refuser.nd rfl (Or.inl rfl) (pe_call (ok_mode_named T) hr4 rfl T.g_mode_named T.d_mode_named.kp (b_mode_named T.toTop) .nil pass0 (pa_cons (pv 2) pa_nil)))
      (pss_one (ps_ret (pe_meth (pv 3) (T.cm m) (T.mt m) (ok_refusal T m) hr (b_refusal T m) .nil pass0 (pa_cons (pv 0) (pa_cons (pv 1) pa_nil))))), ?_⟩
    refine ⟨_, rfl, m, rfl, fun a dx ha hd ne => ?_⟩
    have s1 : Same H (upd (upd H dx (.own a)) a (.ins (mdC K m) dx [])) := fun b o e => by
      rw [upd_ne (ne_of_none e ha), upd_ne (ne_of_none e hd)]; exact e
    refine ⟨_, rfl, a, dx, _, rfl, upd_same, rfl, _, rfl, _, rfl, ?_⟩
    exact ⟨a, p, dx, m, n, sg, op, rfl, by simp, upd_same, O.same s1, fun H' z e hz => k H' z (s1.trans e) hz⟩
end
end Lk

set_option maxHeartbeats 4000000
/-! Links: making, built, copy. -/
namespace Lk
open PySem PySem.Spec PyProof.Rows L2
section
variable {X : Cx} {CX : CXT} {k : Nat} {C p g : Addr} {mc : Value} {sp : Sp} {E : XK} {o e : Expr} {es : List Expr} {f m : Str} {pos apos : Pos} {ta : TE} {t : TA} {pl : Sem Bool}
/-- e.m(..), e the class at C, m a staticmethod -/
def tSMeth (C : Addr) (sp : Sp) (E : XK) (ta : TE) (t : TA) : TE := fun σ H Q => ta σ H fun x H1 => x = .ref C ∧ t σ H1 fun vs H2 => sp vs H2 Q E
theorem pe_smeth (he : PE X o ta) (r : ClX.CRead X.K C mc) (at_ : PySem.W.findCls X.K (.ref C) mc m = some (.get (.builtin "staticmethod.__get__") (.ref p) .none (.ref C))) (rc : ∃ rest, PySem.W.recIn X.K p "staticmethod" = some (.ref g :: rest))
    (kp : PySem.W.keepIn X.K (.ref g) = true) (F : FnR X.prog X.w X.K X.mg X.base CX k g sp) (hr : Room k X.A) (hx : Passes CX X E) (ha : PA X (e :: es) t)
    (hst : starEach (e :: es) X.env = (false, eval e X.env) :: starEach es X.env := by rfl) (hpl : (backTo pos (starEach es X.env)).any (·.1) = false := by rfl)
    (ht : eval (.Call (.Attribute o m apos) (e :: es) [] pos) X.env = (do
      let ov ← eval o X.env
      standAt apos.atName
      let (f, first) ← holding [ov] (getMethod ov m pl)
      callWith pos f first (backTo pos (starEach (e :: es) X.env)) (backToKw pos (keywordEach [] X.env))) := by rfl) :
    PE X (.Call (.Attribute o m apos) (e :: es) [] pos) (tSMeth C sp E ta t) := by
  refine ⟨fun pins s σ H Q I h => ?_⟩
  refine PySem.W.methodCall_KW (pl := pl) (thn (he.run pins s σ H _ I h) fun u s1 ⟨x, H1, I1, rx, ex, q⟩ => ?_) ht
  subst ex
  obtain rfl : u = Value.ref C := rx
  obtain ⟨rest, hp⟩ := rc
  refine PySem.W.method_cls I1.kIn r.ga (PySem.W.cls_bind I1.kIn r.rd at_ (wpAny_call (PySem.W.sm_get (s := { s1 with toks := s1.toks + 1 }) I1.kIn hp (PySem.W.handed_on rfl ?_))))
  have I2 := I1.tok (s1.toks + 1)
  refine PySem.W.callWith_K (h₀ := X.base) I2.ok.mod.kin kp (thn (ha.run pos pins _ σ H1 _ I2 q) fun us s2 ⟨vs, H2, I3, rv, q2⟩ => ⟨I3.kIn, ?_⟩) hst hpl
  exact wpAny_call (run_fnR F hr hx I3 rv q2)
end
theorem pf2 {n x : V} : putF "_lefts" x [("size", n)] = ([("size", n), ("_lefts", x)] : List (Str × V)) := by
  unfold putF putF
  rw [if_neg (by decide +kernel)]
theorem pf3 {n x y : V} : putF "_rights" y [("size", n), ("_lefts", x)] = ([("size", n), ("_lefts", x), ("_rights", y)] : List (Str × V)) := by
  unfold putF putF putF
  rw [if_neg (by decide +kernel), if_neg (by decide +kernel)]
theorem pf4 {n x y z : V} : putF "_flags" z [("size", n), ("_lefts", x), ("_rights", y)] = ([("size", n), ("_lefts", x), ("_rights", y), ("_flags", z)] : List (Str × V)) := by
  unfold putF putF putF putF
  rw [if_neg (by decide +kernel), if_neg (by decide +kernel), if_neg (by decide +kernel)]
theorem pl {n : Int} {a b c d : Addr} : putF "_lefts" (.ref d) (lf n a b c) = lf n d b c := by
  unfold lf putF putF
  rw [if_neg (by decide +kernel), if_pos rfl]
theorem pr {n : Int} {a b c d : Addr} : putF "_rights" (.ref d) (lf n a b c) = lf n a d c := by
  unfold lf putF putF putF
  rw [if_neg (by decide +kernel), if_neg (by decide +kernel), if_pos rfl]
theorem pf {n : Int} {a b c d : Addr} : putF "_flags" (.ref d) (lf n a b c) = lf n a b d := by
  unfold lf putF putF putF putF
  rw [if_neg (by decide +kernel), if_neg (by decide +kernel), if_neg (by decide +kernel), if_pos rfl]
theorem rg_L (n : Nat) : rgV (-1) ((n : Int) + 1) = (Sg.whole n).L.map V.int := by
  unfold rgV Sg.whole
  rw [show ((n : Int) + 1 - -1).toNat = n + 2 by omega, List.map_map]
  refine List.map_congr_left fun i _ => ?_
  show V.int (-1 + (i : Int)) = V.int ((i : Int) - 1)
  rw [show -1 + (i : Int) = i - 1 by omega]
theorem rg_R (n : Nat) : rgV 1 ((n : Int) + 3) = (Sg.whole n).R.map V.int := by
  unfold rgV Sg.whole
  rw [show ((n : Int) + 3 - 1).toNat = n + 2 by omega, List.map_map]
  refine List.map_congr_left fun i _ => ?_
  show V.int (1 + (i : Int)) = V.int ((i : Int) + 1)
  rw [show 1 + (i : Int) = i + 1 by omega]
theorem rep_F (n : Nat) : (List.replicate ((n : Int) + 2).toNat [V.bl false]).flatten = (Sg.whole n).F.map V.bl := by
  unfold Sg.whole
  rw [show ((n : Int) + 2).toNat = n + 2 by omega, List.map_replicate]
  generalize n + 2 = k
  induction k with
  | zero => rfl
  | succ k ih => rw [List.replicate_succ, List.flatten_cons, ih]; rfl
structure StatF (K : PySem.W.Frag) (st : Stmt) : Prop where
  rd : ClX.CRead K (CL K) (.type "type")
  ex : ∃ (p g : Addr) (fd : FuncData) (rest : List Value), PySem.W.findCls K (.ref (CL K)) (.type "type") "built" = some (.get (.builtin "staticmethod.__get__") (.ref p) .none (.ref (CL K))) ∧ PySem.W.recIn K p "staticmethod" = some (.ref g :: rest) ∧
    FunD K "built" "Links.built" (defArgs st) (defBody st) (defScope st) [] [] g fd
structure TopY (P : Program) (K : PySem.W.Frag) (mg : Str → Option Value) : Prop extends TopX P K mg where
  sb : StatF K s_Links_built
/-- a Links object made since H -/
def NewLk (K : PySem.W.Frag) (H H' : Hp) (p : Addr) (n : Nat) (s : Sg) : Prop := ∃ dx aL aR aF, LkAt (CL K) H' p dx aL aR aF n s ∧ H p = none ∧ H aL = none ∧ H aR = none ∧ H aF = none
def spLinit (K : PySem.W.Frag) : Sp := fun vs H Q _ => ∃ (a dx : Addr) (n : Nat), vs = [.ref a, .int n] ∧ n ≤ 60 ∧ H a = some (.ins (CL K) dx []) ∧
  ∀ H' aL aR aF, LkAt (CL K) H' a dx aL aR aF n (Sg.whole n) → But a H H' → H aL = none → H aR = none → H aF = none → Q .non H'
def spBuilt (K : PySem.W.Frag) : Sp := fun vs H Q _ => ∃ (n : Nat) (l r f : Addr) (s : Sg), vs = [.int n, .ref l, .ref r, .ref f] ∧ n ≤ 60 ∧ H l = some (.lst (s.L.map V.int)) ∧ H r = some (.lst (s.R.map V.int)) ∧ H f = some (.lst (s.F.map V.bl)) ∧
  ∀ H' p, Same H H' → NewLk K H H' p n s → Q (.ref p) H'
def spCopy (K : PySem.W.Frag) : Sp := fun vs H Q _ => ∃ (p : Addr) (n : Nat) (s : Sg), vs = [.ref p] ∧ n ≤ 60 ∧ LkS (CL K) H p n s ∧ ∀ H' q, Same H H' → NewLk K H H' q n s → Q (.ref q) H'
section
variable {P : Program} {w : World} {K : PySem.W.Frag} {mg : Str → Option Value} {base : Heap}
theorem ok_Linit (T : TopX P K mg) : FnOk P w K mg base CX0 4 (He.fAd K ("Links", some "__init__")) (fdOf K ("Links", some "__init__")) ["self", "size"] (spLinit K) := by
  refine fd_ok T.d_Links___init__ sc_Links___init__ (fun vs H Q E h => ?_) (fun cdv A outer s H vs Q E hr h => ?_)
  · obtain ⟨a, dx, n, rfl, _⟩ := h
    rfl
  · obtain ⟨a, dx, n, rfl, hn, ha, k⟩ := h
    refine ⟨_, pss_cons (ps_expr (pe_call (ok_check_size T) hr rfl T.g_check_size T.d_check_size.kp (b_check_size T.toTop) .nil passF (pa_cons (pv 1) pa_nil)))
      (pss_cons (ps_fld (pv 0) (pv 1) rfl)
      (pss_cons (ps_fld (pv 0) (pe_listRg rfl rfl T.n_list (prg_2 rfl T.n_range (pe_un un_neg pe_int) (pe_op op_add (pv 1) pe_int))) rfl)
      (pss_cons (ps_fld (pv 0) (pe_listRg rfl rfl T.n_list (prg_2 rfl T.n_range pe_int (pe_op op_add (pv 1) pe_int))) rfl)
      (pss_one (ps_fld (pv 0) (pe_op op_rep (pe_lst (pa_cons pe_bl pa_nil)) (pe_op op_add (pv 1) pe_int)) rfl))))), ?_⟩
    refine ⟨_, rfl, n, rfl, fun _ => ?_, fun c => absurd ⟨by omega, by omega⟩ c⟩
    refine ⟨_, rfl, _, rfl, a, _, dx, _, rfl, ha, T.c_Links, T.na_size, (by decide), ?_⟩
    have aLa : ∀ {b : Addr} {o : HO} {G : Hp}, upd G a o b = none → b ≠ a := fun e q => by rw [q, upd_same] at e; cases e
    refine ⟨_, rfl, _, rfl, _, _, rfl, rfl, _, _, rfl, rfl, ⟨by omega, by omega, by omega, by omega, by omega⟩, fun aL hL => ?_⟩
    have na := aLa hL
    refine ⟨_, rfl, a, _, dx, _, rfl, (by rw [upd_ne na.symm, upd_same]), T.c_Links, T.na__lefts, (by show 1 < 1000; decide), ?_⟩
    refine ⟨_, rfl, _, _, rfl, rfl, _, _, rfl, rfl, ⟨by omega, by omega, by omega, by omega, by omega⟩, fun aR hR => ?_⟩
    have nb := aLa hR
    have nbL : aR ≠ aL := fun q => by rw [upd_ne nb, q, upd_same] at hR; cases hR
    refine ⟨_, rfl, a, _, dx, _, rfl, (by rw [upd_ne nb.symm, upd_same]), T.c_Links, T.na__rights, (by rw [show putF "size" (V.int (n : Int)) [] = ([("size", V.int (n : Int))] : List (Str × V)) from rfl, pf2]; show 2 < 1000; decide), ?_⟩
    refine ⟨by decide, fun t ht => ?_⟩
    have nt := aLa ht
    have ntR : t ≠ aR := fun q => by rw [upd_ne nt, q, upd_same] at ht; cases ht
    have ntL : t ≠ aL := fun q => by rw [upd_ne nt, upd_ne ntR, upd_ne nt, q, upd_same] at ht; cases ht
    refine ⟨_, rfl, _, _, rfl, rfl, t, _, _, rfl, rfl, upd_same, by omega, by omega, ?_, fun aF hF => ?_⟩
    · rw [sizeLine_eq]; show 1 * _ ≤ _; omega
    have ntF : aF ≠ t := fun q => by rw [q, upd_same] at hF; cases hF
    rw [upd_ne ntF] at hF
    have nc := aLa hF
    have ncR : aF ≠ aR := fun q => by rw [upd_ne nc, q, upd_same] at hF; cases hF
    have ncL : aF ≠ aL := fun q => by rw [upd_ne nc, upd_ne ncR, upd_ne nc, q, upd_same] at hF; cases hF
    refine ⟨_, rfl, a, _, dx, _, rfl, (by rw [upd_ne nc.symm, upd_ne nt.symm, upd_same]), T.c_Links, T.na__flags, (by rw [show putF "size" (V.int (n : Int)) [] = ([("size", V.int (n : Int))] : List (Str × V)) from rfl, pf2, pf3]; show 3 < 1000; decide), ?_⟩
    rw [rg_L, rg_R, rep_F]
    have zL : H aL = none := by rw [upd_ne na] at hL; exact hL
    have zR : H aR = none := by rw [upd_ne nb, upd_ne nbL, upd_ne nb] at hR; exact hR
    have zF : H aF = none := by rw [upd_ne nc, upd_ne ncR, upd_ne nc, upd_ne ncL, upd_ne nc] at hF; exact hF
    have zt : H t = none := by rw [upd_ne nt, upd_ne ntR, upd_ne nt, upd_ne ntL, upd_ne nt] at ht; exact ht
    refine k _ aL aR aF ⟨?_, ?_, ?_, ?_, nbL.symm, ncL.symm, ncR.symm⟩ (fun b o e n1 => ?_) zL zR zF
    · rw [upd_same]
      show some (HO.ins _ _ (putF "_flags" _ (putF "_rights" _ (putF "_lefts" _ (putF "size" _ []))))) = _
      rw [show putF "size" (V.int (n : Int)) [] = ([("size", V.int (n : Int))] : List (Str × V)) from rfl, pf2, pf3, pf4]
      rfl
    · rw [upd_ne na, upd_ne ncL.symm, upd_ne ntL.symm, upd_ne na, upd_ne nbL.symm, upd_ne na, upd_same]
    · rw [upd_ne nb, upd_ne ncR.symm, upd_ne ntR.symm, upd_ne nb, upd_same]
    · rw [upd_ne nc, upd_same]
    · rw [upd_ne n1, upd_ne (ne_of_none e zF), upd_ne (ne_of_none e zt), upd_ne n1, upd_ne (ne_of_none e zR), upd_ne n1, upd_ne (ne_of_none e zL), upd_ne n1]; exact e
theorem ok_built (T : TopX P K mg) {g : Addr} {fd : FuncData} (D : FunD K "built" "Links.built" (defArgs s_Links_built) (defBody s_Links_built) (defScope s_Links_built) [] [] g fd) : FnOk P w K mg base CX0 6 g fd ["size", "lefts", "rights", "flags"] (spBuilt K) := by
  refine fd_ok D sc_Links_built (fun vs H Q E h => ?_) (fun cdv A outer s H vs Q E hr h => ?_)
  · obtain ⟨n, l, r, f, s, rfl, _⟩ := h
    rfl
  · obtain ⟨n, l, r, f, sg, rfl, hn, h1, h2, h3, k⟩ := h
    refine ⟨_, pss_cons (ps_set (i := 4) sc_Links_built.nd rfl (Or.inl rfl) (pe_make T.k_Links (ok_Linit T) hr rfl T.g_Links (b_Links___init__ T.toTop) .nil pass0 (pa_cons (pv 0) pa_nil)))
      (pss_cons (ps_fld (pv 4) (pe_callTy call_list_of (by rfl) T.n_list (by decide +kernel) (pa_cons (pv 1) pa_nil)) rfl)
      (pss_cons (ps_fld (pv 4) (pe_callTy call_list_of (by rfl) T.n_list (by decide +kernel) (pa_cons (pv 2) pa_nil)) rfl)
      (pss_cons (ps_fld (pv 4) (pe_callTy call_list_of (by rfl) T.n_list (by decide +kernel) (pa_cons (pv 3) pa_nil)) rfl)
      (pss_one (ps_ret (pv 4)))))), ?_⟩
    refine ⟨_, rfl, fun x dx hx hdx ne => ?_⟩
    have s0 : Same H (upd (upd H dx (.own x)) x (.ins (CL K) dx [])) := fun b o e => by rw [upd_ne (ne_of_none e hx), upd_ne (ne_of_none e hdx)]; exact e
    refine ⟨x, dx, n, rfl, hn, upd_same, fun H1 bL bR bF S1 b1 zL zR zF => ⟨rfl, ?_⟩⟩
    have e1 : Same H H1 := fun b o e => b1 b o (s0 b o e) (ne_of_none e hx)
    have q : ∀ {b : Addr} {o : HO}, H b = some o → b ≠ x := fun e => ne_of_none e hx
    have aLa : ∀ {b : Addr} {o : HO} {G : Hp}, upd G x o b = none → b ≠ x := fun e q => by rw [q, upd_same] at e; cases e
    refine ⟨_, rfl, l, _, rfl, .inl (SqL.of (e1 _ _ h1)), fun aL hL => ?_⟩
    have na : aL ≠ x := fun z => by rw [z, S1.ob] at hL; cases hL
    refine ⟨_, rfl, x, _, dx, _, rfl, (by rw [upd_ne na.symm]; exact S1.ob), T.c_Links, T.na__lefts, (by show 4 < 1000; decide), ?_⟩
    rw [pl]
    have zaL : H aL = none := e1.free hL
    refine ⟨_, rfl, r, _, rfl, .inl (SqL.of (by rw [upd_ne (q h2), upd_ne (ne_of_none h2 zaL)]; exact e1 _ _ h2)), fun aR hR => ?_⟩
    have nb := aLa hR
    have nbL : aR ≠ aL := fun q => by rw [upd_ne nb, q, upd_same] at hR; cases hR
    refine ⟨_, rfl, x, _, dx, _, rfl, (by rw [upd_ne nb.symm, upd_same]), T.c_Links, T.na__rights, (by show 4 < 1000; decide), ?_⟩
    rw [pr]
    have zaR : H aR = none := e1.free (by rw [upd_ne nb, upd_ne nbL] at hR; exact hR)
    refine ⟨_, rfl, f, _, rfl, .inl (SqL.of (by rw [upd_ne (q h3), upd_ne (ne_of_none h3 zaR), upd_ne (q h3), upd_ne (ne_of_none h3 zaL)]; exact e1 _ _ h3)), fun aF hF => ?_⟩
    have nc := aLa hF
    have ncR : aF ≠ aR := fun q => by rw [upd_ne nc, q, upd_same] at hF; cases hF
    have ncL : aF ≠ aL := fun q => by rw [upd_ne nc, upd_ne ncR, upd_ne nc, q, upd_same] at hF; cases hF
    have zaF : H aF = none := e1.free (by rw [upd_ne nc, upd_ne ncR, upd_ne nc, upd_ne ncL] at hF; exact hF)
    refine ⟨_, rfl, x, _, dx, _, rfl, (by rw [upd_ne nc.symm, upd_same]), T.c_Links, T.na__flags, (by show 4 < 1000; decide), ?_⟩
    rw [pf]
    refine ⟨_, rfl, k _ x (fun b o e => ?_) ⟨dx, aL, aR, aF, ⟨upd_same, ?_, ?_, ?_, nbL.symm, ncL.symm, ncR.symm⟩, hx, zaL, zaR, zaF⟩⟩
    · rw [upd_ne (q e), upd_ne (ne_of_none e zaF), upd_ne (q e), upd_ne (ne_of_none e zaR), upd_ne (q e), upd_ne (ne_of_none e zaL)]; exact e1 _ _ e
    · rw [upd_ne na, upd_ne ncL.symm, upd_ne na, upd_ne nbL.symm, upd_ne na, upd_same]
    · rw [upd_ne nb, upd_ne ncR.symm, upd_ne nb, upd_same]
    · rw [upd_ne nc, upd_same]
theorem ok_copy (T : TopY P K mg) : FnOk P w K mg base CX0 7 (He.fAd K ("Links", some "copy")) (fdOf K ("Links", some "copy")) ["self"] (spCopy K) := by
  refine fd_ok T.d_Links_copy sc_Links_copy (fun vs H Q E h => ?_) (fun cdv A outer s H vs Q E hr h => ?_)
  · obtain ⟨p, n, s, rfl, _⟩ := h
    rfl
  · obtain ⟨p, n, sg, rfl, hn, ⟨dx, aL, aR, aF, S⟩, k⟩ := h
    obtain ⟨pa, g, fd, rest, fc, rc, D⟩ := T.sb.ex
    have bB : Binds K fd ["size", "lefts", "rights", "flags"] [] := D.bindsN fun _ _ _ _ _ _ us hl => match us, hl with | [_, _, _, _], _ => rfl
    refine ⟨_, pss_one (ps_ret (pe_smeth (pe_glob rfl T.g_Links (v := .ref (CL K)) rfl) T.sb.rd fc ⟨rest, rc⟩ D.kp ((ok_built T.toTopX D).raw bB .nil) hr pass0 (pa_cons (pe_fld (pv 0) rfl) (pa_cons (pe_fld (pv 0) rfl) (pa_cons (pe_fld (pv 0) rfl) (pa_cons (pe_fld (pv 0) rfl) pa_nil)))))), ?_⟩
    refine ⟨rfl, _, rfl, p, _, dx, _, _, rfl, S.ob, T.c_Links, T.na_size, lf_size, ?_⟩
    refine ⟨_, rfl, p, _, dx, _, _, rfl, S.ob, T.c_Links, T.na__lefts, lf_L, ?_⟩
    refine ⟨_, rfl, p, _, dx, _, _, rfl, S.ob, T.c_Links, T.na__rights, lf_R, ?_⟩
    refine ⟨_, rfl, p, _, dx, _, _, rfl, S.ob, T.c_Links, T.na__flags, lf_F, ?_⟩
    exact ⟨n, aL, aR, aF, sg, rfl, hn, S.l, S.r, S.f, fun H' q e1 e2 => k H' q e1 e2⟩
end
end Lk

set_option maxHeartbeats 4000000
/-! dump: a text of bounded length. -/
namespace Lk
open PySem PySem.Spec PyProof.Rows L2
theorem num_len0 : ∀ k : Fin 141, (Str.ofString (toString ((k.val : Int) - 70))).length ≤ 3 := by decide +kernel
theorem num_len {i : Int} (h : i.natAbs ≤ 70) : (Str.ofString (toString i)).length ≤ 3 := by
  have q := num_len0 ⟨(i + 70).toNat, by omega⟩
  have e : (((i + 70).toNat : Int) - 70) = i := by omega
  simp only [e] at q
  exact q
theorem log_small {i : Int} (h : i.natAbs ≤ 70) : i.natAbs.log2 < 1920 := by
  have : i.natAbs.log2 ≤ i.natAbs := Nat.log2_le_self _
  omega
theorem sjoin_len (a : Str) : ∀ ys : List Str, (Str.join a ys).length ≤ (ys.map (·.length)).sum + ys.length * a.length
  | [] => by show Str.empty.length ≤ _; exact Nat.zero_le _
  | [x] => by simp [Str.join]
  | x :: z :: r => by
    have ih := sjoin_len a (z :: r)
    show (x ++ a ++ Str.join a (z :: r)).length ≤ _
    rw [Str.length_append, Str.length_append]
    simp only [List.map_cons, List.sum_cons, List.length_cons] at ih ⊢
    have : (r.length + 1 + 1) * a.length = (r.length + 1) * a.length + a.length := by rw [Nat.add_mul _ 1, Nat.one_mul]
    omega
theorem sum_le {ys : List Str} {k : Nat} (h : ∀ y ∈ ys, y.length ≤ k) : (ys.map (·.length)).sum ≤ ys.length * k := by
  induction ys with
  | nil => simp
  | cons y r ih =>
    have h1 := h y List.mem_cons_self
    have h2 := ih fun z hz => h z (List.mem_cons_of_mem _ hz)
    simp only [List.map_cons, List.sum_cons, List.length_cons, Nat.add_mul, Nat.one_mul]
    omega
theorem join_len {a : Str} {ys : List Str} {k : Nat} (h : ∀ y ∈ ys, y.length ≤ k) : (Txt.join a ys).length ≤ ys.length * k + ys.length * a.length := by
  rw [TL.join_eq]
  exact Nat.le_trans (sjoin_len a ys) (Nat.add_le_add_right (sum_le h) _)
/-- small entries -/
def Sm (s : Sg) : Prop := (∀ x ∈ s.L, x.natAbs ≤ 70) ∧ ∀ x ∈ s.R, x.natAbs ≤ 70
theorem sm_whole {n : Nat} (h : n ≤ 60) : Sm (Sg.whole n) := by
  constructor
  · intro x hx
    obtain ⟨k, hk, rfl⟩ := List.mem_map.mp hx
    have := List.mem_range.mp hk
    omega
  · intro x hx
    obtain ⟨k, hk, rfl⟩ := List.mem_map.mp hx
    have := List.mem_range.mp hk
    omega
theorem Sm.app {n : Nat} {s : Sg} {op : Int} (h : Sm s) (hn : n ≤ 60) (W : Wf n s) (ho : IsOp n op) : Sm (s.app op) := by
  have h1 := W.lo0 ho; have h2 := W.hi0 ho; have h3 := ho.1; have h4 := ho.2
  have zs : ∀ {l : List Int} {i : Nat} {v : Int}, (∀ x ∈ l, x.natAbs ≤ 70) → v.natAbs ≤ 70 → ∀ x ∈ l.set i v, x.natAbs ≤ 70 := fun hl hv x hx => by
    rcases List.mem_or_eq_of_mem_set hx with q | q
    · exact hl _ q
    · rw [q]; exact hv
  unfold Sg.app
  exact ⟨zs h.1 (by split <;> omega), zs h.2 (by split <;> omega)⟩
/-- texts at l, each of k signs at most -/
def TxL (H : Hp) (l : Addr) (m k : Nat) : Prop := ∃ ys : List Str, H l = some (.lst (ys.map V.str)) ∧ ys.length ≤ m ∧ ∀ y ∈ ys, y.length ≤ k
theorem TxL.add {H : Hp} {l : Addr} {m k : Nat} {z : Str} (h : TxL H l m k) (hz : z.length ≤ k) : ∃ acc, H l = some (.lst acc) ∧ acc.length ≤ m ∧ TxL (upd H l (.lst (acc ++ [V.str z]))) l (m + 1) k := by
  obtain ⟨ys, e, h1, h2⟩ := h
  refine ⟨_, e, by rw [List.length_map]; exact h1, ys ++ [z], by rw [upd_same, List.map_append]; rfl, by rw [List.length_append]; show ys.length + 1 ≤ _; omega, fun y hy => ?_⟩
  rcases List.mem_append.mp hy with q | q
  · exact h2 y q
  · rw [List.mem_singleton.mp q]; exact hz
def spParts (K : PySem.W.Frag) : Sp := fun vs H Q _ => ∃ (p : Addr) (n : Nat) (s : Sg), vs = [.ref p] ∧ n ≤ 60 ∧ LkS (CL K) H p n s ∧ Wf n s ∧ Sm s ∧
  ∀ H' l, Same H H' → H l = none → TxL H' l 3 400 → Q (.ref l) H'
def spDump (K : PySem.W.Frag) : Sp := fun vs H Q _ => ∃ (p : Addr) (n : Nat) (s : Sg), vs = [.ref p] ∧ n ≤ 60 ∧ LkS (CL K) H p n s ∧ Wf n s ∧ Sm s ∧
  ∀ H' z, Same H H' → Q (.str z) H'
theorem cut_mem {l : List Int} {lo hi : Option Int} {y : V} (h : y ∈ cutV (l.map V.int) lo hi) : ∃ x ∈ l, y = .int x := by
  unfold cutV at h
  obtain ⟨x, hx, e⟩ := List.mem_map.mp (List.mem_of_mem_drop (List.mem_of_mem_take h))
  exact ⟨x, hx, e.symm⟩
theorem cut_len {l : List Int} {lo hi : Option Int} : (cutV (l.map V.int) lo hi).length ≤ l.length := by
  have := cutV_length (l.map V.int) lo hi
  rw [List.length_map] at this
  exact this
section
variable {P : Program} {w : World} {K : PySem.W.Frag} {mg : Str → Option Value} {base : Heap}
theorem ok_parts (T : TopY P K mg) : FnOk P w K mg base CX0 1 (He.fAd K ("Links", some "_dump_parts")) (fdOf K ("Links", some "_dump_parts")) ["self"] (spParts K) := by
  refine fd_ok T.d_Links__dump_parts sc_Links__dump_parts (fun vs H Q E h => ?_) (fun cdv A outer s H vs Q E hr h => ?_)
  · obtain ⟨p, n, s, rfl, _⟩ := h
    rfl
  · obtain ⟨p, n, sg, rfl, hn, ⟨dx, aL, aR, aF, S⟩, W, M, k⟩ := h
    have nd := sc_Links__dump_parts.nd
    have lL := W.lL; have lR := W.lR; have lF := W.lF
    refine ⟨_, pss_cons (ps_setLc (i := 1) (own := [("link", 4)]) (g := gName 4) (tt := tYes) rfl nd rfl rfl (sw_true rfl rfl rfl (by decide +kernel)) (pi_list (pe_slice sl_list (pe_fld (pv 0) rfl) po_none (po_some (pe_un un_neg pe_int)))) (blkOk_by (own := [("link", 4)]) (N := ["self", "rights", "lefts", "outs", "link", "node"]) (sc := defScope s_Links__dump_parts) (by decide +kernel)) (fun _ _ _ _ _ => pg_name (i := 4) nd rfl (Or.inl rfl)) (fun _ _ _ _ _ => pts_nil) (fun _ _ _ _ _ => pe_callTy call_str_int (by rfl) T.n_str (by decide +kernel) (pa_cons (pv 4) pa_nil)))
      (pss_cons (ps_setLc (i := 2) (own := [("link", 4)]) (g := gName 4) (tt := tYes) rfl nd rfl rfl (sw_true rfl rfl rfl (by decide +kernel)) (pi_list (pe_slice sl_list (pe_fld (pv 0) rfl) (po_some pe_int) po_none)) (blkOk_by (own := [("link", 4)]) (N := ["self", "rights", "lefts", "outs", "link", "node"]) (sc := defScope s_Links__dump_parts) (by decide +kernel)) (fun _ _ _ _ _ => pg_name (i := 4) nd rfl (Or.inl rfl)) (fun _ _ _ _ _ => pts_nil) (fun _ _ _ _ _ => pe_callTy call_str_int (by rfl) T.n_str (by decide +kernel) (pa_cons (pv 4) pa_nil)))
      (pss_cons (ps_setLc (i := 3) (own := [("node", 5)]) (g := gName 5) (tt := tB (tOp (rIxL K) (tFld K (tVar 0) "_flags") (tVar 5))) rfl nd rfl rfl (sw_true rfl rfl rfl (by decide +kernel)) (pi_range2 rfl T.n_range (pa_cons pe_int (pa_cons (pe_op op_add (pe_fld (pv 0) rfl) pe_int) pa_nil))) (blkOk_by (own := [("node", 5)]) (N := ["self", "rights", "lefts", "outs", "link", "node"]) (sc := defScope s_Links__dump_parts) (by decide +kernel)) (fun _ _ _ _ _ => pg_name (i := 5) nd rfl (Or.inl rfl)) (fun _ _ _ _ _ => pts_one (pt_val (pe_ix ix_list (pe_fld (pv 0) rfl) (pv 5) (fun _ _ => rfl)))) (fun _ _ _ _ _ => pe_callTy call_str_int (by rfl) T.n_str (by decide +kernel) (pa_cons (pv 5) pa_nil)))
      (pss_one (ps_ret (pe_lst (pa_cons (pe_join pe_str (pv 1)) (pa_cons (pe_join pe_str (pv 2)) (pa_cons (pe_ifExp (pt_cmpR op_gt (pe_callB call_len_seq (by rfl) T.n_len (by decide +kernel) (pa_cons (pv 3) pa_nil)) pe_int (nomark _)) (pe_join pe_str (pv 3)) pe_str) pa_nil)))))))), ?_⟩
    refine ⟨_, rfl, p, _, dx, _, _, rfl, S.ob, T.c_Links, T.na__rights, lf_R, ?_⟩
    refine ⟨_, rfl, _, rfl, aR, _, rfl, SqL.of S.r, fun q hq => ?_⟩
    have s1 : ∀ o, Same H (upd H q o) := fun _ => Same.new hq
    refine ⟨q, rfl, ⟨_, SqL.of upd_same⟩, fun D hD => ?_⟩
    have hDH : H D = none := (s1 _).free hD
    refine lc_list (K := K) (a := q) (fun i H' => Same (upd H q _) H' ∧ TxL H' D i 3) ⟨Same.new hD, [], upd_same, Nat.le_refl _, by simp⟩ (fun i H' _ h => SqL.of (h.1 _ _ upd_same)) ?_ ?_
    · rintro i x H' hx ⟨e, tx⟩
      obtain ⟨v, hv, rfl⟩ := cut_mem (List.mem_of_getElem? hx)
      have hb := M.2 v hv
      have hi : i < sg.R.length := Nat.lt_of_lt_of_le (List.getElem?_eq_some_iff.mp hx).1 cut_len
      obtain ⟨acc, e1, e2, e3⟩ := tx.add (num_len hb)
      refine ⟨rfl, _, rfl, _, rfl, log_small hb, acc, e1, ?_, ?_, e3⟩
      · rw [sizeLine_eq]; omega
      · intro b o eb
        rw [upd_ne (ne_of_none eb hD)]; exact e b o eb
    intro H1 ⟨e1, t1⟩
    have f1 := (s1 _).trans e1
    have S1 := S.same f1
    have m1 := cut_len (l := sg.R) (lo := none) (hi := some (-1))
    refine ⟨_, rfl, p, _, dx, _, _, rfl, S1.ob, T.c_Links, T.na__lefts, lf_L, _, rfl, aL, _, rfl, SqL.of S1.l, fun q' hq' => ?_⟩
    have s1' : ∀ o, Same H1 (upd H1 q' o) := fun _ => Same.new hq'
    refine ⟨q', rfl, ⟨_, SqL.of upd_same⟩, fun D' hD' => ?_⟩
    refine lc_list (K := K) (a := q') (fun i H' => Same (upd H1 q' _) H' ∧ TxL H' D' i 3) ⟨Same.new hD', [], upd_same, Nat.le_refl _, by simp⟩ (fun i H' _ h => SqL.of (h.1 _ _ upd_same)) ?_ ?_
    · rintro i x H' hx ⟨e, tx⟩
      obtain ⟨v, hv, rfl⟩ := cut_mem (List.mem_of_getElem? hx)
      have hb := M.1 v hv
      have hi : i < sg.L.length := Nat.lt_of_lt_of_le (List.getElem?_eq_some_iff.mp hx).1 cut_len
      obtain ⟨acc, e1, e2, e3⟩ := tx.add (num_len hb)
      refine ⟨rfl, _, rfl, _, rfl, log_small hb, acc, e1, ?_, ?_, e3⟩
      · rw [sizeLine_eq]; omega
      · intro b o eb
        rw [upd_ne (ne_of_none eb hD')]; exact e b o eb
    intro H2 ⟨e2, t2⟩
    have f2 := (s1' _).trans e2
    have m2 := cut_len (l := sg.L) (lo := some 1) (hi := none)
    have S2 := S1.same f2
    refine ⟨_, rfl, p, _, dx, _, _, rfl, S2.ob, T.c_Links, T.na_size, lf_size, _, _, rfl, rfl, _, _, rfl, ⟨by omega, by omega, by omega, by omega⟩, fun D3 hD3 => ?_⟩
    refine lc_range (lo := 1) (n := ((n : Int) + 1 - 1).toNat) (fun i H' => Same H2 H' ∧ TxL H' D3 i 3) ⟨Same.new hD3, [], upd_same, Nat.le_refl _, by simp⟩ ?_ ?_
    · rintro i H' hi ⟨e, tx⟩
      have S3 := S2.same e
      refine ⟨rfl, _, rfl, p, _, dx, _, _, rfl, S3.ob, T.c_Links, T.na__flags, lf_F, _, rfl, aF, _, _, _, rfl, rfl, SqL.of S3.f, at_bl (by omega) (by omega), _, rfl, ?_⟩
      cases c : gb sg.F (1 + (i : Int)) with
      | false =>
        obtain ⟨ys, g1, g2, g3⟩ := tx
        exact iteF ⟨e, ys, g1, Nat.le_succ_of_le g2, g3⟩
      | true =>
        have hb : (1 + (i : Int)).natAbs ≤ 70 := by omega
        obtain ⟨acc, g1, g2, g3⟩ := tx.add (num_len hb)
        refine iteT ⟨_, rfl, _, rfl, log_small hb, acc, g1, ?_, ?_, g3⟩
        · rw [sizeLine_eq]; omega
        · intro b o eb
          rw [upd_ne (ne_of_none eb hD3)]; exact e b o eb
    intro H3 ⟨e3, ys3, j3, k3, l3⟩
    have f3 : Same H1 H3 := f2.trans e3
    obtain ⟨ys1, j1, k1, l1⟩ := t1
    obtain ⟨ys2, j2, k2, l2⟩ := t2
    have b1 : (Txt.join " " ys1).length ≤ 400 := by
      have := join_len (a := " ") l1
      rw [show Str.length " " = 1 by decide +kernel] at this
      omega
    have b2 : (Txt.join " " ys2).length ≤ 400 := by
      have := join_len (a := " ") l2
      rw [show Str.length " " = 1 by decide +kernel] at this
      omega
    have b3 : (Txt.join " " ys3).length ≤ 400 := by
      have := join_len (a := " ") l3
      rw [show Str.length " " = 1 by decide +kernel] at this
      omega
    have sz : ∀ {ys : List Str}, ys.length ≤ 62 → (∀ y ∈ ys, y.length ≤ 3) → (ys.map (·.length)).sum + ys.length * Str.length " " ≤ 16777216 := fun {ys} h1 h2 => by
      have := sum_le h2
      rw [show Str.length " " = 1 by decide +kernel]
      omega
    have S3 := S2.same e3
    have jj1 : H3 D = some _ := f3 _ _ j1
    have jj2 : H3 D' = some _ := e3 _ _ j2
    refine ⟨⟨_, rfl⟩, _, rfl, " ", D, ys1, rfl, rfl, .inl (SqL.of jj1), sz (by omega) l1, ?_⟩
    refine ⟨⟨_, rfl⟩, _, rfl, " ", D', ys2, rfl, rfl, .inl (SqL.of jj2), sz (by omega) l2, ?_⟩
    refine ⟨_, rfl, D3, _, rfl, .inl (SqL.of j3), _, _, rfl, rfl, _, rfl, ?_⟩
    have out : ∀ z3 : Str, z3.length ≤ 400 → ∀ l, H3 l = none → Q (.ref l) (upd H3 l (.lst [.str (Txt.join " " ys1), .str (Txt.join " " ys2), .str z3])) := fun z3 hz l hl => by
      refine k _ l ((f1.trans f3).trans (Same.new hl)) ((f1.trans f3).free hl) ⟨[Txt.join " " ys1, Txt.join " " ys2, z3], upd_same, by show 3 ≤ 3; decide, fun y hy => ?_⟩
      rcases List.mem_cons.mp hy with rfl | hy
      · exact b1
      rcases List.mem_cons.mp hy with rfl | hy
      · exact b2
      rw [List.mem_singleton.mp hy]
      exact hz
    rw [List.length_map]
    by_cases c : (0 : Int) < ys3.length
    · exact dT c ⟨⟨_, rfl⟩, _, rfl, " ", D3, ys3, rfl, rfl, .inl (SqL.of j3), sz (by omega) l3, by show 3 ≤ sizeLine; decide, out _ b3⟩
    · exact dF c ⟨by show 3 ≤ sizeLine; decide, out _ (by decide +kernel)⟩
theorem ok_dump (T : TopY P K mg) : FnOk P w K mg base CX0 2 (He.fAd K ("Links", some "dump")) (fdOf K ("Links", some "dump")) ["self"] (spDump K) := by
  refine fd_ok T.d_Links_dump sc_Links_dump (fun vs H Q E h => ?_) (fun cdv A outer s H vs Q E hr h => ?_)
  · obtain ⟨p, n, s, rfl, _⟩ := h
    rfl
  · obtain ⟨p, n, sg, rfl, hn, ⟨dx, aL, aR, aF, S⟩, W, M, k⟩ := h
    refine ⟨_, pss_one (ps_ret (pe_join pe_str (pe_meth0 (pv 0) T.c_Links T.m__dump_parts (ok_parts T) hr (b_Links__dump_parts T.toTop) .nil pass0))), ?_⟩
    refine ⟨⟨_, rfl⟩, _, rfl, p, dx, _, rfl, S.ob, lfno (by decide +kernel), p, n, sg, rfl, hn, ⟨dx, aL, aR, aF, S⟩, W, M, fun H' l e1 e2 ⟨ys, g1, g2, g3⟩ => ?_⟩
    refine ⟨" | ", l, ys, rfl, rfl, .inl (SqL.of g1), ?_, k _ _ e1⟩
    have := sum_le g3
    rw [show Str.length " | " = 3 by decide +kernel]
    omega
end
end Lk

set_option maxHeartbeats 4000000
/-! programs.py: first_wrong, check_programs, check_room. -/
namespace Lk
open PySem PySem.Spec PyProof.Rows L2
theorem for_enum {K : PySem.W.Frag} {a : Addr} {xs : List V} {g : TG} {tb : TS} {D : Ends} {σ : L2.St} {H : Hp} (Pv : Nat → L2.St → Hp → Prop) (h0 : Pv 0 σ H) (hl : ∀ i σ H, i ≤ xs.length → Pv i σ H → SqL K H a xs)
    (hs : ∀ i x T σ H, xs[i]? = some x → H T = none → Pv i σ H → g (.ref T) σ (upd H T (.tup [.int (i : Nat), x])) fun σ2 H2 => tb { D with nx := Pv (i + 1), ct := Pv (i + 1), bk := D.nx } σ2 H2) (hd : ∀ σ H, Pv xs.length σ H → D.nx σ H) :
    ∃ W : Nat → Nat → L2.St → Hp → Prop, (∃ m, W 0 m σ H) ∧ ∀ i m σ H, W i m σ H →
      ((Ite K a).stop i H ∧ D.nx σ H) ∨ ((Ite K a).go i H ∧ ∃ N : L2.St → Hp → Prop, (∀ σ' H', N σ' H' → ∃ m', m' < m ∧ W (i + 1) m' σ' H') ∧ ∀ x H', (Ite K a).yld i H x H' → g x σ H' fun σ2 H2 => tb { D with nx := N, ct := N, bk := D.nx } σ2 H2) := by
  refine ⟨fun i m σ H => m = xs.length - i ∧ i ≤ xs.length ∧ Pv i σ H, ⟨xs.length, by simp, Nat.zero_le _, h0⟩, ?_⟩
  rintro i m σ H ⟨rfl, hi, p⟩
  have q := hl i σ H hi p
  by_cases hlt : i < xs.length
  · refine .inr ⟨⟨xs, xs[i], q, by simp [hlt]⟩, Pv (i + 1), fun σ' H' p' => ⟨xs.length - (i + 1), by omega, rfl, hlt, p'⟩, fun x H' y => ?_⟩
    obtain ⟨T, x', e, hT, eH, hx⟩ := y
    subst e eH
    exact hs i x' T σ _ (hx xs q) hT p
  · have e : i = xs.length := by omega
    subst e
    exact .inl ⟨⟨xs, q, Nat.le_refl _⟩, hd σ H p⟩
theorem valV_drop {κ : Type} [DecidableEq κ] (k j : κ) : ∀ kvs : List (κ × V), valV (dropK kvs k) j = if j = k then none else valV kvs j
  | [] => by show valV ([] : List (κ × V)) j = _; rw [valV_nil]; split <;> rfl
  | p :: r => by
    have ih := valV_drop k j r
    by_cases h : p.1 = k
    · rw [dropK_pos h, ih]
      split
      · rfl
      · rename_i n
        rw [valV_neg (fun z => n (z.symm.trans h))]
    · rw [dropK_neg h]
      by_cases e : p.1 = j
      · rw [valV_pos e, if_neg (fun z => h (e.trans z)), valV_pos e]
      · rw [valV_neg e, valV_neg e, ih]
/-- the ints o are the keys of kvs -/
structure KeyI (kvs : List (Key × V)) (o : List Int) : Prop where
  ty : ∀ p ∈ kvs, ∃ x : Int, p.1 = Sum.inl x
  at_ : ∀ x : Int, (valV kvs (Sum.inl x)).isSome = true ↔ x ∈ o
theorem KeyI.nil : KeyI [] [] := ⟨fun _ h => (nomatch h), fun x => by rw [valV_nil]; simp⟩
theorem KeyI.put {kvs : List (Key × V)} {o : List Int} (h : KeyI kvs o) (x : Int) (v : V) : KeyI (putK kvs (Sum.inl x) v) (o ++ [x]) := by
  refine ⟨fun p hp => ?_, fun y => ?_⟩
  · unfold putK at hp
    split at hp
    · obtain ⟨q, hq, e⟩ := List.mem_map.mp hp
      obtain ⟨z, hz⟩ := h.ty q hq
      refine ⟨z, ?_⟩
      rw [← e]
      split <;> exact hz
    · rcases List.mem_append.mp hp with hp | hp
      · exact h.ty p hp
      · exact ⟨x, by rw [List.mem_singleton.mp hp]⟩
  · rw [valV_put]
    split
    · rename_i e
      have e : y = x := Sum.inl.inj e
      simp [e]
    · rename_i e
      rw [h.at_]
      have : y ≠ x := fun z => e (by rw [z])
      simp [this]
theorem KeyI.drop {kvs : List (Key × V)} {o : List Int} (h : KeyI kvs o) (nd : o.Nodup) (x : Int) : KeyI (dropK kvs (Sum.inl x)) (o.erase x) := by
  refine ⟨fun p hp => h.ty p (List.mem_filter.mp hp).1, fun y => ?_⟩
  rw [valV_drop, nd.mem_erase_iff]
  split
  · rename_i e
    have e : y = x := Sum.inl.inj e
    simp [e]
  · rename_i e
    have : y ≠ x := fun z => e (by rw [z])
    rw [h.at_]
    simp [this]
theorem KeyI.emp {kvs : List (Key × V)} {o : List Int} (h : KeyI kvs o) : o = [] ↔ kvs.length = 0 := by
  constructor
  · intro e
    subst e
    cases kvs with
    | nil => rfl
    | cons p r =>
      obtain ⟨x, hx⟩ := h.ty p List.mem_cons_self
      have := (h.at_ x).mp (by rw [valV_pos hx]; rfl)
      simp at this
  · intro e
    have : kvs = [] := List.length_eq_zero_iff.mp e
    subst this
    cases o with
    | nil => rfl
    | cons x r =>
      have := (h.at_ x).mpr List.mem_cons_self
      rw [valV_nil] at this
      cases this
theorem KeyI.some_ {kvs : List (Key × V)} {o : List Int} (h : KeyI kvs o) (x : Int) : (valV kvs (Sum.inl x)).isSome = decide (x ∈ o) := by
  by_cases e : x ∈ o
  · rw [decide_eq_true e, (h.at_ x).mpr e]
  · rw [decide_eq_false e]
    cases q : (valV kvs (Sum.inl x)).isSome with
    | false => rfl
    | true => exact absurd ((h.at_ x).mp q) e
theorem fw_cons {n : Int} {tk : List Int} {op : Int} {r : List Int} {i : Nat} {o : List Int} : fw n tk (op :: r) i o = if ab op < 1 ∨ n < ab op ∨ ab op ∈ tk then some i else
      if decide (0 < op) = decide (ab op ∈ o) then fw n tk r (i + 1) (stepO o op) else some i := rfl
def optV : Option Nat → V
  | none => .non
  | some j => .int j
def spFirst (K : PySem.W.Frag) : Sp := fun vs H Q _ => ∃ (n : Int) (a tk : Addr) (p t : List Int) (kvs : List (Key × V)), vs = [.int n, .ref a, .ref tk] ∧ H a = some (.lst (p.map V.int)) ∧ H tk = some (.dK kvs) ∧ KeyI kvs t ∧ p.length ≤ 1000 ∧
  ∀ H', Same H H' → Q (optV (fw n t p 0 [])) H'
section
variable {P : Program} {w : World} {K : PySem.W.Frag} {mg : Str → Option Value} {base : Heap}
theorem ok_first_wrong (T : Top K mg) : FnOk P w K mg base CX0 1 (He.fAd K ("first_wrong", none)) (fdOf K ("first_wrong", none)) ["size", "program", "taken"] (spFirst K) := by
  refine fd_ok T.d_first_wrong sc_first_wrong (fun vs H Q E h => ?_) (fun cdv A outer s H vs Q E hr h => ?_)
  · obtain ⟨n, a, tk, p, t, kvs, rfl, _⟩ := h
    rfl
  · obtain ⟨n, a, tk, p, t, kvs, rfl, ha, htk, KT, hl, k⟩ := h
    have nd := sc_first_wrong.nd
    have hu := hu_of hr
    refine ⟨_, pss_cons (ps_set (i := 3) nd rfl (Or.inl rfl) pe_dnewK)
      (pss_cons (ps_for PassesOwn.never rfl (pi_enum (by rfl) T.n_enumerate (pa_cons (pv 1) pa_nil)) (pg_tup rfl (pgs_cons (pg_name (i := 4) nd rfl (Or.inl rfl)) (pgs_cons (pg_name (i := 5) nd rfl (Or.inl rfl)) pgs_nil)))
        (pss_cons (ps_set (i := 6) nd rfl (Or.inl rfl) (pe_callB call_abs (by rfl) T.n_abs (by decide +kernel) (pa_cons (pv 5) pa_nil)))
        (pss_cons (ps_if (PW.pt (pw_or (pt_cmpR op_lt (pv 6) pe_int (nomark _)) (pw_or (pt_cmpR op_gt (pv 6) (pv 0) (nomark _)) (pw_or1 (pt_cmp (pc_din hu (pv 6) (pv 2))))))) (pss_one (ps_ret (pv 4))) pss_nil)
        (pss_cons (ps_if (pt_cmpR op_ne (pe_cmpR op_gt (pv 5) pe_int (nomark _)) (pe_cmp (pc_din hu (pv 6) (pv 3)) rfl) (nomark _)) (pss_one (ps_ret (pv 4))) pss_nil)
        (pss_one (ps_if (pt_cmpR op_lt (pv 5) pe_int (nomark _)) (pss_one (ps_dput hu (pv 3) (pv 6) pe_bl rfl)) (pss_one (ps_ddel (pv 3) (pv 6)))))))))
      (pss_cons (ps_if (pt_cmpR op_gt (pe_callB call_lenD (by rfl) T.n_len (by decide +kernel) (pa_cons (pv 3) pa_nil)) pe_int (nomark _)) (pss_one (ps_ret (pe_callB call_len_seq (by rfl) T.n_len (by decide +kernel) (pa_cons (pv 1) pa_nil)))) pss_nil)
      (pss_one (ps_ret pe_non)))), ?_⟩
    intro od hod
    have s0 : ∀ o, Same H (upd H od o) := fun _ => Same.new hod
    have nad : a ≠ od := ne_of_none ha hod
    have ntd : tk ≠ od := ne_of_none htk hod
    refine ⟨_, rfl, a, _, rfl, SqL.of ((s0 _) _ _ ha), ?_⟩
    refine for_enum (K := K) (a := a) (xs := p.map V.int) (fun i σ' H' => ∃ (v1 v2 v3 : Option V) (kv : List (Key × V)) (o : List Int), σ' = [some (.int n), some (.ref a), some (.ref tk), some (.ref od), v1, v2, v3] ∧ But od (upd H od (.dK [])) H' ∧ H' od = some (.dK kv) ∧ KeyI kv o ∧ o.Nodup ∧ kv.length ≤ i ∧
        fw n t p 0 [] = fw n t (p.drop i) i o)
      ⟨none, none, none, [], [], rfl, But.refl, upd_same, KeyI.nil, List.nodup_nil, Nat.le_refl _, rfl⟩ (fun i σ' H' _ ⟨_, _, _, _, _, _, b, _⟩ => SqL.of (b a _ ((s0 _) _ _ ha) nad)) ?_ ?_
    · rintro i y TT σ' H' hix hTT ⟨v1, v2, v3, kv, o, rfl, b, eod, KO, ndo, hkl, efw⟩
      obtain ⟨op, hop, rfl⟩ := map_at hix
      have hi : i < p.length := (List.getElem?_eq_some_iff.mp hop).1
      have edr : p.drop i = op :: p.drop (i + 1) := by
        rw [List.drop_eq_getElem_cons hi]
        congr 1
        rw [List.getElem?_eq_getElem hi] at hop
        exact Option.some.inj hop
      have b' : But od (upd H od (.dK [])) (upd H' TT (.tup [.int (i : Nat), .int op])) := b.same (Same.new hTT)
      have eod' : (upd H' TT (.tup [.int (i : Nat), .int op])) od = some (.dK kv) := by rw [upd_ne (ne_of_none eod hTT)]; exact eod
      have fin : ∀ H'', But od (upd H od (.dK [])) H'' → Same H H'' := fun H'' z c u e => z c u ((s0 _) c u e) (ne_of_none e hod)
      refine ⟨TT, _, rfl, SqT.of upd_same, rfl, ?_⟩
      refine ⟨_, _, rfl, _, _, rfl, rfl, ?_⟩
      refine ⟨_, rfl, op, rfl, ?_⟩
      have eab : (if op < 0 then -op else op) = ab op := rfl
      rw [eab]
      refine ⟨_, rfl, _, _, rfl, rfl, _, rfl, ?_⟩
      rw [edr] at efw
      have out : (ab op < 1 ∨ n < ab op ∨ ab op ∈ t) → Q (.int (i : Nat)) (upd H' TT (.tup [.int (i : Nat), .int op])) := fun c => by
        have q := k _ (fin _ b')
        rw [efw] at q
        rw [fw_cons, if_pos c] at q
        exact q
      by_cases c1 : ab op < 1
      · exact dT c1 ⟨_, rfl, out (.inl c1)⟩
      refine dF c1 ⟨_, rfl, _, rfl, _, _, rfl, rfl, _, rfl, ?_⟩
      by_cases c2 : n < ab op
      · exact dT c2 ⟨_, rfl, out (.inr (.inl c2))⟩
      refine dF c2 ⟨_, rfl, _, rfl, tk, _, rfl, DGet.k (k := Sum.inl (ab op)) (b' tk _ ((s0 _) _ _ htk) ntd), _, rfl, ?_⟩
      rw [KT.some_]
      by_cases c3 : ab op ∈ t
      · exact dT c3 ⟨_, rfl, out (.inr (.inr c3))⟩
      refine dF c3 ?_
      have cn : ¬ (ab op < 1 ∨ n < ab op ∨ ab op ∈ t) := fun z => by rcases z with z | z | z <;> contradiction
      refine ⟨_, rfl, _, _, rfl, rfl, _, rfl, _, rfl, od, _, rfl, DGet.k (k := Sum.inl (ab op)) eod', rfl, _, rfl, ?_⟩
      rw [KO.some_]
      rw [fw_cons, if_neg cn] at efw
      by_cases c4 : decide (0 < op) = decide (ab op ∈ o)
      · rw [if_pos c4] at efw
        refine nF (congrArg V.bl c4) ?_
        refine ⟨_, rfl, _, _, rfl, rfl, _, rfl, ?_⟩
        by_cases c5 : op < 0
        · refine dT c5 ⟨_, rfl, _, rfl, od, _, rfl, DPut.k (k := Sum.inl (ab op)) eod' (by rw [sizeLine_eq]; omega), ?_⟩
          have no : ab op ∉ o := fun z => by
            rw [decide_eq_true z, decide_eq_false (by omega)] at c4
            cases c4
          have st : stepO o op = o ++ [ab op] := if_pos c5
          rw [st] at efw
          refine ⟨_, _, _, _, _, rfl, b'.upd, upd_same, KO.put _ _, ?_, ?_, efw⟩
          · rw [List.nodup_append]
            exact ⟨ndo, by simp, fun x hx y hy => by rw [List.mem_singleton.mp hy]; exact fun z => no (z ▸ hx)⟩
          · have := length_putK kv (Sum.inl (ab op) : Key) (.bl true)
            omega
        · have io : ab op ∈ o := by
            have : 0 < op := by
              have : op ≠ 0 := fun z => by rw [z] at c1; exact c1 (by decide)
              omega
            rw [decide_eq_true this] at c4
            exact of_decide_eq_true c4.symm
          refine dF c5 ⟨_, rfl, _, rfl, od, _, Sum.inl (ab op), rfl, eod', rfl, (KO.at_ _).mpr io, ?_⟩
          have st : stepO o op = o.erase (ab op) := if_neg c5
          rw [st] at efw
          refine ⟨_, _, _, _, _, rfl, b'.upd, upd_same, KO.drop ndo _, ndo.erase _, ?_, efw⟩
          have := dropK_le kv (Sum.inl (ab op) : Key)
          omega
      · rw [if_neg c4] at efw
        refine nT (fun z => c4 (V.bl.inj z)) ⟨_, rfl, ?_⟩
        have q := k _ (fin _ b')
        rw [efw] at q
        exact q
    · rintro σ' H' ⟨v1, v2, v3, kv, o, rfl, b, eod, KO, ndo, hkl, efw⟩
      have fin : Same H H' := fun c u e => b c u ((s0 _) c u e) (ne_of_none e hod)
      refine ⟨_, rfl, od, _, rfl, eod, _, _, rfl, rfl, _, rfl, ?_⟩
      have k := k _ fin
      rw [efw, List.length_map, List.drop_length] at k
      unfold fw at k
      by_cases c : (0 : Int) < kv.length
      · rw [if_neg (fun z => by have := KO.emp.mp z; omega)] at k
        refine dT c ⟨_, rfl, a, _, rfl, .inl (SqL.of (fin _ _ ha)), ?_⟩
        rw [List.length_map]
        exact k
      · rw [if_pos (KO.emp.mpr (by omega))] at k
        exact dF c k
end
end Lk

set_option maxHeartbeats 4000000
/-! check_programs, check_room. -/
namespace Lk
open PySem PySem.Spec PyProof.Rows L2
/-- programs stand at pl, their lists at as -/
structure PgAt (H : Hp) (pl : Addr) (as : List Addr) (ps : List (List Int)) : Prop where
  ob : H pl = some (.lst (as.map V.ref))
  len : as.length = ps.length
  at_ : ∀ (i : Nat) (a : Addr), as[i]? = some a → ∃ p : List Int, ps[i]? = some p ∧ H a = some (.lst (p.map V.int))
theorem PgAt.same {H H' : Hp} {pl : Addr} {as : List Addr} {ps : List (List Int)} (h : PgAt H pl as ps) (e : Same H H') : PgAt H' pl as ps :=
  ⟨e _ _ h.ob, h.len, fun i a q => let ⟨p, x, y⟩ := h.at_ i a q; ⟨p, x, e _ _ y⟩⟩
theorem PgAt.get {H : Hp} {pl : Addr} {as : List Addr} {ps : List (List Int)} (h : PgAt H pl as ps) {i : Nat} {p : List Int} (e : ps[i]? = some p) : ∃ a, as[i]? = some a ∧ H a = some (.lst (p.map V.int)) := by
  have hi : i < as.length := by rw [h.len]; exact (List.getElem?_eq_some_iff.mp e).1
  obtain ⟨p', e1, e2⟩ := h.at_ i as[i] (List.getElem?_eq_getElem hi)
  rw [e] at e1
  cases e1
  exact ⟨_, List.getElem?_eq_getElem hi, e2⟩
/-- few, short programs -/
def Few (ps : List (List Int)) : Prop := ps.length ≤ 1000 ∧ ∀ p ∈ ps, p.length ≤ 1000
theorem drop_of {α : Type} {l : List α} {i : Nat} {x : α} (h : l[i]? = some x) : l.drop i = x :: l.drop (i + 1) := by
  have hi := (List.getElem?_eq_some_iff.mp h).1
  rw [List.drop_eq_getElem_cons hi]
  congr 1
  rw [List.getElem?_eq_getElem hi] at h
  exact Option.some.inj h
theorem flt_cons {n : Int} {tk p : List Int} {r : List (List Int)} {i : Nat} : flt n tk (p :: r) i = match fw n tk p 0 [] with
    | some j => some (i, j)
    | none => flt n (tk ++ p.map ab) r (i + 1) := rfl
abbrev err2 (K : PySem.W.Frag) (y z : V) (H : Hp) (E : XK) : Prop := ∀ d, H d = none → E (.ref (He.ga K "BadProgram")) (some d) (upd H d (.xd [("index", z), ("session", y)]))
def spCheckP (K : PySem.W.Frag) : Sp := fun vs H Q E => ∃ (n : Int) (pl : Addr) (as : List Addr) (ps : List (List Int)), vs = [.int n, .ref pl] ∧ 0 ≤ n ∧ n ≤ 60 ∧ PgAt H pl as ps ∧ Few ps ∧
  (flt n [] ps 0 = none → ∀ H', Same H H' → Q .non H') ∧ ∀ i j, flt n [] ps 0 = some (i, j) → ∀ H', Same H H' → err2 K (.int (i : Nat)) (.int (j : Nat)) H' E
section
variable {P : Program} {w : World} {K : PySem.W.Frag} {mg : Str → Option Value} {base : Heap}
theorem ok_check_programs (T : TopX P K mg) : FnOk P w K mg base (L2.CX P w) 4 (He.fAd K ("check_programs", none)) (fdOf K ("check_programs", none)) ["size", "programs"] (spCheckP K) := by
  refine T.d_check_programs.ok sc_check_programs (fun vs H Q E h => ?_) (fun cdv A outer s H vs Q E hr h => ?_)
  · obtain ⟨n, pl, as, ps, rfl, _⟩ := h
    rfl
  · obtain ⟨n, pl, as, ps, rfl, n0, n1, PG, ⟨fl, fe⟩, k1, k2⟩ := h
    have nd := sc_check_programs.nd
    have hu := hu_of hr
    have bI : Binds K (fdOf K ("BadProgram", some "__init__")) ["self", "session", "index"] [] := T.i_BadProgram.binds fun _ _ _ _ _ us hl => match us, hl with | [_, _, _], _ => rfl
    have hr1 : Room 1 _ := hr.mono (by decide)
    have hr2 : Room 2 _ := hr.mono (by decide)
    refine ⟨_, pss_cons (ps_expr (pe_call (ok_check_size T) hr rfl T.g_check_size T.d_check_size.kp (b_check_size T.toTop) .nil passF (pa_cons (pv 0) pa_nil)))
      (pss_cons (ps_set (i := 2) nd rfl (Or.inl rfl) pe_dnewK)
      (pss_one (ps_for (passes_of rfl) rfl (pi_enum (by rfl) T.n_enumerate (pa_cons (pv 1) pa_nil)) (pg_tup rfl (pgs_cons (pg_name (i := 3) nd rfl (Or.inl rfl)) (pgs_cons (pg_name (i := 4) nd rfl (Or.inl rfl)) pgs_nil)))
        (pss_cons (ps_set (i := 5) nd rfl (Or.inl rfl) (pe_call (ok_first_wrong T.toTop) hr1 rfl T.g_first_wrong T.d_first_wrong.kp (b_first_wrong T.toTop) .nil pass0 (pa_cons (pv 0) (pa_cons (pv 4) (pa_cons (pv 2) pa_nil)))))
        (pss_cons (ps_if (pt_cmpR op_notN (pv 5) pe_non (nomark _)) (pss_one (ps_raise rfl (takes_of rfl rfl rfl rfl) (pmk_oex T.e_BadProgram.T T.e_BadProgram.iC T.e_BadProgram.tI (ok_init_BadProgram T.e_BadProgram T.i_BadProgram T.n_super T.nf_session T.nf_index) hr2 bI .nil pass0 rfl T.g_BadProgram (pa_cons (pv 3) (pa_cons (pv 5) pa_nil))))) pss_nil)
        (pss_one (ps_for (passes_of rfl) rfl (pi_list (pv 4)) (pg_name (i := 6) nd rfl (Or.inl rfl)) (pss_one (ps_dput hu (pv 2) (pe_callB call_abs (by rfl) T.n_abs (by decide +kernel) (pa_cons (pv 6) pa_nil)) pe_bl rfl))))))))), ?_⟩
    refine ⟨_, rfl, n, rfl, fun _ => ?_, fun c => absurd ⟨n0, n1⟩ c⟩
    intro td htd
    have s0 : ∀ o, Same H (upd H td o) := fun _ => Same.new htd
    have npd : pl ≠ td := ne_of_none PG.ob htd
    refine ⟨_, rfl, pl, _, rfl, SqL.of ((s0 _) _ _ PG.ob), ?_⟩
    refine for_enum (K := K) (a := pl) (xs := as.map V.ref) (fun i σ' H' => ∃ (v1 v2 v3 v4 : Option V) (kv : List (Key × V)) (t : List Int), σ' = [some (.int n), some (.ref pl), some (.ref td), v1, v2, v3, v4] ∧ But td (upd H td (.dK [])) H' ∧ H' td = some (.dK kv) ∧ KeyI kv t ∧ kv.length ≤ 1000 * i ∧
        flt n [] ps 0 = flt n t (ps.drop i) i)
      ⟨none, none, none, none, [], [], rfl, But.refl, upd_same, KeyI.nil, Nat.le_refl _, rfl⟩ (fun i σ' H' _ ⟨_, _, _, _, _, _, _, b, _⟩ => SqL.of (b pl _ ((s0 _) _ _ PG.ob) npd)) ?_ ?_
    · rintro i y TT σ' H' hix hTT ⟨v1, v2, v3, v4, kv, t, rfl, b, etd, KT, hkl, efl⟩
      obtain ⟨a, ha, rfl⟩ := map_at hix
      obtain ⟨p, hp, hap⟩ := PG.at_ i a ha
      have hi : i < ps.length := (List.getElem?_eq_some_iff.mp hp).1
      have hpl : p.length ≤ 1000 := fe p (List.mem_of_getElem? hp)
      have b' : But td (upd H td (.dK [])) (upd H' TT (.tup [.int (i : Nat), .ref a])) := b.same (Same.new hTT)
      have etd' : (upd H' TT (.tup [.int (i : Nat), .ref a])) td = some (.dK kv) := by rw [upd_ne (ne_of_none etd hTT)]; exact etd
      have fin : ∀ H'', But td (upd H td (.dK [])) H'' → Same H H'' := fun H'' z c u e => z c u ((s0 _) c u e) (ne_of_none e htd)
      refine ⟨TT, _, rfl, SqT.of upd_same, rfl, ?_⟩
      refine ⟨_, _, rfl, _, _, rfl, rfl, ?_⟩
      refine ⟨_, rfl, _, rfl, _, rfl, n, a, td, p, t, kv, rfl, fin _ b' _ _ hap, etd', KT, hpl, fun H2 s2 => ?_⟩
      have b2 := b'.same s2
      rw [drop_of hp, flt_cons] at efl
      refine ⟨_, rfl, rfl, _, rfl, ?_⟩
      cases c : fw n t p 0 [] with
      | some j =>
        rw [c] at efl
        refine nT (fun z => by cases z) ⟨_, rfl, _, rfl, (by show 2 ≤ 1000; decide), mk2 ?_⟩
        exact k2 i j efl H2 (fin _ b2)
      | none =>
        rw [c] at efl
        refine nF rfl ?_
        have etd2 := s2 _ _ etd'
        have nad : a ≠ td := ne_of_none hap htd
        refine ⟨_, rfl, a, rfl, ⟨_, SqL.of (fin _ b2 _ _ hap)⟩, ?_⟩
        refine for_list (K := K) (a := a) (xs := p.map V.int) (fun l σ' H' => ∃ (v4 : Option V) (kv' : List (Key × V)), σ' = [some (.int n), some (.ref pl), some (.ref td), some (.int (i : Nat)), some (.ref a), some .non, v4] ∧ But td (upd H td (.dK [])) H' ∧ H' td = some (.dK kv') ∧ KeyI kv' (t ++ (p.take l).map ab) ∧ kv'.length ≤ 1000 * i + l)
          ⟨v4, kv, rfl, b2, etd2, by simpa using KT, hkl⟩ (fun l σ' H' _ ⟨_, _, _, b3, _⟩ => SqL.of (fin _ b3 _ _ hap)) ?_ ?_
        · rintro l y σ' H3 hlx ⟨v4', kv', rfl, b3, etd3, KT3, hl3⟩
          obtain ⟨op, hop, rfl⟩ := map_at hlx
          have hl : l < p.length := (List.getElem?_eq_some_iff.mp hop).1
          refine ⟨_, rfl, _, rfl, op, rfl, td, _, rfl, DPut.k (k := Sum.inl (ab op)) etd3 (by rw [sizeLine_eq]; omega), ?_⟩
          refine ⟨_, _, rfl, b3.upd, upd_same, ?_, ?_⟩
          · rw [take_snoc hop, List.map_append, ← List.append_assoc]
            exact KT3.put _ _
          · have := length_putK kv' (Sum.inl (ab op) : Key) (.bl true)
            omega
        · rintro σ' H3 ⟨v4', kv', rfl, b3, etd3, KT3, hl3⟩
          rw [List.length_map] at hl3 KT3
          rw [List.take_length] at KT3
          exact ⟨_, _, _, _, kv', _, rfl, b3, etd3, KT3, by omega, efl⟩
    · rintro σ' H' ⟨v1, v2, v3, v4, kv, t, rfl, b, etd, KT, hkl, efl⟩
      rw [List.length_map, PG.len, List.drop_length] at efl
      exact k1 efl H' fun c u e => b c u ((s0 _) c u e) (ne_of_none e htd)
end
end Lk

set_option maxHeartbeats 4000000
/-! who is ready, who is chosen. -/
namespace Lk
open PySem PySem.Spec PyProof.Rows L2
def dV (dn : List Nat) : List V := dn.map fun d => V.int (d : Nat)
/-- positions: a list or a tuple -/
def PsAt (K : PySem.W.Frag) (H : Hp) (q : Addr) (dn : List Nat) : Prop := SqL K H q (dV dn) ∨ SqT K H q (dV dn)
theorem sqt_same {K : PySem.W.Frag} {H H' : Hp} {a : Addr} {xs : List V} (e : Same H H') (h : SqT K H a xs) : SqT K H' a xs := by
  rcases h with h | h
  · rcases h with h | ⟨o, h⟩
    · exact .inl (.inl (e _ _ h))
    · exact .inl (.inr ⟨o, e _ _ h⟩)
  · exact .inr h
theorem PsAt.same {K : PySem.W.Frag} {H H' : Hp} {q : Addr} {dn : List Nat} (h : PsAt K H q dn) (e : Same H H') : PsAt K H' q dn := by
  rcases h with h | h
  · exact .inl (Same.seq e h)
  · exact .inr (sqt_same e h)
theorem dV_at {dn : List Nat} {i d : Nat} (h : dn[i]? = some d) : atI (dV dn) (i : Nat) = some (.int (d : Nat)) := atI_nat (by unfold dV; rw [List.getElem?_map, h]; rfl)
theorem at_ref {as : List Addr} {i : Nat} {a : Addr} (h : as[i]? = some a) : atI (as.map V.ref) (i : Nat) = some (.ref a) := atI_nat (by rw [List.getElem?_map, h]; rfl)
theorem at_op {p : List Int} {d : Nat} {op : Int} (h : p[d]? = some op) : atI (p.map V.int) (d : Nat) = some (.int op) := atI_nat (by rw [List.getElem?_map, h]; rfl)
theorem rix {K : PySem.W.Frag} {H : Hp} {q : Addr} {dn : List Nat} {i d : Nat} {Q : VK} (h : PsAt K H q dn) (e : dn[i]? = some d) (k : Q (.int (d : Nat)) H) : rIx K (.ref q) (.int (i : Nat)) H Q := by
  rcases h with h | h
  · exact .inl ⟨q, _, _, _, rfl, rfl, h, dV_at e, k⟩
  · exact .inr (.inl ⟨q, _, _, _, rfl, rfl, h, dV_at e, k⟩)
def spEnded (K : PySem.W.Frag) : Sp := fun vs H Q _ => ∃ (pl q : Addr) (i : Nat) (as : List Addr) (ps : List (List Int)) (dn : List Nat) (p : List Int) (d : Nat), vs = [.ref pl, .ref q, .int (i : Nat)] ∧ PgAt H pl as ps ∧ PsAt K H q dn ∧ ps[i]? = some p ∧ dn[i]? = some d ∧ Q (.bl (decide (d = p.length))) H
def spNext (K : PySem.W.Frag) : Sp := fun vs H Q _ => ∃ (pl q : Addr) (i : Nat) (as : List Addr) (ps : List (List Int)) (dn : List Nat) (op : Int), vs = [.ref pl, .ref q, .int (i : Nat)] ∧ PgAt H pl as ps ∧ PsAt K H q dn ∧ opAt ps dn i = some op ∧ Q (.int op) H
/-- no session stands behind its program's end -/
structure Std (ps : List (List Int)) (dn : List Nat) : Prop where
  len : dn.length = ps.length
  le : ∀ (i : Nat) (p : List Int) (d : Nat), ps[i]? = some p → dn[i]? = some d → d ≤ p.length
theorem Ln.std {n : Nat} {P : List (List Int)} {s : Sg} {dn : List Nat} (L : Ln n P s dn) : Std P dn := ⟨L.len, L.le⟩
def spUnf (K : PySem.W.Frag) : Sp := fun vs H Q _ => ∃ (pl q : Addr) (as : List Addr) (ps : List (List Int)) (dn : List Nat), vs = [.ref pl, .ref q] ∧ PgAt H pl as ps ∧ PsAt K H q dn ∧ Std ps dn ∧ ps.length ≤ 1000 ∧
  ∀ H' l, Same H H' → H l = none → H' l = some (.lst (dV (unf ps dn))) → Q (.ref l) H'
def spReady (K : PySem.W.Frag) : Sp := fun vs H Q _ => ∃ (pl q p : Addr) (m : Md) (as : List Addr) (ps : List (List Int)) (dn : List Nat) (n : Nat) (s : Sg), vs = [.ref pl, .ref q, .ref p, .str (mdS m)] ∧ PgAt H pl as ps ∧ PsAt K H q dn ∧ ps.length ≤ 1000 ∧
  LkS (CL K) H p n s ∧ Wf n s ∧ Ln n ps s dn ∧ Lg n ps ∧ ∀ H' l, Same H H' → H l = none → H' l = some (.lst (dV (rdy ps s dn m))) → Q (.ref l) H'
def spChosen (K : PySem.W.Frag) : Sp := fun vs H Q _ => ∃ (r sc : Addr) (z : Str) (rd o : List Nat) (i : Nat), vs = [.ref r, .ref sc, .str z] ∧ H r = some (.lst (dV rd)) ∧ H sc = some (.lst (dV o)) ∧ pick rd o (decide (z = "round")) = some i ∧ Q (.int (i : Nat)) H
theorem rdy_unf {ps : List (List Int)} {s : Sg} {dn : List Nat} {m : Md} : rdy ps s dn m = (unf ps dn).filter (okAt ps s dn m) := by
  rw [rdy_eq]
  unfold unf
  rw [List.filter_filter]
  refine List.filter_congr fun i _ => ?_
  unfold okAt
  cases opAt ps dn i <;> simp
section
variable {P : Program} {w : World} {K : PySem.W.Frag} {mg : Str → Option Value} {base : Heap}
theorem ok_has_ended (T : Top K mg) : FnOk P w K mg base CX0 1 (He.fAd K ("has_ended", none)) (fdOf K ("has_ended", none)) ["programs", "positions", "session"] (spEnded K) := by
  refine fd_ok T.d_has_ended sc_has_ended (fun vs H Q E h => ?_) (fun cdv A outer s H vs Q E hr h => ?_)
  · obtain ⟨pl, q, i, as, ps, dn, p, d, rfl, _⟩ := h
    rfl
  · obtain ⟨pl, q, i, as, ps, dn, p, d, rfl, PG, PS, e1, e2, k⟩ := h
    obtain ⟨a, ha, hp⟩ := PG.get e1
    refine ⟨_, pss_one (ps_ret (pe_cmpR op_eq (pe_ix ix_seq (pv 1) (pv 2) (fun _ _ => rfl)) (pe_callB call_len_seq (by rfl) T.n_len (by decide +kernel) (pa_cons (pe_ix ix_list (pv 0) (pv 2) (fun _ _ => rfl)) pa_nil)) (nomark _))), ?_⟩
    refine ⟨_, rfl, _, rfl, rix PS e2 ?_⟩
    refine ⟨_, rfl, _, rfl, pl, _, _, _, rfl, rfl, SqL.of PG.ob, at_ref ha, a, _, rfl, .inl (SqL.of hp), rfl, ?_⟩
    rw [List.length_map]
    show Q (.bl (decide (V.int (d : Nat) = V.int (p.length : Nat)))) H
    rw [dec_int, show (((d : Nat) : Int) == (p.length : Int)) = decide (d = p.length) by rw [Bool.beq_eq_decide_eq]; exact decide_eq_decide.mpr (by omega)]
    exact k
theorem ok_next_operation (T : Top K mg) : FnOk P w K mg base CX0 1 (He.fAd K ("next_operation", none)) (fdOf K ("next_operation", none)) ["programs", "positions", "session"] (spNext K) := by
  refine fd_ok T.d_next_operation sc_next_operation (fun vs H Q E h => ?_) (fun cdv A outer s H vs Q E hr h => ?_)
  · obtain ⟨pl, q, i, as, ps, dn, op, rfl, _⟩ := h
    rfl
  · obtain ⟨pl, q, i, as, ps, dn, op, rfl, PG, PS, e, k⟩ := h
    obtain ⟨p, d, e1, e2, e3⟩ := opAt_some e
    obtain ⟨a, ha, hp⟩ := PG.get e1
    refine ⟨_, pss_one (ps_ret (pe_ix ix_list (pe_ix ix_list (pv 0) (pv 2) (fun _ _ => rfl)) (pe_ix ix_seq (pv 1) (pv 2) (fun _ _ => rfl)) (fun _ _ => rfl))), ?_⟩
    refine ⟨_, rfl, _, rfl, pl, _, _, _, rfl, rfl, SqL.of PG.ob, at_ref ha, _, rfl, _, rfl, rix PS e2 ?_⟩
    exact ⟨a, _, _, _, rfl, rfl, SqL.of hp, at_op e3, k⟩
theorem ok_unfinished (T : Top K mg) : FnOk P w K mg base CX0 2 (He.fAd K ("unfinished", none)) (fdOf K ("unfinished", none)) ["programs", "positions"] (spUnf K) := by
  refine fd_ok T.d_unfinished sc_unfinished (fun vs H Q E h => ?_) (fun cdv A outer s H vs Q E hr h => ?_)
  · obtain ⟨pl, q, as, ps, dn, rfl, _⟩ := h
    rfl
  · obtain ⟨pl, q, as, ps, dn, rfl, PG, PS, SD, hl, k⟩ := h
    have nd := sc_unfinished.nd
    refine ⟨_, pss_one (ps_ret (pe_lc (own := [("session", 2)]) (g := gName 2) rfl nd (pi_range1 rfl T.n_range (pa_cons (pe_callB call_len_seq (by rfl) T.n_len (by decide +kernel) (pa_cons (pv 0) pa_nil)) pa_nil)) (blkOk_by (own := [("session", 2)]) (N := ["programs", "positions", "session"]) (sc := defScope s_unfinished) (by decide +kernel)) (fun _ _ _ _ _ => pg_name (i := 2) nd rfl (Or.inl rfl)) (fun _ _ _ _ _ => pts_one (pt_not (pt_val (pe_call (ok_has_ended T) hr rfl T.g_has_ended T.d_has_ended.kp (b_has_ended T) .nil pass0 (pa_cons (pv 0) (pa_cons (pv 1) (pa_cons (pv 2) pa_nil))))))) (fun _ _ _ _ _ => pv 2))), ?_⟩
    refine ⟨_, rfl, pl, _, rfl, .inl (SqL.of PG.ob), _, rfl, by omega, by rw [List.length_map, PG.len]; omega, fun D hD => ?_⟩
    refine lc_range (lo := 0) (n := ((as.map V.ref).length : Int).toNat) (fun i H' => Same H H' ∧ H' D = some (.lst (dV ((List.range i).filter fun j => (opAt ps dn j).isSome)))) ⟨Same.new hD, upd_same⟩ ?_ ?_
    · rintro i H' hi ⟨e, eD⟩
      have hi : i < ps.length := by rw [List.length_map, PG.len] at hi; omega
      have hi2 : i < dn.length := by rw [SD.len]; exact hi
      have g1 : ps[i]? = some ps[i] := List.getElem?_eq_getElem hi
      have g2 : dn[i]? = some dn[i] := List.getElem?_eq_getElem hi2
      have le := SD.le i _ _ g1 g2
      refine ⟨rfl, _, rfl, _, rfl, _, rfl, pl, q, i, as, ps, dn, ps[i], dn[i], by rw [Int.zero_add]; rfl, PG.same e, PS.same e, g1, g2, _, rfl, ?_⟩
      by_cases c : dn[i] = ps[i].length
      · have no : opAt ps dn i = none := by
          unfold opAt
          rw [g1, g2]
          show ps[i][dn[i]]? = none
          exact List.getElem?_eq_none (by omega)
        refine nF c ⟨e, ?_⟩
        rw [List.range_succ, List.filter_append, eD]
        simp [no]
      · have yes : (opAt ps dn i).isSome = true := by
          unfold opAt
          rw [g1, g2]
          show (ps[i][dn[i]]?).isSome = true
          rw [List.getElem?_eq_getElem (by omega)]
          rfl
        refine nT c ⟨_, rfl, _, eD, ?_, ?_, ?_⟩
        · have := List.length_filter_le (fun j => (opAt ps dn j).isSome) (List.range i)
          rw [List.length_range] at this
          unfold dV
          rw [List.length_map, sizeLine_eq]
          omega
        · intro b o eb
          rw [upd_ne (ne_of_none eb hD)]; exact e b o eb
        · rw [upd_same, List.range_succ, List.filter_append]
          simp [yes, dV]
    · rintro H' ⟨e, eD⟩
      refine k H' D e hD ?_
      rw [eD, show ((as.map V.ref).length : Int).toNat = ps.length by rw [List.length_map, PG.len]; rfl]
      rfl
theorem ok_ready (T : TopX P K mg) : FnOk P w K mg base CX0 10 (He.fAd K ("ready_sessions", none)) (fdOf K ("ready_sessions", none)) ["programs", "positions", "links", "mode"] (spReady K) := by
  refine fd_ok T.d_ready_sessions sc_ready_sessions (fun vs H Q E h => ?_) (fun cdv A outer s H vs Q E hr h => ?_)
  · obtain ⟨pl, q, p, m, as, ps, dn, n, s, rfl, _⟩ := h
    rfl
  · obtain ⟨pl, q, p, m, as, ps, dn, n, sg, rfl, PG, PS, hl, LK, W, L, G, k⟩ := h
    have nd := sc_ready_sessions.nd
    have hr1 : Room 1 _ := hr.mono (by decide)
    have hr2 : Room 2 _ := hr.mono (by decide)
    refine ⟨_, pss_cons (ps_set (i := 4) nd rfl (Or.inl rfl) (pe_lst pa_nil))
      (pss_cons (ps_for PassesOwn.never rfl (pi_list (pe_call (ok_unfinished T.toTop) hr2 rfl T.g_unfinished T.d_unfinished.kp (b_unfinished T.toTop) .nil pass0 (pa_cons (pv 0) (pa_cons (pv 1) pa_nil)))) (pg_name (i := 5) nd rfl (Or.inl rfl))
        (pss_cons (ps_set (i := 6) nd rfl (Or.inl rfl) (pe_call (ok_next_operation T.toTop) hr1 rfl T.g_next_operation T.d_next_operation.kp (b_next_operation T.toTop) .nil pass0 (pa_cons (pv 0) (pa_cons (pv 1) (pa_cons (pv 5) pa_nil)))))
        (pss_one (ps_if (pt_cmpR op_eq (pe_call (ok_refuser T) hr rfl T.g_refuser T.d_refuser.kp (b_refuser T.toTop) .nil pass0 (pa_cons (pv 2) (pa_cons (pv 6) (pa_cons (pv 3) pa_nil)))) pe_str (nomark _))
          (pss_one (ps_expr (pe_bm PySem.F.plainAttrs_list PySem.F.slot_list_append PySem.F.type_list_append mt_append (pv 4) (pa_cons (pv 5) pa_nil)))) pss_nil))))
      (pss_one (ps_ret (pv 4)))), ?_⟩
    refine ⟨by decide, fun hd hh => ?_⟩
    have s0 : ∀ o, Same H (upd H hd o) := fun _ => Same.new hh
    refine ⟨_, rfl, _, rfl, pl, q, as, ps, dn, rfl, PG.same (s0 _), PS.same (s0 _), L.std, hl, fun H1 u s1 hu e1 => ⟨u, rfl, ⟨_, SqL.of e1⟩, ?_⟩⟩
    have nud : u ≠ hd := fun z => by rw [z, upd_same] at hu; cases hu
    have f1 := (s0 _).trans s1
    have ehd := s1 _ _ (upd_same (H := H) (a := hd) (o := .lst []))
    have lu : (unf ps dn).length ≤ 1000 := by
      unfold unf
      refine Nat.le_trans (List.length_filter_le _ _) ?_
      rw [List.length_range]; exact hl
    refine for_list (K := K) (a := u) (xs := dV (unf ps dn)) (fun i σ' H' => ∃ (v1 v2 : Option V), σ' = [some (.ref pl), some (.ref q), some (.ref p), some (.str (mdS m)), some (.ref hd), v1, v2] ∧ But hd H1 H' ∧ H' hd = some (.lst (dV (((unf ps dn).take i).filter (okAt ps sg dn m)))))
      ⟨none, none, rfl, But.refl, ehd⟩ (fun i σ' H' _ ⟨_, _, _, b, _⟩ => SqL.of (b u _ e1 nud)) ?_ ?_
    · rintro l y σ' H' hlx ⟨v1, v2, rfl, b, e2⟩
      obtain ⟨i, hi, rfl⟩ : ∃ i, (unf ps dn)[l]? = some i ∧ y = .int (i : Nat) := by
        unfold dV at hlx
        rw [List.getElem?_map] at hlx
        cases e : (unf ps dn)[l]? with
        | none => rw [e] at hlx; cases hlx
        | some i => rw [e] at hlx; exact ⟨i, rfl, (Option.some.inj hlx).symm⟩
      obtain ⟨op, hop⟩ := mem_unf.mp (List.mem_of_getElem? hi)
      have fs : Same H H' := fun c o e => b c o (f1 c o e) (ne_of_none e hh)
      have O : OpP K H' p n sg op := ⟨LK.same fs, W, Ln.isop G hop, L.legal G hop⟩
      refine ⟨_, rfl, _, rfl, _, rfl, pl, q, i, as, ps, dn, op, rfl, PG.same fs, PS.same fs, hop, ?_⟩
      refine ⟨_, rfl, _, rfl, _, rfl, p, m, n, sg, op, rfl, O, fun H2 z s2 hz => ⟨rfl, _, rfl, ?_⟩⟩
      have tk : ((unf ps dn).take (l + 1)).filter (okAt ps sg dn m) = ((unf ps dn).take l).filter (okAt ps sg dn m) ++ (if ref sg op m = false then [i] else []) := by
        rw [take_snoc hi, List.filter_append]
        unfold okAt
        simp only [List.filter_cons, List.filter_nil, hop]
        cases ref sg op m <;> rfl
      by_cases c : z = ""
      · refine dT (congrArg V.str c) ⟨_, rfl, Or.inl ⟨rfl, _, SqL.of (s2 _ _ e2)⟩, ?_⟩
        refine ⟨_, rfl, hd, _, _, rfl, rfl, s2 _ _ e2, ?_, _, _, rfl, (b.same s2).upd, ?_⟩
        · unfold dV
          rw [List.length_map, sizeLine_eq]
          have := List.length_filter_le (okAt ps sg dn m) ((unf ps dn).take l)
          rw [List.length_take] at this
          omega
        · rw [upd_same, tk, if_pos (hz.mp c)]
          simp [dV]
      · refine dF (fun q => c (V.str.inj q)) ⟨_, _, rfl, b.same s2, ?_⟩
        rw [tk, if_neg (fun q => c (hz.mpr q)), List.append_nil]
        exact s2 _ _ e2
    · rintro σ' H' ⟨v1, v2, rfl, b, e2⟩
      have len : (dV (unf ps dn)).length = (unf ps dn).length := by unfold dV; rw [List.length_map]
      rw [len, List.take_length, ← rdy_unf] at e2
      exact ⟨_, rfl, k H' hd (fun c o e => b c o (f1 c o e) (ne_of_none e hh)) hh e2⟩
end
end Lk

set_option maxHeartbeats 4000000
/-! chosen, run. -/
namespace Lk
open PySem PySem.Spec PyProof.Rows L2
def rGetL (K : PySem.W.Frag) : V → V → Hp → VK → Prop := fun o y H Q => ∃ p xs i v, o = .ref p ∧ y = .int i ∧ SqL K H p xs ∧ 0 ≤ i ∧ xs[i.toNat]? = some v ∧ Q v H
theorem get_list {X : Cx} : PGet X (rGetL X.K) := by
  intro pins s σ H o i ov iv Q I ro ri h
  obtain ⟨p, xs, k, v, rfl, rfl, hq, h0, hx, q⟩ := h
  cases ro
  obtain ⟨t, rfl⟩ := ri
  obtain ⟨its, r, pl, hz⟩ := I.list hq
  obtain ⟨w, ew, rw'⟩ := r.get hx
  have hk : k.toNat < xs.length := (List.getElem?_eq_some_iff.mp hx).1
  have hl := r.length
  have hn := line63
  exact wpAny_getItem_list pl.isList h0 (by omega) (by simpa using ew) ⟨v, H, I, rw', q⟩
theorem last_at {o : List Nat} {l : Nat} (h : o.getLast? = some l) : atI (dV o) (-1) = some (.int (l : Nat)) := by
  obtain ⟨ys, e⟩ := List.getLast?_eq_some_iff.mp h
  rw [e]
  unfold dV
  rw [List.map_append]
  exact atI_last _ _
theorem dV_len {o : List Nat} : (dV o).length = o.length := by unfold dV; rw [List.length_map]
theorem dV_get {o : List Nat} {i : Nat} {y : V} (h : (dV o)[i]? = some y) : ∃ d, o[i]? = some d ∧ y = .int (d : Nat) := by
  unfold dV at h
  rw [List.getElem?_map] at h
  cases e : o[i]? with
  | none => rw [e] at h; cases h
  | some d => rw [e] at h; exact ⟨d, rfl, (Option.some.inj h).symm⟩
section
variable {P : Program} {w : World} {K : PySem.W.Frag} {mg : Str → Option Value} {base : Heap}
theorem ok_chosen (T : Top K mg) : FnOk P w K mg base CX0 1 (He.fAd K ("chosen", none)) (fdOf K ("chosen", none)) ["ready", "schedule", "turn"] (spChosen K) := by
  refine fd_ok T.d_chosen sc_chosen (fun vs H Q E h => ?_) (fun cdv A outer s H vs Q E hr h => ?_)
  · obtain ⟨r, sc, z, rd, o, i, rfl, _⟩ := h
    rfl
  · obtain ⟨r, sc, z, rd, o, i, rfl, hrd, ho, hp, k⟩ := h
    have nd := sc_chosen.nd
    refine ⟨_, pss_cons (ps_if (PW.pt (pw_and (pt_cmpR op_eq (pv 2) pe_str (nomark _)) (pw_and1 (pt_cmpR op_gt (pe_callB call_len_seq (by rfl) T.n_len (by decide +kernel) (pa_cons (pv 1) pa_nil)) pe_int (nomark _)))))
        (pss_one (ps_for PassesOwn.never rfl (pi_list (pv 0)) (pg_name (i := 3) nd rfl (Or.inl rfl))
          (pss_one (ps_if (pt_cmpR op_gt (pv 3) (pe_ix ix_list (pv 1) (pe_un un_neg pe_int) (fun _ _ => rfl)) (nomark _)) (pss_one (ps_ret (pv 3))) pss_nil)))) pss_nil)
      (pss_one (ps_ret (pe_ix ix_list (pv 0) pe_int (fun _ _ => rfl)))), ?_⟩
    cases rd with
    | nil => cases hp
    | cons r0 rt =>
    have first : i = r0 → tRet (tOp (rIxL K) (tVar 0) (tC (.int 0))) { nx := fun _ H' => Q .non H', rt := Q } [some (.ref r), some (.ref sc), some (.str z), none] H := fun e =>
      ⟨_, rfl, r, _, _, _, rfl, rfl, SqL.of hrd, (by rw [e]; exact dV_at (i := 0) rfl), k⟩
    have e0 : (if decide (z = "round") then o.getLast? else none) = none → i = r0 := fun e => by
      unfold pick at hp
      rw [e] at hp
      exact (Option.some.inj hp).symm
    refine ⟨_, rfl, rfl, _, rfl, ?_⟩
    by_cases c : z = "round"
    · refine dT (congrArg V.str c) ⟨_, rfl, sc, _, rfl, .inl (SqL.of ho), _, _, rfl, rfl, _, rfl, ?_⟩
      rw [dV_len]
      by_cases c2 : (0 : Int) < o.length
      · refine dT c2 ?_
        obtain ⟨l, hl⟩ : ∃ l, o.getLast? = some l := by
          cases e : o.getLast? with
          | some l => exact ⟨l, rfl⟩
          | none => rw [List.getLast?_eq_none_iff.mp e] at c2; exact absurd c2 (by decide)
        unfold pick at hp
        rw [decide_eq_true c, if_pos rfl, hl] at hp
        have hp : ((r0 :: rt).find? fun x => decide (l < x)).getD r0 = i := Option.some.inj hp
        refine ⟨_, rfl, r, rfl, ⟨_, SqL.of hrd⟩, ?_⟩
        refine for_list (K := K) (a := r) (xs := dV (r0 :: rt)) (fun j σ' H' => (∃ v : Option V, σ' = [some (.ref r), some (.ref sc), some (.str z), v]) ∧ H' = H ∧ (((r0 :: rt).take j).find? fun x => decide (l < x)) = none)
          ⟨⟨none, rfl⟩, rfl, rfl⟩ (fun j σ' H' _ ⟨_, e, _⟩ => by rw [e]; exact SqL.of hrd) ?_ ?_
        · rintro j y σ' H' hjx ⟨⟨v, rfl⟩, rfl, hn⟩
          obtain ⟨d, hd, rfl⟩ := dV_get hjx
          refine ⟨_, rfl, _, rfl, _, rfl, sc, _, _, _, rfl, rfl, SqL.of ho, last_at hl, _, _, rfl, rfl, _, rfl, ?_⟩
          by_cases c3 : (l : Int) < (d : Int)
          · refine dT c3 ⟨_, rfl, ?_⟩
            have e : ((r0 :: rt).find? fun x => decide (l < x)) = some d := by
              have sp : r0 :: rt = (r0 :: rt).take j ++ d :: (r0 :: rt).drop (j + 1) := by
                rw [← drop_of hd, List.take_append_drop]
              rw [sp, List.find?_append, hn]
              simp only [Option.none_or, List.find?_cons]
              rw [decide_eq_true (by omega)]
            rw [e] at hp
            have hp : d = i := hp
            rw [hp]
            exact k
          · refine dF c3 ⟨⟨_, rfl⟩, rfl, ?_⟩
            rw [take_snoc hd, List.find?_append, hn]
            simp only [Option.none_or, List.find?_cons]
            rw [decide_eq_false (by omega)]
            rfl
        · rintro σ' H' ⟨⟨v, rfl⟩, rfl, hn⟩
          rw [dV_len, List.take_length] at hn
          rw [hn] at hp
          exact ⟨_, rfl, r, _, _, _, rfl, rfl, SqL.of hrd, (by rw [← hp]; exact dV_at (i := 0) rfl), k⟩
      · refine dF c2 (first (e0 ?_))
        have : o = [] := List.length_eq_zero_iff.mp (by omega)
        rw [this]
        split <;> rfl
    · refine dF (fun q => c (V.str.inj q)) (first (e0 ?_))
      rw [decide_eq_false c]
      rfl
end
end Lk

set_option maxHeartbeats 4000000
/-! run. -/
namespace Lk
open PySem PySem.Spec PyProof.Rows L2
def tnOk (t : Str) : Bool := decide (t = "first") || decide (t = "round")
theorem in_turns (z : Str) : inV (.str z) [.str "first", .str "round"] = tnOk z := by
  unfold tnOk inV
  simp only [List.any_cons, List.any_nil, eqV, Bool.or_false]
  by_cases h1 : z = "first"
  · subst h1; decide +kernel
  by_cases h2 : z = "round"
  · subst h2; decide +kernel
  simp [Ne.symm h1, Ne.symm h2, h1, h2]
/-- a run's way out -/
structure RunOut (K : PySem.W.Frag) (n : Int) (ps : List (List Int)) (z t : Str) (H : Hp) (Q : VK) (E : XK) : Prop where
  size : ¬ (0 ≤ n ∧ n ≤ 60) → err1 K "BadSize" "size" (.int n) H E
  mode : 0 ≤ n ∧ n ≤ 60 → mdOf z = none → err1 K "BadMode" "name" (.str z) H E
  turn : 0 ≤ n ∧ n ≤ 60 → mdOf z ≠ none → tnOk t = false → err1 K "BadTurn" "turn" (.str t) H E
  bad : 0 ≤ n ∧ n ≤ 60 → mdOf z ≠ none → tnOk t = true → ∀ i j, flt n [] ps 0 = some (i, j) → ∀ H', Same H H' → err2 K (.int (i : Nat)) (.int (j : Nat)) H' E
  good : 0 ≤ n ∧ n ≤ 60 → ∀ m, mdOf z = some m → tnOk t = true → flt n [] ps 0 = none → (run n.toNat ps m (decide (t = "round"))).1 = false → ∀ H' l, Same H H' → H l = none → H' l = some (.lst (dV (run n.toNat ps m (decide (t = "round"))).2.1)) → Q (.ref l) H'
  stuck : 0 ≤ n ∧ n ≤ 60 → ∀ m, mdOf z = some m → tnOk t = true → flt n [] ps 0 = none → (run n.toNat ps m (decide (t = "round"))).1 = true → ∀ H' q d, Same H H' → H q = none → H' q = some (.lst (dV (run n.toNat ps m (decide (t = "round"))).2.1)) → H' d = none → E (.ref (He.ga K "Stuck")) (some d) (upd H' d (.xd [("schedule", .ref q)]))
def spRun (K : PySem.W.Frag) : Sp := fun vs H Q E => ∃ (n : Int) (pl : Addr) (as : List Addr) (ps : List (List Int)) (z t : Str), vs = [.int n, .ref pl, .str z, .str t] ∧ PgAt H pl as ps ∧ Few ps ∧ RunOut K n ps z t H Q E
theorem unf_rem {ps : List (List Int)} {dn : List Nat} : unf ps dn = [] ↔ rem ps dn = 0 := by
  constructor
  · intro h
    apply Classical.byContradiction
    intro c
    obtain ⟨i, op, e⟩ := rem_pos c
    have := mem_unf.mpr ⟨op, e⟩
    rw [h] at this
    cases this
  · intro h
    cases e : unf ps dn with
    | nil => rfl
    | cons i r =>
      have m : i ∈ unf ps dn := by rw [e]; exact List.mem_cons_self
      obtain ⟨op, e2⟩ := mem_unf.mp m
      rw [rem_zero h i] at e2
      cases e2
theorem few_sum {ps : List (List Int)} (h : Few ps) : (ps.map List.length).sum ≤ 1000000 := by
  obtain ⟨h1, h2⟩ := h
  have : ∀ l : List (List Int), (∀ p ∈ l, p.length ≤ 1000) → (l.map List.length).sum ≤ l.length * 1000 := by
    intro l
    induction l with
    | nil => intro _; simp
    | cons p r ih =>
      intro h
      have h3 := h p List.mem_cons_self
      have h4 := ih fun q hq => h q (List.mem_cons_of_mem _ hq)
      simp only [List.map_cons, List.sum_cons, List.length_cons, Nat.add_mul, Nat.one_mul]
      omega
  have := this ps h2
  have : ps.length * 1000 ≤ 1000 * 1000 := Nat.mul_le_mul_right _ h1
  omega
theorem rep_0 (n : Nat) : (List.replicate ((n : Nat) : Int).toNat [V.int 0]).flatten = dV (List.replicate n 0) := by
  rw [Int.toNat_natCast]
  unfold dV
  rw [List.map_replicate]
  induction n with
  | zero => rfl
  | succ k ih => rw [List.replicate_succ, List.flatten_cons, ih]; rfl
/-- the loop's standing -/
structure RunI (K : PySem.W.Frag) (H : Hp) (n : Nat) (ps : List (List Int)) (m : Md) (cyc : Bool) (p dx aL aR aF q sc : Addr) (k : Nat) (s : Sg) (dn o : List Nat) (H' : Hp) : Prop where
  lk : LkAt (CL K) H' p dx aL aR aF n s
  ps_ : H' q = some (.lst (dV dn))
  sc_ : H' sc = some (.lst (dV o))
  same : Same H H'
  ri : RI n ps m s dn
  rm : rem ps dn = k
  go_ : go ps m cyc k s dn o = run n ps m cyc
  ol : ∀ l ∈ o, l < ps.length
  sz : o.length + k ≤ 1000000
structure RunF (H : Hp) (p dx aL aR aF q sc : Addr) : Prop where
  zL : H aL = none
  zR : H aR = none
  zF : H aF = none
  zq : H q = none
  zs : H sc = none
  qs : q ≠ sc
  qL : q ≠ aL
  qR : q ≠ aR
  qF : q ≠ aF
  sL : sc ≠ aL
  sR : sc ≠ aR
  sF : sc ≠ aF
section
variable {P : Program} {w : World} {K : PySem.W.Frag} {mg : Str → Option Value} {base : Heap}
theorem ok_run (T : TopX P K mg) : FnOk P w K mg base (L2.CX P w) 11 (He.fAd K ("run", none)) (fdOf K ("run", none)) ["size", "programs", "mode", "turn"] (spRun K) := by
  refine T.d_run.ok sc_run (fun vs H Q E h => ?_) (fun cdv A outer s H vs Q E hr h => ?_)
  · obtain ⟨n, pl, as, ps, z, t, rfl, _⟩ := h
    rfl
  · obtain ⟨n, pl, as, ps, z, t, rfl, PG, FW, RO⟩ := h
    have nd := sc_run.nd
    have hr1 : Room 1 _ := hr.mono (by decide)
    have hr2 : Room 2 _ := hr.mono (by decide)
    have hr3 : Room 3 _ := hr.mono (by decide)
    have hr4 : Room 4 _ := hr.mono (by decide)
    have hr5 : Room 5 _ := hr.mono (by decide)
    have bT : Binds K (fdOf K ("BadTurn", some "__init__")) ["self", "turn"] [] := T.i_BadTurn.binds fun _ _ _ _ _ us hl => match us, hl with | [_, _], _ => rfl
    have bS : Binds K (fdOf K ("Stuck", some "__init__")) ["self", "schedule"] [] := T.i_Stuck.binds fun _ _ _ _ _ us hl => match us, hl with | [_, _], _ => rfl
    refine ⟨_, pss_cons (ps_expr (pe_call (ok_check_size T) hr3 rfl T.g_check_size T.d_check_size.kp (b_check_size T.toTop) .nil (passes_call (takes_of rfl rfl rfl rfl) fun _ _ _ _ h => h) (pa_cons (pv 0) pa_nil)))
      (pss_cons (ps_expr (pe_call (ok_check_mode T) hr3 rfl T.g_check_mode T.d_check_mode.kp (b_check_mode T.toTop) .nil (passes_call (takes_of rfl rfl rfl rfl) fun _ _ _ _ h => h) (pa_cons (pv 2) pa_nil)))
      (pss_cons (ps_if (pt_cmpR op_notIn_seq (pv 3) (pe_glob rfl T.g_TURNS (v := .ref (He.ga K "TURNS")) rfl) (by rfl))
        (pss_one (ps_raise rfl (takes_of rfl rfl rfl rfl) (pmk_oex T.e_BadTurn.T T.e_BadTurn.iC T.e_BadTurn.tI (ok_init_BadTurn T.e_BadTurn T.i_BadTurn T.n_super T.nf_turn) hr2 bT .nil pass0 rfl T.g_BadTurn (pa_cons (pv 3) pa_nil)))) pss_nil)
      (pss_cons (ps_expr (pe_call (ok_check_programs T) hr4 rfl T.g_check_programs T.d_check_programs.kp (b_check_programs T.toTop) .nil (passes_call (takes_of rfl rfl rfl rfl) fun _ _ _ _ h => h) (pa_cons (pv 0) (pa_cons (pv 1) pa_nil))))
      (pss_cons (ps_set (i := 4) nd rfl (Or.inl rfl) (pe_make T.k_Links (ok_Linit T) hr5 rfl T.g_Links (b_Links___init__ T.toTop) .nil pass0 (pa_cons (pv 0) pa_nil)))
      (pss_cons (ps_set (i := 5) nd rfl (Or.inl rfl) (pe_op op_rep (pe_lst (pa_cons pe_int pa_nil)) (pe_callB call_len_seq (by rfl) T.n_len (by decide +kernel) (pa_cons (pv 1) pa_nil))))
      (pss_cons (ps_set (i := 6) nd rfl (Or.inl rfl) (pe_lst pa_nil))
      (pss_cons (ps_while (passes_of rfl) (pt_cmpR op_gt (pe_callB call_len_seq (by rfl) T.n_len (by decide +kernel) (pa_cons (pe_call (ok_unfinished T.toTop) hr2 rfl T.g_unfinished T.d_unfinished.kp (b_unfinished T.toTop) .nil pass0 (pa_cons (pv 1) (pa_cons (pv 5) pa_nil))) pa_nil)) pe_int (nomark _))
        (pss_cons (ps_set (i := 7) nd rfl (Or.inl rfl) (pe_call (ok_ready T) hr rfl T.g_ready_sessions T.d_ready_sessions.kp (b_ready_sessions T.toTop) .nil pass0 (pa_cons (pv 1) (pa_cons (pv 5) (pa_cons (pv 4) (pa_cons (pv 2) pa_nil))))))
        (pss_cons (ps_if (pt_cmpR op_eq (pe_callB call_len_seq (by rfl) T.n_len (by decide +kernel) (pa_cons (pv 7) pa_nil)) pe_int (nomark _))
          (pss_one (ps_raise rfl (takes_of rfl rfl rfl rfl) (pmk_oex T.e_Stuck.T T.e_Stuck.iC T.e_Stuck.tI (ok_init_Stuck T.e_Stuck T.i_Stuck T.n_super T.n_list T.nf_schedule) hr2 bS .nil pass0 rfl T.g_Stuck (pa_cons (pv 6) pa_nil)))) pss_nil)
        (pss_cons (ps_set (i := 8) nd rfl (Or.inl rfl) (pe_call (ok_chosen T.toTop) hr1 rfl T.g_chosen T.d_chosen.kp (b_chosen T.toTop) .nil pass0 (pa_cons (pv 7) (pa_cons (pv 6) (pa_cons (pv 3) pa_nil)))))
        (pss_cons (ps_expr (pe_meth (pv 4) T.c_Links T.m_apply (ok_apply T.toTop) hr3 (b_Links_apply T.toTop) .nil pass0 (pa_cons (pe_call (ok_next_operation T.toTop) hr1 rfl T.g_next_operation T.d_next_operation.kp (b_next_operation T.toTop) .nil pass0 (pa_cons (pv 1) (pa_cons (pv 5) (pa_cons (pv 8) pa_nil)))) pa_nil)))
        (pss_cons (ps_augS (pv 5) (pv 8) get_list pe_int ip_add set_list)
        (pss_one (ps_expr (pe_bm PySem.F.plainAttrs_list PySem.F.slot_list_append PySem.F.type_list_append mt_append (pv 6) (pa_cons (pv 8) pa_nil))))))))))
      (pss_one (ps_ret (pv 6)))))))))), ?_⟩
    refine ⟨_, rfl, n, rfl, fun hn => ?_, fun c => RO.size c⟩
    refine ⟨_, rfl, z, rfl, fun m hm => ?_, fun c => RO.mode hn c⟩
    have hmn : mdOf z ≠ none := by rw [hm]; exact fun e => nomatch e
    refine ⟨_, rfl, _, _, rfl, .inr (T.t_TURNS H), rfl, rfl, ?_⟩
    rw [in_turns]
    refine ⟨_, rfl, ?_⟩
    cases ct : tnOk t with
    | false => exact iteT ⟨_, rfl, (by show 1 ≤ 1000; decide), mk1 (RO.turn hn hmn ct)⟩
    | true =>
    refine iteF ?_
    refine ⟨_, rfl, _, rfl, n, pl, as, ps, rfl, hn.1, hn.2, PG, FW, fun cf H1 s1 => ?_, fun i j cf H1 s1 => RO.bad hn hmn ct i j cf H1 s1⟩
    obtain ⟨N, rfl⟩ : ∃ N : Nat, n = N := ⟨n.toNat, by omega⟩
    have hN : N ≤ 60 := by omega
    have G : Lg N ps := (flt_none cf).1
    have good := RO.good hn m hm ct cf
    have stk := RO.stuck hn m hm ct cf
    rw [Int.toNat_natCast] at good stk
    generalize hcyc : decide (t = "round") = cyc at good stk
    refine ⟨_, rfl, fun p dx hp hdx ne => ?_⟩
    have s2 : Same H1 (upd (upd H1 dx (.own p)) p (.ins (CL K) dx [])) := fun b o e => by rw [upd_ne (ne_of_none e hp), upd_ne (ne_of_none e hdx)]; exact e
    refine ⟨p, dx, N, rfl, hN, upd_same, fun H2 aL aR aF LK bt zL zR zF => ⟨rfl, ?_⟩⟩
    have f2 : Same H1 H2 := fun b o e => bt b o (s2 b o e) (ne_of_none e hp)
    have g2 : Same H H2 := s1.trans f2
    refine ⟨by decide, fun q0 hq0 => ?_⟩
    have s3 : ∀ o, Same H2 (upd H2 q0 o) := fun _ => Same.new hq0
    refine ⟨_, rfl, pl, _, rfl, .inl (SqL.of ((g2.trans (s3 _)) _ _ PG.ob)), ?_⟩
    rw [List.length_map, PG.len]
    refine ⟨q0, _, _, rfl, rfl, upd_same, by omega, by have := FW.1; omega, ?_, fun q hq => ?_⟩
    · rw [sizeLine_eq, Int.toNat_natCast]
      have := FW.1
      show 1 * _ ≤ _
      omega
    rw [rep_0]
    have f3 : ∀ o, Same H2 (upd (upd H2 q0 (.lst [.int 0])) q o) := fun _ => (s3 _).trans (Same.new hq)
    refine ⟨by decide, fun sc hsc => ?_⟩
    have f4 : Same H2 (upd (upd (upd H2 q0 (.lst [.int 0])) q (.lst (dV (List.replicate ps.length 0)))) sc (.lst [])) := (f3 _).trans (Same.new hsc)
    have z2 : H2 q = none := (s3 _).free hq
    have zs2 : H2 sc = none := (f3 _).free hsc
    have nqs : q ≠ sc := fun e => by rw [← e, upd_same] at hsc; cases hsc
    have x2 : ∀ b, (upd (upd H1 dx (.own p)) p (.ins (CL K) dx [])) b = none → H b = none := fun b e => s1.free (s2.free e)
    have F : RunF H p dx aL aR aF q sc := ⟨x2 _ zL, x2 _ zR, x2 _ zF, g2.free z2, g2.free zs2, nqs, (ne_of_none LK.l z2).symm, (ne_of_none LK.r z2).symm, (ne_of_none LK.f z2).symm, (ne_of_none LK.l zs2).symm, (ne_of_none LK.r zs2).symm, (ne_of_none LK.f zs2).symm⟩
    have I0 : RunI K H N ps m cyc p dx aL aR aF q sc (ps.map List.length).sum (Sg.whole N) (List.replicate ps.length 0) [] (upd (upd (upd H2 q0 (.lst [.int 0])) q (.lst (dV (List.replicate ps.length 0)))) sc (.lst [])) :=
      ⟨LK.same f4, by rw [upd_ne nqs, upd_same], upd_same, g2.trans f4, ri_start N ps m, rem_start ps, rfl, fun l h => (nomatch h), by have := few_sum FW; simpa using this⟩
    refine ⟨fun k σ' H' => (∃ v7 v8 : Option V, σ' = [some (.int (N : Nat)), some (.ref pl), some (.str z), some (.str t), some (.ref p), some (.ref q), some (.ref sc), v7, v8]) ∧ ∃ s dn o, RunI K H N ps m cyc p dx aL aR aF q sc k s dn o H', ⟨_, ⟨none, none, rfl⟩, _, _, _, I0⟩, ?_⟩
    rintro k σ' H' ⟨⟨v7, v8, rfl⟩, sg, dn, o, I⟩
    have hl1000 : ps.length ≤ 1000 := FW.1
    refine ⟨_, rfl, _, rfl, pl, q, as, ps, dn, rfl, PG.same I.same, .inl (SqL.of I.ps_), I.ri.ln.std, hl1000, fun H3 u s3' hu eu => ?_⟩
    refine ⟨u, _, rfl, .inl (SqL.of eu), _, _, rfl, rfl, _, rfl, ?_⟩
    rw [dV_len]
    by_cases c : (0 : Int) < (unf ps dn).length
    · refine dT c ?_
      have ck : rem ps dn ≠ 0 := fun e => by rw [unf_rem.mpr e] at c; exact absurd c (by decide)
      obtain ⟨k, rfl⟩ : ∃ j, k = j + 1 := ⟨k - 1, by have := I.rm; omega⟩
      refine ⟨fun σ' H' => (∃ v7 v8 : Option V, σ' = [some (.int (N : Nat)), some (.ref pl), some (.str z), some (.str t), some (.ref p), some (.ref q), some (.ref sc), v7, v8]) ∧ ∃ s dn o, RunI K H N ps m cyc p dx aL aR aF q sc k s dn o H', fun σ2 H4 h => ⟨k, Nat.lt_succ_self k, h⟩, ?_⟩
      have ez : z = mdS m := mdOf_some hm
      subst ez
      have LK3 := I.lk.same s3'
      refine ⟨_, rfl, _, rfl, _, rfl, _, rfl, pl, q, p, m, as, ps, dn, N, sg, rfl, PG.same (I.same.trans s3'), .inl (SqL.of (s3' _ _ I.ps_)), hl1000, ⟨dx, aL, aR, aF, LK3⟩, I.ri.wf, I.ri.ln, G, fun H4 r s4 hr' er => ?_⟩
      have f4' := s3'.trans s4
      refine ⟨_, rfl, r, _, rfl, .inl (SqL.of er), rfl, _, rfl, ?_⟩
      rw [dV_len]
      cases hp : pick (rdy ps sg dn m) o cyc with
      | none =>
        have hz : rdy ps sg dn m = [] := by
          cases e : rdy ps sg dn m with
          | nil => rfl
          | cons a b => exact absurd hp (pick_ne (by rw [e]; exact fun q => nomatch q))
        refine dT (by rw [hz]; rfl) ?_
        have eg : run N ps m cyc = (true, o, sg) := by
          rw [← I.go_]
          show (match pick (rdy ps sg dn m) o cyc with | none => (true, o, sg) | some i => go ps m cyc k (sg.app ((opAt ps dn i).getD 0)) (adv dn i) (o ++ [i])) = _
          rw [hp]
        rw [eg] at stk
        refine ⟨_, rfl, (by show 1 ≤ 1000; decide), mkS (K := K) (xs := dV o) (SqL.of (f4' _ _ I.sc_)) fun q' d h1 h2 h3 => ?_⟩
        exact stk rfl _ q' d ((I.same.trans f4').trans (Same.new h1)) ((I.same.trans f4').free h1) upd_same (by rw [upd_ne h3]; exact h2)
      | some i =>
        have hz : ¬ ((rdy ps sg dn m).length : Int) = 0 := fun e => by
          have : rdy ps sg dn m = [] := List.length_eq_zero_iff.mp (by omega)
          rw [this] at hp
          cases hp
        refine dF (fun e => hz (V.int.inj e)) ?_
        obtain ⟨op, hop, hrf⟩ := pick_op hp
        refine ⟨_, rfl, _, rfl, _, rfl, r, sc, t, rdy ps sg dn m, o, i, rfl, er, f4' _ _ I.sc_, by rw [hcyc]; exact hp, ?_⟩
        refine ⟨_, rfl, p, dx, _, rfl, f4' _ _ I.lk.ob, lfno (by decide +kernel), ?_⟩
        refine ⟨_, rfl, _, rfl, _, rfl, pl, q, i, as, ps, dn, op, rfl, PG.same (I.same.trans f4'), .inl (SqL.of (f4' _ _ I.ps_)), hop, ?_⟩
        refine ⟨p, dx, aL, aR, aF, N, sg, op, rfl, I.lk.same f4', I.ri.wf, Ln.isop G hop, I.ri.ln.legal G hop, fun H5 LK5 k5 => ?_⟩
        have eq5 : H5 q = some (.lst (dV dn)) := k5 _ _ (f4' _ _ I.ps_) F.qL F.qR F.qF
        have es5 : H5 sc = some (.lst (dV o)) := k5 _ _ (f4' _ _ I.sc_) F.sL F.sR F.sF
        have s5 : Same H H5 := fun b ob e => k5 _ _ ((I.same.trans f4') _ _ e) (ne_of_none e F.zL) (ne_of_none e F.zR) (ne_of_none e F.zF)
        obtain ⟨pp, d, e1, e2, e3⟩ := opAt_some hop
        have hid : i < dn.length := (List.getElem?_eq_some_iff.mp e2).1
        refine ⟨_, rfl, _, rfl, q, _, _, _, rfl, rfl, SqL.of eq5, by omega, (by unfold dV; rw [List.getElem?_map, Int.toNat_natCast, e2]; rfl), _, _, rfl, rfl, ?_⟩
        refine ⟨q, _, _, i, rfl, rfl, eq5, (by rw [dV_len, ixN_of (by omega) (by omega)]; rw [Int.toNat_natCast]), ?_⟩
        have ed : (dV dn).set i (.int ((d : Int) + 1)) = dV (adv dn i) := by
          unfold dV adv
          rw [List.map_set, List.getD_eq_getElem?_getD, e2]
          rfl
        rw [ed]
        refine ⟨_, rfl, .inl ⟨rfl, _, SqL.of (by rw [upd_ne F.qs.symm]; exact es5)⟩, _, rfl, sc, _, _, rfl, rfl, (by rw [upd_ne F.qs.symm]; exact es5), ?_, ?_⟩
        · rw [dV_len, sizeLine_eq]
          have := I.sz
          omega
        have eg : go ps m cyc k (sg.app op) (adv dn i) (o ++ [i]) = run N ps m cyc := by
          rw [← I.go_]
          show _ = (match pick (rdy ps sg dn m) o cyc with | none => (true, o, sg) | some i => go ps m cyc k (sg.app ((opAt ps dn i).getD 0)) (adv dn i) (o ++ [i]))
          rw [hp]
          show _ = go ps m cyc k (sg.app ((opAt ps dn i).getD 0)) (adv dn i) (o ++ [i])
          rw [hop]
          rfl
        have nqp : p ≠ q := fun e => by have q' := LK5.ob; rw [e, eq5] at q'; cases q'
        have nsp : p ≠ sc := fun e => by have q' := LK5.ob; rw [e, es5] at q'; cases q'
        have keep : ∀ b ob, H5 b = some ob → b ≠ q → b ≠ sc → (upd (upd H5 q (.lst (dV (adv dn i)))) sc (.lst (dV o ++ [.int (i : Nat)]))) b = some ob := fun b ob e n1 n2 => by
          rw [upd_ne n2, upd_ne n1]; exact e
        refine ⟨⟨_, _, rfl⟩, sg.app op, adv dn i, o ++ [i], ⟨keep _ _ LK5.ob nqp nsp, keep _ _ LK5.l F.qL.symm F.sL.symm, keep _ _ LK5.r F.qR.symm F.sR.symm, keep _ _ LK5.f F.qF.symm F.sF.symm, LK5.lr, LK5.lf, LK5.rf⟩, ?_, ?_, ?_, I.ri.step G hop hrf, ?_, eg, ?_, ?_⟩
        · rw [upd_ne F.qs, upd_same]
        · rw [upd_same]
          unfold dV
          rw [List.map_append]
          rfl
        · exact fun b ob e => keep b ob (s5 _ _ e) (ne_of_none e F.zq) (ne_of_none e F.zs)
        · have := rem_adv hop
          have := I.rm
          omega
        · intro l hl
          rcases List.mem_append.mp hl with hl | hl
          · exact I.ol l hl
          · rw [List.mem_singleton.mp hl]; exact opAt_lt hop
        · have := I.sz
          rw [List.length_append]
          show o.length + 1 + k ≤ _
          omega
    · refine dF c ?_
      have ck : rem ps dn = 0 := unf_rem.mp (List.length_eq_zero_iff.mp (by omega))
      have hk : k = 0 := by have := I.rm; omega
      subst hk
      have eg : run N ps m cyc = (false, o, sg) := by rw [← I.go_]; rfl
      rw [eg] at good
      exact ⟨_, rfl, good rfl H3 sc (I.same.trans s3') F.zs (s3' _ _ I.sc_)⟩
end
end Lk

set_option maxHeartbeats 4000000
/-! A sleeping generator that nobody wakes: what runs beside it runs as well where it could not be woken. -/
namespace Lk
open PySem PySem.Spec PyProof.Rows L2 GenW
/-- it can't be woken -/
def GenDead : GenState → Prop
  | .suspended k _ _ _ _ _ => ∀ r, k r = Sem.unsupported ""
  | _ => False
/-- no other generator's frame within -/
def GenFlat : GenState → Prop
  | .suspended _ _ _ _ fs _ => splitAtGen fs = none
  | _ => True
def GenRel (x y : GenState) : Prop := (x = y ∧ GenFlat y) ∨ (GenDead y ∧ x.seen = y.seen ∧ x.bare = y.bare)
structure Sim (s t : Shared) : Prop where
  heap : s.heap = t.heap
  drawn : s.drawn = t.drawn
  toks : s.toks = t.toks
  os : s.os = t.os
  size : s.gens.size = t.gens.size
  at_ : ∀ (i : Nat) (x y : GenState), s.gens[i]? = some x → t.gens[i]? = some y → GenRel x y
theorem gens_set {s : Shared} {g i : Nat} {x : GenState} : (s.setGen g x).gens[i]? = if i = g ∧ g < s.gens.size then some x else s.gens[i]? := by
  show (s.gens.setIfInBounds g x)[i]? = _
  rw [Array.getElem?_setIfInBounds]
  by_cases h : g = i
  · subst h
    by_cases h2 : g < s.gens.size
    · simp [h2]
    · simp [h2]
  · simp [h, Ne.symm h]
theorem Sim.set {s t : Shared} (h : Sim s t) {g : Nat} {x : GenState} (hx : GenFlat x) : Sim (s.setGen g x) (t.setGen g x) := by
  refine ⟨h.heap, h.drawn, h.toks, h.os, by rw [setGen_size, setGen_size]; exact h.size, fun i a b ha hb => ?_⟩
  rw [gens_set] at ha hb
  rw [h.size] at ha
  split at ha
  · rename_i c
    rw [if_pos c] at hb
    cases ha; cases hb
    exact .inl ⟨rfl, hx⟩
  · rename_i c
    rw [if_neg c] at hb
    exact h.at_ i a b ha hb
theorem Sim.some_ {s t : Shared} (h : Sim s t) {i : Nat} {y : GenState} (e : t.gens[i]? = some y) : ∃ x, s.gens[i]? = some x ∧ GenRel x y := by
  have hi : i < s.gens.size := by rw [h.size]; exact (Array.getElem?_eq_some_iff.mp e).1
  exact ⟨_, Array.getElem?_eq_getElem hi, h.at_ i _ _ (Array.getElem?_eq_getElem hi) e⟩
/-- what can't be woken stays -/
def Held (s s1 t t1 : Shared) : Prop := ∀ (i : Nat) (y : GenState), t.gens[i]? = some y → GenDead y → t1.gens[i]? = some y ∧ s1.gens[i]? = s.gens[i]?
theorem Held.refl {s t : Shared} : Held s s t t := fun _ _ h _ => ⟨h, rfl⟩
theorem Held.trans {s s1 s2 t t1 t2 : Shared} (a : Held s s1 t t1) (b : Held s1 s2 t1 t2) : Held s s2 t t2 := fun i y h d => by
  obtain ⟨h1, h2⟩ := a i y h d
  obtain ⟨h3, h4⟩ := b i y h1 d
  exact ⟨h3, h4.trans h2⟩
theorem Held.set {s t : Shared} (h : Sim s t) {g : Nat} {x y : GenState} (e : t.gens[g]? = some y) (nd : ¬ GenDead y) : Held s (s.setGen g x) t (t.setGen g x) := fun i z ez dz => by
  have ne : i ≠ g := fun q => by rw [q, e] at ez; cases ez; exact nd dz
  rw [gens_set, gens_set, if_neg (fun q => ne q.1), if_neg (fun q => ne q.1)]
  exact ⟨ez, rfl⟩
/-- the same heap and the like -/
theorem Held.of {s s1 t t1 : Shared} (a : s1.gens = s.gens) (b : t1.gens = t.gens) : Held s s1 t t1 := fun i y h d => by rw [a, b]; exact ⟨h, rfl⟩
def EndFlat : End → Prop
  | .ret _ => True
  | .susp _ _ _ _ _ _ fs => splitAtGen fs = none
theorem EndFlat.gen {e : End} (h : EndFlat e) : GenFlat e.genState := by
  cases e with
  | ret _ => trivial
  | susp v g l k c p fs => exact h
theorem split_append : ∀ {a b : List Frame}, splitAtGen a = none → splitAtGen b = none → splitAtGen (a ++ b) = none
  | [], b, _, h => h
  | .gen _ _ _ _ _ :: r, b, h, _ => by cases h
  | .ret k h g l c p kp :: r, b, h1, h2 => by
    have h1 : (splitAtGen r).map _ = none := h1
    have e : splitAtGen r = none := by
      cases q : splitAtGen r with
      | none => rfl
      | some x => rw [q] at h1; cases h1
    show (splitAtGen (r ++ b)).map _ = none
    rw [split_append e h2]
    rfl
theorem split_tail {f : Frame} {fs : List Frame} (h : splitAtGen (f :: fs) = none) : splitAtGen fs = none := by
  cases f with
  | gen g k l c p => cases h
  | ret k hh g l c p kp =>
    have h : (splitAtGen fs).map _ = none := h
    cases q : splitAtGen fs with
    | none => rfl
    | some x => rw [q] at h; cases h
theorem runs_unsup {M : Model} {Γ : PySem.Ctx} {p : Pos} {t : Sem PySem.Fin} {fs : List Frame} {s s' : Shared} {e : End} (h : Runs M Γ p t fs s e s') : t ≠ Sem.unsupported "" := by
  induction h <;> first | assumption | (intro q; cases q)
theorem Sim.new {s t : Shared} (S : Sim s t) {c : Code} : Sim { s with gens := s.gens.push (.fresh c) } { t with gens := t.gens.push (.fresh c) } := by
  refine ⟨S.heap, S.drawn, S.toks, S.os, by show (s.gens.push _).size = (t.gens.push _).size; rw [Array.size_push, Array.size_push, S.size], fun i x y hx hy => ?_⟩
  have hx : (s.gens.push (.fresh c))[i]? = some x := hx
  have hy : (t.gens.push (.fresh c))[i]? = some y := hy
  rw [Array.getElem?_push] at hx hy
  rw [S.size] at hx
  split at hx
  · rename_i q
    rw [if_pos q] at hy
    cases hx; cases hy
    exact .inl ⟨rfl, trivial⟩
  · rename_i q
    rw [if_neg q] at hy
    exact S.at_ i x y hx hy
theorem Sim.heldNew {s t : Shared} (S : Sim s t) {c : Code} : Held s { s with gens := s.gens.push (.fresh c) } t { t with gens := t.gens.push (.fresh c) } := fun i y hy dy => by
  have hi : i < t.gens.size := (Array.getElem?_eq_some_iff.mp hy).1
  refine ⟨?_, ?_⟩
  · show (t.gens.push (.fresh c))[i]? = some y
    rw [Array.getElem?_push, if_neg (Nat.ne_of_lt hi)]; exact hy
  · show (s.gens.push (.fresh c))[i]? = _
    rw [Array.getElem?_push, if_neg (by rw [S.size]; exact Nat.ne_of_lt hi)]
theorem held_mid {s t1 t2 sp s1 s2 : Shared} {g : Nat} {y x z : GenState} (hg : sp.gens[g]? = some y) (nd : ¬ GenDead y) (k1 : Held (s.setGen g x) t1 (sp.setGen g x) s1) (k2 : Held (t1.setGen g z) t2 (s1.setGen g z) s2) : Held s t2 sp s2 := fun i w hw dw => by
  have ne : i ≠ g := fun q => by rw [q, hg] at hw; cases hw; exact nd dw
  have e : ∀ (u : Shared) (v : GenState), (u.setGen g v).gens[i]? = u.gens[i]? := fun u v => by rw [gens_set, if_neg (fun q => ne q.1)]
  obtain ⟨h1, h2⟩ := k1 i w (by rw [e]; exact hw) dw
  rw [e] at h2
  obtain ⟨h3, h4⟩ := k2 i w (by rw [e]; exact h1) dw
  rw [e] at h4
  exact ⟨h3, h4.trans h2⟩
/-- THE SIMULATION -/
theorem runs_sim {M : Model} {Γ : PySem.Ctx} {p : Pos} {t : Sem PySem.Fin} {fs : List Frame} {sp sp' : Shared} {e : End} (h : Runs M Γ p t fs sp e sp') :
    splitAtGen fs = none → ∀ s, Sim s sp → ∃ s', Runs M Γ p t fs s e s' ∧ Sim s' sp' ∧ EndFlat e ∧ Held s s' sp sp' := by
  induction h with
  | done => exact fun _ s S => ⟨s, .done, S, trivial, .refl⟩
  | raise => exact fun _ s S => ⟨s, .raise, S, trivial, .refl⟩
  | again hq _ ih => exact fun hf s S => let ⟨s', r, S', f, k⟩ := ih hf s S; ⟨s', .again hq r, S', f, k⟩
  | rule _ ih => exact fun hf s S => let ⟨s', r, S', f, k⟩ := ih hf s S; ⟨s', .rule r, S', f, k⟩
  | «at» _ ih => exact fun hf s S => let ⟨s', r, S', f, k⟩ := ih hf s S; ⟨s', .at r, S', f, k⟩
  | load ho _ ih => exact fun hf s S => let ⟨s', r, S', f, k⟩ := ih hf s S; ⟨s', .load (by rw [S.heap]; exact ho) r, S', f, k⟩
  | update ho _ ih =>
    intro hf s S
    obtain ⟨s', r, S', f', k⟩ := ih hf { s with heap := s.heap.update _ _ } ⟨congrArg (fun h => Heap.update h _ _) S.heap, S.drawn, S.toks, S.os, S.size, S.at_⟩
    exact ⟨s', .update (by rw [S.heap]; exact ho) r, S', f', (Held.of rfl rfl).trans k⟩
  | loadIfAlive _ ih => exact fun hf s S => let ⟨s', r, S', f, k⟩ := ih hf s S; ⟨s', .loadIfAlive (by rw [S.heap]; exact r), S', f, k⟩
  | point _ ih => exact fun hf s S => let ⟨s', r, S', f, k⟩ := ih hf s S; ⟨s', .point r, S', f, k⟩
  | alloc _ ih =>
    intro hf s S
    obtain ⟨s', r, S', f', k⟩ := ih hf { s with heap := s.heap.push _ } ⟨congrArg (fun h => Heap.push h _) S.heap, S.drawn, S.toks, S.os, S.size, S.at_⟩
    exact ⟨s', .alloc (by rw [S.heap]; rw [S.heap] at r; exact r), S', f', (Held.of rfl rfl).trans k⟩
  | fresh _ ih =>
    intro hf s S
    obtain ⟨s', r, S', f', k⟩ := ih hf { s with toks := s.toks + 1 } ⟨S.heap, S.drawn, by show s.toks + 1 = _; rw [S.toks], S.os, S.size, S.at_⟩
    exact ⟨s', .fresh (by rw [S.toks]; rw [S.toks] at r; exact r), S', f', (Held.of rfl rfl).trans k⟩
  | ask _ ih => exact fun hf s S => let ⟨s', r, S', f, k⟩ := ih hf s S; ⟨s', .ask r, S', f, k⟩
  | choose hn _ ih =>
    intro hf s S
    obtain ⟨s', r, S', f', k⟩ := ih hf { s with drawn := s.drawn.bump _ } ⟨S.heap, congrArg (fun d => Drawn.bump d _) S.drawn, S.toks, S.os, S.size, S.at_⟩
    exact ⟨s', .choose hn (by rw [S.drawn]; rw [S.drawn] at r; exact r), S', f', (Held.of rfl rfl).trans k⟩
  | os _ ih =>
    intro hf s S
    obtain ⟨s', r, S', f', k⟩ := ih hf { s with os := (Os.step s.os _).1 } ⟨S.heap, S.drawn, S.toks, congrArg (fun o => (Os.step o _).1) S.os, S.size, S.at_⟩
    exact ⟨s', .os (by rw [S.os]; rw [S.os] at r; exact r), S', f', (Held.of rfl rfl).trans k⟩
  | handled _ ih => exact fun hf s S => let ⟨s', r, S', f, k⟩ := ih hf s S; ⟨s', .handled r, S', f, k⟩
  | genState hg _ ih =>
    intro hf s S
    obtain ⟨x, hx, hr⟩ := S.some_ hg
    obtain ⟨s', r, S', f', k⟩ := ih hf s S
    rcases hr with ⟨rfl, _⟩ | ⟨_, q, _⟩
    · exact ⟨s', .genState hx r, S', f', k⟩
    · exact ⟨s', .genState hx (by rw [q]; exact r), S', f', k⟩
  | stack _ ih => exact fun hf s S => let ⟨s', r, S', f, k⟩ := ih hf s S; ⟨s', .stack r, S', f, k⟩
  | thread _ ih => exact fun hf s S => let ⟨s', r, S', f, k⟩ := ih hf s S; ⟨s', .thread r, S', f, k⟩
  | newGen _ ih =>
    intro hf s1 S
    obtain ⟨s', r, S', f', k⟩ := ih hf _ S.new
    exact ⟨s', .newGen (by rw [S.size]; exact r), S', f', S.heldNew.trans k⟩
  | call _ _ ih1 ih2 =>
    intro hf s S
    obtain ⟨s1, r1, S1, _, k1⟩ := ih1 rfl s S
    obtain ⟨s2, r2, S2, f2, k2⟩ := ih2 hf s1 S1
    exact ⟨s2, .call r1 r2, S2, f2, k1.trans k2⟩
  | callSusp _ ih =>
    intro hf s S
    obtain ⟨s1, r1, S1, f1, k1⟩ := ih rfl s S
    exact ⟨s1, .callSusp r1, S1, split_append f1 rfl, k1⟩
  | yield => exact fun _ s S => ⟨s, .yield, S, rfl, .refl⟩
  | @resumeFresh Γ p g l k s c e₁ s₁ e s' hg _ hq _ ih1 ih2 =>
    intro hf t S
    obtain ⟨x, hx, hr⟩ := S.some_ hg
    obtain rfl : x = .fresh c := by
      rcases hr with ⟨q, _⟩ | ⟨q, _⟩
      · exact q
      · exact q.elim
    obtain ⟨t1, r1, S1, f1, k1⟩ := ih1 rfl _ (S.set (g := g) (x := .running) trivial)
    obtain ⟨t2, r2, S2, f2, k2⟩ := ih2 hf _ (S1.set (g := g) f1.gen)
    exact ⟨t2, .resumeFresh hx r1 hq r2, S2, f2, held_mid hg id k1 k2⟩
  | @resumeSuspended Γ p g r l k s k₀ l₀ c₀ p₀ fs cl e₁ s₁ e s' hg hr0 hq _ ih1 ih2 =>
    intro hf t S
    obtain ⟨x, hx, hr⟩ := S.some_ hg
    have nd : ¬ GenDead (.suspended k₀ l₀ c₀ p₀ fs cl) := fun d => runs_unsup hr0 (d r)
    obtain ⟨rfl, fl⟩ : x = .suspended k₀ l₀ c₀ p₀ fs cl ∧ splitAtGen fs = none := by
      rcases hr with ⟨q, q2⟩ | ⟨q, _⟩
      · exact ⟨q, q2⟩
      · exact absurd q nd
    obtain ⟨t1, r1, S1, f1, k1⟩ := ih1 fl _ (S.set (g := g) (x := .running) trivial)
    obtain ⟨t2, r2, S2, f2, k2⟩ := ih2 hf _ (S1.set (g := g) f1.gen)
    exact ⟨t2, .resumeSuspended hx r1 hq r2, S2, f2, held_mid hg nd k1 k2⟩
  | resumeJustStarted hg hv _ ih =>
    intro hf t S
    obtain ⟨x, hx, hr⟩ := S.some_ hg
    obtain ⟨s', r, S', f', k⟩ := ih hf t S
    rcases hr with ⟨rfl, _⟩ | ⟨q, _⟩
    · exact ⟨s', .resumeJustStarted hx hv r, S', f', k⟩
    · exact q.elim
  | resumeThrowFresh hg _ ih =>
    intro hf t S
    obtain ⟨x, hx, hr⟩ := S.some_ hg
    obtain ⟨s', r, S', f', k⟩ := ih hf _ (S.set (x := .finished) trivial)
    rcases hr with ⟨rfl, _⟩ | ⟨q, _⟩
    · exact ⟨s', .resumeThrowFresh hx r, S', f', (Held.set S hg id).trans k⟩
    · exact q.elim
  | resumeRunning hg _ ih =>
    intro hf t S
    obtain ⟨x, hx, hr⟩ := S.some_ hg
    obtain ⟨s', r, S', f', k⟩ := ih hf t S
    rcases hr with ⟨rfl, _⟩ | ⟨q, _⟩
    · exact ⟨s', .resumeRunning hx r, S', f', k⟩
    · exact q.elim
  | resumeFinished hg _ ih =>
    intro hf t S
    obtain ⟨x, hx, hr⟩ := S.some_ hg
    obtain ⟨s', r, S', f', k⟩ := ih hf t S
    rcases hr with ⟨rfl, _⟩ | ⟨q, _⟩
    · exact ⟨s', .resumeFinished hx r, S', f', k⟩
    · exact q.elim
  | segRet _ _ ih1 ih2 =>
    intro hf t S
    obtain ⟨t1, r1, S1, f1, k1⟩ := ih1 rfl t S
    obtain ⟨t2, r2, S2, f2, k2⟩ := ih2 (split_tail hf) t1 S1
    exact ⟨t2, .segRet r1 r2, S2, f2, k1.trans k2⟩
  | segGen _ _ _ _ => exact fun hf => (nomatch hf)
  | segSuspOut hn _ ih =>
    intro hf t S
    obtain ⟨t1, r1, S1, f1, k1⟩ := ih rfl t S
    exact ⟨t1, .segSuspOut hn r1, S1, split_append f1 hn, k1⟩
  | segSuspGen hs _ _ _ _ _ => exact fun hf => by rw [hs] at hf; cases hf
theorem wakes_sim {M : Model} {Γ : PySem.Ctx} {p : Pos} {g : Nat} {r : Resume} {s sp sp' : Shared} {res : GenResult} (h : Wakes M Γ p g r sp res sp') (S : Sim s sp) : ∃ s', Wakes M Γ p g r s res s' ∧ Sim s' sp' ∧ Held s s' sp sp' := by
  unfold Wakes at h
  cases hg : sp.gens[g]? with
  | none => rw [hg] at h; exact h.elim
  | some y =>
    rw [hg] at h
    obtain ⟨x, hx, hr⟩ := S.some_ hg
    cases y with
    | fresh c =>
      obtain rfl : x = .fresh c := by
        rcases hr with ⟨q, _⟩ | ⟨q, _⟩
        · exact q
        · exact q.elim
      cases r with
      | send v =>
        cases v with
        | none =>
          obtain ⟨e₁, s₁, hr1, hq, h3, rfl⟩ := h
          obtain ⟨t1, r1, S1, f1, k1⟩ := runs_sim hr1 rfl _ (S.set (g := g) (x := .running) trivial)
          refine ⟨t1.setGen g e₁.genState, ?_, S1.set f1.gen, held_mid hg id k1 .refl⟩
          unfold Wakes
          rw [hx]
          exact ⟨e₁, t1, r1, hq, h3, rfl⟩
        | _ =>
          obtain ⟨h1, rfl⟩ := h
          refine ⟨s, ?_, S, .refl⟩
          unfold Wakes
          rw [hx]
          exact ⟨h1, rfl⟩
      | throw v =>
        obtain ⟨h1, rfl⟩ := h
        refine ⟨s.setGen g .finished, ?_, S.set trivial, Held.set S hg id⟩
        unfold Wakes
        rw [hx]
        exact ⟨h1, rfl⟩
    | suspended k₀ l₀ c₀ p₀ fs cl =>
      obtain ⟨e₁, s₁, hr1, hq, h3, rfl⟩ := h
      have nd : ¬ GenDead (.suspended k₀ l₀ c₀ p₀ fs cl) := fun d => runs_unsup hr1 (d r)
      obtain ⟨rfl, fl⟩ : x = .suspended k₀ l₀ c₀ p₀ fs cl ∧ splitAtGen fs = none := by
        rcases hr with ⟨q, q2⟩ | ⟨q, _⟩
        · exact ⟨q, q2⟩
        · exact absurd q nd
      obtain ⟨t1, r1, S1, f1, k1⟩ := runs_sim hr1 fl _ (S.set (g := g) (x := .running) trivial)
      refine ⟨t1.setGen g e₁.genState, ?_, S1.set f1.gen, held_mid hg nd k1 .refl⟩
      unfold Wakes
      rw [hx]
      exact ⟨e₁, t1, r1, hq, h3, rfl⟩
    | running =>
      obtain ⟨h1, rfl⟩ := h
      obtain rfl : x = .running := by
        rcases hr with ⟨q, _⟩ | ⟨q, _⟩
        · exact q
        · exact q.elim
      refine ⟨s, ?_, S, .refl⟩
      unfold Wakes
      rw [hx]
      exact ⟨h1, rfl⟩
    | finished =>
      obtain ⟨h1, rfl⟩ := h
      obtain rfl : x = .finished := by
        rcases hr with ⟨q, _⟩ | ⟨q, _⟩
        · exact q
        · exact q.elim
      refine ⟨s, ?_, S, .refl⟩
      unfold Wakes
      rw [hx]
      exact ⟨h1, rfl⟩
/-- the same for what is wanted -/
theorem wp_sim {α : Type} (M : Model) (Γ : PySem.Ctx) (t : Sem α) : ∀ (Q : α → Pos → Shared → Prop) (E : Value → Pos → Shared → Prop) (p : Pos) (s sp : Shared), Sim s sp → Sem.wp M Γ t Q E p sp →
    Sem.wp M Γ t (fun a p' s' => ∃ sp', Sim s' sp' ∧ Held s s' sp sp' ∧ Q a p' sp') (fun e p' s' => ∃ sp', Sim s' sp' ∧ Held s s' sp sp' ∧ E e p' sp') p s := by
  have wk : ∀ {β : Type} {m : Sem β} {Q : β → Pos → Shared → Prop} {E : Value → Pos → Shared → Prop} {p : Pos} {s s1 sp sp1 : Shared}, Held s s1 sp sp1 →
      Sem.wp M Γ m (fun a p' s' => ∃ sp', Sim s' sp' ∧ Held s1 s' sp1 sp' ∧ Q a p' sp') (fun e p' s' => ∃ sp', Sim s' sp' ∧ Held s1 s' sp1 sp' ∧ E e p' sp') p s1 →
      Sem.wp M Γ m (fun a p' s' => ∃ sp', Sim s' sp' ∧ Held s s' sp sp' ∧ Q a p' sp') (fun e p' s' => ∃ sp', Sim s' sp' ∧ Held s s' sp sp' ∧ E e p' sp') p s1 := @fun β m Q E p s s1 sp sp1 k h =>
    Sem.wp_mono M Γ m (fun _ _ _ ⟨sp', a, b, c⟩ => ⟨sp', a, k.trans b, c⟩) (fun _ _ _ ⟨sp', a, b, c⟩ => ⟨sp', a, k.trans b, c⟩) _ _ h
  induction t with
  | pure a => exact fun Q E p s sp S h => ⟨sp, S, .refl, h⟩
  | raise e => exact fun Q E p s sp S h => ⟨sp, S, .refl, h⟩
  | unsupported _ => exact fun Q E p s sp S h => h
  | finish _ => exact fun Q E p s sp S h => h
  | rule _ k ih => exact fun Q E p s sp S h => ih () Q E p s sp S h
  | «at» p' k ih => exact fun Q E p s sp S h => ih () Q E p' s sp S h
  | load a _ k ih => exact fun Q E p s sp S ⟨o, ho, h⟩ => ⟨o, by rw [S.heap]; exact ho, ih o Q E p s sp S h⟩
  | update a _ f k ih =>
    intro Q E p s sp S ⟨h1, h2⟩
    exact ⟨by rw [S.heap]; exact h1, wk (Held.of rfl rfl) (ih () Q E p { s with heap := s.heap.update a f } { sp with heap := sp.heap.update a f } ⟨congrArg (fun h => Heap.update h a f) S.heap, S.drawn, S.toks, S.os, S.size, S.at_⟩ h2)⟩
  | loadIfAlive a k ih =>
    intro Q E p s sp S h
    show Sem.wp M Γ (k (s.heap.get? a)) _ _ p s
    rw [S.heap]
    exact ih _ Q E p s sp S h
  | point _ k ih => exact fun Q E p s sp S h => ih () Q E p s sp S h
  | register _ _ => exact fun Q E p s sp S h => h
  | alloc o k ih =>
    intro Q E p s sp S h
    show Sem.wp M Γ (k s.heap.objs.size) _ _ p { s with heap := s.heap.push o }
    rw [show s.heap.objs.size = sp.heap.objs.size by rw [S.heap]]
    exact wk (Held.of rfl rfl) (ih _ Q E p { s with heap := s.heap.push o } { sp with heap := sp.heap.push o } ⟨congrArg (fun h => Heap.push h o) S.heap, S.drawn, S.toks, S.os, S.size, S.at_⟩ h)
  | fresh k ih =>
    intro Q E p s sp S h
    show Sem.wp M Γ (k s.toks) _ _ p { s with toks := s.toks + 1 }
    rw [S.toks]
    exact wk (Held.of rfl rfl) (ih _ Q E p { s with toks := sp.toks + 1 } { sp with toks := sp.toks + 1 } ⟨S.heap, S.drawn, rfl, S.os, S.size, S.at_⟩ h)
  | ask k ih => exact fun Q E p s sp S h => ih _ Q E p s sp S h
  | choose src m k ih =>
    intro Q E p s sp S ⟨h1, h2⟩
    refine ⟨h1, ?_⟩
    rw [S.drawn]
    exact wk (Held.of rfl rfl) (ih _ Q E p { s with drawn := sp.drawn.bump src } { sp with drawn := sp.drawn.bump src } ⟨S.heap, rfl, S.toks, S.os, S.size, S.at_⟩ h2)
  | os q _ k ih =>
    intro Q E p s sp S h
    show Sem.wp M Γ (k (Os.step s.os q).2) _ _ p { s with os := (Os.step s.os q).1 }
    rw [S.os]
    exact wk (Held.of rfl rfl) (ih _ Q E p { s with os := (Os.step sp.os q).1 } { sp with os := (Os.step sp.os q).1 } ⟨S.heap, S.drawn, S.toks, rfl, S.size, S.at_⟩ h)
  | call c hd _ _ k ih =>
    intro Q E p s sp S ⟨r, s', hr, h⟩
    obtain ⟨s1, r1, S1, _, k1⟩ := runs_sim hr rfl s S
    exact ⟨r, s1, r1, wk k1 (ih r Q E p s1 s' S1 h)⟩
  | handled own k ih => exact fun Q E p s sp S h => ih _ Q E p s sp S h
  | newGen c k ih =>
    intro Q E p s sp S h
    show Sem.wp M Γ (k s.gens.size) _ _ p { s with gens := s.gens.push (.fresh c) }
    rw [S.size]
    exact wk S.heldNew (ih _ Q E p { s with gens := s.gens.push (.fresh c) } _ S.new h)
  | genState g k ih =>
    intro Q E p s sp S ⟨st, hs, h⟩
    obtain ⟨x, hx, hr⟩ := S.some_ hs
    refine ⟨x, hx, ?_⟩
    have es : x.seen = st.seen := by
      rcases hr with ⟨q, _⟩ | ⟨_, q, _⟩
      · rw [q]
      · exact q
    rw [es]
    exact ih _ Q E p s sp S h
  | resume g r _ k ih =>
    intro Q E p s sp S ⟨res, s', hw, h⟩
    obtain ⟨s1, hw1, S1, k1⟩ := wakes_sim hw S
    exact ⟨res, s1, hw1, wk k1 (ih res Q E p s1 s' S1 h)⟩
  | yield _ _ _ _ => exact fun Q E p s sp S h => h
  | stack k ih => exact fun Q E p s sp S h => ih _ Q E p s sp S h
  | fork _ _ => exact fun Q E p s sp S h => h
  | thread k ih => exact fun Q E p s sp S h => ih _ Q E p s sp S h
  | await _ _ _ _ _ => exact fun Q E p s sp S h => h
theorem wpAny_sim {α : Type} {M : Model} {A : Around} {t : Sem α} {Q : α → Shared → Prop} {E : Value → Shared → Prop} {s sp : Shared} (S : Sim s sp) (h : wpAny M A t Q E sp) :
    wpAny M A t (fun a s' => ∃ sp', Sim s' sp' ∧ Held s s' sp sp' ∧ Q a sp') (fun e s' => ∃ sp', Sim s' sp' ∧ Held s s' sp sp' ∧ E e sp') s :=
  fun Γ p hΓ => wp_sim M Γ t _ _ p s sp S (h Γ p hΓ)
def genKill : GenState → GenState
  | .suspended _ l c p fs cl => .suspended (fun _ => Sem.unsupported "") l c p fs cl
  | x => x
def killed (s : Shared) : Shared := { s with gens := s.gens.map genKill }
theorem kill_rel (x : GenState) : GenRel x (genKill x) := by
  cases x with
  | suspended k l c p fs cl => exact .inr ⟨fun _ => rfl, rfl, rfl⟩
  | fresh c => exact .inl ⟨rfl, trivial⟩
  | running => exact .inl ⟨rfl, trivial⟩
  | finished => exact .inl ⟨rfl, trivial⟩
theorem sim_killed (s : Shared) : Sim s (killed s) := by
  refine ⟨rfl, rfl, rfl, rfl, by show _ = (s.gens.map genKill).size; rw [Array.size_map], fun i x y hx hy => ?_⟩
  have hy : (s.gens.map genKill)[i]? = some y := hy
  rw [Array.getElem?_map, hx] at hy
  cases hy
  exact kill_rel x
theorem Sim.bare {s t : Shared} (S : Sim s t) (h : AllBare t.gens) : AllBare s.gens := fun x hx => by
  obtain ⟨i, hi, e⟩ := Array.mem_iff_getElem.mp hx
  have hi2 : i < t.gens.size := by rw [← S.size]; exact hi
  have hb := h _ (Array.getElem_mem hi2)
  rcases S.at_ i x _ (by rw [Array.getElem?_eq_getElem hi, e]) (Array.getElem?_eq_getElem hi2) with ⟨q, _⟩ | ⟨_, _, q⟩
  · rw [q]; exact hb
  · rw [q]; exact hb
theorem bare_killed {s : Shared} (h : AllBare s.gens) : AllBare (killed s).gens := fun y hy => by
  have hy : y ∈ s.gens.map genKill := hy
  obtain ⟨x, hx, rfl⟩ := Array.mem_map.mp hy
  have := h x hx
  cases x <;> exact this
theorem inv_sim {X : Cx} {pins : List (Addr × Obj)} {σ : L2.St} {H : Hp} {s t : Shared} (I : Inv X pins σ H t) (S : Sim s t) : Inv X pins σ H s where
  ok := I.ok
  os := by rw [S.os]; exact I.os
  bare := S.bare I.bare
  base := by rw [S.heap]; exact I.base
  loc := by rw [S.heap]; exact I.loc
  cell := by rw [S.heap]; exact I.cell
  free := I.free
  freeC := I.freeC
  pin := by rw [S.heap]; exact I.pin
  hok := by rw [S.heap]; exact I.hok
  len := I.len
theorem inv_kill {X : Cx} {pins : List (Addr × Obj)} {σ : L2.St} {H : Hp} {s : Shared} (I : Inv X pins σ H s) : Inv X pins σ H (killed s) :=
  ⟨I.ok, I.os, bare_killed I.bare, I.base, I.loc, I.cell, I.free, I.freeC, I.pin, I.hok, I.len⟩
/-- a body beside a sleeping generator: it sleeps on -/
theorem beside {X : Cx} {body : List Stmt} {tb : TS} (h : PSs X body tb) {pins : List (Addr × Obj)} {σ : L2.St} {H : Hp} {s : Shared} {D : Ends} {g : Nat} {gs : GenState} (I : Inv X pins σ H s) (hg : s.gens[g]? = some gs) (hs : ∃ k l c p fs cl, gs = .suspended k l c p fs cl) (hw : tb D σ H) :
    wpAny (model X.prog X.w) X.A (execs body X.env) (fun f s' => SP X pins D f s' ∧ s'.gens[g]? = some gs) (fun e s' => ∃ t, Sim s' t ∧ X.xe e t) s := by
  obtain ⟨k, l, c, p, fs, cl, rfl⟩ := hs
  have e : (killed s).gens[g]? = some (.suspended (fun _ => Sem.unsupported "") l c p fs cl) := by
    show (s.gens.map genKill)[g]? = _
    rw [Array.getElem?_map, hg]
    rfl
  refine wpAny_mono (wpAny_sim (sim_killed s) (h.run pins (killed s) σ H D (inv_kill I) hw)) (fun f s' ⟨t, S, K, q⟩ => ⟨?_, ?_⟩) fun e s' ⟨t, S, _, q⟩ => ⟨t, S, q⟩
  · cases f with
    | next => obtain ⟨σ', H', I', q⟩ := q; exact ⟨σ', H', inv_sim I' S, q⟩
    | brk => obtain ⟨σ', H', I', q⟩ := q; exact ⟨σ', H', inv_sim I' S, q⟩
    | cont => obtain ⟨σ', H', I', q⟩ := q; exact ⟨σ', H', inv_sim I' S, q⟩
    | ret v => obtain ⟨v', σ', H', I', r, q⟩ := q; exact ⟨v', σ', H', inv_sim I' S, r, q⟩
  · rw [(K g _ e fun _ => rfl).2, hg]
end Lk

set_option maxHeartbeats 4000000
/-! A generator whose consumer goes on between its yields. -/
namespace Lk
open PySem PySem.Spec PyProof.Rows L2 GenW
def cutH (n : Nat) (h : Heap) : Heap := ⟨h.objs.extract 0 n, h.life⟩
theorem cut_get {n : Nat} {h : Heap} {b : Addr} : (cutH n h).get? b = if b < n then h.get? b else none := by
  unfold cutH Heap.get?
  rw [Array.getElem?_extract]
  by_cases c : b < n
  · by_cases c2 : b < h.objs.size
    · simp [c, c2, Nat.lt_min]
    · simp [c, c2]
  · have c2 : ¬ b < min n h.objs.size := fun z => c (Nat.lt_of_lt_of_le z (Nat.min_le_left ..))
    rw [if_neg c]
    simp [c2]
theorem cut_size {n : Nat} {h : Heap} (hn : n ≤ h.objs.size) : (cutH n h).objs.size = n := by
  show (h.objs.extract 0 n).size = n
  rw [Array.size_extract]; omega
theorem cut_funs {n : Nat} {h base : Heap} : ∀ {l : List Env}, h.FunFrames base l → (∀ b ∈ frs l, b < n) → (cutH n h).FunFrames base l
  | [], _, _ => trivial
  | env :: rest, ⟨hk, ⟨L, o, hf, hn, ho, hd⟩, hr⟩, k => by
    have hL : L < n := k L (by unfold frs; rw [List.filterMap_cons, hf]; exact List.mem_cons_self)
    refine ⟨hk, ⟨L, o, hf, hn, by rw [cut_get, if_pos hL]; exact ho, hd⟩, cut_funs hr fun b hb => k b ?_⟩
    unfold frs
    rw [List.filterMap_cons, hf]
    exact List.mem_cons_of_mem _ hb
def cutS (n : Nat) (s : Shared) : Shared := { s with heap := cutH n s.heap }
structure Gn where
  P : Program
  w : World
  K : PySem.W.Frag
  mg : Str → Option Value
  base : Heap
  N : List Str
  qual : Str
  scope : Scope
  f : Addr
  cd : Value
  A : Around
  outer : List Env
  n0 : Nat
  ag : Addr
  go : Obj
def Gn.env (G : Gn) : Env := envOfC G.qual G.scope G.n0 G.f G.cd
/-- its context, as it stands after a resumption at s0 -/
def Gn.X (G : Gn) (s0 : Shared) (H0 : Hp) : Cx where
  prog := G.P
  w := G.w
  K := G.K
  mg := G.mg
  base := G.base
  A := G.A.deeper G.env
  N := G.N
  s_0 := s0
  H_0 := H0
  env := G.env
  outer := G.outer
  stack := G.env :: G.outer
  ex := []
  calm := true
  fn := fun _ => true
  pn := [(G.ag, G.go)]
  xe := fun _ _ => False
structure Gn.Ok (G : Gn) : Prop where
  kind : G.scope.kind = .function
  cells : G.env.cells = []
  nocell : ∀ x, G.env.kindOf x ≠ some .cell ∧ G.env.kindOf x ≠ some .free
  hd : G.A.handled = none
  fr : ∀ b ∈ frs G.outer, b < G.n0
  bz : G.base.objs.size ≤ G.n0
  agn : G.n0 < G.ag
  goc : ∀ v, G.go.data ≠ .cell v
  gog : G.go.cls = .type "generator"
def GPins (pl : List (Addr × Obj)) (H : Hp) (s : Shared) : Prop := ∀ p ∈ pl, s.heap.get? p.1 = some p.2 ∧ H p.1 = none
/-- the generator's own names, as they stand in its frame -/
def GLoc (G : Gn) (σ : L2.St) (s : Shared) : Prop := (∃ m, s.heap.Ns G.n0 m ∧ ∀ (i : Nat) (x : Str) (v : V), G.N[i]? = some x → σ[i]? = some (some v) → Vis G.scope x → ∃ u, RelV v u ∧ Look G.env s.heap m x u) ∧ σ.length = G.N.length
theorem inv_wake {G : Gn} (ok : G.Ok) {s1 s' : Shared} {Hc : Hp} {ip : List (Addr × Obj)} {σ : L2.St} {oL : Obj} (I : GLoc G σ s1) (e0 : Env0 G.P G.w G.K G.mg G.base G.A G.outer s' Hc)
    (hL : s1.heap.get? G.n0 = some oL) (pins : GPins ((G.n0, oL) :: (G.ag, G.go) :: ip) Hc s') (hip : ∀ p ∈ ip, G.n0 < p.1 ∧ ∀ v, p.2.data ≠ .cell v) : Inv (G.X (cutS G.n0 s') Hc) ip σ Hc s' := by
  obtain ⟨pL, pn0⟩ := pins _ List.mem_cons_self
  have pag := pins _ (List.mem_cons_of_mem _ List.mem_cons_self)
  have pip : ∀ p ∈ ip, s'.heap.get? p.1 = some p.2 ∧ Hc p.1 = none := fun p hp => pins p (List.mem_cons_of_mem _ (List.mem_cons_of_mem _ hp))
  have sz : G.n0 ≤ s'.heap.objs.size := Nat.le_of_lt (Heap.lt_size pL)
  have noc : ∀ {x : Str} {c : Addr}, G.env.cells.lookup x = some c → False := fun {x c} e => by rw [ok.cells] at e; cases e
  refine ⟨⟨e0.mod, ok.kind, rfl, rfl, ?_, fun x y c h _ => (noc h).elim, fun x h => ?_, fun x c _ h => (noc h).elim, fun _ => ok.hd, Around.frames_deeper e0.frames, .inr ⟨rfl, rfl⟩, fun b hb => (nomatch hb), fun b o e => ?_, ?_, fun b o _ hb => (nomatch hb), fun b hb => (nomatch hb), cut_funs e0.funs ok.fr, e0.frf⟩,
    rfl, e0.bare, ?_, ?_, fun x c h => (noc h).elim, pn0, fun x c h => (noc h).elim, fun p hp => ?_, e0.hok, I.2⟩
  · show (cutH G.n0 s'.heap).objs.size ≤ G.n0
    rw [cut_size sz]; exact Nat.le_refl _
  · rcases h with h | h
    · exact absurd h (ok.nocell x).1
    · exact absurd h (ok.nocell x).2
  · have hb : b < G.n0 := Nat.lt_of_lt_of_le (Heap.lt_size e) ok.bz
    refine ⟨?_, (e0.bs b o e).2⟩
    show (cutH G.n0 s'.heap).get? b = some o
    rw [cut_get, if_pos hb]
    exact (e0.bs b o e).1
  · show _ ≤ (cutH G.n0 s'.heap).objs.size
    rw [cut_size sz]; exact ok.bz
  · have g : ∀ {b : Addr} {o : Obj}, (cutH G.n0 s'.heap).get? b = some o → s'.heap.get? b = some o := fun {b o} e => by
      rw [cut_get] at e
      split at e
      · exact e
      · cases e
    exact ⟨fun b o e _ _ _ => g e, fun b o e _ _ _ => ⟨o.slots, g e⟩, fun b o _ n _ => n, fun b o e _ => ⟨o, g e⟩, fun _ _ e => e, fun _ _ _ e => e, fun b ps e => ⟨#[], by have e : Hc b = some (.tbl ps) := e; rw [e]; simp⟩⟩
  · obtain ⟨m, ⟨o, es, ep, ho, r⟩, h⟩ := I.1
    have ho : s1.heap.get? G.n0 = some o := ho
    rw [hL] at ho
    cases ho
    refine ⟨m, ⟨_, es, ep, pL, r⟩, fun i x v h1 h2 h3 => ?_⟩
    obtain ⟨u, ru, lk⟩ := h i x v h1 h2 h3
    refine ⟨u, ru, ?_⟩
    rcases lk with lk | ⟨lk, _⟩
    · exact .inl lk
    · rcases lk with lk | lk
      · exact absurd lk (ok.nocell x).1
      · exact absurd lk (ok.nocell x).2
  · have nf : ∀ {b : Addr}, G.n0 ≤ b → b ∉ frs G.outer := fun {b} h hb => absurd (ok.fr b hb) (Nat.not_lt.mpr h)
    rcases List.mem_append.mp hp with hp | hp
    · rw [List.mem_singleton.mp hp]
      exact ⟨pag.1, pag.2, Nat.ne_of_gt ok.agn, nf (Nat.le_of_lt ok.agn), ok.goc⟩
    · obtain ⟨q1, q2⟩ := hip p hp
      exact ⟨(pip p hp).1, (pip p hp).2, Nat.ne_of_gt q1, nf (Nat.le_of_lt q1), q2⟩

theorem inv_back {G : Gn} (ok : G.Ok) {s0 s1 s' : Shared} {H0 H1 Hc : Hp} {ip : List (Addr × Obj)} {σ : L2.St} {oL : Obj} {ip0 : List (Addr × Obj)} (I : Inv (G.X s0 H0) ip0 σ H1 s1) (e0 : Env0 G.P G.w G.K G.mg G.base G.A G.outer s' Hc)
    (hL : s1.heap.get? G.n0 = some oL) (pins : GPins ((G.n0, oL) :: (G.ag, G.go) :: ip) Hc s') (hip : ∀ p ∈ ip, G.n0 < p.1 ∧ ∀ v, p.2.data ≠ .cell v) : Inv (G.X (cutS G.n0 s') Hc) ip σ Hc s' :=
  inv_wake ok ⟨I.loc, I.len⟩ e0 hL pins hip
structure GOut (G : Gn) (Hp0 : Hp) (s₀ : Shared) (H1 : Hp) (s1 : Shared) : Prop where
  os : s1.os = s₀.os
  bare : AllBare s1.gens
  un : Un (frs G.outer) [] Hp0 H1 (cutH G.n0 s₀.heap) s1.heap
  hok : HOk G.P G.w H1 s1.heap
theorem gout_of {G : Gn} {Hp0 H1 : Hp} {s₀ s1 : Shared} {ip : List (Addr × Obj)} {σ : L2.St} (I : Inv (G.X (cutS G.n0 s₀) Hp0) ip σ H1 s1) : GOut G Hp0 s₀ H1 s1 := ⟨I.os, I.bare, I.base, I.hok⟩
/-- an item is handed out; what was seen then holds again when it is woken -/
def Gn.Y (G : Gn) (CP : Hp → Shared → Prop) (J : V → Hp → Prop) : Protocol := fun _ s₀ v s1 kap => ∃ (Hp0 : Hp) (x : V) (H1 : Hp) (pl : List (Addr × Obj)), CP Hp0 s₀ ∧ RelV x v ∧ J x H1 ∧ GOut G Hp0 s₀ H1 s1 ∧ GPins pl H1 s1 ∧
  (∀ p ∈ pl, G.n0 ≤ p.1 ∧ ∀ v, p.2.data ≠ .cell v) ∧ (G.ag, G.go) ∈ pl ∧ ∀ s' Hc, CP Hc s' → Same H1 Hc → GPins pl Hc s' → kap (.send .none) s'
def Gn.R (G : Gn) (CP : Hp → Shared → Prop) (JE : Hp → Prop) : GenEnd := fun _ s₀ r s1 => r = .ok (.ret .none) ∧ ∃ (Hp0 H1 : Hp), CP Hp0 s₀ ∧ GOut G Hp0 s₀ H1 s1 ∧ s1.heap.get? G.ag = some G.go ∧ H1 G.ag = none ∧ JE H1
/-- what is asked of «layer = ..; while test: yield from e; layer = ..» -/
structure GLoop (G : Gn) (CP : Hp → Shared → Prop) (J : V → Hp → Prop) (JE : Hp → Prop) (B : Nat) (test e : Expr) (st2 : Stmt) (L : Nat → List V → L2.St → Hp → Prop) : Prop where
  ok : G.Ok
  cp : ∀ Hc s', CP Hc s' → Env0 G.P G.w G.K G.mg G.base G.A G.outer s' Hc
  test : ∃ tc, (∀ s0 H0, PT (G.X s0 H0) test tc) ∧ ∀ m xs σ H, L m xs σ H → tc σ H fun b H' => H' = H ∧ b = !xs.isEmpty
  src : ∃ (te : TE) (lo : L2.St → Addr), (∀ s0 H0, PE (G.X s0 H0) e te) ∧ ∀ m xs σ H, L m xs σ H → H (lo σ) = some (.lst xs) ∧ te σ H fun v H' => H' = H ∧ v = .ref (lo σ)
  stay : ∀ m xs σ H Hc, L m xs σ H → Same H Hc → L m xs σ Hc
  out : ∀ m xs σ H, L m xs σ H → ∀ x ∈ xs, J x H
  fin : ∀ xs σ H, L 0 xs σ H → xs = []
  je : ∀ m xs σ H, L m xs σ H → JE H
  len : ∀ m xs σ H, L m xs σ H → xs.length ≤ B
  step : ∃ t2, (∀ s0 H0, PS (G.X s0 H0) st2 t2) ∧ ∀ m xs σ H, L (m + 1) xs σ H → t2 { nx := fun σ' H' => ∃ xs', L m xs' σ' H', rt := fun _ _ => False } σ H
section
variable {G : Gn} {CP : Hp → Shared → Prop} {J : V → Hp → Prop} {JE : Hp → Prop}
theorem itObj_nc {l : Addr} {i : Nat} : ∀ v, (GNX.itObj l i).data ≠ .cell v := fun v h => by cases h
/-- the end of a list's iterator: a StopIteration without a value -/
theorem stop_list {prog : Program} {w : World} {A : Around} {E : Value → Shared → Prop} {s : Shared} {it l : Addr} {i : Nat} {items : Array Value} {Q : Option Value → Shared → Prop} (hh : A.handled = none) (h1 : s.heap.get? it = some (GNX.itObj l i)) (h2 : s.heap.IsList l items) (h3 : items[i]? = none)
    (hE : ∀ e h', StopX e h' → Heap.ExtBut it s.heap h' → E e { s with heap := h' }) : wpAny (model prog w) A (callSpecial? (.ref it) "__next__") Q E s := by
  have hT : s.TypeIs (.ref it) "list_iterator" := ⟨_, h1, rfl⟩
  obtain ⟨ol, hol, _, nl, hdl⟩ := h2
  refine wpAny_callSpecial?_slot (name := Str.ofString "__next__") hT slot_listiter_next (wpAny_call_entry slot_listiter_next hT entry_listiter_next ?_ (args_listiter_next _))
  (show wpAny _ _ (field (.ref it) 0 >>= _) _ _ s; refine wpAny_bind (wpAny_field h1 rfl (x := .ref l) rfl ?_))
  (show wpAny _ _ (if (Value.ref l == Value.none) = true then _ else _) _ _ s; rw [if_neg (show ¬ ((Value.ref l == Value.none) = true) from Bool.false_ne_true)])
  (show wpAny _ _ (field (.ref it) 1 >>= _) _ _ s; refine wpAny_bind (wpAny_field h1 rfl (x := .int i 0) rfl ?_))
  (show wpAny _ _ (seqItems? (.ref l) >>= _) _ _ s; refine wpAny_bind (wpAny_seqItems hol hdl ?_))
  (simp only [Int.toNat_natCast, h3]; refine wpAny_bind (wpAny_rule (wpAny_bind (wpAny_setField h1 rfl (by simp) ?_))))
  (show wpAny _ _ (newExc (.type "StopIteration") [] >>= _) _ _ _; refine wpAny_bind ?_; simp only [newExc, newTuple])
  refine wpAny_bind (wpAny_newObj_type (wpAny_bind (m := firstArgMember _ _) (wpAny_of_eq (a := Value.none) (by first | rfl | (simp only [firstArgMember]; rfl)) ?_)) (by size_fits))
  (refine wpAny_newObj_type ?_ (by size_fits); simp only [raiseNew]; refine wpAny_bind (wpAny_handled ?_))
  (first | rw [show A.in1.handled = none from hh] | rw [hh]); (refine wpAny_bind (wpAny_pure (wpAny_throw ?_)))
  refine hE _ _ ⟨_, _, _, rfl, Heap.get?_push_size _ rfl, rfl, rfl, ?_⟩ (((Heap.SameBut.update ..).extBut.push _).push _)
  (first | rfl | (rw [Array.getElem?_append_left (by decide)]; rfl) | kernel_rfl)
theorem item_list {prog : Program} {w : World} {A : Around} {E : Value → Shared → Prop} {s : Shared} {it l : Addr} {i : Nat} {items : Array Value} {x : Value} {Q : Option Value → Shared → Prop} (h1 : s.heap.get? it = some (GNX.itObj l i)) (h2 : s.heap.IsList l items) (h3 : items[i]? = some x)
    (hQ : ∀ h', h'.get? it = some (GNX.itObj l (i + 1)) → Heap.SameBut it s.heap h' → Q (some x) { s with heap := h' }) : wpAny (model prog w) A (callSpecial? (.ref it) "__next__") Q E s := by
  have hT : s.TypeIs (.ref it) "list_iterator" := ⟨_, h1, rfl⟩
  exact wpAny_callSpecial?_slot (name := Str.ofString "__next__") hT slot_listiter_next (wpAny_call_entry slot_listiter_next hT entry_listiter_next (GNX.next_item h1 h2 h3 fun h' e sb => hQ h' e sb) (args_listiter_next _))
/-- the turns of «yield from» a list -/
theorem seg_turns {fs : List Frame} {it l : Addr} {n1 : Nat} {xs : List V} {σ : L2.St} {Lp : Hp → Prop} (ok : G.Ok) (cp : ∀ Hc s', CP Hc s' → Env0 G.P G.w G.K G.mg G.base G.A G.outer s' Hc) (hit : G.n0 < it)
    (hl : ∀ H, Lp H → H l = some (.lst xs)) (hst : ∀ H Hc, Lp H → Same H Hc → Lp Hc) (hJ : ∀ H, Lp H → ∀ x ∈ xs, J x H)
    (ho : (G.A.over (.builtin "proto.yield_from" ⟨[.ref it, .bool false, .none], []⟩) fs).handled = none) (hsp : splitAtGen fs = none) (hgd : fs.any Frame.guarded = false)
    (hend : ∀ (n : Nat) (s₀ s : Shared) (Hp0 H : Hp), n1 ≤ n → CP Hp0 s₀ → Inv (G.X (cutS G.n0 s₀) Hp0) [] σ H s → Lp H →
      Seg (model G.P G.w) G.A (G.R CP JE) (G.Y CP J) n s₀ (.builtin "proto.yield_from" ⟨[.ref it, .bool false, .none], []⟩) (.pure (.done (.ret .none))) fs s) :
    ∀ (r j n : Nat) (s₀ s : Shared) (Hp0 H : Hp), j + r = xs.length → n1 + r ≤ n → CP Hp0 s₀ → Inv (G.X (cutS G.n0 s₀) Hp0) [(it, GNX.itObj l j)] σ H s → Lp H →
      Seg (model G.P G.w) G.A (G.R CP JE) (G.Y CP J) n s₀ (.builtin "proto.yield_from" ⟨[.ref it, .bool false, .none], []⟩) ((model G.P G.w).den (.builtin "proto.yield_from" ⟨[.ref it, .bool false, .none], []⟩)) fs s := by
  have cl : typeLookup (.type "list_iterator") "close" = pure none := by rw [typeLookup_type, builtinLookup_eq_fast]; kernel_rfl
  have den : (model G.P G.w).den (.builtin "proto.yield_from" ⟨[.ref it, .bool false, .none], []⟩) = Builtin.«proto.yield_from» ⟨[.ref it, .bool false, .none], []⟩ := den_yf (X := G.X ({} : Shared) fun _ => none)
  have moved : ∀ {s₀ s : Shared} {Hp0 H : Hp} {j : Nat} {h' : Heap}, Inv (G.X (cutS G.n0 s₀) Hp0) [(it, GNX.itObj l j)] σ H s → (∀ b o, b ≠ it → s.heap.get? b = some o → h'.get? b = some o) → Inv (G.X (cutS G.n0 s₀) Hp0) [] σ H { s with heap := h' } := fun {s₀ s Hp0 H j h'} I k => by
    obtain ⟨_, p2, p3, _, _⟩ := I.pin (it, GNX.itObj l j) (List.mem_append_right _ List.mem_cons_self)
    have I0 : Inv (G.X (cutS G.n0 s₀) Hp0) [] σ H s := I.pins_of fun p hp => I.pin p (List.mem_append_left _ (by simpa using hp))
    refine I0.turned (t' := s.toks) k p2 p3 (.inr ?_) (fun x c h => ?_) fun p hp => ?_
    · have hh : (cutH G.n0 s₀.heap).objs.size ≤ G.n0 := by show (s₀.heap.objs.extract 0 G.n0).size ≤ _; rw [Array.size_extract]; omega
      exact Nat.le_trans hh (Nat.le_of_lt hit)
    · have h : G.env.cells.lookup x = some c := h
      rw [ok.cells] at h; cases h
    · have hp : p ∈ [(G.ag, G.go)] := by
        rcases List.mem_append.mp hp with hp | hp
        · exact hp
        · exact nomatch hp
      rw [List.mem_singleton.mp hp]
      intro z
      have q1 := (I.pin (it, GNX.itObj l j) (List.mem_append_right _ List.mem_cons_self)).1
      have q2 := (I.pin (G.ag, G.go) (List.mem_append_left _ (List.mem_singleton.mpr rfl))).1
      have z : G.ag = it := z
      have q2 : s.heap.get? G.ag = some G.go := q2
      have q1 : s.heap.get? it = some (GNX.itObj l j) := q1
      rw [z, q1] at q2
      have := ok.gog
      rw [← Option.some.inj q2] at this
      exact absurd (show Value.type "list_iterator" = Value.type "generator" from this) (by decide)
  have repin : ∀ {s₀ : Shared} {h' : Heap} {Hp0 H : Hp} {j : Nat} {s : Shared}, Inv (G.X (cutS G.n0 s₀) Hp0) [] σ H { s with heap := h' } → H it = none → h'.get? it = some (GNX.itObj l j) → Inv (G.X (cutS G.n0 s₀) Hp0) [(it, GNX.itObj l j)] σ H { s with heap := h' } := fun {s₀ h' Hp0 H j s} I e1 e2 => I.pins_of fun p hp => by
    · rw [List.mem_singleton.mp hp]
      exact ⟨e2, e1, Nat.ne_of_gt hit, fun hb => absurd (ok.fr it hb) (Nat.not_lt.mpr (Nat.le_of_lt hit)), itObj_nc⟩
  intro r
  induction r with
  | zero =>
    intro j n s₀ s Hp0 H hj hn hcp I hL
    have ej : j = xs.length := by omega
    subst ej
    obtain ⟨p1, p2, _, _, _⟩ := I.pin (it, GNX.itObj l xs.length) (List.mem_append_right _ List.mem_cons_self)
    have p1 : s.heap.get? it = some (GNX.itObj l xs.length) := p1
    obtain ⟨its, c, rv, el, _⟩ := I.lst (hl H hL)
    rw [den]
    unfold Builtin.«proto.yield_from»
    try dsimp only
    refine seg_bind (wpAny_pure ?_)
    try dsimp only
    refine seg_bind (wpAny_attempt (wpAny_holding ?_))
    rw [if_neg Bool.false_ne_true, if_pos (show (Value.none == Value.none) = true from rfl)]
    refine wpAny_bind (wpAny_rule (wpAny_bind ?_))
    refine stop_list (l := l) (items := its.toArray) ho p1 ⟨_, el, rfl, c, rfl⟩ ?_ fun e h' hS hk => ?_
    · have := rv.length
      simp; omega
    obtain ⟨a, o, vs, rfl, hoa, hcls, hdat, h5⟩ := hS
    try dsimp only
    refine seg_bind (wpAny_endsTurn hoa hcls ?_)
    try dsimp only
    rw [if_pos rfl]
    first
      | refine seg_bind (wpAny_rule ?_)
      | (rw [if_neg Bool.false_ne_true]; refine seg_bind (wpAny_rule ?_))
      | (rw [if_neg Bool.false_ne_true]; refine seg_bind (wpAny_pure ?_); refine seg_bind (wpAny_rule ?_))
    refine seg_bind (wpAny_field hoa hdat h5 ?_)
    exact hend n s₀ _ Hp0 H (by omega) hcp (moved I hk) hL
  | succ r ih =>
    intro j n s₀ s Hp0 H hj hn hcp I hL
    have hjl : j < xs.length := by omega
    obtain ⟨x, hx⟩ : ∃ x, xs[j]? = some x := ⟨xs[j], List.getElem?_eq_getElem hjl⟩
    obtain ⟨n, rfl⟩ : ∃ m, n = m + 1 := ⟨n - 1, by omega⟩
    obtain ⟨p1, p2, _, _, _⟩ := I.pin (it, GNX.itObj l j) (List.mem_append_right _ List.mem_cons_self)
    have p1 : s.heap.get? it = some (GNX.itObj l j) := p1
    obtain ⟨its, c, rv, el, _⟩ := I.lst (hl H hL)
    obtain ⟨u, hu, ru⟩ := rv.get hx
    rw [den]
    unfold Builtin.«proto.yield_from»
    try dsimp only
    refine seg_bind (wpAny_pure ?_)
    try dsimp only
    refine seg_bind (wpAny_attempt (wpAny_holding ?_))
    rw [if_neg Bool.false_ne_true, if_pos (show (Value.none == Value.none) = true from rfl)]
    refine wpAny_bind (wpAny_rule (wpAny_bind ?_))
    refine item_list (l := l) (items := its.toArray) (x := u) p1 ⟨_, el, rfl, c, rfl⟩ (by simpa using hu) fun h' e1 sb => ?_
    have I1 := repin (moved I fun b o hb e => (sb.2 b hb).trans e) p2 e1
    refine wpAny_pure ?_
    try dsimp only
    refine seg_bind (wpAny_typeOf (T := "list_iterator") ⟨_, e1, rfl⟩ ?_)
    try dsimp only
    first
      | (refine seg_bind (wpAny_of_eq cl ?_); refine seg_bind (wpAny_pure ?_))
      | refine seg_bind (wpAny_bind (wpAny_of_eq cl (wpAny_pure ?_)))
      | refine seg_bind (wpAny_of_eq cl ?_)
    try dsimp only
    refine seg_bind (wpAny_sleptOver e1 rfl (by decide) ?_)
    refine seg_yield hsp rfl hgd ?_
    obtain ⟨oL, es, ep, hoL, hod⟩ : ∃ o es ep, h'.get? G.n0 = some o ∧ o.data = .dict es ep := by
      obtain ⟨m, ⟨o, es, ep, h1, h2, _⟩, _⟩ := I1.loc
      exact ⟨o, es, ep, h1, h2⟩
    have pag := I1.pin (G.ag, G.go) (List.mem_append_left _ (List.mem_singleton.mpr rfl))
    refine ⟨Hp0, x, H, [(G.n0, oL), (G.ag, G.go), (it, GNX.itObj l (j + 1))], hcp, ru, hJ H hL x (List.mem_of_getElem? hx), gout_of I1, fun p hp => ?_, fun p hp => ?_, List.mem_cons_of_mem _ List.mem_cons_self, fun s' Hc hc sm pins => ?_⟩
    · rcases List.mem_cons.mp hp with rfl | hp
      · exact ⟨hoL, I1.free⟩
      rcases List.mem_cons.mp hp with rfl | hp
      · exact ⟨pag.1, pag.2.1⟩
      · rw [List.mem_singleton.mp hp]
        exact ⟨e1, p2⟩
    · rcases List.mem_cons.mp hp with rfl | hp
      · exact ⟨Nat.le_refl _, fun v q => by rw [hod] at q; cases q⟩
      rcases List.mem_cons.mp hp with rfl | hp
      · exact ⟨Nat.le_of_lt ok.agn, ok.goc⟩
      · rw [List.mem_singleton.mp hp]
        exact ⟨Nat.le_of_lt hit, itObj_nc⟩
    have I2 : Inv (G.X (cutS G.n0 s') Hc) [(it, GNX.itObj l (j + 1))] σ Hc s' := inv_back ok I1 (cp Hc s' hc) hoL pins fun p hp => by rw [List.mem_singleton.mp hp]; exact ⟨hit, itObj_nc⟩
    have e2 := (pins (it, GNX.itObj l (j + 1)) (List.mem_cons_of_mem _ (List.mem_cons_of_mem _ List.mem_cons_self))).1
    show Seg _ _ _ _ n s' _ (Builtin.Generator.sleptOver (.ref it) false >>= fun _ => _) fs s'
    refine seg_bind (wpAny_sleptOver e2 rfl (by decide) ?_)
    try dsimp only
    refine seg_bind (wpAny_pure ?_)
    exact seg_again (plainId_quiet plain_yf _) (ih (j + 1) n s' s' Hc Hc (by omega) (by omega) hc I2 (hst H Hc hL sm))
/-- the generator's body: layer = ..; while test: yield from e; layer = .. -/
theorem seg_body {B : Nat} {test e : Expr} {st1 st2 : Stmt} {L : Nat → List V → L2.St → Hp → Prop} {t1 : TS} {yp epos wpos : Pos} {mm : Nat} (S : GLoop G CP J JE B test e st2 L) (h1 : ∀ s0 H0, PS (G.X s0 H0) st1 t1) (hint : interactive G.env = false)
    {n : Nat} {s₀ : Shared} {Hp0 : Hp} {σ0 : L2.St} (hn : (mm + 1) * B ≤ n) (hcp : CP Hp0 s₀) (I0 : Inv (G.X (cutS G.n0 s₀) Hp0) [] σ0 Hp0 s₀) (hL : t1 { nx := fun σ H => ∃ m xs, m ≤ mm ∧ L m xs σ H, rt := fun _ _ => False } σ0 Hp0) :
    Seg (model G.P G.w) G.A (G.R CP JE) (G.Y CP J) n s₀ (.func [st1, .While test [.Expr (.YieldFrom e yp) epos, st2] [] wpos] G.env) ((model G.P G.w).den (.func [st1, .While test [.Expr (.YieldFrom e yp) epos, st2] [] wpos] G.env)) [] s₀ := by
  obtain ⟨tc, htc, rtc⟩ := S.test
  obtain ⟨te, lo, hte, rte⟩ := S.src
  obtain ⟨t2, ht2, rt2⟩ := S.step
  refine seg_func ?_
  refine seg_execs_cons (seg_wrap ?_)
  rw [over_func]
  refine wpAny_mono ((h1 _ _).run [] s₀ σ0 Hp0 _ I0 hL) (fun f s1 hs => ?_) fun x s' hx => False.elim hx
  cases f with
  | brk => obtain ⟨_, _, _, q⟩ := hs; exact q.elim
  | cont => obtain ⟨_, _, _, q⟩ := hs; exact q.elim
  | ret u => obtain ⟨_, _, _, _, _, q⟩ := hs; exact q.elim
  | next =>
  obtain ⟨σ1, H1, I1, m, xs, hm, hl⟩ := hs
  refine seg_execs_cons (seg_While fun p => ?_)
  generalize hfs : ([.ret _ none _ _ _ p []] : List Frame) = fs
  have hov : G.A.over (.whileLoop test [.Expr (.YieldFrom e yp) epos, st2] [] G.env) fs = G.A.deeper G.env := by
    rw [← hfs]
    exact (over_loop rfl rfl).trans over_func
  have over : ∀ (n : Nat) (s₀ s : Shared) (Hp0 H : Hp) (σ : L2.St), CP Hp0 s₀ → Inv (G.X (cutS G.n0 s₀) Hp0) [] σ H s → JE H →
      Seg (model G.P G.w) G.A (G.R CP JE) (G.Y CP J) n s₀ (.whileLoop test [.Expr (.YieldFrom e yp) epos, st2] [] G.env) ((execs [] G.env).wrap (fun f => .pure (.done f)) (fun e => (do noteFrame e G.env; theTreesLotGoes e : Sem Unit).wrap (fun _ => .raise e) .raise id id) id id) fs s := fun n s₀ s Hp0 H σ hc I hje => by
    refine seg_execs_nil ?_
    rw [← hfs]
    refine seg_leaf (.ok .next) ?_
    have pag := I.pin (G.ag, G.go) (List.mem_append_left _ (List.mem_singleton.mpr rfl))
    exact seg_end (.ok (.ret .none)) ⟨rfl, Hp0, H, hc, gout_of I, pag.1, pag.2.1, hje⟩
  have loop : ∀ (m n : Nat) (s₀ s : Shared) (Hp0 H : Hp) (xs : List V) (σ : L2.St), (m + 1) * B ≤ n → CP Hp0 s₀ → Inv (G.X (cutS G.n0 s₀) Hp0) [] σ H s → L m xs σ H →
      Seg (model G.P G.w) G.A (G.R CP JE) (G.Y CP J) n s₀ (.whileLoop test [.Expr (.YieldFrom e yp) epos, st2] [] G.env) ((model G.P G.w).den (.whileLoop test [.Expr (.YieldFrom e yp) epos, st2] [] G.env)) fs s := by
    intro m
    induction m with
    | zero =>
      intro n s₀ s Hp0 H xs σ hn hc I hl
      have ex := S.fin xs σ H hl
      subst ex
      refine seg_whileLoop ?_
      rw [hov]
      refine wpAny_mono (htc _ _ |>.run [] s σ H _ I (rtc 0 [] σ H hl)) (fun b s' hb => ?_) fun x s' hx => False.elim hx
      obtain ⟨H', I', rfl, rfl⟩ := hb
      rw [if_neg (by decide)]
      exact over n s₀ s' Hp0 _ σ hc I' (S.je _ _ _ _ hl)
    | succ m ih =>
      intro n s₀ s Hp0 H xs σ hn hc I hl
      refine seg_whileLoop ?_
      rw [hov]
      refine wpAny_mono (htc _ _ |>.run [] s σ H _ I (rtc (m + 1) xs σ H hl)) (fun b s' hb => ?_) fun x s' hx => False.elim hx
      obtain ⟨H', I', rfl, rfl⟩ := hb
      cases hx : xs.isEmpty with
      | true =>
        rw [if_neg (by decide)]
        exact over n s₀ s' Hp0 _ σ hc I' (S.je _ _ _ _ hl)
      | false =>
        rw [if_pos (by decide)]
        refine seg_execs_cons ?_
        rw [exec_Expr G.env _ epos hint rfl]
        generalize hJ : (fun e => (do noteFrame e G.env; theTreesLotGoes e : Sem Unit).wrap (fun _ => .raise e) .raise id id) = Jx
        show Seg _ _ _ _ n s₀ _ (.at epos fun _ => ((eval e G.env >>= fun v => (standAt yp >>= fun _ => yieldFrom G.env v)) >>= fun x => dropValue (.YieldFrom e yp) epos x).wrap _ Jx id id) fs s'
        refine seg_at ?_
        refine segw_bind2 ?_
        rw [hov]
        refine wpAny_mono ((hte _ _).run [] s' σ H' _ I' (rte (m + 1) xs σ H' hl).2) (fun v s1 hv => ?_) fun x s' hx => False.elim hx
        obtain ⟨x, H1, I1, rx, rfl, rfl⟩ := hv
        have hl1 := (rte (m + 1) xs σ H1 hl).1
        have hlo : ∀ H, L (m + 1) xs σ H → H (lo σ) = some (.lst xs) := fun H h => (rte (m + 1) xs σ H h).1
        generalize lo σ = l at rx hl1 hlo
        obtain rfl : v = Value.ref l := rx
        obtain ⟨its, c, rv, el, _⟩ := I1.lst hl1
        have hT : s1.TypeIs (.ref l) "list" := ⟨_, el, rfl⟩
        refine seg_at ?_
        show Seg _ _ _ _ n s₀ _ ((yieldFrom G.env (.ref l)).wrap (fun b => (dropValue (.YieldFrom e yp) epos b).wrap _ Jx id id) Jx id id) fs s1
        unfold yieldFrom
        refine seg_bind_wrap (wpAny_typeOf hT ?_)
        rw [if_neg (show ¬ ((Value.type "list" == Value.type "coroutine") = true) by decide)]
        refine seg_bind_wrap (wpAny_holding ?_)
        rw [hov]
        refine wpAny_pyIter_list (items := its.toArray) ⟨_, el, rfl, c, rfl⟩ ?_
        refine seg_call fun p => ?_
        have hlt : G.n0 < s1.heap.objs.size := I1.lt
        have kp : ∀ b o, s1.heap.get? b = some o → (s1.heap.push (GNX.itObj l 0)).get? b = some o := fun b o e => Heap.get?_push_of_some _ e
        have I2 : Inv (G.X (cutS G.n0 s₀) Hp0) [(s1.heap.objs.size, GNX.itObj l 0)] σ H1 { s1 with heap := s1.heap.push (GNX.itObj l 0) } := by
          refine (I1.kept (t' := s1.toks) kp).pins_of fun p hp => ?_
          rw [List.mem_singleton.mp hp]
          exact ⟨Heap.get?_push_size _ rfl, I1.hok.fresh (Nat.le_refl _), Nat.ne_of_gt hlt, fun hb => absurd (S.ok.fr _ hb) (Nat.not_lt.mpr (Nat.le_of_lt hlt)), itObj_nc⟩
        have hB := S.len (m + 1) xs σ H1 hl
        have hmul : (m + 1 + 1) * B = (m + 1) * B + B := by rw [Nat.add_mul (m + 1) 1, Nat.one_mul]
        refine seg_turns (l := l) (n1 := (m + 1) * B) (Lp := fun H => L (m + 1) xs σ H) S.ok S.cp hlt hlo (fun H Hc h sm => S.stay _ _ _ _ _ h sm) (fun H h => S.out _ _ _ _ h) ?_ ?_ ?_ (fun n' s₀' s'' Hp0' H' hn' hc' I' hl' => ?_) xs.length 0 n s₀ _ Hp0 H1 (Nat.zero_add _) (by omega) hc I2 hl
        · show (G.A.over (.whileLoop test [.Expr (.YieldFrom e yp) epos, st2] [] G.env) fs).handled = none
          rw [hov]; exact S.ok.hd
        · show (splitAtGen fs).map _ = none
          rw [← hfs]; rfl
        · show (false || fs.any Frame.guarded) = false
          rw [← hfs]; rfl
        · refine seg_leaf (.ok (.ret .none)) ?_
          show Seg _ _ _ _ n' s₀' _ ((execs [st2] G.env).wrap _ Jx id id) fs s''
          refine seg_execs_cons (seg_wrap ?_)
          rw [hov]
          refine wpAny_mono ((ht2 _ _).run [] s'' σ H' _ I' (rt2 m xs σ H' hl')) (fun f s3 hs => ?_) fun x s' hx => False.elim hx
          cases f with
          | brk => obtain ⟨_, _, _, q⟩ := hs; exact q.elim
          | cont => obtain ⟨_, _, _, q⟩ := hs; exact q.elim
          | ret u => obtain ⟨_, _, _, _, _, q⟩ := hs; exact q.elim
          | next =>
          obtain ⟨σ3, H3, I3, xs', hl3⟩ := hs
          refine seg_execs_nil ?_
          exact seg_again rfl (ih n' s₀' s3 Hp0' H3 xs' σ3 hn' hc' I3 hl3)
  exact loop m n s₀ s1 Hp0 H1 xs σ1 (Nat.le_trans (Nat.mul_le_mul_right _ (Nat.succ_le_succ hm)) hn) hcp I1 hl
end
end Lk

set_option maxHeartbeats 4000000
/-! next(generator), the loop over one. -/
namespace Lk
open PySem PySem.Spec PyProof.Rows L2 GenW
/-- it goes on, one yield less -/
def goesOn (M : Model) (A : Around) (R : GenEnd) (Y : Protocol) : Nat → GenState → Resume → Shared → Prop
  | 0 => fun _ _ _ => False
  | m + 1 => fun gs r s => gs.Goes M A R Y m r s
section
variable {M : Model}
theorem resume_susp {A : Around} {R : GenEnd} {Y : Protocol} {n : Nat} {E : Value → Shared → Prop} {s : Shared} {g : Nat} {gs : GenState} {r : Resume} {l : List Value} {α : Type} {k : GenResult → Sem α} {Q : α → Shared → Prop} (hg : s.gens[g]? = some gs)
    (go : gs.Goes M A R Y n r (s.setGen g .running)) (onEnd : ∀ x s₁, R n (s.setGen g .running) x s₁ → wpAny M A (k (End.ret x).result) Q E (s₁.setGen g .finished))
    (onItem : ∀ v s₁ k1 l1 c1 p1 fs1 cl1, (GenState.suspended k1 l1 c1 p1 fs1 cl1).bare = true → Y (n - 1) (s.setGen g .running) v s₁ (goesOn M A R Y n (.suspended k1 l1 c1 p1 fs1 cl1)) → wpAny M A (k (.yielded v)) Q E (s₁.setGen g (.suspended k1 l1 c1 p1 fs1 cl1))) :
    wpAny M A (.resume g r l k) Q E s := by
  intro Γ p hΓ
  rw [Sem.wp_resume]
  have fin : ∀ e₁ s₁, SegEnd R Y n (Seg.next M A R Y n) (s.setGen g .running) e₁ s₁ → Sem.wp M Γ (k e₁.result) (fun a _ s' => Q a s') (fun e _ s' => E e s') p (s₁.setGen g e₁.genState) ∧ e₁.quiet = true := fun e₁ s₁ he => by
    cases e₁ with
    | ret x => exact ⟨onEnd x s₁ he Γ p hΓ, rfl⟩
    | susp v g₀ l₀ k₀ c₀ p₀ fs₀ =>
      refine ⟨onItem v s₁ _ _ _ _ _ _ (End.bare_of_quiet he.1) ?_ Γ p hΓ, he.1⟩
      cases n with
      | zero => exact he.2
      | succ m => exact he.2
  cases gs with
  | running => exact go.elim
  | finished => exact go.elim
  | fresh c =>
    obtain ⟨rfl, hs⟩ := go
    obtain ⟨e₁, s₁, hr, he⟩ := seg_iff.mp hs (Γ.wake c p) p rfl (hΓ.wake c p)
    obtain ⟨f1, f2⟩ := fin e₁ s₁ he
    exact ⟨_, _, by unfold Wakes; rw [hg]; exact ⟨e₁, s₁, hr, f2, rfl, rfl⟩, f1⟩
  | suspended k₀ l₀ c₀ p₀ fs₀ cl =>
    obtain ⟨e₁, s₁, hr, he⟩ := seg_iff.mp go (Γ.wake c₀ p) p₀ rfl (hΓ.wake c₀ p)
    obtain ⟨f1, f2⟩ := fin e₁ s₁ he
    exact ⟨_, _, by unfold Wakes; rw [hg]; exact ⟨e₁, s₁, hr, f2, rfl, rfl⟩, f1⟩
end
section
variable {P : Program} {w : World} {A : Around} {E : Value → Shared → Prop} {s : Shared}
/-- next(g) -/
theorem next_susp {a : Addr} {g n : Nat} {gs : GenState} {F : Nat → Shared → Shared → Prop} {R : GenEnd} {Y : Protocol} {Q : Option Value → Shared → Prop} (hh : A.handled = none) (hl : s.heap.NoLimit) (room : A.depth < recursionLimit) (hg : s.heap.IsGen a g) (hgs : s.gens[g]? = some gs)
    (hR : ∀ n s₀ r s₁, R n s₀ r s₁ → r = .ok (.ret .none) ∧ F n s₀ s₁) (go : gs.Goes (model P w) A.in1 R Y n (.send .none) (s.setGen g .running))
    (onItem : ∀ v s₁ k1 l1 c1 p1 fs1 cl1, (GenState.suspended k1 l1 c1 p1 fs1 cl1).bare = true → Y (n - 1) (s.setGen g .running) v s₁ (goesOn (model P w) A.in1 R Y n (.suspended k1 l1 c1 p1 fs1 cl1)) → Q (some v) (s₁.setGen g (.suspended k1 l1 c1 p1 fs1 cl1)))
    (onEnd : ∀ s₁, F n (s.setGen g .running) s₁ → ∀ h', (∀ b o, s₁.heap.get? b = some o → h'.get? b = some o) → Q none { s₁.setGen g .finished with heap := h' }) : wpAny (model P w) A (pyNext (.ref a)) Q E s := by
  unfold pyNext
  refine wpAny_bind (wpAny_attempt (wpAny_callSpecial?_slot (name := Str.ofString "__next__") hg.typeIs slot_gen_next (wpAny_call_entry slot_gen_next hg.typeIs entry_gen_next (show wpAny _ A.in1 (Builtin.Generator.genWake (.ref a) (.send .none)) _ _ s from ?_) (args_gen_next _))))
  unfold Builtin.Generator.genWake
  refine wpAny_bind (wpAny_holding (wpAny_genNumber hg (wpAny_bind (wpAny_genState hgs ?_))))
  have rest : ∀ (k : GenResult → Sem PySem.Fin) (Q1 : PySem.Fin → Shared → Prop) (E1 : Value → Shared → Prop), (∀ x s₁, R n (s.setGen g .running) x s₁ → wpAny (model P w) A.in1 (k (End.ret x).result) Q1 E1 (s₁.setGen g .finished)) →
      (∀ (v : Value) (s₁ : Shared) k1 l1 c1 p1 fs1 cl1, Q (some v) (s₁.setGen g (.suspended k1 l1 c1 p1 fs1 cl1)) → wpAny (model P w) A.in1 (k (.yielded v)) Q1 E1 (s₁.setGen g (.suspended k1 l1 c1 p1 fs1 cl1))) → wpAny (model P w) A.in1 (.resume g (.send .none) [] k) Q1 E1 s := fun k Q1 E1 h1 h2 =>
    resume_susp hgs go h1 fun v s₁ k1 l1 c1 p1 fs1 cl1 hb hy => h2 v s₁ k1 l1 c1 p1 fs1 cl1 (onItem v s₁ k1 l1 c1 p1 fs1 cl1 hb hy)
  cases gs with
  | running => exact go.elim
  | finished => exact go.elim
  | _ =>
    refine wpAny_bind (wpAny_roomToWake hl room ?_)
    refine rest _ _ _ (fun x s₁ hx => ?_) (fun v s₁ k1 l1 c1 p1 fs1 cl1 hq => wpAny_pure ⟨v, rfl, wpAny_pure hq⟩)
    obtain ⟨rfl, hp⟩ := hR _ _ _ _ hx
    (show wpAny _ A.in1 (newExc (.type "StopIteration") [] >>= _) _ _ _; refine wpAny_bind ?_; simp only [newExc, newTuple])
    refine wpAny_bind (wpAny_newObj_type (wpAny_bind (m := firstArgMember _ _) (wpAny_of_eq (a := Value.none) (by first | rfl | (simp only [firstArgMember]; rfl)) ?_)) (by size_fits))
    (refine wpAny_newObj_type ?_ (by size_fits); simp only [raiseNew]; refine wpAny_bind (wpAny_bind (wpAny_handled ?_)))
    (first | rw [show A.in1.handled = none from hh] | rw [hh]); (refine wpAny_throw ?_)
    refine wpAny_bind (wpAny_isInstance (T := "StopIteration") (b := true) ⟨_, Heap.get?_push_size _ rfl, rfl⟩ isSubtype_stop (wpAny_pure ?_))
    exact onEnd s₁ hp _ fun b o hb => Heap.get?_push_of_some _ (Heap.get?_push_of_some _ hb)
end
end Lk

set_option maxHeartbeats 4000000
/-! for x in a generator that the loop's def made. -/
namespace Lk
open PySem PySem.Spec PyProof.Rows L2 GenW
/-- beside a sleeping generator, any code -/
theorem beside_wp {α : Type} {M : Model} {A : Around} {t : Sem α} {Q : α → Shared → Prop} {E : Value → Shared → Prop} {s : Shared} {g : Nat} {k l c p fs cl} (hg : s.gens[g]? = some (.suspended k l c p fs cl)) (h : wpAny M A t Q (fun _ _ => False) (killed s)) :
    wpAny M A t (fun a s' => s'.gens[g]? = some (.suspended k l c p fs cl) ∧ ∃ u, Sim s' u ∧ Q a u) E s := by
  have e : (killed s).gens[g]? = some (.suspended (fun _ => Sem.unsupported "") l c p fs cl) := by
    show (s.gens.map genKill)[g]? = _
    rw [Array.getElem?_map, hg]
    rfl
  refine wpAny_mono (wpAny_sim (sim_killed s) h) (fun a s' ⟨u, S, K, q⟩ => ⟨?_, u, S, q⟩) fun e s' ⟨u, _, _, q⟩ => q.elim
  rw [(K g _ e fun _ => rfl).2, hg]
theorem inv_gens {X : Cx} {pins : List (Addr × Obj)} {σ : L2.St} {H : Hp} {s : Shared} {g : Nat} {x : GenState} (I : Inv X pins σ H s) (hx : x.bare = true) : Inv X pins σ H (s.setGen g x) :=
  ⟨I.ok, I.os, allBare_setGen I.bare hx, I.base, I.loc, I.cell, I.free, I.freeC, I.pin, I.hok, I.len⟩
/-- the generator's parameters, made from the consumer's -/
def mkG (X : Cx) (N : List Str) (qual : Str) (scope : Scope) (f : Addr) (cd : Value) (n0 : Nat) (ag : Addr) (go : Obj) : Gn := ⟨X.prog, X.w, X.K, X.mg, X.base, N, qual, scope, f, cd, X.A.in1, X.stack, n0, ag, go⟩
section
variable {X : Cx} {N : List Str} {qual : Str} {scope : Scope} {f : Addr} {cd : Value} {n0 g : Nat} {ag : Addr} {go : Obj} {pins : List (Addr × Obj)}
/-- where the consumer stands to it -/
structure Apart2 (X : Cx) (pins : List (Addr × Obj)) (n0 : Nat) (ag : Addr) (go : Obj) (g : Nat) : Prop where
  lo : X.env.locals < n0
  agn : n0 < ag
  cell : ∀ x c, X.env.cells.lookup x = some c → c < n0
  fr : ∀ b ∈ X.fs, b < n0
  pin : ∀ p ∈ X.pn ++ pins, p.1 < n0 ∨ p.1 = ag
  mem : (ag, go) ∈ pins
  gen : ∀ h : Heap, h.get? ag = some go → h.IsGen ag g
  gc : go.cls = .type "generator"
  gd : ∃ vs, go.data = .fields vs
/-- the generator went on: the consumer's standing -/
theorem inv_forth (ap : Apart2 X pins n0 ag go g) {σ : L2.St} {Hp0 H1 : Hp} {s₀ s1 : Shared} (I : Inv X pins σ Hp0 s₀) (out : GOut (mkG X N qual scope f cd n0 ag go) Hp0 s₀ H1 s1) (e1 : s1.heap.get? ag = some go) (e2 : H1 ag = none) : Inv X pins σ H1 s1 := by
  have p0 := I.pin (ag, go) (List.mem_append_right _ ap.mem)
  have p01 : s₀.heap.get? ag = some go := p0.1
  have p02 : Hp0 ag = none := p0.2.1
  have un : Un (frs X.stack) [] Hp0 H1 (cutH n0 s₀.heap) s1.heap := out.un
  have small : X.s_0.heap.objs.size ≤ n0 := Nat.le_of_lt (Nat.lt_of_le_of_lt I.ok.above ap.lo)
  have low : ∀ {b : Addr} {o : Obj}, s₀.heap.get? b = some o → b ∉ ((List.range s₀.heap.objs.size).filter fun b => decide (n0 ≤ b ∧ b ≠ ag)) → b = ag ∨ (cutH n0 s₀.heap).get? b = some o := fun {b o} e hb => by
    by_cases c : b < n0
    · exact .inr (by rw [cut_get, if_pos c]; exact e)
    · refine .inl (Classical.byContradiction fun ne => hb ?_)
      exact List.mem_filter.mpr ⟨List.mem_range.mpr (Heap.lt_size e), decide_eq_true ⟨Nat.not_lt.mp c, ne⟩⟩
  refine I.call' (ch := (List.range s₀.heap.objs.size).filter fun b => decide (n0 ≤ b ∧ b ≠ ag)) out.os ⟨fun b o e n hb hx => ?_, fun b o e n hb hx => ?_, fun b o e n hx => ?_, fun b o e hx => ?_, un.tups, un.frzs, un.tbls⟩ out.hok out.bare fun b hb => ?_
  · rcases low e hx with z | z
    · subst z; rw [p01] at e; cases e; exact e1
    · exact un.keep b o z n hb (fun q => nomatch q)
  · rcases low e hx with z | z
    · subst z; rw [p01] at e; cases e; exact ⟨go.slots, e1⟩
    · exact un.slot b o z n hb (fun q => nomatch q)
  · rcases low e hx with z | z
    · rw [z]; exact e2
    · exact un.free b o z n (fun q => nomatch q)
  · rcases low e hx with z | z
    · subst z; exact ⟨go, e1⟩
    · exact un.there b o z (fun q => nomatch q)
  · obtain ⟨_, hb⟩ := List.mem_filter.mp hb
    obtain ⟨h1, h2⟩ := of_decide_eq_true hb
    refine ⟨.inr (Nat.le_trans small h1), fun z => ?_, fun x c e z => ?_, fun p hp z => ?_⟩
    · rw [z] at h1; exact absurd ap.lo (Nat.not_lt.mpr h1)
    · have := ap.cell x c e
      rw [z] at this; exact absurd this (Nat.not_lt.mpr h1)
    · rcases ap.pin p hp with q | q
      · rw [z] at q; exact absurd q (Nat.not_lt.mpr h1)
      · exact h2 (z.symm.trans q)
theorem loop_gen {tg : Expr} {body : List Stmt} {tG : TG} {tb : TS} {D : Ends} {CP : Hp → Shared → Prop} {J : V → Hp → Prop} {JE : Hp → Prop} {W : L2.St → Hp → Prop} (ap : Apart2 X pins n0 ag go g) (hc : X.calm = true) (dp : X.A.depth < recursionLimit) (hp : ∀ e s, ¬ X.xe e s) (hg : PG X tg tG) (hb : PSs X body tb)
    (hCP : ∀ H s, CP H s ↔ ∃ σ, Inv X pins σ H s ∧ W σ H)
    (step : ∀ σ Hp0 x H1, W σ Hp0 → J x H1 → tG x σ H1 fun σ2 H2 => tb { D with nx := fun σ' H' => W σ' H' ∧ Same H1 H', ct := fun σ' H' => W σ' H' ∧ Same H1 H', bk := D.nx } σ2 H2) (fin : ∀ σ Hp0 H1, W σ Hp0 → JE H1 → D.nx σ H1)
    {n : Nat} {σ : L2.St} {H : Hp} {s : Shared} {gs : GenState} (I : Inv X pins σ H s) (w0 : W σ H) (eg : s.gens[g]? = some gs) (hgo : gs.Goes (model X.prog X.w) X.A.in1 ((mkG X N qual scope f cd n0 ag go).R CP JE) ((mkG X N qual scope f cd n0 ag go).Y CP J) n (.send .none) (s.setGen g .running)) :
    codeAny (model X.prog X.w) X.A (.forLoop tg (.ref ag) body [] X.env) (fun r s' => match r with | .ok f => SP X pins D f s' | .error e => cameBackBy (model X.prog X.w) X.A X.env X.xe e s') s := by
  refine codeAny_forLoop_any (fun n s => ∃ σ H gs, Inv X pins σ H s ∧ W σ H ∧ s.gens[g]? = some gs ∧ gs.Goes (model X.prog X.w) X.A.in1 ((mkG X N qual scope f cd n0 ag go).R CP JE) ((mkG X N qual scope f cd n0 ag go).Y CP J) n (.send .none) (s.setGen g .running)) ?_ n ⟨σ, H, gs, I, w0, eg, hgo⟩
  rintro n s ⟨σ, H, gs, I, w0, eg, hgo⟩
  have hAg : s.heap.IsGen ag g := ap.gen _ (I.pin (ag, go) (List.mem_append_right _ ap.mem)).1
  refine wpAny_gsz (n := g + 1) (Array.getElem?_eq_some_iff.mp eg).1 ?_
  refine next_susp (I.ok.hd hc) I.nolimit dp hAg eg (F := fun _ s₀ s1 => ∃ (Hp0 H1 : Hp), CP Hp0 s₀ ∧ GOut (mkG X N qual scope f cd n0 ag go) Hp0 s₀ H1 s1 ∧ s1.heap.get? ag = some go ∧ H1 ag = none ∧ JE H1) (fun n s₀ r s1 h => h) hgo ?_ ?_
  · intro v s1 k1 l1 c1 p1 fs1 cl1 hbare hY
    obtain ⟨Hp0, x, H1, pl, hcp, rv, hJ, out, gp, gp2, mem, kap⟩ := hY
    obtain ⟨σ0, I0, wσ⟩ := (hCP Hp0 _).mp hcp
    have e1 : s1.heap.get? ag = some go := (gp (ag, go) mem).1
    have e2 : H1 ag = none := (gp (ag, go) mem).2
    have I1 := inv_forth ap I0 out e1 e2
    have I2 : Inv X (pins ++ pl) σ0 H1 s1 := I1.pins_of fun p hp => by
      rcases List.mem_append.mp hp with hp | hp
      · exact I1.pin p (List.mem_append_right _ hp)
      · obtain ⟨q1, q2⟩ := gp p hp
        obtain ⟨q3, q4⟩ := gp2 p hp
        have q3 : n0 ≤ p.1 := q3
        refine ⟨q1, q2, Nat.ne_of_gt (Nat.lt_of_lt_of_le ap.lo q3), fun hb => ?_, q4⟩
        exact absurd (ap.fr _ hb) (Nat.not_lt.mpr q3)
    intro hsz
    have hsz : g < s1.gens.size := by
      have q : (s1.setGen g (.suspended k1 l1 c1 p1 fs1 cl1)).gens.size = s1.gens.size := setGen_size _ _ _
      omega
    have I3 := inv_gens (g := g) I2 hbare
    have eg3 : (s1.setGen g (.suspended k1 l1 c1 p1 fs1 cl1)).gens[g]? = some (.suspended k1 l1 c1 p1 fs1 cl1) := setGen_at hsz
    obtain ⟨gvs, hgd⟩ := ap.gd
    have po : PassesOwn (model X.prog X.w) X.A X.env X.xe := fun e s' q => (hp e s' q).elim
    have noex : ∀ {α : Type} {t : Sem α} {Q : α → Shared → Prop} {s : Shared}, wpAny (model X.prog X.w) X.A t Q X.xe s → wpAny (model X.prog X.w) X.A t Q (fun _ _ => False) s := fun h => wpAny_mono h (fun _ _ q => q) fun e s' q => (hp e s' q).elim
    refine wpAny_passesOwn po (go_of (s := s1.setGen g (.suspended k1 l1 c1 p1 fs1 cl1)) (n := "generator") e1 ap.gc hgd (by decide) ?_)
    refine wpAny_passesOwn po (wpAny_mono (beside_wp eg3 (noex (hg.run _ _ σ0 H1 x v _ (inv_kill I3) rv (step σ0 Hp0 x H1 wσ hJ)))) (fun _ s2 ⟨eg2, u, S2, h2⟩ => ?_) fun _ _ q => q)
    obtain ⟨σ2, H2, Iu, q2⟩ := h2
    have I4 := inv_sim Iu S2
    refine wpAny_passesOwn po (wpAny_mono (beside hb I4 eg2 ⟨_, _, _, _, _, _, rfl⟩ q2) (fun fl s3 ⟨q3, eg4⟩ => ?_) fun e s3 ⟨u, _, q⟩ => (hp e u q).elim)
    have un : ∀ {σ H}, Inv X (pins ++ pl) σ H s3 → Inv X pins σ H s3 := fun J => J.pins_of fun p hp => J.pin p (List.mem_append_right _ (List.mem_append_left _ hp))
    have again : ∀ {σ7 H7}, Inv X (pins ++ pl) σ7 H7 s3 → W σ7 H7 → Same H1 H7 → ∃ m, m < n ∧ ∃ σ H gs, Inv X pins σ H s3 ∧ W σ H ∧ s3.gens[g]? = some gs ∧ gs.Goes (model X.prog X.w) X.A.in1 ((mkG X N qual scope f cd n0 ag go).R CP JE) ((mkG X N qual scope f cd n0 ag go).Y CP J) m (.send .none) (s3.setGen g .running) := fun {σ7 H7} J w7 sm => by
      have kp := kap (s3.setGen g .running) H7 ((hCP _ _).mpr ⟨σ7, inv_gens (un J) rfl, w7⟩) sm fun p hp => by
        have := J.pin p (List.mem_append_right _ (List.mem_append_right _ hp))
        exact ⟨this.1, this.2.1⟩
      cases n with
      | zero => exact kp.elim
      | succ m => exact ⟨m, Nat.lt_succ_self m, σ7, H7, _, un J, w7, eg4, kp⟩
    cases fl with
    | next => obtain ⟨σ7, H7, J, w7, sm⟩ := q3; exact again J w7 sm
    | cont => obtain ⟨σ7, H7, J, w7, sm⟩ := q3; exact again J w7 sm
    | brk => obtain ⟨σ7, H7, J, q7⟩ := q3; exact ⟨σ7, H7, un J, q7⟩
    | ret v => obtain ⟨x7, σ7, H7, J, r7, q7⟩ := q3; exact ⟨x7, σ7, H7, un J, r7, q7⟩
  · rintro s1 ⟨Hp0, H1, hcp, out, e1, e2, hje⟩ h' hk
    intro _
    obtain ⟨σ0, I0, wσ⟩ := (hCP Hp0 _).mp hcp
    have I1 := inv_gens (g := g) (x := .finished) (inv_forth ap I0 out e1 e2) rfl
    have I2 : Inv X pins σ0 H1 { s1.setGen g .finished with heap := h' } := I1.kept (t' := (s1.setGen g .finished).toks) hk
    exact wpAny_execs_nil ⟨σ0, H1, I2, fin σ0 Hp0 H1 wσ hje⟩
end
end Lk

set_option maxHeartbeats 4000000
/-! for .. in f(..): f a generator def. -/
namespace Lk
open PySem PySem.Spec PyProof.Rows L2 GenW
theorem cells_none : ∀ (l : List (Str × NameKind)) (n : Nat) (acc : List (Str × Addr)), (∀ y ∈ l, y.2 ≠ .cell ∧ y.2 ≠ .free) → cellsFrom n l acc = acc
  | [], _, _, _ => rfl
  | (x, k) :: r, n, acc, h => by
    have h1 : k ≠ .cell := (h (x, k) List.mem_cons_self).1
    have e : (k == NameKind.cell) = false := by cases k <;> first | rfl | exact absurd rfl h1
    unfold cellsFrom
    rw [e]
    exact cells_none r n acc fun y hy => h y (List.mem_cons_of_mem _ hy)
/-- what the whole loop's reading asks -/
def tForG (k : Nat) (N ps : List Str) (ta : TA) (t1 : TS) (tc : TT) (te : TE) (lo : L2.St → Addr) (t2 : TS) (tG : TG) (tb : TS) : TS := fun D σ H => ta σ H fun vs H1 => vs.length = ps.length ∧ ∃ (L : Nat → List V → L2.St → Hp → Prop) (J : V → Hp → Prop) (JE : Hp → Prop) (W : L2.St → Hp → Prop) (B mm : Nat),
  (mm + 1) * B ≤ k ∧ W σ H1 ∧ t1 { nx := fun σ' H' => ∃ m xs, m ≤ mm ∧ L m xs σ' H', rt := fun _ _ => False } (start N vs) H1 ∧
  (∀ m xs σ H, L m xs σ H → tc σ H fun b H' => H' = H ∧ b = !xs.isEmpty) ∧ (∀ m xs σ H, L m xs σ H → H (lo σ) = some (.lst xs) ∧ te σ H fun v H' => H' = H ∧ v = .ref (lo σ)) ∧
  (∀ m xs σ H Hc, L m xs σ H → Same H Hc → L m xs σ Hc) ∧ (∀ m xs σ H, L m xs σ H → ∀ x ∈ xs, J x H) ∧ (∀ xs σ H, L 0 xs σ H → xs = []) ∧ (∀ m xs σ H, L m xs σ H → JE H) ∧ (∀ m xs σ H, L m xs σ H → xs.length ≤ B) ∧
  (∀ m xs σ H, L (m + 1) xs σ H → t2 { nx := fun σ' H' => ∃ xs', L m xs' σ' H', rt := fun _ _ => False } σ H) ∧
  (∀ σ Hp0 x H1, W σ Hp0 → J x H1 → tG x σ H1 fun σ2 H2 => tb { D with nx := fun σ' H' => W σ' H' ∧ Same H1 H', ct := fun σ' H' => W σ' H' ∧ Same H1 H', bk := D.nx } σ2 H2) ∧ ∀ σ Hp0 H1, W σ Hp0 → JE H1 → D.nx σ H1
theorem ps_forGen {X : Cx} {k : Nat} {N ps : List Str} {x name qual : Str} {params : Arguments} {st1 st2 : Stmt} {test ee : Expr} {yp epos wpos p pos fpos : Pos} {scope : Scope} {f : Addr} {fd : FuncData} {tg e : Expr} {es : List Expr} {body : List Stmt}
    {ta : TA} {t1 : TS} {tc : TT} {te : TE} {lo : L2.St → Addr} {t2 : TS} {tG : TG} {tb : TS} (F : FunD X.K name qual params [st1, .While test [.Expr (.YieldFrom ee yp) epos, st2] [] wpos] scope [] [] f fd) (S : GScope N ps scope) (ncl : ∀ y ∈ scope.names, y.2 ≠ .cell ∧ y.2 ≠ .free)
    (hk : k ≤ sizeLine) (hc : X.calm = true) (dp : X.A.depth < recursionLimit) (hp : ∀ e s, ¬ X.xe e s) (hg : Gl X x) (hm : X.mg x = some (.ref f)) (hb : Binds X.K fd ps []) (ha : PA X (e :: es) ta) (hG : PG X tg tG) (hbd : PSs X body tb)
    (h1 : ∀ cd n0 ag go s0 H0, PS ((mkG X N qual scope f cd n0 ag go).X s0 H0) st1 t1) (htc : ∀ cd n0 ag go s0 H0, PT ((mkG X N qual scope f cd n0 ag go).X s0 H0) test tc) (hte : ∀ cd n0 ag go s0 H0, PE ((mkG X N qual scope f cd n0 ag go).X s0 H0) ee te) (h2 : ∀ cd n0 ag go s0 H0, PS ((mkG X N qual scope f cd n0 ag go).X s0 H0) st2 t2)
    (hint : ∀ n0 cd, interactive (envOfC qual scope n0 f cd) = false) (hdb : (x == ("__debug__" : Str)) = false := by decide) (he : starEach (e :: es) X.env = (false, eval e X.env) :: starEach es X.env := by rfl) (hpl : (backTo pos (starEach es X.env)).any (·.1) = false := by rfl)
    (hs : ∀ u, foldedSetIterable (.Call (.Name x p) (e :: es) [] pos) X.env u = pure u := by intro _; rfl) :
    PS X (.For tg (.Call (.Name x p) (e :: es) [] pos) body [] fpos) (tForG k N ps ta t1 tc te lo t2 tG tb) := by
  refine ⟨fun pins s σ H D I h => ?_⟩
  refine wpAny_For ?_ hs
  refine wpAny_Call_Name_kw (ld_glob I hg hm ?_ hdb)
  refine PySem.W.callWith_K (h₀ := X.base) I.ok.mod.kin F.kp (thn (ha.run pos pins s σ H _ I h) fun us s1 ⟨vs, H1, I1, r, q⟩ => ⟨I1.kIn, ?_⟩) he hpl
  obtain ⟨hl, L, J, JE, W, B, mm, hB, w0, q1, q2, q3, q4, q5, q6, q7, q8, q9, q10, q11⟩ := q
  obtain ⟨oc, od, dV, kV, doc, pm, an, cdv, ct, osl, rfl, lk, hcd, _, _⟩ := F.ex
  have hl2 : us.length = ps.length := by rw [← r.length]; exact hl
  have bt := hb s1 us I1.kIn (by rw [List.append_nil]; exact hl2)
  rw [List.append_nil] at bt
  have KX := I1.kIn
  refine wpAny_call ?_
  have hkind : ∀ y ∈ ps.zip us, scope.names.lookup y.1 = some .local ∨ (scope.names.lookup y.1 = some .cell ∧ ((cellsFrom (s1.heap.objs.size + 1) scope.names []).lookup y.1).isSome = true) := fun ⟨n, v⟩ hy => by
    rcases S.par n (List.of_mem_zip hy).1 with q | q
    · exact .inl q
    · exact .inr ⟨q, PySem.W.cellsFrom_some _ _ _ (.inl q)⟩
  refine codeAny_call_generator dp (KX _ _ lk) rfl S.co S.gen rfl (PySem.W.codeRec_of KX hcd) (bt _ _ _ _ ?_)
  refine wpAny_newFunctionEnv_cells S.kind hkind fun env he s2 xx => ?_
  subst he
  have sto : ∀ b ∈ frs X.stack, b < s1.heap.objs.size := fun b hbm => by
    rcases List.mem_cons.mp (I1.stkSub b hbm) with z | z
    · rw [z]; exact I1.lt
    · obtain ⟨_, o, e, _⟩ := I1.ok.funs.mem z
      exact Nat.lt_of_lt_of_le (Heap.lt_size e) I1.sz
  have e1 := I1.env0
  have Ig := inv_startG (E := fun _ _ _ => False) S (I1.ok.hd hc) e1 hl r xx
  have kp1 : ∀ b o, s1.heap.get? b = some o → s2.heap.get? b = some o := xx.toInCall.keep
  have lt1 : s1.heap.objs.size < s2.heap.objs.size := xx.toInCall.ns.lt
  obtain ⟨hd1, tk, es1, _⟩ := xx.done
  have os1 : s2.os = s1.os := by rw [es1]
  have gen1 : s2.gens = s1.gens := by rw [es1]
  have lim : s2.heap.NoLimit := I1.nolimit.keeps kp1
  refine ⟨lim, ?_⟩
  have main : ∀ (go : Obj) (nm qn : Value) (tk2 : Nat), go.cls = .type "generator" → go.data = .fields #[.int s2.gens.size 0, nm, qn] → go.slots = #[] → (∀ h : Heap, (h.push go).get? h.objs.size = some go) →
      wpAny (model X.prog X.w) X.A (pyIter (.ref s2.heap.objs.size)) (fun it s' => codeAny (model X.prog X.w) X.A (.forLoop tg it body [] X.env) (fun r s' => match r with | .ok f => SP X pins D f s' | .error e => cameBackBy (model X.prog X.w) X.A X.env X.xe e s') s') X.xe
        { s2 with gens := s2.gens.push (.fresh (.func [st1, .While test [.Expr (.YieldFrom ee yp) epos, st2] [] wpos] (envOfC qual scope s1.heap.objs.size f cdv))), toks := tk2, heap := s2.heap.push go } := by
    intro go nm qn tk2 hgc hgd hgs hgp
    have hgen : ∀ h : Heap, h.get? s2.heap.objs.size = some go → h.IsGen s2.heap.objs.size s2.gens.size := fun h e => ⟨go, nm, qn, e, hgc, hgd, hgs⟩
    have hag : (s2.heap.push go).get? s2.heap.objs.size = some go := hgp _
    generalize hs3 : ({ s2 with gens := s2.gens.push (.fresh (.func [st1, .While test [.Expr (.YieldFrom ee yp) epos, st2] [] wpos] (envOfC qual scope s1.heap.objs.size f cdv))), toks := tk2, heap := s2.heap.push go } : Shared) = s3
    have h3 : s3.heap = s2.heap.push go := by rw [← hs3]
    have g3 : s3.gens = s2.gens.push (.fresh (.func [st1, .While test [.Expr (.YieldFrom ee yp) epos, st2] [] wpos] (envOfC qual scope s1.heap.objs.size f cdv))) := by rw [← hs3]
    have o3 : s3.os = s2.os := by rw [← hs3]
    have kp3 : ∀ b o, s1.heap.get? b = some o → s3.heap.get? b = some o := fun b o e => by rw [h3]; exact Heap.get?_push_of_some _ (kp1 b o e)
    have b3 : AllBare s3.gens := by
      rw [g3, gen1]
      exact AllBare.push I1.bare rfl
    have I3 : Inv X pins σ H1 s3 := I1.call' (ch := []) (o3.trans os1) (Un.kept kp3) (I1.hok.kept kp3) b3 fun b z => (nomatch z)
    have hH : H1 s2.heap.objs.size = none := I1.hok.fresh (Nat.le_of_lt lt1)
    have hag3 : s3.heap.get? s2.heap.objs.size = some go := by rw [h3]; exact hag
    have hnc : ∀ v, go.data ≠ .cell v := fun v q => by rw [hgd] at q; cases q
    have hfr : s2.heap.objs.size ∉ X.fs := fun z => by
      obtain ⟨_, o, e, _⟩ := I1.ok.funs.mem z
      exact absurd (Nat.lt_of_lt_of_le (Heap.lt_size e) I1.sz) (Nat.not_lt.mpr (Nat.le_of_lt lt1))
    have I4 : Inv X ((s2.heap.objs.size, go) :: pins) σ H1 s3 := I3.pins_of fun p hp => by
      rcases List.mem_cons.mp hp with rfl | hp
      · exact ⟨hag3, hH, Nat.ne_of_gt (Nat.lt_trans I1.lt lt1), hfr, hnc⟩
      · exact I3.pin p (List.mem_append_right _ hp)
    have ap : Apart2 X ((s2.heap.objs.size, go) :: pins) s1.heap.objs.size s2.heap.objs.size go s2.gens.size := by
      refine ⟨I1.lt, lt1, fun y c hy => ?_, fun b hbm => ?_, fun p hp => ?_, List.mem_cons_self, hgen, hgc, ⟨_, hgd⟩⟩
      · obtain ⟨v, o, ho, _⟩ := I1.cell y c hy
        exact Heap.lt_size ho
      · obtain ⟨_, o, e, _⟩ := I1.ok.funs.mem hbm
        exact Nat.lt_of_lt_of_le (Heap.lt_size e) I1.sz
      · rcases List.mem_append.mp hp with hp | hp
        · exact .inl (Heap.lt_size (I1.pin p (List.mem_append_left _ hp)).1)
        · rcases List.mem_cons.mp hp with rfl | hp
          · exact .inr rfl
          · exact .inl (Heap.lt_size (I1.pin p (List.mem_append_right _ hp)).1)
    have eg : s3.gens[s2.gens.size]? = some (.fresh (.func [st1, .While test [.Expr (.YieldFrom ee yp) epos, st2] [] wpos] (envOfC qual scope s1.heap.objs.size f cdv))) := by
      rw [g3]
      exact Array.getElem?_push_size ..
    refine wpAny_pyIter_gen (g := s2.gens.size) (by rw [h3]; exact hgen _ hag) ?_
    have ncell : ∀ y, scope.names.lookup y ≠ some .cell ∧ scope.names.lookup y ≠ some .free := fun y => ⟨fun z => (ncl _ (PySem.mem_of_lookup z)).1 rfl, fun z => (ncl _ (PySem.mem_of_lookup z)).2 rfl⟩
    have okG : (mkG X N qual scope f cdv s1.heap.objs.size s2.heap.objs.size go).Ok := by
      refine ⟨S.kind, ?_, ncell, I1.ok.hd hc, sto, Nat.le_trans I1.ok.bsz I1.sz, lt1, hnc, hgc⟩
      show cellsFrom (s1.heap.objs.size + 1) scope.names [] = []
      exact cells_none _ _ _ ncl
    refine codeAny_mono (loop_gen (N := N) (qual := qual) (scope := scope) (f := f) (cd := cdv) (n0 := s1.heap.objs.size) (CP := fun Hc s' => ∃ σ, Inv X ((s2.heap.objs.size, go) :: pins) σ Hc s' ∧ W σ Hc) (J := J) (JE := JE) (W := W) (n := sizeLine) ap hc dp hp hG hbd (fun H s => Iff.rfl) q10 q11 I4 w0 eg ⟨rfl, ?_⟩) fun rr s' hq => ?_
    · have I5 := inv_gens (g := s2.gens.size) (x := .running) I4 rfl
      have env5 : ∀ {Hc : Hp} {s' : Shared} {σ' : L2.St}, Inv X ((s2.heap.objs.size, go) :: pins) σ' Hc s' → Env0 X.prog X.w X.K X.mg X.base X.A.in1 X.stack s' Hc := fun J => let e := J.env0; ⟨e.frames, e.mod, e.bs, e.bsz, e.funs, e.frf, e.hok, e.bare⟩
      obtain ⟨m0, ⟨oL, es, ep, hoL, hoD, r0⟩, hloc⟩ := id Ig.loc
      have hoL : s2.heap.get? s1.heap.objs.size = some oL := hoL
      refine seg_body (mm := mm) (B := B) (L := L) (G := mkG X N qual scope f cdv s1.heap.objs.size s2.heap.objs.size go) ⟨okG, fun Hc s' ⟨σ', J, _⟩ => env5 J, ⟨tc, htc _ _ _ _, q2⟩, ⟨te, lo, hte _ _ _ _, q3⟩, q4, q5, q6, q7, q8, ⟨t2, h2 _ _ _ _, q9⟩⟩ (h1 _ _ _ _) (hint _ _) (Nat.le_trans hB hk) ⟨σ, I5, w0⟩ (inv_wake okG ⟨Ig.loc, Ig.len⟩ (env5 I5) hoL (fun p hp => ?_) fun p hp => (nomatch hp)) q1
      rcases List.mem_cons.mp hp with rfl | hp
      · refine ⟨?_, Ig.free⟩
        show s3.heap.get? s1.heap.objs.size = some oL
        rw [h3]; exact Heap.get?_push_of_some _ hoL
      · rcases List.mem_cons.mp hp with rfl | hp
        · exact ⟨hag3, hH⟩
        · exact (nomatch hp)
    · cases rr with
      | error e => exact hq
      | ok fl =>
        have un : ∀ {σ H}, Inv X ((s2.heap.objs.size, go) :: pins) σ H s' → Inv X pins σ H s' := fun J => J.pins_of fun p hp => J.pin p (List.mem_append_right _ (List.mem_cons_of_mem _ hp))
        cases fl with
        | next => obtain ⟨σ7, H7, J, q⟩ := hq; exact ⟨σ7, H7, un J, q⟩
        | cont => obtain ⟨σ7, H7, J, q⟩ := hq; exact ⟨σ7, H7, un J, q⟩
        | brk => obtain ⟨σ7, H7, J, q⟩ := hq; exact ⟨σ7, H7, un J, q⟩
        | ret v => obtain ⟨x7, σ7, H7, J, r7, q⟩ := hq; exact ⟨x7, σ7, H7, un J, r7, q⟩
  exact main _ _ _ _ rfl rfl rfl fun h => Heap.get?_push_size _ rfl
end Lk

set_option maxHeartbeats 4000000
/-! A dict whose keys are pairs of a tuple of numbers and a text. -/
namespace Lk
open PySem PySem.Spec PyProof.Rows L2
abbrev NK := NestedKey × Addr × Value
/-- the dict at d holds the entries xs, whatever its keys' own tuples -/
def knO (P : Program) (w : World) (d : Addr) (xs : List NK) : HO := .ext fun h => (d == sysModules) = false ∧ ∃ o es ep, h.get? d = some o ∧ o.ExactDict ∧ o.data = .dict es ep ∧ es.toList = xs.map (entryOfKey (nestedKind P w)) ∧ (xs.map (·.1)).Nodup
def KeyAt (H : Hp) (k : NestedKey) (a : Addr) : Prop := ∃ (b : Addr) (dn : List Nat) (z : Str), k = .tup [.tup (dn.map fun d => .num (d : Nat)), .text z] ∧ H a = some (.tup [.ref b, .str z]) ∧ H b = some (.tup (dV dn))
theorem KeyAt.same {H H' : Hp} {k : NestedKey} {a : Addr} (h : KeyAt H k a) (e : ∀ b xs, H b = some (.tup xs) → H' b = some (.tup xs)) : KeyAt H' k a :=
  let ⟨b, dn, z, h1, h2, h3⟩ := h
  ⟨b, dn, z, h1, e _ _ h2, e _ _ h3⟩
def KnAt (P : Program) (w : World) (H : Hp) (d : Addr) (xs : List NK) : Prop := H d = some (knO P w d xs) ∧ ∀ x ∈ xs, KeyAt H x.1 x.2.1
theorem nums_all {h : Heap} : ∀ {dn : List Nat} {us : List Value}, Vals (dV dn) us → NestedAll h (dn.map fun d => .num (d : Nat)) us
  | [], us, r => by unfold dV at r; cases r; exact .nil
  | d :: dn, _, .cons hd tl => by
    obtain ⟨t, rfl⟩ := hd
    exact .cons (.int _ t) (nums_all tl)
theorem depth_nums : ∀ dn : List Nat, NestedKey.depthAll (dn.map fun d => NestedKey.num (d : Nat)) = 0
  | [] => rfl
  | d :: dn => by
    show max 0 (NestedKey.depthAll (dn.map _)) = 0
    rw [depth_nums dn]; rfl
theorem key_is {P : Program} {w : World} {H : Hp} {h : Heap} {k : NestedKey} {a : Addr} (ok : HOk P w H h) (e : KeyAt H k a) : (nestedKind P w).is h k a := by
  obtain ⟨b, dn, z, rfl, h1, h2⟩ := e
  obtain ⟨_, its, r, o, ho, hc, n, hd⟩ := (show ObjOk P w H h a (.tup [.ref b, .str z]) from ok a _ h1)
  obtain ⟨_, its2, r2, o2, ho2, hc2, n2, hd2⟩ := (show ObjOk P w H h b (.tup (dV dn)) from ok b _ h2)
  cases r with
  | cons ra r' =>
    cases r' with
    | cons rb r'' =>
      cases r''
      cases ra
      obtain ⟨t, rfl⟩ := rb
      refine ⟨.tup ho hc hd (.cons (.tup ho2 hc2 hd2 (by simpa using nums_all r2)) (.cons (.text z t) .nil)), ?_⟩
      show max (NestedKey.depthAll (dn.map fun d => NestedKey.num (d : Nat)) + 1) (max 0 0) + 1 ≤ 8
      rw [depth_nums]; decide
theorem kn_of {P : Program} {w : World} {H : Hp} {h : Heap} {d : Addr} {xs : List NK} (ok : HOk P w H h) (e : KnAt P w H d xs) : (d == sysModules) = false ∧ h.DictOfH (nestedKind P w) d xs := by
  obtain ⟨⟨hs, o, es, ep, h1, h2, h3, h4, h5⟩, _, _⟩ := (show ObjOk P w H h d (knO P w d xs) from ok d _ e.1)
  exact ⟨hs, o, es, ep, h1, h2, h3, h4, fun x hx => key_is ok (e.2 x hx), h5⟩
theorem kn_ok {P : Program} {w : World} {H : Hp} {h : Heap} {d : Addr} {xs : List NK} (hs : (d == sysModules) = false) (e : h.DictOfH (nestedKind P w) d xs) : ObjOk P w H h d (knO P w d xs) := by
  obtain ⟨o, es, ep, h1, h2, h3, h4, _, h5⟩ := e
  refine ⟨⟨hs, o, es, ep, h1, h2, h3, h4, h5⟩, ⟨o, h1⟩, fun ha hb ⟨q0, o', es', ep', q1, q⟩ k => ⟨q0, o', es', ep', k o' q1, q⟩⟩
def tNotInN (P : Program) (w : World) (ty td : TE) : TE := fun σ H Q => ty σ H fun y H1 => td σ H1 fun x H2 => ∃ (d a : Addr) (xs : List NK) (k : NestedKey), x = .ref d ∧ y = .ref a ∧ KnAt P w H2 d xs ∧ KeyAt H2 k a ∧ Q (.bl (!(atKey xs k).isSome)) H2
def tNewN (P : Program) (w : World) : TE := fun _ H Q => ∀ p, H p = none → Q (.ref p) (upd H p (knO P w p []))
def tPutN (P : Program) (w : World) (td ty : TE) : TS := fun D σ H => td σ H fun x H2 => ty σ H2 fun y H3 => ∃ (d a : Addr) (xs : List NK) (k : NestedKey), x = .ref d ∧ y = .ref a ∧ KnAt P w H3 d xs ∧ KeyAt H3 k a ∧ atKey xs k = none ∧ xs.length < sizeLine ∧ ∀ xs', xs'.length = xs.length + 1 → KnAt P w (upd H3 d (knO P w d xs')) d xs' → D.nx σ (upd H3 d (knO P w d xs'))
section
variable {X : Cx} {i o : Expr} {ty td : TE} {pos pos' : Pos}
theorem room_n {A : Around} (h : A.units + 16 < cLine) : (nestedKind X.prog X.w).room A.in1 := by
  show A.units + 1 + 8 < cLine
  omega
theorem pc_notinN (hu : X.A.units + 16 < cLine) (hi : PE X i ty) (ho : PE X o td) : PC X .NotIn i o (tNotInN X.prog X.w ty td) := by
  refine ⟨fun pins s σ H Q I h => ?_⟩
  refine thn (hi.run pins s σ H _ I h) fun iv s1 ⟨y, H1, I1, ry, q1⟩ => thn (ho.run pins s1 σ H1 _ I1 q1) fun u s2 ⟨x, H2, I2, rx, d, a, xs, k, ex, ey, kn, ka, q2⟩ => ?_
  subst ex ey
  obtain rfl : u = Value.ref d := rx
  obtain rfl : iv = Value.ref a := ry
  obtain ⟨hd, dd⟩ := kn_of I2.hok kn
  exact wpAny_notIn_heap (room_n hu) (key_is I2.hok ka) hd dd ⟨.bl (!(atKey xs k).isSome), H2, I2.tok _, rfl, q2⟩
theorem pe_dnewN : PE X (.Dict [] [] pos) (tNewN X.prog X.w) := ⟨fun pins s σ H Q I h => by
  have hs : (s.heap.objs.size == sysModules) = false := beq_eq_false_iff_ne.mpr (Ne.symm (Nat.ne_of_lt I.big))
  exact wpAny_Dict_empty ⟨.ref s.heap.objs.size, _, I.laid (a := s.heap.objs.size) (o := knO X.prog X.w s.heap.objs.size []) (t' := s.toks) (fun _ _ q => Heap.get?_push_of_some _ q) (Nat.le_refl _) (kn_ok hs (Heap.DictOfH.new s.heap)), rfl, h _ (I.hok.fresh (Nat.le_refl _))⟩⟩
theorem ps_putN (hu : X.A.units + 16 < cLine) (ho : PE X o td) (hi : PE X i ty) {c : Bool} {vp : Pos} {x1} (hs : swapsWith (.Constant (.bool c) x1 vp) (some (.Subscript o i pos')) pos.line X.env = pure false) : PS X (.Assign [.Subscript o i pos'] (.Constant (.bool c) x1 vp) pos) (tPutN X.prog X.w td ty) := by
  refine ⟨fun pins s σ H D I h => ?_⟩
  have hv : PE X (.Constant (.bool c) x1 vp) (tC (.bl c)) := pe_bl
  refine wpAny_Assign_Subscript (thn (hv.run pins s σ H (fun v H1 => v = .bl c ∧ H1 = H) I ⟨rfl, rfl⟩) fun r s1 ⟨v, H1, I1, rv, ev, eH⟩ => ?_) hs
  subst ev eH
  refine thn (ho.run pins s1 σ H1 _ I1 h) fun u s2 ⟨x, H2, I2, rx, q2⟩ => thn (hi.run pins s2 σ H2 _ I2 q2) fun iv s3 ⟨y, H3, I3, ry, d, a, xs, k, ex, ey, kn, ka, hno, hl, q3⟩ => ?_
  subst ex ey
  obtain rfl : u = Value.ref d := rx
  obtain rfl : iv = Value.ref a := ry
  obtain ⟨hd, dd⟩ := kn_of I3.hok kn
  refine wpAny_setItem_heap (hsz := Nat.le_of_lt hl) (room_n hu) (key_is I3.hok ka) dd fun h' dd' hs' => ?_
  rw [storedH_new hno] at dd'
  have he : ∃ q, h'.get? d = some q := let ⟨q, _, _, hq, _⟩ := dd'; ⟨q, hq⟩
  have tups : ∀ b ys, H3 b = some (.tup ys) → upd H3 d (knO X.prog X.w d (xs ++ [(k, a, r)])) b = some (.tup ys) := fun b ys e => by
    have ne : b ≠ d := fun z => by rw [z, kn.1] at e; cases e
    rw [upd_ne ne]; exact e
  have J := d_write (t' := s3.toks + (nestedKind X.prog X.w).draws k) I3 (ob := knO X.prog X.w d (xs ++ [(k, a, r)])) (by rw [kn.1]; exact True.intro) hs' he (kn_ok hd dd')
  refine ⟨σ, _, J, q3 (xs ++ [(k, a, r)]) (by simp) ⟨upd_same, fun x hx => ?_⟩⟩
  rcases List.mem_append.mp hx with hx | hx
  · exact (kn.2 x hx).same tups
  · rw [List.mem_singleton.mp hx]; exact ka.same tups
end
end Lk

set_option maxHeartbeats 4000000
/-! a tuple times a number: nought, one. -/
namespace Lk
open PySem PySem.Spec PyProof.Rows L2
theorem mul_one_ (l : Addr) (items : Array Value) (n : Nat) (dd : Option Addr) (sl : Array (Option Value)) (u : Tok) :
    Meets (Builtin.«tuple.__mul__» ⟨[.ref l, .int 1 u], []⟩) (fun _ R s => s.heap.get? l = some { cls := .type "tuple", dict := dd, data := .seq items n, slots := sl } ∧ R (.ok (.ret (Value.ref l))) s) :=
  .of_wp fun prog w A R s h => by
    obtain ⟨hp, g, d, tk, os⟩ := s
    obtain ⟨hl, h⟩ := h
    have f1 := AutoSeq1.idx_int
    wp_walk using wpAny_loadPart' hl
    exact ⟨_, rfl, h⟩
theorem mul_zero_ (l : Addr) (items : Array Value) (hne : items.isEmpty = false) (n : Nat) (dd : Option Addr) (sl : Array (Option Value)) (u : Tok) :
    Meets (Builtin.«tuple.__mul__» ⟨[.ref l, .int 0 u], []⟩) (fun _ R s => s.heap.get? l = some { cls := .type "tuple", dict := dd, data := .seq items n, slots := sl } ∧
      R (.ok (.ret (Value.ref s.heap.objs.size))) { s with heap := s.heap.push { cls := Value.type "tuple", data := Data.seq #[] } }) :=
  .of_wp fun prog w A R s h => by
    obtain ⟨hp, g, d, tk, os⟩ := s
    obtain ⟨hl, h⟩ := h
    have f1 := AutoSeq1.idx_int
    wp_walk using wpAny_loadPart' hl
    exact ⟨_, rfl, h⟩
/-- a tuple, not empty, times a small number that isn't negative -/
def rRepA : R2 := fun x y H Q => ∃ (l : Addr) (k : Nat) (xs : List V), x = .ref l ∧ y = .int (k : Nat) ∧ H l = some (.tup xs) ∧ xs ≠ [] ∧ k ≤ 1000 ∧ xs.length ≤ 1000 ∧ ∀ p H', Same H H' → H' p = some (.tup (List.replicate k xs).flatten) → Q (.ref p) H'
theorem op_repA {X : Cx} : OpR X (binaryOp .Mult) rRepA := by
  intro pins s σ H x y v u Q I rx ry h
  obtain ⟨l, k, xs, rfl, rfl, hT, hne, h1, hz, q⟩ := h
  by_cases c : 2 ≤ k
  · refine op_repT pins s σ H _ _ _ _ Q I rx ry ⟨l, (k : Nat), xs, rfl, rfl, SqT.of hT, hne, by omega, by omega, hz, fun p hp => ?_⟩
    exact q p _ (Same.new hp) (by rw [upd_same, Int.toNat_natCast])
  cases rx
  obtain ⟨t, rfl⟩ := ry
  obtain ⟨its, r, ⟨⟨cls, dd, data, sl⟩, ho, hc, n, hd⟩, hs⟩ := I.tuple (SqT.of hT)
  simp only at hc hd
  subst hc hd
  have hle : its.length = xs.length := r.length.symm
  have hi : its.toArray.isEmpty = false := by
    cases its with
    | nil => exact absurd (List.eq_nil_of_length_eq_zero hle.symm) hne
    | cons a b => rfl
  rcases (show k = 0 ∨ k = 1 by omega) with rfl | rfl
  · refine wpAny_binaryOp_repeat_ref (T := "tuple") (U := "int") (by decide) ⟨_, ho, rfl⟩ (fun s' => typeIs_int s' _ t) noFill_tuple_mul F.fills_int_mul F.slot_int_rmul repeat_tuple F.slot_int_index.lookup
      (call_meets F.slot_int_rmul (typeIs_int s _ t) F.entry_int_rmul (F.args_int_rmul_2 _ _) (int_rmul_tuple _ t l its.toArray n dd sl)
        ⟨ho, rfl, ⟨_, ho, rfl⟩, call_meets F.slot_tuple_mul ⟨_, ho, rfl⟩ F.entry_tuple_mul (F.args_tuple_mul_2 _ _) (mul_zero_ l its.toArray hi n dd sl t) ⟨ho, ?_⟩⟩)
    refine ⟨.ref s.heap.objs.size, _, I.laid (t' := s.toks) (o := .tup []) (fun b ob q => Heap.get?_push_of_some _ q) (Nat.le_refl _) ⟨Nat.zero_le _, [], .nil, IsTup.new _ _⟩, rfl, q _ _ (Same.new (I.hok.fresh (Nat.le_refl _))) (by rw [upd_same]; rfl)⟩
  · refine wpAny_binaryOp_repeat_ref (T := "tuple") (U := "int") (by decide) ⟨_, ho, rfl⟩ (fun s' => typeIs_int s' _ t) noFill_tuple_mul F.fills_int_mul F.slot_int_rmul repeat_tuple F.slot_int_index.lookup
      (call_meets F.slot_int_rmul (typeIs_int s _ t) F.entry_int_rmul (F.args_int_rmul_2 _ _) (int_rmul_tuple _ t l its.toArray n dd sl)
        ⟨ho, rfl, ⟨_, ho, rfl⟩, call_meets F.slot_tuple_mul ⟨_, ho, rfl⟩ F.entry_tuple_mul (F.args_tuple_mul_2 _ _) (mul_one_ l its.toArray n dd sl t) ⟨ho, ?_⟩⟩)
    exact ⟨.ref l, H, I, rfl, q l H (Same.refl H) (by rw [hT]; simp)⟩
end Lk

set_option maxHeartbeats 4000000
/-! schedules.py: advanced, moment_after. -/
namespace Lk
open PySem PySem.Spec PyProof.Rows L2
theorem dV_append (a b : List Nat) : dV (a ++ b) = dV a ++ dV b := by unfold dV; rw [List.map_append]
theorem cut_take {dn : List Nat} {i : Nat} (h : i ≤ dn.length) : cutV (dV dn) none (some (i : Nat)) = dV (dn.take i) := by
  unfold cutV
  rw [HT.sIx_none, HT.sIx_nat, dV_len, Nat.min_eq_left h, Nat.sub_zero, List.drop_zero]
  unfold dV
  rw [List.map_take]
theorem cut_drop {dn : List Nat} {i : Nat} (h : i ≤ dn.length) : cutV (dV dn) (some (i : Nat)) none = dV (dn.drop i) := by
  unfold cutV
  rw [HT.sIx_none, HT.sIx_nat, dV_len, Nat.min_eq_left h]
  have : (List.drop i (dV dn)).length = dn.length - i := by rw [List.length_drop, dV_len]
  rw [← this, List.take_length]
  unfold dV
  rw [List.map_drop]
theorem adv_cut {dn : List Nat} {i d : Nat} (h : dn[i]? = some d) : adv dn i = dn.take i ++ (d + 1) :: dn.drop (i + 1) := by
  have hi := (List.getElem?_eq_some_iff.mp h).1
  unfold adv
  rw [List.getD_eq_getElem?_getD, h, List.set_eq_take_append_cons_drop, if_pos hi]
  rfl
def spAdv (K : PySem.W.Frag) : Sp := fun vs H Q _ => ∃ (q : Addr) (dn : List Nat) (i d : Nat), vs = [.ref q, .int (i : Nat)] ∧ H q = some (.tup (dV dn)) ∧ dn[i]? = some d ∧ dn.length ≤ 1000 ∧ ∀ H' p, Same H H' → H' p = some (.tup (dV (adv dn i))) → Q (.ref p) H'
/-- a moment stands at t -/
structure MomAt (K : PySem.W.Frag) (H : Hp) (t sc q p : Addr) (n : Nat) (s : Sg) (dn o : List Nat) : Prop where
  ob : H t = some (.tup [.ref sc, .ref q, .ref p])
  so : H sc = some (.lst (dV o))
  qo : H q = some (.tup (dV dn))
  lk : LkS (CL K) H p n s
theorem MomAt.same {K : PySem.W.Frag} {H H' : Hp} {t sc q p : Addr} {n : Nat} {s : Sg} {dn o : List Nat} (h : MomAt K H t sc q p n s dn o) (e : Same H H') : MomAt K H' t sc q p n s dn o := ⟨e _ _ h.ob, e _ _ h.so, e _ _ h.qo, h.lk.same e⟩
def spMA (K : PySem.W.Frag) : Sp := fun vs H Q _ => ∃ (pl t sc q p : Addr) (i : Nat) (as : List Addr) (ps : List (List Int)) (n : Nat) (s : Sg) (dn o : List Nat) (op : Int), vs = [.ref pl, .ref t, .int (i : Nat)] ∧ PgAt H pl as ps ∧ MomAt K H t sc q p n s dn o ∧ n ≤ 60 ∧ Wf n s ∧ Ln n ps s dn ∧ Lg n ps ∧ opAt ps dn i = some op ∧ dn.length ≤ 1000 ∧ o.length ≤ 1000000 ∧
  ∀ H' t' sc' q' p', Same H H' → (∀ Hm : Hp, (∀ b ob, H' b = some ob → (H b = none ∨ ∃ ys, ob = HO.tup ys) → Hm b = some ob) → MomAt K Hm t' sc' q' p' n (s.app op) (adv dn i) (o ++ [i])) → Q (.ref t') H'
section
variable {P : Program} {w : World} {K : PySem.W.Frag} {mg : Str → Option Value} {base : Heap}
theorem ok_advanced (T : Top K mg) : FnOk P w K mg base CX0 1 (He.fAd K ("advanced", none)) (fdOf K ("advanced", none)) ["positions", "session"] (spAdv K) := by
  refine fd_ok T.d_advanced sc_advanced (fun vs H Q E h => ?_) (fun cdv A outer s H vs Q E hr h => ?_)
  · obtain ⟨q, dn, i, d, rfl, _⟩ := h
    rfl
  · obtain ⟨q, dn, i, d, rfl, hq, hd, hl, k⟩ := h
    have hi := (List.getElem?_eq_some_iff.mp hd).1
    refine ⟨_, pss_one (ps_ret (pe_tup (StX.pa_star (pe_slice sl_tup (pv 0) po_none (po_some (pv 1))) (pa_cons (pe_op op_add (pe_ix ix_tup (pv 0) (pv 1) (fun _ _ => rfl)) pe_int) (StX.pa_star (pe_slice sl_tup (pv 0) (po_some (pe_op op_add (pv 1) pe_int)) po_none) pa_nil))))), ?_⟩
    refine ⟨_, rfl, _, rfl, _, rfl, q, _, rfl, SqT.of hq, fun z => ?_, fun a ha => ?_⟩
    · have z := z.2
      rw [HT.sIx_nat, dV_len] at z
      omega
    have s1 : ∀ o, Same H (upd H a o) := fun _ => Same.new ha
    refine ⟨a, _, rfl, .inl (SqT.of upd_same), ?_⟩
    refine ⟨_, rfl, _, rfl, q, _, _, _, rfl, rfl, SqT.of (s1 _ _ _ hq), dV_at hd, _, _, rfl, rfl, ?_⟩
    refine ⟨_, rfl, _, rfl, _, _, rfl, rfl, _, rfl, q, _, rfl, SqT.of (s1 _ _ _ hq), fun z => ?_, fun b hb => ?_⟩
    · have z := z.1
      rw [show ((i : Int) + 1) = ((i + 1 : Nat) : Int) by omega, HT.sIx_nat, dV_len] at z
      omega
    have s2 := (s1 _).trans (Same.new (o := .tup (cutV (dV dn) (some ((i : Int) + 1)) none)) hb)
    refine ⟨b, _, rfl, .inl (SqT.of upd_same), ?_⟩
    have e : cutV (dV dn) none (some (i : Nat)) ++ (V.int ((d : Int) + 1) :: (cutV (dV dn) (some ((i : Int) + 1)) none ++ [])) = dV (adv dn i) := by
      rw [cut_take (Nat.le_of_lt hi), show ((i : Int) + 1) = ((i + 1 : Nat) : Int) by omega, cut_drop hi, adv_cut hd, dV_append, List.append_nil]
      rfl
    have el : (adv dn i).length ≤ 1000 := by unfold adv; rw [List.length_set]; exact hl
    refine ⟨?_, fun p hp => ?_⟩
    · rw [e, dV_len, sizeLine_eq]; omega
    · exact k _ p (s2.trans (Same.new hp)) (by rw [upd_same, e])
theorem ok_moment_after (T : TopY P K mg) : FnOk P w K mg base CX0 8 (He.fAd K ("moment_after", none)) (fdOf K ("moment_after", none)) ["programs", "moment", "session"] (spMA K) := by
  refine fd_ok T.d_moment_after sc_moment_after (fun vs H Q E h => ?_) (fun cdv A outer s H vs Q E hr h => ?_)
  · obtain ⟨pl, t, sc, q, p, i, as, ps, n, s, dn, o, op, rfl, _⟩ := h
    rfl
  · obtain ⟨pl, t, sc, q, p, i, as, ps, n, sg, dn, o, op, rfl, PG, M, hn, W, L, G, hop, hdl, hol, k⟩ := h
    have nd := sc_moment_after.nd
    have hr1 : Room 1 _ := hr.mono (by decide)
    have hr3 : Room 3 _ := hr.mono (by decide)
    refine ⟨_, pss_cons (ps_asg (pv 1) (pg_tup rfl (pgs_cons (pg_name (i := 3) nd rfl (Or.inl rfl)) (pgs_cons (pg_name (i := 4) nd rfl (Or.inl rfl)) (pgs_cons (pg_name (i := 5) nd rfl (Or.inl rfl)) pgs_nil)))))
      (pss_cons (ps_set (i := 6) nd rfl (Or.inl rfl) (pe_meth0 (pv 5) T.c_Links T.m_copy (ok_copy T) hr (b_Links_copy T.toTop) .nil pass0))
      (pss_cons (ps_expr (pe_meth (pv 6) T.c_Links T.m_apply (ok_apply T.toTop) hr3 (b_Links_apply T.toTop) .nil pass0 (pa_cons (pe_call (ok_next_operation T.toTop) hr1 rfl T.g_next_operation T.d_next_operation.kp (b_next_operation T.toTop) .nil pass0 (pa_cons (pv 0) (pa_cons (pv 4) (pa_cons (pv 2) pa_nil)))) pa_nil)))
      (pss_one (ps_ret (pe_tup (pa_cons (pe_lst (StX.pa_star (pv 3) (pa_cons (pv 2) pa_nil))) (pa_cons (pe_call (ok_advanced T.toTop) hr1 rfl T.g_advanced T.d_advanced.kp (b_advanced T.toTop) .nil pass0 (pa_cons (pv 4) (pa_cons (pv 2) pa_nil))) (pa_cons (pv 6) pa_nil)))))))), ?_⟩
    refine ⟨_, rfl, t, _, rfl, SqT.of M.ob, rfl, _, _, rfl, _, _, rfl, _, _, rfl, rfl, ?_⟩
    obtain ⟨dx0, l0, r0, f0, S0⟩ := id M.lk
    refine ⟨_, rfl, p, dx0, _, rfl, S0.ob, lfno (by decide +kernel), p, n, sg, rfl, hn, M.lk, fun H1 p' s1 ⟨dx, aL, aR, aF, S1, zp, zL, zR, zF⟩ => ?_⟩
    refine ⟨_, rfl, p', dx, _, rfl, S1.ob, lfno (by decide +kernel), ?_⟩
    refine ⟨_, rfl, _, rfl, _, rfl, pl, q, i, as, ps, dn, op, rfl, PG.same s1, .inr (SqT.of (s1 _ _ M.qo)), hop, ?_⟩
    refine ⟨p', dx, aL, aR, aF, n, sg, op, rfl, S1, W, Ln.isop G hop, L.legal G hop, fun H2 S2 k2 => ?_⟩
    have s2 : Same H H2 := fun b ob e => k2 b ob (s1 _ _ e) (ne_of_none e zL) (ne_of_none e zR) (ne_of_none e zF)
    obtain ⟨pp, d, e1, e2, e3⟩ := opAt_some hop
    refine ⟨_, rfl, sc, _, rfl, .inr (SqL.of (s2 _ _ M.so)), _, rfl, ?_, fun sc' hsc' => ?_⟩
    · rw [sizeLine_eq]
      show (dV o ++ [V.int (i : Nat)]).length ≤ _
      rw [List.length_append, dV_len]
      show o.length + 1 ≤ _
      omega
    have s3 : ∀ ob, Same H2 (upd H2 sc' ob) := fun _ => Same.new hsc'
    refine ⟨_, rfl, _, rfl, q, dn, i, d, rfl, (s2.trans (s3 _)) _ _ M.qo, e2, hdl, fun H3 q' s4 hq' => ?_⟩
    refine ⟨_, rfl, (by show 3 ≤ sizeLine; decide), fun t' ht' => ?_⟩
    have s5 := (s2.trans (s3 _)).trans s4
    have s6 : ∀ ob, Same H3 (upd H3 t' ob) := fun _ => Same.new ht'
    have S3 := (S2.same (s3 (.lst (dV o ++ [V.int (i : Nat)])))).same (s4.trans (s6 (.tup [.ref sc', .ref q', .ref p'])))
    refine k _ t' sc' q' p' (s5.trans (s6 _)) fun Hm hm => ⟨hm _ _ upd_same (.inl (s5.free ht')), hm sc' _ (s6 _ _ _ (s4 _ _ ?_)) (.inl (s2.free hsc')), hm q' _ (s6 _ _ _ hq') (.inr ⟨_, rfl⟩), dx, aL, aR, aF, hm _ _ S3.ob (.inl zp), hm _ _ S3.l (.inl zL), hm _ _ S3.r (.inl zR), hm _ _ S3.f (.inl zF), S3.lr, S3.lf, S3.rf⟩
    rw [upd_same, dV_append]
    rfl
end
end Lk

set_option maxHeartbeats 4000000
/-! later_layer. -/
namespace Lk
open PySem PySem.Spec PyProof.Rows L2
/-- a moment with r operations to come -/
def MomI (K : PySem.W.Frag) (n : Nat) (ps : List (List Int)) (m : Md) (tot r : Nat) (H : Hp) (x : V) : Prop := ∃ (t sc q p : Addr) (s : Sg) (dn o : List Nat), x = .ref t ∧ MomAt K H t sc q p n s dn o ∧ RI n ps m s dn ∧ Sm s ∧ rem ps dn = r ∧ o.length + r = tot
theorem MomI.same {K : PySem.W.Frag} {n : Nat} {ps : List (List Int)} {m : Md} {tot r : Nat} {H H' : Hp} {x : V} (h : MomI K n ps m tot r H x) (e : Same H H') : MomI K n ps m tot r H' x :=
  let ⟨t, sc, q, p, s, dn, o, h1, h2, h3⟩ := h
  ⟨t, sc, q, p, s, dn, o, h1, h2.same e, h3⟩
/-- the heap without what stands at a and c -/
def mask (a c : Addr) (H : Hp) : Hp := fun b => if b = a ∨ b = c then none else H b
theorem mask_some {a c : Addr} {H : Hp} {b : Addr} {o : HO} (h : mask a c H b = some o) : H b = some o ∧ b ≠ a ∧ b ≠ c := by
  unfold mask at h
  split at h
  · cases h
  · rename_i n
    exact ⟨h, fun z => n (.inl z), fun z => n (.inr z)⟩
theorem mask_of {a c : Addr} {H : Hp} {b : Addr} {o : HO} (h : H b = some o) (h1 : b ≠ a) (h2 : b ≠ c) : mask a c H b = some o := by
  unfold mask
  rw [if_neg (fun z => z.elim h1 h2)]
  exact h
theorem mask_full {a c : Addr} {H : Hp} : Same (mask a c H) H := fun b o e => (mask_some e).1
theorem mask_same {a c : Addr} {H H' : Hp} (h : Same H H') : Same (mask a c H) (mask a c H') := fun b o e => by
  obtain ⟨q, h1, h2⟩ := mask_some e
  exact mask_of (h b o q) h1 h2
theorem mask_upd1 {a c : Addr} {H : Hp} {o : HO} : mask a c (upd H a o) = mask a c H := by
  funext b
  unfold mask
  split
  · rfl
  · rename_i n
    rw [upd_ne (fun z => n (.inl z))]
theorem mask_upd2 {a c : Addr} {H : Hp} {o : HO} : mask a c (upd H c o) = mask a c H := by
  funext b
  unfold mask
  split
  · rfl
  · rename_i n
    rw [upd_ne (fun z => n (.inr z))]
/-- how many programs aren't empty -/
def full (ps : List (List Int)) : Nat := (ps.filter fun p => decide (p ≠ [])).length
theorem range_get {α : Type} (d : α) : ∀ l : List α, (List.range l.length).map (fun i => l.getD i d) = l
  | [] => rfl
  | a :: l => by
    rw [List.length_cons, List.range_succ_eq_map, List.map_cons, List.map_map]
    have := range_get d l
    congr 1
theorem full_range (ps : List (List Int)) : ((List.range ps.length).filter fun i => decide (ps.getD i [] ≠ [])).length = full ps := by
  unfold full
  conv => rhs; rw [← range_get [] ps, List.filter_map, List.length_map]
  rfl
theorem rdy_full {ps : List (List Int)} {s : Sg} {dn : List Nat} {m : Md} : (rdy ps s dn m).length ≤ full ps := by
  rw [← full_range, rdy_eq]
  have : ∀ l : List Nat, (l.filter (okAt ps s dn m)).length ≤ (l.filter fun i => decide (ps.getD i [] ≠ [])).length := by
    intro l
    induction l with
    | nil => exact Nat.le_refl _
    | cons i l ih =>
      rw [List.filter_cons, List.filter_cons]
      by_cases h : okAt ps s dn m i = true
      · have h2 : decide (ps.getD i [] ≠ []) = true := by
          unfold okAt at h
          cases e : opAt ps dn i with
          | none => rw [e] at h; cases h
          | some op =>
            obtain ⟨p, d, h1, _, h3⟩ := opAt_some e
            refine decide_eq_true ?_
            rw [List.getD_eq_getElem?_getD, h1]
            intro z
            have z : p = [] := z
            rw [z] at h3; simp at h3
        rw [if_pos h, if_pos h2, List.length_cons, List.length_cons]
        omega
      · rw [if_neg h]
        split
        · rw [List.length_cons]; omega
        · exact ih
  exact this _
theorem at1 {a b c : V} : atI [a, b, c] 1 = some b := atI_nat (j := 1) rfl
theorem at2 {a b c : V} : atI [a, b, c] 2 = some c := atI_nat (j := 2) rfl
def spLater (K : PySem.W.Frag) : Sp := fun vs H Q _ => ∃ (pl ly : Addr) (m : Md) (as : List Addr) (ps : List (List Int)) (n tot r c : Nat) (xs : List V), vs = [.ref pl, .ref ly, .str (mdS m)] ∧ PgAt H pl as ps ∧ ps.length ≤ 1000 ∧ n ≤ 60 ∧ Lg n ps ∧ tot ≤ 1000000 ∧ full ps ≤ c ∧ c * xs.length ≤ 4000000 ∧ H ly = some (.lst xs) ∧ (∀ x ∈ xs, MomI K n ps m tot r H x) ∧
  ∀ H' l ys, Same H H' → H' l = some (.lst ys) → ys.length ≤ c * xs.length → (∀ y ∈ ys, ∃ r', r = r' + 1 ∧ MomI K n ps m tot r' H' y) → Q (.ref l) H'
section
variable {P : Program} {w : World} {K : PySem.W.Frag} {mg : Str → Option Value} {base : Heap}
theorem ok_later_layer (T : TopY P K mg) : FnOk P w K mg base CX0 11 (He.fAd K ("later_layer", none)) (fdOf K ("later_layer", none)) ["programs", "layer", "mode"] (spLater K) := by
  refine fd_ok T.d_later_layer sc_later_layer (fun vs H Q E h => ?_) (fun cdv A outer s H vs Q E hr h => ?_)
  · obtain ⟨pl, ly, m, as, ps, n, tot, r, c, xs, rfl, _⟩ := h
    rfl
  · obtain ⟨pl, ly, m, as, ps, n, tot, r, c, xs, rfl, PG, hpl, hn, G, htot, hfc, hcx, hly, hxs, k⟩ := h
    have nd := sc_later_layer.nd
    have hr2 : Room 2 _ := hr.mono (by decide)
    have hr8 : Room 8 _ := hr.mono (by decide)
    have hu : (A.deeper (envOfC "later_layer" (defScope s_later_layer) s.heap.objs.size (He.fAd K ("later_layer", none)) cdv)).units + 16 < cLine := by have := hr.un; omega
    refine ⟨_, pss_cons (ps_set (i := 3) nd rfl (Or.inl rfl) (pe_lst pa_nil))
      (pss_cons (ps_set (i := 4) nd rfl (Or.inl rfl) pe_dnewN)
      (pss_cons (ps_for PassesOwn.never rfl (pi_list (pv 1)) (pg_name (i := 5) nd rfl (Or.inl rfl))
        (pss_one (ps_for PassesOwn.never rfl (pi_list (pe_call (ok_ready T.toTopX) hr rfl T.g_ready_sessions T.d_ready_sessions.kp (b_ready_sessions T.toTop) .nil pass0 (pa_cons (pv 0) (pa_cons (pe_ix ix_tup (pv 5) pe_int (fun _ _ => rfl)) (pa_cons (pe_ix ix_tup (pv 5) pe_int (fun _ _ => rfl)) (pa_cons (pv 2) pa_nil)))))) (pg_name (i := 6) nd rfl (Or.inl rfl))
          (pss_cons (ps_asg (pe_call (ok_moment_after T) hr8 rfl T.g_moment_after T.d_moment_after.kp (b_moment_after T.toTop) .nil pass0 (pa_cons (pv 0) (pa_cons (pv 5) (pa_cons (pv 6) pa_nil)))) (pg_tup rfl (pgs_cons (pg_name (i := 7) nd rfl (Or.inl rfl)) (pgs_cons (pg_name (i := 8) nd rfl (Or.inl rfl)) (pgs_cons (pg_name (i := 9) nd rfl (Or.inl rfl)) pgs_nil)))))
          (pss_cons (ps_set (i := 10) nd rfl (Or.inl rfl) (pe_tup (pa_cons (pv 8) (pa_cons (pe_meth0 (pv 9) T.c_Links T.m_dump (ok_dump T) hr2 (b_Links_dump T.toTop) .nil pass0) pa_nil))))
          (pss_one (ps_if (pt_cmp (pc_notinN hu (pv 10) (pv 4)))
            (pss_cons (ps_putN hu (pv 4) (pv 10) rfl)
            (pss_one (ps_expr (pe_bm PySem.F.plainAttrs_list PySem.F.slot_list_append PySem.F.type_list_append mt_append (pv 3) (pa_cons (pe_tup (pa_cons (pv 7) (pa_cons (pv 8) (pa_cons (pv 9) pa_nil)))) pa_nil))))) pss_nil)))))))
      (pss_one (ps_ret (pv 3))))), ?_⟩
    refine ⟨by decide, fun fd hfd => ?_⟩
    have s0 : ∀ o, Same H (upd H fd o) := fun _ => Same.new hfd
    intro kd hkd
    have nkf : kd ≠ fd := fun z => by rw [z, upd_same] at hkd; cases hkd
    have s1 : ∀ o, Same H (upd (upd H fd (.lst [])) kd o) := fun _ => (s0 _).trans (Same.new hkd)
    have zkd : H kd = none := by rw [upd_ne nkf] at hkd; exact hkd
    have sM : ∀ o o', Same H (mask fd kd (upd (upd H fd o) kd o')) := fun o o' b ob e => by
      rw [mask_upd2, mask_upd1]
      exact mask_of e (ne_of_none e hfd) (ne_of_none e zkd)
    have pre : ∀ (H' : Hp), Same (mask fd kd (upd (upd H fd (.lst [])) kd (knO P w kd []))) (mask fd kd H') → Same H (mask fd kd H') := fun H' e => (sM _ _).trans e
    generalize hH0 : upd (upd H fd (HO.lst [])) kd _ = H1
    have hH1 : upd (upd H fd (.lst [])) kd (knO P w kd []) = H1 := hH0
    rw [hH1] at pre
    have i1 : H1 fd = some (.lst []) := by rw [← hH1, upd_ne nkf.symm, upd_same]
    have i2 : KnAt P w H1 kd [] := ⟨by rw [← hH1, upd_same], fun x hx => (nomatch hx)⟩
    have nly : ly ≠ fd := ne_of_none hly hfd
    have nlk : ly ≠ kd := ne_of_none hly zkd
    have SH : ∀ {H' : Hp}, Same (mask fd kd H1) (mask fd kd H') → Same H H' := fun e => (pre _ e).trans mask_full
    refine ⟨_, rfl, ly, rfl, ⟨_, SqL.of (SH (Same.refl _) _ _ hly)⟩, ?_⟩
    refine for_list (K := K) (a := ly) (xs := xs) (fun i σ' H' => ∃ (v5 v6 v7 v8 v9 v10 : Option V) (kns : List NK) (ys : List V), σ' = [some (.ref pl), some (.ref ly), some (.str (mdS m)), some (.ref fd), some (.ref kd), v5, v6, v7, v8, v9, v10] ∧ Same (mask fd kd H1) (mask fd kd H') ∧ H' fd = some (.lst ys) ∧ KnAt P w H' kd kns ∧ kns.length = ys.length ∧ ys.length ≤ c * i ∧
        ∀ y ∈ ys, ∃ r', r = r' + 1 ∧ MomI K n ps m tot r' (mask fd kd H') y)
      ⟨none, none, none, none, none, none, [], [], rfl, Same.refl _, i1, i2, rfl, Nat.zero_le _, fun y hy => (nomatch hy)⟩ (fun i σ' H' _ ⟨_, _, _, _, _, _, _, _, _, e, _⟩ => SqL.of (SH e _ _ hly)) ?_ ?_
    · rintro i x σ' H' hix ⟨v5, v6, v7, v8, v9, v10, kns, ys, rfl, eM, efd, kn, hlen, hle, hy⟩
      have hi := (List.getElem?_eq_some_iff.mp hix).1
      obtain ⟨t, sc, q, p, sg, dn, o, rfl, M, RIx, SMx, hrem, hol⟩ := hxs x (List.mem_of_getElem? hix)
      have M' := M.same (SH eM)
      refine ⟨_, rfl, _, rfl, t, _, _, _, rfl, rfl, SqT.of M'.ob, at1, _, rfl, t, _, _, _, rfl, rfl, SqT.of M'.ob, at2, _, rfl, ?_⟩
      refine ⟨pl, q, p, m, as, ps, dn, n, sg, rfl, PG.same (SH eM), .inr (SqT.of M'.qo), hpl, M'.lk, RIx.wf, RIx.ln, G, fun H2 rl s2 hrl erl => ⟨rl, rfl, ⟨_, SqL.of erl⟩, ?_⟩⟩
      have nrf : rl ≠ fd := (ne_of_none efd hrl).symm
      have nrk : rl ≠ kd := (ne_of_none kn.1 hrl).symm
      have eM2 : Same (mask fd kd H1) (mask fd kd H2) := eM.trans (mask_same s2)
      have efd2 := s2 _ _ efd
      have kn2 : KnAt P w H2 kd kns := ⟨s2 _ _ kn.1, fun x hx => (kn.2 x hx).same fun b xs e => s2 _ _ e⟩
      have hy2 : ∀ y ∈ ys, ∃ r', r = r' + 1 ∧ MomI K n ps m tot r' (mask fd kd H2) y := fun y hm => let ⟨r', e1, e2⟩ := hy y hm; ⟨r', e1, e2.same (mask_same s2)⟩
      have hrl' : mask fd kd H2 rl = some (.lst (dV (rdy ps sg dn m))) := mask_of erl nrf nrk
      refine for_list (K := K) (a := rl) (xs := dV (rdy ps sg dn m)) (fun l σ' H' => ∃ (v6 v7 v8 v9 v10 : Option V) (kns : List NK) (ys : List V), σ' = [some (.ref pl), some (.ref ly), some (.str (mdS m)), some (.ref fd), some (.ref kd), some (.ref t), v6, v7, v8, v9, v10] ∧ Same (mask fd kd H2) (mask fd kd H') ∧ H' fd = some (.lst ys) ∧ KnAt P w H' kd kns ∧ kns.length = ys.length ∧ ys.length ≤ c * i + l ∧
          ∀ y ∈ ys, ∃ r', r = r' + 1 ∧ MomI K n ps m tot r' (mask fd kd H') y)
        ⟨v6, v7, v8, v9, v10, kns, ys, rfl, Same.refl _, efd2, kn2, hlen, hle, hy2⟩ (fun l σ' H' _ ⟨_, _, _, _, _, _, _, _, e, _⟩ => SqL.of (mask_full _ _ (e _ _ hrl'))) ?_ ?_
      · rintro l y σ' H3 hlx ⟨v6, v7, v8, v9, v10, kns, ys, rfl, eM3, efd3, kn3, hlen3, hle3, hy3⟩
        obtain ⟨j, hj, rfl⟩ := dV_get hlx
        have hl1 : l < (rdy ps sg dn m).length := (List.getElem?_eq_some_iff.mp hj).1
        have hl2 := rdy_full (ps := ps) (s := sg) (dn := dn) (m := m)
        have hci : c * (i + 1) ≤ c * xs.length := Nat.mul_le_mul_left c hi
        have hci2 : c * (i + 1) = c * i + c := Nat.mul_succ c i
        obtain ⟨op, hop, hrf⟩ := mem_rdy.mp (List.mem_of_getElem? hj)
        have eM13 := eM2.trans eM3
        have M3 := M.same (SH eM13)
        have hop' := Ln.isop G hop
        have hdl : dn.length ≤ 1000 := by rw [RIx.ln.len]; exact hpl
        refine ⟨_, rfl, _, rfl, _, rfl, pl, t, sc, q, p, j, as, ps, n, sg, dn, o, op, rfl, PG.same (SH eM13), M3, hn, RIx.wf, RIx.ln, G, hop, hdl, by omega, fun H4 t' sc' q' p' s4 hM => ?_⟩
        have M4 := hM H4 fun _ _ e _ => e
        have efd4 := s4 _ _ efd3
        have kn4 : KnAt P w H4 kd kns := ⟨s4 _ _ kn3.1, fun x hx => (kn3.2 x hx).same fun b xs e => s4 _ _ e⟩
        have M4m := hM (mask fd kd H4) fun b ob e z => by
          rcases z with z | ⟨zs, rfl⟩
          · exact mask_of e (fun w => by rw [w, efd3] at z; cases z) (fun w => by rw [w, kn3.1] at z; cases z)
          · exact mask_of e (fun w => by rw [w, efd4] at e; cases e) (fun w => by rw [w, kn4.1] at e; cases e)
        refine ⟨t', _, rfl, SqT.of M4.ob, rfl, _, _, rfl, _, _, rfl, _, _, rfl, rfl, ?_⟩
        obtain ⟨dx4, l4, r4, f4, S4⟩ := id M4.lk
        have W4 := RIx.wf.app hop'
        have Sm4 := SMx.app hn RIx.wf hop'
        refine ⟨_, rfl, _, rfl, p', dx4, _, rfl, S4.ob, lfno (by decide +kernel), p', n, sg.app op, rfl, hn, M4.lk, W4, Sm4, fun H5 z s5 => ?_⟩
        refine ⟨(by show 2 ≤ sizeLine; decide), fun rw_ hrw => ?_⟩
        have s6 : ∀ ob, Same H5 (upd H5 rw_ ob) := fun _ => Same.new hrw
        have s46 := s5.trans (s6 (.tup [.ref q', .str z]))
        have efd6 := s46 _ _ efd4
        have kn6 : KnAt P w (upd H5 rw_ (.tup [.ref q', .str z])) kd kns := ⟨s46 _ _ kn4.1, fun x hx => (kn4.2 x hx).same fun b xs e => s46 _ _ e⟩
        have kA : KeyAt (upd H5 rw_ (.tup [.ref q', .str z])) (.tup [.tup ((adv dn j).map fun d => .num (d : Nat)), .text z]) rw_ := ⟨q', adv dn j, z, rfl, upd_same, s46 _ _ M4.qo⟩
        have eM6 : Same (mask fd kd H2) (mask fd kd (upd H5 rw_ (.tup [.ref q', .str z]))) := (eM3.trans (mask_same s4)).trans (mask_same s46)
        have hy6 : ∀ y ∈ ys, ∃ r', r = r' + 1 ∧ MomI K n ps m tot r' (mask fd kd (upd H5 rw_ (.tup [.ref q', .str z]))) y := fun y hm => let ⟨r', e1, e2⟩ := hy3 y hm; ⟨r', e1, e2.same (mask_same (s4.trans s46))⟩
        refine ⟨_, rfl, _, rfl, kd, rw_, kns, _, rfl, rfl, kn6, kA, _, rfl, ?_⟩
        cases hno : atKey kns (.tup [.tup ((adv dn j).map fun d => .num (d : Nat)), .text z]) with
        | some pp => exact iteF ⟨_, _, _, _, _, kns, ys, rfl, eM6, efd6, kn6, hlen3, by omega, hy6⟩
        | none =>
          refine iteT ⟨_, rfl, _, rfl, kd, rw_, kns, _, rfl, rfl, kn6, kA, hno, by rw [sizeLine_eq]; omega, fun kns' hl' kn7 => ?_⟩
          have efd7 : (upd (upd H5 rw_ (.tup [.ref q', .str z])) kd (knO P w kd kns')) fd = some (.lst ys) := by rw [upd_ne nkf.symm]; exact efd6
          have eM7 : mask fd kd (upd (upd H5 rw_ (.tup [.ref q', .str z])) kd (knO P w kd kns')) = mask fd kd (upd H5 rw_ (.tup [.ref q', .str z])) := mask_upd2
          refine ⟨_, rfl, .inl ⟨rfl, _, SqL.of efd7⟩, _, rfl, _, rfl, _, rfl, (by show 3 ≤ sizeLine; decide), fun tp htp => ?_⟩
          have kn7 : KnAt P w (upd (upd H5 rw_ (.tup [.ref q', .str z])) kd (knO P w kd kns')) kd kns' := kn7
          have htp : (upd (upd H5 rw_ (.tup [.ref q', .str z])) kd (knO P w kd kns')) tp = none := htp
          have s8 : ∀ ob, Same (upd (upd H5 rw_ (.tup [.ref q', .str z])) kd (knO P w kd kns')) (upd (upd (upd H5 rw_ (.tup [.ref q', .str z])) kd (knO P w kd kns')) tp ob) := fun _ => Same.new htp
          have ntf : tp ≠ fd := (ne_of_none efd7 htp).symm
          have ntk : tp ≠ kd := (ne_of_none kn7.1 htp).symm
          have efd8 := s8 (.tup [.ref sc', .ref q', .ref p']) _ _ efd7
          have key : ∀ H9 : Hp, H9 = upd (upd (upd (upd H5 rw_ (.tup [.ref q', .str z])) kd (knO P w kd kns')) tp (.tup [.ref sc', .ref q', .ref p'])) fd (.lst (ys ++ [.ref tp])) →
              Same (mask fd kd H2) (mask fd kd H9) ∧ H9 fd = some (.lst (ys ++ [.ref tp])) ∧ KnAt P w H9 kd kns' ∧ kns'.length = (ys ++ [V.ref tp]).length ∧ (ys ++ [V.ref tp]).length ≤ c * i + (l + 1) ∧ ∀ y ∈ ys ++ [V.ref tp], ∃ r', r = r' + 1 ∧ MomI K n ps m tot r' (mask fd kd H9) y := by
            intro H9 hH9
            have e9 : mask fd kd H9 = mask fd kd (upd (upd (upd H5 rw_ (.tup [.ref q', .str z])) kd (knO P w kd kns')) tp (.tup [.ref sc', .ref q', .ref p'])) := by rw [hH9, mask_upd1]
            have s69 : Same (mask fd kd (upd H5 rw_ (.tup [.ref q', .str z]))) (mask fd kd H9) := by
              rw [e9, ← eM7]
              exact mask_same (s8 _)
            refine ⟨eM6.trans s69, by rw [hH9, upd_same], ⟨by rw [hH9, upd_ne nkf]; exact s8 _ _ _ kn7.1, fun x hx => (kn7.2 x hx).same fun b xs e => ?_⟩, by rw [hl', hlen3, List.length_append]; rfl, by rw [List.length_append]; show ys.length + 1 ≤ _; omega, fun y hm => ?_⟩
            · have nb : b ≠ fd := fun z => by rw [z, efd7] at e; cases e
              rw [hH9, upd_ne nb]
              exact s8 _ _ _ e
            · rcases List.mem_append.mp hm with hm | hm
              · obtain ⟨r', e1, e2⟩ := hy6 y hm
                exact ⟨r', e1, e2.same s69⟩
              · rw [List.mem_singleton.mp hm]
                have hra := rem_adv hop
                have M9 := M4m.same ((mask_same s46).trans s69)
                refine ⟨rem ps (adv dn j), by omega, tp, sc', q', p', sg.app op, adv dn j, o ++ [j], rfl, ⟨?_, M9.so, M9.qo, M9.lk⟩, RIx.step G hop hrf, Sm4, rfl, ?_⟩
                · rw [e9]
                  exact mask_of upd_same ntf ntk
                · rw [List.length_append]
                  show o.length + 1 + _ = tot
                  omega
          obtain ⟨k1, k2, k3, k4, k5, k6⟩ := key _ rfl
          exact ⟨fd, _, _, rfl, rfl, efd8, by rw [sizeLine_eq]; omega, _, _, _, _, _, kns', _, rfl, k1, k2, k3, k4, k5, k6⟩
      · rintro σ' H3 ⟨v6, v7, v8, v9, v10, kns, ys, rfl, eM3, efd3, kn3, hlen3, hle3, hy3⟩
        refine ⟨_, _, _, _, _, _, kns, ys, rfl, eM2.trans eM3, efd3, kn3, hlen3, ?_, hy3⟩
        rw [dV_len] at hle3
        have h1 := rdy_full (ps := ps) (s := sg) (dn := dn) (m := m)
        have h2 : c * (i + 1) = c * i + c := Nat.mul_succ c i
        omega
    · rintro σ' H' ⟨v5, v6, v7, v8, v9, v10, kns, ys, rfl, eM, efd, kn, hlen, hle, hy⟩
      exact ⟨_, rfl, k H' fd ys (SH eM) efd hle fun y hm => let ⟨r', e1, e2⟩ := hy y hm; ⟨r', e1, e2.same mask_full⟩⟩
end
end Lk

set_option maxHeartbeats 4000000
/-! check_room, check_waiting, stuck_schedule. -/
namespace Lk
open PySem PySem.Spec PyProof.Rows L2
theorem room_up : ∀ (l : List (List Int)) (a : Nat), a ≤ l.foldl (fun a p => a * (p.length + 1)) a
  | [], a => Nat.le_refl a
  | p :: l, a => by
    refine Nat.le_trans ?_ (room_up l (a * (p.length + 1)))
    exact Nat.le_mul_of_pos_right a (Nat.succ_pos _)
def part (ps : List (List Int)) (i : Nat) : Nat := (ps.take i).foldl (fun a p => a * (p.length + 1)) 1
theorem part_le (ps : List (List Int)) (i : Nat) : part ps i ≤ room ps := by
  unfold part room
  conv => rhs; rw [← List.take_append_drop i ps, List.foldl_append]
  exact room_up _ _
theorem part_all (ps : List (List Int)) : part ps ps.length = room ps := by unfold part room; rw [List.take_length]
theorem part_succ {ps : List (List Int)} {i : Nat} {p : List Int} (h : ps[i]? = some p) : part ps (i + 1) = part ps i * (p.length + 1) := by
  unfold part
  rw [take_snoc h, List.foldl_append]
  rfl
def spRoom (K : PySem.W.Frag) : Sp := fun vs H Q _ => ∃ (pl : Addr) (as : List Addr) (ps : List (List Int)), vs = [.ref pl] ∧ PgAt H pl as ps ∧ room ps ≤ 150 ∧ Q .non H
def spWaiting (K : PySem.W.Frag) : Sp := fun vs H Q _ => ∃ (n : Nat) (pl : Addr) (m : Md) (as : List Addr) (ps : List (List Int)), vs = [.int n, .ref pl, .str (mdS m)] ∧ n ≤ 60 ∧ PgAt H pl as ps ∧ Few ps ∧ flt n [] ps 0 = none ∧ room ps ≤ 150 ∧ ∀ H', Same H H' → Q .non H'
section
variable {P : Program} {w : World} {K : PySem.W.Frag} {mg : Str → Option Value} {base : Heap}
theorem ok_check_room (T : Top K mg) : FnOk P w K mg base CX0 1 (He.fAd K ("check_room", none)) (fdOf K ("check_room", none)) ["programs"] (spRoom K) := by
  refine fd_ok T.d_check_room sc_check_room (fun vs H Q E h => ?_) (fun cdv A outer s H vs Q E hr h => ?_)
  · obtain ⟨pl, as, ps, rfl, _⟩ := h
    rfl
  · obtain ⟨pl, as, ps, rfl, PG, hroom, k⟩ := h
    have nd := sc_check_room.nd
    obtain ⟨tk, hmp⟩ := T.i_MOST_POSITIONS
    refine ⟨_, pss_cons (ps_set (i := 1) nd rfl (Or.inl rfl) pe_int)
      (pss_cons (ps_for PassesOwn.never rfl (pi_list (pv 0)) (pg_name (i := 2) nd rfl (Or.inl rfl))
        (pss_one (ps_set (i := 1) nd rfl (Or.inl rfl) (pe_op op_mul (pv 1) (pe_op op_add (pe_callB call_len_seq (by rfl) T.n_len (by decide +kernel) (pa_cons (pv 2) pa_nil)) pe_int)))))
      (pss_one (ps_if (pt_cmpR op_gt (pv 1) (pe_glob rfl hmp (v := .int 150) ⟨_, rfl⟩) (nomark _)) (pss_one ps_never) pss_nil))), ?_⟩
    refine ⟨_, rfl, pl, rfl, ⟨_, SqL.of PG.ob⟩, ?_⟩
    refine for_list (K := K) (a := pl) (xs := as.map V.ref) (fun i σ' H' => ∃ v : Option V, σ' = [some (.ref pl), some (.int (part ps i : Nat)), v] ∧ H' = H) ⟨none, rfl, rfl⟩ (fun i σ' H' _ ⟨_, _, e⟩ => by rw [e]; exact SqL.of PG.ob) ?_ ?_
    · rintro i y σ' H' hix ⟨v, rfl, rfl⟩
      obtain ⟨a, ha, rfl⟩ := map_at hix
      obtain ⟨p, hp, hap⟩ := PG.at_ i a ha
      have hle := part_le ps i
      refine ⟨_, rfl, _, rfl, a, _, rfl, .inl (SqL.of hap), _, _, rfl, rfl, _, _, rfl, rfl, .inl ⟨by omega, by omega⟩, ⟨some (.ref a), ?_, rfl⟩⟩
      rw [part_succ hp, List.length_map]
      show [some (V.ref pl), some (V.int ((part ps i : Int) * ((p.length : Int) + 1))), some (V.ref a)] = _
      rw [Int.natCast_mul, Int.natCast_add]
      rfl
    · rintro σ' H' ⟨v, rfl, rfl⟩
      have e : part ps (as.map V.ref).length = room ps := by rw [List.length_map, PG.len, part_all]
      rw [e]
      exact ⟨_, rfl, _, _, rfl, rfl, _, rfl, dF (by omega) k⟩
theorem ok_check_waiting (T : TopX P K mg) : FnOk P w K mg base CX0 5 (He.fAd K ("check_waiting", none)) (fdOf K ("check_waiting", none)) ["size", "programs", "mode"] (spWaiting K) := by
  refine fd_ok T.d_check_waiting sc_check_waiting (fun vs H Q E h => ?_) (fun cdv A outer s H vs Q E hr h => ?_)
  · obtain ⟨n, pl, m, as, ps, rfl, _⟩ := h
    rfl
  · obtain ⟨n, pl, m, as, ps, rfl, hn, PG, FW, hf, hroom, k⟩ := h
    have hr1 : Room 1 _ := hr.mono (by decide)
    have hr3 : Room 3 _ := hr.mono (by decide)
    refine ⟨_, pss_cons (ps_expr (pe_call (ok_check_size T) hr3 rfl T.g_check_size T.d_check_size.kp (b_check_size T.toTop) .nil passF (pa_cons (pv 0) pa_nil)))
      (pss_cons (ps_expr (pe_call (ok_check_mode T) hr3 rfl T.g_check_mode T.d_check_mode.kp (b_check_mode T.toTop) .nil passF (pa_cons (pv 2) pa_nil)))
      (pss_cons (ps_expr (pe_call (ok_check_programs T) hr rfl T.g_check_programs T.d_check_programs.kp (b_check_programs T.toTop) .nil passF (pa_cons (pv 0) (pa_cons (pv 1) pa_nil))))
      (pss_one (ps_expr (pe_call (ok_check_room T.toTop) hr1 rfl T.g_check_room T.d_check_room.kp (b_check_room T.toTop) .nil pass0 (pa_cons (pv 1) pa_nil)))))), ?_⟩
    refine ⟨_, rfl, n, rfl, fun _ => ?_, fun c => absurd ⟨by omega, by omega⟩ c⟩
    refine ⟨_, rfl, mdS m, rfl, fun m' _ => ?_, fun e => by rw [mdS_of] at e; cases e⟩
    refine ⟨_, rfl, _, rfl, n, pl, as, ps, rfl, by omega, by omega, PG, FW, fun _ H1 s1 => ?_, fun i j e => by rw [hf] at e; cases e⟩
    exact ⟨_, rfl, pl, as, ps, rfl, PG.same s1, hroom, k H1 s1⟩
end
theorem sc_reached : GScope ["size", "programs", "mode", "layer"] ["size", "programs", "mode"] (defScope s_reached_moments) := ⟨rfl, rfl, rfl, by decide +kernel, rfl, by decide +kernel, by decide +kernel⟩
structure TopZ (P : Program) (K : PySem.W.Frag) (mg : Str → Option Value) : Prop extends TopY P K mg where
  d_reached : DF K ("reached_moments", none) "reached_moments" "reached_moments" s_reached_moments []
theorem full_small {n : Nat} {ps : List (List Int)} (G : Lg n ps) (h : (ps.map List.length).sum ≤ 8) : full ps ≤ 4 := by
  have : ∀ l : List (List Int), (∀ p ∈ l, p.length % 2 = 0) → 2 * full l ≤ (l.map List.length).sum := by
    intro l
    induction l with
    | nil => intro _; exact Nat.le_refl _
    | cons p l ih =>
      intro he
      have h1 := he p List.mem_cons_self
      have h2 := ih fun q hq => he q (List.mem_cons_of_mem _ hq)
      unfold full at h2 ⊢
      rw [List.filter_cons]
      simp only [List.map_cons, List.sum_cons]
      by_cases c : p = []
      · rw [if_neg (by simp [c])]
        omega
      · rw [if_pos (by simp [c]), List.length_cons]
        have : p.length ≠ 0 := fun z => c (List.length_eq_zero_iff.mp z)
        omega
  have := this ps fun p hp => legal_even (G.pr p hp)
  omega
def loOf (σ : L2.St) : Addr := match σ[3]? with
  | some (some (V.ref a)) => a
  | _ => 0
def spStuck (K : PySem.W.Frag) : Sp := fun vs H Q _ => ∃ (n : Nat) (pl : Addr) (as : List Addr) (ps : List (List Int)), vs = [.int n, .ref pl, .str "checked"] ∧ n ≤ 60 ∧ PgAt H pl as ps ∧ Few ps ∧ flt n [] ps 0 = none ∧ (ps.map List.length).sum ≤ 8 ∧ (∀ p ∈ ps, nest p [] = true) ∧ ∀ H', Same H H' → Q .non H'
section
variable {P : Program} {w : World} {K : PySem.W.Frag} {mg : Str → Option Value} {base : Heap}
theorem room_in1 {A : Around} {k : Nat} (h : Room (k + 1) A) (env : Env) : Room k (A.in1.deeper env) :=
  ⟨h.hd, by have := h.dp; show A.depth + 1 + 3 * k + 5 < _; omega, by have := h.un; show A.units + 1 + 3 + 16 * k + 200 < _; omega⟩
theorem ok_stuck (T : TopZ P K mg) : FnOk P w K mg base CX0 13 (He.fAd K ("stuck_schedule", none)) (fdOf K ("stuck_schedule", none)) ["size", "programs", "mode"] (spStuck K) := by
  refine fd_ok T.d_stuck_schedule sc_stuck_schedule (fun vs H Q E h => ?_) (fun cdv A outer s H vs Q E hr h => ?_)
  · obtain ⟨n, pl, as, ps, rfl, _⟩ := h
    rfl
  · obtain ⟨n, pl, as, ps, rfl, hn, PG, FW, hf, hsum, hst, k⟩ := h
    have nd := sc_stuck_schedule.nd
    have ndr := sc_reached.nd
    have G : Lg n ps := (flt_none hf).1
    have hr2 : Room 2 _ := hr.mono (by decide)
    have hr5 : Room 5 _ := hr.mono (by decide)
    have hr10 : Room 10 _ := hr.mono (by decide)
    have dp : (A.deeper (envOfC "stuck_schedule" (defScope s_stuck_schedule) s.heap.objs.size (He.fAd K ("stuck_schedule", none)) cdv)).depth < recursionLimit := by have := hr.dp; omega
    have bR : Binds K (fdOf K ("reached_moments", none)) ["size", "programs", "mode"] [] := T.d_reached.bindsN fun _ _ _ _ _ _ us hl => match us, hl with | [_, _, _], _ => rfl
    refine ⟨_, pss_cons (ps_expr (pe_call (ok_check_waiting T.toTopX) hr5 rfl T.g_check_waiting T.d_check_waiting.kp (b_check_waiting T.toTop) .nil pass0 (pa_cons (pv 0) (pa_cons (pv 1) (pa_cons (pv 2) pa_nil)))))
      (pss_cons (ps_forGen (k := sizeLine) (N := ["size", "programs", "mode", "layer"]) (ps := ["size", "programs", "mode"])
          (t1 := tAsg (tLst (tCons (tTup (tCons (tLst tNil) (tCons (tOp rRepA (tTup (tCons (tC (.int 0)) tNil)) (tCB (fun xs H Q => ∃ p ys, xs = [V.ref p] ∧ (SqL K H p ys ∨ SqT K H p ys) ∧ Q (.int ys.length) H) (tCons (tVar 1) tNil))) (tCons (tMake (CL K) (spLinit K) [] E0 (tCons (tVar 0) tNil)) tNil)))) tNil)) (gName 3))
          (tc := tTest (tOp (rI0 fun i j => V.bl (decide (j < i))) (tCB (fun xs H Q => ∃ p ys, xs = [V.ref p] ∧ (SqL K H p ys ∨ SqT K H p ys) ∧ Q (.int ys.length) H) (tCons (tVar 3) tNil)) (tC (V.int 0))))
          (te := tVar 3) (lo := loOf)
          (t2 := tAsg (tCall (spLater K) [] E0 (tCons (tVar 1) (tCons (tVar 3) (tCons (tVar 2) tNil)))) (gName 3))
          T.d_reached sc_reached (by decide +kernel) (Nat.le_refl _) rfl dp (fun _ _ h => h) rfl T.g_reached_moments bR (pa_cons (pv 0) (pa_cons (pv 1) (pa_cons (pv 2) pa_nil)))
          (pg_tup rfl (pgs_cons (pg_name (i := 3) nd rfl (Or.inl rfl)) (pgs_cons (pg_name (i := 4) nd rfl (Or.inl rfl)) (pgs_cons (pg_name (i := 5) nd rfl (Or.inl rfl)) pgs_nil))))
          (pss_one (ps_if (pt_cmpR op_gt (pe_callB call_len_seq (by rfl) T.n_len (by decide +kernel) (pa_cons (pe_call (ok_unfinished T.toTop) hr2 rfl T.g_unfinished T.d_unfinished.kp (b_unfinished T.toTop) .nil pass0 (pa_cons (pv 1) (pa_cons (pv 4) pa_nil))) pa_nil)) pe_int (nomark _))
            (pss_one (ps_if (pt_cmpR op_eq (pe_callB call_len_seq (by rfl) T.n_len (by decide +kernel) (pa_cons (pe_call (ok_ready T.toTopX) hr10 rfl T.g_ready_sessions T.d_ready_sessions.kp (b_ready_sessions T.toTop) .nil pass0 (pa_cons (pv 1) (pa_cons (pv 4) (pa_cons (pv 5) (pa_cons (pv 2) pa_nil))))) pa_nil)) pe_int (nomark _))
              (pss_one (ps_ret (pe_callTy call_list_of (by rfl) T.n_list (by decide +kernel) (pa_cons (pv 3) pa_nil)))) pss_nil)) pss_nil))
          (fun cd n0 ag go s0 H0 => ps_set (i := 3) ndr rfl (Or.inl rfl) (pe_lst (pa_cons (pe_tup (pa_cons (pe_lst pa_nil) (pa_cons (pe_op op_repA (pe_tup (pa_cons pe_int pa_nil)) (pe_callB call_len_seq (by rfl) T.n_len (by decide +kernel) (pa_cons (pv 1) pa_nil))) (pa_cons (pe_make T.k_Links (ok_Linit T.toTopX) ((room_in1 hr _).mono (by decide)) rfl T.g_Links (b_Links___init__ T.toTop) .nil pass0 (pa_cons (pv 0) pa_nil)) pa_nil)))) pa_nil)))
          (fun cd n0 ag go s0 H0 => pt_cmpR op_gt (pe_callB call_len_seq (by rfl) T.n_len (by decide +kernel) (pa_cons (pv 3) pa_nil)) pe_int (nomark _))
          (fun cd n0 ag go s0 H0 => pv 3)
          (fun cd n0 ag go s0 H0 => ps_set (i := 3) ndr rfl (Or.inl rfl) (pe_call (ok_later_layer T.toTopY) (room_in1 hr _) rfl T.g_later_layer T.d_later_layer.kp (b_later_layer T.toTop) .nil pass0 (pa_cons (pv 1) (pa_cons (pv 3) (pa_cons (pv 2) pa_nil)))))
          (fun _ _ => rfl))
      (pss_one (ps_ret pe_non))), ?_⟩
    have hroom := room_small G hsum
    refine ⟨_, rfl, _, rfl, _, rfl, n, pl, .checked, as, ps, rfl, hn, PG, FW, hf, by omega, fun H1 s1 => ?_⟩
    generalize htot : (ps.map List.length).sum = tot at hsum
    have PG1 := PG.same s1
    refine ⟨_, rfl, _, rfl, _, rfl, rfl, fun m xs σ H' => (∃ ly : Addr, σ = [some (.int (n : Nat)), some (.ref pl), some (.str (mdS .checked)), some (.ref ly)] ∧ H' ly = some (.lst xs)) ∧ Same H1 H' ∧ m ≤ tot + 1 ∧ xs.length ≤ 4 ^ (tot + 1 - m) ∧ ∀ x ∈ xs, ∃ r, m = r + 1 ∧ MomI K n ps .checked tot r H' x,
      fun x H' => Same H1 H' ∧ ∃ r, MomI K n ps .checked tot r H' x, fun H' => Same H1 H', fun σ H' => (∃ v3 v4 v5 : Option V, σ = [some (.int (n : Nat)), some (.ref pl), some (.str (mdS .checked)), v3, v4, v5]) ∧ Same H1 H', 4 ^ 9, tot + 1, ?_, ⟨⟨none, none, none, rfl⟩, Same.refl _⟩, ?_, ?_, ?_, ?_, ?_, ?_, ?_, ?_, ?_, ?_, ?_⟩
    · rw [sizeLine_eq]
      have : (tot + 1 + 1) * 4 ^ 9 ≤ 10 * 4 ^ 9 := Nat.mul_le_mul_right _ (by omega)
      exact Nat.le_trans this (by decide)
    · refine ⟨by decide, fun l0 hl0 => ?_⟩
      have a1 : ∀ ob, Same H1 (upd H1 l0 ob) := fun _ => Same.new hl0
      refine ⟨(by show 1 ≤ sizeLine; decide), fun t0 ht0 => ?_⟩
      have a2 : ∀ ob, Same (upd H1 l0 (.lst [])) (upd (upd H1 l0 (.lst [])) t0 ob) := fun _ => Same.new ht0
      refine ⟨_, rfl, pl, _, rfl, .inl (SqL.of (((a1 _).trans (a2 _)) _ _ PG1.ob)), ?_⟩
      rw [List.length_map, PG1.len]
      refine ⟨t0, ps.length, _, rfl, rfl, upd_same, (fun z => nomatch z), FW.1, (by show 1 ≤ 1000; decide), fun q H4 s4 hq => ?_⟩
      refine ⟨_, rfl, fun x dx hx hdx ne => ⟨x, dx, n, rfl, hn, upd_same, fun H5 aL aR aF S5 b5 zL zR zF => ⟨rfl, ?_⟩⟩⟩
      have s5 : Same H4 H5 := fun b ob e => b5 b ob (by rw [upd_ne (ne_of_none e hx), upd_ne (ne_of_none e hdx)]; exact e) (ne_of_none e hx)
      refine ⟨(by show 3 ≤ sizeLine; decide), fun t ht => ?_⟩
      have s6 : ∀ ob, Same H5 (upd H5 t ob) := fun _ => Same.new ht
      refine ⟨(by show 1 ≤ sizeLine; decide), fun ly hly => ?_⟩
      have s7 : ∀ ob, Same (upd H5 t (.tup [.ref l0, .ref q, .ref x])) (upd (upd H5 t (.tup [.ref l0, .ref q, .ref x])) ly ob) := fun _ => Same.new hly
      have s57 := s5.trans ((s6 (.tup [.ref l0, .ref q, .ref x])).trans (s7 (.lst [.ref t])))
      refine ⟨tot + 1, [.ref t], Nat.le_refl _, ⟨ly, rfl, upd_same⟩, ((a1 _).trans (a2 _)).trans (s4.trans s57), Nat.le_refl _, ?_, fun y hy => ?_⟩
      · rw [Nat.sub_self]; exact Nat.le_refl 1
      · rw [List.mem_singleton.mp hy]
        refine ⟨tot, rfl, t, l0, q, x, Sg.whole n, List.replicate ps.length 0, [], rfl, ⟨s7 _ _ _ upd_same, (s4.trans s57) _ _ (a2 _ _ _ (by rw [upd_same]; rfl)), s57 _ _ ?_, dx, aL, aR, aF, S5.same ((s6 _).trans (s7 _))⟩, ri_start n ps .checked, sm_whole hn, by rw [rem_start, htot], by simp⟩
        rw [hq, show [V.int 0] = [V.int ((0 : Nat) : Int)] from rfl]
        have := rep_0 ps.length
        rw [Int.toNat_natCast] at this
        rw [← this]
        rfl
    · rintro m xs σ H' ⟨⟨ly, rfl, e⟩, _⟩
      refine ⟨_, rfl, ly, _, rfl, .inl (SqL.of e), _, _, rfl, rfl, _, rfl, rfl, ?_⟩
      cases xs with
      | nil => rfl
      | cons a b =>
        show decide ((0 : Int) < ((b.length + 1 : Nat) : Int)) = true
        exact decide_eq_true (by omega)
    · rintro m xs σ H' ⟨⟨ly, rfl, e⟩, _⟩
      exact ⟨e, _, rfl, rfl, rfl⟩
    · rintro m xs σ H' Hc ⟨⟨ly, e0, e⟩, e1, e2, e3, e4⟩ sm
      exact ⟨⟨ly, e0, sm _ _ e⟩, e1.trans sm, e2, e3, fun x hx => let ⟨r, z1, z2⟩ := e4 x hx; ⟨r, z1, z2.same sm⟩⟩
    · rintro m xs σ H' ⟨_, e1, e2, e3, e4⟩ x hx
      obtain ⟨r, _, z⟩ := e4 x hx
      exact ⟨e1, r, z⟩
    · rintro xs σ H' ⟨_, _, _, _, e4⟩
      cases xs with
      | nil => rfl
      | cons a b =>
        obtain ⟨r, z, _⟩ := e4 a List.mem_cons_self
        cases z
    · rintro m xs σ H' ⟨_, e1, _⟩
      exact e1
    · rintro m xs σ H' ⟨_, _, _, e3, _⟩
      exact Nat.le_trans e3 (Nat.pow_le_pow_right (by decide) (by omega))
    · rintro m xs σ H' ⟨⟨ly, rfl, e⟩, e1, e2, e3, e4⟩
      have hx4 : xs.length ≤ 4 ^ 9 := Nat.le_trans e3 (Nat.pow_le_pow_right (by decide) (by omega))
      refine ⟨_, rfl, _, rfl, _, rfl, pl, ly, .checked, as, ps, n, tot, m, 4, xs, rfl, PG1.same e1, FW.1, hn, G, by omega, full_small G (by rw [htot]; exact hsum), by omega, e, fun x hx => ?_, fun H2 l ys s2 hl hlen hys => ?_⟩
      · obtain ⟨r, z1, z2⟩ := e4 x hx
        obtain rfl : m = r := by omega
        exact z2
      · refine ⟨ys, ⟨l, rfl, hl⟩, e1.trans s2, by omega, ?_, fun y hy => ?_⟩
        · have h1 : tot + 1 - m = (tot + 1 - (m + 1)) + 1 := by omega
          rw [h1, Nat.pow_succ]
          omega
        · obtain ⟨r', z1, z2⟩ := hys y hy
          exact ⟨r', z1, z2⟩
    · rintro σ Hp0 x H2 ⟨⟨v3, v4, v5, rfl⟩, _⟩ ⟨s2, r, t, sc, q, p, sg, dn, o, rfl, M, RIx, SMx, hrem, hol⟩
      have PG2 := PG1.same s2
      refine ⟨t, _, rfl, SqT.of M.ob, rfl, _, _, rfl, _, _, rfl, _, _, rfl, rfl, ?_⟩
      refine ⟨_, rfl, _, rfl, pl, q, as, ps, dn, rfl, PG2, .inr (SqT.of M.qo), RIx.ln.std, FW.1, fun H3 u s3 hu eu => ?_⟩
      refine ⟨u, _, rfl, .inl (SqL.of eu), _, _, rfl, rfl, _, rfl, ?_⟩
      rw [dV_len]
      by_cases c : (0 : Int) < (unf ps dn).length
      · have hne : unf ps dn ≠ [] := fun z => by rw [z] at c; exact absurd c (by decide)
        have hr := RIx.stack G hst hne
        refine dT c ⟨_, rfl, _, rfl, _, rfl, _, rfl, pl, q, p, .checked, as, ps, dn, n, sg, rfl, PG2.same s3, .inr (SqT.of (s3 _ _ M.qo)), FW.1, M.lk.same s3, RIx.wf, RIx.ln, G, fun H4 u4 s4 hu4 eu4 => ?_⟩
        refine ⟨u4, _, rfl, .inl (SqL.of eu4), rfl, _, rfl, ?_⟩
        rw [dV_len]
        refine dF (fun z => hr (List.length_eq_zero_iff.mp (by have := V.int.inj z; omega))) ⟨⟨⟨_, _, _, rfl⟩, (s2.trans s3).trans s4⟩, s3.trans s4⟩
      · exact dF c ⟨⟨⟨_, _, _, rfl⟩, s2.trans s3⟩, s3⟩
    · rintro σ Hp0 H2 ⟨⟨v3, v4, v5, rfl⟩, _⟩ s2
      exact k H2 (s1.trans s2)
end
end Lk

set_option maxHeartbeats 4000000
/-! The law's box. -/
namespace Lk
open PySem PySem.Spec PyProof.Rows L2
structure BxAt (H : Hp) (bx cs : Addr) : Prop where
  ex : ∃ (cells : List Int) (i a x c : Int), H bx = some (.lst [.ref cs, .int i, .int a, .int x, .int c]) ∧ H cs = some (.lst (cells.map V.int)) ∧ 0 ≤ i ∧ 0 ≤ a ∧ 0 ≤ x ∧ x < 2147483648
theorem BxAt.same {H H' : Hp} {bx cs : Addr} (h : BxAt H bx cs) (e : Same H H') : BxAt H' bx cs :=
  let ⟨cells, i, a, x, c, h1, h2, h3⟩ := h.ex
  ⟨cells, i, a, x, c, e _ _ h1, e _ _ h2, h3⟩
/-- it stays where something else is written -/
theorem BxAt.upd {H : Hp} {bx cs a : Addr} {o : HO} (h : BxAt H bx cs) (h1 : bx ≠ a) (h2 : cs ≠ a) : BxAt (upd H a o) bx cs :=
  let ⟨cells, i, b, x, c, e1, e2, h3⟩ := h.ex
  ⟨cells, i, b, x, c, by rw [upd_ne h1]; exact e1, by rw [upd_ne h2]; exact e2, h3⟩
theorem BxAt.nf {H : Hp} {bx cs a : Addr} (h : BxAt H bx cs) (e : H a = none) : bx ≠ a ∧ cs ≠ a :=
  let ⟨_, _, _, _, _, e1, e2, _⟩ := h.ex
  ⟨ne_of_none e1 e, ne_of_none e2 e⟩
def spTake (K : PySem.W.Frag) : Sp := fun vs H Q _ => ∃ (bx cs : Addr) (many : Int), vs = [.ref bx, .int many] ∧ BxAt H bx cs ∧ 1 ≤ many ∧ many ≤ 1000000000 ∧ ∀ H' (r : Int), 0 ≤ r → r < many → BxAt H' bx cs → But bx H H' → Q (.int r) H'
theorem fm_nn {a b : Int} (h : 0 < b) : 0 ≤ a.fmod b ∧ a.fmod b < b := ⟨Int.fmod_nonneg_of_pos a h, Int.fmod_lt_of_pos a h⟩
theorem at5 {a b c d e : V} : atI [a, b, c, d, e] 0 = some a ∧ atI [a, b, c, d, e] 1 = some b ∧ atI [a, b, c, d, e] 2 = some c ∧ atI [a, b, c, d, e] 3 = some d ∧ atI [a, b, c, d, e] 4 = some e :=
  ⟨atI_nat (j := 0) rfl, atI_nat (j := 1) rfl, atI_nat (j := 2) rfl, atI_nat (j := 3) rfl, atI_nat (j := 4) rfl⟩
section
variable {P : Program} {w : World} {K : PySem.W.Frag} {mg : Str → Option Value} {base : Heap}
theorem ok_take (T : Top K mg) : FnOk P w K mg base CX0 1 (He.fAd K ("_law_take", none)) (fdOf K ("_law_take", none)) ["_law_box_here", "_law_many"] (spTake K) := by
  refine fd_ok T.d__law_take sc__law_take (fun vs H Q E h => ?_) (fun cdv A outer s H vs Q E hr h => ?_)
  · obtain ⟨bx, cs, many, rfl, _⟩ := h
    rfl
  · obtain ⟨bx, cs, many, rfl, ⟨cells, i, a, x, c, hb, hc, hi, ha, hx0, hx1⟩, hm1, hm2, k⟩ := h
    have nd := sc__law_take.nd
    refine ⟨_, pss_cons (ps_set (i := 2) nd rfl (Or.inl rfl) (pe_ix ix_list (pv 0) pe_int (fun _ _ => rfl)))
      (Evl.pss_cut (ps_if (PW.pt (pw_and (pt_cmpR op_eq (pe_ix ix_list (pv 0) pe_int (fun _ _ => rfl)) pe_int (nomark _)) (pw_and1 (pt_cmpR op_lt (pe_ix ix_list (pv 0) pe_int (fun _ _ => rfl)) (pe_callB call_len_seq (by rfl) T.n_len (by decide +kernel) (pa_cons (pv 2) pa_nil)) (nomark _)))))
        (pss_cons (ps_set (i := 3) nd rfl (Or.inl rfl) (pe_ix ix_list (pv 2) (pe_ix ix_list (pv 0) pe_int (fun _ _ => rfl)) (fun _ _ => rfl)))
        (pss_cons (ps_asg (pe_op op_add (pe_ix ix_list (pv 0) pe_int (fun _ _ => rfl)) pe_int) (pg_sub (pv 0) pe_int set_list))
        (pss_one (ps_if (pt_cmpR op_ge (pv 3) (pe_op op_pow pe_int pe_int) (nomark _))
          (pss_one (ps_asg (pe_op op_sub (pv 3) (pe_op op_pow pe_int pe_int)) (pg_sub (pv 0) pe_int set_list)))
          (pss_one (ps_asg (pe_op op_modN (pe_callTy call_int1 (by rfl) T.n_int (by decide +kernel) (pa_cons (pe_op op_add (pe_op op_add (pe_op op_mul (pe_ix ix_list (pv 0) pe_int (fun _ _ => rfl)) pe_int) (pe_op op_mul (pe_op op_modN (pe_callTy call_int1 (by rfl) T.n_int (by decide +kernel) (pa_cons (pv 3) pa_nil)) pe_int) pe_int)) pe_int) pa_nil)) pe_int) (pg_sub (pv 0) pe_int set_list))))))) pss_nil)
      (pss_cons (ps_if (pt_cmpR op_gt (pe_ix ix_list (pv 0) pe_int (fun _ _ => rfl)) pe_int (nomark _))
        (pss_cons (ps_set (i := 4) nd rfl (Or.inl rfl) (pe_op op_modN (pe_callTy call_int1 (by rfl) T.n_int (by decide +kernel) (pa_cons (pe_ix ix_list (pv 0) pe_int (fun _ _ => rfl)) pa_nil)) (pv 1)))
        (pss_cons (ps_asg (pe_op op_fdivN (pe_ix ix_list (pv 0) pe_int (fun _ _ => rfl)) (pv 1)) (pg_sub (pv 0) pe_int set_list))
        (pss_one (ps_ret (pv 4))))) pss_nil)
      (pss_cons (ps_asg (pe_op op_add (pe_ix ix_list (pv 0) pe_int (fun _ _ => rfl)) pe_int) (pg_sub (pv 0) pe_int set_list))
      (pss_cons (ps_asg (pe_op op_modN (pe_callTy call_int1 (by rfl) T.n_int (by decide +kernel) (pa_cons (pe_op op_add (pe_op op_add (pe_op op_mul (pe_ix ix_list (pv 0) pe_int (fun _ _ => rfl)) pe_int) (pe_op op_mul (pe_ix ix_list (pv 0) pe_int (fun _ _ => rfl)) pe_int)) pe_int) pa_nil)) pe_int) (pg_sub (pv 0) pe_int set_list))
      (pss_cons (ps_set (i := 5) nd rfl (Or.inl rfl) (pe_op op_modN (pe_callTy call_int1 (by rfl) T.n_int (by decide +kernel) (pa_cons (pe_op op_mul (pe_ix ix_list (pv 0) pe_int (fun _ _ => rfl)) (pe_op op_add (pe_op op_modN (pe_callTy call_int1 (by rfl) T.n_int (by decide +kernel) (pa_cons (pe_ix ix_list (pv 0) pe_int (fun _ _ => rfl)) pa_nil)) pe_int) pe_int)) pa_nil)) pe_int))
      (pss_one (ps_ret (pe_op op_modN (pe_op op_fdivN (pv 5) pe_int) (pv 1))))))))), ?_⟩
    have ncb : cs ≠ bx := fun z => by
      rw [z, hb] at hc
      cases cells with
      | nil => cases hc
      | cons q r => cases hc
    obtain ⟨g0, g1, g2, g3, g4⟩ := @at5 (.ref cs) (.int i) (.int a) (.int x) (.int c)
    refine ⟨_, rfl, bx, _, _, _, rfl, rfl, SqL.of hb, g0, ?_⟩
    refine ⟨fun σ' H' => ∃ (v3 : Option V) (i' a' x' : Int), σ' = [some (.ref bx), some (.int many), some (.ref cs), v3, none, none] ∧ H' bx = some (.lst [.ref cs, .int i', .int a', .int x', .int c]) ∧ But bx H H' ∧ 0 ≤ i' ∧ 0 ≤ a' ∧ 0 ≤ x' ∧ x' < 2147483648, ?_, ?_⟩
    · refine ⟨_, rfl, bx, _, _, _, rfl, rfl, SqL.of hb, g2, rfl, _, rfl, ?_⟩
      by_cases c1 : a = 0
      · refine dT (congrArg V.int c1) ⟨_, rfl, bx, _, _, _, rfl, rfl, SqL.of hb, g1, _, rfl, cs, _, rfl, .inl (SqL.of hc), _, _, rfl, rfl, _, rfl, ?_⟩
        rw [List.length_map]
        by_cases c2 : i < cells.length
        · refine dT c2 ?_
          refine ⟨_, rfl, _, rfl, bx, _, _, _, rfl, rfl, SqL.of hb, g1, cs, _, _, _, rfl, rfl, SqL.of hc, at_int hi c2, ?_⟩
          refine ⟨_, rfl, bx, _, _, _, rfl, rfl, SqL.of hb, g1, _, _, rfl, rfl, _, rfl, bx, _, _, 1, rfl, rfl, hb, rfl, ?_⟩
          have hb1 : (upd H bx (.lst [.ref cs, .int (i + 1), .int a, .int x, .int c])) bx = some (.lst [.ref cs, .int (i + 1), .int a, .int x, .int c]) := upd_same
          obtain ⟨f0, f1, f2, f3, f4⟩ := @at5 (.ref cs) (.int (i + 1)) (.int a) (.int x) (.int c)
          refine ⟨_, rfl, _, _, rfl, rfl, ⟨by decide, by decide, by decide⟩, _, _, rfl, rfl, _, rfl, ?_⟩
          by_cases c3 : (10 : Int) ^ (18 : Int).toNat ≤ gi cells i
          · refine dT c3 ?_
            refine ⟨_, rfl, _, _, rfl, rfl, ⟨by decide, by decide, by decide⟩, _, _, rfl, rfl, _, rfl, bx, _, _, 2, rfl, rfl, hb1, rfl, ?_⟩
            exact ⟨_, _, _, _, rfl, upd_same, But.refl.upd.upd, by omega, by omega, hx0, hx1⟩
          · refine dF c3 ?_
            have m1 := fm_nn (a := gi cells i) (b := 2147483629) (by decide)
            refine ⟨_, rfl, bx, _, _, _, rfl, rfl, SqL.of hb1, f3, _, _, rfl, rfl, .inr ⟨by decide, by decide⟩, ?_⟩
            refine ⟨_, rfl, .inl ⟨_, rfl, _, _, rfl, rfl, (show (2147483629 : Int) ≠ 0 by decide), _, _, rfl, rfl, .inr ⟨by decide, by decide⟩, _, _, rfl, rfl, _, _, rfl, rfl, ?_⟩⟩
            refine .inl ⟨_, rfl, _, _, rfl, rfl, (show (2147483647 : Int) ≠ 0 by decide), _, rfl, bx, _, _, 3, rfl, rfl, hb1, rfl, ?_⟩
            have m2 := fm_nn (a := x * 48271 + (gi cells i).fmod 2147483629 * 69621 + 40507) (b := 2147483647) (by decide)
            exact ⟨_, _, _, _, rfl, upd_same, But.refl.upd.upd, by omega, ha, m2.1, by omega⟩
        · refine dF c2 ⟨_, _, _, _, rfl, hb, But.refl, hi, ha, hx0, hx1⟩
      · exact dF (fun z => c1 (V.int.inj z)) ⟨_, _, _, _, rfl, hb, But.refl, hi, ha, hx0, hx1⟩
    · rintro σ' H1 ⟨v3, i', a', x', rfl, hb1, b1, hi1, ha1, hx2, hx3⟩
      have hc1 : H1 cs = some (.lst (cells.map V.int)) := b1 _ _ hc ncb
      obtain ⟨g0, g1, g2, g3, g4⟩ := @at5 (.ref cs) (.int i') (.int a') (.int x') (.int c)
      have hmn : many ≠ 0 := by omega
      have mm : ∀ z : Int, 0 ≤ z.fmod many ∧ z.fmod many < many := fun z => fm_nn (by omega)
      refine ⟨_, rfl, bx, _, _, _, rfl, rfl, SqL.of hb1, g2, _, _, rfl, rfl, _, rfl, ?_⟩
      by_cases c1 : 0 < a'
      · refine dT c1 ?_
        refine ⟨_, rfl, bx, _, _, _, rfl, rfl, SqL.of hb1, g2, .inl ⟨_, rfl, _, rfl, _, _, rfl, rfl, hmn, ?_⟩⟩
        refine ⟨_, rfl, bx, _, _, _, rfl, rfl, SqL.of hb1, g2, _, rfl, _, _, rfl, rfl, ⟨hmn, by omega⟩, _, rfl, bx, _, _, 2, rfl, rfl, hb1, rfl, ?_⟩
        refine ⟨_, rfl, k _ _ (mm a').1 (mm a').2 ⟨cells, i', a'.fdiv many, x', c, upd_same, by rw [upd_ne ncb]; exact hc1, hi1, Int.fdiv_nonneg ha1 (by omega), hx2, hx3⟩ b1.upd⟩
      · refine dF c1 ?_
        refine ⟨_, rfl, bx, _, _, _, rfl, rfl, SqL.of hb1, g4, _, _, rfl, rfl, _, rfl, bx, _, _, 4, rfl, rfl, hb1, rfl, ?_⟩
        have hb2 : (upd H1 bx (.lst [.ref cs, .int i', .int a', .int x', .int (c + 1)])) bx = some (.lst [.ref cs, .int i', .int a', .int x', .int (c + 1)]) := upd_same
        obtain ⟨f0, f1, f2, f3, f4⟩ := @at5 (.ref cs) (.int i') (.int a') (.int x') (.int (c + 1))
        refine ⟨_, rfl, bx, _, _, _, rfl, rfl, SqL.of hb2, f3, _, _, rfl, rfl, .inr ⟨by decide, by decide⟩, ?_⟩
        refine ⟨_, rfl, bx, _, _, _, rfl, rfl, SqL.of hb2, f4, _, _, rfl, rfl, .inr ⟨by decide, by decide⟩, _, _, rfl, rfl, _, _, rfl, rfl, ?_⟩
        refine .inl ⟨_, rfl, _, _, rfl, rfl, (show (2147483647 : Int) ≠ 0 by decide), _, rfl, bx, _, _, 3, rfl, rfl, hb2, rfl, ?_⟩
        have m2 := fm_nn (a := x' * 39373 + (c + 1) * 30269 + 17) (b := 2147483647) (by decide)
        have hb3 : ∀ G : Hp, (upd G bx (.lst [.ref cs, .int i', .int a', .int ((x' * 39373 + (c + 1) * 30269 + 17).fmod 2147483647), .int (c + 1)])) bx = some (.lst [.ref cs, .int i', .int a', .int ((x' * 39373 + (c + 1) * 30269 + 17).fmod 2147483647), .int (c + 1)]) := fun _ => upd_same
        obtain ⟨e0, e1, e2, e3, e4⟩ := @at5 (.ref cs) (.int i') (.int a') (.int ((x' * 39373 + (c + 1) * 30269 + 17).fmod 2147483647)) (.int (c + 1))
        have m3 := fm_nn (a := ((x' * 39373 + (c + 1) * 30269 + 17).fmod 2147483647)) (b := 65521) (by decide)
        refine ⟨_, rfl, bx, _, _, _, rfl, rfl, SqL.of (hb3 _), e3, ?_⟩
        refine ⟨_, rfl, bx, _, _, _, rfl, rfl, SqL.of (hb3 _), e3, .inl ⟨_, rfl, _, _, rfl, rfl, (show (65521 : Int) ≠ 0 by decide), _, _, rfl, rfl, _, _, rfl, rfl, .inl ⟨by omega, by omega⟩, ?_⟩⟩
        refine .inl ⟨_, rfl, _, _, rfl, rfl, (show (2147483629 : Int) ≠ 0 by decide), ?_⟩
        refine ⟨_, rfl, _, _, rfl, rfl, ⟨by decide, by decide⟩, _, rfl, _, _, rfl, rfl, hmn, ?_⟩
        refine k _ _ (mm _).1 (mm _).2 ⟨cells, i', a', ((x' * 39373 + (c + 1) * 30269 + 17).fmod 2147483647), c + 1, hb3 _, ?_, hi1, ha1, m2.1, by omega⟩ b1.upd.upd
        rw [upd_ne ncb, upd_ne ncb]; exact hc1
end
end Lk

set_option maxHeartbeats 4000000
/-! The law's box, sizes; a drawn program. -/
namespace Lk
open PySem PySem.Spec PyProof.Rows L2
theorem bx_ne {H : Hp} {bx cs a : Addr} {l : List Int} (h : BxAt H bx cs) (e : H a = some (.lst (l.map V.int))) : a ≠ bx := fun z => by
  obtain ⟨cells, i, b, x, c, h1, _⟩ := h.ex
  rw [z, h1] at e
  cases l with
  | nil => cases e
  | cons q r => cases e
/-! data -/
def pdI (l : List Int) : PyData := .list (l.map .int)
theorem dpI_all {K : PySem.W.Frag} {H : Hp} : ∀ l : List Int, DpAll K H (l.map V.int) (l.map .int)
  | [] => .nil
  | i :: l => .cons (.int i) (dpI_all l)
theorem dpI {K : PySem.W.Frag} {H : Hp} {a : Addr} {l : List Int} (h : SqL K H a (l.map V.int)) : Dp K H (.ref a) (pdI l) := .lst h (dpI_all l)
theorem shI_all : ∀ l : List Int, PyData.canLayAll0 (l.map .int) = true ∧ PyData.depthAll (l.map .int) = 0
  | [] => ⟨rfl, rfl⟩
  | i :: l => by
    obtain ⟨h1, h2⟩ := shI_all l
    refine ⟨?_, ?_⟩
    · show (true && PyData.canLayAll0 (l.map .int)) = true
      rw [h1]; rfl
    · show max 0 (PyData.depthAll (l.map .int)) = 0
      rw [h2]; rfl
theorem shI (l : List Int) : SeqAt.shaped (pdI l) = true := by
  obtain ⟨h1, h2⟩ := shI_all l
  unfold SeqAt.shaped pdI
  show (PyData.canLayAll0 (l.map .int) && decide (PyData.depthAll (l.map .int) + 1 ≤ 64)) = true
  rw [h1, h2]; rfl
theorem eqI_all : ∀ a b : List Int, PyData.eqvAll (a.map .int) (b.map .int) = decide (a = b)
  | [], [] => rfl
  | [], _ :: _ => rfl
  | _ :: _, [] => rfl
  | x :: a, y :: b => by
    show ((x == y) && PyData.eqvAll (a.map .int) (b.map .int)) = _
    rw [eqI_all a b, Bool.beq_eq_decide_eq]
    simp
theorem eqI (a b : List Int) : PyData.eqv (pdI a) (pdI b) = decide (a = b) := eqI_all a b
theorem inV_int (v : Int) (l : List Int) : inV (.int v) (l.map V.int) = decide (v ∈ l) := by
  unfold inV
  rw [List.any_map]
  show (l.any fun y => y == v) = _
  induction l with
  | nil => rfl
  | cons y l ih =>
    rw [List.any_cons, ih, Bool.beq_eq_decide_eq]
    by_cases h : v = y
    · simp [h]
    · simp [h, Ne.symm h]
theorem flat_ints (l : List Int) : (l.map V.int).all flatV = true := by
  rw [List.all_eq_true]
  intro x hx
  obtain ⟨i, _, rfl⟩ := List.mem_map.mp hx
  rfl
def spBox (K : PySem.W.Frag) : Sp := fun vs H Q _ => ∃ (a : Addr) (l : List Int), vs = [.ref a] ∧ SqL K H a (l.map V.int) ∧ l.length ≤ 63 ∧ ∀ H' bx cs, Same H H' → H bx = none → H cs = none → BxAt H' bx cs → Q (.ref bx) H'
def spSize (K : PySem.W.Frag) : Sp := fun vs H Q _ => ∃ bx cs : Addr, vs = [.ref bx] ∧ BxAt H bx cs ∧ ∀ H' (r : Int), 0 ≤ r → r ≤ 60 → BxAt H' bx cs → But bx H H' → Q (.int r) H'
def spFar (K : PySem.W.Frag) : Sp := fun vs H Q _ => ∃ bx cs : Addr, vs = [.ref bx] ∧ BxAt H bx cs ∧ ∀ H' (r : Int), BxAt H' bx cs → But bx H H' → Q (.int r) H'
section
variable {P : Program} {w : World} {K : PySem.W.Frag} {mg : Str → Option Value} {base : Heap}
theorem ok_box (T : Top K mg) : FnOk P w K mg base CX0 1 (He.fAd K ("_law_box", none)) (fdOf K ("_law_box", none)) ["_law_script"] (spBox K) := by
  refine fd_ok T.d__law_box sc__law_box (fun vs H Q E h => ?_) (fun cdv A outer s H vs Q E hr h => ?_)
  · obtain ⟨a, l, rfl, _⟩ := h
    rfl
  · obtain ⟨a, l, rfl, hs, hl, k⟩ := h
    have nd := sc__law_box.nd
    refine ⟨_, pss_one (ps_ret (pe_lst (pa_cons (pe_lc (own := [("_law_cell", 1)]) (g := gName 1) (tt := tYes) rfl nd (pi_list (pe_slice sl_list (pv 0) po_none (po_some pe_int))) (blkOk_by (own := [("_law_cell", 1)]) (N := ["_law_script", "_law_cell"]) (sc := defScope s__law_box) (by decide +kernel)) (fun _ _ _ _ _ => pg_name (i := 1) nd rfl (Or.inl rfl)) (fun _ _ _ _ _ => pts_nil) (fun _ _ _ _ _ => pe_callTy call_int1 (by rfl) T.n_int (by decide +kernel) (pa_cons (pv 1) pa_nil)))
      (pa_cons pe_int (pa_cons pe_int (pa_cons pe_int (pa_cons pe_int pa_nil))))))), ?_⟩
    refine ⟨_, rfl, _, rfl, a, _, rfl, hs, fun q hq => ⟨q, rfl, ⟨_, SqL.of upd_same⟩, fun D hD => ?_⟩⟩
    have s1 : ∀ o, Same H (upd H q o) := fun _ => Same.new hq
    have fin : ∀ (H' : Hp) (xs : List Int), Same H H' → H' D = some (.lst (xs.map V.int)) → ∀ bx, H' bx = none → Q (.ref bx) (upd H' bx (.lst [.ref D, .int 0, .int 0, .int 45518, .int 0])) := fun H' xs e eD bx hb =>
      k _ bx D (e.trans (Same.new hb)) (e.free hb) ((s1 (.lst [])).free (by rw [upd_ne (fun z => by rw [z, upd_same] at hD; cases hD)]; rw [upd_ne (fun z => by rw [z, upd_same] at hD; cases hD)] at hD; exact hD)) ⟨xs, 0, 0, 45518, 0, upd_same, by rw [upd_ne (ne_of_none eD hb)]; exact eD, by decide, by decide, by decide, by decide⟩
    refine lc_list (K := K) (a := q) (fun i H' => Same (upd H q _) H' ∧ ∃ xs : List Int, H' D = some (.lst (xs.map V.int)) ∧ xs.length = i) ⟨Same.new hD, [], upd_same, rfl⟩ (fun i H' _ h => SqL.of (h.1 _ _ upd_same)) ?_ ?_
    · rintro i x H' hx ⟨e, xs, eD, hxs⟩
      obtain ⟨v, hv, rfl⟩ := cut_mem (List.mem_of_getElem? hx)
      have hi : i < l.length := Nat.lt_of_lt_of_le (List.getElem?_eq_some_iff.mp hx).1 cut_len
      refine ⟨rfl, _, rfl, .inl ⟨_, rfl, _, eD, ?_, fun b o eb => ?_, xs ++ [v], ?_, ?_⟩⟩
      · rw [List.length_map, sizeLine_eq]; omega
      · rw [upd_ne (ne_of_none eb hD)]; exact e b o eb
      · rw [upd_same, List.map_append]; rfl
      · rw [List.length_append]; show xs.length + 1 = _; omega
    · rintro H' ⟨e, xs, eD, hxs⟩
      exact ⟨by show 5 ≤ sizeLine; decide, fin H' xs ((s1 _).trans e) eD⟩
theorem ok_size (T : Top K mg) : FnOk P w K mg base CX0 2 (He.fAd K ("_law_size", none)) (fdOf K ("_law_size", none)) ["_law_box_here"] (spSize K) := by
  refine fd_ok T.d__law_size sc__law_size (fun vs H Q E h => ?_) (fun cdv A outer s H vs Q E hr h => ?_)
  · obtain ⟨bx, cs, rfl, _⟩ := h
    rfl
  · obtain ⟨bx, cs, rfl, B, k⟩ := h
    have nd := sc__law_size.nd
    refine ⟨_, pss_cons (ps_if (pt_cmpR op_eq (pe_call (ok_take T) hr rfl T.g__law_take T.d__law_take.kp (b__law_take T) .nil pass0 (pa_cons (pv 0) (pa_cons pe_int pa_nil))) pe_int (nomark _))
        (pss_one (ps_ret (pe_call (ok_take T) hr rfl T.g__law_take T.d__law_take.kp (b__law_take T) .nil pass0 (pa_cons (pv 0) (pa_cons pe_int pa_nil))))) pss_nil)
      (pss_cons (ps_set (i := 1) nd rfl (Or.inl rfl) (pe_call (ok_take T) hr rfl T.g__law_take T.d__law_take.kp (b__law_take T) .nil pass0 (pa_cons (pv 0) (pa_cons pe_int pa_nil))))
      (pss_cons (ps_if (pt_cmpR op_gt (pv 1) pe_int (nomark _)) (pss_one (ps_set (i := 1) nd rfl (Or.inl rfl) (pe_op op_sub (pv 1) pe_int))) pss_nil)
      (pss_one (ps_ret (pv 1))))), ?_⟩
    refine ⟨_, rfl, bx, cs, 8, rfl, B, by decide, by decide, fun H1 r r0 r1 B1 b1 => ⟨rfl, _, rfl, ?_⟩⟩
    by_cases c : r = 7
    · exact dT (congrArg V.int c) ⟨_, rfl, bx, cs, 61, rfl, B1, by decide, by decide, fun H2 r2 q0 q1 B2 b2 => k H2 r2 q0 (by omega) B2 (b1.trans b2)⟩
    · refine dF (fun z => c (V.int.inj z)) ⟨_, rfl, bx, cs, 11, rfl, B1, by decide, by decide, fun H2 r2 q0 q1 B2 b2 => ⟨_, rfl, _, _, rfl, rfl, _, rfl, ?_⟩⟩
      by_cases c2 : (6 : Int) < r2
      · exact dT c2 ⟨_, rfl, _, _, rfl, rfl, _, rfl, k H2 (r2 - 4) (by omega) (by omega) B2 (b1.trans b2)⟩
      · exact dF c2 ⟨_, rfl, k H2 r2 q0 (by omega) B2 (b1.trans b2)⟩
theorem ok_far (T : Top K mg) : FnOk P w K mg base CX0 2 (He.fAd K ("_law_far_size", none)) (fdOf K ("_law_far_size", none)) ["_law_box_here"] (spFar K) := by
  refine fd_ok T.d__law_far_size sc__law_far_size (fun vs H Q E h => ?_) (fun cdv A outer s H vs Q E hr h => ?_)
  · obtain ⟨bx, cs, rfl, _⟩ := h
    rfl
  · obtain ⟨bx, cs, rfl, B, k⟩ := h
    have nd := sc__law_far_size.nd
    refine ⟨_, pss_cons (ps_if (pt_cmpR op_eq (pe_call (ok_take T) hr rfl T.g__law_take T.d__law_take.kp (b__law_take T) .nil pass0 (pa_cons (pv 0) (pa_cons pe_int pa_nil))) pe_int (nomark _))
        (pss_one (ps_ret (pe_op op_sub (pe_op op_sub pe_int pe_int) (pe_call (ok_take T) hr rfl T.g__law_take T.d__law_take.kp (b__law_take T) .nil pass0 (pa_cons (pv 0) (pa_cons (pe_op op_pow pe_int pe_int) pa_nil)))))) pss_nil)
      (pss_one (ps_ret (pe_op op_add pe_int (pe_call (ok_take T) hr rfl T.g__law_take T.d__law_take.kp (b__law_take T) .nil pass0 (pa_cons (pv 0) (pa_cons (pe_op op_pow pe_int pe_int) pa_nil)))))), ?_⟩
    refine ⟨_, rfl, bx, cs, 2, rfl, B, by decide, by decide, fun H1 r r0 r1 B1 b1 => ⟨rfl, _, rfl, ?_⟩⟩
    by_cases c : r = 0
    · exact dT (congrArg V.int c) ⟨_, _, rfl, rfl, _, rfl, _, _, rfl, rfl, ⟨by decide, by decide, by decide⟩, bx, cs, _, rfl, B1, by decide, by decide, fun H2 r2 q0 q1 B2 b2 => ⟨_, _, rfl, rfl, k H2 _ B2 (b1.trans b2)⟩⟩
    · exact dF (fun z => c (V.int.inj z)) ⟨_, rfl, _, _, rfl, rfl, ⟨by decide, by decide, by decide⟩, bx, cs, _, rfl, B1, by decide, by decide, fun H2 r2 q0 q1 B2 b2 => ⟨_, _, rfl, rfl, k H2 _ B2 (b1.trans b2)⟩⟩
end
end Lk

set_option maxHeartbeats 4000000
/-! The law's drawn program. -/
namespace Lk
open PySem PySem.Spec PyProof.Rows L2
def spProg (K : PySem.W.Frag) : Sp := fun vs H Q _ => ∃ (bx cs nd : Addr) (pairs : Nat) (tidy : Bool) (ns : List Int), vs = [.ref bx, .ref nd, .int (pairs : Nat), .bl tidy] ∧ BxAt H bx cs ∧ H nd = some (.lst (ns.map V.int)) ∧ pairs ≤ 16 ∧ (pairs ≠ 0 → ns ≠ []) ∧ ns.length ≤ 1000 ∧
  ∀ H' r (row : List Int), row.length ≤ 2 * pairs → BxAt H' bx cs → But bx H H' → H r = none → H' r = some (.lst (row.map V.int)) → Q (.ref r) H'
theorem filter_take {l : List Int} {f : Int → Bool} {i : Nat} {x : Int} (h : l[i]? = some x) : (l.take (i + 1)).filter f = (l.take i).filter f ++ if f x = true then [x] else [] := by
  rw [take_snoc h, List.filter_append, List.filter_cons, List.filter_nil]
theorem er_map {α β : Type} (f : α → β) : ∀ (l : List α) (i : Nat), (l.map f).eraseIdx i = (l.eraseIdx i).map f
  | [], _ => rfl
  | _ :: _, 0 => rfl
  | a :: l, i + 1 => congrArg (f a :: ·) (er_map f l i)
/-- a test told by what is known behind it -/
def tCutT (t : TT) : TT := fun σ H Q => ∃ R : Bool → Hp → Prop, t σ H R ∧ ∀ b H1, R b H1 → Q b H1
theorem pt_cut {X : Cx} {c : Expr} {t : TT} (h : PT X c t) : PT X c (tCutT t) :=
  ⟨fun pins s σ H Q I ⟨R, h1, h2⟩ => wpAny_mono (h.run pins s σ H R I h1) (fun b s' ⟨H', I', q⟩ => ⟨H', I', h2 _ _ q⟩) fun _ _ q => q⟩
section
variable {P : Program} {w : World} {K : PySem.W.Frag} {mg : Str → Option Value} {base : Heap}
/-- [x for x in a if x not in b]: the reading -/
theorem lc_notin {a b : Addr} {ns os : List Int} {sl : Nat} {σ : L2.St} {vs : List Nat} {te : TE} {tt : TT} {H1 : Hp} {D : Addr} {Qd : Hp → Prop} (hD : H1 D = none) (ha : H1 a = some (.lst (ns.map V.int))) (hb : H1 b = some (.lst (os.map V.int))) (hl : ns.length ≤ 100000)
    (ht : ∀ (v : Int) (H : Hp) (Q : Bool → Hp → Prop), H b = some (.lst (os.map V.int)) → Q (!decide (v ∈ os)) H → gName sl (.int v) (wipe σ vs) H fun σ2 H2 => wipe σ2 vs = wipe σ vs ∧ tt σ2 H2 Q)
    (he : ∀ (v : Int) (H : Hp) (Q : VK), Q (.int v) H → te ((wipe σ vs).set sl (some (.int v))) H Q)
    (hd : ∀ H, Same H1 H → H D = some (.lst ((ns.filter fun v => !decide (v ∈ os)).map V.int)) → Qd H) :
    ∃ W : Nat → Nat → Hp → Prop, (∃ m, W 0 m (upd H1 D (.lst []))) ∧ ∀ i m H, W i m H →
      ((Itl K a).stop i H ∧ Qd H) ∨ ((Itl K a).go i H ∧ ∃ Nx : Hp → Prop, (∀ H', Nx H' → ∃ m', m' < m ∧ W (i + 1) m' H') ∧ ∀ x H', (Itl K a).yld i H x H' → gName sl x (wipe σ vs) H' fun σ2 H2 => wipe σ2 vs = wipe σ vs ∧ tt σ2 H2 fun b H3 =>
        if b = true then te σ2 H3 fun y H4 => ∃ acc, H4 D = some (.lst acc) ∧ acc.length < sizeLine ∧ Nx (upd H4 D (.lst (acc ++ [y]))) else Nx H3) := by
  refine lc_list (K := K) (a := a) (xs := ns.map V.int) (fun i H' => Same H1 H' ∧ H' D = some (.lst (((ns.take i).filter fun v => !decide (v ∈ os)).map V.int))) ⟨Same.new hD, upd_same⟩ (fun i H' _ h => SqL.of (h.1 _ _ ha)) ?_ ?_
  · rintro i x H' hx ⟨e, eD⟩
    obtain ⟨v, hv, rfl⟩ := map_at hx
    have hi := (List.getElem?_eq_some_iff.mp hv).1
    obtain ⟨q1, q2⟩ := ht v H' (fun b H3 => if b = true then te ((wipe σ vs).set sl (some (.int v))) H3 fun y H4 => ∃ acc, H4 D = some (.lst acc) ∧ acc.length < sizeLine ∧ (Same H1 (upd H4 D (.lst (acc ++ [y]))) ∧ (upd H4 D (.lst (acc ++ [y]))) D = some (.lst (((ns.take (i + 1)).filter fun v => !decide (v ∈ os)).map V.int))) else Same H1 H3 ∧ H3 D = some (.lst (((ns.take (i + 1)).filter fun v => !decide (v ∈ os)).map V.int))) (e _ _ hb) (by
      rw [filter_take hv]
      cases c : (!decide (v ∈ os)) with
      | true =>
        refine iteT (he _ _ _ ⟨_, eD, ?_, fun b o eb => ?_, ?_⟩)
        · have := List.length_filter_le (fun v => !decide (v ∈ os)) (ns.take i)
          rw [List.length_take] at this
          rw [List.length_map, sizeLine_eq]
          omega
        · rw [upd_ne (ne_of_none eb hD)]; exact e b o eb
        · rw [upd_same, if_pos rfl, List.map_append]; rfl
      | false =>
        refine iteF ⟨e, ?_⟩
        rw [if_neg (by decide), List.append_nil]
        exact eD)
    exact ⟨q1, q2⟩
  · rintro H' ⟨e, eD⟩
    rw [List.length_map, List.take_length] at eD
    exact hd H' e eD
theorem ok_program (T : Top K mg) : FnOk P w K mg base CX0 2 (He.fAd K ("_law_program", none)) (fdOf K ("_law_program", none)) ["_law_box_here", "_law_nodes", "_law_pairs", "_law_tidy"] (spProg K) := by
  refine fd_ok T.d__law_program sc__law_program (fun vs H Q E h => ?_) (fun cdv A outer s H vs Q E hr h => ?_)
  · obtain ⟨bx, cs, nd, pairs, tidy, ns, rfl, _⟩ := h
    rfl
  · obtain ⟨bx, cs, na, pairs, tidy, ns, rfl, B, hna, hp, hne, hnl, k⟩ := h
    have nd := sc__law_program.nd
    refine ⟨_, pss_cons (ps_set (i := 4) nd rfl (Or.inr rfl) (pe_lst pa_nil))
      (pss_cons (ps_set (i := 5) nd rfl (Or.inr rfl) (pe_lst pa_nil))
      (pss_cons (ps_for PassesOwn.never rfl (pi_range1 rfl T.n_range (pa_cons (pe_op op_mul pe_int (pv 2)) pa_nil)) (pg_name (i := 6) nd rfl (Or.inl rfl))
        (pss_cons (ps_setLc (i := 8) (own := [("_law_node", 7)]) (g := gName 7) (tt := tTest (tOp (rIn K true) (tVar 7) (tVar 5))) rfl nd rfl rfl (sw_true rfl rfl rfl (by decide +kernel)) (pi_list (pv 1)) (blkOk_by (own := [("_law_node", 7)]) (N := ["_law_box_here", "_law_nodes", "_law_pairs", "_law_tidy", "_law_row", "_law_outs", "_law_step", "_law_node", "_law_inside", "_law_must", "_law_place", "_law_fresh"]) (sc := defScope s__law_program) (by decide +kernel)) (fun _ _ _ _ _ => pg_name (i := 7) nd rfl (Or.inl rfl)) (fun _ _ _ _ _ => pts_one (pt_cmpR op_notIn_seq (pv 7) (pv 5) (by rfl))) (fun _ _ _ _ _ => pv 7))
        (Evl.pss_cut (ps_set (i := 9) nd rfl (Or.inl rfl) (pe_or (pe_cmpR op_eq (pe_callB call_len_seq (by rfl) T.n_len (by decide +kernel) (pa_cons (pv 5) pa_nil)) (pe_op op_sub (pe_op op_mul pe_int (pv 2)) (pv 6)) (nomark _)) (pe_one (pe_cmpR (op_eqD hr.units) (pv 8) (pe_lst pa_nil) (nomark _)))))
        (pss_one (ps_if (pt_cut (PW.pt (pw_or (pt_val (pv 9)) (pw_or1 (PW.pt (pw_and (pt_cmpR (op_neD hr.units) (pv 5) (pe_lst pa_nil) (nomark _)) (pw_and1 (pt_cmpR op_eq (pe_call (ok_take T) hr rfl T.g__law_take T.d__law_take.kp (b__law_take T) .nil pass0 (pa_cons (pv 0) (pa_cons pe_int pa_nil))) pe_int (nomark _)))))))))
          (pss_cons (ps_set (i := 10) nd rfl (Or.inl rfl) (pe_op op_sub (pe_callB call_len_seq (by rfl) T.n_len (by decide +kernel) (pa_cons (pv 5) pa_nil)) pe_int))
          (Evl.pss_cut (ps_if (pt_not (pt_val (pv 3))) (pss_one (ps_set (i := 10) nd rfl (Or.inl rfl) (pe_call (ok_take T) hr rfl T.g__law_take T.d__law_take.kp (b__law_take T) .nil pass0 (pa_cons (pv 0) (pa_cons (pe_callB call_len_seq (by rfl) T.n_len (by decide +kernel) (pa_cons (pv 5) pa_nil)) pa_nil))))) pss_nil)
          (pss_one (ps_expr (pe_bm PySem.F.plainAttrs_list PySem.F.slot_list_append PySem.F.type_list_append mt_append (pv 4) (pa_cons (pe_bm PySem.F.plainAttrs_list PySem.F.slot_list_pop PySem.F.type_list_pop mt_popAt (pv 5) (pa_cons (pv 10) pa_nil)) pa_nil))))))
          (pss_cons (ps_setLc (i := 11) (own := [("_law_node", 7)]) (g := gName 7) (tt := tTest (tOp (rIn K true) (tVar 7) (tVar 4))) rfl nd rfl rfl (sw_true rfl rfl rfl (by decide +kernel)) (pi_list (pv 8)) (blkOk_by (own := [("_law_node", 7)]) (N := ["_law_box_here", "_law_nodes", "_law_pairs", "_law_tidy", "_law_row", "_law_outs", "_law_step", "_law_node", "_law_inside", "_law_must", "_law_place", "_law_fresh"]) (sc := defScope s__law_program) (by decide +kernel)) (fun _ _ _ _ _ => pg_name (i := 7) nd rfl (Or.inl rfl)) (fun _ _ _ _ _ => pts_one (pt_cmpR op_notIn_seq (pv 7) (pv 4) (by rfl))) (fun _ _ _ _ _ => pv 7))
          (Evl.pss_cut (ps_if (PW.pt (pw_and (pt_cmpR (op_neD hr.units) (pv 11) (pe_lst pa_nil) (nomark _)) (pw_and1 (pt_cmpR op_gt (pe_call (ok_take T) hr rfl T.g__law_take T.d__law_take.kp (b__law_take T) .nil pass0 (pa_cons (pv 0) (pa_cons pe_int pa_nil))) pe_int (nomark _))))) (pss_one (ps_set (i := 8) nd rfl (Or.inl rfl) (pv 11))) pss_nil)
          (pss_cons (ps_set (i := 7) nd rfl (Or.inl rfl) (pe_ix ix_list (pv 8) (pe_call (ok_take T) hr rfl T.g__law_take T.d__law_take.kp (b__law_take T) .nil pass0 (pa_cons (pv 0) (pa_cons (pe_callB call_len_seq (by rfl) T.n_len (by decide +kernel) (pa_cons (pv 8) pa_nil)) pa_nil))) (fun _ _ => rfl)))
          (pss_cons (ps_expr (pe_bm PySem.F.plainAttrs_list PySem.F.slot_list_append PySem.F.type_list_append mt_append (pv 5) (pa_cons (pv 7) pa_nil)))
          (pss_one (ps_expr (pe_bm PySem.F.plainAttrs_list PySem.F.slot_list_append PySem.F.type_list_append mt_append (pv 4) (pa_cons (pe_op op_sub pe_int (pv 7)) pa_nil)))))))))))))
      (pss_one (ps_ret (pv 4))))), ?_⟩
    refine ⟨by decide, fun r hr0 => ⟨by decide, fun o ho => ?_⟩⟩
    have nor : o ≠ r := fun z => by rw [z, upd_same] at ho; cases ho
    have zo : H o = none := by rw [upd_ne nor] at ho; exact ho
    have s0 : Same H (upd (upd H r (.lst [])) o (.lst [])) := (Same.new hr0).trans (Same.new ho)
    have nbr := (B.nf hr0).1
    have ncr := (B.nf hr0).2
    have nbo := (B.nf zo).1
    have nco := (B.nf zo).2
    have nab := bx_ne B hna
    refine ⟨_, rfl, _, _, rfl, rfl, .inr ⟨by omega, by omega⟩, _, rfl, by omega, by omega, ?_⟩
    have e2p : (2 * (pairs : Int)).toNat = 2 * pairs := by omega
    rw [e2p]
    refine for_range (lo := 0) (n := 2 * pairs) (fun i σ' H' => ∃ (v6 v7 v8 v9 v10 v11 : Option V) (row os : List Int), σ' = [some (.ref bx), some (.ref na), some (.int (pairs : Nat)), some (.bl tidy), some (.ref r), some (.ref o), v6, v7, v8, v9, v10, v11] ∧ BxAt H' bx cs ∧ But bx H H' ∧ H' r = some (.lst (row.map V.int)) ∧ H' o = some (.lst (os.map V.int)) ∧ row.length ≤ i ∧ os.length ≤ i)
      ⟨none, none, none, none, none, none, [], [], rfl, B.same s0, But.of s0, by rw [upd_ne nor.symm, upd_same]; rfl, upd_same, Nat.le_refl _, Nat.le_refl _⟩ ?_ ?_
    · rintro i σ' H1 hi ⟨v6, v7, v8, v9, v10, v11, row, os, rfl, B1, b1, er, eo, hrow, hos⟩
      have hna1 := b1 _ _ hna nab
      refine ⟨_, rfl, na, rfl, ⟨_, SqL.of hna1⟩, fun D hD => ?_⟩
      refine lc_notin (b := o) (ns := ns) (os := os) hD hna1 eo (by omega) (fun v H Q h1 h2 => ?_) (fun v H Q h => ⟨_, rfl, h⟩) fun H2 s2 eD => ?_
      · refine ⟨rfl, _, rfl, _, rfl, o, _, rfl, .inl (SqL.of h1), rfl, flat_ints _, ?_⟩
        rw [inV_int]
        exact ⟨_, rfl, h2⟩
      have B2 := B1.same s2
      have b2 := b1.same s2
      have er2 := s2 _ _ er
      have eo2 := s2 _ _ eo
      have hif : (ns.filter fun v => !decide (v ∈ os)) = [] → os ≠ [] := fun h z => by
        subst z
        have : ns = [] := by
          rw [List.filter_eq_nil_iff] at h
          cases ns with
          | nil => rfl
          | cons a b => exact absurd (h a List.mem_cons_self) (by simp)
        exact hne (by omega) this
      generalize hins : (ns.filter fun v => !decide (v ∈ os)) = ins at eD hif
      have hinl : ins.length ≤ 1000 := by rw [← hins]; exact Nat.le_trans (List.length_filter_le _ _) hnl
      refine ⟨fun σ' H3 => ∃ must : Bool, σ' = [some (.ref bx), some (.ref na), some (.int (pairs : Nat)), some (.bl tidy), some (.ref r), some (.ref o), some (.int (0 + (i : Nat))), v7, some (.ref D), some (.bl must), v10, v11] ∧ Same H2 H3 ∧ (must = true → os ≠ []) ∧ (must = false → ins ≠ []), ?_, ?_⟩
      · refine ⟨_, rfl, o, _, rfl, .inl (SqL.of eo2), _, rfl, _, _, rfl, rfl, .inr ⟨by omega, by omega⟩, _, rfl, _, _, rfl, rfl, rfl, _, rfl, ?_⟩
        by_cases c : V.int ((os.map V.int).length : Nat) = V.int (2 * (pairs : Int) - (0 + (i : Int)))
        · have c' := V.int.inj c
          rw [List.length_map] at c'
          have hne2 : os ≠ [] := fun z => by rw [z] at c'; simp at c'; omega
          refine dT c ⟨true, rfl, Same.refl _, fun _ => hne2, fun z => (nomatch z)⟩
        · refine dF c ⟨_, rfl, by decide, fun e he => ?_⟩
          have s3 : ∀ ob, Same H2 (upd H2 e ob) := fun _ => Same.new he
          refine ⟨pdI ins, pdI [], dpI (SqL.of (s3 _ _ _ eD)), dpI (SqL.of upd_same), shI _, shI _, ?_⟩
          rw [eqI]
          by_cases c2 : ins = []
          · exact ⟨true, by rw [decide_eq_true c2]; rfl, s3 _, fun _ => hif c2, fun z => (nomatch z)⟩
          · exact ⟨false, by rw [decide_eq_false c2]; rfl, s3 _, fun z => (nomatch z), fun _ => c2⟩
      rintro σ' H3 ⟨must, rfl, s3, m1, m2⟩
      have B3 := B2.same s3
      have b3 := b2.same s3
      have er3 := s3 _ _ er2
      have eo3 := s3 _ _ eo2
      have eD3 := s3 _ _ eD
      refine ⟨fun c H4 => BxAt H4 bx cs ∧ But bx H3 H4 ∧ (c = true → os ≠ []) ∧ (c = false → ins ≠ []), ?_, ?_⟩
      · refine ⟨_, rfl, must, rfl, ?_⟩
        cases must with
        | true => exact iteT ⟨B3, But.refl, m1, fun z => (nomatch z)⟩
        | false =>
          refine iteF ⟨_, rfl, by decide, fun e he => ?_⟩
          have s4 : ∀ ob, Same H3 (upd H3 e ob) := fun _ => Same.new he
          refine ⟨pdI os, pdI [], dpI (SqL.of (s4 _ _ _ eo3)), dpI (SqL.of upd_same), shI _, shI _, _, rfl, ?_⟩
          rw [eqI]
          by_cases c2 : os = []
          · rw [decide_eq_true c2]
            exact iteF ⟨B3.same (s4 _), But.of (s4 _), fun z => (nomatch z), fun _ => m2 rfl⟩
          · rw [decide_eq_false c2]
            exact iteT ⟨_, rfl, bx, cs, 3, rfl, B3.same (s4 _), by decide, by decide, fun H5 x x0 x1 B5 b5 => ⟨rfl, _, rfl, B5, (But.of (s4 _)).trans b5, fun _ => c2, fun _ => m2 rfl⟩⟩
      rintro c H4 ⟨B4, b4, k1, k2⟩
      have er4 : H4 r = some (.lst (row.map V.int)) := b4 _ _ er3 nbr.symm
      have eo4 : H4 o = some (.lst (os.map V.int)) := b4 _ _ eo3 nbo.symm
      have nDb : D ≠ bx := bx_ne B3 eD3
      have eD4 : H4 D = some (.lst (ins.map V.int)) := b4 _ _ eD3 nDb
      have b04 := b3.trans b4
      have mul1 : i < 2 * pairs := hi
      cases c with
      | true =>
        have hne2 := k1 rfl
        refine iteT ⟨_, rfl, o, _, rfl, .inl (SqL.of eo4), _, _, rfl, rfl, ?_⟩
        have hol : 0 < os.length := List.length_pos_iff.mpr hne2
        refine ⟨fun σ' H5 => ∃ pl : Nat, σ' = [some (.ref bx), some (.ref na), some (.int (pairs : Nat)), some (.bl tidy), some (.ref r), some (.ref o), some (.int (0 + (i : Nat))), v7, some (.ref D), some (.bl must), some (.int (pl : Nat)), v11] ∧ pl < os.length ∧ BxAt H5 bx cs ∧ But bx H4 H5, ?_, ?_⟩
        · refine ⟨_, rfl, tidy, rfl, ?_⟩
          rw [List.length_map]
          cases tidy with
          | true => exact iteF ⟨os.length - 1, by rw [show ((os.length - 1 : Nat) : Int) = (os.length : Int) - 1 by omega]; rfl, by omega, B4, But.refl⟩
          | false =>
            refine iteT ⟨_, rfl, _, rfl, o, _, rfl, .inl (SqL.of eo4), bx, cs, _, rfl, B4, ?_, ?_, fun H5 x x0 x1 B5 b5 => ?_⟩
            · rw [List.length_map]; omega
            · rw [List.length_map]; omega
            · rw [List.length_map] at x1
              obtain ⟨pl, rfl⟩ : ∃ pl : Nat, x = pl := ⟨x.toNat, by omega⟩
              exact ⟨pl, rfl, by omega, B5, b5⟩
        · rintro σ' H5 ⟨pl, rfl, hpl, B5, b5⟩
          have er5 := b5 _ _ er4 nbr.symm
          have eo5 := b5 _ _ eo4 nbo.symm
          have hx : (os.map V.int)[pl]? = some (.int os[pl]) := by rw [List.getElem?_map, List.getElem?_eq_getElem hpl]; rfl
          refine ⟨_, rfl, .inl ⟨rfl, _, SqL.of er5⟩, _, rfl, .inl ⟨rfl, _, SqL.of eo5⟩, _, rfl, o, _, _, pl, _, rfl, rfl, eo5, by omega, by omega, ?_, hx, ?_⟩
          · rw [List.length_map]
            exact seqIndex_of (by omega) (by omega)
          · have er6 : (upd H5 o (.lst ((os.map V.int).eraseIdx pl))) r = some (.lst (row.map V.int)) := by rw [upd_ne nor.symm]; exact er5
            refine ⟨r, _, _, rfl, rfl, er6, by rw [List.length_map, sizeLine_eq]; omega, ?_⟩
            refine ⟨_, _, _, _, _, _, row ++ [os[pl]], os.eraseIdx pl, rfl, (B5.upd nbo nco).upd nbr ncr, ?_, ?_, ?_, ?_, ?_⟩
            · exact fun b ob eb nb => by rw [upd_ne (ne_of_none eb hr0), upd_ne (ne_of_none eb zo)]; exact b5 _ _ (b04 _ _ eb nb) nb
            · rw [upd_same, List.map_append]; rfl
            · rw [upd_ne nor, upd_same, er_map]
            · rw [List.length_append, List.length_singleton]; omega
            · rw [List.length_eraseIdx_of_lt hpl]; omega
      | false =>
        have hin := k2 rfl
        refine iteF ⟨_, rfl, D, rfl, ⟨_, SqL.of eD4⟩, fun D2 hD2 => ?_⟩
        refine lc_notin (b := r) (ns := ins) (os := row) hD2 eD4 er4 (by omega) (fun v H Q h1 h2 => ?_) (fun v H Q h => ⟨_, rfl, h⟩) fun H5 s5 eD5 => ?_
        · refine ⟨rfl, _, rfl, _, rfl, r, _, rfl, .inl (SqL.of h1), rfl, flat_ints _, ?_⟩
          rw [inV_int]
          exact ⟨_, rfl, h2⟩
        generalize hfr : (ins.filter fun v => !decide (v ∈ row)) = fr at eD5
        have hfrl : fr.length ≤ 1000 := by rw [← hfr]; exact Nat.le_trans (List.length_filter_le _ _) hinl
        have B5 := B4.same s5
        have er5 := s5 _ _ er4
        have eo5 := s5 _ _ eo4
        have eD45 := s5 _ _ eD4
        have b05 := b04.trans (But.of s5)
        have nD2b := bx_ne B5 eD5
        refine ⟨fun σ' H6 => ∃ (D3 : Addr) (l3 : List Int), σ' = [some (.ref bx), some (.ref na), some (.int (pairs : Nat)), some (.bl tidy), some (.ref r), some (.ref o), some (.int (0 + (i : Nat))), v7, some (.ref D3), some (.bl must), v10, some (.ref D2)] ∧ l3 ≠ [] ∧ l3.length ≤ 1000 ∧ H6 D3 = some (.lst (l3.map V.int)) ∧ D3 ≠ bx ∧ BxAt H6 bx cs ∧ But bx H5 H6, ?_, ?_⟩
        · refine ⟨_, rfl, by decide, fun e he => ?_⟩
          have s6 : ∀ ob, Same H5 (upd H5 e ob) := fun _ => Same.new he
          refine ⟨pdI fr, pdI [], dpI (SqL.of (s6 _ _ _ eD5)), dpI (SqL.of upd_same), shI _, shI _, _, rfl, ?_⟩
          rw [eqI]
          by_cases c2 : fr = []
          · rw [decide_eq_true c2]
            exact iteF ⟨D, ins, rfl, hin, hinl, s6 _ _ _ eD45, nDb, B5.same (s6 _), But.of (s6 _)⟩
          · rw [decide_eq_false c2]
            refine iteT ⟨_, rfl, bx, cs, 4, rfl, B5.same (s6 _), by decide, by decide, fun H6 x x0 x1 B6 b6 => ⟨_, _, rfl, rfl, _, rfl, ?_⟩⟩
            by_cases c3 : 0 < x
            · exact dT c3 ⟨_, rfl, D2, fr, rfl, c2, hfrl, b6 _ _ (s6 _ _ _ eD5) nD2b, nD2b, B6, (But.of (s6 _)).trans b6⟩
            · exact dF c3 ⟨D, ins, rfl, hin, hinl, b6 _ _ (s6 _ _ _ eD45) nDb, nDb, B6, (But.of (s6 _)).trans b6⟩
        · rintro σ' H6 ⟨D3, l3, rfl, hl3, hl3n, e3, nD3, B6, b6⟩
          have hl3p : 0 < l3.length := List.length_pos_iff.mpr hl3
          have er6 := b6 _ _ er5 nbr.symm
          have eo6 := b6 _ _ eo5 nbo.symm
          refine ⟨_, rfl, _, rfl, _, rfl, D3, _, rfl, .inl (SqL.of e3), bx, cs, _, rfl, B6, by rw [List.length_map]; omega, by rw [List.length_map]; omega, fun H7 x x0 x1 B7 b7 => ?_⟩
          rw [List.length_map] at x1
          have e37 := b7 _ _ e3 nD3
          have er7 := b7 _ _ er6 nbr.symm
          have eo7 := b7 _ _ eo6 nbo.symm
          refine ⟨D3, _, _, _, rfl, rfl, SqL.of e37, at_int x0 x1, ?_⟩
          refine ⟨_, rfl, .inl ⟨rfl, _, SqL.of eo7⟩, _, rfl, o, _, _, rfl, rfl, eo7, by rw [List.length_map, sizeLine_eq]; omega, ?_⟩
          refine ⟨_, rfl, .inl ⟨rfl, row.map V.int, SqL.of (by rw [upd_ne nor.symm]; exact er7)⟩, _, rfl, _, _, rfl, rfl, r, _, _, rfl, rfl, (by rw [upd_ne nor.symm]; exact er7), by rw [List.length_map, sizeLine_eq]; omega, ?_⟩
          refine ⟨_, _, _, _, _, _, row ++ [0 - gi l3 x], os ++ [gi l3 x], rfl, (B7.upd nbo nco).upd nbr ncr, ?_, ?_, ?_, ?_, ?_⟩
          · exact fun b ob eb nb => by rw [upd_ne (ne_of_none eb hr0), upd_ne (ne_of_none eb zo)]; exact b7 _ _ (b6 _ _ (b05 _ _ eb nb) nb) nb
          · rw [upd_same, List.map_append]; rfl
          · rw [upd_ne nor, upd_same, List.map_append]; rfl
          · rw [List.length_append, List.length_singleton]; omega
          · rw [List.length_append, List.length_singleton]; omega
    · rintro σ' H' ⟨v6, v7, v8, v9, v10, v11, row, os, rfl, B1, b1, er, eo, hrow, hos⟩
      exact ⟨_, rfl, k H' r row hrow B1 b1 hr0 er⟩
end
end Lk

set_option maxHeartbeats 4000000
/-! The law's programs. -/
namespace Lk
open PySem PySem.Spec PyProof.Rows L2
theorem PgAt.nb {H : Hp} {pl : Addr} {as : List Addr} {ps : List (List Int)} {bx cs : Addr} (h : PgAt H pl as ps) (B : BxAt H bx cs) : pl ≠ bx ∧ ∀ (i : Nat) (a : Addr), as[i]? = some a → a ≠ bx := by
  refine ⟨fun z => ?_, fun i a e => ?_⟩
  · obtain ⟨cells, j, b, x, c, h1, _⟩ := B.ex
    have q := h.ob
    rw [z, h1] at q
    cases as with
    | nil => cases q
    | cons u v => cases v with
      | nil => cases q
      | cons y t => cases q
  · obtain ⟨p, _, e2⟩ := h.at_ i a e
    exact bx_ne B e2
theorem PgAt.but {H H' : Hp} {pl : Addr} {as : List Addr} {ps : List (List Int)} {bx cs : Addr} (h : PgAt H pl as ps) (B : BxAt H bx cs) (b : But bx H H') : PgAt H' pl as ps :=
  ⟨b _ _ h.ob (h.nb B).1, h.len, fun i a e => let ⟨p, e1, e2⟩ := h.at_ i a e; ⟨p, e1, b _ _ e2 ((h.nb B).2 i a e)⟩⟩
theorem PgAt.nil {H : Hp} {pl : Addr} (e : H pl = some (.lst [])) : PgAt H pl [] [] := ⟨e, rfl, fun i a z => by cases i <;> cases z⟩
theorem PgAt.ne {H : Hp} {pl : Addr} {as : List Addr} {ps : List (List Int)} (h : PgAt H pl as ps) {i : Nat} {a : Addr} (e : as[i]? = some a) : a ≠ pl := fun z => by
  obtain ⟨p, _, e2⟩ := h.at_ i a e
  have q := h.ob
  rw [← z, e2] at q
  cases as with
  | nil => cases i <;> cases e
  | cons u v =>
    cases p with
    | nil => cases q
    | cons y t => cases q
theorem PgAt.push {H : Hp} {pl r : Addr} {as : List Addr} {ps : List (List Int)} {row : List Int} (h : PgAt H pl as ps) (e : H r = some (.lst (row.map V.int))) (n : r ≠ pl) : PgAt (upd H pl (.lst (as.map V.ref ++ [.ref r]))) pl (as ++ [r]) (ps ++ [row]) := by
  refine ⟨by rw [upd_same, List.map_append]; rfl, by rw [List.length_append, List.length_append, h.len]; rfl, fun i a q => ?_⟩
  by_cases c : i < as.length
  · rw [List.getElem?_append_left c] at q
    obtain ⟨p, e1, e2⟩ := h.at_ i a q
    exact ⟨p, by rw [List.getElem?_append_left (by rw [← h.len]; exact c)]; exact e1, by rw [upd_ne (h.ne q)]; exact e2⟩
  · rw [List.getElem?_append_right (by omega)] at q
    obtain ⟨hz, hq⟩ := List.getElem?_eq_some_iff.mp q
    have hz0 : i - as.length = 0 := by simp at hz; omega
    have : a = r := by rw [← hq]; simp [hz0]
    subst this
    refine ⟨row, ?_, by rw [upd_ne n]; exact e⟩
    rw [List.getElem?_append_right (by rw [← h.len]; omega), ← h.len, hz0]; rfl
theorem BxAt.free {H H1 : Hp} {bx cs a : Addr} (B : BxAt H1 bx cs) (b : But bx H H1) (e : H1 a = none) : H a = none := by
  cases q : H a with
  | none => rfl
  | some o =>
    have := b _ _ q (B.nf e).1.symm
    rw [e] at this
    cases this
def spProgs (K : PySem.W.Frag) : Sp := fun vs H Q _ => ∃ (bx cs : Addr) (n c : Nat) (tidy : Bool), vs = [.ref bx, .int (n : Nat), .int (c : Nat), .bl tidy] ∧ BxAt H bx cs ∧ n ≤ 60 ∧ c ≤ 14 ∧
  ∀ H' pl as (ps : List (List Int)), ps.length ≤ 14 → (∀ p ∈ ps, p.length ≤ 32) → BxAt H' bx cs → But bx H H' → PgAt H' pl as ps → Q (.ref pl) H'
section
variable {P : Program} {w : World} {K : PySem.W.Frag} {mg : Str → Option Value} {base : Heap}
theorem ok_programs (T : Top K mg) : FnOk P w K mg base CX0 3 (He.fAd K ("_law_programs", none)) (fdOf K ("_law_programs", none)) ["_law_box_here", "_law_size_here", "_law_count", "_law_tidy"] (spProgs K) := by
  refine fd_ok T.d__law_programs sc__law_programs (fun vs H Q E h => ?_) (fun cdv A outer s H vs Q E hr h => ?_)
  · obtain ⟨bx, cs, n, c, tidy, rfl, _⟩ := h
    rfl
  · obtain ⟨bx, cs, n, c, tidy, rfl, B, hn, hc, k⟩ := h
    have nd := sc__law_programs.nd
    have hr1 : Room 1 _ := hr.mono (by decide)
    refine ⟨_, pss_cons (ps_set (i := 4) nd rfl (Or.inr rfl) (pe_lc (own := [("_law_k", 10)]) (g := gName 10) (tt := tYes) rfl nd (pi_range1 rfl T.n_range (pa_cons (pv 1) pa_nil)) (blkOk_by (own := [("_law_k", 10)]) (N := ["_law_box_here", "_law_size_here", "_law_count", "_law_tidy", "_law_owners", "_law_programs_here", "_law_budget", "_law_session", "_law_nodes", "_law_pairs", "_law_k"]) (sc := defScope s__law_programs) (by decide +kernel)) (fun _ _ _ _ _ => pg_name (i := 10) nd rfl (Or.inl rfl)) (fun _ _ _ _ _ => pts_nil) (fun _ _ _ _ _ => pe_call (ok_take T) hr1 rfl T.g__law_take T.d__law_take.kp (b__law_take T) .nil pass0 (pa_cons (pv 0) (pa_cons (pe_op op_add (pv 2) pe_int) pa_nil)))))
      (pss_cons (ps_set (i := 5) nd rfl (Or.inl rfl) (pe_lst pa_nil))
      (pss_cons (ps_set (i := 6) nd rfl (Or.inl rfl) pe_int)
      (Evl.pss_cut (ps_if (pt_cmpR op_gt (pe_call (ok_take T) hr1 rfl T.g__law_take T.d__law_take.kp (b__law_take T) .nil pass0 (pa_cons (pv 0) (pa_cons pe_int pa_nil))) pe_int (nomark _)) (pss_one (ps_set (i := 6) nd rfl (Or.inl rfl) pe_int)) pss_nil)
      (pss_cons (ps_for PassesOwn.never rfl (pi_range1 rfl T.n_range (pa_cons (pv 2) pa_nil)) (pg_name (i := 7) nd rfl (Or.inr rfl))
        (pss_cons (ps_setLc (i := 8) (own := [("_law_k", 10)]) (g := gName 10) (tt := tTest (tOp rEq (tOp (rIxL K) (tVar 4) (tVar 10)) (tVar 7))) rfl nd rfl rfl (sw_true rfl rfl rfl (by decide +kernel)) (pi_range1 rfl T.n_range (pa_cons (pv 1) pa_nil)) (blkOk_by (own := [("_law_k", 10)]) (N := ["_law_box_here", "_law_size_here", "_law_count", "_law_tidy", "_law_owners", "_law_programs_here", "_law_budget", "_law_session", "_law_nodes", "_law_pairs", "_law_k"]) (sc := defScope s__law_programs) (by decide +kernel)) (fun _ _ _ _ _ => pg_name (i := 10) nd rfl (Or.inl rfl)) (fun _ _ _ _ _ => pts_one (pt_cmpR op_eq (pe_ix ix_list (pv 4) (pv 10) (fun _ _ => rfl)) (pv 7) (nomark _))) (fun _ _ _ _ _ => pe_op op_add (pv 10) pe_int))
        (Evl.pss_cut (ps_set (i := 9) nd rfl (Or.inl rfl) (pe_callB (call_min2 rfl) (by rfl) T.n_min (by decide +kernel) (pa_cons (pv 6) (pa_cons (pe_call (ok_take T) hr1 rfl T.g__law_take T.d__law_take.kp (b__law_take T) .nil pass0 (pa_cons (pv 0) (pa_cons pe_int pa_nil))) pa_nil))))
        (Evl.pss_cut (ps_if (pt_cmpR op_eq (pe_call (ok_take T) hr1 rfl T.g__law_take T.d__law_take.kp (b__law_take T) .nil pass0 (pa_cons (pv 0) (pa_cons pe_int pa_nil))) pe_int (nomark _)) (pss_one (ps_set (i := 9) nd rfl (Or.inl rfl) (pv 6))) pss_nil)
        (Evl.pss_cut (ps_if (pt_cmpR (op_eqD hr.units) (pv 8) (pe_lst pa_nil) (nomark _)) (pss_one (ps_set (i := 9) nd rfl (Or.inl rfl) pe_int)) pss_nil)
        (pss_cons (ps_set (i := 6) nd rfl (Or.inl rfl) (pe_op op_sub (pv 6) (pv 9)))
        (pss_one (ps_expr (pe_bm PySem.F.plainAttrs_list PySem.F.slot_list_append PySem.F.type_list_append mt_append (pv 5) (pa_cons (pe_call (ok_program T) hr rfl T.g__law_program T.d__law_program.kp (b__law_program T) .nil pass0 (pa_cons (pv 0) (pa_cons (pv 8) (pa_cons (pv 9) (pa_cons (pv 3) pa_nil))))) pa_nil))))))))))
      (pss_one (ps_ret (pv 5))))))), ?_⟩
    refine ⟨_, rfl, _, rfl, by omega, by omega, fun D hD => ?_⟩
    have nDb := (B.nf hD).1
    refine lc_range (lo := 0) (n := (n : Int).toNat) (fun i H' => BxAt H' bx cs ∧ But bx H H' ∧ ∃ os : List Int, H' D = some (.lst (os.map V.int)) ∧ os.length = i) ⟨B.same (Same.new hD), But.of (Same.new hD), [], upd_same, rfl⟩ ?_ ?_
    · rintro i H1 hi ⟨B1, b1, os, eD, hos⟩
      refine ⟨rfl, _, rfl, _, rfl, _, _, rfl, rfl, bx, cs, _, rfl, B1, by omega, by omega, fun H2 x x0 x1 B2 b2 => ⟨_, b2 _ _ eD nDb.symm, ?_, (B2.upd nDb (B.nf hD).2), ?_, os ++ [x], ?_, ?_⟩⟩
      · rw [List.length_map, sizeLine_eq]; omega
      · exact fun b ob eb nb => by rw [upd_ne (ne_of_none eb hD)]; exact b2 _ _ (b1 _ _ eb nb) nb
      · rw [upd_same, List.map_append]; rfl
      · rw [List.length_append, hos]; rfl
    rintro H1 ⟨B1, b1, os, eD, hos⟩
    rw [Int.toNat_natCast] at hos
    refine ⟨by decide, fun pr hpr => ?_⟩
    have s1 : ∀ ob, Same H1 (upd H1 pr ob) := fun _ => Same.new hpr
    have nDp : D ≠ pr := ne_of_none eD hpr
    have hprH : H pr = none := B1.free b1 hpr
    refine ⟨fun σ' H2 => ∃ b : Nat, b ≤ 16 ∧ σ' = [some (.ref bx), some (.int (n : Nat)), some (.int (c : Nat)), some (.bl tidy), some (.ref D), some (.ref pr), some (.int (b : Nat)), none, none, none, none] ∧ BxAt H2 bx cs ∧ But bx H H2 ∧ H2 D = some (.lst (os.map V.int)) ∧ H2 pr = some (.lst []), ?_, ?_⟩
    · refine ⟨_, rfl, bx, cs, 3, rfl, B1.same (s1 _), by decide, by decide, fun H2 x x0 x1 B2 b2 => ⟨_, _, rfl, rfl, _, rfl, ?_⟩⟩
      have f1 : But bx H H2 := (b1.trans (But.of (s1 _))).trans b2
      have f2 : H2 D = some (.lst (os.map V.int)) := b2 _ _ (s1 _ _ _ eD) nDb.symm
      have f3 : H2 pr = some (.lst []) := b2 _ _ upd_same (B1.nf hpr).1.symm
      by_cases c1 : 0 < x
      · exact dT c1 ⟨4, by decide, rfl, B2, f1, f2, f3⟩
      · exact dF c1 ⟨16, by decide, rfl, B2, f1, f2, f3⟩
    rintro _ H2 ⟨b0, hb0, rfl, B2, b2, eD2, ep2⟩
    refine ⟨_, rfl, _, rfl, by omega, by omega, ?_⟩
    refine for_range (lo := 0) (n := (c : Int).toNat) (fun i σ' H' => ∃ (b : Nat) (v7 v8 v9 : Option V) (as : List Addr) (ps : List (List Int)), b ≤ 16 ∧ σ' = [some (.ref bx), some (.int (n : Nat)), some (.int (c : Nat)), some (.bl tidy), some (.ref D), some (.ref pr), some (.int (b : Nat)), v7, v8, v9, none] ∧ BxAt H' bx cs ∧ But bx H H' ∧ H' D = some (.lst (os.map V.int)) ∧ PgAt H' pr as ps ∧ ps.length = i ∧ ∀ p ∈ ps, p.length ≤ 32)
      ⟨b0, none, none, none, [], [], hb0, rfl, B2, b2, eD2, PgAt.nil ep2, rfl, fun p hp => (nomatch hp)⟩ ?_ ?_
    · rintro i σ' H3 hi ⟨b, v7, v8, v9, as, ps, hb, rfl, B3, b3, eD3, PG, hpl, hps⟩
      rw [Int.toNat_natCast] at hi
      refine ⟨_, rfl, _, rfl, by omega, by omega, fun D2 hD2 => ?_⟩
      have nD2 := B3.nf hD2
      refine lc_range (lo := 0) (n := (n : Int).toNat) (fun j H' => Same H3 H' ∧ ∃ ns : List Int, H' D2 = some (.lst (ns.map V.int)) ∧ ns.length ≤ j) ⟨Same.new hD2, [], upd_same, Nat.le_refl _⟩ ?_ ?_
      · rintro j H4 hj ⟨s4, ns, e4, hns⟩
        refine ⟨rfl, _, rfl, _, rfl, D, _, _, _, rfl, rfl, SqL.of (s4 _ _ eD3), at_int (by omega) (by omega), _, rfl, rfl, _, rfl, ?_⟩
        refine dite (V.int (gi os (0 + (j : Int))) = V.int (0 + (i : Int))) (fun c1 => ?_) (fun c1 => ?_)
        · refine dT c1 ⟨_, rfl, _, _, rfl, rfl, _, e4, ?_, ?_⟩
          · rw [List.length_map, sizeLine_eq]; omega
          · refine ⟨fun b ob eb => by rw [upd_ne (ne_of_none eb hD2)]; exact s4 b ob eb, ns ++ [(0 + (j : Int)) + 1], by rw [upd_same, List.map_append]; rfl, by rw [List.length_append]; show ns.length + 1 ≤ _; omega⟩
        · exact dF c1 ⟨s4, ns, e4, by omega⟩
      rintro H4 ⟨s4, ns, e4, hns⟩
      rw [Int.toNat_natCast] at hns
      have B4 := B3.same s4
      have ne4 : D2 ≠ bx := nD2.1.symm
      have nprb := PG.nb B3
      refine ⟨fun σ' H5 => ∃ p : Nat, p ≤ b ∧ σ' = [some (.ref bx), some (.int (n : Nat)), some (.int (c : Nat)), some (.bl tidy), some (.ref D), some (.ref pr), some (.int (b : Nat)), some (.int (0 + (i : Nat))), some (.ref D2), some (.int (p : Nat)), none] ∧ BxAt H5 bx cs ∧ But bx H4 H5, ?_, ?_⟩
      · refine ⟨_, rfl, _, rfl, bx, cs, 5, rfl, B4, by decide, by decide, fun H5 x x0 x1 B5 b5 => ⟨_, _, rfl, ⟨(if x < (b : Int) then x else (b : Int)).toNat, ?_, ?_, B5, b5⟩⟩⟩
        · split <;> omega
        · have : (((if x < (b : Int) then x else (b : Int)).toNat : Nat) : Int) = if x < (b : Int) then x else (b : Int) := by split <;> omega
          rw [this]
          rfl
      rintro _ H5 ⟨p, hp, rfl, B5, b5⟩
      refine ⟨fun σ' H6 => ∃ p : Nat, p ≤ b ∧ σ' = [some (.ref bx), some (.int (n : Nat)), some (.int (c : Nat)), some (.bl tidy), some (.ref D), some (.ref pr), some (.int (b : Nat)), some (.int (0 + (i : Nat))), some (.ref D2), some (.int (p : Nat)), none] ∧ BxAt H6 bx cs ∧ But bx H5 H6, ?_, ?_⟩
      · refine ⟨_, rfl, bx, cs, 6, rfl, B5, by decide, by decide, fun H6 x x0 x1 B6 b6 => ⟨rfl, _, rfl, ?_⟩⟩
        by_cases c1 : V.int x = V.int 5
        · exact dT c1 ⟨_, rfl, b, Nat.le_refl _, rfl, B6, b6⟩
        · exact dF c1 ⟨p, hp, rfl, B6, b6⟩
      rintro _ H6 ⟨p2, hp2, rfl, B6, b6⟩
      have b46 := b5.trans b6
      have e6 := b46 _ _ e4 ne4
      refine ⟨fun σ' H7 => ∃ p : Nat, p ≤ b ∧ (p ≠ 0 → ns ≠ []) ∧ σ' = [some (.ref bx), some (.int (n : Nat)), some (.int (c : Nat)), some (.bl tidy), some (.ref D), some (.ref pr), some (.int (b : Nat)), some (.int (0 + (i : Nat))), some (.ref D2), some (.int (p : Nat)), none] ∧ Same H6 H7, ?_, ?_⟩
      · refine ⟨_, rfl, by decide, fun e he => ?_⟩
        have s7 : ∀ ob, Same H6 (upd H6 e ob) := fun _ => Same.new he
        refine ⟨pdI ns, pdI [], dpI (SqL.of (s7 _ _ _ e6)), dpI (SqL.of upd_same), shI _, shI _, _, rfl, ?_⟩
        rw [eqI]
        by_cases c2 : ns = []
        · exact dT c2 ⟨0, Nat.zero_le _, fun z => absurd rfl z, rfl, s7 _⟩
        · exact dF c2 ⟨p2, hp2, fun _ => c2, rfl, s7 _⟩
      rintro _ H7 ⟨p3, hp3, hne, rfl, s7⟩
      have B7 := B6.same s7
      have e7 := s7 _ _ e6
      have b37 : But bx H3 H7 := (But.of s4).trans (b46.same s7)
      have PG7 := PG.but B3 b37
      refine ⟨_, rfl, _, rfl, _, _, rfl, rfl, _, rfl, .inl ⟨rfl, _, SqL.of PG7.ob⟩, _, rfl, _, rfl, _, rfl, _, rfl, bx, cs, D2, p3, tidy, ns, rfl, B7, e7, by omega, hne, by omega, fun H8 r row hrow B8 b8 hr8 er8 => ?_⟩
      have PG8 := PG7.but B7 b8
      have nrp : r ≠ pr := (ne_of_none PG7.ob hr8).symm
      refine ⟨pr, _, _, rfl, rfl, PG8.ob, by rw [List.length_map, PG.len, sizeLine_eq]; omega, ?_⟩
      refine ⟨b - p3, some (.int (0 + (i : Nat))), some (.ref D2), some (.int (p3 : Nat)), as ++ [r], ps ++ [row], by omega, ?_, B8.upd nprb.1.symm (B1.nf hpr).2, ?_, ?_, PG8.push er8 nrp, by rw [List.length_append, hpl]; rfl, ?_⟩
      · rw [show ((b - p3 : Nat) : Int) = (b : Int) - p3 by omega]; rfl
      · exact fun a ob eb nb => by rw [upd_ne (ne_of_none eb hprH)]; exact b8 _ _ (b37 _ _ (b3 _ _ eb nb) nb) nb
      · rw [upd_ne nDp]; exact b8 _ _ (b37 _ _ eD3 nDb.symm) nDb.symm
      · intro q hq
        rcases List.mem_append.mp hq with m | m
        · exact hps q m
        · rw [List.mem_singleton.mp m]; omega
    · rintro σ' H' ⟨b, v7, v8, v9, as, ps, hb, rfl, B3, b3, eD3, PG, hpl, hps⟩
      rw [Int.toNat_natCast] at hpl
      exact ⟨_, rfl, k H' pr as ps (by omega) hps B3 b3 PG⟩
end
end Lk

set_option maxHeartbeats 4000000
/-! The law's bent programs. -/
namespace Lk
open PySem PySem.Spec PyProof.Rows L2
/-- a row of numbers -/
def RowV (H : Hp) (m : Nat) (x : V) : Prop := ∃ (a : Addr) (row : List Int), x = .ref a ∧ H a = some (.lst (row.map V.int)) ∧ row.length ≤ m
theorem RowV.same {H H' : Hp} {m : Nat} {x : V} (h : RowV H m x) (e : Same H H') : RowV H' m x := let ⟨a, row, h1, h2, h3⟩ := h; ⟨a, row, h1, e _ _ h2, h3⟩
theorem PgAt.of {H : Hp} {pl : Addr} {m : Nat} {xs : List V} (h : H pl = some (.lst xs)) (hx : ∀ x ∈ xs, RowV H m x) : ∃ (as : List Addr) (ps : List (List Int)), PgAt H pl as ps ∧ ps.length = xs.length ∧ ∀ p ∈ ps, p.length ≤ m := by
  have : ∀ xs : List V, (∀ x ∈ xs, RowV H m x) → ∃ (as : List Addr) (ps : List (List Int)), xs = as.map V.ref ∧ ps.length = xs.length ∧ (∀ p ∈ ps, p.length ≤ m) ∧ ∀ (i : Nat) (a : Addr), as[i]? = some a → ∃ p : List Int, ps[i]? = some p ∧ H a = some (.lst (p.map V.int)) := by
    intro xs
    induction xs with
    | nil => exact fun _ => ⟨[], [], rfl, rfl, fun p hp => (nomatch hp), fun i a e => by cases i <;> cases e⟩
    | cons x r ih =>
      intro h
      obtain ⟨as, ps, e1, e2, e3, e4⟩ := ih fun y hy => h y (List.mem_cons_of_mem _ hy)
      obtain ⟨a, row, rfl, ha, hl⟩ := h x List.mem_cons_self
      refine ⟨a :: as, row :: ps, by rw [e1]; rfl, by rw [List.length_cons, List.length_cons, e2], fun p hp => ?_, fun i b e => ?_⟩
      · rcases List.mem_cons.mp hp with rfl | hp
        · exact hl
        · exact e3 p hp
      · cases i with
        | zero => cases e; exact ⟨row, rfl, ha⟩
        | succ i => exact e4 i b e
  obtain ⟨as, ps, rfl, e2, e3, e4⟩ := this xs hx
  exact ⟨as, ps, ⟨h, by rw [e2, List.length_map], e4⟩, e2, e3⟩
theorem PgAt.row {H : Hp} {pl : Addr} {as : List Addr} {ps : List (List Int)} (h : PgAt H pl as ps) {m : Nat} (hm : ∀ p ∈ ps, p.length ≤ m) : ∀ x ∈ as.map V.ref, RowV H m x := by
  intro x hx
  obtain ⟨a, ha, rfl⟩ := List.mem_map.mp hx
  obtain ⟨i, hi, e⟩ := List.getElem_of_mem ha
  obtain ⟨p, e1, e2⟩ := h.at_ i a (by rw [List.getElem?_eq_getElem hi, e])
  exact ⟨a, p, rfl, e2, hm p (List.mem_of_getElem? e1)⟩
def pdL (ps : List (List Int)) : PyData := .list (ps.map pdI)
theorem dpL_all {K : PySem.W.Frag} {H : Hp} : ∀ (as : List Addr) (ps : List (List Int)), as.length = ps.length → (∀ (i : Nat) (a : Addr), as[i]? = some a → ∃ p : List Int, ps[i]? = some p ∧ H a = some (.lst (p.map V.int))) → DpAll K H (as.map V.ref) (ps.map pdI)
  | [], [], _, _ => .nil
  | a :: as, p :: ps, hl, h => by
    obtain ⟨p', e1, e2⟩ := h 0 a rfl
    cases e1
    exact .cons (dpI (SqL.of e2)) (dpL_all as ps (by simpa using hl) fun i b e => h (i + 1) b e)
theorem PgAt.dp {K : PySem.W.Frag} {H : Hp} {pl : Addr} {as : List Addr} {ps : List (List Int)} (h : PgAt H pl as ps) : Dp K H (.ref pl) (pdL ps) := .lst (SqL.of h.ob) (dpL_all as ps h.len h.at_)
theorem shL_all : ∀ l : List (List Int), PyData.canLayAll0 (l.map pdI) = true ∧ PyData.depthAll (l.map pdI) ≤ 1
  | [] => ⟨rfl, Nat.zero_le _⟩
  | i :: l => by
    obtain ⟨h1, h2⟩ := shL_all l
    obtain ⟨h3, h4⟩ := shI_all i
    refine ⟨?_, ?_⟩
    · show (PyData.canLayAll0 (i.map .int) && PyData.canLayAll0 (l.map pdI)) = true
      rw [h1, h3]; rfl
    · show max (PyData.depthAll (i.map .int) + 1) (PyData.depthAll (l.map pdI)) ≤ 1
      rw [h4]; omega
theorem shL (l : List (List Int)) : SeqAt.shaped (pdL l) = true := by
  obtain ⟨h1, h2⟩ := shL_all l
  unfold SeqAt.shaped pdL
  show (PyData.canLayAll0 (l.map pdI) && decide (PyData.depthAll (l.map pdI) + 1 ≤ 64)) = true
  rw [h1, decide_eq_true (by omega)]; rfl
theorem eqL_all : ∀ a b : List (List Int), PyData.eqvAll (a.map pdI) (b.map pdI) = decide (a = b)
  | [], [] => rfl
  | [], _ :: _ => rfl
  | _ :: _, [] => rfl
  | x :: a, y :: b => by
    show (PyData.eqv (pdI x) (pdI y) && PyData.eqvAll (a.map pdI) (b.map pdI)) = _
    rw [eqL_all a b, eqI]
    simp
theorem eqL (a b : List (List Int)) : PyData.eqv (pdL a) (pdL b) = decide (a = b) := eqL_all a b
theorem cutI (l : List Int) (lo hi : Option Int) : ∃ l' : List Int, cutV (l.map V.int) lo hi = l'.map V.int ∧ l'.length ≤ l.length := by
  have h := @cut_len l lo hi
  unfold cutV at h ⊢
  rw [← List.map_drop, ← List.map_take] at h ⊢
  exact ⟨_, rfl, by rw [List.length_map] at h; exact h⟩
theorem cut_sub {xs : List V} {lo hi : Option Int} {y : V} (h : y ∈ cutV xs lo hi) : y ∈ xs := by
  unfold cutV at h
  exact List.mem_of_mem_drop (List.mem_of_mem_take h)
theorem noP {σ : L2.St} {H : Hp} {Q : Option Int → Hp → Prop} (h : Q none H) : tNoPart σ H Q := h
theorem slV {K : PySem.W.Frag} {H : Hp} {a : Addr} {xs : List V} {lo hi : Option Int} {Q : VK} (hx : H a = some (.lst xs)) (h : ∀ p H', Same H H' → H' p = some (.lst (cutV xs lo hi)) → Q (.ref p) H') : rSlL K (.ref a) lo hi H Q :=
  ⟨a, xs, rfl, SqL.of hx, fun p hp => h p _ (Same.new hp) upd_same⟩
theorem slI {K : PySem.W.Frag} {H : Hp} {a : Addr} {l : List Int} {lo hi : Option Int} {Q : VK} (hx : H a = some (.lst (l.map V.int))) (h : ∀ p (l' : List Int) H', Same H H' → l'.length ≤ l.length → H' p = some (.lst (l'.map V.int)) → Q (.ref p) H') : rSlL K (.ref a) lo hi H Q := by
  obtain ⟨l', e, hl⟩ := cutI l lo hi
  exact slV hx fun p H' s e' => h p l' H' s hl (by rw [← e]; exact e')
theorem catV {H : Hp} {a b : Addr} {xs ys : List V} {Q : VK} (ha : H a = some (.lst xs)) (hb : H b = some (.lst ys)) (hl : xs.length + ys.length ≤ 10000) (h : ∀ p H', Same H H' → H' p = some (.lst (xs ++ ys)) → Q (.ref p) H') : rCat (.ref a) (.ref b) H Q :=
  ⟨a, b, xs, ys, rfl, rfl, ha, hb, by rw [sizeLine_eq]; omega, fun p hp => h p _ (Same.new hp) upd_same⟩
theorem catI {H : Hp} {a b : Addr} {l m : List Int} {Q : VK} (ha : H a = some (.lst (l.map V.int))) (hb : H b = some (.lst (m.map V.int))) (hl : l.length + m.length ≤ 10000) (h : ∀ p H', Same H H' → H' p = some (.lst ((l ++ m).map V.int)) → Q (.ref p) H') : rCat (.ref a) (.ref b) H Q :=
  catV ha hb (by rw [List.length_map, List.length_map]; exact hl) fun p H' s e => h p H' s (by rw [List.map_append]; exact e)
def spBent (K : PySem.W.Frag) : Sp := fun vs H Q _ => ∃ (bx cs pl : Addr) (n c m : Nat) (as : List Addr) (ps : List (List Int)), vs = [.ref bx, .int (n : Nat), .ref pl] ∧ BxAt H bx cs ∧ n ≤ 60 ∧ PgAt H pl as ps ∧ c ≤ 200 ∧ m ≤ 200 ∧ ps.length ≤ c ∧ (∀ p ∈ ps, p.length ≤ m) ∧
  ∀ H' pl' as' (ps' : List (List Int)), ps'.length ≤ 2 * c + 1 → (∀ p ∈ ps', p.length ≤ 2 * m + 1) → BxAt H' bx cs → But bx H H' → PgAt H' pl' as' ps' → Q (.ref pl') H'
section
variable {P : Program} {w : World} {K : PySem.W.Frag} {mg : Str → Option Value} {base : Heap}
theorem ok_bent (T : Top K mg) : FnOk P w K mg base CX0 2 (He.fAd K ("_law_bent", none)) (fdOf K ("_law_bent", none)) ["_law_box_here", "_law_size_here", "_law_programs_here"] (spBent K) := by
  refine fd_ok T.d__law_bent sc__law_bent (fun vs H Q E h => ?_) (fun cdv A outer s H vs Q E hr h => ?_)
  · obtain ⟨bx, cs, pl, n, c, m, as, ps, rfl, _⟩ := h
    rfl
  · obtain ⟨bx, cs, pl, n, c, m, as, ps, rfl, B, hn, PG, hc, hm, hpl, hps, k⟩ := h
    have nd := sc__law_bent.nd
    refine ⟨_, pss_cons (ps_if (pt_cmpR (op_eqD hr.units) (pv 2) (pe_lst pa_nil) (nomark _)) (pss_one (ps_ret (pe_lst pa_nil))) pss_nil)
      (pss_cons (ps_set (i := 3) nd rfl (Or.inl rfl) (pe_call (ok_take T) hr rfl T.g__law_take T.d__law_take.kp (b__law_take T) .nil pass0 (pa_cons (pv 0) (pa_cons (pe_callB call_len_seq (by rfl) T.n_len (by decide +kernel) (pa_cons (pv 2) pa_nil)) pa_nil))))
      (pss_cons (ps_set (i := 4) nd rfl (Or.inl rfl) (pe_ix ix_list (pv 2) (pv 3) (fun _ _ => rfl)))
      (pss_cons (ps_set (i := 5) nd rfl (Or.inl rfl) (pe_call (ok_take T) hr rfl T.g__law_take T.d__law_take.kp (b__law_take T) .nil pass0 (pa_cons (pv 0) (pa_cons (pe_op op_add (pe_callB call_len_seq (by rfl) T.n_len (by decide +kernel) (pa_cons (pv 4) pa_nil)) pe_int) pa_nil))))
      (pss_cons (ps_set (i := 6) nd rfl (Or.inl rfl) (pe_call (ok_take T) hr rfl T.g__law_take T.d__law_take.kp (b__law_take T) .nil pass0 (pa_cons (pv 0) (pa_cons pe_int pa_nil))))
      (pss_cons (ps_set (i := 7) nd rfl (Or.inl rfl) (pe_op op_sub (pe_op op_sub (pe_call (ok_take T) hr rfl T.g__law_take T.d__law_take.kp (b__law_take T) .nil pass0 (pa_cons (pv 0) (pa_cons (pe_op op_add (pe_op op_mul pe_int (pv 1)) pe_int) pa_nil))) (pv 1)) pe_int))
      (Evl.pss_cut (ps_if (pt_cmpR op_eq (pe_call (ok_take T) hr rfl T.g__law_take T.d__law_take.kp (b__law_take T) .nil pass0 (pa_cons (pv 0) (pa_cons pe_int pa_nil))) pe_int (nomark _))
        (pss_one (ps_set (i := 7) nd rfl (Or.inl rfl) (pe_op op_mul (pe_op op_add pe_int (pe_call (ok_take T) hr rfl T.g__law_take T.d__law_take.kp (b__law_take T) .nil pass0 (pa_cons (pv 0) (pa_cons (pe_op op_pow pe_int pe_int) pa_nil)))) (pe_op op_sub pe_int (pe_op op_mul pe_int (pe_call (ok_take T) hr rfl T.g__law_take T.d__law_take.kp (b__law_take T) .nil pass0 (pa_cons (pv 0) (pa_cons pe_int pa_nil)))))))) pss_nil)
      (Evl.pss_cut (ps_if (pt_cmpR op_eq (pv 6) pe_int (nomark _))
        (pss_one (ps_set (i := 4) nd rfl (Or.inl rfl) (pe_op op_cat (pe_op op_cat (pe_slice sl_list (pv 4) po_none (po_some (pv 5))) (pe_lst (pa_cons (pv 7) pa_nil))) (pe_slice sl_list (pv 4) (po_some (pv 5)) po_none))))
        (pss_one (ps_if (pt_cmpR op_eq (pv 6) pe_int (nomark _))
          (pss_one (ps_set (i := 4) nd rfl (Or.inl rfl) (pe_op op_cat (pe_op op_cat (pe_slice sl_list (pv 4) po_none (po_some (pv 5))) (pe_lst (pa_cons (pv 7) pa_nil))) (pe_slice sl_list (pv 4) (po_some (pe_op op_add (pv 5) pe_int)) po_none))))
          (pss_one (ps_if (pt_cmpR op_eq (pv 6) pe_int (nomark _))
            (pss_one (ps_set (i := 4) nd rfl (Or.inl rfl) (pe_op op_cat (pe_slice sl_list (pv 4) po_none (po_some (pv 5))) (pe_slice sl_list (pv 4) (po_some (pe_op op_add (pv 5) pe_int)) po_none))))
            (pss_one (ps_set (i := 4) nd rfl (Or.inl rfl) (pe_op op_cat (pe_slice sl_list (pv 4) (po_some (pv 5)) po_none) (pe_slice sl_list (pv 4) po_none (po_some (pv 5)))))))))))
      (pss_one (ps_ret (pe_op op_cat (pe_op op_cat (pe_slice sl_list (pv 2) po_none (po_some (pv 3))) (pe_lst (pa_cons (pv 4) pa_nil))) (pe_slice sl_list (pv 2) (po_some (pe_op op_add (pv 3) pe_int)) po_none))))))))))), ?_⟩
    refine ⟨_, rfl, by decide, fun e he => ?_⟩
    have s1 : ∀ ob, Same H (upd H e ob) := fun _ => Same.new he
    refine ⟨pdL ps, pdL [], (PG.same (s1 _)).dp, dpI (l := []) (SqL.of upd_same), shL _, shL _, _, rfl, ?_⟩
    rw [eqL]
    have B1 := B.same (s1 (.lst []))
    have PG1 := PG.same (s1 (.lst []))
    by_cases c0 : ps = []
    · exact dT c0 ⟨by decide, fun q hq => k _ q [] [] (Nat.zero_le _) (fun p hp => (nomatch hp)) (B1.same (Same.new hq)) (But.of ((s1 _).trans (Same.new hq))) (PgAt.nil upd_same)⟩
    have hp0 : 0 < ps.length := List.length_pos_iff.mpr c0
    refine dF c0 ⟨_, rfl, _, rfl, pl, _, rfl, .inl (SqL.of PG1.ob), bx, cs, _, rfl, B1, by rw [List.length_map, PG.len]; omega, by rw [List.length_map, PG.len]; omega, fun H2 x x0 x1 B2 b2 => ?_⟩
    rw [List.length_map, PG.len] at x1
    have PG2 := PG1.but B1 b2
    obtain ⟨wh, rfl⟩ : ∃ wh : Nat, x = wh := ⟨x.toNat, by omega⟩
    obtain ⟨ar, ha1, ha2⟩ := PG2.get (i := wh) (List.getElem?_eq_getElem (by omega))
    have hrl : (ps[wh]'(by omega)).length ≤ m := hps _ (List.getElem_mem _)
    generalize (ps[wh]'(by omega)) = row at ha2 hrl
    refine ⟨_, rfl, _, rfl, pl, _, _, _, rfl, rfl, SqL.of PG2.ob, atI_nat (by rw [List.getElem?_map, ha1]; rfl), ?_⟩
    refine ⟨_, rfl, _, rfl, ar, _, rfl, .inl (SqL.of ha2), _, _, rfl, rfl, bx, cs, _, rfl, B2, by rw [List.length_map]; omega, by rw [List.length_map]; omega, fun H3 pc pc0 pc1 B3 b3 => ?_⟩
    refine ⟨_, rfl, bx, cs, _, rfl, B3, by decide, by decide, fun H4 kd kd0 kd1 B4 b4 => ?_⟩
    refine ⟨_, rfl, _, rfl, _, _, rfl, rfl, .inr ⟨by omega, by omega⟩, _, _, rfl, rfl, bx, cs, _, rfl, B4, by omega, by omega, fun H5 op op0 op1 B5 b5 => ?_⟩
    refine ⟨_, rfl, _, _, rfl, rfl, _, _, rfl, rfl, ?_⟩
    have b15 := ((b2.trans b3).trans b4).trans b5
    have na := PG2.nb B2
    have ha5 := b5 _ _ (b4 _ _ (b3 _ _ ha2 (na.2 _ _ ha1)) (na.2 _ _ ha1)) (na.2 _ _ ha1)
    refine ⟨fun σ' H6 => ∃ op : Int, σ' = [some (.ref bx), some (.int (n : Nat)), some (.ref pl), some (.int (wh : Nat)), some (.ref ar), some (.int pc), some (.int kd), some (.int op)] ∧ BxAt H6 bx cs ∧ But bx H5 H6, ?_, ?_⟩
    · refine ⟨_, rfl, bx, cs, _, rfl, B5, by decide, by decide, fun H6 x x0 x1 B6 b6 => ⟨rfl, _, rfl, ?_⟩⟩
      by_cases c1 : V.int x = V.int 7
      · refine dT c1 ⟨_, rfl, _, _, rfl, rfl, ⟨by decide, by decide, by decide⟩, bx, cs, _, rfl, B6, by decide, by decide, fun H7 y y0 y1 B7 b7 => ⟨_, _, rfl, rfl, _, rfl, bx, cs, _, rfl, B7, by decide, by decide, fun H8 z z0 z1 B8 b8 => ?_⟩⟩
        exact ⟨_, _, rfl, rfl, .inr ⟨by omega, by omega⟩, _, _, rfl, rfl, _, _, rfl, rfl, .inr ⟨by omega, by omega⟩, _, rfl, B8, (b6.trans b7).trans b8⟩
      · exact dF c1 ⟨_, rfl, B6, b6⟩
    rintro _ H6 ⟨op', rfl, B6, b6⟩
    have ha6 := b6 _ _ ha5 (na.2 _ _ ha1)
    refine ⟨fun σ' H7 => ∃ (ar' : Addr) (row' : List Int), σ' = [some (.ref bx), some (.int (n : Nat)), some (.ref pl), some (.int (wh : Nat)), some (.ref ar'), some (.int pc), some (.int kd), some (.int op')] ∧ H7 ar' = some (.lst (row'.map V.int)) ∧ row'.length ≤ 2 * m + 1 ∧ Same H6 H7, ?_, ?_⟩
    · refine ⟨_, rfl, rfl, _, rfl, ?_⟩
      by_cases c1 : V.int kd = V.int 0
      · refine dT c1 ⟨_, rfl, _, rfl, _, rfl, slI ha6 fun q1 l1 G1 g1 n1 e1 => ⟨_, rfl, (by show 1 ≤ sizeLine; decide), fun q2 hq2 => catI (m := [op']) ((Same.new hq2) _ _ e1) upd_same (by show _ + 1 ≤ _; omega) fun q3 G3 g3 e3 => ?_⟩⟩
        refine ⟨_, rfl, _, rfl, _, rfl, noP <| slI (g3 _ _ ((Same.new hq2) _ _ (g1 _ _ ha6))) fun q4 l4 G4 g4 n4 e4 => catI (g4 _ _ e3) e4 (by rw [List.length_append]; show _ + 1 + _ ≤ _; omega) fun q5 G5 g5 e5 => ?_⟩
        exact ⟨q5, _, rfl, e5, by rw [List.length_append, List.length_append]; show _ + 1 + _ ≤ _; omega, (((g1.trans (Same.new hq2)).trans g3).trans g4).trans g5⟩
      refine dF c1 ⟨_, rfl, rfl, _, rfl, ?_⟩
      by_cases c2 : V.int kd = V.int 1
      · refine dT c2 ⟨_, rfl, _, rfl, _, rfl, slI ha6 fun q1 l1 G1 g1 n1 e1 => ⟨_, rfl, (by show 1 ≤ sizeLine; decide), fun q2 hq2 => catI (m := [op']) ((Same.new hq2) _ _ e1) upd_same (by show _ + 1 ≤ _; omega) fun q3 G3 g3 e3 => ?_⟩⟩
        refine ⟨_, rfl, _, rfl, _, _, rfl, rfl, _, rfl, noP <| slI (g3 _ _ ((Same.new hq2) _ _ (g1 _ _ ha6))) fun q4 l4 G4 g4 n4 e4 => catI (g4 _ _ e3) e4 (by rw [List.length_append]; show _ + 1 + _ ≤ _; omega) fun q5 G5 g5 e5 => ?_⟩
        exact ⟨q5, _, rfl, e5, by rw [List.length_append, List.length_append]; show _ + 1 + _ ≤ _; omega, (((g1.trans (Same.new hq2)).trans g3).trans g4).trans g5⟩
      refine dF c2 ⟨_, rfl, rfl, _, rfl, ?_⟩
      by_cases c3 : V.int kd = V.int 2
      · refine dT c3 ⟨_, rfl, _, rfl, _, rfl, slI ha6 fun q1 l1 G1 g1 n1 e1 => ?_⟩
        refine ⟨_, rfl, _, rfl, _, _, rfl, rfl, _, rfl, noP <| slI (g1 _ _ ha6) fun q4 l4 G4 g4 n4 e4 => catI (g4 _ _ e1) e4 (by omega) fun q5 G5 g5 e5 => ?_⟩
        exact ⟨q5, _, rfl, e5, by rw [List.length_append]; omega, (g1.trans g4).trans g5⟩
      · refine dF c3 ⟨_, rfl, _, rfl, _, rfl, noP <| slI ha6 fun q1 l1 G1 g1 n1 e1 => ?_⟩
        refine ⟨_, rfl, _, rfl, _, rfl, slI (g1 _ _ ha6) fun q4 l4 G4 g4 n4 e4 => catI (g4 _ _ e1) e4 (by omega) fun q5 G5 g5 e5 => ?_⟩
        exact ⟨q5, _, rfl, e5, by rw [List.length_append]; omega, (g1.trans g4).trans g5⟩
    rintro _ H7 ⟨ar', row', rfl, er', hr', s7⟩
    have B7 := B6.same s7
    have b27 : But bx H2 H7 := ((((b3.trans b4).trans b5).trans b6).same s7)
    have PG7 := PG2.but B2 b27
    have hal : as.length = ps.length := PG.len
    have RW : ∀ G, Same H7 G → ∀ x ∈ as.map V.ref, RowV G (2 * m + 1) x := fun G g x hx => by
      obtain ⟨a, row, h1, h2, h3⟩ := (PG7.same g).row hps x hx
      exact ⟨a, row, h1, h2, by omega⟩
    refine ⟨_, rfl, _, rfl, _, rfl, slV PG7.ob fun q1 G1 g1 e1 => ⟨_, rfl, (by show 1 ≤ sizeLine; decide), fun q2 hq2 => catV (ys := [.ref ar']) ((Same.new hq2) _ _ e1) upd_same ?_ fun q3 G3 g3 e3 => ?_⟩⟩
    · have := cutV_length (as.map V.ref) none (some (wh : Int))
      rw [List.length_map] at this
      show _ + 1 ≤ _
      omega
    have g13 := (g1.trans (Same.new hq2)).trans g3
    refine ⟨_, rfl, _, rfl, _, _, rfl, rfl, _, rfl, noP <| slV (g13 _ _ PG7.ob) fun q4 G4 g4 e4 => catV (g4 _ _ e3) e4 ?_ fun q5 G5 g5 e5 => ?_⟩
    · have h1 := cutV_length (as.map V.ref) none (some (wh : Int))
      have h2 := cutV_length (as.map V.ref) (some ((wh : Int) + 1)) none
      rw [List.length_map] at h1 h2
      rw [List.length_append]
      show _ + 1 + _ ≤ _
      omega
    have g15 := (g13.trans g4).trans g5
    obtain ⟨as', ps', P', l', m'⟩ := PgAt.of (m := 2 * m + 1) e5 (fun x hx => by
      rcases List.mem_append.mp hx with hx | hx
      · rcases List.mem_append.mp hx with hx | hx
        · exact RW _ g15 x (cut_sub hx)
        · exact ⟨ar', row', List.mem_singleton.mp hx, g15 _ _ er', hr'⟩
      · exact RW _ g15 x (cut_sub hx))
    refine k G5 q5 as' ps' ?_ m' (B7.same g15) ((((But.of (s1 _)).trans b15).trans b6).same (s7.trans g15)) P'
    have h1 := cutV_length (as.map V.ref) none (some (wh : Int))
    have h2 := cutV_length (as.map V.ref) (some ((wh : Int) + 1)) none
    rw [List.length_map] at h1 h2
    rw [l', List.length_append, List.length_append]
    show _ + 1 + _ ≤ _
    omega
end
end Lk

set_option maxHeartbeats 4000000
/-! The law's fault. -/
namespace Lk
open PySem PySem.Spec PyProof.Rows L2
theorem rem_of {k : Int} : ∀ {ns : List Int}, k ∈ ns → ∃ j : Nat, ns[j]? = some k ∧ (∀ m : Nat, m < j → ns[m]? ≠ some k) ∧ ns.eraseIdx j = ns.erase k
  | [], h => (nomatch h)
  | x :: r, h => by
    by_cases c : x = k
    · exact ⟨0, by rw [c]; rfl, fun m hm => absurd hm (Nat.not_lt_zero m), by rw [c, List.erase_cons_head]; rfl⟩
    · obtain ⟨j, h1, h2, h3⟩ := rem_of (k := k) (ns := r) ((List.mem_cons.mp h).resolve_left (Ne.symm c))
      refine ⟨j + 1, h1, fun m hm => ?_, ?_⟩
      · cases m with
        | zero => exact fun z => c (Option.some.inj z)
        | succ m => exact h2 m (by omega)
      · rw [List.erase_cons_tail (by simpa using c)]
        exact congrArg (x :: ·) h3
def spFault (K : PySem.W.Frag) : Sp := fun vs H Q _ => ∃ (n : Int) (pl : Addr) (as : List Addr) (ps : List (List Int)), vs = [.int n, .ref pl] ∧ PgAt H pl as ps ∧ Few ps ∧
  (flt n [] ps 0 = none → ∀ H', Same H H' → Q .non H') ∧ ∀ i j : Nat, flt n [] ps 0 = some (i, j) → ∀ H' t, Same H H' → H' t = some (.tup [.int (i : Nat), .int (j : Nat)]) → Q (.ref t) H'
section
variable {P : Program} {w : World} {K : PySem.W.Frag} {mg : Str → Option Value} {base : Heap}
theorem ok_fault (T : Top K mg) : FnOk P w K mg base CX0 1 (He.fAd K ("_law_fault", none)) (fdOf K ("_law_fault", none)) ["_law_size_here", "_law_programs_here"] (spFault K) := by
  refine fd_ok T.d__law_fault sc__law_fault (fun vs H Q E h => ?_) (fun cdv A outer s H vs Q E hr h => ?_)
  · obtain ⟨n, pl, as, ps, rfl, _⟩ := h
    rfl
  · obtain ⟨n, pl, as, ps, rfl, PG, ⟨hpl, hps⟩, k0, k1⟩ := h
    have nd := sc__law_fault.nd
    refine ⟨_, pss_cons (ps_set (i := 2) nd rfl (Or.inl rfl) (pe_lst pa_nil))
      (pss_cons (ps_for PassesOwn.never rfl (pi_range1 rfl T.n_range (pa_cons (pe_callB call_len_seq (by rfl) T.n_len (by decide +kernel) (pa_cons (pv 1) pa_nil)) pa_nil)) (pg_name (i := 3) nd rfl (Or.inl rfl))
        (pss_cons (ps_set (i := 4) nd rfl (Or.inl rfl) (pe_ix ix_list (pv 1) (pv 3) (fun _ _ => rfl)))
        (pss_cons (ps_set (i := 5) nd rfl (Or.inl rfl) (pe_lst pa_nil))
        (pss_cons (ps_for PassesOwn.never rfl (pi_range1 rfl T.n_range (pa_cons (pe_callB call_len_seq (by rfl) T.n_len (by decide +kernel) (pa_cons (pv 4) pa_nil)) pa_nil)) (pg_name (i := 6) nd rfl (Or.inl rfl))
          (pss_cons (ps_set (i := 7) nd rfl (Or.inl rfl) (pe_callB call_abs (by rfl) T.n_abs (by decide +kernel) (pa_cons (pe_ix ix_list (pv 4) (pv 6) (fun _ _ => rfl)) pa_nil)))
          (pss_cons (ps_if (PW.pt (pw_or (pt_cmpR op_eq (pv 7) pe_int (nomark _)) (pw_or (pt_cmpR op_gt (pv 7) (pv 0) (nomark _)) (pw_or (pt_cmpR op_in_seq (pv 7) (pv 2) (by rfl)) (pw_or1 (pt_cmpR op_eq (pe_cmpR op_lt (pe_ix ix_list (pv 4) (pv 6) (fun _ _ => rfl)) pe_int (nomark _)) (pe_cmpR op_in_seq (pv 7) (pv 5) (by rfl)) (nomark _)))))))
            (pss_one (ps_ret (pe_tup (pa_cons (pv 3) (pa_cons (pv 6) pa_nil))))) pss_nil)
          (pss_one (ps_if (pt_cmpR op_lt (pe_ix ix_list (pv 4) (pv 6) (fun _ _ => rfl)) pe_int (nomark _))
            (pss_one (ps_expr (pe_bm PySem.F.plainAttrs_list PySem.F.slot_list_append PySem.F.type_list_append mt_append (pv 5) (pa_cons (pv 7) pa_nil))))
            (pss_one (ps_expr (pe_bm PySem.F.plainAttrs_list PySem.F.slot_list_remove PySem.F.type_list_remove mt_remove (pv 5) (pa_cons (pv 7) pa_nil)))))))))
        (pss_cons (ps_if (pt_cmpR (op_neD hr.units) (pv 5) (pe_lst pa_nil) (nomark _)) (pss_one (ps_ret (pe_tup (pa_cons (pv 3) (pa_cons (pe_callB call_len_seq (by rfl) T.n_len (by decide +kernel) (pa_cons (pv 4) pa_nil)) pa_nil))))) pss_nil)
        (pss_one (ps_set (i := 2) nd rfl (Or.inl rfl) (pe_op op_cat (pv 2) (pe_lc (own := [("_law_operation", 8)]) (g := gName 8) (tt := tYes) rfl nd (pi_list (pv 4)) (blkOk_by (own := [("_law_operation", 8)]) (N := ["_law_size_here", "_law_programs_here", "_law_taken", "_law_session", "_law_row", "_law_outs", "_law_index", "_law_node", "_law_operation"]) (sc := defScope s__law_fault) (by decide +kernel)) (fun _ _ _ _ _ => pg_name (i := 8) nd rfl (Or.inl rfl)) (fun _ _ _ _ _ => pts_nil) (fun _ _ _ _ _ => pe_callB call_abs (by rfl) T.n_abs (by decide +kernel) (pa_cons (pv 8) pa_nil)))))))))))
      (pss_one (ps_ret pe_non))), ?_⟩
    refine ⟨by decide, fun tk htk => ?_⟩
    have s0 : ∀ o, Same H (upd H tk o) := fun _ => Same.new htk
    refine ⟨_, rfl, pl, _, rfl, .inl (SqL.of (s0 _ _ _ PG.ob)), _, rfl, by omega, by rw [List.length_map, PG.len]; omega, ?_⟩
    rw [List.length_map, PG.len]
    refine for_range (lo := 0) (n := (ps.length : Int).toNat) (fun i σ' H' => ∃ (v3 v4 v5 v6 v7 : Option V) (tk : Addr) (t : List Int), σ' = [some (.int n), some (.ref pl), some (.ref tk), v3, v4, v5, v6, v7, none] ∧ Same H H' ∧ H' tk = some (.lst (t.map V.int)) ∧ t.length ≤ 1000 * i ∧ flt n [] ps 0 = flt n t (ps.drop i) i)
      ⟨none, none, none, none, none, tk, [], rfl, s0 _, upd_same, Nat.zero_le _, rfl⟩ ?_ ?_
    · rintro i σ' H1 hi ⟨v3, v4, v5, v6, v7, tk, t, rfl, s1, etk, htl, efl⟩
      rw [Int.toNat_natCast] at hi
      have PG1 := PG.same s1
      have hp : ps[i]? = some ps[i] := List.getElem?_eq_getElem hi
      obtain ⟨a, ha1, ha2⟩ := PG1.get hp
      have hpi := hps ps[i] (List.getElem_mem hi)
      generalize ps[i] = p at hp ha2 hpi
      rw [drop_of hp, flt_cons] at efl
      refine ⟨_, rfl, _, rfl, pl, _, _, _, rfl, rfl, SqL.of PG1.ob, at_of (j := i) (by omega) (by rw [List.getElem?_map, ha1]; rfl), ?_⟩
      refine ⟨by decide, fun od hod => ?_⟩
      have nad : a ≠ od := ne_of_none ha2 hod
      have ntd : tk ≠ od := ne_of_none etk hod
      refine ⟨_, rfl, a, _, rfl, .inl (SqL.of ((Same.new hod) _ _ ha2)), _, rfl, by omega, by rw [List.length_map]; omega, ?_⟩
      rw [List.length_map]
      have hz : ∀ x : Int, ab x = if x < 0 then -x else x := fun _ => rfl
      refine for_range (lo := 0) (n := (p.length : Int).toNat) (fun j σ' H' => ∃ (v6 v7 : Option V) (o : List Int), σ' = [some (.int n), some (.ref pl), some (.ref tk), some (.int (0 + (i : Nat))), some (.ref a), some (.ref od), v6, v7, none] ∧ But od H1 H' ∧ H' od = some (.lst (o.map V.int)) ∧ o.length ≤ j ∧ fw n t p 0 [] = fw n t (p.drop j) j o)
        ⟨v6, v7, [], rfl, But.refl.upd, upd_same, Nat.le_refl _, rfl⟩ ?_ ?_
      · rintro j σ' H2 hj ⟨v6, v7, o, rfl, b2, eod, hol, efw⟩
        rw [Int.toNat_natCast] at hj
        have ss : Same H H2 := s1.trans (But.fresh (Same.refl _) hod b2)
        have ea2 := b2 _ _ ha2 nad
        have et2 := b2 _ _ etk ntd
        have hq : p[j]? = some p[j] := List.getElem?_eq_getElem hj
        have ix : atI (p.map V.int) (0 + (j : Int)) = some (.int p[j]) := at_of (j := j) (by omega) (by rw [List.getElem?_map, hq]; rfl)
        generalize p[j] = op at hq ix
        rw [drop_of hq] at efw
        refine ⟨_, rfl, _, rfl, a, _, _, _, rfl, rfl, SqL.of ea2, ix, op, rfl, ?_⟩
        have out : (fw n t (op :: p.drop (j + 1)) j o = some j) → ∀ H', Same H2 H' → ∀ T, H' T = none → Q (.ref T) (upd H' T (.tup [.int (0 + (i : Nat)), .int (0 + (j : Nat))])) := fun z H' sa T hT => by
          rw [efw, z] at efl
          rw [Int.zero_add, Int.zero_add]
          exact k1 i j efl _ T ((ss.trans sa).trans (Same.new hT)) upd_same
        refine ⟨_, rfl, rfl, _, rfl, ?_⟩
        by_cases c1 : V.int (ab op) = V.int 0
        · refine dT c1 ⟨_, rfl, _, rfl, (by show 2 ≤ sizeLine; decide), out ?_ _ (Same.refl _)⟩
          have := V.int.inj c1
          rw [fw_cons, if_pos (.inl (by omega))]
        refine dF c1 ⟨_, rfl, _, rfl, _, _, rfl, rfl, _, rfl, ?_⟩
        by_cases c2 : n < ab op
        · refine dT c2 ⟨_, rfl, _, rfl, (by show 2 ≤ sizeLine; decide), out ?_ _ (Same.refl _)⟩
          rw [fw_cons, if_pos (.inr (.inl c2))]
        refine dF c2 ⟨_, rfl, _, rfl, tk, _, rfl, .inl (SqL.of et2), rfl, flat_ints _, ?_⟩
        rw [inV_int]
        refine ⟨_, rfl, ?_⟩
        by_cases c3 : ab op ∈ t
        · refine dT c3 ⟨_, rfl, _, rfl, (by show 2 ≤ sizeLine; decide), out ?_ _ (Same.refl _)⟩
          rw [fw_cons, if_pos (.inr (.inr c3))]
        have o0 : op ≠ 0 := fun z => c1 (by rw [z]; rfl)
        have a1 : ¬ ab op < 1 := by unfold ab; split <;> omega
        refine dF c3 ⟨_, rfl, _, rfl, a, _, _, _, rfl, rfl, SqL.of ea2, ix, _, _, rfl, rfl, _, rfl, _, rfl, od, _, rfl, .inl (SqL.of eod), rfl, flat_ints _, ?_⟩
        rw [inV_int]
        refine ⟨rfl, _, rfl, ?_⟩
        have cn : ¬ (ab op < 1 ∨ n < ab op ∨ ab op ∈ t) := fun z => by rcases z with z | z | z <;> contradiction
        rw [fw_cons, if_neg cn] at efw out
        by_cases c4 : decide (0 < op) = decide (ab op ∈ o)
        · rw [if_pos c4] at efw
          have c4' : ¬ V.bl (decide (op < 0)) = V.bl (decide (ab op ∈ o)) := fun z => by
            have z := V.bl.inj z
            rw [← c4] at z
            by_cases c : op < 0
            · rw [decide_eq_true c, decide_eq_false (by omega)] at z; cases z
            · rw [decide_eq_false c, decide_eq_true (by omega)] at z; cases z
          refine dF c4' ⟨_, rfl, _, rfl, a, _, _, _, rfl, rfl, SqL.of ea2, ix, _, _, rfl, rfl, _, rfl, ?_⟩
          by_cases c5 : op < 0
          · have st : stepO o op = o ++ [ab op] := if_pos c5
            rw [st] at efw
            refine dT c5 ⟨_, rfl, .inl ⟨rfl, _, SqL.of eod⟩, _, rfl, od, _, _, rfl, rfl, eod, by rw [List.length_map, sizeLine_eq]; omega, ?_⟩
            exact ⟨_, _, _, rfl, b2.upd, by rw [upd_same, List.map_append]; rfl, by rw [List.length_append]; show o.length + 1 ≤ _; omega, efw⟩
          · have io : ab op ∈ o := by
              rw [decide_eq_true (show 0 < op by omega)] at c4
              exact of_decide_eq_true c4.symm
            have st : stepO o op = o.erase (ab op) := if_neg c5
            rw [st] at efw
            obtain ⟨z, z1, z2, z3⟩ := rem_of io
            refine dF c5 ⟨_, rfl, .inl ⟨rfl, _, SqL.of eod⟩, _, rfl, od, o, ab op, z, rfl, rfl, eod, z1, z2, ?_⟩
            rw [z3]
            refine ⟨_, _, _, rfl, b2.upd, upd_same, ?_, efw⟩
            have := List.length_erase_of_mem io
            omega
        · rw [if_neg c4] at efw out
          have c4' : V.bl (decide (op < 0)) = V.bl (decide (ab op ∈ o)) := by
            congr 1
            by_cases c : op < 0
            · rw [decide_eq_true c]
              rw [decide_eq_false (show ¬ 0 < op by omega)] at c4
              cases h : decide (ab op ∈ o) with
              | true => rfl
              | false => exact absurd h.symm c4
            · rw [decide_eq_false c]
              rw [decide_eq_true (show 0 < op by omega)] at c4
              cases h : decide (ab op ∈ o) with
              | false => rfl
              | true => exact absurd h.symm c4
          exact dT c4' ⟨_, rfl, _, rfl, (by show 2 ≤ sizeLine; decide), out rfl _ (Same.refl _)⟩
      · rintro σ' H2 ⟨v6, v7, o, rfl, b2, eod, hol, efw⟩
        rw [Int.toNat_natCast] at hol efw
        have s12 := But.fresh (Same.refl _) hod b2
        have ss : Same H H2 := s1.trans s12
        have ea2 := b2 _ _ ha2 nad
        have et2 := b2 _ _ etk ntd
        rw [List.drop_length] at efw
        refine ⟨_, rfl, by decide, fun e he => ?_⟩
        have s3 : ∀ ob, Same H2 (upd H2 e ob) := fun _ => Same.new he
        refine ⟨pdI o, pdI [], dpI (SqL.of (s3 _ _ _ eod)), dpI (SqL.of upd_same), shI _, shI _, _, rfl, ?_⟩
        rw [eqI]
        by_cases c : o = []
        · have fn : fw n t p 0 [] = none := by rw [efw]; unfold fw; rw [if_pos c]
          rw [fn] at efl
          refine nF c ⟨_, rfl, _, rfl, a, rfl, ⟨_, SqL.of (s3 _ _ _ ea2)⟩, fun D hD => ?_⟩
          have ntD : tk ≠ D := ne_of_none (s3 _ _ _ et2) hD
          refine lc_list (K := K) (a := a) (xs := p.map V.int) (fun i H' => Same (upd H2 e (.lst [])) H' ∧ H' D = some (.lst (((p.take i).map ab).map V.int))) ⟨Same.new hD, upd_same⟩ (fun i H' _ h => SqL.of (h.1 _ _ (s3 _ _ _ ea2))) ?_ ?_
          · rintro j x H' hx ⟨s4, eD⟩
            obtain ⟨v, hv, rfl⟩ := map_at hx
            refine ⟨rfl, _, rfl, v, rfl, _, eD, ?_, fun b o eb => by rw [upd_ne (ne_of_none eb hD)]; exact s4 b o eb, ?_⟩
            · have := List.length_take_le j p
              rw [List.length_map, List.length_map, sizeLine_eq]
              have h2 : (p.take j).length ≤ p.length := by rw [List.length_take]; omega
              omega
            · rw [upd_same, take_snoc hv, List.map_append, List.map_append]; rfl
          · rintro H' ⟨s4, eD⟩
            rw [List.length_map, List.take_length] at eD
            have s24 := (s3 (.lst [])).trans s4
            have s04 := ss.trans s24
            refine ⟨tk, D, _, _, rfl, rfl, s24 _ _ et2, eD, by rw [List.length_map, List.length_map, List.length_map, sizeLine_eq]; omega, fun q hq => ?_⟩
            exact ⟨_, _, _, _, _, q, t ++ p.map ab, rfl, s04.trans (Same.new hq), by rw [upd_same, List.map_append], by rw [List.length_append, List.length_map]; omega, efl⟩
        · have fn : fw n t p 0 [] = some p.length := by rw [efw]; unfold fw; rw [if_neg c]
          rw [fn] at efl
          refine nT c ⟨_, rfl, _, rfl, a, _, rfl, .inl (SqL.of (s3 _ _ _ ea2)), (by show 2 ≤ sizeLine; decide), fun T hT => ?_⟩
          rw [List.length_map, Int.zero_add]
          exact k1 i p.length efl _ T ((ss.trans (s3 _)).trans (Same.new hT)) upd_same
    · rintro σ' H' ⟨v3, v4, v5, v6, v7, tk, t, rfl, s1, etk, htl, efl⟩
      rw [Int.toNat_natCast, List.drop_length] at efl
      exact k0 efl H' s1
end
end Lk

set_option maxHeartbeats 4000000
/-! The law's standings. -/
namespace Lk
open PySem PySem.Spec PyProof.Rows L2
/-- a standing, as the law keeps it -/
structure StAt (H : Hp) (st : Addr) (s : Sg) : Prop where
  ex : ∃ l r f : Addr, H st = some (.lst [.ref l, .ref r, .ref f]) ∧ H l = some (.lst (s.L.map V.int)) ∧ H r = some (.lst (s.R.map V.int)) ∧ H f = some (.lst (s.F.map V.bl))
theorem StAt.same {H H' : Hp} {st : Addr} {s : Sg} (h : StAt H st s) (e : Same H H') : StAt H' st s :=
  let ⟨l, r, f, h1, h2, h3, h4⟩ := h.ex
  ⟨l, r, f, e _ _ h1, e _ _ h2, e _ _ h3, e _ _ h4⟩
/-- d is none of the standing's places -/
def Off (H : Hp) (st d : Addr) : Prop := st ≠ d ∧ ∀ l r f : Addr, H st = some (.lst [.ref l, .ref r, .ref f]) → l ≠ d ∧ r ≠ d ∧ f ≠ d
theorem Off.new {H : Hp} {st d : Addr} {s : Sg} (h : StAt H st s) (e : H d = none) : Off H st d := by
  obtain ⟨l, r, f, h1, h2, h3, h4⟩ := h.ex
  refine ⟨ne_of_none h1 e, fun l' r' f' q => ?_⟩
  rw [h1] at q
  cases q
  exact ⟨ne_of_none h2 e, ne_of_none h3 e, ne_of_none h4 e⟩
theorem Off.same {H H' : Hp} {st d : Addr} {s : Sg} (h : Off H st d) (S : StAt H st s) (e : Same H H') : Off H' st d := by
  obtain ⟨l, r, f, h1, _⟩ := S.ex
  refine ⟨h.1, fun l' r' f' q => h.2 l' r' f' ?_⟩
  rw [e _ _ h1] at q
  rw [h1]; exact q
theorem Off.upd {H : Hp} {st d a : Addr} {o : HO} (h : Off H st d) (h2 : Off H st a) : Off (upd H a o) st d :=
  ⟨h.1, fun l r f q => h.2 l r f (by rw [upd_ne h2.1] at q; exact q)⟩
theorem StAt.upd {H : Hp} {st d : Addr} {o : HO} {s : Sg} (h : StAt H st s) (f : Off H st d) : StAt (upd H d o) st s := by
  obtain ⟨l, r, g, h1, h2, h3, h4⟩ := h.ex
  obtain ⟨f1, f2, f3⟩ := f.2 _ _ _ h1
  exact ⟨l, r, g, by rw [upd_ne f.1]; exact h1, by rw [upd_ne f1]; exact h2, by rw [upd_ne f2]; exact h3, by rw [upd_ne f3]; exact h4⟩
def spStart (K : PySem.W.Frag) : Sp := fun vs H Q _ => ∃ n : Nat, vs = [.int (n : Nat)] ∧ n ≤ 60 ∧ ∀ H' st, Same H H' → StAt H' st (Sg.whole n) → Q (.ref st) H'
def spAfter (K : PySem.W.Frag) : Sp := fun vs H Q _ => ∃ (st : Addr) (n : Nat) (s : Sg) (op : Int), vs = [.ref st, .int op] ∧ StAt H st s ∧ n ≤ 60 ∧ Wf n s ∧ IsOp n op ∧ ∀ H' st', Same H H' → StAt H' st' (s.app op) → (∀ d ob, H d = some ob → Off H' st' d) → Q (.ref st') H'
theorem at3 {a b c : V} : atI [a, b, c] 0 = some a ∧ atI [a, b, c] 1 = some b ∧ atI [a, b, c] 2 = some c := ⟨atI_nat (j := 0) rfl, atI_nat (j := 1) rfl, atI_nat (j := 2) rfl⟩
section
variable {P : Program} {w : World} {K : PySem.W.Frag} {mg : Str → Option Value} {base : Heap}
theorem ok_start (T : Top K mg) : FnOk P w K mg base CX0 1 (He.fAd K ("_law_start", none)) (fdOf K ("_law_start", none)) ["_law_size_here"] (spStart K) := by
  refine fd_ok T.d__law_start sc__law_start (fun vs H Q E h => ?_) (fun cdv A outer s H vs Q E hr h => ?_)
  · obtain ⟨n, rfl, _⟩ := h
    rfl
  · obtain ⟨n, rfl, hn, k⟩ := h
    have nd := sc__law_start.nd
    refine ⟨_, pss_cons (ps_setLc (i := 1) (own := [("_law_k", 3)]) (g := gName 3) (tt := tYes) rfl nd rfl rfl (sw_true rfl rfl rfl (by decide +kernel)) (pi_range1 rfl T.n_range (pa_cons (pe_op op_add (pv 0) pe_int) pa_nil)) (blkOk_by (own := [("_law_k", 3)]) (N := ["_law_size_here", "_law_lefts", "_law_rights", "_law_k"]) (sc := defScope s__law_start) (by decide +kernel)) (fun _ _ _ _ _ => pg_name (i := 3) nd rfl (Or.inl rfl)) (fun _ _ _ _ _ => pts_nil) (fun _ _ _ _ _ => pe_op op_sub (pv 3) pe_int))
      (pss_cons (ps_setLc (i := 2) (own := [("_law_k", 3)]) (g := gName 3) (tt := tYes) rfl nd rfl rfl (sw_true rfl rfl rfl (by decide +kernel)) (pi_range1 rfl T.n_range (pa_cons (pe_op op_add (pv 0) pe_int) pa_nil)) (blkOk_by (own := [("_law_k", 3)]) (N := ["_law_size_here", "_law_lefts", "_law_rights", "_law_k"]) (sc := defScope s__law_start) (by decide +kernel)) (fun _ _ _ _ _ => pg_name (i := 3) nd rfl (Or.inl rfl)) (fun _ _ _ _ _ => pts_nil) (fun _ _ _ _ _ => pe_op op_add (pv 3) pe_int))
      (pss_one (ps_ret (pe_lst (pa_cons (pv 1) (pa_cons (pv 2) (pa_cons (pe_lc (own := [("_law_k", 3)]) (g := gName 3) (tt := tYes) rfl nd (pi_range1 rfl T.n_range (pa_cons (pe_op op_add (pv 0) pe_int) pa_nil)) (blkOk_by (own := [("_law_k", 3)]) (N := ["_law_size_here", "_law_lefts", "_law_rights", "_law_k"]) (sc := defScope s__law_start) (by decide +kernel)) (fun _ _ _ _ _ => pg_name (i := 3) nd rfl (Or.inl rfl)) (fun _ _ _ _ _ => pts_nil) (fun _ _ _ _ _ => pe_bl)) pa_nil))))))), ?_⟩
    have en : ((n : Int) + 2).toNat = n + 2 := by omega
    refine ⟨_, rfl, _, _, rfl, rfl, _, rfl, by omega, by omega, fun D hD => ?_⟩
    rw [en]
    refine lc_range (lo := 0) (n := n + 2) (fun i H' => Same H H' ∧ H' D = some (.lst (((List.range i).map fun k : Nat => (k : Int) - 1).map V.int))) ⟨Same.new hD, upd_same⟩ ?_ ?_
    · rintro i H1 hi ⟨s1, eD⟩
      refine ⟨rfl, _, rfl, _, _, rfl, rfl, _, eD, ?_, fun b o eb => by rw [upd_ne (ne_of_none eb hD)]; exact s1 b o eb, ?_⟩
      · rw [List.length_map, List.length_map, List.length_range, sizeLine_eq]; omega
      · rw [upd_same, List.range_succ, List.map_append, List.map_append, show (0 + (i : Int)) = i by omega]; rfl
    rintro H1 ⟨s1, eD⟩
    refine ⟨_, rfl, _, _, rfl, rfl, _, rfl, by omega, by omega, fun D2 hD2 => ?_⟩
    rw [en]
    refine lc_range (lo := 0) (n := n + 2) (fun i H' => Same H1 H' ∧ H' D2 = some (.lst (((List.range i).map fun k : Nat => (k : Int) + 1).map V.int))) ⟨Same.new hD2, upd_same⟩ ?_ ?_
    · rintro i H2 hi ⟨s2, eD2⟩
      refine ⟨rfl, _, rfl, _, _, rfl, rfl, _, eD2, ?_, fun b o eb => by rw [upd_ne (ne_of_none eb hD2)]; exact s2 b o eb, ?_⟩
      · rw [List.length_map, List.length_map, List.length_range, sizeLine_eq]; omega
      · rw [upd_same, List.range_succ, List.map_append, List.map_append, show (0 + (i : Int)) = i by omega]; rfl
    rintro H2 ⟨s2, eD2⟩
    refine ⟨_, rfl, _, rfl, _, rfl, _, _, rfl, rfl, _, rfl, by omega, by omega, fun D3 hD3 => ?_⟩
    rw [en]
    refine lc_range (lo := 0) (n := n + 2) (fun i H' => Same H2 H' ∧ H' D3 = some (.lst ((List.replicate i false).map V.bl))) ⟨Same.new hD3, upd_same⟩ ?_ ?_
    · rintro i H3 hi ⟨s3, eD3⟩
      refine ⟨rfl, _, eD3, ?_, fun b o eb => by rw [upd_ne (ne_of_none eb hD3)]; exact s3 b o eb, ?_⟩
      · rw [List.length_map, List.length_replicate, sizeLine_eq]; omega
      · rw [upd_same, List.replicate_succ', List.map_append]; rfl
    rintro H3 ⟨s3, eD3⟩
    refine ⟨by show 3 ≤ sizeLine; decide, fun st hst => k _ st (((s1.trans s2).trans s3).trans (Same.new hst)) ⟨D, D2, D3, upd_same, ?_, ?_, ?_⟩⟩
    · exact (Same.new hst) _ _ (s3 _ _ (s2 _ _ eD))
    · exact (Same.new hst) _ _ (s3 _ _ eD2)
    · exact (Same.new hst) _ _ eD3
theorem ok_after (T : Top K mg) : FnOk P w K mg base CX0 1 (He.fAd K ("_law_after", none)) (fdOf K ("_law_after", none)) ["_law_state", "_law_operation"] (spAfter K) := by
  refine fd_ok T.d__law_after sc__law_after (fun vs H Q E h => ?_) (fun cdv A outer s H vs Q E hr h => ?_)
  · obtain ⟨st, n, sg, op, rfl, _⟩ := h
    rfl
  · obtain ⟨st, n, sg, op, rfl, ⟨al, ar, af, hst, hl, hr', hf⟩, hn, W, ho, k⟩ := h
    have nd := sc__law_after.nd
    have h1 := W.lo0 ho; have h2 := W.hi0 ho; have h3 := ho.1; have h4 := ho.2
    have lL := W.lL; have lR := W.lR; have lF := W.lF
    refine ⟨_, pss_cons (ps_set (i := 2) nd rfl (Or.inl rfl) (pe_callB call_abs (by rfl) T.n_abs (by decide +kernel) (pa_cons (pv 1) pa_nil)))
      (pss_cons (ps_set (i := 3) nd rfl (Or.inl rfl) (pe_ix ix_list (pe_ix ix_list (pv 0) pe_int (fun _ _ => rfl)) (pv 2) (fun _ _ => rfl)))
      (pss_cons (ps_set (i := 4) nd rfl (Or.inl rfl) (pe_ix ix_list (pe_ix ix_list (pv 0) pe_int (fun _ _ => rfl)) (pv 2) (fun _ _ => rfl)))
      (pss_cons (ps_set (i := 5) nd rfl (Or.inl rfl) (pe_callTy call_list_of (by rfl) T.n_list (by decide +kernel) (pa_cons (pe_ix ix_list (pv 0) pe_int (fun _ _ => rfl)) pa_nil)))
      (pss_cons (ps_set (i := 6) nd rfl (Or.inl rfl) (pe_callTy call_list_of (by rfl) T.n_list (by decide +kernel) (pa_cons (pe_ix ix_list (pv 0) pe_int (fun _ _ => rfl)) pa_nil)))
      (pss_cons (ps_set (i := 7) nd rfl (Or.inl rfl) (pe_callTy call_list_of (by rfl) T.n_list (by decide +kernel) (pa_cons (pe_ix ix_list (pv 0) pe_int (fun _ _ => rfl)) pa_nil)))
      (pss_cons (ps_asg (pe_cmpR op_lt (pv 1) pe_int (nomark _)) (pg_sub (pv 7) (pv 2) set_list))
      (pss_cons (ps_if (pt_cmpR op_lt (pv 1) pe_int (nomark _))
        (pss_cons (ps_asg (pv 4) (pg_sub (pv 6) (pv 3) set_list)) (pss_one (ps_asg (pv 3) (pg_sub (pv 5) (pv 4) set_list))))
        (pss_cons (ps_asg (pv 2) (pg_sub (pv 6) (pv 3) set_list)) (pss_one (ps_asg (pv 2) (pg_sub (pv 5) (pv 4) set_list)))))
      (pss_one (ps_ret (pe_lst (pa_cons (pv 5) (pa_cons (pv 6) (pa_cons (pv 7) pa_nil))))))))))))), ?_⟩
    obtain ⟨z0, z1, z2⟩ := @at3 (.ref al) (.ref ar) (.ref af)
    refine ⟨_, rfl, op, rfl, _, rfl, st, _, _, _, rfl, rfl, SqL.of hst, z0, _, rfl, al, _, _, _, rfl, rfl, SqL.of hl, at_int (i := ab op) (by omega) (by omega), ?_⟩
    refine ⟨_, rfl, st, _, _, _, rfl, rfl, SqL.of hst, z1, _, rfl, ar, _, _, _, rfl, rfl, SqL.of hr', at_int (i := ab op) (by omega) (by omega), ?_⟩
    refine ⟨_, rfl, st, _, _, _, rfl, rfl, SqL.of hst, z0, ?_⟩
    refine ⟨al, _, rfl, .inl (SqL.of hl), fun D5 hD5 => ?_⟩
    have t5 : ∀ o, Same H (upd H D5 o) := fun _ => Same.new hD5
    refine ⟨_, rfl, st, _, _, _, rfl, rfl, SqL.of (t5 _ _ _ hst), z1, ar, _, rfl, .inl (SqL.of (t5 _ _ _ hr')), fun D6 hD6 => ?_⟩
    have n56 : D5 ≠ D6 := fun z => by rw [z, upd_same] at hD6; cases hD6
    have t6 : ∀ o, Same (upd H D5 (.lst (sg.L.map V.int))) (upd (upd H D5 (.lst (sg.L.map V.int))) D6 o) := fun _ => Same.new hD6
    refine ⟨_, rfl, st, _, _, _, rfl, rfl, SqL.of (t6 _ _ _ (t5 _ _ _ hst)), z2, af, _, rfl, .inl (SqL.of (t6 _ _ _ (t5 _ _ _ hf))), fun D7 hD7 => ?_⟩
    have n67 : D6 ≠ D7 := fun z => by rw [z, upd_same] at hD7; cases hD7
    have n57 : D5 ≠ D7 := fun z => by rw [← z, upd_ne n56, upd_same] at hD7; cases hD7
    have hH5 : H D5 = none := hD5
    have hH6 : H D6 = none := by rw [upd_ne n56.symm] at hD6; exact hD6
    have hH7 : H D7 = none := by rw [upd_ne n67.symm, upd_ne n57.symm] at hD7; exact hD7
    have key : ∀ (Lx Rx : List Int) (Fx : List Bool) (G : Hp), G = upd (upd (upd (upd (upd (upd H D5 (.lst (sg.L.map V.int))) D6 (.lst (sg.R.map V.int))) D7 (.lst (sg.F.map V.bl))) D7 (.lst (Fx.map V.bl))) D6 (.lst (Rx.map V.int))) D5 (.lst (Lx.map V.int)) →
        (⟨Lx, Rx, Fx⟩ : Sg) = sg.app op → ∀ st', G st' = none → Q (.ref st') (upd G st' (.lst [.ref D5, .ref D6, .ref D7])) := fun Lx Rx Fx G e ee st' hz => by
      subst e
      have hHs : ∀ b o, H b = some o → b ≠ st' := fun b o eb z => by
        have b5 := ne_of_none eb hH5; have b6 := ne_of_none eb hH6; have b7 := ne_of_none eb hH7
        rw [← z, upd_ne b5, upd_ne b6, upd_ne b7, upd_ne b7, upd_ne b6, upd_ne b5, eb] at hz
        cases hz
      refine k _ st' (fun b o eb => ?_) ⟨D5, D6, D7, upd_same, ?_, ?_, ?_⟩ (fun d ob ed => ⟨(hHs d ob ed).symm, fun l r f q => ?_⟩)
      · have b5 := ne_of_none eb hH5; have b6 := ne_of_none eb hH6; have b7 := ne_of_none eb hH7
        have bs : b ≠ st' := fun z => by
          rw [← z, upd_ne b5, upd_ne b6, upd_ne b7, upd_ne b7, upd_ne b6, upd_ne b5, eb] at hz
          cases hz
        rw [upd_ne bs, upd_ne b5, upd_ne b6, upd_ne b7, upd_ne b7, upd_ne b6, upd_ne b5]; exact eb
      · rw [upd_ne (fun z => by rw [← z, upd_same] at hz; cases hz), upd_same, ← ee]
      · rw [upd_ne (fun z => by rw [← z, upd_ne n56.symm, upd_same] at hz; cases hz), upd_ne n56.symm, upd_same, ← ee]
      · rw [upd_ne (fun z => by rw [← z, upd_ne n57.symm, upd_ne n67.symm, upd_same] at hz; cases hz), upd_ne n57.symm, upd_ne n67.symm, upd_same, ← ee]
      · rw [upd_same] at q
        cases q
        exact ⟨(ne_of_none ed hH5).symm, (ne_of_none ed hH6).symm, (ne_of_none ed hH7).symm⟩
    refine ⟨_, rfl, _, _, rfl, rfl, _, rfl, _, rfl, D7, _, _, _, rfl, rfl, upd_same, ixN_of (i := ab op) (by omega) (by rw [List.length_map]; omega), ?_⟩
    refine ⟨_, rfl, _, _, rfl, rfl, _, rfl, ?_⟩
    by_cases c : op < 0
    · refine dT c ⟨_, rfl, _, rfl, _, rfl, D6, _, _, _, rfl, rfl, (by rw [upd_ne n67, upd_ne n67, upd_same]), ixN_of (i := lo sg op) (by omega) (by rw [List.length_map]; omega), ?_⟩
      refine ⟨_, rfl, _, rfl, _, rfl, D5, _, _, _, rfl, rfl, (by rw [upd_ne n56, upd_ne n57, upd_ne n57, upd_ne n56, upd_same]), ixN_of (i := hi sg op) (by omega) (by rw [List.length_map]; omega), ?_⟩
      refine ⟨_, rfl, _, rfl, _, rfl, by show 3 ≤ sizeLine; decide, key (sg.L.set (hi sg op).toNat (lo sg op)) (sg.R.set (lo sg op).toNat (hi sg op)) (sg.F.set (ab op).toNat (decide (op < 0))) _ ?_ ?_⟩
      · rw [List.map_set, List.map_set, List.map_set]; rfl
      · unfold Sg.app; rw [if_pos c, if_pos c]
    · refine dF c ⟨_, rfl, _, rfl, _, rfl, D6, _, _, _, rfl, rfl, (by rw [upd_ne n67, upd_ne n67, upd_same]), ixN_of (i := lo sg op) (by omega) (by rw [List.length_map]; omega), ?_⟩
      refine ⟨_, rfl, _, rfl, _, rfl, D5, _, _, _, rfl, rfl, (by rw [upd_ne n56, upd_ne n57, upd_ne n57, upd_ne n56, upd_same]), ixN_of (i := hi sg op) (by omega) (by rw [List.length_map]; omega), ?_⟩
      refine ⟨_, rfl, _, rfl, _, rfl, by show 3 ≤ sizeLine; decide, key (sg.L.set (hi sg op).toNat (ab op)) (sg.R.set (lo sg op).toNat (ab op)) (sg.F.set (ab op).toNat (decide (op < 0))) _ ?_ ?_⟩
      · rw [List.map_set, List.map_set, List.map_set]; rfl
      · unfold Sg.app; rw [if_neg c, if_neg c]
end
end Lk

set_option maxHeartbeats 4000000
/-! The law's refusals: the plain law. -/
namespace Lk
open PySem PySem.Spec PyProof.Rows L2
def lost (s : Sg) (op g : Int) : Prop := (gi s.R g = g + 1 ∨ gi s.L (g + 1) = g) ∧ gi (s.app op).R g ≠ g + 1 ∧ gi (s.app op).L (g + 1) ≠ g
theorem lost_iff {n : Nat} {s : Sg} {op g : Int} (W : Wf n s) (h : IsOp n op) (g0 : 0 ≤ g) : lost s op g ↔ (g = lo s op ∧ fgl s op = true ∧ hl s op = false) ∨ (g = hi s op - 1 ∧ fgr s op = true ∧ hr s op = false) := by
  have h1 := W.lo0 h; have h2 := W.hi0 h
  have eL : gi s.L (ab op) = lo s op := rfl
  have eR : gi s.R (ab op) = hi s op := rfl
  unfold lost fgl fgr hl hr
  rw [app_R W h g0, app_L W h (by omega)]
  simp only [Bool.and_eq_true, decide_eq_true_eq, decide_eq_false_iff_not]
  by_cases a : g = lo s op
  · subst a
    rw [if_pos rfl, if_neg (show ¬ lo s op + 1 = hi s op by omega)]
    by_cases b : op < 0
    · rw [if_pos b]
      constructor
      · rintro ⟨x, y, z⟩
        refine .inl ⟨rfl, ⟨fun e => z ?_, x.resolve_right z⟩, z⟩
        rw [show lo s op + 1 = ab op by omega]; exact eL
      · rintro (⟨_, ⟨x, y⟩, z⟩ | ⟨x, _⟩)
        · exact ⟨.inl y, by omega, z⟩
        · omega
    · rw [if_neg b]
      constructor
      · rintro ⟨x, y, z⟩
        exact .inl ⟨rfl, ⟨by omega, x.resolve_right z⟩, z⟩
      · rintro (⟨_, ⟨x, y⟩, z⟩ | ⟨x, _⟩)
        · exact ⟨.inl y, by omega, z⟩
        · omega
  · rw [if_neg a]
    by_cases c : g + 1 = hi s op
    · have hg : g = hi s op - 1 := by omega
      subst hg
      rw [if_pos c, c]
      by_cases b : op < 0
      · rw [if_pos b]
        constructor
        · rintro ⟨x, y, z⟩
          refine .inr ⟨rfl, ⟨fun e => y ?_, x.resolve_left y⟩, y⟩
          rw [show hi s op - 1 = ab op by omega]; exact eR
        · rintro (⟨x, _⟩ | ⟨_, ⟨x, y⟩, z⟩)
          · exact absurd x a
          · exact ⟨.inr y, z, by omega⟩
      · rw [if_neg b]
        constructor
        · rintro ⟨x, y, z⟩
          exact .inr ⟨rfl, ⟨by omega, x.resolve_left y⟩, y⟩
        · rintro (⟨x, _⟩ | ⟨_, ⟨x, y⟩, z⟩)
          · exact absurd x a
          · exact ⟨.inr y, z, by omega⟩
    · rw [if_neg c]
      constructor
      · rintro ⟨x | x, y, z⟩
        · exact absurd x y
        · exact absurd x z
      · rintro (⟨x, _⟩ | ⟨x, _⟩)
        · exact absurd x a
        · omega
theorem refS_iff {s : Sg} {op : Int} : refS s op = true ↔ (fgl s op = true ∧ hl s op = false) ∨ (fgr s op = true ∧ hr s op = false) := by
  unfold refS
  cases fgl s op <;> cases fgr s op <;> cases hl s op <;> cases hr s op <;> simp
theorem lost_ref {n : Nat} {s : Sg} {op g : Int} (W : Wf n s) (h : IsOp n op) (g0 : 0 ≤ g) (l : lost s op g) : refS s op = true := by
  rcases (lost_iff W h g0).mp l with ⟨_, a⟩ | ⟨_, a⟩
  · exact refS_iff.mpr (.inl a)
  · exact refS_iff.mpr (.inr a)
theorem ref_lost {n : Nat} {s : Sg} {op : Int} (W : Wf n s) (h : IsOp n op) (l : ∀ g : Int, 0 ≤ g → g ≤ n → ¬ lost s op g) : refS s op = false := by
  have h1 := W.lo0 h; have h2 := W.hi0 h; have h3 := h.1; have h4 := h.2
  cases c : refS s op with
  | false => rfl
  | true =>
    rcases refS_iff.mp c with a | a
    · exact absurd ((lost_iff W h h1.1).mpr (.inl ⟨rfl, a⟩)) (l _ h1.1 (by omega))
    · exact absurd ((lost_iff W h (by omega)).mpr (.inr ⟨rfl, a⟩)) (l (hi s op - 1) (by omega) (by omega))
/-- what the law asks of a touched gap -/
def bad (s : Sg) (g : Int) : Prop := (gi s.R g ≠ g + 1 ∧ gi s.L (g + 1) ≠ g) ∨ (gi s.R g = g + 1 ∧ gb s.F g = false) ∨ (gi s.L (g + 1) = g ∧ gb s.F (g + 1) = false)
theorem bad_l {n : Nat} {s : Sg} {op : Int} (W : Wf n s) (h : IsOp n op) (f : fgl s op = true) : bad (s.app op) (lo s op) ↔ (hl s op = false ∨ gb s.F (lo s op + 1) = false) := by
  have h1 := W.lo0 h; have h2 := W.hi0 h
  unfold fgl at f
  simp only [Bool.and_eq_true, decide_eq_true_eq] at f
  unfold bad hl
  rw [app_R W h h1.1, app_L W h (by omega), app_F W h h1.1, app_F W h (by omega), if_pos rfl, if_neg (show ¬ lo s op + 1 = hi s op by omega), if_neg (show ¬ lo s op + 1 = ab op by omega), if_neg (show ¬ lo s op = ab op by omega)]
  simp only [decide_eq_false_iff_not]
  have e : (if op < 0 then hi s op else ab op) ≠ lo s op + 1 := by split <;> omega
  constructor
  · rintro (⟨_, x⟩ | ⟨x, _⟩ | ⟨_, x⟩)
    · exact .inl x
    · exact absurd x e
    · exact .inr x
  · intro z
    by_cases c : gi s.L (lo s op + 1) = lo s op
    · exact .inr (.inr ⟨c, z.resolve_left fun y => y c⟩)
    · exact .inl ⟨e, c⟩
theorem bad_r {n : Nat} {s : Sg} {op : Int} (W : Wf n s) (h : IsOp n op) (f : fgr s op = true) : bad (s.app op) (hi s op - 1) ↔ (hr s op = false ∨ gb s.F (hi s op - 1) = false) := by
  have h1 := W.lo0 h; have h2 := W.hi0 h
  unfold fgr at f
  simp only [Bool.and_eq_true, decide_eq_true_eq] at f
  unfold bad hr
  rw [show hi s op - 1 + 1 = hi s op by omega]
  rw [app_R W h (by omega), app_L W h (by omega), app_F W h (by omega), app_F W h (by omega), if_pos rfl, if_neg (show ¬ hi s op - 1 = lo s op by omega), if_neg (show ¬ hi s op - 1 = ab op by omega), if_neg (show ¬ hi s op = ab op by omega)]
  simp only [decide_eq_false_iff_not]
  have e : (if op < 0 then lo s op else ab op) ≠ hi s op - 1 := by split <;> omega
  constructor
  · rintro (⟨x, _⟩ | ⟨_, x⟩ | ⟨x, _⟩)
    · exact .inl x
    · exact .inr x
    · exact absurd x e
  · intro z
    by_cases c : gi s.R (hi s op - 1) = hi s op
    · exact .inr (.inl ⟨c, z.resolve_left fun y => y c⟩)
    · exact .inl ⟨c, e⟩
theorem refG_iff {n : Nat} {s : Sg} {op : Int} (W : Wf n s) (h : IsOp n op) : refG s op = true ↔ ∃ g ∈ fws s op, bad (s.app op) g := by
  have q := lo_hi W h
  have e : refG s op = true ↔ (fgl s op = true ∧ (hl s op = false ∨ gb s.F (lo s op + 1) = false)) ∨ (fgr s op = true ∧ (hr s op = false ∨ gb s.F (hi s op - 1) = false)) := by
    unfold refG
    cases fgl s op <;> cases fgr s op <;> cases hl s op <;> cases hr s op <;> cases gb s.F (lo s op + 1) <;> cases gb s.F (hi s op - 1) <;> simp
  rw [e]
  constructor
  · rintro (⟨a, b⟩ | ⟨a, b⟩)
    · exact ⟨lo s op, by unfold fws; rw [if_pos a]; simp, (bad_l W h a).mpr b⟩
    · exact ⟨hi s op - 1, by unfold fws; rw [if_pos a]; simp, (bad_r W h a).mpr b⟩
  · rintro ⟨g, hg, b⟩
    unfold fws at hg
    rcases List.mem_append.mp hg with m | m
    · split at m
      · rename_i a
        rw [List.mem_singleton.mp m] at b
        exact .inl ⟨a, (bad_l W h a).mp b⟩
      · simp at m
    · split at m
      · rename_i a
        rw [List.mem_singleton.mp m] at b
        exact .inr ⟨a, (bad_r W h a).mp b⟩
      · simp at m
end Lk

set_option maxHeartbeats 4000000
/-! The law's refusals: the walk. -/
namespace Lk
open PySem PySem.Spec PyProof.Rows L2
def spRefused (K : PySem.W.Frag) : Sp := fun vs H Q _ => ∃ (st : Addr) (n : Nat) (s : Sg) (op : Int) (m : Md), vs = [.ref st, .int op, .str (mdS m)] ∧ StAt H st s ∧ n ≤ 60 ∧ Wf n s ∧ IsOp n op ∧ ∀ H', Same H H' → Q (.bl (Lk.ref s op m)) H'
section
variable {P : Program} {w : World} {K : PySem.W.Frag} {mg : Str → Option Value} {base : Heap}
theorem ok_refused (T : Top K mg) : FnOk P w K mg base CX0 2 (He.fAd K ("_law_refused", none)) (fdOf K ("_law_refused", none)) ["_law_state", "_law_operation", "_law_name"] (spRefused K) := by
  refine fd_ok T.d__law_refused sc__law_refused (fun vs H Q E h => ?_) (fun cdv A outer s H vs Q E hr h => ?_)
  · obtain ⟨st, n, sg, op, m, rfl, _⟩ := h
    rfl
  · obtain ⟨st, n, sg, op, m, rfl, ⟨al, ar, af, hst, hl', hr', hf⟩, hn, W, ho, k⟩ := h
    have S : StAt H st sg := ⟨al, ar, af, hst, hl', hr', hf⟩
    have nd := sc__law_refused.nd
    have h1 := W.lo0 ho; have h2 := W.hi0 ho; have h3 := ho.1; have h4 := ho.2
    have lL := W.lL; have lR := W.lR; have lF := W.lF
    refine ⟨_, pss_cons (ps_set (i := 3) nd rfl (Or.inl rfl) (pe_callB call_abs (by rfl) T.n_abs (by decide +kernel) (pa_cons (pv 1) pa_nil)))
      (pss_cons (ps_set (i := 4) nd rfl (Or.inl rfl) (pe_ix ix_list (pe_ix ix_list (pv 0) pe_int (fun _ _ => rfl)) (pv 3) (fun _ _ => rfl)))
      (pss_cons (ps_set (i := 5) nd rfl (Or.inl rfl) (pe_ix ix_list (pe_ix ix_list (pv 0) pe_int (fun _ _ => rfl)) (pv 3) (fun _ _ => rfl)))
      (pss_cons (ps_if (pt_cmpR op_eq (pv 2) pe_str (nomark _)) (pss_one (ps_ret pe_bl)) pss_nil)
      (pss_cons (ps_if (pt_cmpR op_eq (pv 2) pe_str (nomark _))
        (pss_cons (ps_if (PW.pt (pw_or (pt_val (pe_ix ix_list (pe_ix ix_list (pv 0) pe_int (fun _ _ => rfl)) (pv 4) (fun _ _ => rfl))) (pw_or1 (pt_val (pe_ix ix_list (pe_ix ix_list (pv 0) pe_int (fun _ _ => rfl)) (pv 5) (fun _ _ => rfl)))))) (pss_one (ps_ret pe_bl)) pss_nil)
        (pss_cons (ps_if (pt_cmpR op_lt (pv 1) pe_int (nomark _))
          (pss_one (ps_ret (pe_or (pe_cmpR op_ne (pe_ix ix_list (pe_ix ix_list (pv 0) pe_int (fun _ _ => rfl)) (pv 4) (fun _ _ => rfl)) (pv 3) (nomark _)) (pe_one (pe_cmpR op_ne (pe_ix ix_list (pe_ix ix_list (pv 0) pe_int (fun _ _ => rfl)) (pv 5) (fun _ _ => rfl)) (pv 3) (nomark _)))))) pss_nil)
        (pss_one (ps_ret (pe_or (pe_cmpR op_ne (pe_ix ix_list (pe_ix ix_list (pv 0) pe_int (fun _ _ => rfl)) (pv 4) (fun _ _ => rfl)) (pv 5) (nomark _)) (pe_one (pe_cmpR op_ne (pe_ix ix_list (pe_ix ix_list (pv 0) pe_int (fun _ _ => rfl)) (pv 5) (fun _ _ => rfl)) (pv 4) (nomark _)))))))) pss_nil)
      (pss_cons (ps_set (i := 6) nd rfl (Or.inl rfl) (pe_call (ok_after T) hr rfl T.g__law_after T.d__law_after.kp (b__law_after T) .nil pass0 (pa_cons (pv 0) (pa_cons (pv 1) pa_nil))))
      (pss_cons (ps_if (pt_cmpR op_eq (pv 2) pe_str (nomark _))
        (pss_cons (ps_for PassesOwn.never rfl (pi_range1 rfl T.n_range (pa_cons (pe_op op_sub (pe_callB call_len_seq (by rfl) T.n_len (by decide +kernel) (pa_cons (pe_ix ix_list (pv 0) pe_int (fun _ _ => rfl)) pa_nil)) pe_int) pa_nil)) (pg_name (i := 7) nd rfl (Or.inl rfl))
          (Evl.pss_cut (ps_set (i := 8) nd rfl (Or.inl rfl) (pe_or (pe_cmpR op_eq (pe_ix ix_list (pe_ix ix_list (pv 0) pe_int (fun _ _ => rfl)) (pv 7) (fun _ _ => rfl)) (pe_op op_add (pv 7) pe_int) (nomark _)) (pe_one (pe_cmpR op_eq (pe_ix ix_list (pe_ix ix_list (pv 0) pe_int (fun _ _ => rfl)) (pe_op op_add (pv 7) pe_int) (fun _ _ => rfl)) (pv 7) (nomark _)))))
          (pss_one (ps_if (PW.pt (pw_and (pt_val (pv 8)) (pw_and (pt_cmpR op_ne (pe_ix ix_list (pe_ix ix_list (pv 6) pe_int (fun _ _ => rfl)) (pv 7) (fun _ _ => rfl)) (pe_op op_add (pv 7) pe_int) (nomark _)) (pw_and1 (pt_cmpR op_ne (pe_ix ix_list (pe_ix ix_list (pv 6) pe_int (fun _ _ => rfl)) (pe_op op_add (pv 7) pe_int) (fun _ _ => rfl)) (pv 7) (nomark _)))))) (pss_one (ps_ret pe_bl)) pss_nil))))
        (pss_one (ps_ret pe_bl))) pss_nil)
      (pss_cons (ps_set (i := 9) nd rfl (Or.inl rfl) (pe_lst pa_nil))
      (Evl.pss_cut (ps_if (PW.pt (pw_and (pt_cmpR op_ne (pv 4) (pe_op op_sub (pv 3) pe_int) (nomark _)) (pw_and1 (pt_cmpR op_eq (pe_ix ix_list (pe_ix ix_list (pv 0) pe_int (fun _ _ => rfl)) (pv 4) (fun _ _ => rfl)) (pe_op op_add (pv 4) pe_int) (nomark _)))))
        (pss_one (ps_expr (pe_bm PySem.F.plainAttrs_list PySem.F.slot_list_append PySem.F.type_list_append mt_append (pv 9) (pa_cons (pv 4) pa_nil)))) pss_nil)
      (Evl.pss_cut (ps_if (PW.pt (pw_and (pt_cmpR op_ne (pv 5) (pe_op op_add (pv 3) pe_int) (nomark _)) (pw_and1 (pt_cmpR op_eq (pe_ix ix_list (pe_ix ix_list (pv 0) pe_int (fun _ _ => rfl)) (pv 5) (fun _ _ => rfl)) (pe_op op_sub (pv 5) pe_int) (nomark _)))))
        (pss_one (ps_expr (pe_bm PySem.F.plainAttrs_list PySem.F.slot_list_append PySem.F.type_list_append mt_append (pv 9) (pa_cons (pe_op op_sub (pv 5) pe_int) pa_nil)))) pss_nil)
      (pss_cons (ps_for PassesOwn.never rfl (pi_list (pv 9)) (pg_name (i := 7) nd rfl (Or.inl rfl))
        (Evl.pss_cut (ps_if (PW.pt (pw_and (pt_cmpR op_ne (pe_ix ix_list (pe_ix ix_list (pv 6) pe_int (fun _ _ => rfl)) (pv 7) (fun _ _ => rfl)) (pe_op op_add (pv 7) pe_int) (nomark _)) (pw_and1 (pt_cmpR op_ne (pe_ix ix_list (pe_ix ix_list (pv 6) pe_int (fun _ _ => rfl)) (pe_op op_add (pv 7) pe_int) (fun _ _ => rfl)) (pv 7) (nomark _))))) (pss_one (ps_ret pe_bl)) pss_nil)
        (Evl.pss_cut (ps_if (PW.pt (pw_and (pt_cmpR op_eq (pe_ix ix_list (pe_ix ix_list (pv 6) pe_int (fun _ _ => rfl)) (pv 7) (fun _ _ => rfl)) (pe_op op_add (pv 7) pe_int) (nomark _)) (pw_and1 (pt_not (pt_val (pe_ix ix_list (pe_ix ix_list (pv 6) pe_int (fun _ _ => rfl)) (pv 7) (fun _ _ => rfl))))))) (pss_one (ps_ret pe_bl)) pss_nil)
        (pss_one (ps_if (PW.pt (pw_and (pt_cmpR op_eq (pe_ix ix_list (pe_ix ix_list (pv 6) pe_int (fun _ _ => rfl)) (pe_op op_add (pv 7) pe_int) (fun _ _ => rfl)) (pv 7) (nomark _)) (pw_and1 (pt_not (pt_val (pe_ix ix_list (pe_ix ix_list (pv 6) pe_int (fun _ _ => rfl)) (pe_op op_add (pv 7) pe_int) (fun _ _ => rfl))))))) (pss_one (ps_ret pe_bl)) pss_nil)))))
      (pss_one (ps_ret pe_bl)))))))))))), ?_⟩
    obtain ⟨z0, z1, z2⟩ := @at3 (.ref al) (.ref ar) (.ref af)
    refine ⟨_, rfl, op, rfl, _, rfl, st, _, _, _, rfl, rfl, SqL.of hst, z0, _, rfl, al, _, _, _, rfl, rfl, SqL.of hl', at_int (i := ab op) (by omega) (by omega), ?_⟩
    refine ⟨_, rfl, st, _, _, _, rfl, rfl, SqL.of hst, z1, _, rfl, ar, _, _, _, rfl, rfl, SqL.of hr', at_int (i := ab op) (by omega) (by omega), ?_⟩
    refine ⟨_, rfl, by cases m <;> rfl, _, rfl, ?_⟩
    have f1 : V.str (mdS .checked) ≠ V.str "free" := by decide +kernel
    have f2 : V.str (mdS .saving) ≠ V.str "free" := by decide +kernel
    have f3 : V.str (mdS .guarded) ≠ V.str "free" := by decide +kernel
    have f4 : V.str (mdS .saving) ≠ V.str "checked" := by decide +kernel
    have f5 : V.str (mdS .guarded) ≠ V.str "checked" := by decide +kernel
    have f6 : V.str (mdS .guarded) ≠ V.str "saving" := by decide +kernel
    cases m with
    | free => exact dT rfl (k H (Same.refl _))
    | checked =>
      refine dF f1 ⟨_, rfl, rfl, _, rfl, dT rfl ?_⟩
      have k : Q (.bl (!locl sg op)) H := k H (Same.refl _)
      unfold locl at k
      refine ⟨_, rfl, st, _, _, _, rfl, rfl, SqL.of hst, z2, _, rfl, af, _, _, _, rfl, rfl, SqL.of hf, at_bl (i := lo sg op) (by omega) (by omega), _, rfl, ?_⟩
      cases c1 : gb sg.F (lo sg op) with
      | true =>
        rw [c1] at k
        exact iteT k
      | false =>
        rw [c1] at k
        refine iteF ⟨_, rfl, st, _, _, _, rfl, rfl, SqL.of hst, z2, _, rfl, af, _, _, _, rfl, rfl, SqL.of hf, at_bl (i := hi sg op) (by omega) (by omega), _, rfl, ?_⟩
        cases c2 : gb sg.F (hi sg op) with
        | true =>
          rw [c2] at k
          exact iteT k
        | false =>
          rw [c2] at k
          rw [show (false || false) = false from rfl, if_neg (by decide)] at k
          refine iteF ⟨_, rfl, _, _, rfl, rfl, _, rfl, ?_⟩
          by_cases c3 : op < 0
          · rw [if_pos c3] at k
            refine dT c3 ⟨_, rfl, st, _, _, _, rfl, rfl, SqL.of hst, z1, _, rfl, ar, _, _, _, rfl, rfl, SqL.of hr', at_int (i := lo sg op) (by omega) (by omega), _, rfl, rfl, _, rfl, ?_⟩
            by_cases c4 : gi sg.R (lo sg op) = ab op
            · rw [decide_eq_true c4] at k
              refine nF (congrArg V.int c4) ⟨_, rfl, st, _, _, _, rfl, rfl, SqL.of hst, z0, _, rfl, al, _, _, _, rfl, rfl, SqL.of hl', at_int (i := hi sg op) (by omega) (by omega), _, rfl, rfl, ?_⟩
              show Q (.bl (!decide (V.int (gi sg.L (hi sg op)) = V.int (ab op)))) H
              rw [dec_int, Bool.beq_eq_decide_eq]
              exact k
            · rw [decide_eq_false c4] at k
              exact nT (fun z => c4 (V.int.inj z)) k
          · rw [if_neg c3] at k
            refine dF c3 ⟨_, rfl, st, _, _, _, rfl, rfl, SqL.of hst, z1, _, rfl, ar, _, _, _, rfl, rfl, SqL.of hr', at_int (i := lo sg op) (by omega) (by omega), _, rfl, rfl, _, rfl, ?_⟩
            by_cases c4 : gi sg.R (lo sg op) = hi sg op
            · rw [decide_eq_true c4] at k
              refine nF (congrArg V.int c4) ⟨_, rfl, st, _, _, _, rfl, rfl, SqL.of hst, z0, _, rfl, al, _, _, _, rfl, rfl, SqL.of hl', at_int (i := hi sg op) (by omega) (by omega), _, rfl, rfl, ?_⟩
              show Q (.bl (!decide (V.int (gi sg.L (hi sg op)) = V.int (lo sg op)))) H
              rw [dec_int, Bool.beq_eq_decide_eq]
              exact k
            · rw [decide_eq_false c4] at k
              exact nT (fun z => c4 (V.int.inj z)) k
    | saving =>
      refine dF f2 ⟨_, rfl, rfl, _, rfl, dF f4 ⟨_, rfl, _, rfl, st, n, sg, op, rfl, S, hn, W, ho, fun H1 st' s1 ⟨al', ar', af', hst', hl2, hr2, hf2⟩ _ => ⟨_, rfl, rfl, _, rfl, dT rfl ?_⟩⟩⟩
      have W' := W.app ho
      obtain ⟨y0, y1, y2⟩ := @at3 (.ref al') (.ref ar') (.ref af')
      have lL' := W'.lL; have lR' := W'.lR; have lF' := W'.lF
      refine ⟨_, rfl, st, _, _, _, rfl, rfl, SqL.of (s1 _ _ hst), z0, al, _, rfl, .inl (SqL.of (s1 _ _ hl')), _, _, rfl, rfl, _, rfl, by omega, by rw [List.length_map]; omega, ?_⟩
      rw [List.length_map, lL, show (((n + 2 : Nat) : Int) - 1).toNat = n + 1 by omega]
      refine for_range (lo := 0) (n := n + 1) (fun i σ' H' => ∃ v7 v8 : Option V, σ' = [some (.ref st), some (.int op), some (.str (mdS .saving)), some (.int (ab op)), some (.int (lo sg op)), some (.int (hi sg op)), some (.ref st'), v7, v8, none] ∧ H1 = H' ∧ ∀ g : Int, 0 ≤ g → g < i → ¬ lost sg op g)
        ⟨none, none, rfl, rfl, fun g h1 h2 => by omega⟩ ?_ ?_
      · rintro i _ _ hi' ⟨v7, v8, rfl, rfl, hno⟩
        have ei : (0 + (i : Int)) = i := by omega
        rw [ei]
        refine ⟨fun σ' H' => σ' = [some (.ref st), some (.int op), some (.str (mdS .saving)), some (.int (ab op)), some (.int (lo sg op)), some (.int (hi sg op)), some (.ref st'), some (.int (i : Nat)), some (.bl (decide (gi sg.R i = i + 1 ∨ gi sg.L ((i : Int) + 1) = i))), none] ∧ H1 = H', ?_, ?_⟩
        · refine ⟨_, rfl, st, _, _, _, rfl, rfl, SqL.of (s1 _ _ hst), z1, _, rfl, ar, _, _, _, rfl, rfl, SqL.of (s1 _ _ hr'), at_int (i := (i : Int)) (by omega) (by omega), _, rfl, _, _, rfl, rfl, rfl, _, rfl, ?_⟩
          by_cases c1 : gi sg.R i = i + 1
          · refine dT (congrArg V.int c1) ⟨?_, rfl⟩
            rw [decide_eq_true (Or.inl c1)]
            rfl
          · refine dF (fun z => c1 (V.int.inj z)) ⟨_, rfl, st, _, _, _, rfl, rfl, SqL.of (s1 _ _ hst), z0, _, rfl, _, _, rfl, rfl, al, _, _, _, rfl, rfl, SqL.of (s1 _ _ hl'), at_int (i := (i : Int) + 1) (by omega) (by omega), _, rfl, rfl, ?_, rfl⟩
            by_cases c2 : gi sg.L ((i : Int) + 1) = i
            · rw [decide_eq_true (congrArg V.int c2), decide_eq_true (Or.inr c2)]
              rfl
            · rw [decide_eq_false (fun z => c2 (V.int.inj z)), decide_eq_false (fun z => z.elim c1 c2)]
              rfl
        rintro _ _ ⟨rfl, rfl⟩
        have nxt : ¬ lost sg op i → ∀ g : Int, 0 ≤ g → g < ((i + 1 : Nat) : Int) → ¬ lost sg op g := fun c g h1 h2 => by
          by_cases e : g = i
          · rw [e]; exact c
          · exact hno g h1 (by omega)
        refine ⟨_, rfl, _, rfl, ?_⟩
        by_cases c1 : gi sg.R i = i + 1 ∨ gi sg.L ((i : Int) + 1) = i
        · refine dT c1 ⟨_, rfl, st', _, _, _, rfl, rfl, SqL.of hst', y1, _, rfl, ar', _, _, _, rfl, rfl, SqL.of hr2, at_int (i := (i : Int)) (by omega) (by omega), _, rfl, _, _, rfl, rfl, rfl, _, rfl, ?_⟩
          by_cases c2 : gi (sg.app op).R i = i + 1
          · exact nF (congrArg V.int c2) ⟨_, _, rfl, rfl, nxt fun z => z.2.1 c2⟩
          · refine nT (fun z => c2 (V.int.inj z)) ⟨_, rfl, st', _, _, _, rfl, rfl, SqL.of hst', y0, _, rfl, _, _, rfl, rfl, al', _, _, _, rfl, rfl, SqL.of hl2, at_int (i := (i : Int) + 1) (by omega) (by omega), _, rfl, rfl, _, rfl, ?_⟩
            by_cases c3 : gi (sg.app op).L ((i : Int) + 1) = i
            · exact nF (congrArg V.int c3) ⟨_, _, rfl, rfl, nxt fun z => z.2.2 c3⟩
            · have := k H1 s1
              rw [show Lk.ref sg op .saving = true from lost_ref W ho (by omega) ⟨c1, c2, c3⟩] at this
              exact nT (fun z => c3 (V.int.inj z)) this
        · exact dF c1 ⟨_, _, rfl, rfl, nxt fun z => c1 z.1⟩
      · rintro σ' _ ⟨v7, v8, rfl, rfl, hno⟩
        have := k H1 s1
        rw [show Lk.ref sg op .saving = false from ref_lost W ho fun g h1 h2 => hno g h1 (by omega)] at this
        exact this
    | guarded =>
      refine dF f3 ⟨_, rfl, rfl, _, rfl, dF f5 ⟨_, rfl, _, rfl, st, n, sg, op, rfl, S, hn, W, ho, fun H1 st' s1 ⟨al', ar', af', hst', hl2, hr2, hf2⟩ _ => ⟨_, rfl, rfl, _, rfl, dF f6 ⟨by decide, fun d hd => ?_⟩⟩⟩⟩
      have W' := W.app ho
      obtain ⟨y0, y1, y2⟩ := @at3 (.ref al') (.ref ar') (.ref af')
      have lL' := W'.lL; have lR' := W'.lR; have lF' := W'.lF
      have sd : ∀ o, Same H1 (upd H1 d o) := fun _ => Same.new hd
      have se : ∀ o, Same H (upd H1 d o) := fun _ => s1.trans (Same.new hd)
      refine ⟨fun σ' H' => σ' = [some (.ref st), some (.int op), some (.str (mdS .guarded)), some (.int (ab op)), some (.int (lo sg op)), some (.int (hi sg op)), some (.ref st'), none, none, some (.ref d)] ∧ H' = upd H1 d (.lst ((if fgl sg op = true then [lo sg op] else []).map V.int)), ?_, ?_⟩
      · refine ⟨_, rfl, _, rfl, _, _, rfl, rfl, rfl, _, rfl, ?_⟩
        by_cases c1 : lo sg op = ab op - 1
        · have f : fgl sg op = false := by unfold fgl; rw [decide_eq_false (fun z => z c1)]; rfl
          refine nF (congrArg V.int c1) ⟨rfl, ?_⟩
          rw [f]; rfl
        · refine nT (fun z => c1 (V.int.inj z)) ⟨_, rfl, st, _, _, _, rfl, rfl, SqL.of (se _ _ _ hst), z1, _, rfl, ar, _, _, _, rfl, rfl, SqL.of (se _ _ _ hr'), at_int (i := lo sg op) (by omega) (by omega), _, rfl, _, _, rfl, rfl, rfl, _, rfl, ?_⟩
          by_cases c2 : gi sg.R (lo sg op) = lo sg op + 1
          · have f : fgl sg op = true := by unfold fgl; rw [decide_eq_true c1, decide_eq_true c2]; rfl
            refine dT (congrArg V.int c2) ⟨_, rfl, .inl ⟨rfl, _, SqL.of upd_same⟩, _, rfl, d, _, _, rfl, rfl, upd_same, by decide, rfl, ?_⟩
            rw [f, upd_upd]; rfl
          · have f : fgl sg op = false := by unfold fgl; rw [decide_eq_false c2, Bool.and_false]
            refine dF (fun z => c2 (V.int.inj z)) ⟨rfl, ?_⟩
            rw [f]; rfl
      rintro _ _ ⟨rfl, rfl⟩
      refine ⟨fun σ' H' => σ' = [some (.ref st), some (.int op), some (.str (mdS .guarded)), some (.int (ab op)), some (.int (lo sg op)), some (.int (hi sg op)), some (.ref st'), none, none, some (.ref d)] ∧ H' = upd H1 d (.lst ((fws sg op).map V.int)), ?_, ?_⟩
      · refine ⟨_, rfl, _, rfl, _, _, rfl, rfl, rfl, _, rfl, ?_⟩
        by_cases c1 : hi sg op = ab op + 1
        · have f : fgr sg op = false := by unfold fgr; rw [decide_eq_false (fun z => z c1)]; rfl
          refine nF (congrArg V.int c1) ⟨rfl, ?_⟩
          rw [show fws sg op = (if fgl sg op = true then [lo sg op] else []) by unfold fws; rw [f]; simp]
        · refine nT (fun z => c1 (V.int.inj z)) ⟨_, rfl, st, _, _, _, rfl, rfl, SqL.of (se _ _ _ hst), z0, _, rfl, al, _, _, _, rfl, rfl, SqL.of (se _ _ _ hl'), at_int (i := hi sg op) (by omega) (by omega), _, rfl, _, _, rfl, rfl, rfl, _, rfl, ?_⟩
          by_cases c2 : gi sg.L (hi sg op) = hi sg op - 1
          · have f : fgr sg op = true := by unfold fgr; rw [decide_eq_true c1, decide_eq_true c2]; rfl
            refine dT (congrArg V.int c2) ⟨_, rfl, .inl ⟨rfl, _, SqL.of upd_same⟩, _, rfl, _, _, rfl, rfl, d, _, _, rfl, rfl, upd_same, ?_, rfl, ?_⟩
            · rw [List.length_map]; exact small1000 (by split <;> simp)
            · rw [show fws sg op = (if fgl sg op = true then [lo sg op] else []) ++ [hi sg op - 1] by unfold fws; rw [f]; simp, upd_upd, List.map_append]; rfl
          · have f : fgr sg op = false := by unfold fgr; rw [decide_eq_false c2, Bool.and_false]
            refine dF (fun z => c2 (V.int.inj z)) ⟨rfl, ?_⟩
            rw [show fws sg op = (if fgl sg op = true then [lo sg op] else []) by unfold fws; rw [f]; simp]
      rintro _ _ ⟨rfl, rfl⟩
      refine ⟨_, rfl, d, rfl, ⟨_, SqL.of upd_same⟩, ?_⟩
      refine for_list (K := K) (a := d) (xs := (fws sg op).map V.int) (fun i σ' H' => ∃ v7 : Option V, σ' = [some (.ref st), some (.int op), some (.str (mdS .guarded)), some (.int (ab op)), some (.int (lo sg op)), some (.int (hi sg op)), some (.ref st'), v7, none, some (.ref d)] ∧ upd H1 d (.lst ((fws sg op).map V.int)) = H' ∧ ∀ g ∈ (fws sg op).take i, ¬ bad (sg.app op) g)
        ⟨none, rfl, rfl, fun g hg => (nomatch hg)⟩ (fun i σ' H' _ ⟨_, _, e, _⟩ => SqL.of (by rw [← e]; exact upd_same)) ?_ ?_
      · rintro i y _ _ hix ⟨v7, rfl, rfl, hno⟩
        obtain ⟨g, hg, rfl⟩ := map_at hix
        have hgm := List.mem_of_getElem? hg
        have g01 : 0 ≤ g ∧ g ≤ n := by rcases fws_at hgm with e | e <;> omega
        have T1 := (sd (.lst ((fws sg op).map V.int))) _ _ hst'
        have T2 := (sd (.lst ((fws sg op).map V.int))) _ _ hl2
        have T3 := (sd (.lst ((fws sg op).map V.int))) _ _ hr2
        have T4 := (sd (.lst ((fws sg op).map V.int))) _ _ hf2
        have yes : bad (sg.app op) g → Q (.bl true) (upd H1 d (.lst ((fws sg op).map V.int))) := fun b => by
          have := k _ (se (.lst ((fws sg op).map V.int)))
          rw [show Lk.ref sg op .guarded = true from (refG_iff W ho).mpr ⟨g, hgm, b⟩] at this
          exact this
        have nxt : ¬ bad (sg.app op) g → ∀ x ∈ (fws sg op).take (i + 1), ¬ bad (sg.app op) x := fun c x hx => by
          rw [take_snoc hg] at hx
          rcases List.mem_append.mp hx with m | m
          · exact hno x m
          · rw [List.mem_singleton.mp m]; exact c
        have third : ¬ (gi (sg.app op).R g ≠ g + 1 ∧ gi (sg.app op).L (g + 1) ≠ g) → ¬ (gi (sg.app op).R g = g + 1 ∧ gb (sg.app op).F g = false) → ¬ (gi (sg.app op).L (g + 1) = g ∧ gb (sg.app op).F (g + 1) = false) → ¬ bad (sg.app op) g := fun a b c z => by
          rcases z with z | z | z
          · exact a z
          · exact b z
          · exact c z
        refine ⟨fun σ' H' => σ' = [some (.ref st), some (.int op), some (.str (mdS .guarded)), some (.int (ab op)), some (.int (lo sg op)), some (.int (hi sg op)), some (.ref st'), some (.int g), none, some (.ref d)] ∧ upd H1 d (.lst ((fws sg op).map V.int)) = H' ∧ ¬ (gi (sg.app op).R g ≠ g + 1 ∧ gi (sg.app op).L (g + 1) ≠ g), ?_, ?_⟩
        · refine ⟨_, rfl, st', _, _, _, rfl, rfl, SqL.of T1, y1, _, rfl, ar', _, _, _, rfl, rfl, SqL.of T3, at_int (i := g) (by omega) (by omega), _, rfl, _, _, rfl, rfl, rfl, _, rfl, ?_⟩
          by_cases c2 : gi (sg.app op).R g = g + 1
          · exact nF (congrArg V.int c2) ⟨rfl, rfl, fun z => z.1 c2⟩
          · refine nT (fun z => c2 (V.int.inj z)) ⟨_, rfl, st', _, _, _, rfl, rfl, SqL.of T1, y0, _, rfl, _, _, rfl, rfl, al', _, _, _, rfl, rfl, SqL.of T2, at_int (i := g + 1) (by omega) (by omega), _, rfl, rfl, _, rfl, ?_⟩
            by_cases c3 : gi (sg.app op).L (g + 1) = g
            · exact nF (congrArg V.int c3) ⟨rfl, rfl, fun z => z.2 c3⟩
            · exact nT (fun z => c3 (V.int.inj z)) (yes (.inl ⟨c2, c3⟩))
        rintro _ _ ⟨rfl, rfl, no1⟩
        refine ⟨fun σ' H' => σ' = [some (.ref st), some (.int op), some (.str (mdS .guarded)), some (.int (ab op)), some (.int (lo sg op)), some (.int (hi sg op)), some (.ref st'), some (.int g), none, some (.ref d)] ∧ upd H1 d (.lst ((fws sg op).map V.int)) = H' ∧ ¬ (gi (sg.app op).R g = g + 1 ∧ gb (sg.app op).F g = false), ?_, ?_⟩
        · refine ⟨_, rfl, st', _, _, _, rfl, rfl, SqL.of T1, y1, _, rfl, ar', _, _, _, rfl, rfl, SqL.of T3, at_int (i := g) (by omega) (by omega), _, rfl, _, _, rfl, rfl, rfl, _, rfl, ?_⟩
          by_cases c2 : gi (sg.app op).R g = g + 1
          · refine dT (congrArg V.int c2) ⟨_, rfl, st', _, _, _, rfl, rfl, SqL.of T1, y2, _, rfl, af', _, _, _, rfl, rfl, SqL.of T4, at_bl (i := g) (by omega) (by omega), _, rfl, ?_⟩
            cases c3 : gb (sg.app op).F g with
            | true => exact iteF ⟨rfl, rfl, fun z => (nomatch z.2)⟩
            | false => exact iteT (yes (.inr (.inl ⟨c2, c3⟩)))
          · exact dF (fun z => c2 (V.int.inj z)) ⟨rfl, rfl, fun z => c2 z.1⟩
        rintro _ _ ⟨rfl, rfl, no2⟩
        refine ⟨_, rfl, st', _, _, _, rfl, rfl, SqL.of T1, y0, _, rfl, _, _, rfl, rfl, al', _, _, _, rfl, rfl, SqL.of T2, at_int (i := g + 1) (by omega) (by omega), _, rfl, rfl, _, rfl, ?_⟩
        by_cases c2 : gi (sg.app op).L (g + 1) = g
        · refine dT (congrArg V.int c2) ⟨_, rfl, st', _, _, _, rfl, rfl, SqL.of T1, y2, _, rfl, _, _, rfl, rfl, af', _, _, _, rfl, rfl, SqL.of T4, at_bl (i := g + 1) (by omega) (by omega), _, rfl, ?_⟩
          cases c3 : gb (sg.app op).F (g + 1) with
          | true => exact iteF ⟨_, rfl, rfl, nxt (third no1 no2 fun z => by rw [c3] at z; exact nomatch z.2)⟩
          | false => exact iteT (yes (.inr (.inr ⟨c2, c3⟩)))
        · exact dF (fun z => c2 (V.int.inj z)) ⟨_, rfl, rfl, nxt (third no1 no2 fun z => c2 z.1)⟩
      · rintro σ' _ ⟨v7, rfl, rfl, hno⟩
        have := k _ (se (.lst ((fws sg op).map V.int)))
        rw [List.length_map, List.take_length] at hno
        rw [show Lk.ref sg op .guarded = false by
          cases c : refG sg op with
          | false => exact c
          | true =>
            obtain ⟨g, hg, b⟩ := (refG_iff W ho).mp c
            exact absurd b (hno g hg)] at this
        exact this
end
end Lk

set_option maxHeartbeats 4000000
/-! The law's stack programs. -/
namespace Lk
open PySem PySem.Spec PyProof.Rows L2
def spNested (K : PySem.W.Frag) : Sp := fun vs H Q _ => ∃ (a : Addr) (n : Nat) (p : List Int), vs = [.ref a] ∧ H a = some (.lst (p.map V.int)) ∧ p.length ≤ 1000 ∧ LgP n p [] ∧ ∀ H', Same H H' → Q (.bl (nest p [])) H'
def stk (ps : List (List Int)) : Bool := ps.all fun p => nest p []
def spStack (K : PySem.W.Frag) : Sp := fun vs H Q _ => ∃ (pl : Addr) (as : List Addr) (n : Nat) (ps : List (List Int)), vs = [.ref pl] ∧ PgAt H pl as ps ∧ Few ps ∧ Lg n ps ∧ ∀ H', Same H H' → Q (.bl (stk ps)) H'
section
variable {P : Program} {w : World} {K : PySem.W.Frag} {mg : Str → Option Value} {base : Heap}
theorem ok_nested (T : Top K mg) : FnOk P w K mg base CX0 1 (He.fAd K ("_law_nested", none)) (fdOf K ("_law_nested", none)) ["_law_row"] (spNested K) := by
  refine fd_ok T.d__law_nested sc__law_nested (fun vs H Q E h => ?_) (fun cdv A outer s H vs Q E hr h => ?_)
  · obtain ⟨a, n, p, rfl, _⟩ := h
    rfl
  · obtain ⟨a, n, p, rfl, ha, hl, L, k⟩ := h
    have nd := sc__law_nested.nd
    refine ⟨_, pss_cons (ps_set (i := 1) nd rfl (Or.inl rfl) (pe_lst pa_nil))
      (pss_cons (ps_for PassesOwn.never rfl (pi_list (pv 0)) (pg_name (i := 2) nd rfl (Or.inl rfl))
        (pss_one (ps_if (pt_cmpR op_lt (pv 2) pe_int (nomark _))
          (pss_one (ps_expr (pe_bm PySem.F.plainAttrs_list PySem.F.slot_list_append PySem.F.type_list_append mt_append (pv 1) (pa_cons (pe_op op_sub pe_int (pv 2)) pa_nil))))
          (pss_one (ps_if (pt_cmpR op_ne (pe_bm0 PySem.F.plainAttrs_list PySem.F.slot_list_pop PySem.F.type_list_pop mt_pop (pv 1)) (pv 2) (nomark _)) (pss_one (ps_ret pe_bl)) pss_nil)))))
      (pss_one (ps_ret pe_bl))), ?_⟩
    refine ⟨by decide, fun d hd => ?_⟩
    have nad : a ≠ d := ne_of_none ha hd
    refine ⟨_, rfl, a, rfl, ⟨_, SqL.of ((Same.new hd) _ _ ha)⟩, ?_⟩
    refine for_list (K := K) (a := a) (xs := p.map V.int) (fun i σ' H' => ∃ v2 : Option V, σ' = [some (.ref a), some (.ref d), v2] ∧ But d H H' ∧ H' d = some (.lst ((outsOf (p.take i) []).map V.int)) ∧ (outsOf (p.take i) []).length ≤ i ∧ nest p [] = nest (p.drop i) (outsOf (p.take i) []))
      ⟨none, rfl, But.refl.upd, upd_same, Nat.zero_le _, rfl⟩ (fun i σ' H' _ ⟨_, _, b, _⟩ => SqL.of (b _ _ ha nad)) ?_ ?_
    · rintro i y σ' H' hix ⟨v2, rfl, b, ed, hol, e⟩
      obtain ⟨op, hop, rfl⟩ := map_at hix
      have hip := (List.getElem?_eq_some_iff.mp hop).1
      have ho := L.op op (List.mem_of_getElem? hop)
      have hlg := L.leg i op hop
      have hnd := L.nd i
      have est := outsOf_take hop []
      rw [drop_of hop] at e
      generalize outsOf (p.take i) [] = o at ed hol e hlg hnd est
      rw [est]
      have e : nest p [] = if op < 0 then nest (p.drop (i + 1)) (o ++ [ab op]) else decide (o.getLast? = some op) && nest (p.drop (i + 1)) o.dropLast := e
      refine ⟨_, rfl, _, _, rfl, rfl, _, rfl, ?_⟩
      by_cases c : op < 0
      · rw [if_pos c] at e
        have st : stepO o op = o ++ [ab op] := if_pos c
        have ea : ab op = 0 - op := by rw [ab_neg c]; omega
        refine dT c ⟨_, rfl, .inl ⟨rfl, _, SqL.of ed⟩, _, rfl, _, _, rfl, rfl, d, _, _, rfl, rfl, ed, by rw [List.length_map, sizeLine_eq]; omega, ?_⟩
        refine ⟨_, rfl, b.upd, by rw [upd_same, st, List.map_append, ea]; rfl, by rw [st, List.length_append]; show o.length + 1 ≤ _; omega, by rw [st]; exact e⟩
      · rw [if_neg c] at e
        have o0 := ho.ne
        have io : ab op ∈ o := hlg.mp (by omega)
        have one : o ≠ [] := fun z => by rw [z] at io; cases io
        obtain ⟨x, hx⟩ : ∃ x, o.getLast? = some x := ⟨_, List.getLast?_eq_some_getLast one⟩
        refine dF c ⟨_, rfl, .inl ⟨rfl, _, SqL.of ed⟩, d, _, .int x, rfl, rfl, ed, by rw [← List.getLast?_eq_getElem?, List.getLast?_map, hx]; rfl, _, rfl, rfl, _, rfl, ?_⟩
        by_cases c2 : x = op
        · subst c2
          rw [hx, decide_eq_true rfl, Bool.true_and] at e
          have st : stepO o x = o.dropLast := by
            show (if x < 0 then o ++ [ab x] else o.erase (ab x)) = _
            rw [if_neg c, ab_pos c, erase_last hnd hx]
          refine nF rfl ⟨_, rfl, b.upd, by rw [upd_same, st, List.map_dropLast], by rw [st, List.length_dropLast]; omega, by rw [st]; exact e⟩
        · have : nest p [] = false := by
            rw [e, hx, decide_eq_false (fun z => c2 (Option.some.inj z))]; rfl
          rw [this] at k
          exact nT (fun z => c2 (V.int.inj z)) (k _ (But.fresh (Same.refl _) hd b.upd))
    · rintro σ' H' ⟨v2, rfl, b, ed, hol, e⟩
      rw [List.length_map, List.drop_length] at e
      rw [e] at k
      exact k H' (But.fresh (Same.refl _) hd b)
theorem ok_stack (T : Top K mg) : FnOk P w K mg base CX0 2 (He.fAd K ("_law_stack", none)) (fdOf K ("_law_stack", none)) ["_law_programs_here"] (spStack K) := by
  refine fd_ok T.d__law_stack sc__law_stack (fun vs H Q E h => ?_) (fun cdv A outer s H vs Q E hr h => ?_)
  · obtain ⟨pl, as, n, ps, rfl, _⟩ := h
    rfl
  · obtain ⟨pl, as, n, ps, rfl, PG, ⟨fl, fe⟩, G, k⟩ := h
    have nd := sc__law_stack.nd
    refine ⟨_, pss_cons (ps_for PassesOwn.never rfl (pi_list (pv 0)) (pg_name (i := 1) nd rfl (Or.inl rfl))
        (pss_one (ps_if (pt_not (pt_val (pe_call (ok_nested T) hr rfl T.g__law_nested T.d__law_nested.kp (b__law_nested T) .nil pass0 (pa_cons (pv 1) pa_nil)))) (pss_one (ps_ret pe_bl)) pss_nil)))
      (pss_one (ps_ret pe_bl)), ?_⟩
    refine ⟨_, rfl, pl, rfl, ⟨_, SqL.of PG.ob⟩, ?_⟩
    refine for_list (K := K) (a := pl) (xs := as.map V.ref) (fun i σ' H' => ∃ v1 : Option V, σ' = [some (.ref pl), v1] ∧ Same H H' ∧ ∀ p ∈ ps.take i, nest p [] = true)
      ⟨none, rfl, Same.refl _, fun p hp => (nomatch hp)⟩ (fun i σ' H' _ ⟨_, _, e, _⟩ => SqL.of (e _ _ PG.ob)) ?_ ?_
    · rintro i y σ' H1 hix ⟨v1, rfl, s1, hy⟩
      obtain ⟨a, ha, rfl⟩ := map_at hix
      obtain ⟨p, hp, hap⟩ := PG.at_ i a ha
      have hm := List.mem_of_getElem? hp
      refine ⟨_, rfl, a, n, p, rfl, s1 _ _ hap, fe p hm, G.pr p hm, fun H2 s2 => ⟨_, rfl, ?_⟩⟩
      cases c : nest p [] with
      | true =>
        refine iteF ⟨_, rfl, s1.trans s2, fun q hq => ?_⟩
        rw [take_snoc hp] at hq
        rcases List.mem_append.mp hq with m | m
        · exact hy q m
        · rw [List.mem_singleton.mp m]; exact c
      | false =>
        have : stk ps = false := by
          cases e : stk ps with
          | false => rfl
          | true =>
            have := List.all_eq_true.mp e p hm
            rw [c] at this
            cases this
        rw [this] at k
        exact iteT (k H2 (s1.trans s2))
    · rintro σ' H1 ⟨v1, rfl, s1, hy⟩
      rw [List.length_map, PG.len, List.take_length] at hy
      have : stk ps = true := List.all_eq_true.mpr fun p hp => hy p hp
      rw [this] at k
      exact k H1 s1
end
end Lk

set_option maxHeartbeats 4000000
/-! The law's taker. -/
namespace Lk
open PySem PySem.Spec PyProof.Rows L2
def outV : Option Nat → V
  | some i => .int (i : Nat)
  | none => .non
def spTaker (K : PySem.W.Frag) : Sp := fun vs H Q _ => ∃ (pl st dl : Addr) (as : List Addr) (ps : List (List Int)) (dn o : List Nat) (n : Nat) (s : Sg) (m : Md) (cyc : Bool), vs = [.ref pl, .ref st, .ref dl, .str (mdS m), .int (fst0 o cyc : Nat)] ∧ PgAt H pl as ps ∧ Few ps ∧ Lg n ps ∧ n ≤ 60 ∧ StAt H st s ∧ Wf n s ∧
  H dl = some (.lst (dV dn)) ∧ dn.length = ps.length ∧ (∀ l ∈ o, l < ps.length) ∧ ∀ H', Same H H' → Q (outV (pick (rdy ps s dn m) o cyc)) H'
theorem fmod_nat {a b : Nat} : ((a : Int)).fmod (b : Int) = ((a % b : Nat) : Int) := by
  rw [Int.fmod_eq_emod_of_nonneg _ (by omega)]; rfl
theorem fst0_le {o : List Nat} {cyc : Bool} {N : Nat} (h : ∀ l ∈ o, l < N) : fst0 o cyc ≤ N := by
  unfold fst0
  cases cyc with
  | false => exact Nat.zero_le _
  | true =>
    cases e : o.getLast? with
    | none => rw [if_pos rfl]; exact Nat.zero_le _
    | some l =>
      rw [if_pos rfl]
      exact h l (List.mem_of_getLast? e)
section
variable {P : Program} {w : World} {K : PySem.W.Frag} {mg : Str → Option Value} {base : Heap}
theorem ok_taker (T : Top K mg) : FnOk P w K mg base CX0 3 (He.fAd K ("_law_taker", none)) (fdOf K ("_law_taker", none)) ["_law_programs_here", "_law_state", "_law_done", "_law_name", "_law_first"] (spTaker K) := by
  refine fd_ok T.d__law_taker sc__law_taker (fun vs H Q E h => ?_) (fun cdv A outer s H vs Q E hr h => ?_)
  · obtain ⟨pl, st, dl, as, ps, dn, o, n, sg, m, cyc, rfl, _⟩ := h
    rfl
  · obtain ⟨pl, st, dl, as, ps, dn, o, n, sg, m, cyc, rfl, PG, ⟨fl, fe⟩, G, hn, S, W, hdl, hdn, ho, k⟩ := h
    have nd := sc__law_taker.nd
    refine ⟨_, pss_cons (ps_set (i := 5) nd rfl (Or.inl rfl) (pe_callB call_len_seq (by rfl) T.n_len (by decide +kernel) (pa_cons (pv 0) pa_nil)))
      (pss_cons (ps_for PassesOwn.never rfl (pi_range1 rfl T.n_range (pa_cons (pv 5) pa_nil)) (pg_name (i := 6) nd rfl (Or.inl rfl))
        (pss_cons (ps_set (i := 7) nd rfl (Or.inl rfl) (pe_op op_modN (pe_callTy call_int1 (by rfl) T.n_int (by decide +kernel) (pa_cons (pe_op op_add (pv 4) (pv 6)) pa_nil)) (pv 5)))
        (pss_cons (ps_set (i := 8) nd rfl (Or.inl rfl) (pe_ix ix_list (pv 2) (pv 7) (fun _ _ => rfl)))
        (pss_one (ps_if (PW.pt (pw_and (pt_cmpR op_lt (pv 8) (pe_callB call_len_seq (by rfl) T.n_len (by decide +kernel) (pa_cons (pe_ix ix_list (pv 0) (pv 7) (fun _ _ => rfl)) pa_nil)) (by rfl)) (pw_and1 (pt_not (pt_val (pe_call (ok_refused T) hr rfl T.g__law_refused T.d__law_refused.kp (b__law_refused T) .nil pass0 (pa_cons (pv 1) (pa_cons (pe_ix ix_list (pe_ix ix_list (pv 0) (pv 7) (fun _ _ => rfl)) (pv 8) (fun _ _ => rfl)) (pa_cons (pv 3) pa_nil)))))))))
          (pss_one (ps_ret (pv 7))) pss_nil)))))
      (pss_one (ps_ret pe_non))), ?_⟩
    refine ⟨_, rfl, pl, _, rfl, .inl (SqL.of PG.ob), ?_⟩
    rw [List.length_map, PG.len]
    refine ⟨_, rfl, _, rfl, by omega, by omega, ?_⟩
    refine for_range (lo := 0) (n := (ps.length : Int).toNat) (fun i σ' H' => ∃ v6 v7 v8 : Option V, σ' = [some (.ref pl), some (.ref st), some (.ref dl), some (.str (mdS m)), some (.int (fst0 o cyc : Nat)), some (.int (ps.length : Nat)), v6, v7, v8] ∧ Same H H' ∧ ∀ j, j < i → okAt ps sg dn m ((fst0 o cyc + j) % ps.length) = false)
      ⟨none, none, none, rfl, Same.refl _, fun j hj => absurd hj (Nat.not_lt_zero j)⟩ ?_ ?_
    · rintro i σ' H1 hi ⟨v6, v7, v8, rfl, s1, hno⟩
      rw [Int.toNat_natCast] at hi
      have PG1 := PG.same s1
      have hx : (fst0 o cyc + i) % ps.length < ps.length := Nat.mod_lt _ (by omega)
      have nx : okAt ps sg dn m ((fst0 o cyc + i) % ps.length) = false → ∀ j, j < i + 1 → okAt ps sg dn m ((fst0 o cyc + j) % ps.length) = false := fun e j hj => by
        by_cases c : j = i
        · rw [c]; exact e
        · exact hno j (by omega)
      have yes : okAt ps sg dn m ((fst0 o cyc + i) % ps.length) = true → ∀ H', Same H H' → Q (.int ((fst0 o cyc + i) % ps.length : Nat)) H' := fun e H' s => by
        have := k H' s
        rw [rdy_eq, pick_of ho hi e hno] at this
        exact this
      generalize hj : (fst0 o cyc + i) % ps.length = j at hx nx yes
      refine ⟨_, rfl, _, rfl, _, _, rfl, rfl, .inl ⟨_, rfl, _, rfl, _, _, rfl, rfl, (by omega : (ps.length : Int) ≠ 0), ?_⟩⟩
      have em : ((fst0 o cyc : Int) + (0 + (i : Int))).fmod (ps.length : Int) = (j : Int) := by
        rw [show (fst0 o cyc : Int) + (0 + (i : Int)) = ((fst0 o cyc + i : Nat) : Int) by omega, fmod_nat, hj]
      show gName 7 (.int (((fst0 o cyc : Int) + (0 + (i : Int))).fmod (ps.length : Int))) _ _ _
      rw [em]
      have hp : ps[j]? = some ps[j] := List.getElem?_eq_getElem hx
      have hd : dn[j]? = some dn[j] := List.getElem?_eq_getElem (by omega)
      obtain ⟨a, ha1, ha2⟩ := PG1.get hp
      have hpm := List.getElem_mem hx
      generalize ps[j] = p at hp ha2 hpm
      generalize dn[j] = d at hd
      refine ⟨_, rfl, _, rfl, dl, _, _, _, rfl, rfl, SqL.of (s1 _ _ hdl), dV_at hd, ?_⟩
      refine ⟨_, rfl, _, rfl, _, rfl, pl, _, _, _, rfl, rfl, SqL.of PG1.ob, atI_nat (by rw [List.getElem?_map, ha1]; rfl), a, _, rfl, .inl (SqL.of ha2), _, _, rfl, rfl, _, rfl, ?_⟩
      rw [List.length_map]
      by_cases c : (d : Int) < (p.length : Nat)
      · have c' : d < p.length := by omega
        have hop : p[d]? = some p[d] := List.getElem?_eq_getElem c'
        have hom := List.getElem_mem c'
        generalize p[d] = op at hop hom
        have hat : opAt ps dn j = some op := opAt_of hp hd hop
        have eok : okAt ps sg dn m j = !Lk.ref sg op m := by unfold okAt; rw [hat]
        refine dT c ⟨_, rfl, _, rfl, _, rfl, pl, _, _, _, rfl, rfl, SqL.of PG1.ob, atI_nat (by rw [List.getElem?_map, ha1]; rfl), _, rfl, a, _, _, _, rfl, rfl, SqL.of ha2, atI_nat (by rw [List.getElem?_map, hop]; rfl), _, rfl, st, n, sg, op, m, rfl, S.same s1, hn, W, (G.pr p hpm).op op hom, fun H2 s2 => ⟨_, rfl, ?_⟩⟩
        cases e : Lk.ref sg op m with
        | true => exact iteF ⟨_, _, _, rfl, s1.trans s2, nx (by rw [eok, e]; rfl)⟩
        | false => exact iteT ⟨_, rfl, yes (by rw [eok, e]; rfl) H2 (s1.trans s2)⟩
      · refine dF c ⟨_, _, _, rfl, s1, nx ?_⟩
        have : p[d]? = none := List.getElem?_eq_none (by omega)
        have hat : opAt ps dn j = none := by unfold opAt; rw [hp, hd]; exact this
        unfold okAt; rw [hat]
    · rintro σ' H1 ⟨v6, v7, v8, rfl, s1, hno⟩
      rw [Int.toNat_natCast] at hno
      have e := pick_no (fst0_le ho) hno
      have := k H1 s1
      rw [rdy_eq, e] at this
      exact this
end
end Lk

set_option maxHeartbeats 4000000
/-! The law's steps. -/
namespace Lk
open PySem PySem.Spec PyProof.Rows L2
def spSteps (K : PySem.W.Frag) : Sp := fun vs H Q _ => ∃ (n : Nat) (pl : Addr) (as : List Addr) (ps : List (List Int)) (m : Md) (cyc : Bool), vs = [.int (n : Nat), .ref pl, .str (mdS m), .bl cyc] ∧ PgAt H pl as ps ∧ Few ps ∧ Lg n ps ∧ n ≤ 60 ∧
  ∀ H' t l, Same H H' → H' t = some (.tup [.str (if (run n ps m cyc).1 = true then "stuck" else "told"), .ref l]) → H' l = some (.lst (dV (run n ps m cyc).2.1)) → Q (.ref t) H'
def pdS (s : Sg) : PyData := .list [pdI s.L, pdI s.R, .list (s.F.map .bool)]
theorem dpB_all {K : PySem.W.Frag} {H : Hp} : ∀ l : List Bool, DpAll K H (l.map V.bl) (l.map .bool)
  | [] => .nil
  | i :: l => .cons (.bl i) (dpB_all l)
theorem shB_all : ∀ l : List Bool, PyData.canLayAll0 (l.map .bool) = true ∧ PyData.depthAll (l.map .bool) = 0
  | [] => ⟨rfl, rfl⟩
  | i :: l => by
    obtain ⟨h1, h2⟩ := shB_all l
    refine ⟨?_, ?_⟩
    · show (true && PyData.canLayAll0 (l.map .bool)) = true
      rw [h1]; rfl
    · show max 0 (PyData.depthAll (l.map .bool)) = 0
      rw [h2]; rfl
theorem eqB_all : ∀ a : List Bool, PyData.eqvAll (a.map .bool) (a.map .bool) = true
  | [] => rfl
  | x :: a => by
    show ((x == x) && PyData.eqvAll (a.map .bool) (a.map .bool)) = true
    rw [eqB_all a]; simp
theorem StAt.dp {K : PySem.W.Frag} {H : Hp} {st : Addr} {s : Sg} (h : StAt H st s) : Dp K H (.ref st) (pdS s) :=
  let ⟨_, _, _, h1, h2, h3, h4⟩ := h.ex
  .lst (SqL.of h1) (.cons (dpI (SqL.of h2)) (.cons (dpI (SqL.of h3)) (.cons (.lst (SqL.of h4) (dpB_all _)) .nil)))
theorem shS (s : Sg) : SeqAt.shaped (pdS s) = true := by
  obtain ⟨a1, a2⟩ := shI_all s.L
  obtain ⟨b1, b2⟩ := shI_all s.R
  obtain ⟨c1, c2⟩ := shB_all s.F
  unfold SeqAt.shaped pdS
  show ((PyData.canLayAll0 (s.L.map .int) && (PyData.canLayAll0 (s.R.map .int) && (PyData.canLayAll0 (s.F.map .bool) && true))) && decide (max (PyData.depthAll (s.L.map .int) + 1) (max (PyData.depthAll (s.R.map .int) + 1) (max (PyData.depthAll (s.F.map .bool) + 1) 0)) + 1 ≤ 64)) = true
  rw [a1, a2, b1, b2, c1, c2]; rfl
theorem eqS (s : Sg) : PyData.eqv (pdS s) (pdS s) = true := by
  show (PyData.eqv (pdI s.L) (pdI s.L) && (PyData.eqv (pdI s.R) (pdI s.R) && (PyData.eqvAll (s.F.map .bool) (s.F.map .bool) && true))) = true
  rw [eqI, eqI, eqB_all]; simp
theorem inV_m1 : ∀ m : Md, inV (.str (mdS m)) [.str "guarded", .str "checked"] = decide (m = .guarded ∨ m = .checked) := by
  intro m
  cases m <;> decide +kernel
theorem fst0_snoc {o : List Nat} {i : Nat} {cyc : Bool} : fst0 (o ++ [i]) cyc = if cyc = true then i + 1 else 0 := by
  unfold fst0
  cases cyc with
  | false => rfl
  | true => rw [if_pos rfl, List.getLast?_concat]; rfl
section
variable {P : Program} {w : World} {K : PySem.W.Frag} {mg : Str → Option Value} {base : Heap}
theorem ok_steps (T : Top K mg) : FnOk P w K mg base CX0 4 (He.fAd K ("_law_steps", none)) (fdOf K ("_law_steps", none)) ["_law_size_here", "_law_programs_here", "_law_name", "_law_cyclic"] (spSteps K) := by
  refine fd_ok T.d__law_steps sc__law_steps (fun vs H Q E h => ?_) (fun cdv A outer s H vs Q E hr h => ?_)
  · obtain ⟨n, pl, as, ps, m, cyc, rfl, _⟩ := h
    rfl
  · obtain ⟨n, pl, as, ps, m, cyc, rfl, PG, ⟨fl, fe⟩, G, hn, k⟩ := h
    have nd := sc__law_steps.nd
    have hr1 : Room 1 _ := hr.mono (by decide)
    refine ⟨_, pss_cons (ps_set (i := 4) nd rfl (Or.inl rfl) (pe_call (ok_start T) hr1 rfl T.g__law_start T.d__law_start.kp (b__law_start T) .nil pass0 (pa_cons (pv 0) pa_nil)))
      (pss_cons (ps_setLc (i := 5) (own := [("_law_row", 10)]) (g := gName 10) (tt := tYes) rfl nd rfl rfl (sw_true rfl rfl rfl (by decide +kernel)) (pi_list (pv 1)) (blkOk_by (own := [("_law_row", 10)]) (N := ["_law_size_here", "_law_programs_here", "_law_name", "_law_cyclic", "_law_state", "_law_done", "_law_order", "_law_first", "_law_step", "_law_session", "_law_row"]) (sc := defScope s__law_steps) (by decide +kernel)) (fun _ _ _ _ _ => pg_name (i := 10) nd rfl (Or.inl rfl)) (fun _ _ _ _ _ => pts_nil) (fun _ _ _ _ _ => pe_int))
      (pss_cons (ps_set (i := 6) nd rfl (Or.inl rfl) (pe_lst pa_nil))
      (pss_cons (ps_set (i := 7) nd rfl (Or.inl rfl) pe_int)
      (pss_cons (ps_for PassesOwn.never rfl (pi_range1 rfl T.n_range (pa_cons (pe_callB (cr_sum rfl) (by rfl) T.n_sum (by decide +kernel) (pa_cons (pe_lc (own := [("_law_row", 10)]) (g := gName 10) (tt := tYes) (te := tCB (fun xs H Q => ∃ p ys, xs = [V.ref p] ∧ (SqL K H p ys ∨ SqT K H p ys) ∧ Q (.int ys.length) H) (tCons (tVar 10) tNil)) rfl nd (pi_list (pv 1)) (blkOk_by (own := [("_law_row", 10)]) (N := ["_law_size_here", "_law_programs_here", "_law_name", "_law_cyclic", "_law_state", "_law_done", "_law_order", "_law_first", "_law_step", "_law_session", "_law_row"]) (sc := defScope s__law_steps) (by decide +kernel)) (fun _ _ _ _ _ => pg_name (i := 10) nd rfl (Or.inl rfl)) (fun _ _ _ _ _ => pts_nil) (fun _ _ _ _ _ => pe_callB call_len_seq (by rfl) T.n_len (by decide +kernel) (pa_cons (pv 10) pa_nil))) pa_nil)) pa_nil)) (pg_name (i := 8) nd rfl (Or.inl rfl))
        (pss_cons (ps_set (i := 9) nd rfl (Or.inl rfl) (pe_call (ok_taker T) hr rfl T.g__law_taker T.d__law_taker.kp (b__law_taker T) .nil pass0 (pa_cons (pv 1) (pa_cons (pv 4) (pa_cons (pv 5) (pa_cons (pv 2) (pa_cons (pv 7) pa_nil)))))))
        (pss_cons (ps_if (pt_cmpR op_isN (pv 9) pe_non (nomark _)) (pss_one (ps_ret (pe_tup (pa_cons pe_str (pa_cons (pv 6) pa_nil))))) pss_nil)
        (pss_cons (ps_set (i := 4) nd rfl (Or.inl rfl) (pe_call (ok_after T) hr1 rfl T.g__law_after T.d__law_after.kp (b__law_after T) .nil pass0 (pa_cons (pv 4) (pa_cons (pe_ix ix_list (pe_ix ix_list (pv 1) (pv 9) (fun _ _ => rfl)) (pe_ix ix_list (pv 5) (pv 9) (fun _ _ => rfl)) (fun _ _ => rfl)) pa_nil))))
        (pss_cons (ps_asg (pe_op op_add (pe_ix ix_list (pv 5) (pv 9) (fun _ _ => rfl)) pe_int) (pg_sub (pv 5) (pv 9) set_list))
        (pss_cons (ps_expr (pe_bm PySem.F.plainAttrs_list PySem.F.slot_list_append PySem.F.type_list_append mt_append (pv 6) (pa_cons (pv 9) pa_nil)))
        (pss_one (ps_if (pt_val (pv 3)) (pss_one (ps_set (i := 7) nd rfl (Or.inl rfl) (pe_op op_add (pv 9) pe_int))) pss_nil))))))))
      (pss_cons (ps_if (PW.pt (pw_and (pt_cmpR op_in_seq (pv 2) (pe_lst (pa_cons pe_str (pa_cons pe_str pa_nil))) (by rfl)) (pw_and1 (pt_cmpR (op_neD hr.units) (pv 4) (pe_call (ok_start T) hr1 rfl T.g__law_start T.d__law_start.kp (b__law_start T) .nil pass0 (pa_cons (pv 0) pa_nil)) (nomark _))))) (pss_one (ps_ret (pe_tup (pa_cons pe_str pa_nil)))) pss_nil)
      (pss_one (ps_ret (pe_tup (pa_cons pe_str (pa_cons (pv 6) pa_nil)))))))))), ?_⟩
    obtain ⟨hN, hF⟩ : ps.length ≤ 1000 ∧ (ps.map List.length).sum ≤ 1000000 := ⟨fl, few_sum ⟨fl, fe⟩⟩
    refine ⟨_, rfl, n, rfl, hn, fun H1 st s1 S1 => ?_⟩
    refine ⟨_, rfl, pl, rfl, ⟨_, SqL.of (s1 _ _ PG.ob)⟩, fun d hd => ?_⟩
    refine lc_list (K := K) (a := pl) (xs := as.map V.ref) (fun i H' => Same H1 H' ∧ H' d = some (.lst (dV (List.replicate i 0)))) ⟨Same.new hd, upd_same⟩ (fun i H' _ h => SqL.of (h.1 _ _ (s1 _ _ PG.ob))) ?_ ?_
    · rintro i x H' hx ⟨e, eD⟩
      have hi := (List.getElem?_eq_some_iff.mp hx).1
      rw [List.length_map, PG.len] at hi
      refine ⟨rfl, _, eD, ?_, fun b o eb => by rw [upd_ne (ne_of_none eb hd)]; exact e b o eb, ?_⟩
      · rw [dV_len, List.length_replicate, sizeLine_eq]; omega
      · rw [upd_same, List.replicate_succ']
        unfold dV
        rw [List.map_append]; rfl
    rintro H2 ⟨s2, ed2⟩
    rw [List.length_map, PG.len] at ed2
    refine ⟨by decide, fun r hr2 => ?_⟩
    have s3 : ∀ o, Same H2 (upd H2 r o) := fun _ => Same.new hr2
    have ndr : d ≠ r := ne_of_none ed2 hr2
    have hdH : H d = none := s1.free hd
    have hrH : H r = none := (s1.trans s2).free hr2
    have st2 := S1.same s2
    have offd : Off H2 st d := (Off.new S1 hd).same S1 s2
    have offr : Off H2 st r := Off.new st2 hr2
    refine ⟨_, rfl, pl, rfl, ⟨_, SqL.of (s3 _ _ _ (s2 _ _ (s1 _ _ PG.ob)))⟩, fun D hD => ?_⟩
    have PG3 : PgAt (upd H2 r (.lst [])) pl as ps := PG.same ((s1.trans s2).trans (s3 _))
    refine lc_list (K := K) (a := pl) (xs := as.map V.ref) (fun i H' => Same (upd H2 r (.lst [])) H' ∧ H' D = some (.lst (((ps.take i).map fun p => (p.length : Int)).map V.int))) ⟨Same.new hD, upd_same⟩ (fun i H' _ h => SqL.of (h.1 _ _ PG3.ob)) ?_ ?_
    · rintro i x H' hx ⟨e, eD⟩
      obtain ⟨a, ha, rfl⟩ := map_at hx
      obtain ⟨p, hp, hap⟩ := PG3.at_ i a ha
      have hi := (List.getElem?_eq_some_iff.mp hp).1
      refine ⟨rfl, _, rfl, a, _, rfl, .inl (SqL.of (e _ _ hap)), _, eD, ?_, fun b o eb => by rw [upd_ne (ne_of_none eb hD)]; exact e b o eb, ?_⟩
      · rw [List.length_map, List.length_map, List.length_take, sizeLine_eq]; omega
      · rw [upd_same, take_snoc hp, List.map_append, List.map_append, List.length_map]; rfl
    rintro H4 ⟨s4, eD4⟩
    rw [List.length_map, PG.len, List.take_length] at eD4
    have esum : (ps.map fun p => (p.length : Int)).sum = ((ps.map List.length).sum : Nat) := by
      clear k PG PG3 eD4 ed2 G fl fe hN hF st2 offd offr S1
      induction ps with
      | nil => rfl
      | cons p r ih => rw [List.map_cons, List.sum_cons, List.map_cons, List.sum_cons, ih]; omega
    refine ⟨D, _, rfl, SqL.of eD4, ?_⟩
    rw [esum]
    have S04 : Same H H4 := ((s1.trans s2).trans (s3 _)).trans s4
    have S24 := (s3 (.lst [])).trans s4
    have erun0 : run n ps m cyc = go ps m cyc ((ps.map List.length).sum - 0) (Sg.whole n) (List.replicate ps.length 0) [] := rfl
    have hrem0 := rem_start ps
    generalize hS : (ps.map List.length).sum = S at hF erun0 hrem0
    refine ⟨_, rfl, by omega, by omega, ?_⟩
    refine for_range (lo := 0) (n := (S : Int).toNat) (fun i σ' H' => ∃ (st : Addr) (v8 v9 : Option V) (s : Sg) (dn o : List Nat), σ' = [some (.int (n : Nat)), some (.ref pl), some (.str (mdS m)), some (.bl cyc), some (.ref st), some (.ref d), some (.ref r), some (.int (fst0 o cyc : Nat)), v8, v9, none] ∧ Same H H' ∧ StAt H' st s ∧ Off H' st d ∧ Off H' st r ∧ H' d = some (.lst (dV dn)) ∧ H' r = some (.lst (dV o)) ∧ RI n ps m s dn ∧ rem ps dn + i = S ∧ o.length = i ∧ (∀ l ∈ o, l < ps.length) ∧ run n ps m cyc = go ps m cyc (S - i) s dn o)
      ⟨st, none, none, Sg.whole n, List.replicate ps.length 0, [], by unfold fst0; cases cyc <;> rfl, S04, st2.same S24, offd.same st2 S24, offr.same st2 S24, S24 _ _ ed2, s4 _ _ upd_same, ri_start n ps m, by rw [hrem0]; rfl, rfl, fun l hl => (nomatch hl), erun0⟩ ?_ ?_
    · rintro i σ' H5 hi ⟨st, v8, v9, sg, dn, o, rfl, s05, S5, off5, ofr5, ed5, er5, R5, rem5, ol5, ho5, erun⟩
      rw [Int.toNat_natCast] at hi
      rw [show S - i = (S - (i + 1)) + 1 by omega] at erun
      have erun : run n ps m cyc = match pick (rdy ps sg dn m) o cyc with
        | none => (true, o, sg)
        | some i' => go ps m cyc (S - (i + 1)) (sg.app ((opAt ps dn i').getD 0)) (adv dn i') (o ++ [i']) := erun
      refine ⟨_, rfl, _, rfl, _, rfl, _, rfl, _, rfl, pl, st, d, as, ps, dn, o, n, sg, m, cyc, rfl, PG.same s05, ⟨fl, fe⟩, G, hn, S5, R5.wf, ed5, R5.ln.len, ho5, fun H6 s6 => ?_⟩
      cases ep : pick (rdy ps sg dn m) o cyc with
      | none =>
        rw [ep] at erun
        rw [erun] at k
        refine ⟨_, rfl, rfl, _, rfl, dT rfl ⟨_, rfl, (by show 2 ≤ sizeLine; decide), fun t ht => ?_⟩⟩
        exact k _ t r ((s05.trans s6).trans (Same.new ht)) upd_same ((Same.new ht) _ _ (s6 _ _ er5))
      | some j =>
        rw [ep] at erun
        obtain ⟨op, hop, href⟩ := pick_op ep
        have erun : run n ps m cyc = go ps m cyc (S - (i + 1)) (sg.app op) (adv dn j) (o ++ [j]) := by
          rw [erun]
          show go ps m cyc (S - (i + 1)) (sg.app ((opAt ps dn j).getD 0)) (adv dn j) (o ++ [j]) = _
          rw [hop]; rfl
        obtain ⟨p, dd, hp, hd', hpd⟩ := opAt_some hop
        have hj := opAt_lt hop
        have PG6 := PG.same (s05.trans s6)
        obtain ⟨a, ha1, ha2⟩ := PG6.get hp
        have hdl : dn.length = ps.length := R5.ln.len
        refine ⟨_, rfl, rfl, _, rfl, dF (fun z => by cases z) ?_⟩
        refine ⟨_, rfl, _, rfl, _, rfl, pl, _, _, _, rfl, rfl, SqL.of PG6.ob, atI_nat (by rw [List.getElem?_map, ha1]; rfl), _, rfl, _, rfl, d, _, _, _, rfl, rfl, SqL.of (s6 _ _ ed5), dV_at hd', a, _, _, _, rfl, rfl, SqL.of ha2, atI_nat (by rw [List.getElem?_map, hpd]; rfl), st, n, sg, op, rfl, S5.same s6, hn, R5.wf, Ln.isop G hop, fun H7 st' s7 S7 off7 => ?_⟩
        have ed7 := s7 _ _ (s6 _ _ ed5)
        have er7 := s7 _ _ (s6 _ _ er5)
        have od7 := off7 d _ (s6 _ _ ed5)
        have or7 := off7 r _ (s6 _ _ er5)
        have hset : (dV dn).set j (.int ((dd : Int) + 1)) = dV (adv dn j) := by
          unfold dV adv
          rw [List.map_set, List.getD_eq_getElem?_getD, hd']; rfl
        refine ⟨_, rfl, _, rfl, d, _, _, _, rfl, rfl, SqL.of ed7, dV_at hd', _, _, rfl, rfl, _, rfl, _, rfl, d, _, _, j, rfl, rfl, ed7, ?_, ?_⟩
        · have := ixN_of (n := (dV dn).length) (i := (j : Int)) (by omega) (by rw [dV_len]; omega)
          rw [this, Int.toNat_natCast]
        show tSeq _ _ _ _ (upd H7 d (.lst ((dV dn).set j (.int ((dd : Int) + 1)))))
        rw [hset]
        refine ⟨_, rfl, .inl ⟨rfl, _, SqL.of (by rw [upd_ne ndr.symm]; exact er7)⟩, _, rfl, r, _, _, rfl, rfl, (by rw [upd_ne ndr.symm]; exact er7), by rw [dV_len, sizeLine_eq]; omega, ?_⟩
        have hnew : Same H (upd (upd H7 d (.lst (dV (adv dn j)))) r (.lst (dV o ++ [.int (j : Nat)]))) := fun b ob eb => by
          rw [upd_ne (ne_of_none eb hrH), upd_ne (ne_of_none eb hdH)]
          exact s7 _ _ (s6 _ _ (s05 _ _ eb))
        have or7' := or7.upd (o := .lst (dV (adv dn j))) od7
        have od7' := od7.upd (o := .lst (dV (adv dn j))) od7
        have C2 := (S7.upd (o := .lst (dV (adv dn j))) od7).upd (o := .lst (dV o ++ [.int (j : Nat)])) or7'
        have C3 := od7'.upd (o := .lst (dV o ++ [.int (j : Nat)])) or7'
        have C4 := or7'.upd (o := .lst (dV o ++ [.int (j : Nat)])) or7'
        have C6 : (upd (upd H7 d (.lst (dV (adv dn j)))) r (.lst (dV o ++ [.int (j : Nat)]))) r = some (.lst (dV (o ++ [j]))) := by
          rw [upd_same]; unfold dV; rw [List.map_append]; rfl
        have C5 : (upd (upd H7 d (.lst (dV (adv dn j)))) r (.lst (dV o ++ [.int (j : Nat)]))) d = some (.lst (dV (adv dn j))) := by
          rw [upd_ne ndr, upd_same]
        have C8 : rem ps (adv dn j) + (i + 1) = S := by have := rem_adv hop; omega
        have C9 : (o ++ [j]).length = i + 1 := by rw [List.length_append, ol5]; rfl
        have C10 : ∀ l ∈ o ++ [j], l < ps.length := fun l hl => by
          rcases List.mem_append.mp hl with h | h
          · exact ho5 l h
          · rw [List.mem_singleton.mp h]; exact hj
        have ef := @fst0_snoc o j cyc
        refine ⟨_, rfl, cyc, rfl, ?_⟩
        cases cyc with
        | true =>
          rw [if_pos rfl] at ef
          refine iteT ⟨_, rfl, _, _, rfl, rfl, st', some (.int (0 + (i : Nat))), some (.int (j : Nat)), sg.app op, adv dn j, o ++ [j], by rw [ef]; rfl, hnew, C2, C3, C4, C5, C6, R5.step G hop href, C8, C9, C10, erun⟩
        | false =>
          rw [if_neg (by decide)] at ef
          refine iteF ⟨st', some (.int (0 + (i : Nat))), some (.int (j : Nat)), sg.app op, adv dn j, o ++ [j], by rw [ef]; rfl, hnew, C2, C3, C4, C5, C6, R5.step G hop href, C8, C9, C10, erun⟩
    · rintro σ' H5 ⟨st, v8, v9, sg, dn, o, rfl, s05, S5, off5, ofr5, ed5, er5, R5, rem5, ol5, ho5, erun⟩
      rw [Int.toNat_natCast] at rem5 erun
      rw [Nat.sub_self] at erun
      have erun : run n ps m cyc = (false, o, sg) := erun
      have fin : ∀ H', Same H5 H' → ∀ t, H' t = none → Q (.ref t) (upd H' t (.tup [.str "told", .ref r])) := fun H' s t ht => by
        rw [erun] at k
        exact k _ t r ((s05.trans s).trans (Same.new ht)) upd_same ((Same.new ht) _ _ (s _ _ er5))
      refine ⟨_, rfl, by show 2 ≤ sizeLine; decide, fun e he => ⟨e, _, rfl, .inl (SqL.of upd_same), rfl, rfl, ?_⟩⟩
      rw [inV_m1]
      refine ⟨_, rfl, ?_⟩
      by_cases hm : m = .guarded ∨ m = .checked
      · have ew : sg = Sg.whole n := by
          have := run_whole (cyc := cyc) G hm (by rw [erun])
          rw [erun] at this
          exact this
        subst ew
        refine dT hm ⟨_, rfl, _, rfl, n, rfl, hn, fun H7 st2 s7 S2 => ⟨pdS (Sg.whole n), pdS (Sg.whole n), (S5.same ((Same.new he).trans s7)).dp, S2.dp, shS _, shS _, _, rfl, ?_⟩⟩
        rw [eqS]
        exact iteF ⟨_, rfl, by show 2 ≤ sizeLine; decide, fin _ ((Same.new he).trans s7)⟩
      · exact dF hm ⟨_, rfl, by show 2 ≤ sizeLine; decide, fin _ (Same.new he)⟩
end
end Lk

set_option maxHeartbeats 4000000
/-! What the law holds to be due. -/
namespace Lk
open PySem PySem.Spec PyProof.Rows L2
inductive Due where
  | size (n : Int) | mode (z : Str) | turn (t : Str) | prog (i j : Nat) | stuck (o : List Nat) | told (o : List Nat)
def dueOf (n : Int) (ps : List (List Int)) (z t : Str) : Due :=
  if 0 ≤ n ∧ n ≤ 60 then match mdOf z with
    | none => .mode z
    | some m => if tnOk t = true then match flt n [] ps 0 with
        | some (i, j) => .prog i j
        | none => if (run n.toNat ps m (decide (t = "round"))).1 = true then .stuck (run n.toNat ps m (decide (t = "round"))).2.1 else .told (run n.toNat ps m (decide (t = "round"))).2.1
      else .turn t
  else .size n
def DueAt (H : Hp) (a : Addr) : Due → Prop
  | .size n => H a = some (.tup [.str "size", .int n])
  | .mode z => H a = some (.tup [.str "mode", .str z])
  | .turn t => H a = some (.tup [.str "turn", .str t])
  | .prog i j => H a = some (.tup [.str "program", .int (i : Nat), .int (j : Nat)])
  | .stuck o => ∃ l, H a = some (.tup [.str "stuck", .ref l]) ∧ H l = some (.lst (dV o))
  | .told o => ∃ l, H a = some (.tup [.str "told", .ref l]) ∧ H l = some (.lst (dV o))
theorem DueAt.same {H H' : Hp} {a : Addr} {d : Due} (h : DueAt H a d) (e : Same H H') : DueAt H' a d := by
  cases d with
  | size n => exact e _ _ h
  | mode n => exact e _ _ h
  | turn n => exact e _ _ h
  | prog i j => exact e _ _ h
  | stuck o => obtain ⟨l, h1, h2⟩ := h; exact ⟨l, e _ _ h1, e _ _ h2⟩
  | told o => obtain ⟨l, h1, h2⟩ := h; exact ⟨l, e _ _ h1, e _ _ h2⟩
theorem dec_str {a b : Str} : decide (V.str a = V.str b) = decide (a = b) := by
  by_cases h : a = b
  · rw [decide_eq_true h, decide_eq_true (congrArg V.str h)]
  · rw [decide_eq_false h, decide_eq_false (fun z => h (V.str.inj z))]
def spDue (K : PySem.W.Frag) : Sp := fun vs H Q _ => ∃ (n : Int) (pl : Addr) (as : List Addr) (ps : List (List Int)) (z t : Str), vs = [.int n, .ref pl, .str z, .str t] ∧ PgAt H pl as ps ∧ Few ps ∧ ∀ H' a, Same H H' → DueAt H' a (dueOf n ps z t) → Q (.ref a) H'
section
variable {P : Program} {w : World} {K : PySem.W.Frag} {mg : Str → Option Value} {base : Heap}
theorem ok_due (T : Top K mg) : FnOk P w K mg base CX0 5 (He.fAd K ("_law_due", none)) (fdOf K ("_law_due", none)) ["_law_size_here", "_law_programs_here", "_law_name", "_law_way"] (spDue K) := by
  refine fd_ok T.d__law_due sc__law_due (fun vs H Q E h => ?_) (fun cdv A outer s H vs Q E hr h => ?_)
  · obtain ⟨n, pl, as, ps, z, t, rfl, _⟩ := h
    rfl
  · obtain ⟨n, pl, as, ps, z, t, rfl, PG, FW, k⟩ := h
    have nd := sc__law_due.nd
    have hr1 : Room 1 _ := hr.mono (by decide)
    have hr2 : Room 2 _ := hr.mono (by decide)
    refine ⟨_, pss_cons (ps_if (pt_not (pt_chain op_le op_le pe_int (pv 0) pe_int)) (pss_one (ps_ret (pe_tup (pa_cons pe_str (pa_cons (pv 0) pa_nil))))) pss_nil)
      (pss_cons (ps_if (pt_cmpR op_notIn_seq (pv 2) (pe_lst (pa_cons pe_str (pa_cons pe_str (pa_cons pe_str (pa_cons pe_str pa_nil))))) (by rfl)) (pss_one (ps_ret (pe_tup (pa_cons pe_str (pa_cons (pv 2) pa_nil))))) pss_nil)
      (pss_cons (ps_if (pt_cmpR op_notIn_seq (pv 3) (pe_lst (pa_cons pe_str (pa_cons pe_str pa_nil))) (by rfl)) (pss_one (ps_ret (pe_tup (pa_cons pe_str (pa_cons (pv 3) pa_nil))))) pss_nil)
      (pss_cons (ps_set (i := 4) nd rfl (Or.inl rfl) (pe_call (ok_fault T) hr1 rfl T.g__law_fault T.d__law_fault.kp (b__law_fault T) .nil pass0 (pa_cons (pv 0) (pa_cons (pv 1) pa_nil))))
      (pss_cons (ps_if (pt_cmpR op_notN (pv 4) pe_non (nomark _)) (pss_one (ps_ret (pe_tup (pa_cons pe_str (pa_cons (pe_ix ix_tup (pv 4) pe_int (fun _ _ => rfl)) (pa_cons (pe_ix ix_tup (pv 4) pe_int (fun _ _ => rfl)) pa_nil)))))) pss_nil)
      (pss_cons (ps_set (i := 5) nd rfl (Or.inl rfl) (pe_call (ok_steps T) hr rfl T.g__law_steps T.d__law_steps.kp (b__law_steps T) .nil pass0 (pa_cons (pv 0) (pa_cons (pv 1) (pa_cons (pv 2) (pa_cons (pe_cmpR op_eq (pv 3) pe_str (nomark _)) pa_nil))))))
      (pss_cons (ps_if (PW.pt (pw_and (pt_cmpR op_eq (pe_ix ix_tup (pv 5) pe_int (fun _ _ => rfl)) pe_str (nomark _)) (pw_and1 (pt_cmpR op_eq (pv 2) pe_str (nomark _))))) (pss_one (ps_ret (pe_tup (pa_cons pe_str pa_nil)))) pss_nil)
      (pss_cons (ps_if (PW.pt (pw_and (pt_cmpR op_eq (pe_ix ix_tup (pv 5) pe_int (fun _ _ => rfl)) pe_str (nomark _)) (pw_and (pt_cmpR op_eq (pv 2) pe_str (nomark _)) (pw_and1 (pt_val (pe_call (ok_stack T) hr2 rfl T.g__law_stack T.d__law_stack.kp (b__law_stack T) .nil pass0 (pa_cons (pv 1) pa_nil))))))) (pss_one (ps_ret (pe_tup (pa_cons pe_str pa_nil)))) pss_nil)
      (pss_one (ps_ret (pv 5)))))))))), ?_⟩
    unfold dueOf at k
    have out : ∀ (d : Due) (xs : List V), (∀ H' a, Same H H' → DueAt H' a d → Q (.ref a) H') → (∀ (G : Hp) (a : Addr), G a = some (.tup xs) → DueAt G a d) → ∀ G, Same H G → ∀ a, G a = none → Q (.ref a) (upd G a (.tup xs)) := fun d xs k h G g a ha =>
      k _ a (g.trans (Same.new ha)) (h _ _ upd_same)
    refine ⟨_, rfl, _, _, rfl, rfl, _, rfl, ?_⟩
    have osz : ¬ (0 ≤ n ∧ n ≤ 60) → ∀ t, H t = none → Q (.ref t) (upd H t (.tup [.str "size", .int n])) := fun c => by
      rw [if_neg c] at k
      exact out (.size n) [.str "size", .int n] k (fun G a h => h) H (Same.refl _)
    refine dite (0 ≤ n) (fun c1 => ?_) (fun c1 => dF c1 ⟨_, rfl, iteT ⟨_, rfl, (by show 2 ≤ sizeLine; decide), osz fun z => c1 z.1⟩⟩)
    refine dT c1 ⟨_, _, rfl, rfl, _, rfl, ?_⟩
    refine dite (n ≤ 60) (fun c2 => ?_) (fun c2 => nT c2 ⟨_, rfl, (by show 2 ≤ sizeLine; decide), osz fun z => c2 z.2⟩)
    rw [if_pos ⟨c1, c2⟩] at k
    refine nF c2 ⟨_, rfl, by show 4 ≤ sizeLine; decide, fun e he => ⟨e, _, rfl, .inl (SqL.of upd_same), rfl, rfl, ?_⟩⟩
    rw [in_modes]
    have s1 : ∀ o, Same H (upd H e o) := fun _ => Same.new he
    refine ⟨_, rfl, ?_⟩
    cases cm : mdOf z with
    | none =>
      rw [cm] at k
      exact iteT ⟨_, rfl, (by show 2 ≤ sizeLine; decide), out (.mode z) [.str "mode", .str z] k (fun G a h => h) _ (s1 _)⟩
    | some m =>
    rw [cm] at k
    have ez := mdOf_some cm
    subst ez
    refine iteF ⟨_, rfl, by show 2 ≤ sizeLine; decide, fun e2 he2 => ⟨e2, _, rfl, .inl (SqL.of upd_same), rfl, rfl, ?_⟩⟩
    rw [in_turns]
    have s2 : ∀ o, Same H (upd (upd H e (.lst [.str "free", .str "saving", .str "guarded", .str "checked"])) e2 o) := fun _ => (s1 _).trans (Same.new he2)
    refine ⟨_, rfl, ?_⟩
    cases ct : tnOk t with
    | false =>
      rw [ct] at k
      exact iteT ⟨_, rfl, (by show 2 ≤ sizeLine; decide), out (.turn t) [.str "turn", .str t] k (fun G a h => h) _ (s2 _)⟩
    | true =>
    rw [ct] at k
    refine iteF ⟨_, rfl, _, rfl, n, pl, as, ps, rfl, PG.same (s2 _), FW, fun cf H3 s3 => ?_, fun i j cf H3 T3 s3 eT3 => ?_⟩
    · have k : ∀ H' a, Same H H' → DueAt H' a (if (run n.toNat ps m (decide (t = "round"))).1 = true then .stuck (run n.toNat ps m (decide (t = "round"))).2.1 else .told (run n.toNat ps m (decide (t = "round"))).2.1) → Q (.ref a) H' := by
        rw [cf] at k
        exact k
      refine ⟨_, rfl, rfl, _, rfl, iteF ?_⟩
      obtain ⟨N, rfl⟩ : ∃ N : Nat, n = N := ⟨n.toNat, by omega⟩
      rw [Int.toNat_natCast] at k
      have G : Lg N ps := (flt_none cf).1
      have S3 := (s2 (.lst [.str "first", .str "round"])).trans s3
      refine ⟨_, rfl, _, rfl, _, rfl, _, rfl, rfl, N, pl, as, ps, m, decide (t = "round"), by rw [dec_str]; rfl, PG.same S3, FW, G, by omega, fun H4 T4 l s4 eT el => ?_⟩
      have n1 : V.str "told" ≠ V.str "stuck" := by decide +kernel
      have S4 := S3.trans s4
      cases eR : (run N ps m (decide (t = "round"))).1 with
      | false =>
        rw [eR] at eT k
        rw [if_neg (by decide)] at eT k
        refine ⟨_, rfl, T4, _, _, _, rfl, rfl, SqT.of eT, atI_nat (j := 0) rfl, rfl, _, rfl, dF n1 ?_⟩
        refine ⟨_, rfl, T4, _, _, _, rfl, rfl, SqT.of eT, atI_nat (j := 0) rfl, rfl, _, rfl, dF n1 ?_⟩
        exact ⟨_, rfl, k _ _ S4 ⟨l, eT, el⟩⟩
      | true =>
        rw [eR] at eT k
        rw [if_pos rfl] at eT k
        refine ⟨_, rfl, T4, _, _, _, rfl, rfl, SqT.of eT, atI_nat (j := 0) rfl, rfl, _, rfl, dT rfl ⟨_, rfl, rfl, _, rfl, ?_⟩⟩
        refine dite (m = .free) (fun c => ?_) (fun c => dF (fun z => ?_) ?_)
        · rw [run_never G (.inl c)] at eR
          cases eR
        · cases m with
          | free => exact c rfl
          | saving => exact absurd z (by decide +kernel)
          | guarded => exact absurd z (by decide +kernel)
          | checked => exact absurd z (by decide +kernel)
        refine ⟨_, rfl, T4, _, _, _, rfl, rfl, SqT.of eT, atI_nat (j := 0) rfl, rfl, _, rfl, dT rfl ⟨_, rfl, rfl, _, rfl, ?_⟩⟩
        refine dite (m = .checked) (fun c => ?_) (fun c => dF (fun z => ?_) ⟨_, rfl, k _ _ S4 ⟨l, eT, el⟩⟩)
        · subst c
          refine dT rfl ⟨_, rfl, pl, as, N, ps, rfl, PG.same S4, FW, G, fun H5 s5 => ⟨_, rfl, ?_⟩⟩
          cases cs : stk ps with
          | true =>
            rw [run_never G (.inr ⟨rfl, fun p hp => List.all_eq_true.mp cs p hp⟩)] at eR
            cases eR
          | false => exact iteF ⟨_, rfl, k _ _ (S4.trans s5) ⟨l, s5 _ _ eT, s5 _ _ el⟩⟩
        · cases m with
          | free => exact absurd z (by decide +kernel)
          | saving => exact absurd z (by decide +kernel)
          | guarded => exact absurd z (by decide +kernel)
          | checked => exact c rfl
    · have k : ∀ H' a, Same H H' → DueAt H' a (.prog i j) → Q (.ref a) H' := by
        rw [cf] at k
        exact k
      refine ⟨_, rfl, rfl, _, rfl, iteT ⟨_, rfl, T3, _, _, _, rfl, rfl, SqT.of eT3, atI_nat (j := 0) rfl, _, rfl, T3, _, _, _, rfl, rfl, SqT.of eT3, atI_nat (j := 1) rfl, (by show 3 ≤ sizeLine; decide), ?_⟩⟩
      exact out (.prog i j) _ k (fun G a h => h) _ ((s2 _).trans s3)
end
end Lk

set_option maxHeartbeats 4000000
/-! The law's calls of run. -/
namespace Lk
open PySem PySem.Spec PyProof.Rows L2
def spCall (K : PySem.W.Frag) : Sp := fun vs H Q E => ∃ (n : Int) (pl : Addr) (as : List Addr) (ps : List (List Int)) (z t : Str) (plain : Int), vs = [.int n, .ref pl, .str z, .str t, .int plain] ∧ PgAt H pl as ps ∧ Few ps ∧ RunOut K n ps z t H Q E
section
variable {P : Program} {w : World} {K : PySem.W.Frag} {mg : Str → Option Value} {base : Heap}
abbrev fdRun (K : PySem.W.Frag) : FuncData := fdOf K ("run", none)
theorem run_b0 (T : Top K mg) : ∃ ds, Vals [V.str "checked", .str "first"] ds ∧ Binds K (fdRun K) ["size", "programs", "mode", "turn"] ds :=
  T.d_run.binds0 2 (by decide) rfl fun D doc pm an cdv ct us ks h1 h2 => match us, ks, h1, h2 with
    | [a, b], [x, y], _, _ => ⟨_, _, _, _, _, _, rfl, rfl, _, _, _, _, _, _, rfl, rfl, rfl⟩
theorem run_b1 (T : Top K mg) : ∃ mv : List Value, KBn K (fdRun K) ["size", "programs", "mode", "turn"] 2 ["turn"] (fun us ws => us ++ (mv ++ ws)) (fun vs zs => vs ++ ([V.str "checked"] ++ zs)) :=
  T.d_run.kbinds0 2 ["turn"] [("mode", .str "checked")] (fun us mv ws => us ++ (mv ++ ws)) (by decide) (fun q hq => by rw [List.mem_singleton.mp hq]; exact List.mem_cons_self) (fun a b c => a.append (b.append c)) fun D doc pm an cdv ct us mv ws h1 h2 h3 => match us, mv, ws, h1, h2, h3 with
    | [a, b], [x], [y], _, _, _ => ⟨_, _, _, _, _, _, rfl, rfl, rfl⟩
theorem run_b2 (T : Top K mg) : ∃ mv : List Value, KBn K (fdRun K) ["size", "programs", "mode", "turn"] 2 ["mode"] (fun us ws => us ++ (ws ++ mv)) (fun vs zs => vs ++ (zs ++ [V.str "first"])) :=
  T.d_run.kbinds0 2 ["mode"] [("turn", .str "first")] (fun us mv ws => us ++ (ws ++ mv)) (by decide) (fun q hq => by rw [List.mem_singleton.mp hq]; exact List.mem_cons_of_mem _ List.mem_cons_self) (fun a b c => a.append (c.append b)) fun D doc pm an cdv ct us mv ws h1 h2 h3 => match us, mv, ws, h1, h2, h3 with
    | [a, b], [x], [y], _, _, _ => ⟨_, _, _, _, _, _, rfl, rfl, rfl⟩
theorem run_b3 (T : Top K mg) : ∃ mv : List Value, KBn K (fdRun K) ["size", "programs", "mode", "turn"] 2 ["turn", "mode"] (fun us ws => us ++ (ws.drop 1 ++ (ws.take 1 ++ mv))) (fun vs zs => vs ++ (zs.drop 1 ++ (zs.take 1 ++ []))) :=
  T.d_run.kbinds0 2 ["turn", "mode"] [] (fun us mv ws => us ++ (ws.drop 1 ++ (ws.take 1 ++ mv))) (by decide) (fun q hq => (nomatch hq)) (fun a b c => a.append ((c.drop 1).append ((c.take 1).append b))) fun D doc pm an cdv ct us mv ws h1 h2 h3 => match us, mv, ws, h1, h2, h3 with
    | [a, b], [], [y, z], _, _, _ => rfl
theorem ok_call (T : TopX P K mg) : FnOk P w K mg base (L2.CX P w) 12 (He.fAd K ("_law_call", none)) (fdOf K ("_law_call", none)) ["_law_size_here", "_law_programs_here", "_law_name", "_law_way", "_law_plain"] (spCall K) := by
  refine T.d__law_call.ok sc__law_call (fun vs H Q E h => ?_) (fun cdv A outer s H vs Q E hr h => ?_)
  · obtain ⟨n, pl, as, ps, z, t, plain, rfl, _⟩ := h
    rfl
  · obtain ⟨n, pl, as, ps, z, t, plain, rfl, PG, FW, RO⟩ := h
    obtain ⟨d0, v0, b0⟩ := run_b0 T.toTop
    obtain ⟨m1, b1⟩ := run_b1 T.toTop
    obtain ⟨m2, b2⟩ := run_b2 T.toTop
    obtain ⟨m3, b3⟩ := run_b3 T.toTop
    refine ⟨_, Evl.pss_cut (ps_if (PW.pt (pw_and (pt_cmpR op_eq (pv 4) pe_int (nomark _)) (pw_and (pt_cmpR op_eq (pv 2) pe_str (nomark _)) (pw_and1 (pt_cmpR op_eq (pv 3) pe_str (nomark _))))))
        (pss_one (ps_ret (pe_call (ok_run T) hr rfl T.g_run T.d_run.kp b0 v0 (passes_call (takes_of rfl rfl rfl rfl) fun _ _ _ _ h => h) (pa_cons (pv 0) (pa_cons (pv 1) pa_nil))))) pss_nil)
      (Evl.pss_cut (ps_if (PW.pt (pw_and (pt_cmpR op_eq (pv 4) pe_int (nomark _)) (pw_and1 (pt_cmpR op_eq (pv 2) pe_str (nomark _)))))
        (pss_one (ps_ret (pe_callN (ok_run T) hr rfl T.g_run T.d_run.kp b1 (passes_call (takes_of rfl rfl rfl rfl) fun _ _ _ _ h => h) (pa_cons (pv 0) (pa_cons (pv 1) pa_nil)) (pk_cons (pv 3) pk_nil)))) pss_nil)
      (Evl.pss_cut (ps_if (PW.pt (pw_and (pt_cmpR op_eq (pv 4) pe_int (nomark _)) (pw_and1 (pt_cmpR op_eq (pv 3) pe_str (nomark _)))))
        (pss_one (ps_ret (pe_callN (ok_run T) hr rfl T.g_run T.d_run.kp b2 (passes_call (takes_of rfl rfl rfl rfl) fun _ _ _ _ h => h) (pa_cons (pv 0) (pa_cons (pv 1) pa_nil)) (pk_cons (pv 2) pk_nil)))) pss_nil)
      (pss_one (ps_ret (pe_callN (ok_run T) hr rfl T.g_run T.d_run.kp b3 (passes_call (takes_of rfl rfl rfl rfl) fun _ _ _ _ h => h) (pa_cons (pv 0) (pa_cons (pv 1) pa_nil)) (pk_cons (pv 3) (pk_cons (pv 2) pk_nil))))))), ?_⟩
    have last : ∀ {C A B : Prop} [Decidable C], (C → A) → (¬ C → B) → (if decide C = true then A else B) := fun a b => by
      rename_i C _ _ _
      by_cases c : C
      · exact dT c (a c)
      · exact dF c (b c)
    have fin : ∀ (x y : Str), x = z → y = t → spRun K [.int n, .ref pl, .str x, .str y] H Q E := fun x y e1 e2 => by
      subst e1; subst e2
      exact ⟨n, pl, as, ps, x, y, rfl, PG, FW, RO⟩
    refine ⟨fun σ' H' => σ' = [some (.int n), some (.ref pl), some (.str z), some (.str t), some (.int plain)] ∧ H = H', ?_, ?_⟩
    · refine ⟨_, rfl, rfl, _, rfl, last (fun c1 => ⟨_, rfl, rfl, _, rfl, last (fun c2 => ⟨_, rfl, rfl, _, rfl, last (fun c3 => ⟨_, rfl, _, rfl, fin _ _ (V.str.inj c2).symm (V.str.inj c3).symm⟩) fun _ => ⟨rfl, rfl⟩⟩) fun _ => ⟨rfl, rfl⟩⟩) fun _ => ⟨rfl, rfl⟩⟩
    rintro _ _ ⟨rfl, rfl⟩
    refine ⟨fun σ' H' => σ' = [some (.int n), some (.ref pl), some (.str z), some (.str t), some (.int plain)] ∧ H = H', ?_, ?_⟩
    · refine ⟨_, rfl, rfl, _, rfl, last (fun c1 => ⟨_, rfl, rfl, _, rfl, last (fun c2 => ⟨_, rfl, _, rfl, _, rfl, rfl, rfl, fin _ _ (V.str.inj c2).symm rfl⟩) fun _ => ⟨rfl, rfl⟩⟩) fun _ => ⟨rfl, rfl⟩⟩
    rintro _ _ ⟨rfl, rfl⟩
    refine ⟨fun σ' H' => σ' = [some (.int n), some (.ref pl), some (.str z), some (.str t), some (.int plain)] ∧ H = H', ?_, ?_⟩
    · refine ⟨_, rfl, rfl, _, rfl, last (fun c1 => ⟨_, rfl, rfl, _, rfl, last (fun c2 => ⟨_, rfl, _, rfl, _, rfl, rfl, rfl, fin _ _ rfl (V.str.inj c2).symm⟩) fun _ => ⟨rfl, rfl⟩⟩) fun _ => ⟨rfl, rfl⟩⟩
    rintro _ _ ⟨rfl, rfl⟩
    exact ⟨_, rfl, _, rfl, _, rfl, _, rfl, rfl, rfl, fin _ _ rfl rfl⟩
end
end Lk

set_option maxHeartbeats 4000000
/-! isinstance of a caught error of an own class that has its own dict. -/
namespace Lk
open PySem PySem.Spec PySem.Calls PySem.W
section
variable {prog : Program} {w : World} {A : Around} {E : Value → Shared → Prop} {s : Shared} {K : Frag} {x D : Addr} {ox : Obj} {od : Option Obj}
theorem fo_bind {C : Addr} {name : Str} {a g : Value} (hc : (clsIn K C).isSome = true) (ha : findIn K (.ref C) name = some (some a)) (hg : specialIn K a "__get__" = some (some g)) (ht : takesIn K a = some true) : findObj K C od name = some (.bind g a) := by
  obtain ⟨cd, hc⟩ := Option.isSome_iff_exists.mp hc; unfold findObj; rw [hc, Option.bind_some, ha, Option.bind_some]; simp [hg, ht]
theorem kin_classO {Q : Option Value → Shared → Prop} (C : L2.ExcC K D) (X : K.In s.heap) (I : PySem.W.InstAt s.heap x ox D od) (h : Q (some (.ref D)) { s with toks := s.toks + 1 }) : wpAny (model prog w) A (getAttr? (.ref x) "__class__") Q E s := by
  have hf : findObj K D od "__class__" = some (.bind (.builtin "getset_descriptor.__get__") (.builtin "object.__class__")) := fo_bind (by obtain ⟨cd, hc, _⟩ := any_some C.hd; rw [hc]; rfl) C.ha C.hn C.ht
  obtain ⟨hp, g, d, t, os⟩ := s; have L0 := I.type (M := model prog w); have L1 := looks_findIn (M := model prog w) X C.hg; have L2 := looks_findIn (M := model prog w) X C.hk; have L3 := looks_find (M := model prog w) X I hf
  have sub : Looks (model prog w) hp (isInstance (.ref x) (.type "BaseException")) true := L0.andThen (looks_subIn X C.hs); have hx0 : (false && onTheHeap (Value.builtin "BaseException.__getattribute__")) = false := rfl
  have hx2 : (Value.builtin "BaseException.__getattribute__" == Value.builtin "object.__getattribute__") = false := by { decide +kernel }
  have hx1 : (onTheHeap (Value.ref D) && Value.builtin "BaseException.__getattribute__" == Value.builtin "object.__getattribute__") = false := by { rw [hx2]; rfl }
  unfold getAttr? getAttrBy? getAttrBy; refine wpAny_bind (wpAny_mkText (wpAny_bind (wpAny_attempt (wpAny_holding (wpAny_bind (L0.at (wpAny_bind (L1.at ?_))))))))
  show wpAny _ _ (if (onTheHeap (Value.ref D) && Value.builtin "BaseException.__getattribute__" == Value.builtin "object.__getattribute__") = true then _ else _) _ _ _; rw [hx1, if_neg Bool.false_ne_true]
  unfold getAttrByItsOwn hookBefore; refine wpAny_bind ?_; rw [if_pos (show onTheHeap (Value.ref D) = true from rfl)]; refine L2.at ?_; refine wpAny_bind (wpAny_attempt (wpAny_holding ?_)); unfold callGetattribute
  rw [hx0, if_neg Bool.false_ne_true]; unfold boundAndCalled; rw [PySem.F.excAttr_ValueError.ga.bind (.ref x)]; refine wpAny_bind (wpAny_pure ?_)
  show wpAny _ _ (call (.builtin "BaseException.__getattribute__") [.ref x, .str "__class__" t]) _ _ _; refine wpAny_call (codeAny_call_builtin PySem.F.excAttr_ValueError.ga.plain PySem.F.entry_bexc_ga ?_)
  refine @check_slot (model prog w) _ _ ⟨hp, g, d, t + 1, os⟩ "BaseException.__getattribute__" "BaseException" "__getattribute__" (.ref x) [.str "__class__" t] [] _ (by decide +kernel) (by decide +kernel) sub (PySem.F.args_bexc_ga (.ref x) (.str "__class__" t)) ?_; unfold Builtin.«object.__getattribute__»
  refine wpAny_bind (wpAny_of_eq (a := ((Value.ref x : Value), [Value.str "__class__" t])) (by first | rfl | (simp only [slotArgs]; rfl)) ?_); refine wpAny_bind (wpAny_pure (wpAny_bind (L0.at (wpAny_bind (L3.at ?_)))))
  show wpAny _ _ (holding [Value.builtin "object.__class__"] (call (.builtin "getset_descriptor.__get__") [.builtin "object.__class__", .ref x, .ref D]) >>= ret) _ _ _; refine wpAny_bind (wpAny_holding (wpAny_call (class_get (s := ⟨hp, g, d, t + 1, os⟩) (ox := ox) (od := od) X I C.hm ?_)))
  refine wpAny_pure ?_; show wpAny _ _ (handedOut (.ref D)) _ _ _; rw [handedOut_of (v := .ref D) rfl]
  first | exact wpAny_pure (wpAny_pure h) | exact wpAny_pure h | exact wpAny_pure (wpAny_bind (wpAny_pure (wpAny_pure h)))
theorem kitx_own (C : L2.ExcC K D) : KitX K (.ref x) (.ref D) (fun h => PySem.W.InstAt h x ox D od) where
  ty := fun _ _ _ I => I.type
  it := fun M h X _ => (PySem.W.handS_kitx_exc (x := x) (ox := { cls := .ref D, dict := none, data := .fields #[], slots := #[] }) C.hg C.hk C.hs C.hd C.ha C.hn C.ht C.hm).it M h X |> fun f => by
    obtain ⟨cdD, hcD, _⟩ := any_some C.hd
    unfold clsIn at hcD
    split at hcD
    · rename_i c' d' cd' sl' ho; intro A' Q' E' s' k q; unfold isType loadHead; exact wpAny_bind (wpAny_loadPart (k _ _ (X _ _ ho)) (wpAny_pure q))
    · cases hcD
  ne := fun h tp dd its n sl X htp => (PySem.W.handS_kitx_exc (x := x) (ox := ox) C.hg C.hk C.hs C.hd C.ha C.hn C.ht C.hm).ne h tp dd its n sl X htp
  ca := fun X I k => kin_classO C X I k
end
end Lk
namespace Lk
open PySem PySem.Spec PyProof.Rows L2
/-- isinstance(e, c), e the exception that the suite holds, with its own dict -/
def rIsO (K : PySem.W.Frag) (cls : Value) (d : Option Addr) (a : Addr) : List V → Hp → VK → Prop := fun xs H Q => ∃ (D dd : Addr) (fs : List (Str × V)) (c : V) (cv : Value) (b : Bool), cls = .ref D ∧ d = some dd ∧ H dd = some (.xd fs) ∧ ExcC K D ∧ xs = [.ref a, c] ∧ (∀ u, RelV c u → u = cv) ∧ PySem.W.kitOne K (.ref D) cv = some b ∧ Q (.bl b) H
theorem call_isO {X : Cx} {a : Addr} {cls : Value} {d : Option Addr} {oe : Obj} {pn : List (Addr × Obj)} (hz : Zc cls d oe) (hf : ∃ vs, oe.data = .fields vs) : CallR (X.suite a ((a, oe) :: pn)) (.builtin "isinstance") (rIsO X.K cls d a) := by
  intro pins s σ H xs us Q I r h
  obtain ⟨D, dd, fs, c, cv, b, rfl, rfl, edd, C, rfl, hcv, e, q⟩ := h
  obtain ⟨u1, rr1, rfl, rx, rr⟩ : ∃ u1 r1, us = u1 :: r1 ∧ RelV (.ref a) u1 ∧ Vals [c] r1 := by
    cases r with
    | cons rx rr => exact ⟨_, _, rfl, rx, rr⟩
  obtain ⟨u2, rfl, rt⟩ := rr.one
  cases rx
  have ec := hcv _ rt
  subst ec
  have hget := (I.pin (a, oe) (List.mem_append_left _ List.mem_cons_self)).1
  obtain ⟨vs, hv⟩ := hf
  have hx : ObjOk X.prog X.w H s.heap dd (.xd fs) := I.hok dd _ edd
  obtain ⟨mA, hns, _⟩ := hx
  obtain ⟨od, ho, _⟩ := lookIn_ns hns
  have J : PySem.W.InstAt s.heap a oe D (some od) := ⟨hget, hz.1, by unfold PySem.W.notCls; rw [hv] <;> rfl, by rw [hz.2]; exact ho⟩
  exact PySem.W.kia_one (kitx_own C) I.kIn J e (fun z => nomatch z) fun tk => ⟨.bl b, H, I.kept (t' := tk) fun _ _ z => z, rfl, q⟩
end Lk

set_option maxHeartbeats 4000000
/-! list.count(True) of a list of truth values. -/
namespace Lk
open PySem PySem.Spec PyProof.Rows L2
def eqT : Value → Bool
  | .bool a => a == true
  | _ => false
theorem vals_bl : ∀ {bs : List Bool} {us : List Value}, Vals (bs.map V.bl) us → us = bs.map Value.bool
  | [], _, .nil => rfl
  | b :: bs, _, .cons r rr => by
    cases r
    rw [vals_bl rr]; rfl
theorem cnt_bl : ∀ bs : List Bool, (bs.map Value.bool).countP eqT = bs.count true
  | [] => rfl
  | b :: bs => by
    rw [List.map_cons, List.countP_cons, List.count_cons, cnt_bl bs]; rfl
def rCntB (K : PySem.W.Frag) : V → List V → Hp → VK → Prop := fun x xs H Q => ∃ (p : Addr) (bs : List Bool), x = .ref p ∧ xs = [.bl true] ∧ SqL K H p (bs.map V.bl) ∧ Q (.int (bs.count true : Nat)) H
theorem mt_bcount {X : Cx} : MtR X "list.count" (rCntB X.K) := by
  intro pins s σ H x xs v us Q I rx rxs h
  obtain ⟨p, bs, rfl, rfl, hs, q⟩ := h; cases rx
  obtain ⟨u, rfl, ru⟩ := rxs.one; cases ru
  obtain ⟨its, rv, ⟨⟨cls, dd, data, sl⟩, n, ho, hc, hdn, hd⟩, hlen⟩ := I.list hs; simp only at hc hd; subst hc hd
  have hi := vals_bl rv
  subst hi
  refine call_meets PySem.F.slot_list_count ⟨_, ho, rfl⟩ PySem.F.entry_list_count (PySem.F.args_list_count_2 _ _) (SeqAt.list_countAt p (bs.map Value.bool).toArray n dd sl (.bool true) eqT) ⟨ho, fun y hy => ?_, ?_⟩
  · obtain ⟨b, _, e⟩ := List.mem_map.mp (by simpa using hy : y ∈ bs.map Value.bool)
    subst e
    exact SeqAt.EqAt.bool_bool b true
  · refine ⟨.int (bs.count true : Nat), H, I.tok _, ⟨s.toks, ?_⟩, q⟩
    show Value.int (((bs.map Value.bool).toArray.toList.countP eqT : Nat) : Int) s.toks = Value.int ((bs.count true : Nat) : Int) s.toks
    rw [show (bs.map Value.bool).toArray.toList = bs.map Value.bool from rfl, cnt_bl]
end Lk

set_option maxHeartbeats 4000000
/-! The law's question. -/
namespace Lk
open PySem PySem.Spec PyProof.Rows L2
def errs : List Str := ["BadSize", "BadMode", "BadTurn", "BadProgram", "Stuck"]
def asked : List Str := ["BadSize", "BadMode", "BadTurn", "BadProgram", "Stuck", "LogError", "BadSchedule", "TooMany", "Unsafe"]
/-- what the head must show for the law's except clause -/
structure TopA (P : Program) (K : PySem.W.Frag) (mg : Str → Option Value) : Prop extends TopZ P K mg where
  ax : ∀ e ∈ errs, ExcC K (He.ga K e)
  al : ∀ e ∈ errs, PySem.W.exmOne K (.ref (He.ga K e)) (.ref (He.ga K "LinkError")) = some true
  ak : ∀ e ∈ errs, ∀ c ∈ asked, PySem.W.kitOne K (.ref (He.ga K e)) (.ref (He.ga K c)) = some (decide (e = c))
  av : ∀ e ∈ errs, PySem.W.kitOne K (.ref (He.ga K e)) (.type "ValueError") = some true
def spAsk (K : PySem.W.Frag) : Sp := fun vs H Q _ => ∃ (n : Int) (pl : Addr) (as : List Addr) (ps : List (List Int)) (z t : Str) (plain : Int), vs = [.int n, .ref pl, .str z, .str t, .int plain] ∧ PgAt H pl as ps ∧ Few ps ∧
  ∀ H' a, Same H H' → DueAt H' a (dueOf n ps z t) → (∀ l, H' a = some (.tup [.str "told", .ref l]) → H l = none) → Q (.ref a) H'
abbrev isC (K : PySem.W.Frag) (cls : Value) (d : Option Addr) (a : Addr) (x : Str) : TE := tCB (rIsO K cls d a) (tCons (tVar 5) (tCons (tC (.ref (He.ga K x))) tNil))
def tSuite (K : PySem.W.Frag) (a : Addr) (cls : Value) (d : Option Addr) : TS :=
  (tSeq (tAsg (tLst (tCons (isC K cls d a "BadSize") (tCons (isC K cls d a "BadMode") (tCons (isC K cls d a "BadTurn") tNil)))) (gName 6))
  (tSeq (tDrop (tBM K "list" rAppend (tVar 6) (tCons (isC K cls d a "BadProgram") tNil)))
  (tSeq (tDrop (tBM K "list" rAppend (tVar 6) (tCons (isC K cls d a "Stuck") tNil)))
  (tSeq (tAsg (tOrV (isC K cls d a "LogError") (isC K cls d a "BadSchedule")) (gName 7))
  (tSeq (tAsg (tOrV (tVar 7) (tOrV (isC K cls d a "TooMany") (isC K cls d a "Unsafe"))) (gName 7))
  (tSeq (tAsg (tOrV (tVar 7) (tNotV (tCB (rIsO K cls d a) (tCons (tVar 5) (tCons (tC (.ty "ValueError")) tNil))))) (gName 7))
  (tSeq (tIfS (tOr (tB (tVar 7)) (tTest (tOp rNe (tBM K "list" (rCntB K) (tVar 6) (tCons (tC (.bl true)) tNil)) (tC (.int 1))))) (tRet (tTup (tCons (tC (.str "other")) tNil))) tNext)
  (tSeq (tIfS (tB (tOp (rIxL K) (tVar 6) (tC (.int 0)))) (tRet (tTup (tCons (tC (.str "size")) (tCons (tXf a cls d (He.ga K "BadSize") "size" (tVar 5)) tNil)))) tNext)
  (tSeq (tIfS (tB (tOp (rIxL K) (tVar 6) (tC (.int 1)))) (tRet (tTup (tCons (tC (.str "mode")) (tCons (tXf a cls d (He.ga K "BadMode") "name" (tVar 5)) tNil)))) tNext)
  (tSeq (tIfS (tB (tOp (rIxL K) (tVar 6) (tC (.int 2)))) (tRet (tTup (tCons (tC (.str "turn")) (tCons (tXf a cls d (He.ga K "BadTurn") "turn" (tVar 5)) tNil)))) tNext)
  (tSeq (tIfS (tB (tOp (rIxL K) (tVar 6) (tC (.int 3)))) (tRet (tTup (tCons (tC (.str "program")) (tCons (tXf a cls d (He.ga K "BadProgram") "session" (tVar 5)) (tCons (tXf a cls d (He.ga K "BadProgram") "index" (tVar 5)) tNil))))) tNext)
  (tRet (tTup (tCons (tC (.str "stuck")) (tCons (tXf a cls d (He.ga K "Stuck") "schedule" (tVar 5)) tNil)))))))))))))))
end Lk

set_option maxHeartbeats 4000000
/-! The law's question. -/
namespace Lk
open PySem PySem.Spec PyProof.Rows L2
theorem suite_BadSize {P : Program} {K : PySem.W.Frag} {mg : Str → Option Value} (T : TopA P K mg) {a dd : Addr} {fs : List (Str × V)} {y : V} {G : Hp} {v0 v1 v2 v3 v4 : Option V} {D : Ends} (hdd : G dd = some (.xd fs)) (hfy : fs.lookup ("size" : Str) = some y)
    (k : ∀ (G' : Hp) (t : Addr), Same G G' → G' t = none → D.rt (.ref t) (upd G' t (.tup [.str "size", y]))) : tSuite K a (.ref (He.ga K "BadSize")) (some dd) D [v0, v1, v2, v3, v4, some (.ref a), none, none] G := by
  have C := T.ax "BadSize" (by decide)
  have kBadSize : PySem.W.kitOne K (.ref (He.ga K "BadSize")) (.ref (He.ga K "BadSize")) = some true := (T.ak "BadSize" (by decide) "BadSize" (by decide)).trans (congrArg some (by decide +kernel))
  have kBadMode : PySem.W.kitOne K (.ref (He.ga K "BadSize")) (.ref (He.ga K "BadMode")) = some false := (T.ak "BadSize" (by decide) "BadMode" (by decide)).trans (congrArg some (by decide +kernel))
  have kBadTurn : PySem.W.kitOne K (.ref (He.ga K "BadSize")) (.ref (He.ga K "BadTurn")) = some false := (T.ak "BadSize" (by decide) "BadTurn" (by decide)).trans (congrArg some (by decide +kernel))
  have kBadProgram : PySem.W.kitOne K (.ref (He.ga K "BadSize")) (.ref (He.ga K "BadProgram")) = some false := (T.ak "BadSize" (by decide) "BadProgram" (by decide)).trans (congrArg some (by decide +kernel))
  have kStuck : PySem.W.kitOne K (.ref (He.ga K "BadSize")) (.ref (He.ga K "Stuck")) = some false := (T.ak "BadSize" (by decide) "Stuck" (by decide)).trans (congrArg some (by decide +kernel))
  have kLogError : PySem.W.kitOne K (.ref (He.ga K "BadSize")) (.ref (He.ga K "LogError")) = some false := (T.ak "BadSize" (by decide) "LogError" (by decide)).trans (congrArg some (by decide +kernel))
  have kBadSchedule : PySem.W.kitOne K (.ref (He.ga K "BadSize")) (.ref (He.ga K "BadSchedule")) = some false := (T.ak "BadSize" (by decide) "BadSchedule" (by decide)).trans (congrArg some (by decide +kernel))
  have kTooMany : PySem.W.kitOne K (.ref (He.ga K "BadSize")) (.ref (He.ga K "TooMany")) = some false := (T.ak "BadSize" (by decide) "TooMany" (by decide)).trans (congrArg some (by decide +kernel))
  have kUnsafe : PySem.W.kitOne K (.ref (He.ga K "BadSize")) (.ref (He.ga K "Unsafe")) = some false := (T.ak "BadSize" (by decide) "Unsafe" (by decide)).trans (congrArg some (by decide +kernel))
  have kV := T.av "BadSize" (by decide)
  refine ⟨_, rfl, He.ga K "BadSize", dd, fs, _, _, true, rfl, rfl, hdd, C, rfl, (fun _ h => h), kBadSize, _, rfl, He.ga K "BadSize", dd, fs, _, _, false, rfl, rfl, hdd, C, rfl, (fun _ h => h), kBadMode, _, rfl, He.ga K "BadSize", dd, fs, _, _, false, rfl, rfl, hdd, C, rfl, (fun _ h => h), kBadTurn, (by show 3 ≤ sizeLine; decide), fun m hm => ?_⟩
  have nmd : dd ≠ m := ne_of_none hdd hm
  have hz : ∀ o, (upd G m o) dd = some (.xd fs) := fun o => by rw [upd_ne nmd]; exact hdd
  refine ⟨_, rfl, .inl ⟨rfl, _, SqL.of upd_same⟩, _, rfl, He.ga K "BadSize", dd, fs, _, _, false, rfl, rfl, hz _, C, rfl, (fun _ h => h), kBadProgram, m, _, _, rfl, rfl, upd_same, (by decide), ?_⟩
  rw [upd_upd]
  refine ⟨_, rfl, .inl ⟨rfl, _, SqL.of upd_same⟩, _, rfl, He.ga K "BadSize", dd, fs, _, _, false, rfl, rfl, hz _, C, rfl, (fun _ h => h), kStuck, m, _, _, rfl, rfl, upd_same, (by decide), ?_⟩
  rw [upd_upd]
  refine ⟨_, rfl, He.ga K "BadSize", dd, fs, _, _, false, rfl, rfl, hz _, C, rfl, (fun _ h => h), kLogError, false, rfl, iteF ⟨_, rfl, He.ga K "BadSize", dd, fs, _, _, false, rfl, rfl, hz _, C, rfl, (fun _ h => h), kBadSchedule, ?_⟩⟩
  refine ⟨_, rfl, false, rfl, iteF ⟨_, rfl, He.ga K "BadSize", dd, fs, _, _, false, rfl, rfl, hz _, C, rfl, (fun _ h => h), kTooMany, false, rfl, iteF ⟨_, rfl, He.ga K "BadSize", dd, fs, _, _, false, rfl, rfl, hz _, C, rfl, (fun _ h => h), kUnsafe, ?_⟩⟩⟩
  refine ⟨_, rfl, false, rfl, iteF ⟨_, rfl, He.ga K "BadSize", dd, fs, _, _, true, rfl, rfl, hz _, C, rfl, (fun _ h => h), kV, true, rfl, ?_⟩⟩
  have em : ∀ G1 : Hp, G1 = upd G m (.lst ([true, false, false, false, false].map V.bl)) → G1 m = some (.lst ([true, false, false, false, false].map V.bl)) := fun G1 h => by rw [h, upd_same]
  refine ⟨_, rfl, false, rfl, iteF ⟨_, rfl, .inl ⟨rfl, _, SqL.of upd_same⟩, m, [true, false, false, false, false], rfl, rfl, SqL.of upd_same, rfl, _, rfl, nF rfl ?_⟩⟩
  refine ⟨_, rfl, m, _, _, _, rfl, rfl, SqL.of upd_same, atI_nat (j := 0) rfl, true, rfl, iteT ?_⟩
  exact ⟨_, rfl, rfl, rfl, dd, fs, _, rfl, hz _, hfy, (by show 2 ≤ sizeLine; decide), fun t ht => k _ t (Same.new hm) ht⟩
theorem suite_BadMode {P : Program} {K : PySem.W.Frag} {mg : Str → Option Value} (T : TopA P K mg) {a dd : Addr} {fs : List (Str × V)} {y : V} {G : Hp} {v0 v1 v2 v3 v4 : Option V} {D : Ends} (hdd : G dd = some (.xd fs)) (hfy : fs.lookup ("name" : Str) = some y)
    (k : ∀ (G' : Hp) (t : Addr), Same G G' → G' t = none → D.rt (.ref t) (upd G' t (.tup [.str "mode", y]))) : tSuite K a (.ref (He.ga K "BadMode")) (some dd) D [v0, v1, v2, v3, v4, some (.ref a), none, none] G := by
  have C := T.ax "BadMode" (by decide)
  have kBadSize : PySem.W.kitOne K (.ref (He.ga K "BadMode")) (.ref (He.ga K "BadSize")) = some false := (T.ak "BadMode" (by decide) "BadSize" (by decide)).trans (congrArg some (by decide +kernel))
  have kBadMode : PySem.W.kitOne K (.ref (He.ga K "BadMode")) (.ref (He.ga K "BadMode")) = some true := (T.ak "BadMode" (by decide) "BadMode" (by decide)).trans (congrArg some (by decide +kernel))
  have kBadTurn : PySem.W.kitOne K (.ref (He.ga K "BadMode")) (.ref (He.ga K "BadTurn")) = some false := (T.ak "BadMode" (by decide) "BadTurn" (by decide)).trans (congrArg some (by decide +kernel))
  have kBadProgram : PySem.W.kitOne K (.ref (He.ga K "BadMode")) (.ref (He.ga K "BadProgram")) = some false := (T.ak "BadMode" (by decide) "BadProgram" (by decide)).trans (congrArg some (by decide +kernel))
  have kStuck : PySem.W.kitOne K (.ref (He.ga K "BadMode")) (.ref (He.ga K "Stuck")) = some false := (T.ak "BadMode" (by decide) "Stuck" (by decide)).trans (congrArg some (by decide +kernel))
  have kLogError : PySem.W.kitOne K (.ref (He.ga K "BadMode")) (.ref (He.ga K "LogError")) = some false := (T.ak "BadMode" (by decide) "LogError" (by decide)).trans (congrArg some (by decide +kernel))
  have kBadSchedule : PySem.W.kitOne K (.ref (He.ga K "BadMode")) (.ref (He.ga K "BadSchedule")) = some false := (T.ak "BadMode" (by decide) "BadSchedule" (by decide)).trans (congrArg some (by decide +kernel))
  have kTooMany : PySem.W.kitOne K (.ref (He.ga K "BadMode")) (.ref (He.ga K "TooMany")) = some false := (T.ak "BadMode" (by decide) "TooMany" (by decide)).trans (congrArg some (by decide +kernel))
  have kUnsafe : PySem.W.kitOne K (.ref (He.ga K "BadMode")) (.ref (He.ga K "Unsafe")) = some false := (T.ak "BadMode" (by decide) "Unsafe" (by decide)).trans (congrArg some (by decide +kernel))
  have kV := T.av "BadMode" (by decide)
  refine ⟨_, rfl, He.ga K "BadMode", dd, fs, _, _, false, rfl, rfl, hdd, C, rfl, (fun _ h => h), kBadSize, _, rfl, He.ga K "BadMode", dd, fs, _, _, true, rfl, rfl, hdd, C, rfl, (fun _ h => h), kBadMode, _, rfl, He.ga K "BadMode", dd, fs, _, _, false, rfl, rfl, hdd, C, rfl, (fun _ h => h), kBadTurn, (by show 3 ≤ sizeLine; decide), fun m hm => ?_⟩
  have nmd : dd ≠ m := ne_of_none hdd hm
  have hz : ∀ o, (upd G m o) dd = some (.xd fs) := fun o => by rw [upd_ne nmd]; exact hdd
  refine ⟨_, rfl, .inl ⟨rfl, _, SqL.of upd_same⟩, _, rfl, He.ga K "BadMode", dd, fs, _, _, false, rfl, rfl, hz _, C, rfl, (fun _ h => h), kBadProgram, m, _, _, rfl, rfl, upd_same, (by decide), ?_⟩
  rw [upd_upd]
  refine ⟨_, rfl, .inl ⟨rfl, _, SqL.of upd_same⟩, _, rfl, He.ga K "BadMode", dd, fs, _, _, false, rfl, rfl, hz _, C, rfl, (fun _ h => h), kStuck, m, _, _, rfl, rfl, upd_same, (by decide), ?_⟩
  rw [upd_upd]
  refine ⟨_, rfl, He.ga K "BadMode", dd, fs, _, _, false, rfl, rfl, hz _, C, rfl, (fun _ h => h), kLogError, false, rfl, iteF ⟨_, rfl, He.ga K "BadMode", dd, fs, _, _, false, rfl, rfl, hz _, C, rfl, (fun _ h => h), kBadSchedule, ?_⟩⟩
  refine ⟨_, rfl, false, rfl, iteF ⟨_, rfl, He.ga K "BadMode", dd, fs, _, _, false, rfl, rfl, hz _, C, rfl, (fun _ h => h), kTooMany, false, rfl, iteF ⟨_, rfl, He.ga K "BadMode", dd, fs, _, _, false, rfl, rfl, hz _, C, rfl, (fun _ h => h), kUnsafe, ?_⟩⟩⟩
  refine ⟨_, rfl, false, rfl, iteF ⟨_, rfl, He.ga K "BadMode", dd, fs, _, _, true, rfl, rfl, hz _, C, rfl, (fun _ h => h), kV, true, rfl, ?_⟩⟩
  have em : ∀ G1 : Hp, G1 = upd G m (.lst ([false, true, false, false, false].map V.bl)) → G1 m = some (.lst ([false, true, false, false, false].map V.bl)) := fun G1 h => by rw [h, upd_same]
  refine ⟨_, rfl, false, rfl, iteF ⟨_, rfl, .inl ⟨rfl, _, SqL.of upd_same⟩, m, [false, true, false, false, false], rfl, rfl, SqL.of upd_same, rfl, _, rfl, nF rfl ?_⟩⟩
  refine ⟨_, rfl, m, _, _, _, rfl, rfl, SqL.of upd_same, atI_nat (j := 0) rfl, false, rfl, iteF ?_⟩
  refine ⟨_, rfl, m, _, _, _, rfl, rfl, SqL.of upd_same, atI_nat (j := 1) rfl, true, rfl, iteT ?_⟩
  exact ⟨_, rfl, rfl, rfl, dd, fs, _, rfl, hz _, hfy, (by show 2 ≤ sizeLine; decide), fun t ht => k _ t (Same.new hm) ht⟩
theorem suite_BadTurn {P : Program} {K : PySem.W.Frag} {mg : Str → Option Value} (T : TopA P K mg) {a dd : Addr} {fs : List (Str × V)} {y : V} {G : Hp} {v0 v1 v2 v3 v4 : Option V} {D : Ends} (hdd : G dd = some (.xd fs)) (hfy : fs.lookup ("turn" : Str) = some y)
    (k : ∀ (G' : Hp) (t : Addr), Same G G' → G' t = none → D.rt (.ref t) (upd G' t (.tup [.str "turn", y]))) : tSuite K a (.ref (He.ga K "BadTurn")) (some dd) D [v0, v1, v2, v3, v4, some (.ref a), none, none] G := by
  have C := T.ax "BadTurn" (by decide)
  have kBadSize : PySem.W.kitOne K (.ref (He.ga K "BadTurn")) (.ref (He.ga K "BadSize")) = some false := (T.ak "BadTurn" (by decide) "BadSize" (by decide)).trans (congrArg some (by decide +kernel))
  have kBadMode : PySem.W.kitOne K (.ref (He.ga K "BadTurn")) (.ref (He.ga K "BadMode")) = some false := (T.ak "BadTurn" (by decide) "BadMode" (by decide)).trans (congrArg some (by decide +kernel))
  have kBadTurn : PySem.W.kitOne K (.ref (He.ga K "BadTurn")) (.ref (He.ga K "BadTurn")) = some true := (T.ak "BadTurn" (by decide) "BadTurn" (by decide)).trans (congrArg some (by decide +kernel))
  have kBadProgram : PySem.W.kitOne K (.ref (He.ga K "BadTurn")) (.ref (He.ga K "BadProgram")) = some false := (T.ak "BadTurn" (by decide) "BadProgram" (by decide)).trans (congrArg some (by decide +kernel))
  have kStuck : PySem.W.kitOne K (.ref (He.ga K "BadTurn")) (.ref (He.ga K "Stuck")) = some false := (T.ak "BadTurn" (by decide) "Stuck" (by decide)).trans (congrArg some (by decide +kernel))
  have kLogError : PySem.W.kitOne K (.ref (He.ga K "BadTurn")) (.ref (He.ga K "LogError")) = some false := (T.ak "BadTurn" (by decide) "LogError" (by decide)).trans (congrArg some (by decide +kernel))
  have kBadSchedule : PySem.W.kitOne K (.ref (He.ga K "BadTurn")) (.ref (He.ga K "BadSchedule")) = some false := (T.ak "BadTurn" (by decide) "BadSchedule" (by decide)).trans (congrArg some (by decide +kernel))
  have kTooMany : PySem.W.kitOne K (.ref (He.ga K "BadTurn")) (.ref (He.ga K "TooMany")) = some false := (T.ak "BadTurn" (by decide) "TooMany" (by decide)).trans (congrArg some (by decide +kernel))
  have kUnsafe : PySem.W.kitOne K (.ref (He.ga K "BadTurn")) (.ref (He.ga K "Unsafe")) = some false := (T.ak "BadTurn" (by decide) "Unsafe" (by decide)).trans (congrArg some (by decide +kernel))
  have kV := T.av "BadTurn" (by decide)
  refine ⟨_, rfl, He.ga K "BadTurn", dd, fs, _, _, false, rfl, rfl, hdd, C, rfl, (fun _ h => h), kBadSize, _, rfl, He.ga K "BadTurn", dd, fs, _, _, false, rfl, rfl, hdd, C, rfl, (fun _ h => h), kBadMode, _, rfl, He.ga K "BadTurn", dd, fs, _, _, true, rfl, rfl, hdd, C, rfl, (fun _ h => h), kBadTurn, (by show 3 ≤ sizeLine; decide), fun m hm => ?_⟩
  have nmd : dd ≠ m := ne_of_none hdd hm
  have hz : ∀ o, (upd G m o) dd = some (.xd fs) := fun o => by rw [upd_ne nmd]; exact hdd
  refine ⟨_, rfl, .inl ⟨rfl, _, SqL.of upd_same⟩, _, rfl, He.ga K "BadTurn", dd, fs, _, _, false, rfl, rfl, hz _, C, rfl, (fun _ h => h), kBadProgram, m, _, _, rfl, rfl, upd_same, (by decide), ?_⟩
  rw [upd_upd]
  refine ⟨_, rfl, .inl ⟨rfl, _, SqL.of upd_same⟩, _, rfl, He.ga K "BadTurn", dd, fs, _, _, false, rfl, rfl, hz _, C, rfl, (fun _ h => h), kStuck, m, _, _, rfl, rfl, upd_same, (by decide), ?_⟩
  rw [upd_upd]
  refine ⟨_, rfl, He.ga K "BadTurn", dd, fs, _, _, false, rfl, rfl, hz _, C, rfl, (fun _ h => h), kLogError, false, rfl, iteF ⟨_, rfl, He.ga K "BadTurn", dd, fs, _, _, false, rfl, rfl, hz _, C, rfl, (fun _ h => h), kBadSchedule, ?_⟩⟩
  refine ⟨_, rfl, false, rfl, iteF ⟨_, rfl, He.ga K "BadTurn", dd, fs, _, _, false, rfl, rfl, hz _, C, rfl, (fun _ h => h), kTooMany, false, rfl, iteF ⟨_, rfl, He.ga K "BadTurn", dd, fs, _, _, false, rfl, rfl, hz _, C, rfl, (fun _ h => h), kUnsafe, ?_⟩⟩⟩
  refine ⟨_, rfl, false, rfl, iteF ⟨_, rfl, He.ga K "BadTurn", dd, fs, _, _, true, rfl, rfl, hz _, C, rfl, (fun _ h => h), kV, true, rfl, ?_⟩⟩
  have em : ∀ G1 : Hp, G1 = upd G m (.lst ([false, false, true, false, false].map V.bl)) → G1 m = some (.lst ([false, false, true, false, false].map V.bl)) := fun G1 h => by rw [h, upd_same]
  refine ⟨_, rfl, false, rfl, iteF ⟨_, rfl, .inl ⟨rfl, _, SqL.of upd_same⟩, m, [false, false, true, false, false], rfl, rfl, SqL.of upd_same, rfl, _, rfl, nF rfl ?_⟩⟩
  refine ⟨_, rfl, m, _, _, _, rfl, rfl, SqL.of upd_same, atI_nat (j := 0) rfl, false, rfl, iteF ?_⟩
  refine ⟨_, rfl, m, _, _, _, rfl, rfl, SqL.of upd_same, atI_nat (j := 1) rfl, false, rfl, iteF ?_⟩
  refine ⟨_, rfl, m, _, _, _, rfl, rfl, SqL.of upd_same, atI_nat (j := 2) rfl, true, rfl, iteT ?_⟩
  exact ⟨_, rfl, rfl, rfl, dd, fs, _, rfl, hz _, hfy, (by show 2 ≤ sizeLine; decide), fun t ht => k _ t (Same.new hm) ht⟩
theorem suite_BadProgram {P : Program} {K : PySem.W.Frag} {mg : Str → Option Value} (T : TopA P K mg) {a dd : Addr} {fs : List (Str × V)} {y z : V} {G : Hp} {v0 v1 v2 v3 v4 : Option V} {D : Ends} (hdd : G dd = some (.xd fs)) (hfy : fs.lookup ("session" : Str) = some y) (hfz : fs.lookup ("index" : Str) = some z)
    (k : ∀ (G' : Hp) (t : Addr), Same G G' → G' t = none → D.rt (.ref t) (upd G' t (.tup [.str "program", y, z]))) : tSuite K a (.ref (He.ga K "BadProgram")) (some dd) D [v0, v1, v2, v3, v4, some (.ref a), none, none] G := by
  have C := T.ax "BadProgram" (by decide)
  have kBadSize : PySem.W.kitOne K (.ref (He.ga K "BadProgram")) (.ref (He.ga K "BadSize")) = some false := (T.ak "BadProgram" (by decide) "BadSize" (by decide)).trans (congrArg some (by decide +kernel))
  have kBadMode : PySem.W.kitOne K (.ref (He.ga K "BadProgram")) (.ref (He.ga K "BadMode")) = some false := (T.ak "BadProgram" (by decide) "BadMode" (by decide)).trans (congrArg some (by decide +kernel))
  have kBadTurn : PySem.W.kitOne K (.ref (He.ga K "BadProgram")) (.ref (He.ga K "BadTurn")) = some false := (T.ak "BadProgram" (by decide) "BadTurn" (by decide)).trans (congrArg some (by decide +kernel))
  have kBadProgram : PySem.W.kitOne K (.ref (He.ga K "BadProgram")) (.ref (He.ga K "BadProgram")) = some true := (T.ak "BadProgram" (by decide) "BadProgram" (by decide)).trans (congrArg some (by decide +kernel))
  have kStuck : PySem.W.kitOne K (.ref (He.ga K "BadProgram")) (.ref (He.ga K "Stuck")) = some false := (T.ak "BadProgram" (by decide) "Stuck" (by decide)).trans (congrArg some (by decide +kernel))
  have kLogError : PySem.W.kitOne K (.ref (He.ga K "BadProgram")) (.ref (He.ga K "LogError")) = some false := (T.ak "BadProgram" (by decide) "LogError" (by decide)).trans (congrArg some (by decide +kernel))
  have kBadSchedule : PySem.W.kitOne K (.ref (He.ga K "BadProgram")) (.ref (He.ga K "BadSchedule")) = some false := (T.ak "BadProgram" (by decide) "BadSchedule" (by decide)).trans (congrArg some (by decide +kernel))
  have kTooMany : PySem.W.kitOne K (.ref (He.ga K "BadProgram")) (.ref (He.ga K "TooMany")) = some false := (T.ak "BadProgram" (by decide) "TooMany" (by decide)).trans (congrArg some (by decide +kernel))
  have kUnsafe : PySem.W.kitOne K (.ref (He.ga K "BadProgram")) (.ref (He.ga K "Unsafe")) = some false := (T.ak "BadProgram" (by decide) "Unsafe" (by decide)).trans (congrArg some (by decide +kernel))
  have kV := T.av "BadProgram" (by decide)
  refine ⟨_, rfl, He.ga K "BadProgram", dd, fs, _, _, false, rfl, rfl, hdd, C, rfl, (fun _ h => h), kBadSize, _, rfl, He.ga K "BadProgram", dd, fs, _, _, false, rfl, rfl, hdd, C, rfl, (fun _ h => h), kBadMode, _, rfl, He.ga K "BadProgram", dd, fs, _, _, false, rfl, rfl, hdd, C, rfl, (fun _ h => h), kBadTurn, (by show 3 ≤ sizeLine; decide), fun m hm => ?_⟩
  have nmd : dd ≠ m := ne_of_none hdd hm
  have hz : ∀ o, (upd G m o) dd = some (.xd fs) := fun o => by rw [upd_ne nmd]; exact hdd
  refine ⟨_, rfl, .inl ⟨rfl, _, SqL.of upd_same⟩, _, rfl, He.ga K "BadProgram", dd, fs, _, _, true, rfl, rfl, hz _, C, rfl, (fun _ h => h), kBadProgram, m, _, _, rfl, rfl, upd_same, (by decide), ?_⟩
  rw [upd_upd]
  refine ⟨_, rfl, .inl ⟨rfl, _, SqL.of upd_same⟩, _, rfl, He.ga K "BadProgram", dd, fs, _, _, false, rfl, rfl, hz _, C, rfl, (fun _ h => h), kStuck, m, _, _, rfl, rfl, upd_same, (by decide), ?_⟩
  rw [upd_upd]
  refine ⟨_, rfl, He.ga K "BadProgram", dd, fs, _, _, false, rfl, rfl, hz _, C, rfl, (fun _ h => h), kLogError, false, rfl, iteF ⟨_, rfl, He.ga K "BadProgram", dd, fs, _, _, false, rfl, rfl, hz _, C, rfl, (fun _ h => h), kBadSchedule, ?_⟩⟩
  refine ⟨_, rfl, false, rfl, iteF ⟨_, rfl, He.ga K "BadProgram", dd, fs, _, _, false, rfl, rfl, hz _, C, rfl, (fun _ h => h), kTooMany, false, rfl, iteF ⟨_, rfl, He.ga K "BadProgram", dd, fs, _, _, false, rfl, rfl, hz _, C, rfl, (fun _ h => h), kUnsafe, ?_⟩⟩⟩
  refine ⟨_, rfl, false, rfl, iteF ⟨_, rfl, He.ga K "BadProgram", dd, fs, _, _, true, rfl, rfl, hz _, C, rfl, (fun _ h => h), kV, true, rfl, ?_⟩⟩
  have em : ∀ G1 : Hp, G1 = upd G m (.lst ([false, false, false, true, false].map V.bl)) → G1 m = some (.lst ([false, false, false, true, false].map V.bl)) := fun G1 h => by rw [h, upd_same]
  refine ⟨_, rfl, false, rfl, iteF ⟨_, rfl, .inl ⟨rfl, _, SqL.of upd_same⟩, m, [false, false, false, true, false], rfl, rfl, SqL.of upd_same, rfl, _, rfl, nF rfl ?_⟩⟩
  refine ⟨_, rfl, m, _, _, _, rfl, rfl, SqL.of upd_same, atI_nat (j := 0) rfl, false, rfl, iteF ?_⟩
  refine ⟨_, rfl, m, _, _, _, rfl, rfl, SqL.of upd_same, atI_nat (j := 1) rfl, false, rfl, iteF ?_⟩
  refine ⟨_, rfl, m, _, _, _, rfl, rfl, SqL.of upd_same, atI_nat (j := 2) rfl, false, rfl, iteF ?_⟩
  refine ⟨_, rfl, m, _, _, _, rfl, rfl, SqL.of upd_same, atI_nat (j := 3) rfl, true, rfl, iteT ?_⟩
  exact ⟨_, rfl, rfl, rfl, dd, fs, _, rfl, hz _, hfy, _, rfl, rfl, rfl, dd, fs, _, rfl, hz _, hfz, (by show 3 ≤ sizeLine; decide), fun t ht => k _ t (Same.new hm) ht⟩
theorem suite_Stuck {P : Program} {K : PySem.W.Frag} {mg : Str → Option Value} (T : TopA P K mg) {a dd : Addr} {fs : List (Str × V)} {y : V} {G : Hp} {v0 v1 v2 v3 v4 : Option V} {D : Ends} (hdd : G dd = some (.xd fs)) (hfy : fs.lookup ("schedule" : Str) = some y)
    (k : ∀ (G' : Hp) (t : Addr), Same G G' → G' t = none → D.rt (.ref t) (upd G' t (.tup [.str "stuck", y]))) : tSuite K a (.ref (He.ga K "Stuck")) (some dd) D [v0, v1, v2, v3, v4, some (.ref a), none, none] G := by
  have C := T.ax "Stuck" (by decide)
  have kBadSize : PySem.W.kitOne K (.ref (He.ga K "Stuck")) (.ref (He.ga K "BadSize")) = some false := (T.ak "Stuck" (by decide) "BadSize" (by decide)).trans (congrArg some (by decide +kernel))
  have kBadMode : PySem.W.kitOne K (.ref (He.ga K "Stuck")) (.ref (He.ga K "BadMode")) = some false := (T.ak "Stuck" (by decide) "BadMode" (by decide)).trans (congrArg some (by decide +kernel))
  have kBadTurn : PySem.W.kitOne K (.ref (He.ga K "Stuck")) (.ref (He.ga K "BadTurn")) = some false := (T.ak "Stuck" (by decide) "BadTurn" (by decide)).trans (congrArg some (by decide +kernel))
  have kBadProgram : PySem.W.kitOne K (.ref (He.ga K "Stuck")) (.ref (He.ga K "BadProgram")) = some false := (T.ak "Stuck" (by decide) "BadProgram" (by decide)).trans (congrArg some (by decide +kernel))
  have kStuck : PySem.W.kitOne K (.ref (He.ga K "Stuck")) (.ref (He.ga K "Stuck")) = some true := (T.ak "Stuck" (by decide) "Stuck" (by decide)).trans (congrArg some (by decide +kernel))
  have kLogError : PySem.W.kitOne K (.ref (He.ga K "Stuck")) (.ref (He.ga K "LogError")) = some false := (T.ak "Stuck" (by decide) "LogError" (by decide)).trans (congrArg some (by decide +kernel))
  have kBadSchedule : PySem.W.kitOne K (.ref (He.ga K "Stuck")) (.ref (He.ga K "BadSchedule")) = some false := (T.ak "Stuck" (by decide) "BadSchedule" (by decide)).trans (congrArg some (by decide +kernel))
  have kTooMany : PySem.W.kitOne K (.ref (He.ga K "Stuck")) (.ref (He.ga K "TooMany")) = some false := (T.ak "Stuck" (by decide) "TooMany" (by decide)).trans (congrArg some (by decide +kernel))
  have kUnsafe : PySem.W.kitOne K (.ref (He.ga K "Stuck")) (.ref (He.ga K "Unsafe")) = some false := (T.ak "Stuck" (by decide) "Unsafe" (by decide)).trans (congrArg some (by decide +kernel))
  have kV := T.av "Stuck" (by decide)
  refine ⟨_, rfl, He.ga K "Stuck", dd, fs, _, _, false, rfl, rfl, hdd, C, rfl, (fun _ h => h), kBadSize, _, rfl, He.ga K "Stuck", dd, fs, _, _, false, rfl, rfl, hdd, C, rfl, (fun _ h => h), kBadMode, _, rfl, He.ga K "Stuck", dd, fs, _, _, false, rfl, rfl, hdd, C, rfl, (fun _ h => h), kBadTurn, (by show 3 ≤ sizeLine; decide), fun m hm => ?_⟩
  have nmd : dd ≠ m := ne_of_none hdd hm
  have hz : ∀ o, (upd G m o) dd = some (.xd fs) := fun o => by rw [upd_ne nmd]; exact hdd
  refine ⟨_, rfl, .inl ⟨rfl, _, SqL.of upd_same⟩, _, rfl, He.ga K "Stuck", dd, fs, _, _, false, rfl, rfl, hz _, C, rfl, (fun _ h => h), kBadProgram, m, _, _, rfl, rfl, upd_same, (by decide), ?_⟩
  rw [upd_upd]
  refine ⟨_, rfl, .inl ⟨rfl, _, SqL.of upd_same⟩, _, rfl, He.ga K "Stuck", dd, fs, _, _, true, rfl, rfl, hz _, C, rfl, (fun _ h => h), kStuck, m, _, _, rfl, rfl, upd_same, (by decide), ?_⟩
  rw [upd_upd]
  refine ⟨_, rfl, He.ga K "Stuck", dd, fs, _, _, false, rfl, rfl, hz _, C, rfl, (fun _ h => h), kLogError, false, rfl, iteF ⟨_, rfl, He.ga K "Stuck", dd, fs, _, _, false, rfl, rfl, hz _, C, rfl, (fun _ h => h), kBadSchedule, ?_⟩⟩
  refine ⟨_, rfl, false, rfl, iteF ⟨_, rfl, He.ga K "Stuck", dd, fs, _, _, false, rfl, rfl, hz _, C, rfl, (fun _ h => h), kTooMany, false, rfl, iteF ⟨_, rfl, He.ga K "Stuck", dd, fs, _, _, false, rfl, rfl, hz _, C, rfl, (fun _ h => h), kUnsafe, ?_⟩⟩⟩
  refine ⟨_, rfl, false, rfl, iteF ⟨_, rfl, He.ga K "Stuck", dd, fs, _, _, true, rfl, rfl, hz _, C, rfl, (fun _ h => h), kV, true, rfl, ?_⟩⟩
  have em : ∀ G1 : Hp, G1 = upd G m (.lst ([false, false, false, false, true].map V.bl)) → G1 m = some (.lst ([false, false, false, false, true].map V.bl)) := fun G1 h => by rw [h, upd_same]
  refine ⟨_, rfl, false, rfl, iteF ⟨_, rfl, .inl ⟨rfl, _, SqL.of upd_same⟩, m, [false, false, false, false, true], rfl, rfl, SqL.of upd_same, rfl, _, rfl, nF rfl ?_⟩⟩
  refine ⟨_, rfl, m, _, _, _, rfl, rfl, SqL.of upd_same, atI_nat (j := 0) rfl, false, rfl, iteF ?_⟩
  refine ⟨_, rfl, m, _, _, _, rfl, rfl, SqL.of upd_same, atI_nat (j := 1) rfl, false, rfl, iteF ?_⟩
  refine ⟨_, rfl, m, _, _, _, rfl, rfl, SqL.of upd_same, atI_nat (j := 2) rfl, false, rfl, iteF ?_⟩
  refine ⟨_, rfl, m, _, _, _, rfl, rfl, SqL.of upd_same, atI_nat (j := 3) rfl, false, rfl, iteF ?_⟩
  exact ⟨_, rfl, rfl, rfl, dd, fs, _, rfl, hz _, hfy, (by show 2 ≤ sizeLine; decide), fun t ht => k _ t (Same.new hm) ht⟩
end Lk

set_option maxHeartbeats 4000000
/-! The law's question: the walk. -/
namespace Lk
open PySem PySem.Spec PyProof.Rows L2
theorem nt {x : Str} {ys : List V} {l t : Addr} {G : Hp} (h : x ≠ "told") (e : (upd G t (.tup (.str x :: ys))) t = some (.tup [.str "told", .ref l])) : False := by
  rw [upd_same] at e
  injection e with e
  injection e with e
  injection e with e _
  exact h (V.str.inj e)
section
variable {n : Int} {ps : List (List Int)} {z t : Str} {m : Md}
theorem due_size (c : ¬ (0 ≤ n ∧ n ≤ 60)) : dueOf n ps z t = .size n := if_neg c
theorem due_mode (c : 0 ≤ n ∧ n ≤ 60) (h : mdOf z = none) : dueOf n ps z t = .mode z := by unfold dueOf; rw [if_pos c, h]
theorem due_turn (c : 0 ≤ n ∧ n ≤ 60) (h : mdOf z ≠ none) (h2 : tnOk t = false) : dueOf n ps z t = .turn t := by
  obtain ⟨m, hm⟩ := Option.ne_none_iff_exists'.mp h
  unfold dueOf; rw [if_pos c, hm, h2]; rfl
theorem due_prog (c : 0 ≤ n ∧ n ≤ 60) (h : mdOf z ≠ none) (h2 : tnOk t = true) {i j : Nat} (h3 : flt n [] ps 0 = some (i, j)) : dueOf n ps z t = .prog i j := by
  obtain ⟨m, hm⟩ := Option.ne_none_iff_exists'.mp h
  unfold dueOf; rw [if_pos c, hm, h2, h3]; rfl
theorem due_told (c : 0 ≤ n ∧ n ≤ 60) (h : mdOf z = some m) (h2 : tnOk t = true) (h3 : flt n [] ps 0 = none) (h4 : (run n.toNat ps m (decide (t = "round"))).1 = false) : dueOf n ps z t = .told (run n.toNat ps m (decide (t = "round"))).2.1 := by
  unfold dueOf; rw [if_pos c, h, h2, h3]
  show (if (run n.toNat ps m (decide (t = "round"))).1 = true then Due.stuck _ else _) = _
  rw [h4]; rfl
theorem due_stuck (c : 0 ≤ n ∧ n ≤ 60) (h : mdOf z = some m) (h2 : tnOk t = true) (h3 : flt n [] ps 0 = none) (h4 : (run n.toNat ps m (decide (t = "round"))).1 = true) : dueOf n ps z t = .stuck (run n.toNat ps m (decide (t = "round"))).2.1 := by
  unfold dueOf; rw [if_pos c, h, h2, h3]
  show (if (run n.toNat ps m (decide (t = "round"))).1 = true then Due.stuck _ else _) = _
  rw [h4]; rfl
end
section
variable {P : Program} {w : World} {K : PySem.W.Frag} {mg : Str → Option Value} {base : Heap}
abbrev cxAsk (P : Program) (w : World) (K : PySem.W.Frag) (mg : Str → Option Value) (base : Heap) (cdv : Value) (A : Around) (outer : List Env) (s : Shared) (H : Hp) (E : XK) : Cx :=
  (cxOf CX0 P w K mg base ["_law_size_here", "_law_programs_here", "_law_name", "_law_way", "_law_plain", "caught", "_law_marks", "_law_other"] "_law_ask" (defScope s__law_ask) (He.fAd K ("_law_ask", none)) cdv A outer s H E).nox
theorem xf_of {C : Addr} (h : ExcC K C) : XfC K C := ⟨h.hg, h.hk, h.hs, h.hd⟩
theorem ok_ask (T : TopA P K mg) : FnOk P w K mg base CX0 13 (He.fAd K ("_law_ask", none)) (fdOf K ("_law_ask", none)) ["_law_size_here", "_law_programs_here", "_law_name", "_law_way", "_law_plain"] (spAsk K) := by
  refine fd_ok T.d__law_ask sc__law_ask (fun vs H Q E h => ?_) (fun cdv A outer s H vs Q E hr h => ?_)
  · obtain ⟨n, pl, as, ps, z, t, plain, rfl, _⟩ := h
    rfl
  · obtain ⟨n, pl, as, ps, z, t, plain, rfl, PG, FW, k⟩ := h
    have nd := sc__law_ask.nd
    have isO : ∀ {a : Addr} {oe : Obj} {cls : Value} {d : Option Addr} {pn : List (Addr × Obj)}, Zc cls d oe → (∃ vs, oe.data = .fields vs) → CallR ((cxAsk P w K mg base cdv A outer s H E).suite a ((a, oe) :: pn)) (.builtin "isinstance") (rIsO K cls d a) := fun hz hf => call_isO hz hf
    have x0 := xf_of (T.ax "BadSize" (by decide)); have x1 := xf_of (T.ax "BadMode" (by decide)); have x2 := xf_of (T.ax "BadTurn" (by decide)); have x3 := xf_of (T.ax "BadProgram" (by decide)); have x4 := xf_of (T.ax "Stuck" (by decide))
    refine ⟨_, pss_one (ps_try_as (i := 5) (tb := fun W => tRet (tTup (tCons (tC (.str "told")) (tCons (tCallS (spCall K) (WE W) (tCons (tVar 0) (tCons (tVar 1) (tCons (tVar 2) (tCons (tVar 3) (tCons (tVar 4) tNil)))))) tNil)))) (ts := tSuite K) (Wout := fun _ _ _ _ => False) rfl rfl nd rfl rfl ⟨rfl, by decide, Or.inl T.g_LinkError⟩ takes0
      (fun W pn xe tk _ => pss_one (ps_ret (pe_tup (pa_cons pe_str (pa_cons (pe_callS (ok_call T.toTopX) hr rfl T.g__law_call T.d__law_call.kp (b__law_call T.toTop) (fun σ => passAt tk σ) (pa_cons (pv 0) (pa_cons (pv 1) (pa_cons (pv 2) (pa_cons (pv 3) (pa_cons (pv 4) pa_nil)))))) pa_nil)))))
      (fun a oe cls d pn hz hf => pss_cons (ps_set (i := 6) nd rfl (Or.inl rfl) (pe_lst (pa_cons (pe_callB (isO (a := a) (oe := oe) (cls := cls) (d := d) (pn := pn) hz hf) (by rfl) T.n_isinstance (by decide +kernel) (pa_cons (pv 5) (pa_cons (pe_glob rfl T.g_BadSize (v := .ref (He.ga K "BadSize")) rfl) pa_nil))) (pa_cons (pe_callB (isO (a := a) (oe := oe) (cls := cls) (d := d) (pn := pn) hz hf) (by rfl) T.n_isinstance (by decide +kernel) (pa_cons (pv 5) (pa_cons (pe_glob rfl T.g_BadMode (v := .ref (He.ga K "BadMode")) rfl) pa_nil))) (pa_cons (pe_callB (isO (a := a) (oe := oe) (cls := cls) (d := d) (pn := pn) hz hf) (by rfl) T.n_isinstance (by decide +kernel) (pa_cons (pv 5) (pa_cons (pe_glob rfl T.g_BadTurn (v := .ref (He.ga K "BadTurn")) rfl) pa_nil))) pa_nil)))))
        (pss_cons (ps_expr (pe_bm PySem.F.plainAttrs_list PySem.F.slot_list_append PySem.F.type_list_append mt_append (pv 6) (pa_cons (pe_callB (isO (a := a) (oe := oe) (cls := cls) (d := d) (pn := pn) hz hf) (by rfl) T.n_isinstance (by decide +kernel) (pa_cons (pv 5) (pa_cons (pe_glob rfl T.g_BadProgram (v := .ref (He.ga K "BadProgram")) rfl) pa_nil))) pa_nil)))
        (pss_cons (ps_expr (pe_bm PySem.F.plainAttrs_list PySem.F.slot_list_append PySem.F.type_list_append mt_append (pv 6) (pa_cons (pe_callB (isO (a := a) (oe := oe) (cls := cls) (d := d) (pn := pn) hz hf) (by rfl) T.n_isinstance (by decide +kernel) (pa_cons (pv 5) (pa_cons (pe_glob rfl T.g_Stuck (v := .ref (He.ga K "Stuck")) rfl) pa_nil))) pa_nil)))
        (pss_cons (ps_set (i := 7) nd rfl (Or.inl rfl) (pe_or (pe_callB (isO (a := a) (oe := oe) (cls := cls) (d := d) (pn := pn) hz hf) (by rfl) T.n_isinstance (by decide +kernel) (pa_cons (pv 5) (pa_cons (pe_glob rfl T.g_LogError (v := .ref (He.ga K "LogError")) rfl) pa_nil))) (pe_one (pe_callB (isO (a := a) (oe := oe) (cls := cls) (d := d) (pn := pn) hz hf) (by rfl) T.n_isinstance (by decide +kernel) (pa_cons (pv 5) (pa_cons (pe_glob rfl T.g_BadSchedule (v := .ref (He.ga K "BadSchedule")) rfl) pa_nil))))))
        (pss_cons (ps_set (i := 7) nd rfl (Or.inl rfl) (pe_or (pv 7) (pe_or (pe_callB (isO (a := a) (oe := oe) (cls := cls) (d := d) (pn := pn) hz hf) (by rfl) T.n_isinstance (by decide +kernel) (pa_cons (pv 5) (pa_cons (pe_glob rfl T.g_TooMany (v := .ref (He.ga K "TooMany")) rfl) pa_nil))) (pe_one (pe_callB (isO (a := a) (oe := oe) (cls := cls) (d := d) (pn := pn) hz hf) (by rfl) T.n_isinstance (by decide +kernel) (pa_cons (pv 5) (pa_cons (pe_glob rfl T.g_Unsafe (v := .ref (He.ga K "Unsafe")) rfl) pa_nil)))))))
        (pss_cons (ps_set (i := 7) nd rfl (Or.inl rfl) (pe_or (pv 7) (pe_one (pe_not (pe_callB (isO (a := a) (oe := oe) (cls := cls) (d := d) (pn := pn) hz hf) (by rfl) T.n_isinstance (by decide +kernel) (pa_cons (pv 5) (pa_cons (pe_bltn rfl T.n_ValueError (by decide +kernel) (v := .ty "ValueError") rfl) pa_nil)))))))
        (pss_cons (ps_if (PW.pt (pw_or (pt_val (pv 7)) (pw_or1 (pt_cmpR op_ne (pe_bm PySem.F.plainAttrs_list PySem.F.slot_list_count PySem.F.type_list_count mt_bcount (pv 6) (pa_cons pe_bl pa_nil)) pe_int (nomark _))))) (pss_one (ps_ret (pe_tup (pa_cons pe_str pa_nil)))) pss_nil)
        (pss_cons (ps_if (pt_val (pe_ix ix_list (pv 6) pe_int (fun _ _ => rfl))) (pss_one (ps_ret (pe_tup (pa_cons pe_str (pa_cons (pe_xf (X := cxAsk P w K mg base cdv A outer s H E) x0 T.nf_size hz hf (pv 5)) pa_nil))))) pss_nil)
        (pss_cons (ps_if (pt_val (pe_ix ix_list (pv 6) pe_int (fun _ _ => rfl))) (pss_one (ps_ret (pe_tup (pa_cons pe_str (pa_cons (pe_xf (X := cxAsk P w K mg base cdv A outer s H E) x1 T.nf_name hz hf (pv 5)) pa_nil))))) pss_nil)
        (pss_cons (ps_if (pt_val (pe_ix ix_list (pv 6) pe_int (fun _ _ => rfl))) (pss_one (ps_ret (pe_tup (pa_cons pe_str (pa_cons (pe_xf (X := cxAsk P w K mg base cdv A outer s H E) x2 T.nf_turn hz hf (pv 5)) pa_nil))))) pss_nil)
        (pss_cons (ps_if (pt_val (pe_ix ix_list (pv 6) pe_int (fun _ _ => rfl))) (pss_one (ps_ret (pe_tup (pa_cons pe_str (pa_cons (pe_xf (X := cxAsk P w K mg base cdv A outer s H E) x3 T.nf_session hz hf (pv 5)) (pa_cons (pe_xf (X := cxAsk P w K mg base cdv A outer s H E) x3 T.nf_index hz hf (pv 5)) pa_nil)))))) pss_nil)
        (pss_one (ps_ret (pe_tup (pa_cons pe_str (pa_cons (pe_xf (X := cxAsk P w K mg base cdv A outer s H E) x4 T.nf_schedule hz hf (pv 5)) pa_nil))))))))))))))))), ?_⟩
    refine ⟨_, rfl, _, rfl, _, rfl, _, rfl, _, rfl, n, pl, as, ps, z, t, plain, rfl, PG, FW, ?_⟩
    refine { size := fun c d hd => ?_, mode := fun c c2 d hd => ?_, turn := fun c c2 c3 d hd => ?_, bad := fun c c2 c3 i j c4 H' sa d hd => ?_, good := fun c m c2 c3 c4 c5 H' l sa hl el => ?_, stuck := fun c m c2 c3 c4 c5 H' q d sa hq eq hd => ?_ }
    · refine ⟨true, T.al "BadSize" (by decide), fun _ a _ => suite_BadSize T (fs := [("size", .int n)]) upd_same rfl fun G' t' sg ht => k _ t' ((Same.new hd).trans (sg.trans (Same.new ht))) ?_ fun l e => (nt (by decide) e).elim, fun q => Bool.noConfusion q⟩
      rw [due_size c]; exact upd_same
    · refine ⟨true, T.al "BadMode" (by decide), fun _ a _ => suite_BadMode T (fs := [("name", .str z)]) upd_same rfl fun G' t' sg ht => k _ t' ((Same.new hd).trans (sg.trans (Same.new ht))) ?_ fun l e => (nt (by decide) e).elim, fun q => Bool.noConfusion q⟩
      rw [due_mode c c2]; exact upd_same
    · refine ⟨true, T.al "BadTurn" (by decide), fun _ a _ => suite_BadTurn T (fs := [("turn", .str t)]) upd_same rfl fun G' t' sg ht => k _ t' ((Same.new hd).trans (sg.trans (Same.new ht))) ?_ fun l e => (nt (by decide) e).elim, fun q => Bool.noConfusion q⟩
      rw [due_turn c c2 c3]; exact upd_same
    · refine ⟨true, T.al "BadProgram" (by decide), fun _ a _ => suite_BadProgram T (fs := [("index", .int (j : Nat)), ("session", .int (i : Nat))]) upd_same rfl rfl fun G' t' sg ht => k _ t' (sa.trans ((Same.new hd).trans (sg.trans (Same.new ht)))) ?_ fun l e => (nt (by decide) e).elim, fun q => Bool.noConfusion q⟩
      rw [due_prog c c2 c3 c4]; exact upd_same
    · refine ⟨by show 2 ≤ sizeLine; decide, fun T' hT => k _ T' (sa.trans (Same.new hT)) ?_ fun l' e => ?_⟩
      · rw [due_told c c2 c3 c4 c5]; exact ⟨l, upd_same, (Same.new hT) _ _ el⟩
      · rw [upd_same] at e
        cases e
        exact hl
    · refine ⟨true, T.al "Stuck" (by decide), fun _ a _ => suite_Stuck T (fs := [("schedule", .ref q)]) upd_same rfl fun G' t' sg ht => k _ t' (sa.trans ((Same.new hd).trans (sg.trans (Same.new ht)))) ?_ fun l e => (nt (by decide) e).elim, fun q => Bool.noConfusion q⟩
      rw [due_stuck c c2 c3 c4 c5]; exact ⟨q, upd_same, ((Same.new hd).trans (sg.trans (Same.new ht))) _ _ eq⟩
end
end Lk

set_option maxHeartbeats 4000000
/-! The law's comparison. -/
namespace Lk
open PySem PySem.Spec PyProof.Rows L2
/-- the same data, d deep; o: not empty way down -/
def SameV (K : PySem.W.Frag) (H : Hp) : Nat → V → V → Prop
  | 0, x, y => (∃ i, x = .int i ∧ y = .int i) ∨ ∃ s, x = .str s ∧ y = .str s
  | d + 1, x, y => ((∃ i, x = .int i ∧ y = .int i) ∨ ∃ s, x = .str s ∧ y = .str s) ∨ ∃ (a b : Addr) (xs ys : List V), x = .ref a ∧ y = .ref b ∧ ((H a = some (.lst xs) ∧ H b = some (.lst ys)) ∨ (H a = some (.tup xs) ∧ H b = some (.tup ys))) ∧ xs.length ≤ 1000000 ∧ xs.length = ys.length ∧ ∀ (i : Nat) (u v : V), xs[i]? = some u → ys[i]? = some v → SameV K H d u v
theorem SameV.same {K : PySem.W.Frag} {H H' : Hp} (e : Same H H') : ∀ {d : Nat} {x y : V}, SameV K H d x y → SameV K H' d x y
  | 0, _, _, h => h
  | d + 1, _, _, .inl h => .inl h
  | d + 1, _, _, .inr ⟨a, b, xs, ys, h1, h2, h3, h4, h5, h6⟩ => .inr ⟨a, b, xs, ys, h1, h2, h3.imp (fun q => ⟨e _ _ q.1, e _ _ q.2⟩) (fun q => ⟨e _ _ q.1, e _ _ q.2⟩), h4, h5, fun i u v p q => SameV.same e (h6 i u v p q)⟩
def spSame (K : PySem.W.Frag) (d : Nat) : Sp := fun vs H Q _ => ∃ x y : V, vs = [x, y] ∧ SameV K H d x y ∧ ∀ H', Same H H' → Q (.bl true) H'
def spNo : Sp := fun _ _ _ _ => False
section
variable {P : Program} {w : World} {K : PySem.W.Frag} {mg : Str → Option Value} {base : Heap}
theorem ok_no {k : Nat} {f : Addr} {fd : FuncData} {ps : List Str} : FnOk P w K mg base CX0 k f fd ps spNo := ⟨fun _ _ _ _ h => h.elim, fun _ _ _ _ _ _ _ _ _ _ _ _ _ h => h.elim⟩
theorem same_step (T : Top K mg) {k : Nat} {sp' : Sp} (F : FnOk P w K mg base CX0 k (He.fAd K ("_law_same", none)) (fdOf K ("_law_same", none)) ["_law_actual", "_law_due_here"] sp') {d : Nat} (hd : ∀ (e : Nat), d = e + 1 → sp' = spSame K e) :
    FnOk P w K mg base CX0 (k + 1) (He.fAd K ("_law_same", none)) (fdOf K ("_law_same", none)) ["_law_actual", "_law_due_here"] (spSame K d) := by
  refine fd_ok T.d__law_same sc__law_same (fun vs H Q E h => ?_) (fun cdv A outer s H vs Q E hr h => ?_)
  · obtain ⟨x, y, rfl, _⟩ := h
    rfl
  · obtain ⟨x, y, rfl, hS, kk⟩ := h
    have nd := sc__law_same.nd
    refine ⟨_, pss_cons (ps_if (pt_cmpR op_isN (pv 1) pe_non (nomark _)) (pss_one (ps_ret (pe_cmpR op_isN (pv 0) pe_non (nomark _)))) pss_nil)
      (pss_cons (ps_if (pt_val (pe_callB call_isi (by rfl) T.n_isinstance (by decide +kernel) (pa_cons (pv 1) (pa_cons (pe_bltn rfl T.n_bool (by decide +kernel) (v := .ty "bool") rfl) pa_nil))))
        (pss_one (ps_ret (pe_and (pe_callB call_isi (by rfl) T.n_isinstance (by decide +kernel) (pa_cons (pv 0) (pa_cons (pe_bltn rfl T.n_bool (by decide +kernel) (v := .ty "bool") rfl) pa_nil))) (pe_one (pe_cmpR op_eq (pv 0) (pv 1) (nomark _)))))) pss_nil)
      (pss_cons (ps_if (pt_val (pe_callB call_isi (by rfl) T.n_isinstance (by decide +kernel) (pa_cons (pv 1) (pa_cons (pe_bltn rfl T.n_int (by decide +kernel) (v := .ty "int") rfl) pa_nil))))
        (pss_one (ps_ret (pe_and (pe_callB call_isi (by rfl) T.n_isinstance (by decide +kernel) (pa_cons (pv 0) (pa_cons (pe_bltn rfl T.n_int (by decide +kernel) (v := .ty "int") rfl) pa_nil))) (pe_and (pe_not (pe_callB call_isi (by rfl) T.n_isinstance (by decide +kernel) (pa_cons (pv 0) (pa_cons (pe_bltn rfl T.n_bool (by decide +kernel) (v := .ty "bool") rfl) pa_nil)))) (pe_one (pe_cmpR op_eq (pv 0) (pv 1) (nomark _))))))) pss_nil)
      (pss_cons (ps_if (pt_val (pe_callB call_isi (by rfl) T.n_isinstance (by decide +kernel) (pa_cons (pv 1) (pa_cons (pe_bltn rfl T.n_str (by decide +kernel) (v := .ty "str") rfl) pa_nil))))
        (pss_one (ps_ret (pe_and (pe_callB call_isi (by rfl) T.n_isinstance (by decide +kernel) (pa_cons (pv 0) (pa_cons (pe_bltn rfl T.n_str (by decide +kernel) (v := .ty "str") rfl) pa_nil))) (pe_one (pe_cmpR op_eq (pv 0) (pv 1) (nomark _)))))) pss_nil)
      (pss_cons (ps_if (PW.pt (pw_and (pt_val (pe_callB call_isi (by rfl) T.n_isinstance (by decide +kernel) (pa_cons (pv 1) (pa_cons (pe_bltn rfl T.n_list (by decide +kernel) (v := .ty "list") rfl) pa_nil)))) (pw_and1 (pt_not (pt_val (pe_callB call_isi (by rfl) T.n_isinstance (by decide +kernel) (pa_cons (pv 0) (pa_cons (pe_bltn rfl T.n_list (by decide +kernel) (v := .ty "list") rfl) pa_nil)))))))) (pss_one (ps_ret pe_bl)) pss_nil)
      (pss_cons (ps_if (PW.pt (pw_and (pt_val (pe_callB call_isi (by rfl) T.n_isinstance (by decide +kernel) (pa_cons (pv 1) (pa_cons (pe_bltn rfl T.n_tuple (by decide +kernel) (v := .ty "tuple") rfl) pa_nil)))) (pw_and1 (pt_not (pt_val (pe_callB call_isi (by rfl) T.n_isinstance (by decide +kernel) (pa_cons (pv 0) (pa_cons (pe_bltn rfl T.n_tuple (by decide +kernel) (v := .ty "tuple") rfl) pa_nil)))))))) (pss_one (ps_ret pe_bl)) pss_nil)
      (pss_cons (ps_if (pt_cmpR op_ne (pe_callB call_len_seq (by rfl) T.n_len (by decide +kernel) (pa_cons (pv 0) pa_nil)) (pe_callB call_len_seq (by rfl) T.n_len (by decide +kernel) (pa_cons (pv 1) pa_nil)) (by rfl)) (pss_one (ps_ret pe_bl)) pss_nil)
      (pss_cons (ps_for PassesOwn.never rfl (pi_range1 rfl T.n_range (pa_cons (pe_callB call_len_seq (by rfl) T.n_len (by decide +kernel) (pa_cons (pv 1) pa_nil)) pa_nil)) (pg_name (i := 2) nd rfl (Or.inl rfl))
        (pss_one (ps_if (pt_not (pt_val (pe_call F hr rfl T.g__law_same T.d__law_same.kp (b__law_same T) .nil pass0 (pa_cons (pe_ix ix_seq (pv 0) (pv 2) (fun _ _ => rfl)) (pa_cons (pe_ix ix_seq (pv 1) (pv 2) (fun _ _ => rfl)) pa_nil))))) (pss_one (ps_ret pe_bl)) pss_nil)))
      (pss_one (ps_ret pe_bl))))))))), ?_⟩
    have at0 : ((∃ i, x = .int i ∧ y = .int i) ∨ ∃ s, x = .str s ∧ y = .str s) ∨ ∃ (e : Nat) (a b : Addr) (xs ys : List V), d = e + 1 ∧ x = .ref a ∧ y = .ref b ∧ ((H a = some (.lst xs) ∧ H b = some (.lst ys)) ∨ (H a = some (.tup xs) ∧ H b = some (.tup ys))) ∧ xs.length ≤ 1000000 ∧ xs.length = ys.length ∧ ∀ (i : Nat) (u v : V), xs[i]? = some u → ys[i]? = some v → SameV K H e u v := by
      cases d with
      | zero => exact .inl hS
      | succ e =>
        rcases hS with h | ⟨a, b, xs, ys, h⟩
        · exact .inl h
        · exact .inr ⟨e, a, b, xs, ys, rfl, h⟩
    have k0 := kk H (Same.refl _)
    rcases at0 with (⟨i, rfl, rfl⟩ | ⟨z, rfl, rfl⟩) | ⟨e, a, b, xs, ys, rfl, rfl, rfl, hab, hl, hlen, hel⟩
    · refine ⟨_, rfl, rfl, _, rfl, dF (fun z => by cases z) ?_⟩
      refine ⟨_, rfl, _, _, _, _, false, rfl, .ty "bool", .base (.int i), kit_ty (by decide +kernel), _, rfl, iteF ?_⟩
      refine ⟨_, rfl, _, _, _, _, true, rfl, .ty "int", .base (.int i), kit_ty (by decide +kernel), _, rfl, iteT ?_⟩
      have kq : Q (.bl (decide (V.int i = V.int i))) H := by rw [decide_eq_true rfl]; exact k0
      exact ⟨_, rfl, _, _, _, _, true, rfl, .ty "int", .base (.int i), kit_ty (by decide +kernel), _, rfl, iteT ⟨_, rfl, _, _, _, _, false, rfl, .ty "bool", .base (.int i), kit_ty (by decide +kernel), _, rfl, _, rfl, iteT ⟨_, rfl, _, rfl, rfl, kq⟩⟩⟩
    · refine ⟨_, rfl, rfl, _, rfl, dF (fun z => by cases z) ?_⟩
      refine ⟨_, rfl, _, _, _, _, false, rfl, .ty "bool", .base (.str z), kit_ty (by decide +kernel), _, rfl, iteF ?_⟩
      refine ⟨_, rfl, _, _, _, _, false, rfl, .ty "int", .base (.str z), kit_ty (by decide +kernel), _, rfl, iteF ?_⟩
      refine ⟨_, rfl, _, _, _, _, true, rfl, .ty "str", .base (.str z), kit_ty (by decide +kernel), _, rfl, iteT ?_⟩
      have kq : Q (.bl (decide (V.str z = V.str z))) H := by rw [decide_eq_true rfl]; exact k0
      exact ⟨_, rfl, _, _, _, _, true, rfl, .ty "str", .base (.str z), kit_ty (by decide +kernel), _, rfl, iteT ⟨_, rfl, _, rfl, rfl, kq⟩⟩
    · obtain rfl := hd e rfl
      rcases hab with ⟨ha, hb⟩ | ⟨ha, hb⟩
      · refine ⟨_, rfl, rfl, _, rfl, dF (fun z => by cases z) ?_⟩
        refine ⟨_, rfl, _, _, _, _, false, rfl, .ty "bool", .base (.lst hb), kit_ty (by decide +kernel), _, rfl, iteF ?_⟩
        refine ⟨_, rfl, _, _, _, _, false, rfl, .ty "int", .base (.lst hb), kit_ty (by decide +kernel), _, rfl, iteF ?_⟩
        refine ⟨_, rfl, _, _, _, _, false, rfl, .ty "str", .base (.lst hb), kit_ty (by decide +kernel), _, rfl, iteF ?_⟩
        refine ⟨_, rfl, _, _, _, _, true, rfl, .ty "list", .base (.lst hb), kit_ty (by decide +kernel), _, rfl, iteT ⟨_, rfl, _, _, _, _, true, rfl, .ty "list", .base (.lst ha), kit_ty (by decide +kernel), _, rfl, iteF ?_⟩⟩
        refine ⟨_, rfl, _, _, _, _, false, rfl, .ty "tuple", .base (.lst hb), kit_ty (by decide +kernel), _, rfl, iteF ?_⟩
        refine ⟨_, rfl, a, _, rfl, .inl (SqL.of ha), _, rfl, b, _, rfl, .inl (SqL.of hb), rfl, _, rfl, nF (by rw [hlen]) ?_⟩
        refine ⟨_, rfl, b, _, rfl, .inl (SqL.of hb), _, rfl, by omega, by omega, ?_⟩
        refine for_range (lo := 0) (n := (ys.length : Int).toNat) (fun i σ' H' => ∃ v2 : Option V, σ' = [some (.ref a), some (.ref b), v2] ∧ Same H H') ⟨none, rfl, Same.refl _⟩ ?_ ?_
        · rintro i σ' H1 hi ⟨v2, rfl, s1⟩
          rw [Int.toNat_natCast] at hi
          have e1 : xs[i]? = some xs[i] := List.getElem?_eq_getElem (by omega)
          have e2 : ys[i]? = some ys[i] := List.getElem?_eq_getElem hi
          exact ⟨_, rfl, _, rfl, .inl ⟨a, _, _, _, rfl, rfl, SqL.of (s1 _ _ ha), at_of (j := i) (by omega) e1, _, rfl, _, rfl, .inl ⟨b, _, _, _, rfl, rfl, SqL.of (s1 _ _ hb), at_of (j := i) (by omega) e2, _, _, rfl, (hel i _ _ e1 e2).same s1, fun H2 s2 => ⟨_, rfl, iteF ⟨_, rfl, s1.trans s2⟩⟩⟩⟩⟩
        · rintro σ' H1 ⟨v2, rfl, s1⟩
          exact kk H1 s1
      · refine ⟨_, rfl, rfl, _, rfl, dF (fun z => by cases z) ?_⟩
        refine ⟨_, rfl, _, _, _, _, false, rfl, .ty "bool", .base (.tup hb), kit_ty (by decide +kernel), _, rfl, iteF ?_⟩
        refine ⟨_, rfl, _, _, _, _, false, rfl, .ty "int", .base (.tup hb), kit_ty (by decide +kernel), _, rfl, iteF ?_⟩
        refine ⟨_, rfl, _, _, _, _, false, rfl, .ty "str", .base (.tup hb), kit_ty (by decide +kernel), _, rfl, iteF ?_⟩
        refine ⟨_, rfl, _, _, _, _, false, rfl, .ty "list", .base (.tup hb), kit_ty (by decide +kernel), _, rfl, iteF ?_⟩
        refine ⟨_, rfl, _, _, _, _, true, rfl, .ty "tuple", .base (.tup hb), kit_ty (by decide +kernel), _, rfl, iteT ⟨_, rfl, _, _, _, _, true, rfl, .ty "tuple", .base (.tup ha), kit_ty (by decide +kernel), _, rfl, iteF ?_⟩⟩
        refine ⟨_, rfl, a, _, rfl, .inr (SqT.of ha), _, rfl, b, _, rfl, .inr (SqT.of hb), rfl, _, rfl, nF (by rw [hlen]) ?_⟩
        refine ⟨_, rfl, b, _, rfl, .inr (SqT.of hb), _, rfl, by omega, by omega, ?_⟩
        refine for_range (lo := 0) (n := (ys.length : Int).toNat) (fun i σ' H' => ∃ v2 : Option V, σ' = [some (.ref a), some (.ref b), v2] ∧ Same H H') ⟨none, rfl, Same.refl _⟩ ?_ ?_
        · rintro i σ' H1 hi ⟨v2, rfl, s1⟩
          rw [Int.toNat_natCast] at hi
          have e1 : xs[i]? = some xs[i] := List.getElem?_eq_getElem (by omega)
          have e2 : ys[i]? = some ys[i] := List.getElem?_eq_getElem hi
          exact ⟨_, rfl, _, rfl, .inr (.inl ⟨a, _, _, _, rfl, rfl, SqT.of (s1 _ _ ha), at_of (j := i) (by omega) e1, _, rfl, _, rfl, .inr (.inl ⟨b, _, _, _, rfl, rfl, SqT.of (s1 _ _ hb), at_of (j := i) (by omega) e2, _, _, rfl, (hel i _ _ e1 e2).same s1, fun H2 s2 => ⟨_, rfl, iteF ⟨_, rfl, s1.trans s2⟩⟩⟩)⟩)⟩
        · rintro σ' H1 ⟨v2, rfl, s1⟩
          exact kk H1 s1
theorem ok_same (T : Top K mg) : FnOk P w K mg base CX0 3 (He.fAd K ("_law_same", none)) (fdOf K ("_law_same", none)) ["_law_actual", "_law_due_here"] (spSame K 2) :=
  same_step T (same_step T (same_step T (k := 0) ok_no (d := 0) fun e h => (nomatch h)) (d := 1) fun e h => by cases h; rfl) (d := 2) fun e h => by cases h; rfl
end
end Lk

set_option maxHeartbeats 4000000
/-! The law. -/
namespace Lk
open PySem PySem.Spec PyProof.Rows L2
def spLaw (K : PySem.W.Frag) : Sp := fun vs H Q _ => ∃ (a : Addr) (l : List Int), vs = [.ref a] ∧ SqL K H a (l.map V.int) ∧ l.length ≤ 63 ∧ ∀ H', Q (.bl true) H'
theorem go_len {P : List (List Int)} {m : Md} {cyc : Bool} : ∀ (k : Nat) (s : Sg) (dn o : List Nat), (go P m cyc k s dn o).2.1.length ≤ o.length + k
  | 0, s, dn, o => Nat.le_refl _
  | k + 1, s, dn, o => by
    show (match pick (rdy P s dn m) o cyc with
      | none => (true, o, s)
      | some i => go P m cyc k (s.app ((opAt P dn i).getD 0)) (adv dn i) (o ++ [i])).2.1.length ≤ _
    cases pick (rdy P s dn m) o cyc with
    | none => show o.length ≤ _; omega
    | some i =>
      have := go_len (P := P) (m := m) (cyc := cyc) k (s.app ((opAt P dn i).getD 0)) (adv dn i) (o ++ [i])
      rw [List.length_append] at this
      show (go P m cyc k (s.app ((opAt P dn i).getD 0)) (adv dn i) (o ++ [i])).2.1.length ≤ _
      have e : ([i] : List Nat).length = 1 := rfl
      omega
theorem told_of {n : Int} {ps : List (List Int)} {z t : Str} {o : List Nat} (h : dueOf n ps z t = .told o) : (0 ≤ n ∧ n ≤ 60) ∧ flt n [] ps 0 = none := by
  unfold dueOf at h
  split at h
  · rename_i c
    refine ⟨c, ?_⟩
    split at h
    · cases h
    · split at h
      · split at h
        · cases h
        · rename_i e; exact e
      · cases h
  · cases h
theorem due_same {K : PySem.W.Frag} {H : Hp} {a b : Addr} {d : Due} (h1 : DueAt H a d) (h2 : DueAt H b d) (hb : ∀ o, d = .stuck o ∨ d = .told o → o.length ≤ 1000000) : SameV K H 2 (.ref a) (.ref b) := by
  have two : ∀ (x : Str) (y : V), ((∃ i, y = .int i) ∨ ∃ s, y = .str s) → H a = some (.tup [.str x, y]) → H b = some (.tup [.str x, y]) → SameV K H 2 (.ref a) (.ref b) := fun x y hy e1 e2 =>
    .inr ⟨a, b, _, _, rfl, rfl, .inr ⟨e1, e2⟩, by show 2 ≤ _; decide, rfl, fun i u v p q => by
      rw [p] at q; cases q
      match i, p with
      | 0, p => cases p; exact .inl (.inr ⟨_, rfl, rfl⟩)
      | 1, p => cases p; exact .inl (hy.imp (fun ⟨i, e⟩ => ⟨i, e, e⟩) fun ⟨s, e⟩ => ⟨s, e, e⟩)⟩
  have lst : ∀ (x : Str) (l m : Addr) (o : List Nat), o.length ≤ 1000000 → H a = some (.tup [.str x, .ref l]) → H b = some (.tup [.str x, .ref m]) → H l = some (.lst (dV o)) → H m = some (.lst (dV o)) → SameV K H 2 (.ref a) (.ref b) := fun x l m o ho e1 e2 e3 e4 =>
    .inr ⟨a, b, _, _, rfl, rfl, .inr ⟨e1, e2⟩, by show 2 ≤ _; decide, rfl, fun i u v p q => by
      match i, p, q with
      | 0, p, q => cases p; cases q; exact .inl (.inr ⟨_, rfl, rfl⟩)
      | 1, p, q =>
        cases p; cases q
        exact .inr ⟨l, m, _, _, rfl, rfl, .inl ⟨e3, e4⟩, by rw [dV_len]; exact ho, rfl, fun j u v p q => by
          rw [p] at q; cases q
          obtain ⟨k, _, e⟩ := dV_get p
          exact .inl ⟨_, e, e⟩⟩⟩
  cases d with
  | size n => exact two _ _ (.inl ⟨_, rfl⟩) h1 h2
  | mode z => exact two _ _ (.inr ⟨_, rfl⟩) h1 h2
  | turn z => exact two _ _ (.inr ⟨_, rfl⟩) h1 h2
  | prog i j => exact .inr ⟨a, b, _, _, rfl, rfl, .inr ⟨h1, h2⟩, by show 3 ≤ _; decide, rfl, fun k u v p q => by
      rw [p] at q; cases q
      match k, p with
      | 0, p => cases p; exact .inl (.inr ⟨_, rfl, rfl⟩)
      | 1, p => cases p; exact .inl (.inl ⟨_, rfl, rfl⟩)
      | 2, p => cases p; exact .inl (.inl ⟨_, rfl, rfl⟩)⟩
  | stuck o =>
    obtain ⟨l, p1, p2⟩ := h1; obtain ⟨m, q1, q2⟩ := h2
    exact lst _ l m o (hb o (.inl rfl)) p1 q1 p2 q2
  | told o =>
    obtain ⟨l, p1, p2⟩ := h1; obtain ⟨m, q1, q2⟩ := h2
    exact lst _ l m o (hb o (.inr rfl)) p1 q1 p2 q2
section
variable {P : Program} {w : World} {K : PySem.W.Frag} {mg : Str → Option Value} {base : Heap}
theorem stuck_b (T : Top K mg) : ∃ ds, Vals [V.str "checked"] ds ∧ Binds K (fdOf K ("stuck_schedule", none)) ["size", "programs", "mode"] ds :=
  T.d_stuck_schedule.binds0 2 (by decide) rfl fun D doc pm an cdv ct us ks h1 h2 => match us, ks, h1, h2 with
    | [a, b], [x], _, _ => ⟨_, _, _, _, _, _, rfl, rfl, rfl⟩
theorem ok_law (T : TopA P K mg) : FnOk P w K mg base CX0 14 (He.fAd K ("law", none)) (fdOf K ("law", none)) ["_law_script"] (spLaw K) := by
  refine fd_ok T.d_law sc_law (fun vs H Q E h => ?_) (fun cdv A outer s H vs Q E hr h => ?_)
  · obtain ⟨a, l, rfl, _⟩ := h
    rfl
  · obtain ⟨a, l, rfl, hs, hl, k⟩ := h
    have nd := sc_law.nd
    have T0 := T.toTop
    have hr1 : Room 1 _ := hr.mono (by decide)
    have hr2 : Room 2 _ := hr.mono (by decide)
    have hr3 : Room 3 _ := hr.mono (by decide)
    have hr5 : Room 5 _ := hr.mono (by decide)
    obtain ⟨dS, vS, bS⟩ := stuck_b T0
    refine ⟨_, pss_cons (ps_set (i := 1) nd rfl (Or.inl rfl) (pe_call (ok_box T0) hr1 rfl T.g__law_box T.d__law_box.kp (b__law_box T0) .nil pass0 (pa_cons (pv 0) pa_nil)))
      (pss_cons (ps_set (i := 2) nd rfl (Or.inl rfl) (pe_call (ok_size T0) hr2 rfl T.g__law_size T.d__law_size.kp (b__law_size T0) .nil pass0 (pa_cons (pv 1) pa_nil)))
      (pss_cons (ps_set (i := 3) nd rfl (Or.inl rfl) (pe_cmpR op_eq (pe_call (ok_take T0) hr1 rfl T.g__law_take T.d__law_take.kp (b__law_take T0) .nil pass0 (pa_cons (pv 1) (pa_cons pe_int pa_nil))) pe_int (nomark _)))
      (pss_cons (ps_set (i := 4) nd rfl (Or.inl rfl) (pe_call (ok_take T0) hr1 rfl T.g__law_take T.d__law_take.kp (b__law_take T0) .nil pass0 (pa_cons (pv 1) (pa_cons pe_int pa_nil))))
      (Evl.pss_cut (ps_if (pt_cmpR op_eq (pe_call (ok_take T0) hr1 rfl T.g__law_take T.d__law_take.kp (b__law_take T0) .nil pass0 (pa_cons (pv 1) (pa_cons pe_int pa_nil))) pe_int (nomark _)) (pss_one (ps_set (i := 4) nd rfl (Or.inl rfl) (pe_op op_add pe_int (pe_call (ok_take T0) hr1 rfl T.g__law_take T.d__law_take.kp (b__law_take T0) .nil pass0 (pa_cons (pv 1) (pa_cons pe_int pa_nil)))))) pss_nil)
      (pss_cons (ps_set (i := 5) nd rfl (Or.inl rfl) (pe_call (ok_programs T0) hr3 rfl T.g__law_programs T.d__law_programs.kp (b__law_programs T0) .nil pass0 (pa_cons (pv 1) (pa_cons (pv 2) (pa_cons (pv 4) (pa_cons (pv 3) pa_nil))))))
      (Evl.pss_cut (ps_if (pt_cmpR op_eq (pe_call (ok_take T0) hr1 rfl T.g__law_take T.d__law_take.kp (b__law_take T0) .nil pass0 (pa_cons (pv 1) (pa_cons pe_int pa_nil))) pe_int (nomark _))
        (pss_one (ps_for PassesOwn.never rfl (pi_range1 rfl T.n_range (pa_cons (pe_op op_add pe_int (pe_call (ok_take T0) hr1 rfl T.g__law_take T.d__law_take.kp (b__law_take T0) .nil pass0 (pa_cons (pv 1) (pa_cons pe_int pa_nil)))) pa_nil)) (pg_name (i := 6) nd rfl (Or.inl rfl))
          (pss_one (ps_set (i := 5) nd rfl (Or.inl rfl) (pe_call (ok_bent T0) hr2 rfl T.g__law_bent T.d__law_bent.kp (b__law_bent T0) .nil pass0 (pa_cons (pv 1) (pa_cons (pv 2) (pa_cons (pv 5) pa_nil)))))))) pss_nil)
      (Evl.pss_cut (ps_if (pt_cmpR op_eq (pe_call (ok_take T0) hr1 rfl T.g__law_take T.d__law_take.kp (b__law_take T0) .nil pass0 (pa_cons (pv 1) (pa_cons pe_int pa_nil))) pe_int (nomark _)) (pss_one (ps_set (i := 2) nd rfl (Or.inl rfl) (pe_call (ok_far T0) hr2 rfl T.g__law_far_size T.d__law_far_size.kp (b__law_far_size T0) .nil pass0 (pa_cons (pv 1) pa_nil)))) pss_nil)
      (pss_cons (ps_set (i := 7) nd rfl (Or.inl rfl) (pe_lst (pa_cons pe_str (pa_cons pe_str (pa_cons pe_str (pa_cons pe_str (pa_cons pe_str (pa_cons pe_str pa_nil))))))))
      (Evl.pss_cut (ps_set (i := 8) nd rfl (Or.inl rfl) (pe_ix ix_list (pv 7) (pe_call (ok_take T0) hr1 rfl T.g__law_take T.d__law_take.kp (b__law_take T0) .nil pass0 (pa_cons (pv 1) (pa_cons pe_int pa_nil))) (fun _ _ => rfl)))
      (Evl.pss_cut (ps_if (pt_cmpR op_eq (pe_call (ok_take T0) hr1 rfl T.g__law_take T.d__law_take.kp (b__law_take T0) .nil pass0 (pa_cons (pv 1) (pa_cons pe_int pa_nil))) pe_int (nomark _)) (pss_one (ps_set (i := 8) nd rfl (Or.inl rfl) (pe_ix ix_list (pe_lst (pa_cons pe_str (pa_cons pe_str (pa_cons pe_str (pa_cons pe_str (pa_cons pe_str pa_nil)))))) (pe_call (ok_take T0) hr1 rfl T.g__law_take T.d__law_take.kp (b__law_take T0) .nil pass0 (pa_cons (pv 1) (pa_cons pe_int pa_nil))) (fun _ _ => rfl)))) pss_nil)
      (Evl.pss_cut (ps_set (i := 9) nd rfl (Or.inl rfl) (pe_ix ix_list (pe_lst (pa_cons pe_str (pa_cons pe_str pa_nil))) (pe_call (ok_take T0) hr1 rfl T.g__law_take T.d__law_take.kp (b__law_take T0) .nil pass0 (pa_cons (pv 1) (pa_cons pe_int pa_nil))) (fun _ _ => rfl)))
      (Evl.pss_cut (ps_if (pt_cmpR op_eq (pe_call (ok_take T0) hr1 rfl T.g__law_take T.d__law_take.kp (b__law_take T0) .nil pass0 (pa_cons (pv 1) (pa_cons pe_int pa_nil))) pe_int (nomark _)) (pss_one (ps_set (i := 9) nd rfl (Or.inl rfl) (pe_ix ix_list (pe_lst (pa_cons pe_str (pa_cons pe_str (pa_cons pe_str (pa_cons pe_str (pa_cons pe_str pa_nil)))))) (pe_call (ok_take T0) hr1 rfl T.g__law_take T.d__law_take.kp (b__law_take T0) .nil pass0 (pa_cons (pv 1) (pa_cons pe_int pa_nil))) (fun _ _ => rfl)))) pss_nil)
      (pss_cons (ps_set (i := 10) nd rfl (Or.inl rfl) (pe_call (ok_take T0) hr1 rfl T.g__law_take T.d__law_take.kp (b__law_take T0) .nil pass0 (pa_cons (pv 1) (pa_cons pe_int pa_nil))))
      (pss_cons (ps_set (i := 11) nd rfl (Or.inl rfl) (pe_call (ok_due T0) hr5 rfl T.g__law_due T.d__law_due.kp (b__law_due T0) .nil pass0 (pa_cons (pv 2) (pa_cons (pv 5) (pa_cons (pv 8) (pa_cons (pv 9) pa_nil))))))
      (pss_cons (ps_setLc (i := 12) (own := [("_law_row", 15)]) (g := gName 15) (tt := tYes) (te := tCB (fun xs H Q => ∃ p ys, xs = [V.ref p] ∧ (SqL K H p ys ∨ SqT K H p ys) ∧ ∀ l, H l = none → Q (.ref l) (upd H l (.lst ys))) (tCons (tVar 15) tNil)) rfl nd rfl rfl (sw_true rfl rfl rfl (by decide +kernel)) (pi_list (pv 5)) (blkOk_by (own := [("_law_row", 15)]) (N := ["_law_script", "_law_box_here", "_law_size_here", "_law_tidy", "_law_count", "_law_programs_here", "_law_k", "_law_names", "_law_name", "_law_way", "_law_plain", "_law_due_here", "_law_handed", "_law_again", "_law_told", "_law_row"]) (sc := defScope s_law) (by decide +kernel)) (fun _ _ _ _ _ => pg_name (i := 15) nd rfl (Or.inl rfl)) (fun _ _ _ _ _ => pts_nil) (fun _ _ _ _ _ => pe_callTy call_list_of (by rfl) T.n_list (by decide +kernel) (pa_cons (pv 15) pa_nil)))
      (pss_cons (ps_for PassesOwn.never rfl (pi_range1 rfl T.n_range (pa_cons pe_int pa_nil)) (pg_name (i := 13) nd rfl (Or.inl rfl))
        (pss_cons (ps_set (i := 14) nd rfl (Or.inl rfl) (pe_call (ok_ask T) hr rfl T.g__law_ask T.d__law_ask.kp (b__law_ask T0) .nil pass0 (pa_cons (pv 2) (pa_cons (pv 12) (pa_cons (pv 8) (pa_cons (pv 9) (pa_cons (pv 10) pa_nil)))))))
        (pss_cons (ps_if (PW.pt (pw_or (pt_cmpR (op_neD hr.units) (pv 12) (pv 5) (nomark _)) (pw_or1 (pt_not (pt_val (pe_call (ok_same T0) hr3 rfl T.g__law_same T.d__law_same.kp (b__law_same T0) .nil pass0 (pa_cons (pv 14) (pa_cons (pv 11) pa_nil)))))))) (pss_one (ps_ret pe_bl)) pss_nil)
        (pss_one (ps_if (pt_cmpR op_eq (pe_ix ix_tup (pv 11) pe_int (fun _ _ => rfl)) pe_str (nomark _)) (pss_one (ps_expr (pe_bm PySem.F.plainAttrs_list PySem.F.slot_list_append PySem.F.type_list_append mt_append (pe_ix ix_tup (pv 14) pe_int (fun _ _ => rfl)) (pa_cons pe_int pa_nil)))) pss_nil)))))
      (pss_cons (ps_if (PW.pt (pw_and (pt_cmpR op_eq (pe_ix ix_tup (pv 11) pe_int (fun _ _ => rfl)) pe_str (nomark _)) (pw_and (pt_val (pe_call (ok_stack T0) hr2 rfl T.g__law_stack T.d__law_stack.kp (b__law_stack T0) .nil pass0 (pa_cons (pv 5) pa_nil))) (pw_and1 (pt_cmpR op_le (pe_callB (cr_sum rfl) (by rfl) T.n_sum (by decide +kernel) (pa_cons (pe_lc (own := [("_law_row", 15)]) (g := gName 15) (tt := tYes) (te := tCB (fun xs H Q => ∃ p ys, xs = [V.ref p] ∧ (SqL K H p ys ∨ SqT K H p ys) ∧ Q (.int ys.length) H) (tCons (tVar 15) tNil)) rfl nd (pi_list (pv 5)) (blkOk_by (own := [("_law_row", 15)]) (N := ["_law_script", "_law_box_here", "_law_size_here", "_law_tidy", "_law_count", "_law_programs_here", "_law_k", "_law_names", "_law_name", "_law_way", "_law_plain", "_law_due_here", "_law_handed", "_law_again", "_law_told", "_law_row"]) (sc := defScope s_law) (by decide +kernel)) (fun _ _ _ _ _ => pg_name (i := 15) nd rfl (Or.inl rfl)) (fun _ _ _ _ _ => pts_nil) (fun _ _ _ _ _ => pe_callB call_len_seq (by rfl) T.n_len (by decide +kernel) (pa_cons (pv 15) pa_nil))) pa_nil)) pe_int (nomark _))))))
        (pss_one (ps_ret (pe_and (pe_cmpR op_isN (pe_call (ok_stuck T.toTopZ) hr rfl T.g_stuck_schedule T.d_stuck_schedule.kp bS vS pass0 (pa_cons (pv 2) (pa_cons (pv 12) pa_nil))) pe_non (nomark _)) (pe_one (pe_cmpR (op_eqD hr.units) (pv 12) (pv 5) (nomark _)))))) pss_nil)
      (pss_one (ps_ret pe_bl))))))))))))))))))), ?_⟩
    refine ⟨_, rfl, a, l, rfl, hs, hl, fun H1 bx cs s1 hbx hcs B1 => ?_⟩
    refine ⟨_, rfl, bx, cs, rfl, B1, fun H2 n0 n00 n01 B2 b2 => ?_⟩
    refine ⟨_, rfl, bx, cs, _, rfl, B2, by decide, by decide, fun H3 x3 _ _ B3 b3 => ⟨rfl, ?_⟩⟩
    refine ⟨_, rfl, bx, cs, _, rfl, B3, by decide, by decide, fun H4 c4 c40 c41 B4 b4 => ?_⟩
    obtain ⟨N, rfl⟩ : ∃ N : Nat, n0 = N := ⟨n0.toNat, by omega⟩
    generalize htd : decide (V.int x3 = V.int 1) = tidy
    refine ⟨fun σ' H' => ∃ c : Nat, c ≤ 14 ∧ σ' = [some (.ref a), some (.ref bx), some (.int (N : Nat)), some (.bl tidy), some (.int (c : Nat)), none, none, none, none, none, none, none, none, none, none, none] ∧ BxAt H' bx cs, ?_, ?_⟩
    · refine ⟨_, rfl, bx, cs, _, rfl, B4, by decide, by decide, fun H5 x5 _ _ B5 b5 => ⟨rfl, _, rfl, ?_⟩⟩
      by_cases c1 : V.int x5 = V.int 15
      · refine dT c1 ⟨_, rfl, bx, cs, _, rfl, B5, by decide, by decide, fun H6 x6 x60 x61 B6 b6 => ⟨_, _, rfl, rfl, (11 + x6).toNat, by omega, ?_, B6⟩⟩
        rw [show (((11 + x6).toNat : Nat) : Int) = 11 + x6 by omega]; rfl
      · refine dF c1 ⟨c4.toNat, by omega, ?_, B5⟩
        rw [show ((c4.toNat : Nat) : Int) = c4 by omega]; rfl
    rintro _ H5 ⟨c, hc, rfl, B5⟩
    refine ⟨_, rfl, _, rfl, _, rfl, _, rfl, bx, cs, N, c, tidy, rfl, B5, by omega, hc, fun H6 pl as ps hps1 hps2 B6 b6 PG6 => ?_⟩
    refine ⟨fun σ' H' => ∃ (pl : Addr) (as : List Addr) (ps : List (List Int)) (v6 : Option V), σ' = [some (.ref a), some (.ref bx), some (.int (N : Nat)), some (.bl tidy), some (.int (c : Nat)), some (.ref pl), v6, none, none, none, none, none, none, none, none, none] ∧ BxAt H' bx cs ∧ PgAt H' pl as ps ∧ ps.length ≤ 100 ∧ ∀ p ∈ ps, p.length ≤ 200, ?_, ?_⟩
    · refine ⟨_, rfl, bx, cs, _, rfl, B6, by decide, by decide, fun H7 x7 _ _ B7 b7 => ⟨rfl, _, rfl, ?_⟩⟩
      have PG7 := PG6.but B6 b7
      by_cases c1 : V.int x7 = V.int 7
      · refine dT c1 ⟨_, rfl, bx, cs, _, rfl, B7, by decide, by decide, fun H8 x8 x80 x81 B8 b8 => ⟨_, _, rfl, rfl, _, rfl, by omega, by omega, ?_⟩⟩
        obtain ⟨j, hj, hj2⟩ : ∃ j : Nat, (1 + x8).toNat = j ∧ j ≤ 2 := ⟨_, rfl, by omega⟩
        rw [hj]
        refine for_range (lo := 0) (n := j) (fun i σ' H' => ∃ (pl : Addr) (as : List Addr) (ps : List (List Int)) (v6 : Option V), σ' = [some (.ref a), some (.ref bx), some (.int (N : Nat)), some (.bl tidy), some (.int (c : Nat)), some (.ref pl), v6, none, none, none, none, none, none, none, none, none] ∧ BxAt H' bx cs ∧ PgAt H' pl as ps ∧ ps.length ≤ 15 * 2 ^ i - 1 ∧ ∀ p ∈ ps, p.length ≤ 33 * 2 ^ i - 1)
          ⟨pl, as, ps, none, rfl, B8, PG7.but B7 b8, hps1, hps2⟩ ?_ ?_
        · rintro i σ' H9 hi ⟨pl9, as9, ps9, v6, rfl, B9, PG9, h1, h2⟩
          have hi2 : i = 0 ∨ i = 1 := by omega
          refine ⟨_, rfl, _, rfl, _, rfl, bx, cs, pl9, N, 15 * 2 ^ i - 1, 33 * 2 ^ i - 1, as9, ps9, rfl, B9, by omega, PG9, by rcases hi2 with rfl | rfl <;> decide, by rcases hi2 with rfl | rfl <;> decide, h1, h2, fun H10 pl' as' ps' h3 h4 B10 b10 PG10 => ?_⟩
          refine ⟨pl', as', ps', _, rfl, B10, PG10, ?_, fun p hp => Nat.le_trans (h4 p hp) ?_⟩
          · rcases hi2 with rfl | rfl <;> exact h3
          · rcases hi2 with rfl | rfl <;> decide
        · rintro σ' H9 ⟨pl9, as9, ps9, v6, rfl, B9, PG9, h1, h2⟩
          have e1 : 15 * 2 ^ j - 1 ≤ 100 ∧ 33 * 2 ^ j - 1 ≤ 200 := by
            rcases (show j = 0 ∨ j = 1 ∨ j = 2 by omega) with rfl | rfl | rfl <;> decide
          exact ⟨pl9, as9, ps9, v6, rfl, B9, PG9, by omega, fun p hp => Nat.le_trans (h2 p hp) e1.2⟩
      · exact dF c1 ⟨pl, as, ps, none, rfl, B7, PG7, by omega, fun p hp => Nat.le_trans (hps2 p hp) (by decide)⟩
    rintro _ H7 ⟨pl7, as7, ps7, v6, rfl, B7, PG7, hl7, hm7⟩
    have FW : Few ps7 := ⟨by omega, fun p hp => Nat.le_trans (hm7 p hp) (by decide)⟩
    -- the size, perhaps far
    refine ⟨fun σ' H' => ∃ n : Int, σ' = [some (.ref a), some (.ref bx), some (.int n), some (.bl tidy), some (.int (c : Nat)), some (.ref pl7), v6, none, none, none, none, none, none, none, none, none] ∧ BxAt H' bx cs ∧ PgAt H' pl7 as7 ps7, ?_, ?_⟩
    · refine ⟨_, rfl, bx, cs, _, rfl, B7, by decide, by decide, fun H8 x8 _ _ B8 b8 => ⟨rfl, _, rfl, ?_⟩⟩
      have PG8 := PG7.but B7 b8
      by_cases c1 : V.int x8 = V.int 15
      · exact dT c1 ⟨_, rfl, bx, cs, rfl, B8, fun H9 r B9 b9 => ⟨r, rfl, B9, PG8.but B8 b9⟩⟩
      · exact dF c1 ⟨_, rfl, B8, PG8⟩
    rintro _ H8 ⟨n, rfl, B8, PG8⟩
    refine ⟨by show 6 ≤ sizeLine; decide, fun nm hnm => ?_⟩
    have sN : ∀ o, Same H8 (upd H8 nm o) := fun _ => Same.new hnm
    have B8' := B8.same (sN (.lst [.str "free", .str "saving", .str "guarded", .str "checked", .str "checked", .str "checked"]))
    have PG8' := PG8.same (sN (.lst [.str "free", .str "saving", .str "guarded", .str "checked", .str "checked", .str "checked"]))
    refine ⟨fun σ' H' => ∃ z : Str, σ' = [some (.ref a), some (.ref bx), some (.int n), some (.bl tidy), some (.int (c : Nat)), some (.ref pl7), v6, some (.ref nm), some (.str z), none, none, none, none, none, none, none] ∧ BxAt H' bx cs ∧ PgAt H' pl7 as7 ps7, ?_, ?_⟩
    · refine ⟨_, rfl, _, rfl, bx, cs, _, rfl, B8', by decide, by decide, fun H9 x9 x90 x91 B9 b9 => ?_⟩
      have en := b9 _ _ upd_same (B8.nf hnm).1.symm
      have PG9 := PG8'.but B8' b9
      rcases (show x9 = 0 ∨ x9 = 1 ∨ x9 = 2 ∨ x9 = 3 ∨ x9 = 4 ∨ x9 = 5 by omega) with rfl | rfl | rfl | rfl | rfl | rfl
      · exact ⟨nm, _, _, _, rfl, rfl, SqL.of en, atI_nat (j := 0) rfl, "free", rfl, B9, PG9⟩
      · exact ⟨nm, _, _, _, rfl, rfl, SqL.of en, atI_nat (j := 1) rfl, "saving", rfl, B9, PG9⟩
      · exact ⟨nm, _, _, _, rfl, rfl, SqL.of en, atI_nat (j := 2) rfl, "guarded", rfl, B9, PG9⟩
      · exact ⟨nm, _, _, _, rfl, rfl, SqL.of en, atI_nat (j := 3) rfl, "checked", rfl, B9, PG9⟩
      · exact ⟨nm, _, _, _, rfl, rfl, SqL.of en, atI_nat (j := 4) rfl, "checked", rfl, B9, PG9⟩
      · exact ⟨nm, _, _, _, rfl, rfl, SqL.of en, atI_nat (j := 5) rfl, "checked", rfl, B9, PG9⟩
    rintro _ H9 ⟨z, rfl, B9, PG9⟩
    have five : ∀ (G : Hp) (L : Addr) (s0 s1 s2 s3 s4 : Str) (x : Int), 0 ≤ x → x < 5 → G L = some (.lst [.str s0, .str s1, .str s2, .str s3, .str s4]) → ∀ Q' : VK, (∀ y : Str, Q' (.str y) G) → rIxL K (.ref L) (.int x) G Q' := fun G L s0 s1 s2 s3 s4 x h0 h1 e Q' q => by
      rcases (show x = 0 ∨ x = 1 ∨ x = 2 ∨ x = 3 ∨ x = 4 by omega) with rfl | rfl | rfl | rfl | rfl
      · exact ⟨L, _, _, _, rfl, rfl, SqL.of e, atI_nat (j := 0) rfl, q _⟩
      · exact ⟨L, _, _, _, rfl, rfl, SqL.of e, atI_nat (j := 1) rfl, q _⟩
      · exact ⟨L, _, _, _, rfl, rfl, SqL.of e, atI_nat (j := 2) rfl, q _⟩
      · exact ⟨L, _, _, _, rfl, rfl, SqL.of e, atI_nat (j := 3) rfl, q _⟩
      · exact ⟨L, _, _, _, rfl, rfl, SqL.of e, atI_nat (j := 4) rfl, q _⟩
    refine ⟨fun σ' H' => ∃ z : Str, σ' = [some (.ref a), some (.ref bx), some (.int n), some (.bl tidy), some (.int (c : Nat)), some (.ref pl7), v6, some (.ref nm), some (.str z), none, none, none, none, none, none, none] ∧ BxAt H' bx cs ∧ PgAt H' pl7 as7 ps7, ?_, ?_⟩
    · refine ⟨_, rfl, bx, cs, _, rfl, B9, by decide, by decide, fun H10 x _ _ B10 b10 => ⟨rfl, _, rfl, ?_⟩⟩
      have PG10 := PG9.but B9 b10
      by_cases c1 : V.int x = V.int 11
      · refine dT c1 ⟨by show 5 ≤ sizeLine; decide, fun L hL => ⟨_, rfl, bx, cs, _, rfl, B10.same (Same.new hL), by decide, by decide, fun H11 y y0 y1 B11 b11 => ?_⟩⟩
        refine five H11 L _ _ _ _ _ y y0 y1 (b11 _ _ upd_same (B10.nf hL).1.symm) _ fun r => ⟨r, rfl, B11, (PG10.same (Same.new hL)).but (B10.same (Same.new hL)) b11⟩
      · exact dF c1 ⟨z, rfl, B10, PG10⟩
    clear B9 PG9
    rintro _ H9 ⟨z, rfl, B9, PG9⟩
    refine ⟨fun σ' H' => ∃ t : Str, σ' = [some (.ref a), some (.ref bx), some (.int n), some (.bl tidy), some (.int (c : Nat)), some (.ref pl7), v6, some (.ref nm), some (.str z), some (.str t), none, none, none, none, none, none] ∧ BxAt H' bx cs ∧ PgAt H' pl7 as7 ps7, ?_, ?_⟩
    · refine ⟨by show 2 ≤ sizeLine; decide, fun L hL => ⟨_, rfl, bx, cs, _, rfl, B9.same (Same.new hL), by decide, by decide, fun H11 y y0 y1 B11 b11 => ?_⟩⟩
      have eL := b11 _ _ upd_same (B9.nf hL).1.symm
      have PG11 := (PG9.same (Same.new hL)).but (B9.same (Same.new hL)) b11
      rcases (show y = 0 ∨ y = 1 by omega) with rfl | rfl
      · exact ⟨L, _, _, _, rfl, rfl, SqL.of eL, atI_nat (j := 0) rfl, "first", rfl, B11, PG11⟩
      · exact ⟨L, _, _, _, rfl, rfl, SqL.of eL, atI_nat (j := 1) rfl, "round", rfl, B11, PG11⟩
    clear B9 PG9
    rintro _ H9 ⟨t, rfl, B9, PG9⟩
    refine ⟨fun σ' H' => ∃ t : Str, σ' = [some (.ref a), some (.ref bx), some (.int n), some (.bl tidy), some (.int (c : Nat)), some (.ref pl7), v6, some (.ref nm), some (.str z), some (.str t), none, none, none, none, none, none] ∧ BxAt H' bx cs ∧ PgAt H' pl7 as7 ps7, ?_, ?_⟩
    · refine ⟨_, rfl, bx, cs, _, rfl, B9, by decide, by decide, fun H10 x _ _ B10 b10 => ⟨rfl, _, rfl, ?_⟩⟩
      have PG10 := PG9.but B9 b10
      by_cases c1 : V.int x = V.int 11
      · refine dT c1 ⟨by show 5 ≤ sizeLine; decide, fun L hL => ⟨_, rfl, bx, cs, _, rfl, B10.same (Same.new hL), by decide, by decide, fun H11 y y0 y1 B11 b11 => ?_⟩⟩
        refine five H11 L _ _ _ _ _ y y0 y1 (b11 _ _ upd_same (B10.nf hL).1.symm) _ fun r => ⟨r, rfl, B11, (PG10.same (Same.new hL)).but (B10.same (Same.new hL)) b11⟩
      · exact dF c1 ⟨t, rfl, B10, PG10⟩
    clear B9 PG9
    rintro _ H9 ⟨t, rfl, B9, PG9⟩
    refine ⟨_, rfl, bx, cs, _, rfl, B9, by decide, by decide, fun H10 plain _ _ B10 b10 => ?_⟩
    have PG10 := PG9.but B9 b10
    refine ⟨_, rfl, _, rfl, _, rfl, _, rfl, n, pl7, as7, ps7, z, t, rfl, PG10, FW, fun H11 ad s11 DA => ?_⟩
    have PG11 := PG10.same s11
    refine ⟨_, rfl, pl7, rfl, ⟨_, SqL.of PG11.ob⟩, fun D hD => ?_⟩
    refine lc_list (K := K) (a := pl7) (xs := as7.map V.ref) (fun i H' => Same H11 H' ∧ ∃ as', PgAt H' D as' (ps7.take i)) ⟨Same.new hD, [], PgAt.nil upd_same⟩ (fun i H' _ h => SqL.of (h.1 _ _ PG11.ob)) ?_ ?_
    · rintro i x H' hx ⟨e, as', PD⟩
      obtain ⟨ra, hra, rfl⟩ := map_at hx
      obtain ⟨p, hp, hap⟩ := PG11.at_ i ra hra
      have hi := (List.getElem?_eq_some_iff.mp hp).1
      refine ⟨rfl, _, rfl, ra, _, rfl, .inl (SqL.of (e _ _ hap)), fun q hq => ⟨_, (PD.same (Same.new hq)).ob, ?_, ?_⟩⟩
      · rw [List.length_map, PD.len, List.length_take, sizeLine_eq]; omega
      · refine ⟨fun b o eb => by rw [upd_ne (ne_of_none eb hD), upd_ne (ne_of_none (e b o eb) hq)]; exact e b o eb, as' ++ [q], ?_⟩
        rw [take_snoc hp]
        exact (PD.same (Same.new hq)).push upd_same (ne_of_none PD.ob hq).symm
    rintro H12 ⟨s12, as', PD⟩
    rw [List.length_map, PG11.len, List.take_length] at PD
    have PG12 := PG11.same s12
    have DA12 := DA.same s12
    have hrun : ∀ m cyc, (run n.toNat ps7 m cyc).2.1.length ≤ 1000000 := fun m cyc => by
      have h1 := go_len (P := ps7) (m := m) (cyc := cyc) (ps7.map List.length).sum (Sg.whole n.toNat) (List.replicate ps7.length 0) []
      have h2 := few_sum FW
      have h3 : (go ps7 m cyc (ps7.map List.length).sum (Sg.whole n.toNat) (List.replicate ps7.length 0) []).2.1.length ≤ 0 + (ps7.map List.length).sum := h1
      show (go ps7 m cyc (ps7.map List.length).sum (Sg.whole n.toNat) (List.replicate ps7.length 0) []).2.1.length ≤ _
      omega
    have hlen : ∀ o, dueOf n ps7 z t = .stuck o ∨ dueOf n ps7 z t = .told o → o.length ≤ 1000000 := fun o h => by
      unfold dueOf at h
      split at h
      · split at h
        · rcases h with h | h <;> cases h
        · split at h
          · split at h
            · rcases h with h | h <;> cases h
            · split at h
              · rcases h with h | h
                · cases h; exact hrun _ _
                · cases h
              · rcases h with h | h
                · cases h
                · cases h; exact hrun _ _
          · rcases h with h | h <;> cases h
      · rcases h with h | h <;> cases h
    refine ⟨_, rfl, by decide, by decide, ?_⟩
    refine for_range (lo := 0) (n := (2 : Int).toNat) (fun i σ' H' => ∃ v13 v14 : Option V, σ' = [some (.ref a), some (.ref bx), some (.int n), some (.bl tidy), some (.int (c : Nat)), some (.ref pl7), v6, some (.ref nm), some (.str z), some (.str t), some (.int plain), some (.ref ad), some (.ref D), v13, v14, none] ∧ Same H12 H') ⟨none, none, rfl, Same.refl _⟩ ?_ ?_
    · rintro i σ' H13 hi ⟨v13, v14, rfl, s13⟩
      refine ⟨_, rfl, _, rfl, _, rfl, _, rfl, _, rfl, n, D, as', ps7, z, t, plain, rfl, PD.same s13, FW, fun H14 at14 s14 DA14 fr14 => ?_⟩
      have s124 := s13.trans s14
      refine ⟨_, rfl, _, rfl, pdL ps7, pdL ps7, (PD.same s124).dp, (PG12.same s124).dp, shL _, shL _, _, rfl, ?_⟩
      rw [eqL]
      refine nF rfl ⟨_, rfl, _, rfl, .ref at14, .ref ad, rfl, due_same DA14 (DA12.same s124) hlen, fun H15 s15 => ⟨_, rfl, iteF ?_⟩⟩
      have DAd := (DA12.same s124).same s15
      have DAt := DA14.same s15
      have s125 := s124.trans s15
      generalize dueOf n ps7 z t = dd at DAd DA14 hlen
      cases dd with
      | size i => exact ⟨_, rfl, ad, _, _, _, rfl, rfl, SqT.of DAd, atI_nat (j := 0) rfl, rfl, _, rfl, dF (by decide +kernel) ⟨_, _, rfl, s125⟩⟩
      | mode i => exact ⟨_, rfl, ad, _, _, _, rfl, rfl, SqT.of DAd, atI_nat (j := 0) rfl, rfl, _, rfl, dF (by decide +kernel) ⟨_, _, rfl, s125⟩⟩
      | turn i => exact ⟨_, rfl, ad, _, _, _, rfl, rfl, SqT.of DAd, atI_nat (j := 0) rfl, rfl, _, rfl, dF (by decide +kernel) ⟨_, _, rfl, s125⟩⟩
      | prog i j => exact ⟨_, rfl, ad, _, _, _, rfl, rfl, SqT.of DAd, atI_nat (j := 0) rfl, rfl, _, rfl, dF (by decide +kernel) ⟨_, _, rfl, s125⟩⟩
      | stuck o =>
        obtain ⟨l, e1, e2⟩ := DAd
        exact ⟨_, rfl, ad, _, _, _, rfl, rfl, SqT.of e1, atI_nat (j := 0) rfl, rfl, _, rfl, dF (by decide +kernel) ⟨_, _, rfl, s125⟩⟩
      | told o =>
        obtain ⟨l, e1, e2⟩ := DAd
        obtain ⟨l', f1, f2⟩ := DA14
        have fr := fr14 l' f1
        have hol := hlen o (.inr rfl)
        refine ⟨_, rfl, ad, _, _, _, rfl, rfl, SqT.of e1, atI_nat (j := 0) rfl, rfl, _, rfl, dT rfl ⟨_, rfl, at14, _, _, _, rfl, rfl, SqT.of (s15 _ _ f1), atI_nat (j := 1) rfl, .inl ⟨rfl, _, SqL.of (s15 _ _ f2)⟩, l', _, _, rfl, rfl, s15 _ _ f2, by rw [dV_len, sizeLine_eq]; omega, ?_⟩⟩
        exact ⟨_, _, rfl, fun b ob eb => by rw [upd_ne (ne_of_none (s13 _ _ eb) fr)]; exact s125 _ _ eb⟩
    · rintro σ' H13 ⟨v13, v14, rfl, s13⟩
      have DAd := DA12.same s13
      have PG13 := PG12.same s13
      have PD13 := PD.same s13
      cases hD : dueOf n ps7 z t with
      | size i => rw [hD] at DAd; exact ⟨_, rfl, ad, _, _, _, rfl, rfl, SqT.of DAd, atI_nat (j := 0) rfl, rfl, _, rfl, dF (by decide +kernel) (k _)⟩
      | mode i => rw [hD] at DAd; exact ⟨_, rfl, ad, _, _, _, rfl, rfl, SqT.of DAd, atI_nat (j := 0) rfl, rfl, _, rfl, dF (by decide +kernel) (k _)⟩
      | turn i => rw [hD] at DAd; exact ⟨_, rfl, ad, _, _, _, rfl, rfl, SqT.of DAd, atI_nat (j := 0) rfl, rfl, _, rfl, dF (by decide +kernel) (k _)⟩
      | prog i j => rw [hD] at DAd; exact ⟨_, rfl, ad, _, _, _, rfl, rfl, SqT.of DAd, atI_nat (j := 0) rfl, rfl, _, rfl, dF (by decide +kernel) (k _)⟩
      | stuck o =>
        rw [hD] at DAd
        obtain ⟨l, e1, e2⟩ := DAd
        exact ⟨_, rfl, ad, _, _, _, rfl, rfl, SqT.of e1, atI_nat (j := 0) rfl, rfl, _, rfl, dF (by decide +kernel) (k _)⟩
      | told o =>
        rw [hD] at DAd
        obtain ⟨l, e1, e2⟩ := DAd
        obtain ⟨cn, cf⟩ := told_of hD
        obtain ⟨M, rfl⟩ : ∃ M : Nat, n = M := ⟨n.toNat, by omega⟩
        have G : Lg M ps7 := (flt_none cf).1
        refine ⟨_, rfl, ad, _, _, _, rfl, rfl, SqT.of e1, atI_nat (j := 0) rfl, rfl, _, rfl, dT rfl ⟨_, rfl, pl7, as7, M, ps7, rfl, PG13, FW, G, fun H14 s14 => ⟨_, rfl, ?_⟩⟩⟩
        cases hst : stk ps7 with
        | false => exact iteF (k _)
        | true =>
          have PG14 := PG13.same s14
          refine iteT ⟨_, rfl, pl7, rfl, ⟨_, SqL.of PG14.ob⟩, fun E hE => ?_⟩
          refine lc_list (K := K) (a := pl7) (xs := as7.map V.ref) (fun i H' => Same H14 H' ∧ H' E = some (.lst (((ps7.take i).map fun p => (p.length : Int)).map V.int))) ⟨Same.new hE, upd_same⟩ (fun i H' _ h => SqL.of (h.1 _ _ PG14.ob)) ?_ ?_
          · rintro i x H' hx ⟨e, eD⟩
            obtain ⟨ra, ha, rfl⟩ := map_at hx
            obtain ⟨p, hp, hap⟩ := PG14.at_ i ra ha
            have hi := (List.getElem?_eq_some_iff.mp hp).1
            refine ⟨rfl, _, rfl, ra, _, rfl, .inl (SqL.of (e _ _ hap)), _, eD, ?_, fun b o eb => by rw [upd_ne (ne_of_none eb hE)]; exact e b o eb, ?_⟩
            · rw [List.length_map, List.length_map, List.length_take, sizeLine_eq]; omega
            · rw [upd_same, take_snoc hp, List.map_append, List.map_append, List.length_map]; rfl
          rintro H15 ⟨s15, eE⟩
          rw [List.length_map, PG14.len, List.take_length] at eE
          refine ⟨E, _, rfl, SqL.of eE, _, _, rfl, rfl, _, rfl, ?_⟩
          have esum : (ps7.map fun p => (p.length : Int)).sum = ((ps7.map List.length).sum : Nat) := by
            have : ∀ l : List (List Int), (l.map fun p => (p.length : Int)).sum = ((l.map List.length).sum : Nat) := fun l => by
              induction l with
              | nil => rfl
              | cons p r ih => rw [List.map_cons, List.sum_cons, List.map_cons, List.sum_cons, ih]; omega
            exact this ps7
          rw [esum]
          have s135 := s14.trans s15
          refine dite (((ps7.map List.length).sum : Nat) ≤ (8 : Int)) (fun c8 => dT c8 ?_) fun c8 => dF c8 (k _)
          refine ⟨_, rfl, _, rfl, M, D, as', ps7, rfl, by omega, PD13.same s135, FW, cf, by omega, fun p hp => List.all_eq_true.mp hst p hp, fun H16 s16 => ?_⟩
          have kq : Q (.bl (PyData.eqv (pdL ps7) (pdL ps7))) H16 := by rw [eqL, decide_eq_true rfl]; exact k _
          exact ⟨rfl, _, rfl, dT rfl ⟨_, rfl, _, rfl, pdL ps7, pdL ps7, (PD13.same (s135.trans s16)).dp, (PG13.same (s135.trans s16)).dp, shL _, shL _, kq⟩⟩
end
end Lk

set_option maxHeartbeats 0
/-! What the top leaves, as one look; the run of the top. -/
namespace Lk
open PySem PySem.Spec PyProof.Rows L2
open PySem.W (ks_superIn)
/-! ### a part of the heap, level by level -/
def refsH (o : Obj) : List Addr := match o.data with
  | .dict es _ => es.toList.flatMap fun e => He.refV e.val
  | .func fd => He.refV fd.code ++ (He.refV fd.kwdefaults ++ fd.closure.map (·.2))
  | .cls cd => [cd.ns]
  | .fields vs => (match o.cls with
    | .type t => (match decide (t = "staticmethod") with
      | true => vs.toList.flatMap He.refV
      | false => [])
    | _ => [])
  | _ => []
def lvl (g : Addr → Option Obj) (as : List Addr) : List Addr := as.flatMap fun a => match g a with
  | some o => refsH o
  | none => []
def lvls (g : Addr → Option Obj) : Nat → List Addr → List Addr
  | 0, as => as
  | n + 1, as => as ++ lvls g n (lvl g as)
def asH (g : Addr → Option Obj) (n : Nat) : List Addr := lvls g n [mainGlobals, cStatics]
/-! ### looks -/
def oexB (K : PySem.W.Frag) (C : Addr) : Bool := (match K.lookup C with
  | some ⟨.type t, _, .cls cd, sl⟩ => decide (t = "type") && (match cd.mro, sl.toList with
    | .ref C' :: bm, [_, _, _, _, some (.builtin n), _] => decide (C' = C) && (decide (n = "ValueError.__new__") && (!cd.hasDel && (cd.hasDict && PySem.HandSPX.refsVE bm)))
    | _, _ => false)
  | _ => false) && (He.eqO (PySem.W.findIn K (.ref C) "__setattr__") (some (some (.builtin "object.__setattr__"))) && (decide (PySem.W.subIn K (.ref C) (.type "BaseException") = some true) && (decide (PySem.W.typeIn K (.ref C) = some (.type "type")) && PySem.W.keepIn K (.ref C))))
def excB (K : PySem.W.Frag) (D : Addr) : Bool := He.eqO (PySem.W.findIn K (.ref D) "__getattribute__") (some (some (.builtin "BaseException.__getattribute__"))) && (He.eqO (PySem.W.findIn K (.ref D) "__getattr__") (some none) &&
  (decide (PySem.W.subIn K (.ref D) (.type "BaseException") = some true) && (PySem.W.hasDictIn K D && (He.eqO (PySem.W.findIn K (.ref D) "__class__") (some (some (.builtin "object.__class__"))) &&
  (He.eqO (PySem.W.specialIn K (.builtin "object.__class__") "__get__") (some (some (.builtin "getset_descriptor.__get__"))) && (decide (PySem.W.takesIn K (.builtin "object.__class__") = some true) && decide (PySem.W.mroIn K D (.type "object") = some true)))))))
abbrev eBase : Str := "thirdparty.any"
/-- a def that closes over __class__ -/
def supB (K : PySem.W.Frag) (p : Str × Option Str) (q D : Str) : Bool := PySem.W.keepIn K (.ref (He.fAd K p)) && (PySem.W.codeIn K (fdOf K p).code q && ((match K.lookup (cdAd K p) with
    | some ⟨_, _, .fields vs, _⟩ => (match vs.toList with
      | _ :: _ :: .str f _ :: _ => decide (f = "/claim/cut.py")
      | _ => false)
    | _ => false) && ((match K.lookup (ccAd K p) with
    | some ⟨_, _, .cell (some (.ref d)), _⟩ => decide (d = He.ga K D)
    | _ => false) && ((PySem.W.clsIn K (He.ga K D)).isSome && He.eqO (PySem.W.nsIn K cStatics eBase) (some none)))))
/-- an own error with an __init__ -/
def errB (K : PySem.W.Frag) (x : Str) : Bool := oexB K (He.ga K x) && (He.eqO (PySem.W.findIn K (.ref (He.ga K x)) "__init__") (some (some (.ref (He.fAd K (x, some "__init__"))))) && (decide (PySem.W.typeIn K (.ref (He.fAd K (x, some "__init__"))) = some (.type "function")) &&
  (decide (PySem.W.mroIn K (He.ga K x) (.ref (He.ga K x)) = some true) && (He.eqO (ks_superIn K (He.ga K x) (He.ga K x) "__init__") (some (some (.builtin "ValueError.__init__"))) && decide (PySem.W.subIn K (.ref (He.ga K x)) (.type "ValueError") = some true)))))
def stAt (K : PySem.W.Frag) : Addr := He.ma K (He.ga K "Links") "built"
def stFn (K : PySem.W.Frag) : Addr := match PySem.W.recIn K (stAt K) "staticmethod" with
  | some (.ref g :: _) => g
  | _ => 0
def stB (K : PySem.W.Frag) : Bool := (match PySem.W.findCls K (.ref (He.ga K "Links")) (.type "type") "built" with
    | some (.get (.builtin i) (.ref p) .none (.ref c)) => decide (i = "staticmethod.__get__") && (decide (p = stAt K) && decide (c = He.ga K "Links"))
    | _ => false) && ((match PySem.W.recIn K (stAt K) "staticmethod" with
    | some (.ref g :: _) => true
    | _ => false) && (PySem.W.keepIn K (.ref (stFn K)) && (match K.lookup (stFn K) with
    | some ⟨_, _, .func fd, _⟩ => PySem.W.codeIn K fd.code "Links.built" && (He.dflB K fd.defaults [] && He.kwdB K fd.kwdefaults [])
    | _ => false)))
def crdB (K : PySem.W.Frag) (C : Addr) : Bool := PySem.W.readsIn K C (.type "type") && He.eqO (PySem.W.specialIn K (.ref C) "__getattribute__") (some (some (.builtin "type.__getattribute__")))
def mk0B (K : PySem.W.Frag) (C : Addr) : Bool := PySem.W.makesIn K C && (He.eqO (PySem.W.findIn K (.ref C) "__init__") (some (some (.builtin "object.__init__"))) && (PySem.W.keepIn K (.ref C) && decide (PySem.W.mroIn K C (.type "object") = some true)))
def nmB (K : PySem.W.Frag) (m : Md) : Bool := match PySem.W.findCls K (.ref (mdC K m)) (.type "type") "NAME" with
  | some (.val u) => He.relB (.str (mdS m)) u
  | _ => false
def suB (K : PySem.W.Frag) (a b : Md) (m : Md) : Bool := decide (PySem.W.mroIn K (mdC K m) (.ref (mdC K a)) = some true) && He.eqO (ks_superIn K (mdC K m) (mdC K a) "refusal") (some (some (.ref (fRef K b))))
def tyB (K : PySem.W.Frag) (m : Md) : Bool := decide (PySem.W.typeIn K (.ref (fRef K m)) = some (.type "function")) && PySem.W.fnIn K (fRef K m)
def errsH : List Str := ["BadSize", "BadMode", "BadTurn", "BadProgram", "Stuck"]
def askedH : List Str := ["BadSize", "BadMode", "BadTurn", "BadProgram", "Stuck", "LogError", "BadSchedule", "TooMany", "Unsafe"]
def askB (K : PySem.W.Frag) (e : Str) : Bool := excB K (He.ga K e) && (decide (PySem.W.exmOne K (.ref (He.ga K e)) (.ref (He.ga K "LinkError")) = some true) && (decide (PySem.W.kitOne K (.ref (He.ga K e)) (.type "ValueError") = some true) &&
  askedH.all fun c => decide (PySem.W.kitOne K (.ref (He.ga K e)) (.ref (He.ga K c)) = some (decide (e = c)))))
def mdsH : List Md := [.free, .saving, .guarded, .checked]
abbrev FnC : Type := Option (Str × Str × Arguments × FuncBody × Scope × Addr × List Str × Value × Addr)
def fnC (K : PySem.W.Frag) (p : Str × Option Str) : FnC := match K.lookup (He.fAd K p) with
  | some ⟨_, _, .func fd, _⟩ => some (fd.name, fd.qualname, fd.params, fd.body, fd.scope, fd.globals, fd.closure.map (·.1), fd.defaults, fd.builtins)
  | _ => none
/-- a def that closes over __class__: where it stands, its class, name, qualified name, parameters, body, scope -/
structure ClD where
  at_ : Str × Option Str
  own : Str
  name : Str
  qual : Str
  params : Arguments
  body : List Stmt
  scope : Scope
def ClD.val (d : ClD) : FnC := some (d.name, d.qual, d.params, .stmts d.body, d.scope, mainGlobals, ["__class__"], .none, builtinsNs)
abbrev FnS : Type := Option (Addr × Addr × List (Str × Addr) × Str × Str × Arguments × Scope × FuncBody)
/-- the def behind the static method: its globals, builtins, closure, names, parameters, scope, body -/
def fnS (K : PySem.W.Frag) : FnS := match K.lookup (stFn K) with
  | some ⟨_, _, .func g, _⟩ => some (g.globals, g.builtins, g.closure, g.name, g.qualname, g.params, g.scope, g.body)
  | _ => none
def valS : FnS := some (mainGlobals, builtinsNs, [], "built", "Links.built", defArgs s_Links_built, defScope s_Links_built, .stmts (defBody s_Links_built))
def D_check_size : He.DefD := ⟨("check_size", none), "check_size", "check_size", defArgs s_check_size, defBody s_check_size, defScope s_check_size, [], []⟩
def D_check_operation : He.DefD := ⟨("check_operation", none), "check_operation", "check_operation", defArgs s_check_operation, defBody s_check_operation, defScope s_check_operation, [], []⟩
def D_Links___init__ : He.DefD := ⟨("Links", some "__init__"), "__init__", "Links.__init__", defArgs s_Links___init__, defBody s_Links___init__, defScope s_Links___init__, [], []⟩
def D_Links_left : He.DefD := ⟨("Links", some "left"), "left", "Links.left", defArgs s_Links_left, defBody s_Links_left, defScope s_Links_left, [], []⟩
def D_Links_right : He.DefD := ⟨("Links", some "right"), "right", "Links.right", defArgs s_Links_right, defBody s_Links_right, defScope s_Links_right, [], []⟩
def D_Links_is_out : He.DefD := ⟨("Links", some "is_out"), "is_out", "Links.is_out", defArgs s_Links_is_out, defBody s_Links_is_out, defScope s_Links_is_out, [], []⟩
def D_Links_operation_on : He.DefD := ⟨("Links", some "operation_on"), "operation_on", "Links.operation_on", defArgs s_Links_operation_on, defBody s_Links_operation_on, defScope s_Links_operation_on, [], []⟩
def D_Links_apply : He.DefD := ⟨("Links", some "apply"), "apply", "Links.apply", defArgs s_Links_apply, defBody s_Links_apply, defScope s_Links_apply, [], []⟩
def D_Links_apply_at : He.DefD := ⟨("Links", some "apply_at"), "apply_at", "Links.apply_at", defArgs s_Links_apply_at, defBody s_Links_apply_at, defScope s_Links_apply_at, [], []⟩
def D_Links_copy : He.DefD := ⟨("Links", some "copy"), "copy", "Links.copy", defArgs s_Links_copy, defBody s_Links_copy, defScope s_Links_copy, [], []⟩
def D_Links_dump : He.DefD := ⟨("Links", some "dump"), "dump", "Links.dump", defArgs s_Links_dump, defBody s_Links_dump, defScope s_Links_dump, [], []⟩
def D_Links__dump_parts : He.DefD := ⟨("Links", some "_dump_parts"), "_dump_parts", "Links._dump_parts", defArgs s_Links__dump_parts, defBody s_Links__dump_parts, defScope s_Links__dump_parts, [], []⟩
def D_left_holds : He.DefD := ⟨("left_holds", none), "left_holds", "left_holds", defArgs s_left_holds, defBody s_left_holds, defScope s_left_holds, [], []⟩
def D_right_holds : He.DefD := ⟨("right_holds", none), "right_holds", "right_holds", defArgs s_right_holds, defBody s_right_holds, defScope s_right_holds, [], []⟩
def D_foreign_writes : He.DefD := ⟨("foreign_writes", none), "foreign_writes", "foreign_writes", defArgs s_foreign_writes, defBody s_foreign_writes, defScope s_foreign_writes, [], []⟩
def D_check_mode : He.DefD := ⟨("check_mode", none), "check_mode", "check_mode", defArgs s_check_mode, defBody s_check_mode, defScope s_check_mode, [], []⟩
def D__check_legal : He.DefD := ⟨("_check_legal", none), "_check_legal", "_check_legal", defArgs s__check_legal, defBody s__check_legal, defScope s__check_legal, [], []⟩
def D__last_holders : He.DefD := ⟨("_last_holders", none), "_last_holders", "_last_holders", defArgs s__last_holders, defBody s__last_holders, defScope s__last_holders, [], []⟩
def D__loses_gap : He.DefD := ⟨("_loses_gap", none), "_loses_gap", "_loses_gap", defArgs s__loses_gap, defBody s__loses_gap, defScope s__loses_gap, [], []⟩
def D__leaves_sole_holder : He.DefD := ⟨("_leaves_sole_holder", none), "_leaves_sole_holder", "_leaves_sole_holder", defArgs s__leaves_sole_holder, defBody s__leaves_sole_holder, defScope s__leaves_sole_holder, [], []⟩
def D__is_local : He.DefD := ⟨("_is_local", none), "_is_local", "_is_local", defArgs s__is_local, defBody s__is_local, defScope s__is_local, [], []⟩
def D_FreeMode_refusal : He.DefD := ⟨("FreeMode", some "refusal"), "refusal", "FreeMode.refusal", defArgs s_FreeMode_refusal, defBody s_FreeMode_refusal, defScope s_FreeMode_refusal, [], []⟩
def D_mode_named : He.DefD := ⟨("mode_named", none), "mode_named", "mode_named", defArgs s_mode_named, defBody s_mode_named, defScope s_mode_named, [], []⟩
def D_refuser : He.DefD := ⟨("refuser", none), "refuser", "refuser", defArgs s_refuser, defBody s_refuser, defScope s_refuser, [], []⟩
def D_check_programs : He.DefD := ⟨("check_programs", none), "check_programs", "check_programs", defArgs s_check_programs, defBody s_check_programs, defScope s_check_programs, [], []⟩
def D_first_wrong : He.DefD := ⟨("first_wrong", none), "first_wrong", "first_wrong", defArgs s_first_wrong, defBody s_first_wrong, defScope s_first_wrong, [], []⟩
def D_check_room : He.DefD := ⟨("check_room", none), "check_room", "check_room", defArgs s_check_room, defBody s_check_room, defScope s_check_room, [], []⟩
def D_has_ended : He.DefD := ⟨("has_ended", none), "has_ended", "has_ended", defArgs s_has_ended, defBody s_has_ended, defScope s_has_ended, [], []⟩
def D_next_operation : He.DefD := ⟨("next_operation", none), "next_operation", "next_operation", defArgs s_next_operation, defBody s_next_operation, defScope s_next_operation, [], []⟩
def D_unfinished : He.DefD := ⟨("unfinished", none), "unfinished", "unfinished", defArgs s_unfinished, defBody s_unfinished, defScope s_unfinished, [], []⟩
def D_ready_sessions : He.DefD := ⟨("ready_sessions", none), "ready_sessions", "ready_sessions", defArgs s_ready_sessions, defBody s_ready_sessions, defScope s_ready_sessions, [], []⟩
def D_later_layer : He.DefD := ⟨("later_layer", none), "later_layer", "later_layer", defArgs s_later_layer, defBody s_later_layer, defScope s_later_layer, [], []⟩
def D_moment_after : He.DefD := ⟨("moment_after", none), "moment_after", "moment_after", defArgs s_moment_after, defBody s_moment_after, defScope s_moment_after, [], []⟩
def D_advanced : He.DefD := ⟨("advanced", none), "advanced", "advanced", defArgs s_advanced, defBody s_advanced, defScope s_advanced, [], []⟩
def D_stuck_schedule : He.DefD := ⟨("stuck_schedule", none), "stuck_schedule", "stuck_schedule", defArgs s_stuck_schedule, defBody s_stuck_schedule, defScope s_stuck_schedule, [], [("mode", .str "checked")]⟩
def D_check_waiting : He.DefD := ⟨("check_waiting", none), "check_waiting", "check_waiting", defArgs s_check_waiting, defBody s_check_waiting, defScope s_check_waiting, [], []⟩
def D_run : He.DefD := ⟨("run", none), "run", "run", defArgs s_run, defBody s_run, defScope s_run, [], [("mode", .str "checked"), ("turn", .str "first")]⟩
def D_chosen : He.DefD := ⟨("chosen", none), "chosen", "chosen", defArgs s_chosen, defBody s_chosen, defScope s_chosen, [], []⟩
def D__law_box : He.DefD := ⟨("_law_box", none), "_law_box", "_law_box", defArgs s__law_box, defBody s__law_box, defScope s__law_box, [], []⟩
def D__law_take : He.DefD := ⟨("_law_take", none), "_law_take", "_law_take", defArgs s__law_take, defBody s__law_take, defScope s__law_take, [], []⟩
def D__law_size : He.DefD := ⟨("_law_size", none), "_law_size", "_law_size", defArgs s__law_size, defBody s__law_size, defScope s__law_size, [], []⟩
def D__law_far_size : He.DefD := ⟨("_law_far_size", none), "_law_far_size", "_law_far_size", defArgs s__law_far_size, defBody s__law_far_size, defScope s__law_far_size, [], []⟩
def D__law_program : He.DefD := ⟨("_law_program", none), "_law_program", "_law_program", defArgs s__law_program, defBody s__law_program, defScope s__law_program, [], []⟩
def D__law_bent : He.DefD := ⟨("_law_bent", none), "_law_bent", "_law_bent", defArgs s__law_bent, defBody s__law_bent, defScope s__law_bent, [], []⟩
def D__law_fault : He.DefD := ⟨("_law_fault", none), "_law_fault", "_law_fault", defArgs s__law_fault, defBody s__law_fault, defScope s__law_fault, [], []⟩
def D__law_programs : He.DefD := ⟨("_law_programs", none), "_law_programs", "_law_programs", defArgs s__law_programs, defBody s__law_programs, defScope s__law_programs, [], []⟩
def D__law_start : He.DefD := ⟨("_law_start", none), "_law_start", "_law_start", defArgs s__law_start, defBody s__law_start, defScope s__law_start, [], []⟩
def D__law_after : He.DefD := ⟨("_law_after", none), "_law_after", "_law_after", defArgs s__law_after, defBody s__law_after, defScope s__law_after, [], []⟩
def D__law_refused : He.DefD := ⟨("_law_refused", none), "_law_refused", "_law_refused", defArgs s__law_refused, defBody s__law_refused, defScope s__law_refused, [], []⟩
def D__law_nested : He.DefD := ⟨("_law_nested", none), "_law_nested", "_law_nested", defArgs s__law_nested, defBody s__law_nested, defScope s__law_nested, [], []⟩
def D__law_stack : He.DefD := ⟨("_law_stack", none), "_law_stack", "_law_stack", defArgs s__law_stack, defBody s__law_stack, defScope s__law_stack, [], []⟩
def D__law_taker : He.DefD := ⟨("_law_taker", none), "_law_taker", "_law_taker", defArgs s__law_taker, defBody s__law_taker, defScope s__law_taker, [], []⟩
def D__law_steps : He.DefD := ⟨("_law_steps", none), "_law_steps", "_law_steps", defArgs s__law_steps, defBody s__law_steps, defScope s__law_steps, [], []⟩
def D__law_due : He.DefD := ⟨("_law_due", none), "_law_due", "_law_due", defArgs s__law_due, defBody s__law_due, defScope s__law_due, [], []⟩
def D__law_call : He.DefD := ⟨("_law_call", none), "_law_call", "_law_call", defArgs s__law_call, defBody s__law_call, defScope s__law_call, [], []⟩
def D__law_ask : He.DefD := ⟨("_law_ask", none), "_law_ask", "_law_ask", defArgs s__law_ask, defBody s__law_ask, defScope s__law_ask, [], []⟩
def D__law_same : He.DefD := ⟨("_law_same", none), "_law_same", "_law_same", defArgs s__law_same, defBody s__law_same, defScope s__law_same, [], []⟩
def D_law : He.DefD := ⟨("law", none), "law", "law", defArgs s_law, defBody s_law, defScope s_law, [], []⟩
def D_reached_moments : He.DefD := ⟨("reached_moments", none), "reached_moments", "reached_moments", defArgs s_reached_moments, defBody s_reached_moments, defScope s_reached_moments, [], []⟩
def D_BadSize___init__ : ClD := ⟨("BadSize", some "__init__"), "BadSize", "__init__", "BadSize.__init__", defArgs s_BadSize___init__, defBody s_BadSize___init__, defScope s_BadSize___init__⟩
def D_BadMode___init__ : ClD := ⟨("BadMode", some "__init__"), "BadMode", "__init__", "BadMode.__init__", defArgs s_BadMode___init__, defBody s_BadMode___init__, defScope s_BadMode___init__⟩
def D_BadProgram___init__ : ClD := ⟨("BadProgram", some "__init__"), "BadProgram", "__init__", "BadProgram.__init__", defArgs s_BadProgram___init__, defBody s_BadProgram___init__, defScope s_BadProgram___init__⟩
def D_BadTurn___init__ : ClD := ⟨("BadTurn", some "__init__"), "BadTurn", "__init__", "BadTurn.__init__", defArgs s_BadTurn___init__, defBody s_BadTurn___init__, defScope s_BadTurn___init__⟩
def D_Stuck___init__ : ClD := ⟨("Stuck", some "__init__"), "Stuck", "__init__", "Stuck.__init__", defArgs s_Stuck___init__, defBody s_Stuck___init__, defScope s_Stuck___init__⟩
def D_SavingMode_refusal : ClD := ⟨("SavingMode", some "refusal"), "SavingMode", "refusal", "SavingMode.refusal", defArgs s_SavingMode_refusal, defBody s_SavingMode_refusal, defScope s_SavingMode_refusal⟩
def D_GuardedMode_refusal : ClD := ⟨("GuardedMode", some "refusal"), "GuardedMode", "refusal", "GuardedMode.refusal", defArgs s_GuardedMode_refusal, defBody s_GuardedMode_refusal, defScope s_GuardedMode_refusal⟩
def D_CheckedMode_refusal : ClD := ⟨("CheckedMode", some "refusal"), "CheckedMode", "refusal", "CheckedMode.refusal", defArgs s_CheckedMode_refusal, defBody s_CheckedMode_refusal, defScope s_CheckedMode_refusal⟩
def fn0 : List He.DefD := [D_check_size, D_check_operation, D_Links___init__, D_Links_left, D_Links_right, D_Links_is_out, D_Links_operation_on, D_Links_apply, D_Links_apply_at, D_Links_copy, D_Links_dump, D_Links__dump_parts, D_left_holds, D_right_holds, D_foreign_writes, D_check_mode]
def fn1 : List He.DefD := [D__check_legal, D__last_holders, D__loses_gap, D__leaves_sole_holder, D__is_local, D_FreeMode_refusal, D_mode_named, D_refuser, D_check_programs, D_first_wrong, D_check_room, D_has_ended, D_next_operation, D_unfinished, D_ready_sessions, D_later_layer]
def fn2 : List He.DefD := [D_moment_after, D_advanced, D_stuck_schedule, D_check_waiting, D_run, D_chosen, D__law_box, D__law_take, D__law_size, D__law_far_size, D__law_program, D__law_bent, D__law_fault, D__law_programs, D__law_start, D__law_after]
def fn3 : List He.DefD := [D__law_refused, D__law_nested, D__law_stack, D__law_taker, D__law_steps, D__law_due, D__law_call, D__law_ask, D__law_same, D_law, D_reached_moments]
def fnH : List He.DefD := fn0 ++ (fn1 ++ (fn2 ++ (fn3)))
def clH : List ClD := [D_BadSize___init__, D_BadMode___init__, D_BadProgram___init__, D_BadTurn___init__, D_Stuck___init__, D_SavingMode_refusal, D_GuardedMode_refusal, D_CheckedMode_refusal]
def fa0 : List He.Fa := [.glo "check_size", .glo "check_operation", .glo "left_holds", .glo "right_holds", .glo "foreign_writes", .glo "check_mode", .glo "_check_legal", .glo "_last_holders", .glo "_loses_gap", .glo "_leaves_sole_holder", .glo "_is_local", .glo "mode_named", .glo "refuser", .glo "check_programs", .glo "first_wrong", .glo "check_room", .glo "has_ended", .glo "next_operation", .glo "unfinished", .glo "ready_sessions"]
def fa1 : List He.Fa := [.glo "later_layer", .glo "moment_after", .glo "advanced", .glo "stuck_schedule", .glo "check_waiting", .glo "run", .glo "chosen", .glo "_law_box", .glo "_law_take", .glo "_law_size", .glo "_law_far_size", .glo "_law_program", .glo "_law_bent", .glo "_law_fault", .glo "_law_programs", .glo "_law_start", .glo "_law_after", .glo "_law_refused", .glo "_law_nested", .glo "_law_stack"]
def fa2 : List He.Fa := [.glo "_law_taker", .glo "_law_steps", .glo "_law_due", .glo "_law_call", .glo "_law_ask", .glo "_law_same", .glo "law", .glo "reached_moments", .glo "Links", .glo "FreeMode", .glo "SavingMode", .glo "GuardedMode", .glo "CheckedMode", .glo "LinkError", .glo "LogError", .glo "BadSize", .glo "BadMode", .glo "BadTurn", .glo "BadProgram", .glo "Stuck"]
def fa3 : List He.Fa := [.glo "BadSchedule", .glo "TooMany", .glo "Unsafe", .glo "MODES", .glo "TURNS", .free "abs", .free "len", .free "range", .free "enumerate", .free "list", .free "str", .free "int", .free "bool", .free "tuple", .free "isinstance", .free "min", .free "sum", .free "super", .free "ValueError", .free "None"]
def fa4 : List He.Fa := [.int "MOST_NODES" 60, .int "MOST_POSITIONS" 150, .cls "Links", .mkr "Links", .noat "Links" "size", .noat "Links" "_lefts", .noat "Links" "_rights", .noat "Links" "_flags", .meth "Links" "left", .meth "Links" "right", .meth "Links" "is_out", .meth "Links" "operation_on", .meth "Links" "apply", .meth "Links" "apply_at", .meth "Links" "copy", .meth "Links" "dump", .meth "Links" "_dump_parts", .noat "BadSize" "size", .noat "BadMode" "name", .noat "BadTurn" "turn"]
def fa5 : List He.Fa := [.noat "BadProgram" "session", .noat "BadProgram" "index", .noat "Stuck" "schedule", .cls "FreeMode", .cls "SavingMode", .cls "GuardedMode", .cls "CheckedMode", .meth "FreeMode" "refusal", .meth "SavingMode" "refusal", .meth "GuardedMode" "refusal", .meth "CheckedMode" "refusal"]
def faH : List He.Fa := fa0 ++ (fa1 ++ (fa2 ++ (fa3 ++ (fa4 ++ (fa5)))))
def moreB (K : PySem.W.Frag) : Bool := He.tupB K "MODES" [.str "free", .str "saving", .str "guarded", .str "checked"] && (He.tupB K "TURNS" [.str "first", .str "round"] && ((errsH.all fun x => errB K x) && ((clH.all fun d => supB K d.at_ d.qual d.own) &&
  (stB K && (crdB K (He.ga K "Links") && ((mdsH.all fun m => mk0B K (mdC K m)) && ((mdsH.all fun m => crdB K (mdC K m)) && ((mdsH.all fun m => nmB K m) && ((mdsH.all fun m => tyB K m) && (([Md.saving, .guarded, .checked].all fun m => suB K .saving .free m) &&
  (([Md.guarded, .checked].all fun m => suB K .guarded .saving m) && (([Md.checked].all fun m => suB K .checked .guarded m) && errsH.all fun e => askB K e))))))))))))
def allB (K : PySem.W.Frag) : Bool := (faH.all fun f => f.ok K) && ((fnH.all fun d => d.ok K) && moreB K)
abbrev AlH : Type := Bool × List He.FnW × List FnC × FnS
def obsH (K : PySem.W.Frag) : AlH := (allB K, fnH.map fun d => He.fnW K d.at_, clH.map fun d => fnC K d.at_, fnS K)
def valH : AlH := (true, fnH.map He.DefD.val, clH.map ClD.val, valS)
def SaysH (K : PySem.W.Frag) : Prop := obsH K = valH
def obsHG (n : Nat) (g : Addr → Option Obj) : AlH := obsH (He.frG g (asH g n))
def hookH (n : Nat) : PySem.W.Hook where
  α := AlH
  obs := fun s => obsHG n s.heap.get?
  val := fun _ => valH
  says := fun _ h => ∃ K : PySem.W.Frag, K.In h ∧ SaysH K
  of := fun _ _ e => ⟨_, He.frG_in, e⟩
  keeps := fun _ _ _ ⟨K, hK, c⟩ k => ⟨K, PySem.W.Frag.In.keeps hK k, c⟩
theorem obsHG_eq {n : Nat} {g : Addr → Option Obj} {s : Shared} (h : ∀ a, g a = s.heap.get? a) : obsHG n g = (hookH n).obs s := by
  have e : g = s.heap.get? := funext h
  rw [e] <;> rfl
def nm0 : List Str := ["_wall", "LinkError", "LogError", "BadOperation", "Illegal", "BadSize", "BadNode", "BadMode", "BadDump", "BadProgram", "BadSchedule", "BadTurn", "TooMany", "Unsafe", "Stuck", "MOST_NODES", "MOST_DIGITS", "check_size", "check_operation", "is_number", "PARTS", "_numbers", "_read_rights", "_read_lefts", "_read_outs", "Links", "left_holds", "right_holds", "foreign_writes", "MODES"]
def nm1 : List Str := ["check_mode", "_check_legal", "_last_holders", "_loses_gap", "_leaves_sole_holder", "_is_local", "FreeMode", "SavingMode", "GuardedMode", "CheckedMode", "mode_named", "refuser", "MOST_POSITIONS", "check_programs", "first_wrong", "check_room", "has_ended", "next_operation", "unfinished", "ready_sessions", "reached_moments", "later_layer", "moment_after", "advanced", "TURNS", "stuck_schedule", "check_waiting", "run", "chosen", "_law_box"]
def nm2 : List Str := ["_law_take", "_law_size", "_law_far_size", "_law_program", "_law_bent", "_law_fault", "_law_programs", "_law_start", "_law_after", "_law_text", "_law_refused", "_law_nested", "_law_stack", "_law_taker", "_law_steps", "_law_due", "_law_call", "_law_ask", "_law_same"]
def looseH : List Str := nm0 ++ (nm1 ++ (nm2))
abbrev RH : PySem.W.OpenRow := PySem.W.OpenLaw.row PySem.Challenge.rw_latelink_k37_whole_runs
abbrev hkH : PySem.W.Hook := hookH 5
def obT (s : PySem.W.SharedT) : AlH := obsHG 5 (HandSHeadRun.getT s)
theorem obT_eq (s : PySem.W.SharedT) : obT s = hkH.obs s.abs := obsHG_eq (HandSHeadRun.getT_eq s)
end Lk

set_option maxHeartbeats 0
/-! The run of the top. -/
namespace Lk
open PySem PySem.Spec PyProof.Rows L2
theorem runH (w : World) : HandSHeadRun.RunEq RH (PySem.W.view RH.prog [88]) hkH obT 15000 looseH w := by
  intro os
  kernel_rfl
end Lk

set_option maxHeartbeats 4000000
/-! What the look says. -/
namespace Lk
open PySem PySem.Spec PyProof.Rows L2
open PySem.W (ks_superIn)
abbrev PH : Program := PySem.Challenge.rw_latelink_k37_whole_runs.prog
theorem map_same {A B : Type} {f g : A → B} : ∀ {l : List A}, l.map f = l.map g → ∀ a ∈ l, f a = g a
  | [], _, _, h => by cases h
  | b :: r, e, a, h => by
    rw [List.map_cons, List.map_cons] at e
    injection e with e1 e2
    cases h with
    | head => exact e1
    | tail _ h => exact map_same e2 a h
section
variable {K : PySem.W.Frag}
theorem fdOf_of {p : Str × Option Str} {oc : Value} {od : Option Addr} {fd : FuncData} {osl : Array (Option Value)} (e : K.lookup (He.fAd K p) = some ⟨oc, od, .func fd, osl⟩) : fdOf K p = fd := by
  unfold fdOf
  rw [e]
def fdOf0 (K : PySem.W.Frag) (g : Addr) : FuncData := match K.lookup g with
  | some ⟨_, _, .func fd, _⟩ => fd
  | _ => nofd
theorem cdAd_of {p : Str × Option Str} {fd : FuncData} {c : Addr} (e : fdOf K p = fd) (h : fd.code = .ref c) : cdAd K p = c := by
  unfold cdAd
  rw [e, h]
theorem ccAd_of {p : Str × Option Str} {fd : FuncData} {x : Str} {c : Addr} (e : fdOf K p = fd) (h : fd.closure = [(x, c)]) : ccAd K p = c := by
  unfold ccAd
  rw [e, h]
theorem code_ref {cd : Value} {q : Str} (h : PySem.W.codeIn K cd q = true) : ∃ c, cd = .ref c := by
  cases cd with
  | ref c => exact ⟨c, rfl⟩
  | _ => cases h
theorem sh_all (c : SaysH K) : allB K = true := congrArg (fun z : AlH => z.1) c
theorem sh_fa (c : SaysH K) {f : He.Fa} (h : f ∈ faH) : f.ok K = true := List.all_eq_true.mp (He.ba (sh_all c)).1 f h
theorem sh_more (c : SaysH K) : moreB K = true := (He.ba (He.ba (sh_all c)).2).2
theorem sh_fn (c : SaysH K) {d : He.DefD} (h : d ∈ fnH) : FunD K d.name d.qual d.params d.body d.scope (d.dvs K) (d.kws K) (He.fAd K d.at_) (fdOf K d.at_) := by
  have ok := List.all_eq_true.mp (He.ba (He.ba (sh_all c)).2).1 d h
  have e : fnH.map (fun d => He.fnW K d.at_) = fnH.map He.DefD.val := congrArg (fun z : AlH => z.2.1) c
  obtain ⟨fd, F⟩ := He.DefD.funD (map_same e d h) ok
  obtain ⟨oc, od, dV, kV, doc, pm, an, cdv, ct, osl, _, lk, _⟩ := F.ex
  rw [fdOf_of lk]
  exact F
theorem sh_cl (c : SaysH K) {d : ClD} (h : d ∈ clH) : fnC K d.at_ = d.val := map_same (congrArg (fun z : AlH => z.2.2.1) c) d h
theorem sh_st (c : SaysH K) : fnS K = valS := congrArg (fun z : AlH => z.2.2.2) c
/-- the parts of the look -/
structure MoreH (K : PySem.W.Frag) : Prop where
  modes : He.tupB K "MODES" [.str "free", .str "saving", .str "guarded", .str "checked"] = true
  turns : He.tupB K "TURNS" [.str "first", .str "round"] = true
  err : ∀ x ∈ errsH, errB K x = true
  sup : ∀ d ∈ clH, supB K d.at_ d.qual d.own = true
  st : stB K = true
  crd : crdB K (He.ga K "Links") = true
  mk0 : ∀ m ∈ mdsH, mk0B K (mdC K m) = true
  mrd : ∀ m ∈ mdsH, crdB K (mdC K m) = true
  nm : ∀ m ∈ mdsH, nmB K m = true
  ty : ∀ m ∈ mdsH, tyB K m = true
  su1 : ∀ m ∈ [Md.saving, .guarded, .checked], suB K .saving .free m = true
  su2 : ∀ m ∈ [Md.guarded, .checked], suB K .guarded .saving m = true
  su3 : ∀ m ∈ [Md.checked], suB K .checked .guarded m = true
  ask : ∀ e ∈ errsH, askB K e = true
theorem more_of (c : SaysH K) : MoreH K := by
  have h := sh_more c
  unfold moreB at h
  obtain ⟨h1, h⟩ := He.ba h
  obtain ⟨h2, h⟩ := He.ba h
  obtain ⟨h3, h⟩ := He.ba h
  obtain ⟨h4, h⟩ := He.ba h
  obtain ⟨h5, h⟩ := He.ba h
  obtain ⟨h6, h⟩ := He.ba h
  obtain ⟨h7, h⟩ := He.ba h
  obtain ⟨h8, h⟩ := He.ba h
  obtain ⟨h9, h⟩ := He.ba h
  obtain ⟨h10, h⟩ := He.ba h
  obtain ⟨h11, h⟩ := He.ba h
  obtain ⟨h12, h⟩ := He.ba h
  obtain ⟨h13, h14⟩ := He.ba h
  exact ⟨h1, h2, List.all_eq_true.mp h3, List.all_eq_true.mp h4, h5, h6, List.all_eq_true.mp h7, List.all_eq_true.mp h8, List.all_eq_true.mp h9, List.all_eq_true.mp h10, List.all_eq_true.mp h11, List.all_eq_true.mp h12, List.all_eq_true.mp h13, List.all_eq_true.mp h14⟩
theorem oexB_ok {C : Addr} (h : oexB K C = true) : OexC K C := by
  unfold oexB at h
  obtain ⟨h0, h⟩ := He.ba h
  obtain ⟨h1, h⟩ := He.ba h
  obtain ⟨h2, h⟩ := He.ba h
  obtain ⟨h3, h4⟩ := He.ba h
  refine ⟨?_, He.eqO_ok h1, of_decide_eq_true h2, of_decide_eq_true h3, h4⟩
  split at h0
  · rename_i t dd cd sl lk
    obtain ⟨g1, g⟩ := He.ba h0
    split at g
    · rename_i C' bm k0 k1 k2 k3 n k5 hm hs
      obtain ⟨g2, g⟩ := He.ba g
      obtain ⟨g3, g⟩ := He.ba g
      obtain ⟨g4, g⟩ := He.ba g
      obtain ⟨g5, g6⟩ := He.ba g
      have et : t = "type" := of_decide_eq_true g1
      have eC : C' = C := of_decide_eq_true g2
      have en : n = "ValueError.__new__" := of_decide_eq_true g3
      obtain ⟨nm, bs, mro, ns, qn, hd, sn, sub, ab, col, del⟩ := cd
      dsimp only at hm g4 g5
      have ed : del = false := by
        cases del with
        | false => rfl
        | true => cases g4
      have es : sl = #[k0, k1, k2, k3, some (.builtin n), k5] := by
        rw [← Array.toArray_toList (xs := sl), hs]
      subst et eC en hm ed es
      cases hd with
      | false => cases g5
      | true => exact ⟨nm, qn, ns, bs, bm, sn, sub, ab, col, dd, k0, k1, k2, k3, k5, lk, g6⟩
    · cases g
  · cases h0
theorem excB_ok {D : Addr} (h : excB K D = true) : ExcC K D := by
  unfold excB at h
  obtain ⟨h1, h⟩ := He.ba h
  obtain ⟨h2, h⟩ := He.ba h
  obtain ⟨h3, h⟩ := He.ba h
  obtain ⟨h4, h⟩ := He.ba h
  obtain ⟨h5, h⟩ := He.ba h
  obtain ⟨h6, h⟩ := He.ba h
  obtain ⟨h7, h8⟩ := He.ba h
  exact ⟨He.eqO_ok h1, He.eqO_ok h2, of_decide_eq_true h3, h4, He.eqO_ok h5, He.eqO_ok h6, of_decide_eq_true h7, of_decide_eq_true h8⟩
theorem dc_of (c : SaysH K) {p : Str × Option Str} {own name qual : Str} {st : Stmt} (h : (⟨p, own, name, qual, defArgs st, defBody st, defScope st⟩ : ClD) ∈ clH) (hp : ∃ ar : Arg, ((defArgs st).posonlyargs ++ (defArgs st).args).head? = some ar ∧ ar.arg = "self") :
    DC PH K name qual st (He.ga K own) (He.fAd K p) (cdAd K p) (ccAd K p) (fdOf K p) := by
  have e := sh_cl c h
  have b : supB K p qual own = true := (more_of c).sup _ h
  unfold supB at b
  obtain ⟨kp, b⟩ := He.ba b
  obtain ⟨bc, b⟩ := He.ba b
  obtain ⟨bf, b⟩ := He.ba b
  obtain ⟨bl, b⟩ := He.ba b
  obtain ⟨bd, bs⟩ := He.ba b
  have e1 : (match K.lookup (He.fAd K p) with
    | some ⟨_, _, .func fd, _⟩ => some (fd.name, fd.qualname, fd.params, fd.body, fd.scope, fd.globals, fd.closure.map (·.1), fd.defaults, fd.builtins)
    | _ => none : FnC) = (some (name, qual, defArgs st, .stmts (defBody st), defScope st, mainGlobals, ["__class__"], .none, builtinsNs) : FnC) := e
  cases q : K.lookup (He.fAd K p) with
  | none =>
    rw [q] at e1
    cases e1
  | some o =>
    obtain ⟨oc, od, dt, osl⟩ := o
    rw [q] at e1
    cases dt with
    | func fd =>
      have ef := fdOf_of q
      obtain ⟨n1, n2, n3, n4, n5, n6, n7, n8, n9, n10, n11, n12, n13, n14, n15⟩ := fd
      have e2 : (some (n1, n2, n3, n4, n5, n6, n7.map (·.1), n8, n15) : FnC) = (some (name, qual, defArgs st, .stmts (defBody st), defScope st, mainGlobals, ["__class__"], .none, builtinsNs) : FnC) := e1
      simp only [Option.some.injEq, Prod.mk.injEq] at e2
      obtain ⟨h1, h2, h3, h4, h5, h6, h7, h8, h9⟩ := e2
      subst h1 h2 h3 h4 h5 h6 h8 h9
      obtain ⟨cc, rfl⟩ : ∃ cc, n7 = [(("__class__" : Str), cc)] := by
        cases n7 with
        | nil => cases h7
        | cons y r =>
          cases r with
          | nil =>
            obtain ⟨x, cc⟩ := y
            have hx : x = ("__class__" : Str) := by
              have h7' : [x] = [("__class__" : Str)] := h7
              injection h7'
            rw [hx]
            exact ⟨cc, rfl⟩
          | cons z r =>
            have h7' : y.1 :: z.1 :: r.map (·.1) = [("__class__" : Str)] := h7
            injection h7' with _ h7'
            cases h7'
      rw [ef] at bc
      obtain ⟨cda, rfl⟩ := code_ref bc
      rw [cdAd_of ef rfl, ccAd_of ef rfl, ef] at *
      have S : SupF PH K (He.fAd K p) cda cc (He.ga K own) ⟨n1, n2, defArgs st, .stmts (defBody st), defScope st, mainGlobals, [("__class__", cc)], .none, n9, n10, n11, n12, .ref cda, n14, builtinsNs⟩ := by
        refine ⟨⟨oc, od, osl, q⟩, hp, ?_, ?_, ?_, by decide +kernel⟩
        · split at bf
          · rename_i co cd vs cs lk
            split at bf
            · rename_i v0 v1 f tf r hv
              have hf : f = ("/claim/cut.py" : Str) := of_decide_eq_true bf
              subst hf
              exact ⟨co, cd, vs, cs, _, tf, lk, by rw [← Array.getElem?_toList, hv]; rfl, by decide +kernel⟩
            · cases bf
          · cases bf
        · split at bl
          · rename_i co cd d cs lk
            have hd : d = He.ga K own := of_decide_eq_true bl
            subst hd
            exact ⟨co, cd, cs, lk⟩
          · cases bl
        · exact Option.isSome_iff_exists.mp bd
      exact ⟨⟨n9, n10, n11, n12, n14, rfl⟩, bc, S, kp, He.eqO_ok bs⟩
    | _ => cases e1
theorem ec_of (c : SaysH K) {x : Str} (hx : x ∈ errsH) {nm qual : Str} {st : Stmt} (d : DC PH K nm qual st (He.ga K x) (He.fAd K (x, some "__init__")) (cdAd K (x, some "__init__")) (ccAd K (x, some "__init__")) (fdOf K (x, some "__init__"))) : EC PH K x := by
  have h : errB K x = true := (more_of c).err x hx
  unfold errB at h
  obtain ⟨h1, h⟩ := He.ba h
  obtain ⟨h2, h⟩ := He.ba h
  obtain ⟨h3, h⟩ := He.ba h
  obtain ⟨h4, h⟩ := He.ba h
  obtain ⟨h5, h6⟩ := He.ba h
  exact ⟨oexB_ok h1, He.eqO_ok h2, of_decide_eq_true h3, of_decide_eq_true h4, He.eqO_ok h5, of_decide_eq_true h6, d.S, d.st⟩
theorem crdB_ok {C : Addr} (h : crdB K C = true) : ClX.CRead K C (.type "type") := by
  obtain ⟨h1, h2⟩ := He.ba h
  exact ⟨h1, He.eqO_ok h2⟩
theorem mk0B_ok {C : Addr} (h : mk0B K C = true) : Mk0 K C := by
  obtain ⟨h1, h⟩ := He.ba h
  obtain ⟨h2, h⟩ := He.ba h
  obtain ⟨h3, h4⟩ := He.ba h
  exact ⟨h1, He.eqO_ok h2, h3, of_decide_eq_true h4⟩
theorem nmB_ok {m : Md} (h : nmB K m = true) : ∃ u, ClX.CVal K (mdC K m) (.type "type") "NAME" (.str (mdS m)) u := by
  unfold nmB at h
  split at h
  · rename_i u e
    exact ⟨u, e, He.relB_ok h⟩
  · cases h
theorem stB_ok (c : SaysH K) : StatF K s_Links_built := by
  have M := more_of c
  have h := M.st
  unfold stB at h
  obtain ⟨h1, h⟩ := He.ba h
  obtain ⟨h2, h⟩ := He.ba h
  obtain ⟨h3, h4⟩ := He.ba h
  refine ⟨crdB_ok M.crd, ?_⟩
  split at h1
  · rename_i i p cc e1
    obtain ⟨g1, g⟩ := He.ba h1
    obtain ⟨g2, g3⟩ := He.ba g
    have q1 : i = "staticmethod.__get__" := of_decide_eq_true g1
    have q2 : p = stAt K := of_decide_eq_true g2
    have q3 : cc = He.ga K "Links" := of_decide_eq_true g3
    subst q1 q2 q3
    cases e2 : PySem.W.recIn K (stAt K) "staticmethod" with
    | none =>
      rw [e2] at h2
      cases h2
    | some vs =>
      rw [e2] at h2
      split at h2
      · rename_i g rest e3
        have hvs := Option.some.inj e3
        subst hvs
        have eg : stFn K = g := by
          unfold stFn
          rw [e2]
        have e4 := sh_st c
        unfold fnS at e4
        rw [eg] at h3 h4 e4
        refine ⟨stAt K, g, fdOf0 K g, rest, e1, e2, ?_⟩
        unfold fdOf0
        cases q : K.lookup g with
        | none =>
          rw [q] at h4
          cases h4
        | some o =>
          obtain ⟨oc, od, dt, osl⟩ := o
          rw [q] at h4 e4
          cases dt with
          | func fd =>
            obtain ⟨n1, n2, n3, n4, n5, n6, n7, n8, n9, n10, n11, n12, n13, n14, n15⟩ := fd
            have e5 : (some (n6, n15, n7, n1, n2, n3, n5, n4) : FnS) = valS := e4
            unfold valS at e5
            simp only [Option.some.injEq, Prod.mk.injEq] at e5
            obtain ⟨w1, w2, w3, w4, w5, w6, w7, w8⟩ := e5
            subst w1 w2 w3 w4 w5 w6 w7 w8
            have h5 : (PySem.W.codeIn K n13 "Links.built" && (He.dflB K n8 [] && He.kwdB K n9 [])) = true := h4
            obtain ⟨k1, k2⟩ := He.ba h5
            obtain ⟨k3, k4⟩ := He.ba k2
            exact ⟨⟨oc, od, n8, n9, n10, n11, n12, n13, n14, osl, rfl, q, k1, He.dflB_ok k3, He.kwdB_ok k4⟩, h3⟩
          | _ => cases h4
      · cases h2
  · cases h1
theorem suB_ok {a b m : Md} (h : suB K a b m = true) : PySem.W.mroIn K (mdC K m) (.ref (mdC K a)) = some true ∧ ks_superIn K (mdC K m) (mdC K a) "refusal" = some (some (.ref (fRef K b))) := by
  obtain ⟨h1, h2⟩ := He.ba h
  exact ⟨of_decide_eq_true h1, He.eqO_ok h2⟩
theorem tyB_ok {m : Md} (h : tyB K m = true) : PySem.W.typeIn K (.ref (fRef K m)) = some (.type "function") ∧ PySem.W.fnIn K (fRef K m) = true := by
  obtain ⟨h1, h2⟩ := He.ba h
  exact ⟨of_decide_eq_true h1, h2⟩
theorem md_in : ∀ m : Md, m ∈ mdsH
  | .free => .head _
  | .saving => .tail _ (.head _)
  | .guarded => .tail _ (.tail _ (.head _))
  | .checked => .tail _ (.tail _ (.tail _ (.head _)))
end
section
variable {K : PySem.W.Frag} {h : Heap} {mg : Str → Option Value}
theorem t_check_size (c : SaysH K) : DF K ("check_size", none) "check_size" "check_size" s_check_size [] := sh_fn c (d := D_check_size) (List.mem_of_getElem? (i := 0) rfl)
theorem t_check_operation (c : SaysH K) : DF K ("check_operation", none) "check_operation" "check_operation" s_check_operation [] := sh_fn c (d := D_check_operation) (List.mem_of_getElem? (i := 1) rfl)
theorem t_Links___init__ (c : SaysH K) : DF K ("Links", some "__init__") "__init__" "Links.__init__" s_Links___init__ [] := sh_fn c (d := D_Links___init__) (List.mem_of_getElem? (i := 2) rfl)
theorem t_Links_left (c : SaysH K) : DF K ("Links", some "left") "left" "Links.left" s_Links_left [] := sh_fn c (d := D_Links_left) (List.mem_of_getElem? (i := 3) rfl)
theorem t_Links_right (c : SaysH K) : DF K ("Links", some "right") "right" "Links.right" s_Links_right [] := sh_fn c (d := D_Links_right) (List.mem_of_getElem? (i := 4) rfl)
theorem t_Links_is_out (c : SaysH K) : DF K ("Links", some "is_out") "is_out" "Links.is_out" s_Links_is_out [] := sh_fn c (d := D_Links_is_out) (List.mem_of_getElem? (i := 5) rfl)
theorem t_Links_operation_on (c : SaysH K) : DF K ("Links", some "operation_on") "operation_on" "Links.operation_on" s_Links_operation_on [] := sh_fn c (d := D_Links_operation_on) (List.mem_of_getElem? (i := 6) rfl)
theorem t_Links_apply (c : SaysH K) : DF K ("Links", some "apply") "apply" "Links.apply" s_Links_apply [] := sh_fn c (d := D_Links_apply) (List.mem_of_getElem? (i := 7) rfl)
theorem t_Links_apply_at (c : SaysH K) : DF K ("Links", some "apply_at") "apply_at" "Links.apply_at" s_Links_apply_at [] := sh_fn c (d := D_Links_apply_at) (List.mem_of_getElem? (i := 8) rfl)
theorem t_Links_copy (c : SaysH K) : DF K ("Links", some "copy") "copy" "Links.copy" s_Links_copy [] := sh_fn c (d := D_Links_copy) (List.mem_of_getElem? (i := 9) rfl)
theorem t_Links_dump (c : SaysH K) : DF K ("Links", some "dump") "dump" "Links.dump" s_Links_dump [] := sh_fn c (d := D_Links_dump) (List.mem_of_getElem? (i := 10) rfl)
theorem t_Links__dump_parts (c : SaysH K) : DF K ("Links", some "_dump_parts") "_dump_parts" "Links._dump_parts" s_Links__dump_parts [] := sh_fn c (d := D_Links__dump_parts) (List.mem_of_getElem? (i := 11) rfl)
theorem t_left_holds (c : SaysH K) : DF K ("left_holds", none) "left_holds" "left_holds" s_left_holds [] := sh_fn c (d := D_left_holds) (List.mem_of_getElem? (i := 12) rfl)
theorem t_right_holds (c : SaysH K) : DF K ("right_holds", none) "right_holds" "right_holds" s_right_holds [] := sh_fn c (d := D_right_holds) (List.mem_of_getElem? (i := 13) rfl)
theorem t_foreign_writes (c : SaysH K) : DF K ("foreign_writes", none) "foreign_writes" "foreign_writes" s_foreign_writes [] := sh_fn c (d := D_foreign_writes) (List.mem_of_getElem? (i := 14) rfl)
theorem t_check_mode (c : SaysH K) : DF K ("check_mode", none) "check_mode" "check_mode" s_check_mode [] := sh_fn c (d := D_check_mode) (List.mem_of_getElem? (i := 15) rfl)
theorem t__check_legal (c : SaysH K) : DF K ("_check_legal", none) "_check_legal" "_check_legal" s__check_legal [] := sh_fn c (d := D__check_legal) (List.mem_of_getElem? (i := 16) rfl)
theorem t__last_holders (c : SaysH K) : DF K ("_last_holders", none) "_last_holders" "_last_holders" s__last_holders [] := sh_fn c (d := D__last_holders) (List.mem_of_getElem? (i := 17) rfl)
theorem t__loses_gap (c : SaysH K) : DF K ("_loses_gap", none) "_loses_gap" "_loses_gap" s__loses_gap [] := sh_fn c (d := D__loses_gap) (List.mem_of_getElem? (i := 18) rfl)
theorem t__leaves_sole_holder (c : SaysH K) : DF K ("_leaves_sole_holder", none) "_leaves_sole_holder" "_leaves_sole_holder" s__leaves_sole_holder [] := sh_fn c (d := D__leaves_sole_holder) (List.mem_of_getElem? (i := 19) rfl)
theorem t__is_local (c : SaysH K) : DF K ("_is_local", none) "_is_local" "_is_local" s__is_local [] := sh_fn c (d := D__is_local) (List.mem_of_getElem? (i := 20) rfl)
theorem t_FreeMode_refusal (c : SaysH K) : DF K ("FreeMode", some "refusal") "refusal" "FreeMode.refusal" s_FreeMode_refusal [] := sh_fn c (d := D_FreeMode_refusal) (List.mem_of_getElem? (i := 21) rfl)
theorem t_mode_named (c : SaysH K) : DF K ("mode_named", none) "mode_named" "mode_named" s_mode_named [] := sh_fn c (d := D_mode_named) (List.mem_of_getElem? (i := 22) rfl)
theorem t_refuser (c : SaysH K) : DF K ("refuser", none) "refuser" "refuser" s_refuser [] := sh_fn c (d := D_refuser) (List.mem_of_getElem? (i := 23) rfl)
theorem t_check_programs (c : SaysH K) : DF K ("check_programs", none) "check_programs" "check_programs" s_check_programs [] := sh_fn c (d := D_check_programs) (List.mem_of_getElem? (i := 24) rfl)
theorem t_first_wrong (c : SaysH K) : DF K ("first_wrong", none) "first_wrong" "first_wrong" s_first_wrong [] := sh_fn c (d := D_first_wrong) (List.mem_of_getElem? (i := 25) rfl)
theorem t_check_room (c : SaysH K) : DF K ("check_room", none) "check_room" "check_room" s_check_room [] := sh_fn c (d := D_check_room) (List.mem_of_getElem? (i := 26) rfl)
theorem t_has_ended (c : SaysH K) : DF K ("has_ended", none) "has_ended" "has_ended" s_has_ended [] := sh_fn c (d := D_has_ended) (List.mem_of_getElem? (i := 27) rfl)
theorem t_next_operation (c : SaysH K) : DF K ("next_operation", none) "next_operation" "next_operation" s_next_operation [] := sh_fn c (d := D_next_operation) (List.mem_of_getElem? (i := 28) rfl)
theorem t_unfinished (c : SaysH K) : DF K ("unfinished", none) "unfinished" "unfinished" s_unfinished [] := sh_fn c (d := D_unfinished) (List.mem_of_getElem? (i := 29) rfl)
theorem t_ready_sessions (c : SaysH K) : DF K ("ready_sessions", none) "ready_sessions" "ready_sessions" s_ready_sessions [] := sh_fn c (d := D_ready_sessions) (List.mem_of_getElem? (i := 30) rfl)
theorem t_later_layer (c : SaysH K) : DF K ("later_layer", none) "later_layer" "later_layer" s_later_layer [] := sh_fn c (d := D_later_layer) (List.mem_of_getElem? (i := 31) rfl)
theorem t_moment_after (c : SaysH K) : DF K ("moment_after", none) "moment_after" "moment_after" s_moment_after [] := sh_fn c (d := D_moment_after) (List.mem_of_getElem? (i := 32) rfl)
theorem t_advanced (c : SaysH K) : DF K ("advanced", none) "advanced" "advanced" s_advanced [] := sh_fn c (d := D_advanced) (List.mem_of_getElem? (i := 33) rfl)
theorem t_stuck_schedule (c : SaysH K) : DF K ("stuck_schedule", none) "stuck_schedule" "stuck_schedule" s_stuck_schedule [("mode", .str "checked")] := sh_fn c (d := D_stuck_schedule) (List.mem_of_getElem? (i := 34) rfl)
theorem t_check_waiting (c : SaysH K) : DF K ("check_waiting", none) "check_waiting" "check_waiting" s_check_waiting [] := sh_fn c (d := D_check_waiting) (List.mem_of_getElem? (i := 35) rfl)
theorem t_run (c : SaysH K) : DF K ("run", none) "run" "run" s_run [("mode", .str "checked"), ("turn", .str "first")] := sh_fn c (d := D_run) (List.mem_of_getElem? (i := 36) rfl)
theorem t_chosen (c : SaysH K) : DF K ("chosen", none) "chosen" "chosen" s_chosen [] := sh_fn c (d := D_chosen) (List.mem_of_getElem? (i := 37) rfl)
theorem t__law_box (c : SaysH K) : DF K ("_law_box", none) "_law_box" "_law_box" s__law_box [] := sh_fn c (d := D__law_box) (List.mem_of_getElem? (i := 38) rfl)
theorem t__law_take (c : SaysH K) : DF K ("_law_take", none) "_law_take" "_law_take" s__law_take [] := sh_fn c (d := D__law_take) (List.mem_of_getElem? (i := 39) rfl)
theorem t__law_size (c : SaysH K) : DF K ("_law_size", none) "_law_size" "_law_size" s__law_size [] := sh_fn c (d := D__law_size) (List.mem_of_getElem? (i := 40) rfl)
theorem t__law_far_size (c : SaysH K) : DF K ("_law_far_size", none) "_law_far_size" "_law_far_size" s__law_far_size [] := sh_fn c (d := D__law_far_size) (List.mem_of_getElem? (i := 41) rfl)
theorem t__law_program (c : SaysH K) : DF K ("_law_program", none) "_law_program" "_law_program" s__law_program [] := sh_fn c (d := D__law_program) (List.mem_of_getElem? (i := 42) rfl)
theorem t__law_bent (c : SaysH K) : DF K ("_law_bent", none) "_law_bent" "_law_bent" s__law_bent [] := sh_fn c (d := D__law_bent) (List.mem_of_getElem? (i := 43) rfl)
theorem t__law_fault (c : SaysH K) : DF K ("_law_fault", none) "_law_fault" "_law_fault" s__law_fault [] := sh_fn c (d := D__law_fault) (List.mem_of_getElem? (i := 44) rfl)
theorem t__law_programs (c : SaysH K) : DF K ("_law_programs", none) "_law_programs" "_law_programs" s__law_programs [] := sh_fn c (d := D__law_programs) (List.mem_of_getElem? (i := 45) rfl)
theorem t__law_start (c : SaysH K) : DF K ("_law_start", none) "_law_start" "_law_start" s__law_start [] := sh_fn c (d := D__law_start) (List.mem_of_getElem? (i := 46) rfl)
theorem t__law_after (c : SaysH K) : DF K ("_law_after", none) "_law_after" "_law_after" s__law_after [] := sh_fn c (d := D__law_after) (List.mem_of_getElem? (i := 47) rfl)
theorem t__law_refused (c : SaysH K) : DF K ("_law_refused", none) "_law_refused" "_law_refused" s__law_refused [] := sh_fn c (d := D__law_refused) (List.mem_of_getElem? (i := 48) rfl)
theorem t__law_nested (c : SaysH K) : DF K ("_law_nested", none) "_law_nested" "_law_nested" s__law_nested [] := sh_fn c (d := D__law_nested) (List.mem_of_getElem? (i := 49) rfl)
theorem t__law_stack (c : SaysH K) : DF K ("_law_stack", none) "_law_stack" "_law_stack" s__law_stack [] := sh_fn c (d := D__law_stack) (List.mem_of_getElem? (i := 50) rfl)
theorem t__law_taker (c : SaysH K) : DF K ("_law_taker", none) "_law_taker" "_law_taker" s__law_taker [] := sh_fn c (d := D__law_taker) (List.mem_of_getElem? (i := 51) rfl)
theorem t__law_steps (c : SaysH K) : DF K ("_law_steps", none) "_law_steps" "_law_steps" s__law_steps [] := sh_fn c (d := D__law_steps) (List.mem_of_getElem? (i := 52) rfl)
theorem t__law_due (c : SaysH K) : DF K ("_law_due", none) "_law_due" "_law_due" s__law_due [] := sh_fn c (d := D__law_due) (List.mem_of_getElem? (i := 53) rfl)
theorem t__law_call (c : SaysH K) : DF K ("_law_call", none) "_law_call" "_law_call" s__law_call [] := sh_fn c (d := D__law_call) (List.mem_of_getElem? (i := 54) rfl)
theorem t__law_ask (c : SaysH K) : DF K ("_law_ask", none) "_law_ask" "_law_ask" s__law_ask [] := sh_fn c (d := D__law_ask) (List.mem_of_getElem? (i := 55) rfl)
theorem t__law_same (c : SaysH K) : DF K ("_law_same", none) "_law_same" "_law_same" s__law_same [] := sh_fn c (d := D__law_same) (List.mem_of_getElem? (i := 56) rfl)
theorem t_law (c : SaysH K) : DF K ("law", none) "law" "law" s_law [] := sh_fn c (d := D_law) (List.mem_of_getElem? (i := 57) rfl)
theorem t_reached (c : SaysH K) : DF K ("reached_moments", none) "reached_moments" "reached_moments" s_reached_moments [] := sh_fn c (d := D_reached_moments) (List.mem_of_getElem? (i := 58) rfl)
theorem top_of (c : SaysH K) (X : K.In h) (G : h.Ns mainGlobals mg) : Top K mg where
  d_check_size := t_check_size c
  d_check_operation := t_check_operation c
  d_Links___init__ := t_Links___init__ c
  d_Links_left := t_Links_left c
  d_Links_right := t_Links_right c
  d_Links_is_out := t_Links_is_out c
  d_Links_operation_on := t_Links_operation_on c
  d_Links_apply := t_Links_apply c
  d_Links_apply_at := t_Links_apply_at c
  d_Links_copy := t_Links_copy c
  d_Links_dump := t_Links_dump c
  d_Links__dump_parts := t_Links__dump_parts c
  d_left_holds := t_left_holds c
  d_right_holds := t_right_holds c
  d_foreign_writes := t_foreign_writes c
  d_check_mode := t_check_mode c
  d__check_legal := t__check_legal c
  d__last_holders := t__last_holders c
  d__loses_gap := t__loses_gap c
  d__leaves_sole_holder := t__leaves_sole_holder c
  d__is_local := t__is_local c
  d_FreeMode_refusal := t_FreeMode_refusal c
  d_mode_named := t_mode_named c
  d_refuser := t_refuser c
  d_check_programs := t_check_programs c
  d_first_wrong := t_first_wrong c
  d_check_room := t_check_room c
  d_has_ended := t_has_ended c
  d_next_operation := t_next_operation c
  d_unfinished := t_unfinished c
  d_ready_sessions := t_ready_sessions c
  d_later_layer := t_later_layer c
  d_moment_after := t_moment_after c
  d_advanced := t_advanced c
  d_stuck_schedule := t_stuck_schedule c
  d_check_waiting := t_check_waiting c
  d_run := t_run c
  d_chosen := t_chosen c
  d__law_box := t__law_box c
  d__law_take := t__law_take c
  d__law_size := t__law_size c
  d__law_far_size := t__law_far_size c
  d__law_program := t__law_program c
  d__law_bent := t__law_bent c
  d__law_fault := t__law_fault c
  d__law_programs := t__law_programs c
  d__law_start := t__law_start c
  d__law_after := t__law_after c
  d__law_refused := t__law_refused c
  d__law_nested := t__law_nested c
  d__law_stack := t__law_stack c
  d__law_taker := t__law_taker c
  d__law_steps := t__law_steps c
  d__law_due := t__law_due c
  d__law_call := t__law_call c
  d__law_ask := t__law_ask c
  d__law_same := t__law_same c
  d_law := t_law c
  g_check_size := He.glo_ok X G (sh_fa c (f := .glo "check_size") (List.mem_of_getElem? (i := 0) rfl))
  g_check_operation := He.glo_ok X G (sh_fa c (f := .glo "check_operation") (List.mem_of_getElem? (i := 1) rfl))
  g_left_holds := He.glo_ok X G (sh_fa c (f := .glo "left_holds") (List.mem_of_getElem? (i := 2) rfl))
  g_right_holds := He.glo_ok X G (sh_fa c (f := .glo "right_holds") (List.mem_of_getElem? (i := 3) rfl))
  g_foreign_writes := He.glo_ok X G (sh_fa c (f := .glo "foreign_writes") (List.mem_of_getElem? (i := 4) rfl))
  g_check_mode := He.glo_ok X G (sh_fa c (f := .glo "check_mode") (List.mem_of_getElem? (i := 5) rfl))
  g__check_legal := He.glo_ok X G (sh_fa c (f := .glo "_check_legal") (List.mem_of_getElem? (i := 6) rfl))
  g__last_holders := He.glo_ok X G (sh_fa c (f := .glo "_last_holders") (List.mem_of_getElem? (i := 7) rfl))
  g__loses_gap := He.glo_ok X G (sh_fa c (f := .glo "_loses_gap") (List.mem_of_getElem? (i := 8) rfl))
  g__leaves_sole_holder := He.glo_ok X G (sh_fa c (f := .glo "_leaves_sole_holder") (List.mem_of_getElem? (i := 9) rfl))
  g__is_local := He.glo_ok X G (sh_fa c (f := .glo "_is_local") (List.mem_of_getElem? (i := 10) rfl))
  g_mode_named := He.glo_ok X G (sh_fa c (f := .glo "mode_named") (List.mem_of_getElem? (i := 11) rfl))
  g_refuser := He.glo_ok X G (sh_fa c (f := .glo "refuser") (List.mem_of_getElem? (i := 12) rfl))
  g_check_programs := He.glo_ok X G (sh_fa c (f := .glo "check_programs") (List.mem_of_getElem? (i := 13) rfl))
  g_first_wrong := He.glo_ok X G (sh_fa c (f := .glo "first_wrong") (List.mem_of_getElem? (i := 14) rfl))
  g_check_room := He.glo_ok X G (sh_fa c (f := .glo "check_room") (List.mem_of_getElem? (i := 15) rfl))
  g_has_ended := He.glo_ok X G (sh_fa c (f := .glo "has_ended") (List.mem_of_getElem? (i := 16) rfl))
  g_next_operation := He.glo_ok X G (sh_fa c (f := .glo "next_operation") (List.mem_of_getElem? (i := 17) rfl))
  g_unfinished := He.glo_ok X G (sh_fa c (f := .glo "unfinished") (List.mem_of_getElem? (i := 18) rfl))
  g_ready_sessions := He.glo_ok X G (sh_fa c (f := .glo "ready_sessions") (List.mem_of_getElem? (i := 19) rfl))
  g_later_layer := He.glo_ok X G (sh_fa c (f := .glo "later_layer") (List.mem_of_getElem? (i := 20) rfl))
  g_moment_after := He.glo_ok X G (sh_fa c (f := .glo "moment_after") (List.mem_of_getElem? (i := 21) rfl))
  g_advanced := He.glo_ok X G (sh_fa c (f := .glo "advanced") (List.mem_of_getElem? (i := 22) rfl))
  g_stuck_schedule := He.glo_ok X G (sh_fa c (f := .glo "stuck_schedule") (List.mem_of_getElem? (i := 23) rfl))
  g_check_waiting := He.glo_ok X G (sh_fa c (f := .glo "check_waiting") (List.mem_of_getElem? (i := 24) rfl))
  g_run := He.glo_ok X G (sh_fa c (f := .glo "run") (List.mem_of_getElem? (i := 25) rfl))
  g_chosen := He.glo_ok X G (sh_fa c (f := .glo "chosen") (List.mem_of_getElem? (i := 26) rfl))
  g__law_box := He.glo_ok X G (sh_fa c (f := .glo "_law_box") (List.mem_of_getElem? (i := 27) rfl))
  g__law_take := He.glo_ok X G (sh_fa c (f := .glo "_law_take") (List.mem_of_getElem? (i := 28) rfl))
  g__law_size := He.glo_ok X G (sh_fa c (f := .glo "_law_size") (List.mem_of_getElem? (i := 29) rfl))
  g__law_far_size := He.glo_ok X G (sh_fa c (f := .glo "_law_far_size") (List.mem_of_getElem? (i := 30) rfl))
  g__law_program := He.glo_ok X G (sh_fa c (f := .glo "_law_program") (List.mem_of_getElem? (i := 31) rfl))
  g__law_bent := He.glo_ok X G (sh_fa c (f := .glo "_law_bent") (List.mem_of_getElem? (i := 32) rfl))
  g__law_fault := He.glo_ok X G (sh_fa c (f := .glo "_law_fault") (List.mem_of_getElem? (i := 33) rfl))
  g__law_programs := He.glo_ok X G (sh_fa c (f := .glo "_law_programs") (List.mem_of_getElem? (i := 34) rfl))
  g__law_start := He.glo_ok X G (sh_fa c (f := .glo "_law_start") (List.mem_of_getElem? (i := 35) rfl))
  g__law_after := He.glo_ok X G (sh_fa c (f := .glo "_law_after") (List.mem_of_getElem? (i := 36) rfl))
  g__law_refused := He.glo_ok X G (sh_fa c (f := .glo "_law_refused") (List.mem_of_getElem? (i := 37) rfl))
  g__law_nested := He.glo_ok X G (sh_fa c (f := .glo "_law_nested") (List.mem_of_getElem? (i := 38) rfl))
  g__law_stack := He.glo_ok X G (sh_fa c (f := .glo "_law_stack") (List.mem_of_getElem? (i := 39) rfl))
  g__law_taker := He.glo_ok X G (sh_fa c (f := .glo "_law_taker") (List.mem_of_getElem? (i := 40) rfl))
  g__law_steps := He.glo_ok X G (sh_fa c (f := .glo "_law_steps") (List.mem_of_getElem? (i := 41) rfl))
  g__law_due := He.glo_ok X G (sh_fa c (f := .glo "_law_due") (List.mem_of_getElem? (i := 42) rfl))
  g__law_call := He.glo_ok X G (sh_fa c (f := .glo "_law_call") (List.mem_of_getElem? (i := 43) rfl))
  g__law_ask := He.glo_ok X G (sh_fa c (f := .glo "_law_ask") (List.mem_of_getElem? (i := 44) rfl))
  g__law_same := He.glo_ok X G (sh_fa c (f := .glo "_law_same") (List.mem_of_getElem? (i := 45) rfl))
  g_law := He.glo_ok X G (sh_fa c (f := .glo "law") (List.mem_of_getElem? (i := 46) rfl))
  g_reached_moments := He.glo_ok X G (sh_fa c (f := .glo "reached_moments") (List.mem_of_getElem? (i := 47) rfl))
  g_Links := He.glo_ok X G (sh_fa c (f := .glo "Links") (List.mem_of_getElem? (i := 48) rfl))
  g_FreeMode := He.glo_ok X G (sh_fa c (f := .glo "FreeMode") (List.mem_of_getElem? (i := 49) rfl))
  g_SavingMode := He.glo_ok X G (sh_fa c (f := .glo "SavingMode") (List.mem_of_getElem? (i := 50) rfl))
  g_GuardedMode := He.glo_ok X G (sh_fa c (f := .glo "GuardedMode") (List.mem_of_getElem? (i := 51) rfl))
  g_CheckedMode := He.glo_ok X G (sh_fa c (f := .glo "CheckedMode") (List.mem_of_getElem? (i := 52) rfl))
  g_LinkError := He.glo_ok X G (sh_fa c (f := .glo "LinkError") (List.mem_of_getElem? (i := 53) rfl))
  g_LogError := He.glo_ok X G (sh_fa c (f := .glo "LogError") (List.mem_of_getElem? (i := 54) rfl))
  g_BadSize := He.glo_ok X G (sh_fa c (f := .glo "BadSize") (List.mem_of_getElem? (i := 55) rfl))
  g_BadMode := He.glo_ok X G (sh_fa c (f := .glo "BadMode") (List.mem_of_getElem? (i := 56) rfl))
  g_BadTurn := He.glo_ok X G (sh_fa c (f := .glo "BadTurn") (List.mem_of_getElem? (i := 57) rfl))
  g_BadProgram := He.glo_ok X G (sh_fa c (f := .glo "BadProgram") (List.mem_of_getElem? (i := 58) rfl))
  g_Stuck := He.glo_ok X G (sh_fa c (f := .glo "Stuck") (List.mem_of_getElem? (i := 59) rfl))
  g_BadSchedule := He.glo_ok X G (sh_fa c (f := .glo "BadSchedule") (List.mem_of_getElem? (i := 60) rfl))
  g_TooMany := He.glo_ok X G (sh_fa c (f := .glo "TooMany") (List.mem_of_getElem? (i := 61) rfl))
  g_Unsafe := He.glo_ok X G (sh_fa c (f := .glo "Unsafe") (List.mem_of_getElem? (i := 62) rfl))
  g_MODES := He.glo_ok X G (sh_fa c (f := .glo "MODES") (List.mem_of_getElem? (i := 63) rfl))
  g_TURNS := He.glo_ok X G (sh_fa c (f := .glo "TURNS") (List.mem_of_getElem? (i := 64) rfl))
  n_abs := He.free_ok X G (sh_fa c (f := .free "abs") (List.mem_of_getElem? (i := 65) rfl))
  n_len := He.free_ok X G (sh_fa c (f := .free "len") (List.mem_of_getElem? (i := 66) rfl))
  n_range := He.free_ok X G (sh_fa c (f := .free "range") (List.mem_of_getElem? (i := 67) rfl))
  n_enumerate := He.free_ok X G (sh_fa c (f := .free "enumerate") (List.mem_of_getElem? (i := 68) rfl))
  n_list := He.free_ok X G (sh_fa c (f := .free "list") (List.mem_of_getElem? (i := 69) rfl))
  n_str := He.free_ok X G (sh_fa c (f := .free "str") (List.mem_of_getElem? (i := 70) rfl))
  n_int := He.free_ok X G (sh_fa c (f := .free "int") (List.mem_of_getElem? (i := 71) rfl))
  n_bool := He.free_ok X G (sh_fa c (f := .free "bool") (List.mem_of_getElem? (i := 72) rfl))
  n_tuple := He.free_ok X G (sh_fa c (f := .free "tuple") (List.mem_of_getElem? (i := 73) rfl))
  n_isinstance := He.free_ok X G (sh_fa c (f := .free "isinstance") (List.mem_of_getElem? (i := 74) rfl))
  n_min := He.free_ok X G (sh_fa c (f := .free "min") (List.mem_of_getElem? (i := 75) rfl))
  n_sum := He.free_ok X G (sh_fa c (f := .free "sum") (List.mem_of_getElem? (i := 76) rfl))
  n_super := He.free_ok X G (sh_fa c (f := .free "super") (List.mem_of_getElem? (i := 77) rfl))
  n_ValueError := He.free_ok X G (sh_fa c (f := .free "ValueError") (List.mem_of_getElem? (i := 78) rfl))
  n_None := He.free_ok X G (sh_fa c (f := .free "None") (List.mem_of_getElem? (i := 79) rfl))
  i_MOST_NODES := He.int_ok X G (sh_fa c (f := .int "MOST_NODES" 60) (List.mem_of_getElem? (i := 80) rfl))
  i_MOST_POSITIONS := He.int_ok X G (sh_fa c (f := .int "MOST_POSITIONS" 150) (List.mem_of_getElem? (i := 81) rfl))
  t_MODES := He.tupB_ok (more_of c).modes
  t_TURNS := He.tupB_ok (more_of c).turns
  c_Links := He.cls_ok (sh_fa c (f := .cls "Links") (List.mem_of_getElem? (i := 82) rfl))
  k_Links := He.mkr_ok (sh_fa c (f := .mkr "Links") (List.mem_of_getElem? (i := 83) rfl))
  na_size := He.noat_ok (sh_fa c (f := .noat "Links" "size") (List.mem_of_getElem? (i := 84) rfl))
  na__lefts := He.noat_ok (sh_fa c (f := .noat "Links" "_lefts") (List.mem_of_getElem? (i := 85) rfl))
  na__rights := He.noat_ok (sh_fa c (f := .noat "Links" "_rights") (List.mem_of_getElem? (i := 86) rfl))
  na__flags := He.noat_ok (sh_fa c (f := .noat "Links" "_flags") (List.mem_of_getElem? (i := 87) rfl))
  m_left := He.meth_ok (sh_fa c (f := .meth "Links" "left") (List.mem_of_getElem? (i := 88) rfl))
  m_right := He.meth_ok (sh_fa c (f := .meth "Links" "right") (List.mem_of_getElem? (i := 89) rfl))
  m_is_out := He.meth_ok (sh_fa c (f := .meth "Links" "is_out") (List.mem_of_getElem? (i := 90) rfl))
  m_operation_on := He.meth_ok (sh_fa c (f := .meth "Links" "operation_on") (List.mem_of_getElem? (i := 91) rfl))
  m_apply := He.meth_ok (sh_fa c (f := .meth "Links" "apply") (List.mem_of_getElem? (i := 92) rfl))
  m_apply_at := He.meth_ok (sh_fa c (f := .meth "Links" "apply_at") (List.mem_of_getElem? (i := 93) rfl))
  m_copy := He.meth_ok (sh_fa c (f := .meth "Links" "copy") (List.mem_of_getElem? (i := 94) rfl))
  m_dump := He.meth_ok (sh_fa c (f := .meth "Links" "dump") (List.mem_of_getElem? (i := 95) rfl))
  m__dump_parts := He.meth_ok (sh_fa c (f := .meth "Links" "_dump_parts") (List.mem_of_getElem? (i := 96) rfl))
theorem t_BadSize___init__ (c : SaysH K) : ED PH K "BadSize" "BadSize.__init__" s_BadSize___init__ := dc_of c (List.mem_of_getElem? (i := 0) (show clH[0]? = some D_BadSize___init__ from rfl)) ⟨_, rfl, rfl⟩
theorem t_BadMode___init__ (c : SaysH K) : ED PH K "BadMode" "BadMode.__init__" s_BadMode___init__ := dc_of c (List.mem_of_getElem? (i := 1) (show clH[1]? = some D_BadMode___init__ from rfl)) ⟨_, rfl, rfl⟩
theorem t_BadProgram___init__ (c : SaysH K) : ED PH K "BadProgram" "BadProgram.__init__" s_BadProgram___init__ := dc_of c (List.mem_of_getElem? (i := 2) (show clH[2]? = some D_BadProgram___init__ from rfl)) ⟨_, rfl, rfl⟩
theorem t_BadTurn___init__ (c : SaysH K) : ED PH K "BadTurn" "BadTurn.__init__" s_BadTurn___init__ := dc_of c (List.mem_of_getElem? (i := 3) (show clH[3]? = some D_BadTurn___init__ from rfl)) ⟨_, rfl, rfl⟩
theorem t_Stuck___init__ (c : SaysH K) : ED PH K "Stuck" "Stuck.__init__" s_Stuck___init__ := dc_of c (List.mem_of_getElem? (i := 4) (show clH[4]? = some D_Stuck___init__ from rfl)) ⟨_, rfl, rfl⟩
theorem t_SavingMode_refusal (c : SaysH K) : MD PH K "SavingMode" "SavingMode.refusal" s_SavingMode_refusal := dc_of c (List.mem_of_getElem? (i := 5) (show clH[5]? = some D_SavingMode_refusal from rfl)) ⟨_, rfl, rfl⟩
theorem t_GuardedMode_refusal (c : SaysH K) : MD PH K "GuardedMode" "GuardedMode.refusal" s_GuardedMode_refusal := dc_of c (List.mem_of_getElem? (i := 6) (show clH[6]? = some D_GuardedMode_refusal from rfl)) ⟨_, rfl, rfl⟩
theorem t_CheckedMode_refusal (c : SaysH K) : MD PH K "CheckedMode" "CheckedMode.refusal" s_CheckedMode_refusal := dc_of c (List.mem_of_getElem? (i := 7) (show clH[7]? = some D_CheckedMode_refusal from rfl)) ⟨_, rfl, rfl⟩
theorem topx_of (c : SaysH K) (X : K.In h) (G : h.Ns mainGlobals mg) : TopX PH K mg where
  toTop := top_of c X G
  e_BadSize := ec_of c (List.mem_of_getElem? (i := 0) rfl) (t_BadSize___init__ c)
  e_BadMode := ec_of c (List.mem_of_getElem? (i := 1) rfl) (t_BadMode___init__ c)
  e_BadTurn := ec_of c (List.mem_of_getElem? (i := 2) rfl) (t_BadTurn___init__ c)
  e_BadProgram := ec_of c (List.mem_of_getElem? (i := 3) rfl) (t_BadProgram___init__ c)
  e_Stuck := ec_of c (List.mem_of_getElem? (i := 4) rfl) (t_Stuck___init__ c)
  i_BadSize := t_BadSize___init__ c
  i_BadMode := t_BadMode___init__ c
  i_BadTurn := t_BadTurn___init__ c
  i_BadProgram := t_BadProgram___init__ c
  i_Stuck := t_Stuck___init__ c
  nf_size := He.noat_ok (sh_fa c (f := .noat "BadSize" "size") (List.mem_of_getElem? (i := 97) rfl))
  nf_name := He.noat_ok (sh_fa c (f := .noat "BadMode" "name") (List.mem_of_getElem? (i := 98) rfl))
  nf_turn := He.noat_ok (sh_fa c (f := .noat "BadTurn" "turn") (List.mem_of_getElem? (i := 99) rfl))
  nf_session := He.noat_ok (sh_fa c (f := .noat "BadProgram" "session") (List.mem_of_getElem? (i := 100) rfl))
  nf_index := He.noat_ok (sh_fa c (f := .noat "BadProgram" "index") (List.mem_of_getElem? (i := 101) rfl))
  nf_schedule := He.noat_ok (sh_fa c (f := .noat "Stuck" "schedule") (List.mem_of_getElem? (i := 102) rfl))
  q_saving := t_SavingMode_refusal c
  q_guarded := t_GuardedMode_refusal c
  q_checked := t_CheckedMode_refusal c
  cm := fun m => match m with | .free => He.cls_ok (sh_fa c (f := .cls "FreeMode") (List.mem_of_getElem? (i := 103) rfl)) | .saving => He.cls_ok (sh_fa c (f := .cls "SavingMode") (List.mem_of_getElem? (i := 104) rfl)) | .guarded => He.cls_ok (sh_fa c (f := .cls "GuardedMode") (List.mem_of_getElem? (i := 105) rfl)) | .checked => He.cls_ok (sh_fa c (f := .cls "CheckedMode") (List.mem_of_getElem? (i := 106) rfl))
  mo := fun m => mk0B_ok ((more_of c).mk0 m (md_in m))
  mt := fun m => match m with | .free => He.meth_ok (sh_fa c (f := .meth "FreeMode" "refusal") (List.mem_of_getElem? (i := 107) rfl)) | .saving => He.meth_ok (sh_fa c (f := .meth "SavingMode" "refusal") (List.mem_of_getElem? (i := 108) rfl)) | .guarded => He.meth_ok (sh_fa c (f := .meth "GuardedMode" "refusal") (List.mem_of_getElem? (i := 109) rfl)) | .checked => He.meth_ok (sh_fa c (f := .meth "CheckedMode" "refusal") (List.mem_of_getElem? (i := 110) rfl))
  rd := fun m => crdB_ok ((more_of c).mrd m (md_in m))
  nmC := fun m => nmB_ok ((more_of c).nm m (md_in m))
  su_saving := fun m hm => suB_ok ((more_of c).su1 m hm)
  su_guarded := fun m hm => suB_ok ((more_of c).su2 m hm)
  su_checked := fun m hm => suB_ok ((more_of c).su3 m hm)
  ty := fun m => tyB_ok ((more_of c).ty m (md_in m))
theorem ask_of (c : SaysH K) : ∀ e ∈ errs, ExcC K (He.ga K e) ∧ PySem.W.exmOne K (.ref (He.ga K e)) (.ref (He.ga K "LinkError")) = some true ∧ PySem.W.kitOne K (.ref (He.ga K e)) (.type "ValueError") = some true ∧
    ∀ c ∈ asked, PySem.W.kitOne K (.ref (He.ga K e)) (.ref (He.ga K c)) = some (decide (e = c)) := fun e he => by
  have q : askB K e = true := (more_of c).ask e he
  unfold askB at q
  obtain ⟨h1, q⟩ := He.ba q
  obtain ⟨h2, q⟩ := He.ba q
  obtain ⟨h3, h4⟩ := He.ba q
  exact ⟨excB_ok h1, of_decide_eq_true h2, of_decide_eq_true h3, fun c hc => of_decide_eq_true (List.all_eq_true.mp h4 c hc)⟩
theorem topa_of (c : SaysH K) (X : K.In h) (G : h.Ns mainGlobals mg) : TopA PH K mg where
  toTopX := topx_of c X G
  sb := stB_ok c
  d_reached := t_reached c
  ax := fun e he => (ask_of c e he).1
  al := fun e he => (ask_of c e he).2.1
  ak := fun e he => (ask_of c e he).2.2.2
  av := fun e he => (ask_of c e he).2.2.1
theorem law_facts {w : World} (c : SaysH K) (X : K.In h) (G : h.Ns mainGlobals mg) {fa : Addr} (hfa : mg ("law" : Str) = some (.ref fa)) :
    ∃ fd : FuncData, (∀ (s : Shared) (v : Value), BindsTo s fd ⟨[v], []⟩ [("_law_script", v)]) ∧ ∀ base : Heap, K.In base → base.Ns mainGlobals mg → FnOk PH w K mg base CX0 14 fa fd ["_law_script"] (spLaw K) := by
  have T := topa_of c X G
  have e := hfa.symm.trans T.g_law
  cases e
  have b := FunD.bindsA (ps := ["_law_script"]) T.d_law fun _ _ _ _ _ _ us hl => match us, hl with | [_], _ => rfl
  exact ⟨fdOf K ("law", none), fun s v => b s [v] rfl, fun base _ _ => ok_law T⟩
end
end Lk

set_option maxHeartbeats 0
open PySem PySem.W PySem.Calls PyProof.Rows
theorem PySem.Challenge.cw_latelink_k37_whole_runs_holds : PySem.Challenge.rw_latelink_k37_whole_runs.Holds := by
  w_on; o_law
  refine HandSHeadRun.head_any (r := OpenLaw.row PySem.Challenge.rw_latelink_k37_whole_runs) (q := view (OpenLaw.row PySem.Challenge.rw_latelink_k37_whole_runs).prog [88]) (H := Lk.hkH) (ob := Lk.obT) (M := 15000) (loose := Lk.looseH) (d := HandSHeadRun.topDef (OpenLaw.row PySem.Challenge.rw_latelink_k37_whole_runs).prog 88) (kwd := []) Lk.obT_eq
    (by kernel_rfl) (fun s => by kernel_rfl) Lk.runH (by kernel_rfl) (by kernel_rfl) (by kernel_rfl) (by rfl) (by first | assumption | decide +kernel) (by decide +kernel) ⟨rfl, rfl, rfl, rfl, rfl, by decide +kernel⟩ ?hw ?hc
  case hw => w_witness2
  case hc =>
    refine L2.walk_ofE (l := PySem.Challenge.rw_latelink_k37_whole_runs) (n := 63) (k := 14) (x := "_law_script") (CX := L2.CX0) rfl (by decide) (by kernel_rfl) ⟨rfl, by decide, by decide⟩ ?F (fun _ _ _ _ z => z)
    intro w mg fa h Y G hmg0
    obtain ⟨K, KX, c⟩ := Y
    have hmg : mg ("law" : PySem.Str) = some (.ref fa) := by
      have e : (HandSHeadRun.topDef (OpenLaw.row PySem.Challenge.rw_latelink_k37_whole_runs).prog 88).name = ("law" : PySem.Str) := by kernel_rfl
      rw [← e]
      exact hmg0
    obtain ⟨fd, hb, hF⟩ := Lk.law_facts (w := w) c KX G hmg
    exact ⟨K, fd, Lk.spLaw K, KX, hb, fun H a ns hl _ hS => ⟨a, ns, rfl, hS, hl, fun _ => rfl⟩, hF⟩
#print axioms PySem.Challenge.cw_latelink_k37_whole_runs_holds
