import PyProof.Rows.All
import Wide.All
import OpenK.AllK
import Wide.FinOn
import HandS.ForMost
import HandS.Defaults
import PySem.Challenge.RW_twicewritten_k07_whole_common
import KE.KStateDown
import HandS.Head0
import HandS.Head1
import HandS.Head2
import HandS.HeadHook1
import HandS.HeadHook2
import HandS.HeadHook3
import HandS.HeadHook4
import HandS.HeadWalk
import HandS.IsInst
import HandS.StrMore
import HandS.Walk
import HandS.Evl
import HandS.WordsExc
import HandS.Exc
import HandS.Conv
import HandS.Set
import HandS.SetFor
import HandS.Strs
import PyProof.Rows.SortShellAny
import KE.KExcSuper
import KE.KSuper
import HandS.ExcInit
import HandS.ExcSuper
import HandS.Lambda
import PyProof.ReprRoads
import PyProof.StrLawsRepr
import HandS.ExcIs
import HandS.ExcField
import HandS.TryMany
import HandS.Deep
import KE.KLam
import PyProof.StrBlock2
import HandS.HeadEnd
import HandS.EndTab
import HandS.EndBits
set_option linter.all false
/-! The mathematics: texts (lists of letters 0 to 5), their gaps, steps and runs; copies; what comes of what. Core Lean alone. -/
namespace K7
abbrev Tx := List Nat
def Ok (l : Tx) : Prop := ∀ x ∈ l, x < 6
theorem Ok.take {l : Tx} (h : Ok l) (n : Nat) : Ok (l.take n) := fun x m => h x (List.mem_of_mem_take m)
theorem Ok.drop {l : Tx} (h : Ok l) (n : Nat) : Ok (l.drop n) := fun x m => h x (List.mem_of_mem_drop m)
theorem Ok.app {l m : Tx} (h : Ok l) (k : Ok m) : Ok (l ++ m) := fun x z => (List.mem_append.mp z).elim (h x) (k x)
theorem Ok.get {l : Tx} (h : Ok l) (i : Nat) (hi : i < l.length) : l[i] < 6 := h _ (List.getElem_mem hi)

def gap (near far : Nat) : Nat := (far + 6 - near) % 6
theorem gap_lt (a b : Nat) : gap a b < 6 := Nat.mod_lt _ (by decide)
theorem gap_self (a : Nat) : gap a a = 0 := by
  unfold gap
  rw [show a + 6 - a = 6 by omega]
def gaps (w : Nat) (l : Tx) : List Nat := List.zipWith gap l (l.drop w)
theorem gaps_len (w : Nat) (l : Tx) : (gaps w l).length = l.length - w := by
  unfold gaps
  rw [List.length_zipWith, List.length_drop]
  omega
theorem gaps_get (w : Nat) (l : Tx) (i : Nat) (h : i < (gaps w l).length) : (gaps w l)[i] = gap (l[i]'(by rw [gaps_len] at h; omega)) (l[i + w]'(by rw [gaps_len] at h; omega)) := by
  simp only [gaps, List.getElem_zipWith, List.getElem_drop, Nat.add_comm w i]
theorem gaps_lt {w : Nat} {l : Tx} : ∀ g ∈ gaps w l, g < 6 := fun g h => by
  obtain ⟨i, hi, e⟩ := List.mem_iff_getElem.mp h
  rw [← e, gaps_get]
  exact gap_lt _ _
def stepsG (gs : List Nat) : List Nat := gs.filter (fun g => g != 0)
def inc1 : List Nat → List Nat
  | [] => []
  | r :: rs => (r + 1) :: rs
def runsG : List Nat → List Nat
  | [] => [0]
  | 0 :: r => inc1 (runsG r)
  | (_ + 1) :: r => 0 :: runsG r
theorem runsG_ne : ∀ gs, runsG gs ≠ []
  | [] => by simp [runsG]
  | 0 :: r => by
    have h := runsG_ne r
    unfold runsG
    cases e : runsG r with
    | nil => exact absurd e h
    | cons a b => simp [inc1]
  | (n + 1) :: r => by simp [runsG]
theorem runsG_cons (gs : List Nat) : ∃ a r, runsG gs = a :: r := by
  cases e : runsG gs with
  | nil => exact absurd e (runsG_ne gs)
  | cons a r => exact ⟨a, r, rfl⟩
theorem runsG_len : ∀ gs, (runsG gs).length = (stepsG gs).length + 1
  | [] => rfl
  | 0 :: r => by
    have ih := runsG_len r
    obtain ⟨a, b, e⟩ := runsG_cons r
    show (inc1 (runsG r)).length = (stepsG (0 :: r)).length + 1
    rw [e] at ih ⊢
    exact ih
  | (n + 1) :: r => by
    have ih := runsG_len r
    show (runsG r).length + 1 = (stepsG ((n + 1) :: r)).length + 1
    rw [ih]
    rfl
/-- from behind -/
def incL : List Nat → List Nat
  | [] => []
  | [r] => [r + 1]
  | r :: s :: rs => r :: incL (s :: rs)
theorem incL_inc1 : ∀ (a : Nat) (r : List Nat), incL (inc1 (a :: r)) = inc1 (incL (a :: r))
  | a, [] => rfl
  | a, b :: r => rfl
theorem runsG_snoc0 : ∀ gs, runsG (gs ++ [0]) = incL (runsG gs)
  | [] => rfl
  | 0 :: r => by
    obtain ⟨a, b, e⟩ := runsG_cons r
    show inc1 (runsG (r ++ [0])) = incL (inc1 (runsG r))
    rw [runsG_snoc0 r, e, incL_inc1]
  | (n + 1) :: r => by
    obtain ⟨a, b, e⟩ := runsG_cons r
    show 0 :: runsG (r ++ [0]) = incL (0 :: runsG r)
    rw [runsG_snoc0 r, e]
    rfl
theorem inc1_app : ∀ (a : List Nat) (b : List Nat), a ≠ [] → inc1 (a ++ b) = inc1 a ++ b
  | [], _, h => absurd rfl h
  | _ :: _, _, _ => rfl
theorem runsG_snoc : ∀ gs (n : Nat), runsG (gs ++ [n + 1]) = runsG gs ++ [0]
  | [], n => rfl
  | 0 :: r, n => by
    show inc1 (runsG (r ++ [n + 1])) = inc1 (runsG r) ++ [0]
    rw [runsG_snoc r n, inc1_app _ _ (runsG_ne r)]
  | (m + 1) :: r, n => by
    show 0 :: runsG (r ++ [n + 1]) = 0 :: runsG r ++ [0]
    rw [runsG_snoc r n]
    rfl
theorem incL_last : ∀ {rs : List Nat} {k : Nat}, rs[rs.length - 1]? = some k → incL rs = rs.set (rs.length - 1) (k + 1)
  | [], k, h => by simp at h
  | [r], k, h => by
    have e : r = k := by simpa using h
    subst e
    rfl
  | r :: s :: rs, k, h => by
    have h' : (s :: rs)[(s :: rs).length - 1]? = some k := by
      rw [List.length_cons] at h ⊢
      rw [show (s :: rs).length + 1 - 1 = ((s :: rs).length - 1) + 1 by simp] at h
      simpa using h
    have ih := incL_last h'
    show r :: incL (s :: rs) = _
    rw [ih]
    simp
def lay : List Nat → List Nat → List Nat
  | _, [] => []
  | [], r :: rs => List.replicate r 0 ++ lay [] rs
  | s :: ss, r :: rs => List.replicate r 0 ++ s :: lay ss rs
theorem lay_inc1 (ss : List Nat) (a : Nat) (r : List Nat) : lay ss (inc1 (a :: r)) = 0 :: lay ss (a :: r) := by
  cases ss with
  | nil => simp [inc1, lay, List.replicate_succ]
  | cons s ss => simp [inc1, lay, List.replicate_succ]
theorem lay_of : ∀ gs, lay (stepsG gs) (runsG gs) = gs
  | [] => rfl
  | 0 :: r => by
    obtain ⟨a, b, e⟩ := runsG_cons r
    have ih := lay_of r
    show lay (stepsG r) (inc1 (runsG r)) = 0 :: r
    rw [e] at ih ⊢
    rw [lay_inc1, ih]
  | (n + 1) :: r => by
    have ih := lay_of r
    show lay ((n + 1) :: stepsG r) (0 :: runsG r) = (n + 1) :: r
    unfold lay
    rw [ih]
    rfl
theorem steps_rep (k : Nat) (gs : List Nat) : stepsG (List.replicate k 0 ++ gs) = stepsG gs := by
  induction k with
  | zero => rfl
  | succ k ih => exact ih
theorem steps_lay : ∀ (ss rs : List Nat), rs.length = ss.length + 1 → (∀ s ∈ ss, s ≠ 0) → stepsG (lay ss rs) = ss
  | _, [], h, _ => by simp at h
  | [], r :: rs, h, _ => by
    have e : rs = [] := by simpa using h
    subst e
    show stepsG (List.replicate r 0 ++ []) = []
    rw [steps_rep]
    rfl
  | s :: ss, r :: rs, h, hs => by
    have h0 : s ≠ 0 := hs s (List.mem_cons_self)
    have ih := steps_lay ss rs (by simpa using h) fun x m => hs x (List.mem_cons_of_mem _ m)
    show stepsG (List.replicate r 0 ++ s :: lay ss rs) = s :: ss
    rw [steps_rep]
    unfold stepsG at ih ⊢
    rw [List.filter_cons, if_pos (by simp [h0]), ih]
theorem runs_rep (k : Nat) (gs : List Nat) (a : Nat) (r : List Nat) (e : runsG gs = a :: r) : runsG (List.replicate k 0 ++ gs) = (a + k) :: r := by
  induction k with
  | zero => exact e
  | succ k ih =>
    show inc1 (runsG (List.replicate k 0 ++ gs)) = (a + (k + 1)) :: r
    rw [ih]
    rfl
theorem runs_lay : ∀ (ss rs : List Nat), rs.length = ss.length + 1 → (∀ s ∈ ss, s ≠ 0) → runsG (lay ss rs) = rs
  | _, [], h, _ => by simp at h
  | [], r :: rs, h, _ => by
    have e : rs = [] := by simpa using h
    subst e
    show runsG (List.replicate r 0 ++ []) = [r]
    rw [runs_rep r [] 0 [] rfl, Nat.zero_add]
  | s :: ss, r :: rs, h, hs => by
    have h0 : s ≠ 0 := hs s (List.mem_cons_self)
    have ih := runs_lay ss rs (by simpa using h) fun x m => hs x (List.mem_cons_of_mem _ m)
    show runsG (List.replicate r 0 ++ s :: lay ss rs) = r :: rs
    obtain ⟨n, rfl⟩ : ∃ n, s = n + 1 := ⟨s - 1, by omega⟩
    rw [runs_rep r ((n + 1) :: lay ss rs) 0 rs (by show 0 :: runsG (lay ss rs) = 0 :: rs; rw [ih]), Nat.zero_add]
theorem lay_lt : ∀ (ss rs : List Nat), (∀ s ∈ ss, s < 6) → ∀ g ∈ lay ss rs, g < 6
  | _, [], _, g, m => by simp [lay] at m
  | [], r :: rs, h, g, m => by
    rcases List.mem_append.mp (show g ∈ List.replicate r 0 ++ lay [] rs from m) with m | m
    · rw [List.eq_of_mem_replicate m]
      decide
    · exact lay_lt [] rs h g m
  | s :: ss, r :: rs, h, g, m => by
    rcases List.mem_append.mp (show g ∈ List.replicate r 0 ++ s :: lay ss rs from m) with m | m
    · rw [List.eq_of_mem_replicate m]
      decide
    · rcases List.mem_cons.mp m with rfl | m
      · exact h _ List.mem_cons_self
      · exact lay_lt ss rs (fun x z => h x (List.mem_cons_of_mem _ z)) g m
theorem lay_len : ∀ (ss rs : List Nat), rs.length = ss.length + 1 → (lay ss rs).length = ss.length + rs.sum
  | _, [], h => by simp at h
  | [], r :: rs, h => by
    have e : rs = [] := by simpa using h
    subst e
    simp [lay]
  | s :: ss, r :: rs, h => by
    have ih := lay_len ss rs (by simpa using h)
    show (List.replicate r 0 ++ s :: lay ss rs).length = _
    rw [List.length_append, List.length_replicate, List.length_cons, ih, List.sum_cons, List.length_cons]
    omega
/-! ### building -/
def build (w : Nat) (own : Tx) : List Nat → Tx
  | [] => own
  | g :: gs => build w (own ++ [(own.getD (own.length - w) 0 + g) % 6]) gs
theorem build_snoc (w : Nat) : ∀ (own : Tx) (gs : List Nat) (g : Nat), build w own (gs ++ [g]) = build w own gs ++ [((build w own gs).getD ((build w own gs).length - w) 0 + g) % 6]
  | own, [], g => rfl
  | own, a :: gs, g => build_snoc w _ gs g
theorem build_len (w : Nat) : ∀ (own : Tx) (gs : List Nat), (build w own gs).length = own.length + gs.length
  | own, [] => rfl
  | own, g :: gs => by
    show (build w (own ++ [_]) gs).length = _
    rw [build_len w _ gs, List.length_append]
    simp
    omega
theorem build_pre (w : Nat) : ∀ (own : Tx) (gs : List Nat), (build w own gs).take own.length = own
  | own, [] => List.take_length
  | own, g :: gs => by
    show (build w (own ++ [_]) gs).take own.length = own
    have h := build_pre w (own ++ [(own.getD (own.length - w) 0 + g) % 6]) gs
    have := congrArg (List.take own.length) h
    rw [List.take_take, List.length_append] at this
    rw [show min own.length (own.length + [(own.getD (own.length - w) 0 + g) % 6].length) = own.length by simp] at this
    rw [this, List.take_left]
theorem build_ok (w : Nat) : ∀ (own : Tx) (gs : List Nat), Ok own → Ok (build w own gs)
  | own, [], h => h
  | own, g :: gs, h => build_ok w _ gs (h.app fun x m => by
    rw [List.mem_singleton.mp m]
    exact Nat.mod_lt _ (by decide))
theorem gap_back {a g : Nat} (ha : a < 6) (hg : g < 6) : gap a ((a + g) % 6) = g := by
  unfold gap
  omega
theorem back_gap {a b : Nat} (ha : a < 6) (hb : b < 6) : (a + gap a b) % 6 = b := by
  unfold gap
  omega
/-- a text is built of its first letters and its gaps -/
theorem build_gaps {w : Nat} (hw : 1 ≤ w) {l : Tx} (hl : w ≤ l.length) (ok : Ok l) : ∀ k, k ≤ (gaps w l).length → build w (l.take w) ((gaps w l).take k) = l.take (w + k)
  | 0, _ => by simp [build]
  | k + 1, hk => by
    have ih := build_gaps hw hl ok k (by omega)
    have hk' : k < (gaps w l).length := hk
    rw [List.take_add_one, List.getElem?_eq_getElem hk']
    show build w (l.take w) ((gaps w l).take k ++ [(gaps w l)[k]]) = _
    rw [build_snoc, ih]
    rw [gaps_len] at hk'
    have e1 : (l.take (w + k)).length = w + k := by
      rw [List.length_take]
      omega
    rw [e1, show w + k - w = k by omega]
    have e2 : (l.take (w + k)).getD k 0 = l[k]'(by omega) := by
      rw [List.getD_eq_getElem?_getD, List.getElem?_take]
      rw [if_pos (by omega), List.getElem?_eq_getElem (by omega)]
      rfl
    rw [e2, gaps_get, back_gap (ok.get _ _) (ok.get _ _), ← Nat.add_assoc, List.take_add_one, List.getElem?_eq_getElem (by omega)]
    show _ = _ ++ [_]
    congr 2
    congr 1
    omega
theorem build_of {w : Nat} (hw : 1 ≤ w) {l : Tx} (hl : w ≤ l.length) (ok : Ok l) : build w (l.take w) (gaps w l) = l := by
  have h := build_gaps hw hl ok (gaps w l).length (Nat.le_refl _)
  rw [List.take_length, gaps_len, show w + (l.length - w) = l.length by omega, List.take_length] at h
  exact h
theorem gaps_snoc {w : Nat} (hw : 1 ≤ w) {l : Tx} (hl : w ≤ l.length) (x : Nat) : gaps w (l ++ [x]) = gaps w l ++ [gap (l.getD (l.length - w) 0) x] := by
  apply List.ext_getElem
  · rw [gaps_len, List.length_append, List.length_append, gaps_len]
    simp
    omega
  · intro i h1 h2
    rw [gaps_get]
    rw [gaps_len, List.length_append] at h1
    simp at h1
    by_cases hi : i < (gaps w l).length
    · have hi' := hi
      rw [gaps_len] at hi'
      rw [List.getElem_append_left hi, gaps_get, List.getElem_append_left (by omega), List.getElem_append_left (by omega)]
    · have e : i = (gaps w l).length := by
        rw [gaps_len] at hi ⊢
        omega
      have e' := e
      rw [gaps_len] at e'
      have h3 : ∀ (j : Nat) (hj : j < (l ++ [x]).length), j = l.length → (l ++ [x])[j] = x := fun j hj q => by
        subst q
        exact List.getElem_concat_length rfl _
      have h4 : ∀ (hj : i < (gaps w l ++ [gap (l.getD (l.length - w) 0) x]).length), (gaps w l ++ [gap (l.getD (l.length - w) 0) x])[i] = gap (l.getD (l.length - w) 0) x := fun hj => by
        rw [List.getElem_append_right (by omega)]
        exact List.getElem_singleton _
      rw [h4, h3 (i + w) _ (by omega), List.getElem_append_left (by omega)]
      congr 1
      subst e'
      rw [List.getD_eq_getElem?_getD, List.getElem?_eq_getElem (by omega)]
      rfl
theorem gaps_build {w : Nat} (hw : 1 ≤ w) : ∀ (own : Tx) (gs : List Nat), w ≤ own.length → Ok own → (∀ g ∈ gs, g < 6) → gaps w (build w own gs) = gaps w own ++ gs
  | own, [], _, _, _ => (List.append_nil _).symm
  | own, g :: gs, h, ok, hg => by
    have ok' : Ok (own ++ [(own.getD (own.length - w) 0 + g) % 6]) := ok.app fun x m => by
      rw [List.mem_singleton.mp m]
      exact Nat.mod_lt _ (by decide)
    show gaps w (build w (own ++ [_]) gs) = _
    rw [gaps_build hw _ gs (by rw [List.length_append]; omega) ok' fun x m => hg x (List.mem_cons_of_mem _ m), gaps_snoc hw h]
    have : own.getD (own.length - w) 0 < 6 := by
      rw [List.getD_eq_getElem?_getD, List.getElem?_eq_getElem (by omega)]
      exact ok.get _ _
    rw [gap_back this (hg g List.mem_cons_self), List.append_assoc]
    rfl
theorem gaps_self (w : Nat) {l : Tx} (h : l.length ≤ w) : gaps w l = [] := List.eq_nil_of_length_eq_zero (by rw [gaps_len]; omega)
theorem gaps_build0 {w : Nat} (hw : 1 ≤ w) {own : Tx} {gs : List Nat} (h : own.length = w) (ok : Ok own) (hg : ∀ g ∈ gs, g < 6) : gaps w (build w own gs) = gs := by
  rw [gaps_build hw own gs (by omega) ok hg, gaps_self w (by omega)]
  rfl
/-- two texts with the same first letters and gaps -/
theorem same_text {w : Nat} (hw : 1 ≤ w) {l m : Tx} (hl : w ≤ l.length) (hm : w ≤ m.length) (ol : Ok l) (om : Ok m) (e1 : l.take w = m.take w) (e2 : gaps w l = gaps w m) : l = m := by
  rw [← build_of hw hl ol, ← build_of hw hm om, e1, e2]
abbrev steps (w : Nat) (l : Tx) : List Nat := stepsG (gaps w l)
abbrev runs (w : Nat) (l : Tx) : List Nat := runsG (gaps w l)
theorem same_text' {w : Nat} (hw : 1 ≤ w) {l m : Tx} (hl : w ≤ l.length) (hm : w ≤ m.length) (ol : Ok l) (om : Ok m) (e1 : l.take w = m.take w) (e2 : steps w l = steps w m) (e3 : runs w l = runs w m) : l = m := by
  refine same_text hw hl hm ol om e1 ?_
  rw [← lay_of (gaps w l), ← lay_of (gaps w m)]
  show lay (steps w l) (runs w l) = lay (steps w m) (runs w m)
  rw [e2, e3]
theorem steps_ne {w : Nat} {l : Tx} : ∀ s ∈ steps w l, s ≠ 0 := fun s m => by
  have := (List.mem_filter.mp m).2
  simpa using this
theorem steps_lt {w : Nat} {l : Tx} : ∀ s ∈ steps w l, s < 6 := fun s m => gaps_lt s (List.mem_filter.mp m).1
/-- the text of first letters, steps and runs -/
def mk (w : Nat) (front ss rs : List Nat) : Tx := build w front (lay ss rs)
theorem mk_self {w : Nat} (hw : 1 ≤ w) {l : Tx} (hl : w ≤ l.length) (ok : Ok l) : mk w (l.take w) (steps w l) (runs w l) = l := by
  unfold mk
  rw [show lay (steps w l) (runs w l) = gaps w l from lay_of _, build_of hw hl ok]
section
variable {w : Nat} {front ss rs : List Nat} (hw : 1 ≤ w) (hf : front.length = w) (of : Ok front) (hs : ∀ s ∈ ss, s ≠ 0) (hs6 : ∀ s ∈ ss, s < 6) (hr : rs.length = ss.length + 1)
include hw hf of hs hs6 hr
theorem mk_gaps : gaps w (mk w front ss rs) = lay ss rs := gaps_build0 hw hf of (lay_lt ss rs hs6)
theorem mk_steps : steps w (mk w front ss rs) = ss := by
  unfold steps
  rw [mk_gaps hw hf of hs hs6 hr, steps_lay ss rs hr hs]
theorem mk_runs : runs w (mk w front ss rs) = rs := by
  unfold runs
  rw [mk_gaps hw hf of hs hs6 hr, runs_lay ss rs hr hs]
end
theorem mk_take {w : Nat} {front ss rs : List Nat} (hf : front.length = w) : (mk w front ss rs).take w = front := by
  rw [← hf]
  exact build_pre _ front _
theorem mk_ok {w : Nat} {front ss rs : List Nat} (of : Ok front) : Ok (mk w front ss rs) := build_ok w front _ of
theorem mk_len {w : Nat} {front ss rs : List Nat} (hr : rs.length = ss.length + 1) : (mk w front ss rs).length = front.length + (ss.length + rs.sum) := by
  unfold mk
  rw [build_len, lay_len ss rs hr]
theorem runs_len {w : Nat} {l : Tx} : (runs w l).length = (steps w l).length + 1 := runsG_len _
theorem len_of {w : Nat} (hw : 1 ≤ w) {l : Tx} (hl : w ≤ l.length) (ok : Ok l) : l.length = w + ((steps w l).length + (runs w l).sum) := by
  have e := congrArg List.length (mk_self hw hl ok)
  rw [mk_len runs_len, List.length_take] at e
  omega
end K7

set_option linter.all false
namespace K7
/-- a copy at p -/
def cp (w p : Nat) (l : Tx) : Tx := l.take (p + w) ++ l.drop p
/-- a doubling at p undone -/
def un (w p : Nat) (l : Tx) : Tx := l.take (p + w) ++ l.drop (p + 2 * w)
/-- whether a stretch stands twice -/
def twice (w p : Nat) (l : Tx) : Bool := decide (p + 2 * w ≤ l.length) && decide ((l.drop p).take w = (l.drop (p + w)).take w)
theorem cp_len {w p : Nat} {l : Tx} (h : p + w ≤ l.length) : (cp w p l).length = l.length + w := by
  unfold cp
  rw [List.length_append, List.length_take, List.length_drop]
  omega
theorem cp_ok {w p : Nat} {l : Tx} (h : Ok l) : Ok (cp w p l) := (h.take _).app (h.drop _)
theorem un_ok {w p : Nat} {l : Tx} (h : Ok l) : Ok (un w p l) := (h.take _).app (h.drop _)
theorem un_len {w p : Nat} {l : Tx} (h : p + 2 * w ≤ l.length) : (un w p l).length + w = l.length := by
  unfold un
  rw [List.length_append, List.length_take, List.length_drop]
  omega
theorem un_cp {w p : Nat} {l : Tx} (h : p + w ≤ l.length) : un w p (cp w p l) = l := by
  have e1 : (l.take (p + w)).length = p + w := by
    rw [List.length_take]
    omega
  unfold un cp
  rw [List.take_append, List.drop_append, e1, Nat.sub_self, List.take_zero, List.append_nil, List.take_take, Nat.min_self, List.drop_eq_nil_of_le (by omega), List.nil_append, List.drop_drop, show p + (p + 2 * w - (p + w)) = p + w by omega, List.take_append_drop]
theorem twice_cp {w p : Nat} {l : Tx} (h : p + w ≤ l.length) : twice w p (cp w p l) = true := by
  have e1 : (l.take (p + w)).length = p + w := by
    rw [List.length_take]
    omega
  unfold twice
  rw [Bool.and_eq_true, decide_eq_true_eq, decide_eq_true_eq, cp_len h]
  refine ⟨by omega, ?_⟩
  unfold cp
  rw [List.drop_append, e1, List.drop_append, e1, Nat.sub_self, List.drop_zero, List.drop_eq_nil_of_le (as := l.take (p + w)) (i := p + w) (by omega), List.nil_append, show p - (p + w) = 0 by omega, List.drop_zero, List.take_append, List.drop_take]
  rw [show (List.take (p + w - p) (List.drop p l)).length = w by rw [List.length_take, List.length_drop]; omega, Nat.sub_self, List.take_zero, List.append_nil, List.take_take]
  congr 1
  omega
theorem cp_un {w p : Nat} {l : Tx} (h : twice w p l = true) : p + w ≤ (un w p l).length ∧ cp w p (un w p l) = l := by
  unfold twice at h
  rw [Bool.and_eq_true, decide_eq_true_eq, decide_eq_true_eq] at h
  obtain ⟨h1, h2⟩ := h
  have hl := un_len h1
  refine ⟨by omega, ?_⟩
  have e1 : (l.take (p + w)).length = p + w := by
    rw [List.length_take]
    omega
  unfold cp un
  rw [List.take_append, List.drop_append, e1, Nat.sub_self, List.take_zero, List.append_nil, List.take_take, Nat.min_self, show p - (p + w) = 0 by omega, List.drop_zero, List.drop_take, show p + w - p = w by omega, h2]
  have e2 : (l.drop (p + w)).take w ++ l.drop (p + 2 * w) = l.drop (p + w) := by
    have := List.take_append_drop w (l.drop (p + w))
    rw [List.drop_drop, show p + w + w = p + 2 * w by omega] at this
    exact this
  rw [e2, List.take_append_drop]
/-- one copy -/
def Cp (w : Nat) (e l : Tx) : Prop := ∃ p, p + w ≤ e.length ∧ l = cp w p e
theorem Cp.len {w : Nat} {e l : Tx} (h : Cp w e l) : l.length = e.length + w := by
  obtain ⟨p, hp, rfl⟩ := h
  exact cp_len hp
theorem Cp.ok {w : Nat} {e l : Tx} (h : Cp w e l) (ok : Ok e) : Ok l := by
  obtain ⟨p, hp, rfl⟩ := h
  exact cp_ok ok
theorem Cp.ok' {w : Nat} {e l : Tx} (h : Cp w e l) (ok : Ok l) : Ok e := by
  obtain ⟨p, hp, rfl⟩ := h
  have := un_ok (w := w) (p := p) ok
  rwa [un_cp hp] at this
theorem Cp.wide {w : Nat} {e l : Tx} (h : Cp w e l) : w ≤ e.length := by
  obtain ⟨p, hp, rfl⟩ := h
  omega
/-- undone = a copy, backwards -/
theorem un_iff {w : Nat} {e l : Tx} : (∃ p, twice w p l = true ∧ e = un w p l) ↔ Cp w e l := by
  constructor
  · rintro ⟨p, h, rfl⟩
    obtain ⟨h1, h2⟩ := cp_un h
    exact ⟨p, h1, h2.symm⟩
  · rintro ⟨p, hp, rfl⟩
    exact ⟨p, twice_cp hp, (un_cp hp).symm⟩
/-! ### gaps of a copy -/
def ins (w p : Nat) (gs : List Nat) : List Nat := gs.take p ++ (List.replicate w 0 ++ gs.drop p)
theorem gaps_cp {w p : Nat} {l : Tx} (h : p + w ≤ l.length) : gaps w (cp w p l) = ins w p (gaps w l) := by
  have hg := gaps_len w l
  have hc := gaps_len w (cp w p l)
  rw [cp_len h] at hc
  have e1 : (l.take (p + w)).length = p + w := by
    rw [List.length_take]
    omega
  have get : ∀ (i : Nat) (hi : i < (cp w p l).length), (cp w p l)[i] = if h' : i < p + w then l[i]'(by omega) else l[i - w]'(by rw [cp_len h] at hi; omega) := fun i hi => by
    have hi' := hi
    rw [cp_len h] at hi'
    refine (List.getElem_of_eq (show cp w p l = l.take (p + w) ++ l.drop p from rfl) hi).trans ?_
    by_cases c : i < p + w
    · rw [dif_pos c, List.getElem_append_left (by omega), List.getElem_take]
    · rw [dif_neg c, List.getElem_append_right (by omega), List.getElem_drop]
      congr 1
      omega
  apply List.ext_getElem
  · unfold ins
    rw [hc, List.length_append, List.length_append, List.length_take, List.length_replicate, List.length_drop, hg]
    omega
  · intro i h1 h2
    rw [gaps_get, get, get]
    rw [hc] at h1
    refine Eq.trans ?_ (List.getElem_of_eq (show ins w p (gaps w l) = (gaps w l).take p ++ (List.replicate w 0 ++ (gaps w l).drop p) from rfl) h2).symm
    by_cases c1 : i < p
    · rw [dif_pos (by omega), dif_pos (by omega), List.getElem_append_left (by rw [List.length_take]; omega), List.getElem_take, gaps_get]
    · have c2 : p = ((gaps w l).take p).length := by
        rw [List.length_take]
        omega
      rw [List.getElem_append_right (by omega)]
      by_cases c3 : i < p + w
      · rw [dif_pos c3, dif_neg (by omega), List.getElem_append_left (by rw [List.length_replicate]; omega), List.getElem_replicate]
        simp only [Nat.add_sub_cancel]
        exact gap_self _
      · rw [dif_neg c3, dif_neg (by omega), List.getElem_append_right (by rw [List.length_replicate]; omega), List.getElem_drop, gaps_get]
        congr 1
        · congr 1
          rw [List.length_replicate]
          omega
        · congr 1
          rw [List.length_replicate]
          omega
theorem take_cp {w p : Nat} {l : Tx} (h : p + w ≤ l.length) : (cp w p l).take w = l.take w := by
  unfold cp
  rw [List.take_append, List.length_take, show w - min (p + w) l.length = 0 by omega, List.take_zero, List.append_nil, List.take_take, show min w (p + w) = w by omega]
theorem steps_ins (w p : Nat) (gs : List Nat) : stepsG (ins w p gs) = stepsG gs := by
  have h : ∀ a b : List Nat, stepsG (a ++ b) = stepsG a ++ stepsG b := fun a b => List.filter_append ..
  unfold ins
  rw [h, steps_rep, ← h, List.take_append_drop]
/-- one run more by w -/
def bump (w : Nat) : Nat → List Nat → List Nat
  | _, [] => []
  | 0, r :: rs => (r + w) :: rs
  | i + 1, r :: rs => r :: bump w i rs
theorem bump_inc1 (w i : Nat) (a : Nat) (r : List Nat) : bump w i (inc1 (a :: r)) = inc1 (bump w i (a :: r)) := by
  cases i with
  | zero =>
    show (a + 1 + w) :: r = (a + w + 1) :: r
    congr 1
    omega
  | succ i => rfl
theorem runs_ins (w : Nat) : ∀ (gs : List Nat) (p : Nat), p ≤ gs.length → ∃ i, i < (runsG gs).length ∧ runsG (ins w p gs) = bump w i (runsG gs)
  | gs, 0, _ => by
    obtain ⟨a, r, e⟩ := runsG_cons gs
    refine ⟨0, by rw [e]; exact Nat.zero_lt_succ _, ?_⟩
    show runsG (List.replicate w 0 ++ gs) = _
    rw [runs_rep w gs a r e, e]
    rfl
  | [], p + 1, h => by simp at h
  | 0 :: gs, p + 1, h => by
    obtain ⟨i, hi, e⟩ := runs_ins w gs p (by simpa using h)
    obtain ⟨a, r, ea⟩ := runsG_cons gs
    refine ⟨i, ?_, ?_⟩
    · show i < (inc1 (runsG gs)).length
      rw [ea] at hi ⊢
      exact hi
    · show inc1 (runsG (ins w p gs)) = bump w i (inc1 (runsG gs))
      rw [e, ea, bump_inc1]
  | (n + 1) :: gs, p + 1, h => by
    obtain ⟨i, hi, e⟩ := runs_ins w gs p (by simpa using h)
    refine ⟨i + 1, ?_, ?_⟩
    · show i + 1 < (0 :: runsG gs).length
      simpa using hi
    · show 0 :: runsG (ins w p gs) = 0 :: bump w i (runsG gs)
      rw [e]
theorem runs_ins' (w : Nat) : ∀ (gs : List Nat) (i : Nat), i < (runsG gs).length → ∃ p, p ≤ gs.length ∧ runsG (ins w p gs) = bump w i (runsG gs)
  | gs, 0, _ => by
    obtain ⟨a, r, e⟩ := runsG_cons gs
    refine ⟨0, Nat.zero_le _, ?_⟩
    show runsG (List.replicate w 0 ++ gs) = _
    rw [runs_rep w gs a r e, e]
    rfl
  | [], i + 1, h => by simp [runsG] at h
  | 0 :: gs, i + 1, h => by
    obtain ⟨a, r, ea⟩ := runsG_cons gs
    obtain ⟨p, hp, e⟩ := runs_ins' w gs (i + 1) (by
      have h' : i + 1 < (inc1 (runsG gs)).length := h
      rw [ea] at h' ⊢
      exact h')
    refine ⟨p + 1, by simpa using hp, ?_⟩
    show inc1 (runsG (ins w p gs)) = bump w (i + 1) (inc1 (runsG gs))
    rw [e, ea, bump_inc1]
  | (n + 1) :: gs, i + 1, h => by
    obtain ⟨p, hp, e⟩ := runs_ins' w gs i (by
      have h' : i + 1 < (0 :: runsG gs).length := h
      simpa using h')
    refine ⟨p + 1, by simpa using hp, ?_⟩
    show 0 :: runsG (ins w p gs) = 0 :: bump w i (runsG gs)
    rw [e]
/-! ### pointwise more by multiples of w -/
def PW (w : Nat) : List Nat → List Nat → Prop
  | [], [] => True
  | a :: as, b :: bs => (∃ k, b = a + k * w) ∧ PW w as bs
  | _, _ => False
theorem PW.refl (w : Nat) : ∀ rs, PW w rs rs
  | [] => trivial
  | a :: r => ⟨⟨0, by omega⟩, PW.refl w r⟩
theorem PW.trans {w : Nat} : ∀ {a b c : List Nat}, PW w a b → PW w b c → PW w a c
  | [], [], [], _, _ => trivial
  | _ :: _, _ :: _, _ :: _, ⟨⟨k, h⟩, t⟩, ⟨⟨k', h'⟩, t'⟩ => ⟨⟨k + k', by rw [h', h, Nat.add_mul, Nat.add_assoc]⟩, t.trans t'⟩
  | [], [], _ :: _, _, h => h.elim
  | [], _ :: _, _, h, _ => h.elim
  | _ :: _, [], _, h, _ => h.elim
  | _ :: _, _ :: _, [], _, h => h.elim
theorem PW.len {w : Nat} : ∀ {a b : List Nat}, PW w a b → a.length = b.length
  | [], [], _ => rfl
  | _ :: _, _ :: _, ⟨_, t⟩ => by
    rw [List.length_cons, List.length_cons, t.len]
  | [], _ :: _, h => h.elim
  | _ :: _, [], h => h.elim
theorem PW.sum {w : Nat} : ∀ {a b : List Nat}, PW w a b → ∃ n, b.sum = a.sum + n * w
  | [], [], _ => ⟨0, by simp⟩
  | x :: a, y :: b, ⟨⟨k, h⟩, t⟩ => by
    obtain ⟨n, e⟩ := t.sum
    refine ⟨k + n, ?_⟩
    rw [List.sum_cons, List.sum_cons, e, h, Nat.add_mul]
    omega
  | [], _ :: _, h => h.elim
  | _ :: _, [], h => h.elim
theorem bump_len (w : Nat) : ∀ (i : Nat) (rs : List Nat), (bump w i rs).length = rs.length
  | _, [] => by simp [bump]
  | 0, r :: rs => rfl
  | i + 1, r :: rs => by
    show (bump w i rs).length + 1 = _
    rw [bump_len w i rs]
    rfl
theorem bump_sum (w : Nat) : ∀ (i : Nat) (rs : List Nat), i < rs.length → (bump w i rs).sum = rs.sum + w
  | _, [], h => by simp at h
  | 0, r :: rs, _ => by
    show ((r + w) :: rs).sum = _
    rw [List.sum_cons, List.sum_cons]
    omega
  | i + 1, r :: rs, h => by
    show (r :: bump w i rs).sum = _
    rw [List.sum_cons, List.sum_cons, bump_sum w i rs (by simpa using h)]
    omega
theorem PW.bump (w : Nat) : ∀ (i : Nat) (rs : List Nat), PW w rs (bump w i rs)
  | _, [] => by simp [K7.bump, PW]
  | 0, r :: rs => ⟨⟨1, by omega⟩, PW.refl w rs⟩
  | i + 1, r :: rs => ⟨⟨0, by omega⟩, PW.bump w i rs⟩
/-- the last step of a way up -/
theorem PW.down {w : Nat} (hw : 1 ≤ w) : ∀ {a b : List Nat} {n : Nat}, PW w a b → b.sum = a.sum + (n + 1) * w → ∃ i c, i < c.length ∧ PW w a c ∧ b = K7.bump w i c
  | [], [], n, _, e => by
    exfalso
    have : (n + 1) * w ≥ 1 := Nat.le_trans hw (Nat.le_mul_of_pos_left w (Nat.succ_pos n))
    simp at e
    omega
  | x :: a, y :: b, n, ⟨⟨k, h⟩, t⟩, e => by
    cases k with
    | succ k =>
      refine ⟨0, (x + k * w) :: b, by simp, ⟨⟨k, rfl⟩, t⟩, ?_⟩
      show y :: b = (x + k * w + w) :: b
      congr 1
      rw [h, Nat.add_mul]
      omega
    | zero =>
      have e' : b.sum = a.sum + (n + 1) * w := by
        rw [List.sum_cons, List.sum_cons, h] at e
        omega
      obtain ⟨i, c, hi, hc, rfl⟩ := t.down hw e'
      exact ⟨i + 1, y :: c, by simpa using hi, ⟨⟨0, h⟩, hc⟩, rfl⟩
  | [], _ :: _, _, h, _ => h.elim
  | _ :: _, [], _, h, _ => h.elim
theorem PW.sum_eq {w : Nat} : ∀ {a b : List Nat}, PW w a b → b.sum ≤ a.sum → a = b
  | [], [], _, _ => rfl
  | x :: a, y :: b, ⟨⟨k, h⟩, t⟩, e => by
    obtain ⟨n, en⟩ := t.sum
    rw [List.sum_cons, List.sum_cons, en, h] at e
    have h1 : k * w = 0 := by omega
    rw [h1] at h
    have := t.sum_eq (by omega)
    rw [this, h]
    rfl
  | [], _ :: _, h, _ => h.elim
  | _ :: _, [], h, _ => h.elim
/-! ### n copies -/
def R (w : Nat) : Nat → Tx → Tx → Prop
  | 0, e, l => l = e
  | n + 1, e, l => ∃ m, R w n e m ∧ Cp w m l
theorem R.len {w : Nat} : ∀ {n : Nat} {e l : Tx}, R w n e l → l.length = e.length + n * w
  | 0, e, l, h => by
    have h' : l = e := h
    rw [h']
    omega
  | n + 1, e, l, ⟨m, h, c⟩ => by
    rw [c.len, h.len, Nat.add_mul]
    omega
theorem R.ok {w : Nat} : ∀ {n : Nat} {e l : Tx}, R w n e l → Ok e → Ok l
  | 0, e, l, h, o => by
    have h' : l = e := h
    rw [h']
    exact o
  | n + 1, e, l, ⟨m, h, c⟩, o => c.ok (h.ok o)
theorem R.ok' {w : Nat} : ∀ {n : Nat} {e l : Tx}, R w n e l → Ok l → Ok e
  | 0, e, l, h, o => by
    have h' : l = e := h
    rw [← h']
    exact o
  | n + 1, e, l, ⟨m, h, c⟩, o => h.ok' (c.ok' o)
theorem R.trans {w : Nat} : ∀ {n k : Nat} {e m l : Tx}, R w k e m → R w n m l → R w (k + n) e l
  | 0, k, e, m, l, h, h' => by
    have h'' : l = m := h'
    rw [h'']
    exact h
  | n + 1, k, e, m, l, h, ⟨z, h', c⟩ => ⟨z, h.trans h', c⟩
theorem R.one {w : Nat} {e l : Tx} (h : Cp w e l) : R w 1 e l := ⟨e, rfl, h⟩
theorem R.split {w : Nat} : ∀ {n k : Nat} {e l : Tx}, R w (k + n) e l → ∃ m, R w k e m ∧ R w n m l
  | 0, k, e, l, h => ⟨l, h, rfl⟩
  | n + 1, k, e, l, ⟨z, h, c⟩ => by
    obtain ⟨m, h1, h2⟩ := R.split (n := n) h
    exact ⟨m, h1, z, h2, c⟩
theorem R.first {w : Nat} {n : Nat} {e l : Tx} (h : R w (n + 1) e l) : ∃ m, Cp w e m ∧ R w n m l := by
  rw [Nat.add_comm] at h
  obtain ⟨m, ⟨z, rfl, h1⟩, h2⟩ := R.split h
  exact ⟨m, h1, h2⟩
theorem R.coords {w : Nat} (hw : 1 ≤ w) : ∀ {n : Nat} {e l : Tx}, w ≤ e.length → R w n e l → l.take w = e.take w ∧ steps w l = steps w e ∧ PW w (runs w e) (runs w l) ∧ (runs w l).sum = (runs w e).sum + n * w
  | 0, e, l, _, h => by
    have h' : l = e := h
    rw [h']
    exact ⟨rfl, rfl, PW.refl w _, by omega⟩
  | n + 1, e, l, he, ⟨m, h, p, hp, el⟩ => by
    obtain ⟨h1, h2, h3, h4⟩ := R.coords hw he h
    have hg : gaps w l = ins w p (gaps w m) := by rw [el, gaps_cp hp]
    obtain ⟨i, hi, ei⟩ := runs_ins w (gaps w m) p (by rw [gaps_len]; omega)
    refine ⟨by rw [el, take_cp hp, h1], ?_, ?_, ?_⟩
    · show stepsG (gaps w l) = _
      rw [hg, steps_ins]
      exact h2
    · show PW w _ (runsG (gaps w l))
      rw [hg, ei]
      exact h3.trans (PW.bump w i _)
    · show (runsG (gaps w l)).sum = _
      rw [hg, ei, bump_sum w i _ hi, Nat.add_mul]
      have : (runsG (gaps w m)).sum = (runs w e).sum + n * w := h4
      omega
theorem R.of {w : Nat} (hw : 1 ≤ w) : ∀ {n : Nat} {e l : Tx}, w ≤ e.length → w ≤ l.length → Ok e → Ok l → l.take w = e.take w → steps w l = steps w e → PW w (runs w e) (runs w l) → (runs w l).sum = (runs w e).sum + n * w → R w n e l
  | 0, e, l, he, hl, oe, ol, h1, h2, h3, h4 => same_text' hw hl he ol oe h1 h2 (h3.sum_eq (by omega)).symm
  | n + 1, e, l, he, hl, oe, ol, h1, h2, h3, h4 => by
    obtain ⟨i, c, hi, hc, eb⟩ := h3.down hw h4
    have hcl : c.length = (steps w e).length + 1 := by rw [← hc.len, runs_len]
    have hf : (e.take w).length = w := by
      rw [List.length_take]
      omega
    have om : Ok (mk w (e.take w) (steps w e) c) := mk_ok (oe.take w)
    have mt : (mk w (e.take w) (steps w e) c).take w = e.take w := mk_take hf
    have ms : steps w (mk w (e.take w) (steps w e) c) = steps w e := mk_steps hw hf (oe.take w) steps_ne steps_lt hcl
    have mr : runs w (mk w (e.take w) (steps w e) c) = c := mk_runs hw hf (oe.take w) steps_ne steps_lt hcl
    have ml : w ≤ (mk w (e.take w) (steps w e) c).length := by
      rw [mk_len hcl, hf]
      omega
    have hsum : c.sum + w = (runs w l).sum := by rw [eb, bump_sum w i c hi]
    refine ⟨mk w (e.take w) (steps w e) c, R.of hw he ml oe om mt ms (by rw [mr]; exact hc) (by
      rw [mr]
      rw [Nat.add_mul] at h4
      omega), ?_⟩
    obtain ⟨p, hp, ep⟩ := runs_ins' w (gaps w (mk w (e.take w) (steps w e) c)) i (by
      show i < (runs w (mk w (e.take w) (steps w e) c)).length
      rw [mr]
      exact hi)
    have hp' : p + w ≤ (mk w (e.take w) (steps w e) c).length := by
      rw [gaps_len] at hp
      omega
    refine ⟨p, hp', same_text' hw hl (by rw [cp_len hp']; omega) ol (cp_ok om) (by rw [take_cp hp', mt, h1]) ?_ ?_⟩
    · show _ = stepsG (gaps w (cp w p _))
      rw [gaps_cp hp', steps_ins, h2]
      exact ms.symm
    · show _ = runsG (gaps w (cp w p _))
      rw [gaps_cp hp', ep, eb]
      congr 1
      exact mr.symm
theorem R.short {w : Nat} : ∀ {n : Nat} {e l : Tx}, e.length < w → R w n e l → l = e
  | 0, e, l, _, h => h
  | n + 1, e, l, he, h => by
    obtain ⟨m, c, _⟩ := h.first
    have := c.wide
    omega
/-- what comes of what -/
def Rc (w : Nat) (e l : Tx) : Prop := ∃ n, R w n e l
theorem Rc.refl (w : Nat) (l : Tx) : Rc w l l := ⟨0, rfl⟩
theorem Rc.trans {w : Nat} {a b c : Tx} : Rc w a b → Rc w b c → Rc w a c := fun ⟨n, h⟩ ⟨k, h'⟩ => ⟨n + k, h.trans h'⟩
theorem Rc.ok {w : Nat} {a b : Tx} : Rc w a b → Ok a → Ok b := fun ⟨_, h⟩ o => h.ok o
theorem Rc.ok' {w : Nat} {a b : Tx} : Rc w a b → Ok b → Ok a := fun ⟨_, h⟩ o => h.ok' o
theorem Rc.le {w : Nat} {a b : Tx} : Rc w a b → a.length ≤ b.length := fun ⟨n, h⟩ => by
  rw [h.len]
  omega
theorem Rc.wide {w : Nat} {a b : Tx} (h : Rc w a b) : w ≤ b.length → w ≤ a.length := fun hb => by
  obtain ⟨n, h⟩ := h
  by_cases c : a.length < w
  · rw [h.short c] at hb
    omega
  · omega
/-- the coordinates tell it -/
theorem Rc_iff {w : Nat} (hw : 1 ≤ w) {e l : Tx} (he : w ≤ e.length) (oe : Ok e) (ol : Ok l) : Rc w e l ↔ w ≤ l.length ∧ l.take w = e.take w ∧ steps w l = steps w e ∧ PW w (runs w e) (runs w l) := by
  constructor
  · rintro ⟨n, h⟩
    obtain ⟨h1, h2, h3, _⟩ := R.coords hw he h
    exact ⟨by have := h.len; omega, h1, h2, h3⟩
  · rintro ⟨hl, h1, h2, h3⟩
    obtain ⟨n, hn⟩ := h3.sum
    exact ⟨n, R.of hw he hl oe ol h1 h2 h3 hn⟩
theorem Rc_short {w : Nat} {e l : Tx} (he : e.length < w) : Rc w e l ↔ l = e := ⟨fun ⟨_, h⟩ => h.short he, fun h => h ▸ Rc.refl w _⟩
end K7

set_option linter.all false
/-! Roots, texts in common. Core Lean alone. -/
namespace K7
/-- the root as the program builds it -/
def root (w : Nat) (l : Tx) : Tx := if l.length < w then l else mk w (l.take w) (steps w l) ((runs w l).map (· % w))
section
variable {w : Nat} (hw : 1 ≤ w)
include hw
theorem mk_inj {f f' s s' r r' : List Nat} (hf : f.length = w) (hf' : f'.length = w) (of : Ok f) (of' : Ok f') (hs : ∀ x ∈ s, x ≠ 0) (hs' : ∀ x ∈ s', x ≠ 0) (h6 : ∀ x ∈ s, x < 6) (h6' : ∀ x ∈ s', x < 6) (hr : r.length = s.length + 1) (hr' : r'.length = s'.length + 1)
    (e : mk w f s r = mk w f' s' r') : f = f' ∧ s = s' ∧ r = r' := by
  refine ⟨?_, ?_, ?_⟩
  · rw [← mk_take (ss := s) (rs := r) hf, ← mk_take (ss := s') (rs := r') hf', e]
  · rw [← mk_steps hw hf of hs h6 hr, ← mk_steps hw hf' of' hs' h6' hr', e]
  · rw [← mk_runs hw hf of hs h6 hr, ← mk_runs hw hf' of' hs' h6' hr', e]
theorem take_len {l : Tx} (h : w ≤ l.length) : (l.take w).length = w := by
  rw [List.length_take]
  omega
theorem root_long {l : Tx} (h : w ≤ l.length) : root w l = mk w (l.take w) (steps w l) ((runs w l).map (· % w)) := if_neg (by omega)
theorem root_len {l : Tx} (h : w ≤ l.length) : w ≤ (root w l).length := by
  rw [root_long hw h, mk_len (by rw [List.length_map, runs_len]), take_len hw h]
  omega
theorem root_iff {a b : Tx} (ha : w ≤ a.length) (oa : Ok a) (ob : Ok b) : root w a = root w b ↔ w ≤ b.length ∧ a.take w = b.take w ∧ steps w a = steps w b ∧ (runs w a).map (· % w) = (runs w b).map (· % w) := by
  constructor
  · intro e
    have hb : w ≤ b.length := by
      by_cases c : w ≤ b.length
      · exact c
      · have e2 : root w b = b := if_pos (by omega)
        have := root_len hw ha
        rw [e, e2] at this
        exact this
    rw [root_long hw ha, root_long hw hb] at e
    obtain ⟨e1, e2, e3⟩ := mk_inj hw (take_len hw ha) (take_len hw hb) (oa.take w) (ob.take w) steps_ne steps_ne steps_lt steps_lt (by rw [List.length_map, runs_len]) (by rw [List.length_map, runs_len]) e
    exact ⟨hb, e1, e2, e3⟩
  · rintro ⟨hb, e1, e2, e3⟩
    rw [root_long hw ha, root_long hw hb, e1, e2, e3]
theorem root_short {a b : Tx} (ha : a.length < w) : root w a = root w b ↔ a = b := by
  have e : root w a = a := if_pos ha
  rw [e]
  constructor
  · intro q
    by_cases c : b.length < w
    · rw [q]
      exact if_pos c
    · have := root_len hw (Nat.le_of_not_lt c)
      rw [← q] at this
      omega
  · rintro rfl
    exact e.symm
end
theorem root_ok {w : Nat} {l : Tx} (o : Ok l) : Ok (root w l) := by
  unfold root
  split
  · exact o
  · exact mk_ok (o.take w)
/-! ### greater and lesser runs -/
def maxs (a b : List Nat) : List Nat := (a.zip b).map fun p => max p.1 p.2
def mins (a b : List Nat) : List Nat := (a.zip b).map fun p => min p.1 p.2
theorem maxs_len {a b : List Nat} (h : a.length = b.length) : (maxs a b).length = a.length := by
  unfold maxs
  rw [List.length_map, List.length_zip]
  omega
theorem mins_len {a b : List Nat} (h : a.length = b.length) : (mins a b).length = a.length := by
  unfold mins
  rw [List.length_map, List.length_zip]
  omega
theorem mod_more {w a b : Nat} (h : a % w = b % w) (hl : a ≤ b) : ∃ k, b = a + k * w := by
  obtain ⟨d, rfl⟩ := Nat.exists_eq_add_of_le hl
  have h2 : (a + d) % w = a % w := h.symm
  have h3 : d % w = 0 := by
    have e := Nat.add_mod a d w
    have := Nat.div_add_mod a w
    have := Nat.div_add_mod (a + d) w
    have h4 : w * ((a + d) / w) + a % w = w * (a / w) + a % w + d := by omega
    have h5 : w * ((a + d) / w) = w * (a / w) + d := by omega
    have h6 : d = w * ((a + d) / w - a / w) := by rw [Nat.mul_sub]; omega
    rw [h6]
    exact Nat.mul_mod_right _ _
  exact ⟨d / w, by have := Nat.div_add_mod d w; rw [h3, Nat.add_zero, Nat.mul_comm] at this; omega⟩
theorem PW.mod {w : Nat} : ∀ {a b : List Nat}, PW w a b → a.map (· % w) = b.map (· % w)
  | [], [], _ => rfl
  | x :: a, y :: b, ⟨⟨k, e⟩, t⟩ => by
    rw [List.map_cons, List.map_cons, t.mod, e, Nat.add_mul_mod_self_right]
  | [], _ :: _, h => h.elim
  | _ :: _, [], h => h.elim
theorem PW.max_l {w : Nat} : ∀ {a b : List Nat}, a.map (· % w) = b.map (· % w) → PW w a (maxs a b)
  | [], [], _ => trivial
  | x :: a, y :: b, h => by
    rw [List.map_cons, List.map_cons, List.cons.injEq] at h
    refine ⟨?_, PW.max_l h.2⟩
    by_cases c : x ≤ y
    · have e : max x y = y := by omega
      show ∃ k, max x y = x + k * w
      rw [e]
      exact mod_more h.1 c
    · exact ⟨0, by show max x y = _; omega⟩
  | [], _ :: _, h => by simp at h
  | _ :: _, [], h => by simp at h
theorem maxs_comm : ∀ a b : List Nat, maxs a b = maxs b a
  | [], [] => rfl
  | [], _ :: _ => rfl
  | _ :: _, [] => rfl
  | x :: a, y :: b => by
    show max x y :: maxs a b = max y x :: maxs b a
    rw [maxs_comm a b, Nat.max_comm]
theorem mins_comm : ∀ a b : List Nat, mins a b = mins b a
  | [], [] => rfl
  | [], _ :: _ => rfl
  | _ :: _, [] => rfl
  | x :: a, y :: b => by
    show min x y :: mins a b = min y x :: mins b a
    rw [mins_comm a b, Nat.min_comm]
theorem PW.min_l {w : Nat} : ∀ {a b : List Nat}, a.map (· % w) = b.map (· % w) → PW w (mins a b) a
  | [], [], _ => trivial
  | x :: a, y :: b, h => by
    rw [List.map_cons, List.map_cons, List.cons.injEq] at h
    refine ⟨?_, PW.min_l h.2⟩
    by_cases c : y ≤ x
    · have e : min x y = y := by omega
      show ∃ k, x = min x y + k * w
      rw [e]
      exact mod_more h.1.symm c
    · exact ⟨0, by show x = min x y + _; omega⟩
  | [], _ :: _, h => by simp at h
  | _ :: _, [], h => by simp at h
theorem PW.max_up {w : Nat} : ∀ {a b x : List Nat}, PW w a x → PW w b x → PW w (maxs a b) x
  | [], [], [], _, _ => trivial
  | p :: a, q :: b, y :: x, ⟨⟨k, e⟩, t⟩, ⟨⟨k', e'⟩, t'⟩ => by
    refine ⟨?_, PW.max_up t t'⟩
    by_cases c : p ≤ q
    · exact ⟨k', by show y = max p q + _; omega⟩
    · exact ⟨k, by show y = max p q + _; omega⟩
  | [], [], _ :: _, h, _ => h.elim
  | [], _ :: _, [], _, h => h.elim
  | [], _ :: _, _ :: _, h, _ => h.elim
  | _ :: _, [], [], h, _ => h.elim
  | _ :: _, [], _ :: _, _, h => h.elim
  | _ :: _, _ :: _, [], h, _ => h.elim
theorem PW.min_down {w : Nat} : ∀ {a b x : List Nat}, PW w x a → PW w x b → PW w x (mins a b)
  | [], [], [], _, _ => trivial
  | p :: a, q :: b, y :: x, ⟨⟨k, e⟩, t⟩, ⟨⟨k', e'⟩, t'⟩ => by
    refine ⟨?_, PW.min_down t t'⟩
    by_cases c : p ≤ q
    · exact ⟨k, by show min p q = _; omega⟩
    · exact ⟨k', by show min p q = _; omega⟩
  | [], [], _ :: _, h, _ => h.elim
  | [], _ :: _, [], _, h => h.elim
  | [], _ :: _, _ :: _, h, _ => h.elim
  | _ :: _, [], [], h, _ => h.elim
  | _ :: _, [], _ :: _, _, h => h.elim
  | _ :: _, _ :: _, [], h, _ => h.elim
/-- the shortest text that comes of both, the longest one of which both come -/
def ll (w : Nat) (a b : Tx) : Tx := if a.length < w then a else mk w (a.take w) (steps w a) (maxs (runs w a) (runs w b))
def ge (w : Nat) (a b : Tx) : Tx := if a.length < w then a else mk w (a.take w) (steps w a) (mins (runs w a) (runs w b))
section
variable {w : Nat} (hw : 1 ≤ w) {a b : Tx} (oa : Ok a) (ob : Ok b) (kin : root w a = root w b)
include hw oa ob kin
theorem kin_runs (ha : w ≤ a.length) : (runs w a).length = (runs w b).length := by
  obtain ⟨_, _, e, _⟩ := (root_iff hw ha oa ob).mp kin
  rw [runs_len, runs_len, e]
theorem kin_len (ha : w ≤ a.length) : w ≤ b.length := ((root_iff hw ha oa ob).mp kin).1
theorem ll_coords (ha : w ≤ a.length) : w ≤ (ll w a b).length ∧ Ok (ll w a b) ∧ (ll w a b).take w = a.take w ∧ steps w (ll w a b) = steps w a ∧ runs w (ll w a b) = maxs (runs w a) (runs w b) := by
  have e : ll w a b = mk w (a.take w) (steps w a) (maxs (runs w a) (runs w b)) := if_neg (by omega)
  have hl : (maxs (runs w a) (runs w b)).length = (steps w a).length + 1 := by rw [maxs_len (kin_runs hw oa ob kin ha), runs_len]
  rw [e]
  refine ⟨?_, mk_ok (oa.take w), mk_take (take_len hw ha), mk_steps hw (take_len hw ha) (oa.take w) steps_ne steps_lt hl, mk_runs hw (take_len hw ha) (oa.take w) steps_ne steps_lt hl⟩
  rw [mk_len hl, take_len hw ha]
  omega
theorem ge_coords (ha : w ≤ a.length) : w ≤ (ge w a b).length ∧ Ok (ge w a b) ∧ (ge w a b).take w = a.take w ∧ steps w (ge w a b) = steps w a ∧ runs w (ge w a b) = mins (runs w a) (runs w b) := by
  have e : ge w a b = mk w (a.take w) (steps w a) (mins (runs w a) (runs w b)) := if_neg (by omega)
  have hl : (mins (runs w a) (runs w b)).length = (steps w a).length + 1 := by rw [mins_len (kin_runs hw oa ob kin ha), runs_len]
  rw [e]
  refine ⟨?_, mk_ok (oa.take w), mk_take (take_len hw ha), mk_steps hw (take_len hw ha) (oa.take w) steps_ne steps_lt hl, mk_runs hw (take_len hw ha) (oa.take w) steps_ne steps_lt hl⟩
  rw [mk_len hl, take_len hw ha]
  omega
theorem ll_ok : Ok (ll w a b) := by
  by_cases c : a.length < w
  · rw [ll, if_pos c]
    exact oa
  · exact (ll_coords hw oa ob kin (by omega)).2.1
theorem ge_ok : Ok (ge w a b) := by
  by_cases c : a.length < w
  · rw [ge, if_pos c]
    exact oa
  · exact (ge_coords hw oa ob kin (by omega)).2.1
theorem kin_eq (c : a.length < w) : a = b := (root_short hw c).mp kin
theorem ll_left : Rc w a (ll w a b) := by
  by_cases c : a.length < w
  · rw [ll, if_pos c]
    exact Rc.refl w a
  · have ha : w ≤ a.length := by omega
    obtain ⟨h1, h2, h3, h4, h5⟩ := ll_coords hw oa ob kin ha
    obtain ⟨_, _, _, e⟩ := (root_iff hw ha oa ob).mp kin
    exact (Rc_iff hw ha oa h2).mpr ⟨h1, h3, h4, by rw [h5]; exact PW.max_l e⟩
theorem ll_right : Rc w b (ll w a b) := by
  by_cases c : a.length < w
  · have e := kin_eq hw oa ob kin c
    rw [ll, if_pos c, ← e]
    exact Rc.refl w a
  · have ha : w ≤ a.length := by omega
    obtain ⟨h1, h2, h3, h4, h5⟩ := ll_coords hw oa ob kin ha
    obtain ⟨hb, e1, e2, e⟩ := (root_iff hw ha oa ob).mp kin
    exact (Rc_iff hw hb ob h2).mpr ⟨h1, by rw [h3, e1], by rw [h4, e2], by rw [h5, maxs_comm]; exact PW.max_l e.symm⟩
theorem ll_least {x : Tx} (h1 : Rc w a x) (h2 : Rc w b x) : Rc w (ll w a b) x := by
  by_cases c : a.length < w
  · rw [ll, if_pos c]
    exact h1
  · have ha : w ≤ a.length := by omega
    obtain ⟨g1, g2, g3, g4, g5⟩ := ll_coords hw oa ob kin ha
    obtain ⟨hb, e1, e2, e⟩ := (root_iff hw ha oa ob).mp kin
    have ox := h1.ok oa
    obtain ⟨k1, k2, k3, k4⟩ := (Rc_iff hw ha oa ox).mp h1
    obtain ⟨_, _, _, m4⟩ := (Rc_iff hw hb ob ox).mp h2
    exact (Rc_iff hw g1 g2 ox).mpr ⟨k1, by rw [k2, g3], by rw [k3, g4], by rw [g5]; exact PW.max_up k4 m4⟩
theorem ge_left : Rc w (ge w a b) a := by
  by_cases c : a.length < w
  · rw [ge, if_pos c]
    exact Rc.refl w a
  · have ha : w ≤ a.length := by omega
    obtain ⟨h1, h2, h3, h4, h5⟩ := ge_coords hw oa ob kin ha
    obtain ⟨_, _, _, e⟩ := (root_iff hw ha oa ob).mp kin
    exact (Rc_iff hw h1 h2 oa).mpr ⟨ha, h3.symm, h4.symm, by rw [h5]; exact PW.min_l e⟩
theorem ge_right : Rc w (ge w a b) b := by
  by_cases c : a.length < w
  · have e := kin_eq hw oa ob kin c
    rw [ge, if_pos c, ← e]
    exact Rc.refl w a
  · have ha : w ≤ a.length := by omega
    obtain ⟨h1, h2, h3, h4, h5⟩ := ge_coords hw oa ob kin ha
    obtain ⟨hb, e1, e2, e⟩ := (root_iff hw ha oa ob).mp kin
    exact (Rc_iff hw h1 h2 ob).mpr ⟨hb, by rw [h3, e1], by rw [h4, e2], by rw [h5, mins_comm]; exact PW.min_l e.symm⟩
theorem ge_most {x : Tx} (h1 : Rc w x a) (h2 : Rc w x b) : Rc w x (ge w a b) := by
  by_cases c : a.length < w
  · rw [ge, if_pos c]
    exact h1
  · have ha : w ≤ a.length := by omega
    obtain ⟨g1, g2, g3, g4, g5⟩ := ge_coords hw oa ob kin ha
    have ox := h1.ok' oa
    have hx := h1.wide ha
    obtain ⟨k1, k2, k3, k4⟩ := (Rc_iff hw hx ox oa).mp h1
    obtain ⟨_, _, _, m4⟩ := (Rc_iff hw hx ox ob).mp h2
    exact (Rc_iff hw hx ox g2).mpr ⟨g1, by rw [g3, k2], by rw [g4, k3], by rw [g5]; exact PW.min_down k4 m4⟩
end
/-- what comes of another is kin -/
theorem Rc.root {w : Nat} (hw : 1 ≤ w) {a b : Tx} (oa : Ok a) (h : Rc w a b) : root w a = root w b := by
  by_cases c : a.length < w
  · rw [(Rc_short c).mp h]
  · obtain ⟨h1, h2, h3, h4⟩ := (Rc_iff hw (by omega) oa (h.ok oa)).mp h
    exact (root_iff hw (by omega) oa (h.ok oa)).mpr ⟨h1, h2.symm, h3.symm, h4.mod⟩
/-- undone as far as can be -/
theorem root_unique {w : Nat} (hw : 1 ≤ w) {a b : Tx} (oa : Ok a) (h : Rc w b a) (hn : ∀ p, twice w p b = false) : b = K7.root w a := by
  have ob := h.ok' oa
  have e := Rc.root hw ob h
  rw [← e]
  by_cases c : b.length < w
  · exact (if_pos c).symm
  · have hb : w ≤ b.length := by omega
    rw [root_long hw hb]
    have small : ∀ r ∈ runs w b, r < w := fun r hr => by
      by_cases q : r < w
      · exact q
      · exfalso
        obtain ⟨i, hi, er⟩ := List.mem_iff_getElem.mp hr
        have bumped : ∃ c, i < c.length ∧ c.length = (runs w b).length ∧ bump w i c = runs w b := by
          have gen : ∀ (l : List Nat) (i : Nat) (h : i < l.length), w ≤ l[i] → ∃ c, i < c.length ∧ c.length = l.length ∧ bump w i c = l := by
            intro l
            induction l with
            | nil => intro i h; simp at h
            | cons x l ih =>
              intro i h hx
              cases i with
              | zero =>
                have hx' : w ≤ x := hx
                exact ⟨(x - w) :: l, by simp, rfl, by show (x - w + w) :: l = x :: l; congr 1; omega⟩
              | succ i =>
                obtain ⟨c, h1, h2, h3⟩ := ih i (by simpa using h) (by simpa using hx)
                exact ⟨x :: c, by simpa using h1, by simpa using h2, by show x :: bump w i c = x :: l; rw [h3]⟩
          exact gen _ i hi (by omega)
        obtain ⟨c, hc, hcl, eb⟩ := bumped
        have hl : c.length = (steps w b).length + 1 := by rw [hcl, runs_len]
        have om : Ok (mk w (b.take w) (steps w b) c) := mk_ok (ob.take w)
        have mr : runs w (mk w (b.take w) (steps w b) c) = c := mk_runs hw (take_len hw hb) (ob.take w) steps_ne steps_lt hl
        have ms : steps w (mk w (b.take w) (steps w b) c) = steps w b := mk_steps hw (take_len hw hb) (ob.take w) steps_ne steps_lt hl
        have mt : (mk w (b.take w) (steps w b) c).take w = b.take w := mk_take (take_len hw hb)
        have ml : w ≤ (mk w (b.take w) (steps w b) c).length := by
          rw [mk_len hl, take_len hw hb]
          omega
        have st : R w 1 (mk w (b.take w) (steps w b) c) b := R.of hw ml hb om ob mt.symm ms.symm (by rw [mr, ← eb]; exact PW.bump w i c) (by rw [mr, ← eb, bump_sum w i c hc]; omega)
        obtain ⟨m, hm, cm⟩ := st
        obtain ⟨p, hp, _⟩ := un_iff.mpr cm
        rw [hn p] at hp
        cases hp
    have em : (runs w b).map (· % w) = runs w b := by
      have : ∀ l : List Nat, (∀ r ∈ l, r < w) → l.map (· % w) = l := fun l => by
        induction l with
        | nil => intro _; rfl
        | cons x l ih =>
          intro h
          rw [List.map_cons, ih fun r m => h r (List.mem_cons_of_mem _ m), Nat.mod_eq_of_lt (h x List.mem_cons_self)]
      exact this _ small
    rw [em]
    exact (mk_self hw hb ob).symm
/-! ### how the program tells whether one comes of another -/
def gro (w : Nat) (l e : Tx) : List Int := ((runs w l).zip (runs w e)).map fun p => (p.1 : Int) - (p.2 : Int)
def isSh (w : Nat) (m : Int) : Bool := decide (m < 0) || !decide (m % (w : Int) = 0)
theorem PW_gro {w : Nat} (hw : 1 ≤ w) : ∀ {a b : List Nat}, a.length = b.length → (PW w a b ↔ ((b.zip a).map fun p => (p.1 : Int) - (p.2 : Int)).all fun m => !isSh w m)
  | [], [], _ => by simp [PW]
  | x :: a, y :: b, h => by
    have ih := PW_gro hw (a := a) (b := b) (by simpa using h)
    rw [List.zip_cons_cons, List.map_cons, List.all_cons, Bool.and_eq_true, ← ih]
    show ((∃ k, y = x + k * w) ∧ PW w a b) ↔ _
    have : (∃ k, y = x + k * w) ↔ (!isSh w ((y : Int) - (x : Int))) = true := by
      unfold isSh
      simp only [Bool.not_or, Bool.not_not, Bool.and_eq_true, Bool.not_eq_true', decide_eq_false_iff_not, decide_eq_true_eq]
      constructor
      · rintro ⟨k, rfl⟩
        refine ⟨by omega, ?_⟩
        have : ((x + k * w : Nat) : Int) - (x : Int) = (k : Int) * (w : Int) := by push_cast; omega
        rw [this]
        exact Int.mul_emod_left _ _
      · rintro ⟨h1, h2⟩
        have hle : x ≤ y := by omega
        refine mod_more ?_ hle
        obtain ⟨d, rfl⟩ := Nat.exists_eq_add_of_le hle
        have e : ((x + d : Nat) : Int) - (x : Int) = (d : Int) := by push_cast; omega
        rw [e] at h2
        have h3 : d % w = 0 := by exact_mod_cast h2
        rw [Nat.add_mod, h3, Nat.add_zero, Nat.mod_mod]
    rw [this]
  | [], _ :: _, h => by simp at h
  | _ :: _, [], h => by simp at h
end K7

set_option Elab.async false
set_option linter.all false
/-! How many texts there are of one kind. -/
namespace K7
theorem inj_len {α β : Type} [DecidableEq β] (f : α → β) : ∀ (L : List α) (M : List β), L.Nodup → (∀ x ∈ L, ∀ y ∈ L, f x = f y → x = y) → (∀ x ∈ L, f x ∈ M) → L.length ≤ M.length
  | [], M, _, _, _ => Nat.zero_le _
  | a :: L, M, nd, inj, hm => by
    have ha := hm a List.mem_cons_self
    have nd' := List.nodup_cons.mp nd
    have ih := inj_len f L (M.erase (f a)) nd'.2 (fun x hx y hy e => inj x (List.mem_cons_of_mem _ hx) y (List.mem_cons_of_mem _ hy) e) fun x hx => by
      have hne : f x ≠ f a := fun e => nd'.1 (by
        have := inj x (List.mem_cons_of_mem _ hx) a List.mem_cons_self e
        rwa [← this])
      exact (List.mem_erase_of_ne hne).mpr (hm x (List.mem_cons_of_mem _ hx))
    rw [List.length_erase_of_mem ha] at ih
    have : 0 < M.length := List.length_pos_of_mem ha
    rw [List.length_cons]
    omega
def bools : Nat → List (List Bool)
  | 0 => [[]]
  | k + 1 => (bools k).map (true :: ·) ++ (bools k).map (false :: ·)
theorem bools_len : ∀ k, (bools k).length = 2 ^ k
  | 0 => rfl
  | k + 1 => by
    rw [bools, List.length_append, List.length_map, List.length_map, bools_len k, Nat.pow_succ]
    omega
theorem mem_bools : ∀ {k : Nat} {b : List Bool}, b.length = k → b ∈ bools k
  | 0, [], _ => List.mem_singleton.mpr rfl
  | k + 1, x :: b, h => by
    have ih := mem_bools (k := k) (b := b) (by simpa using h)
    rw [bools, List.mem_append]
    cases x with
    | true => exact .inl (List.mem_map.mpr ⟨b, ih, rfl⟩)
    | false => exact .inr (List.mem_map.mpr ⟨b, ih, rfl⟩)
theorem pat_inj : ∀ {a b : List Nat}, a.map (· == 0) = b.map (· == 0) → stepsG a = stepsG b → a = b
  | [], [], _, _ => rfl
  | [], _ :: _, h, _ => by cases h
  | _ :: _, [], h, _ => by cases h
  | x :: a, y :: b, h, h2 => by
    rw [List.map_cons, List.map_cons, List.cons.injEq] at h
    unfold stepsG at h2
    rw [List.filter_cons, List.filter_cons] at h2
    by_cases c : x = 0
    · subst c
      have : y = 0 := by simpa using h.1.symm
      subst this
      rw [if_neg (by decide), if_neg (by decide)] at h2
      rw [pat_inj h.2 h2]
    · have : y ≠ 0 := fun e => by
        subst e
        have := h.1
        simp at this
        exact c this
      rw [if_pos (by simpa using c), if_pos (by simpa using this), List.cons.injEq] at h2
      rw [h2.1, pat_inj h.2 h2.2]
theorem count {w : Nat} (hw : 1 ≤ w) {h : Tx} {ss : List Nat} {k : Nat} {L : List Tx} (nd : L.Nodup) (hL : ∀ x ∈ L, Ok x ∧ x.length = w + k ∧ x.take w = h ∧ steps w x = ss) : L.length ≤ 2 ^ k := by
  have := inj_len (fun x => (gaps w x).map (· == 0)) L (bools k) nd (fun x hx y hy e => by
    obtain ⟨ox, lx, tx, sx⟩ := hL x hx
    obtain ⟨oy, ly, ty, sy⟩ := hL y hy
    exact same_text hw (by omega) (by omega) ox oy (tx.trans ty.symm) (pat_inj e (sx.trans sy.symm))) fun x hx => mem_bools (by
      rw [List.length_map, gaps_len, (hL x hx).2.1]
      omega)
  rwa [bools_len] at this
theorem few {L : List Tx} {t : Tx} (nd : L.Nodup) (h : ∀ x ∈ L, x = t) : L.length ≤ 1 := by
  have := inj_len (fun x => x) L [t] nd (fun _ _ _ _ e => e) fun x hx => by rw [h x hx]; exact List.mem_singleton.mpr rfl
  exact this
theorem pow_le21 {k : Nat} (h : k ≤ 21) : 2 ^ k ≤ 2097152 := Nat.pow_le_pow_right (n := 2) (by decide) h
/-- what comes by just so many copies -/
theorem fam_up {w j : Nat} (hw : 1 ≤ w) {e : Tx} (oe : Ok e) {L : List Tx} (nd : L.Nodup) (hL : ∀ x ∈ L, R w j e x) (hl : e.length + j * w ≤ 22) : L.length ≤ 2097152 := by
  by_cases c : w ≤ e.length
  · have := count hw (h := e.take w) (ss := steps w e) (k := e.length + j * w - w) nd fun x hx => by
      have r := hL x hx
      obtain ⟨h1, h2, _⟩ := r.coords hw c
      have hx := r.len
      exact ⟨r.ok oe, by omega, h1, h2⟩
    exact Nat.le_trans this (pow_le21 (by omega))
  · exact Nat.le_trans (few nd fun x hx => (hL x hx).short (by omega)) (by decide)
/-- of what a text comes by just so many copies -/
theorem fam_down {w j : Nat} (hw : 1 ≤ w) {l : Tx} (ol : Ok l) {L : List Tx} (nd : L.Nodup) (hL : ∀ x ∈ L, R w j x l) (hl : l.length ≤ 22) : L.length ≤ 2097152 := by
  by_cases c : w ≤ l.length
  · cases L with
    | nil => exact Nat.zero_le _
    | cons a L =>
      have ra := hL a List.mem_cons_self
      have la := ra.len
      have wa : w ≤ a.length := Rc.wide ⟨j, ra⟩ c
      obtain ⟨t1, s1, _⟩ := ra.coords hw wa
      have := count hw (h := l.take w) (ss := steps w l) (k := a.length - w) nd fun x hx => by
        have r := hL x hx
        have wx : w ≤ x.length := Rc.wide ⟨j, r⟩ c
        obtain ⟨h1, h2, _⟩ := r.coords hw wx
        have hx := r.len
        exact ⟨r.ok' ol, by omega, h1.symm, h2.symm⟩
      exact Nat.le_trans this (pow_le21 (by omega))
  · exact Nat.le_trans (few nd fun x hx => by
      have r := hL x hx
      have := r.len
      exact (r.short (by have := Nat.zero_le (j * w); omega)).symm) (by decide)
/-! ### lists that grow by what is new -/
def addN (x : Tx) (L : List Tx) : List Tx := if x ∈ L then L else L ++ [x]
theorem mem_addN {x y : Tx} {L : List Tx} : y ∈ addN x L ↔ y ∈ L ∨ y = x := by
  unfold addN
  split
  · exact ⟨.inl, fun h => h.elim id fun e => e ▸ ‹_›⟩
  · rw [List.mem_append, List.mem_singleton]
theorem nodup_snoc {L : List Tx} {x : Tx} (h : L.Nodup) (hx : x ∉ L) : (L ++ [x]).Nodup := by
  rw [List.nodup_append]
  exact ⟨h, by simp, fun a ha b hb e => hx (by rw [List.mem_singleton.mp hb] at e; rwa [← e])⟩
theorem nodup_addN {x : Tx} {L : List Tx} (h : L.Nodup) : (addN x L).Nodup := by
  unfold addN
  split
  · exact h
  · exact nodup_snoc h ‹_›
theorem addN_len {x : Tx} {L : List Tx} : L.length ≤ (addN x L).length := by
  unfold addN
  split
  · exact Nat.le_refl _
  · rw [List.length_append]
    omega
end K7

set_option Elab.async false
set_option linter.all false
set_option maxRecDepth 100000
/-! The text by places. -/
namespace K7
open PySem L2
def topS (i : Nat) : Stmt := PySem.Challenge.pw_twicewritten_k07_whole_common.main.body.getD i (.Pass ⟨0, 0, 0, 0⟩)
abbrev s_is_whole : Stmt := topS 13
abbrev N_is_whole : List Str := ["value", "least", "most"]
theorem sc_is_whole : FnScope N_is_whole ["value", "least", "most"] (defScope s_is_whole) := ⟨rfl, rfl, rfl, by decide +kernel, rfl, by decide +kernel, by decide +kernel⟩
abbrev s_is_text : Stmt := topS 14
abbrev N_is_text : List Str := ["value", "sign"]
theorem sc_is_text : FnScope N_is_text ["value"] (defScope s_is_text) := ⟨rfl, rfl, rfl, by decide +kernel, rfl, by decide +kernel, by decide +kernel⟩
abbrev s_need_text : Stmt := topS 15
abbrev N_need_text : List Str := ["text"]
theorem sc_need_text : FnScope N_need_text ["text"] (defScope s_need_text) := ⟨rfl, rfl, rfl, by decide +kernel, rfl, by decide +kernel, by decide +kernel⟩
abbrev s_need_size : Stmt := topS 16
abbrev N_need_size : List Str := ["size"]
theorem sc_need_size : FnScope N_need_size ["size"] (defScope s_need_size) := ⟨rfl, rfl, rfl, by decide +kernel, rfl, by decide +kernel, by decide +kernel⟩
abbrev s_need_two : Stmt := topS 17
abbrev N_need_two : List Str := ["one", "other", "size"]
theorem sc_need_two : FnScope N_need_two ["one", "other", "size"] (defScope s_need_two) := ⟨rfl, rfl, rfl, by decide +kernel, rfl, by decide +kernel, by decide +kernel⟩
abbrev s_gaps_of : Stmt := topS 20
abbrev N_gaps_of : List Str := ["text", "size", "own", "sign", "near", "far"]
theorem sc_gaps_of : FnScope N_gaps_of ["text", "size"] (defScope s_gaps_of) := ⟨rfl, rfl, rfl, by decide +kernel, rfl, by decide +kernel, by decide +kernel⟩
abbrev s_steps_of : Stmt := topS 21
abbrev N_steps_of : List Str := ["text", "size", "gap"]
theorem sc_steps_of : FnScope N_steps_of ["text", "size"] (defScope s_steps_of) := ⟨rfl, rfl, rfl, by decide +kernel, rfl, by decide +kernel, by decide +kernel⟩
abbrev s_runs_of : Stmt := topS 22
abbrev N_runs_of : List Str := ["text", "size", "found", "gap"]
theorem sc_runs_of : FnScope N_runs_of ["text", "size"] (defScope s_runs_of) := ⟨rfl, rfl, rfl, by decide +kernel, rfl, by decide +kernel, by decide +kernel⟩
abbrev s_laid_out : Stmt := topS 23
abbrev N_laid_out : List Str := ["own_steps", "own_runs", "found", "number", "many"]
theorem sc_laid_out : FnScope N_laid_out ["own_steps", "own_runs"] (defScope s_laid_out) := ⟨rfl, rfl, rfl, by decide +kernel, rfl, by decide +kernel, by decide +kernel⟩
abbrev s_built_of : Stmt := topS 24
abbrev N_built_of : List Str := ["front", "own_steps", "own_runs", "own", "size", "gap", "sign", "number"]
theorem sc_built_of : FnScope N_built_of ["front", "own_steps", "own_runs"] (defScope s_built_of) := ⟨rfl, rfl, rfl, by decide +kernel, rfl, by decide +kernel, by decide +kernel⟩
abbrev s_root_of : Stmt := topS 25
abbrev N_root_of : List Str := ["text", "size", "many"]
theorem sc_root_of : FnScope N_root_of ["text", "size"] (defScope s_root_of) := ⟨rfl, rfl, rfl, by decide +kernel, rfl, by decide +kernel, by decide +kernel⟩
abbrev s_unlike_word : Stmt := topS 29
abbrev N_unlike_word : List Str := ["later", "elder", "size"]
theorem sc_unlike_word : FnScope N_unlike_word ["later", "elder", "size"] (defScope s_unlike_word) := ⟨rfl, rfl, rfl, by decide +kernel, rfl, by decide +kernel, by decide +kernel⟩
abbrev s_is_short : Stmt := topS 30
abbrev N_is_short : List Str := ["more", "size"]
theorem sc_is_short : FnScope N_is_short ["more", "size"] (defScope s_is_short) := ⟨rfl, rfl, rfl, by decide +kernel, rfl, by decide +kernel, by decide +kernel⟩
abbrev s_growths_of : Stmt := topS 31
abbrev N_growths_of : List Str := ["later", "elder", "size", "one", "other"]
theorem sc_growths_of : FnScope N_growths_of ["later", "elder", "size"] (defScope s_growths_of) := ⟨rfl, rfl, rfl, by decide +kernel, rfl, by decide +kernel, by decide +kernel⟩
abbrev s_short_run : Stmt := topS 32
abbrev N_short_run : List Str := ["later", "elder", "size", "found", "number", "more"]
theorem sc_short_run : FnScope N_short_run ["later", "elder", "size"] (defScope s_short_run) := ⟨rfl, rfl, rfl, by decide +kernel, rfl, by decide +kernel, by decide +kernel⟩
abbrev s_does_come : Stmt := topS 33
abbrev N_does_come : List Str := ["later", "elder", "size"]
theorem sc_does_come : FnScope N_does_come ["later", "elder", "size"] (defScope s_does_come) := ⟨rfl, rfl, rfl, by decide +kernel, rfl, by decide +kernel, by decide +kernel⟩
abbrev s_are_kin_of : Stmt := topS 35
abbrev N_are_kin_of : List Str := ["one", "other", "size"]
theorem sc_are_kin_of : FnScope N_are_kin_of ["one", "other", "size"] (defScope s_are_kin_of) := ⟨rfl, rfl, rfl, by decide +kernel, rfl, by decide +kernel, by decide +kernel⟩
abbrev s_are_kin : Stmt := topS 36
abbrev N_are_kin : List Str := ["one", "other", "size"]
theorem sc_are_kin : FnScope N_are_kin ["one", "other", "size"] (defScope s_are_kin) := ⟨rfl, rfl, rfl, by decide +kernel, rfl, by decide +kernel, by decide +kernel⟩
abbrev s_joined_runs : Stmt := topS 37
abbrev N_joined_runs : List Str := ["one", "other", "size", "pair"]
theorem sc_joined_runs : FnScope N_joined_runs ["one", "other", "size"] (defScope s_joined_runs) := ⟨rfl, rfl, rfl, by decide +kernel, rfl, by decide +kernel, by decide +kernel⟩
abbrev s_least_later_of : Stmt := topS 38
abbrev N_least_later_of : List Str := ["one", "other", "size"]
theorem sc_least_later_of : FnScope N_least_later_of ["one", "other", "size"] (defScope s_least_later_of) := ⟨rfl, rfl, rfl, by decide +kernel, rfl, by decide +kernel, by decide +kernel⟩
abbrev s_least_later : Stmt := topS 39
abbrev N_least_later : List Str := ["one", "other", "size"]
theorem sc_least_later : FnScope N_least_later ["one", "other", "size"] (defScope s_least_later) := ⟨rfl, rfl, rfl, by decide +kernel, rfl, by decide +kernel, by decide +kernel⟩
abbrev s_greatest_elder : Stmt := topS 40
abbrev N_greatest_elder : List Str := ["one", "other", "size", "least", "pair"]
theorem sc_greatest_elder : FnScope N_greatest_elder ["one", "other", "size"] (defScope s_greatest_elder) := ⟨rfl, rfl, rfl, by decide +kernel, rfl, by decide +kernel, by decide +kernel⟩
abbrev s_copies_apart : Stmt := topS 41
abbrev N_copies_apart : List Str := ["one", "other", "size", "more", "many"]
theorem sc_copies_apart : FnScope N_copies_apart ["one", "other", "size"] (defScope s_copies_apart) := ⟨rfl, rfl, rfl, by decide +kernel, rfl, by decide +kernel, by decide +kernel⟩
abbrev s_stands_between : Stmt := topS 42
abbrev N_stands_between : List Str := ["text", "later", "elder", "size"]
theorem sc_stands_between : FnScope N_stands_between ["text", "later", "elder", "size"] (defScope s_stands_between) := ⟨rfl, rfl, rfl, by decide +kernel, rfl, by decide +kernel, by decide +kernel⟩
abbrev s_l_mixed : Stmt := topS 44
abbrev N_l_mixed : List Str := ["_law_cell", "_law_n", "_law_blend"]
theorem sc_l_mixed : FnScope N_l_mixed ["_law_cell", "_law_n"] (defScope s_l_mixed) := ⟨rfl, rfl, rfl, by decide +kernel, rfl, by decide +kernel, by decide +kernel⟩
abbrev s_l_folded : Stmt := topS 45
abbrev N_l_folded : List Str := ["_law_script", "_law_n", "_law_found", "_law_cell"]
theorem sc_l_folded : FnScope N_l_folded ["_law_script"] (defScope s_l_folded) := ⟨rfl, rfl, rfl, by decide +kernel, rfl, by decide +kernel, by decide +kernel⟩
abbrev s_l_draw : Stmt := topS 46
abbrev N_l_draw : List Str := ["_law_m", "_law_limit", "_law_n", "_law_lot", "_law_here", "_law_cell"]
theorem sc_l_draw : FnScope N_l_draw ["_law_m", "_law_limit"] (defScope s_l_draw) := ⟨rfl, rfl, rfl, by decide +kernel, rfl, by decide +kernel, by decide +kernel⟩
abbrev s_l_begun : Stmt := topS 47
abbrev N_l_begun : List Str := ["_law_script", "_law_m", "_law_cell"]
theorem sc_l_begun : FnScope N_l_begun ["_law_script"] (defScope s_l_begun) := ⟨rfl, rfl, rfl, by decide +kernel, rfl, by decide +kernel, by decide +kernel⟩
abbrev s_l_like : Stmt := topS 48
abbrev N_l_like : List Str := ["_law_got", "_law_due"]
theorem sc_l_like : FnScope N_l_like ["_law_got", "_law_due"] (defScope s_l_like) := ⟨rfl, rfl, rfl, by decide +kernel, rfl, by decide +kernel, by decide +kernel⟩
abbrev s_l_text_of : Stmt := topS 49
abbrev N_l_text_of : List Str := ["_law_m", "_law_many", "_law_long", "_law_text", "_law_again", "_law_wide", "_law_at", "_law_k"]
theorem sc_l_text_of : FnScope N_l_text_of ["_law_m", "_law_many", "_law_long"] (defScope s_l_text_of) := ⟨rfl, rfl, rfl, by decide +kernel, rfl, by decide +kernel, by decide +kernel⟩
abbrev s_l_grown : Stmt := topS 50
abbrev N_l_grown : List Str := ["_law_m", "_law_text", "_law_wide", "_law_most", "_law_again", "_law_at"]
theorem sc_l_grown : FnScope N_l_grown ["_law_m", "_law_text", "_law_wide", "_law_most"] (defScope s_l_grown) := ⟨rfl, rfl, rfl, by decide +kernel, rfl, by decide +kernel, by decide +kernel⟩
abbrev s_l_is_twice : Stmt := topS 51
abbrev N_l_is_twice : List Str := ["_law_text", "_law_wide", "_law_at"]
theorem sc_l_is_twice : FnScope N_l_is_twice ["_law_text", "_law_wide", "_law_at"] (defScope s_l_is_twice) := ⟨rfl, rfl, rfl, by decide +kernel, rfl, by decide +kernel, by decide +kernel⟩
abbrev s_l_bare : Stmt := topS 52
abbrev N_l_bare : List Str := ["_law_text", "_law_wide", "_law_spots", "_law_k"]
theorem sc_l_bare : FnScope N_l_bare ["_law_text", "_law_wide"] (defScope s_l_bare) := ⟨rfl, rfl, rfl, by decide +kernel, rfl, by decide +kernel, by decide +kernel⟩
abbrev s_l_once : Stmt := topS 53
abbrev N_l_once : List Str := ["_law_text", "_law_wide", "_law_k"]
theorem sc_l_once : FnScope N_l_once ["_law_text", "_law_wide"] (defScope s_l_once) := ⟨rfl, rfl, rfl, by decide +kernel, rfl, by decide +kernel, by decide +kernel⟩
abbrev s_l_after : Stmt := topS 54
abbrev N_l_after : List Str := ["_law_text", "_law_wide", "_law_times", "_law_some", "_law_again", "_law_more", "_law_one", "_law_far"]
theorem sc_l_after : FnScope N_l_after ["_law_text", "_law_wide", "_law_times"] (defScope s_l_after) := ⟨rfl, rfl, rfl, by decide +kernel, rfl, by decide +kernel, by decide +kernel⟩
abbrev s_l_does_come : Stmt := topS 55
abbrev N_l_does_come : List Str := ["_law_late", "_law_early", "_law_wide", "_law_some", "_law_more", "_law_one", "_law_k"]
theorem sc_l_does_come : FnScope N_l_does_come ["_law_late", "_law_early", "_law_wide"] (defScope s_l_does_come) := ⟨rfl, rfl, rfl, by decide +kernel, rfl, by decide +kernel, by decide +kernel⟩
abbrev s_l_told : Stmt := topS 56
abbrev N_l_told : List Str := ["_law_call", "_law_found", "_law_caught", "error", "_law_said"]
theorem sc_l_told : FnScope N_l_told ["_law_call"] (defScope s_l_told) := ⟨rfl, rfl, rfl, by decide +kernel, rfl, by decide +kernel, by decide +kernel⟩
abbrev s_l_elders : Stmt := topS 57
abbrev N_l_elders : List Str := ["_law_text", "_law_wide", "_law_some", "_law_found", "_law_here", "_law_spots", "_law_k"]
theorem sc_l_elders : FnScope N_l_elders ["_law_text", "_law_wide"] (defScope s_l_elders) := ⟨rfl, rfl, rfl, by decide +kernel, rfl, by decide +kernel, by decide +kernel⟩
abbrev s_l_meet : Stmt := topS 58
abbrev N_l_meet : List Str := ["_law_one", "_law_other", "_law_wide", "_law_some", "_law_both", "_law_most", "_law_text"]
theorem sc_l_meet : FnScope N_l_meet ["_law_one", "_law_other", "_law_wide"] (defScope s_l_meet) := ⟨rfl, rfl, rfl, by decide +kernel, rfl, by decide +kernel, by decide +kernel⟩
abbrev s_l_join : Stmt := topS 59
abbrev N_l_join : List Str := ["_law_one", "_law_other", "_law_wide", "_law_some", "_law_text", "_law_more", "_law_far"]
theorem sc_l_join : FnScope N_l_join ["_law_one", "_law_other", "_law_wide"] (defScope s_l_join) := ⟨rfl, rfl, rfl, by decide +kernel, rfl, by decide +kernel, by decide +kernel⟩
abbrev s_l_right : Stmt := topS 60
abbrev N_l_right : List Str := ["_law_one", "_law_other", "_law_wide", "_law_is_so", "_law_said", "_law_low", "_law_high", "_law_apart_so", "_law_later_so", "_law_text", "_law_both", "_law_late", "_law_early", "_law_due", "_law_some"]
theorem sc_l_right : FnScope N_l_right ["_law_one", "_law_other", "_law_wide"] (defScope s_l_right) := ⟨rfl, rfl, rfl, by decide +kernel, rfl, by decide +kernel, by decide +kernel⟩
abbrev s_law : Stmt := topS 61
abbrev N_law : List Str := ["_law_script", "_law_m", "_law_turn", "_law_wide", "_law_text", "_law_said", "_law_one", "_law_other"]
theorem sc_law : FnScope N_law ["_law_script"] (defScope s_law) := ⟨rfl, rfl, rfl, by decide +kernel, rfl, by decide +kernel, by decide +kernel⟩
end K7

set_option Elab.async false
set_option linter.all false
set_option maxRecDepth 100000
/-! What is asked of the top. -/
namespace K7
open PySem PySem.Spec PyProof.Rows L2
def d_is_whole : He.DefD := ⟨("is_whole", none), "is_whole", "is_whole", defArgs s_is_whole, defBody s_is_whole, defScope s_is_whole, [], []⟩
def d_is_text : He.DefD := ⟨("is_text", none), "is_text", "is_text", defArgs s_is_text, defBody s_is_text, defScope s_is_text, [], []⟩
def d_need_text : He.DefD := ⟨("need_text", none), "need_text", "need_text", defArgs s_need_text, defBody s_need_text, defScope s_need_text, [], []⟩
def d_need_size : He.DefD := ⟨("need_size", none), "need_size", "need_size", defArgs s_need_size, defBody s_need_size, defScope s_need_size, [], []⟩
def d_need_two : He.DefD := ⟨("need_two", none), "need_two", "need_two", defArgs s_need_two, defBody s_need_two, defScope s_need_two, [], []⟩
def d_gaps_of : He.DefD := ⟨("gaps_of", none), "gaps_of", "gaps_of", defArgs s_gaps_of, defBody s_gaps_of, defScope s_gaps_of, [], []⟩
def d_steps_of : He.DefD := ⟨("steps_of", none), "steps_of", "steps_of", defArgs s_steps_of, defBody s_steps_of, defScope s_steps_of, [], []⟩
def d_runs_of : He.DefD := ⟨("runs_of", none), "runs_of", "runs_of", defArgs s_runs_of, defBody s_runs_of, defScope s_runs_of, [], []⟩
def d_laid_out : He.DefD := ⟨("laid_out", none), "laid_out", "laid_out", defArgs s_laid_out, defBody s_laid_out, defScope s_laid_out, [], []⟩
def d_built_of : He.DefD := ⟨("built_of", none), "built_of", "built_of", defArgs s_built_of, defBody s_built_of, defScope s_built_of, [], []⟩
def d_root_of : He.DefD := ⟨("root_of", none), "root_of", "root_of", defArgs s_root_of, defBody s_root_of, defScope s_root_of, [], []⟩
def d_unlike_word : He.DefD := ⟨("unlike_word", none), "unlike_word", "unlike_word", defArgs s_unlike_word, defBody s_unlike_word, defScope s_unlike_word, [], []⟩
def d_is_short : He.DefD := ⟨("is_short", none), "is_short", "is_short", defArgs s_is_short, defBody s_is_short, defScope s_is_short, [], []⟩
def d_growths_of : He.DefD := ⟨("growths_of", none), "growths_of", "growths_of", defArgs s_growths_of, defBody s_growths_of, defScope s_growths_of, [], []⟩
def d_short_run : He.DefD := ⟨("short_run", none), "short_run", "short_run", defArgs s_short_run, defBody s_short_run, defScope s_short_run, [], []⟩
def d_does_come : He.DefD := ⟨("does_come", none), "does_come", "does_come", defArgs s_does_come, defBody s_does_come, defScope s_does_come, [], []⟩
def d_are_kin_of : He.DefD := ⟨("are_kin_of", none), "are_kin_of", "are_kin_of", defArgs s_are_kin_of, defBody s_are_kin_of, defScope s_are_kin_of, [], []⟩
def d_are_kin : He.DefD := ⟨("are_kin", none), "are_kin", "are_kin", defArgs s_are_kin, defBody s_are_kin, defScope s_are_kin, [], []⟩
def d_joined_runs : He.DefD := ⟨("joined_runs", none), "joined_runs", "joined_runs", defArgs s_joined_runs, defBody s_joined_runs, defScope s_joined_runs, [], []⟩
def d_least_later_of : He.DefD := ⟨("least_later_of", none), "least_later_of", "least_later_of", defArgs s_least_later_of, defBody s_least_later_of, defScope s_least_later_of, [], []⟩
def d_least_later : He.DefD := ⟨("least_later", none), "least_later", "least_later", defArgs s_least_later, defBody s_least_later, defScope s_least_later, [], []⟩
def d_greatest_elder : He.DefD := ⟨("greatest_elder", none), "greatest_elder", "greatest_elder", defArgs s_greatest_elder, defBody s_greatest_elder, defScope s_greatest_elder, [], []⟩
def d_copies_apart : He.DefD := ⟨("copies_apart", none), "copies_apart", "copies_apart", defArgs s_copies_apart, defBody s_copies_apart, defScope s_copies_apart, [], []⟩
def d_stands_between : He.DefD := ⟨("stands_between", none), "stands_between", "stands_between", defArgs s_stands_between, defBody s_stands_between, defScope s_stands_between, [], []⟩
def d_l_mixed : He.DefD := ⟨("_law_mixed", none), "_law_mixed", "_law_mixed", defArgs s_l_mixed, defBody s_l_mixed, defScope s_l_mixed, [], []⟩
def d_l_folded : He.DefD := ⟨("_law_folded", none), "_law_folded", "_law_folded", defArgs s_l_folded, defBody s_l_folded, defScope s_l_folded, [], []⟩
def d_l_draw : He.DefD := ⟨("_law_draw", none), "_law_draw", "_law_draw", defArgs s_l_draw, defBody s_l_draw, defScope s_l_draw, [], []⟩
def d_l_begun : He.DefD := ⟨("_law_begun", none), "_law_begun", "_law_begun", defArgs s_l_begun, defBody s_l_begun, defScope s_l_begun, [], []⟩
def d_l_like : He.DefD := ⟨("_law_like", none), "_law_like", "_law_like", defArgs s_l_like, defBody s_l_like, defScope s_l_like, [], []⟩
def d_l_text_of : He.DefD := ⟨("_law_text_of", none), "_law_text_of", "_law_text_of", defArgs s_l_text_of, defBody s_l_text_of, defScope s_l_text_of, [], []⟩
def d_l_grown : He.DefD := ⟨("_law_grown", none), "_law_grown", "_law_grown", defArgs s_l_grown, defBody s_l_grown, defScope s_l_grown, [], []⟩
def d_l_is_twice : He.DefD := ⟨("_law_is_twice", none), "_law_is_twice", "_law_is_twice", defArgs s_l_is_twice, defBody s_l_is_twice, defScope s_l_is_twice, [], []⟩
def d_l_bare : He.DefD := ⟨("_law_bare", none), "_law_bare", "_law_bare", defArgs s_l_bare, defBody s_l_bare, defScope s_l_bare, [], []⟩
def d_l_once : He.DefD := ⟨("_law_once", none), "_law_once", "_law_once", defArgs s_l_once, defBody s_l_once, defScope s_l_once, [], []⟩
def d_l_after : He.DefD := ⟨("_law_after", none), "_law_after", "_law_after", defArgs s_l_after, defBody s_l_after, defScope s_l_after, [], []⟩
def d_l_does_come : He.DefD := ⟨("_law_does_come", none), "_law_does_come", "_law_does_come", defArgs s_l_does_come, defBody s_l_does_come, defScope s_l_does_come, [], []⟩
def d_l_told : He.DefD := ⟨("_law_told", none), "_law_told", "_law_told", defArgs s_l_told, defBody s_l_told, defScope s_l_told, [], []⟩
def d_l_elders : He.DefD := ⟨("_law_elders", none), "_law_elders", "_law_elders", defArgs s_l_elders, defBody s_l_elders, defScope s_l_elders, [], []⟩
def d_l_meet : He.DefD := ⟨("_law_meet", none), "_law_meet", "_law_meet", defArgs s_l_meet, defBody s_l_meet, defScope s_l_meet, [], []⟩
def d_l_join : He.DefD := ⟨("_law_join", none), "_law_join", "_law_join", defArgs s_l_join, defBody s_l_join, defScope s_l_join, [], []⟩
def d_l_right : He.DefD := ⟨("_law_right", none), "_law_right", "_law_right", defArgs s_l_right, defBody s_l_right, defScope s_l_right, [], []⟩
def d_law : He.DefD := ⟨("law", none), "law", "law", defArgs s_law, defBody s_law, defScope s_law, [], []⟩
def fn : List He.DefD := [d_is_whole, d_is_text, d_need_text, d_need_size, d_need_two, d_gaps_of, d_steps_of, d_runs_of, d_laid_out, d_built_of, d_root_of, d_unlike_word, d_is_short, d_growths_of, d_short_run, d_does_come, d_are_kin_of, d_are_kin, d_joined_runs, d_least_later_of, d_least_later, d_greatest_elder, d_copies_apart, d_stands_between, d_l_mixed, d_l_folded, d_l_draw, d_l_begun, d_l_like, d_l_text_of, d_l_grown, d_l_is_twice, d_l_bare, d_l_once, d_l_after, d_l_does_come, d_l_told, d_l_elders, d_l_meet, d_l_join, d_l_right, d_law]
def fa1 : List He.Fa := [.glo "is_whole", .glo "is_text", .glo "need_text", .glo "need_size", .glo "need_two", .glo "gaps_of", .glo "steps_of", .glo "runs_of", .glo "laid_out", .glo "built_of", .glo "root_of", .glo "unlike_word", .glo "is_short", .glo "growths_of", .glo "short_run", .glo "does_come", .glo "are_kin_of", .glo "are_kin", .glo "joined_runs", .glo "least_later_of", .glo "least_later", .glo "greatest_elder", .glo "copies_apart", .glo "stands_between", .glo "_law_mixed", .glo "_law_folded", .glo "_law_draw", .glo "_law_begun", .glo "_law_like", .glo "_law_text_of"]
def fa2 : List He.Fa := [.glo "_law_grown", .glo "_law_is_twice", .glo "_law_bare", .glo "_law_once", .glo "_law_after", .glo "_law_does_come", .glo "_law_told", .glo "_law_elders", .glo "_law_meet", .glo "_law_join", .glo "_law_right", .glo "law", .glo "TooLong", .glo "TwiceError", .glo "TooMany", .glo "BadLetters", .glo "BadSize", .glo "BadPlace", .glo "BadNumber", .glo "BadPaper", .free "all", .free "bool", .free "enumerate", .free "int", .free "isinstance", .free "len", .free "list", .free "max", .free "min", .free "range"]
def fa3 : List He.Fa := [.free "repr", .free "set", .free "sorted", .free "str", .free "sum", .free "zip", .str "LETTERS" "abcdef", .int "MOST_LONG" 60, .int "MOST_SIZE" 6, .int "MANY_LETTERS" 6, .str "HEAD" "head", .str "STEPS" "steps"]
def fa : List He.Fa := fa1 ++ fa2 ++ fa3
def loose1 : List PySem.Str := ["TwiceError", "BadLetters", "BadSize", "BadPlace", "BadNumber", "BadPaper", "TooLong", "TooMany", "LETTERS", "MOST_LONG", "MOST_SIZE", "is_whole", "is_text", "need_text", "need_size", "need_two", "MANY_LETTERS", "gaps_of", "steps_of", "runs_of", "laid_out", "built_of", "root_of", "HEAD", "STEPS", "unlike_word", "is_short", "growths_of", "short_run", "does_come"]
def loose2 : List PySem.Str := ["are_kin_of", "are_kin", "joined_runs", "least_later_of", "least_later", "greatest_elder", "copies_apart", "stands_between", "_law_mixed", "_law_folded", "_law_draw", "_law_begun", "_law_like", "_law_text_of", "_law_grown", "_law_is_twice", "_law_bare", "_law_once", "_law_after", "_law_does_come", "_law_told", "_law_elders", "_law_meet", "_law_join", "_law_right"]
def loose : List PySem.Str := loose1 ++ loose2
def exF (K : PySem.W.Frag) : Bool := true
abbrev HR : PySem.W.OpenRow := PySem.W.OpenLaw.row PySem.Challenge.rw_twicewritten_k07_whole_common
abbrev hk : PySem.W.Hook := He.hookX 5 fa fn [] [("law", none)] exF
def ob (s : PySem.W.SharedT) : He.AlX := He.obsX 5 fa fn [] [("law", none)] exF (HandSHeadRun.getT s)
theorem ob_eq (s : PySem.W.SharedT) : ob s = hk.obs s.abs := He.obsX_eq (HandSHeadRun.getT_eq s)
end K7

set_option Elab.async false
set_option linter.all false
set_option maxRecDepth 100000
set_option maxHeartbeats 2000000
/-! Texts as values, calls of defs by name, and what readings give. -/
namespace K7
open PySem PySem.Spec PyProof.Rows L2 Evl
/-! ### a text as the program holds it -/
def enc (l : Tx) : Str := ⟨(l.map (97 + ·)).toArray⟩
theorem enc_cps (l : Tx) : (enc l).cps.toList = l.map (97 + ·) := rfl
theorem enc_len (l : Tx) : (enc l).length = l.length := by
  show ((l.map (97 + ·)).toArray).size = _
  rw [List.size_toArray, List.length_map]
theorem enc_inj {a b : Tx} (h : enc a = enc b) : a = b := by
  have h1 : (enc a).cps.toList = (enc b).cps.toList := by rw [h]
  rw [enc_cps, enc_cps] at h1
  exact List.map_inj_right (fun x y e => by omega) |>.mp h1
theorem enc_iff {a b : Tx} : enc a = enc b ↔ a = b := ⟨enc_inj, fun h => by rw [h]⟩
theorem str_ext {x y : Str} (h : x.cps.toList = y.cps.toList) : x = y := by
  obtain ⟨⟨a⟩⟩ := x
  obtain ⟨⟨b⟩⟩ := y
  have h' : a = b := h
  rw [h']
theorem enc_app (a b : Tx) : enc a ++ enc b = enc (a ++ b) := by
  apply str_ext
  show ((enc a).cps ++ (enc b).cps).toList = _
  rw [Array.toList_append, enc_cps, enc_cps, enc_cps, List.map_append]
theorem cut_enc (l : Tx) (lo hi : Option Int) : cutS (enc l) lo hi = enc ((l.drop (HT.sIx l.length 0 lo)).take (HT.sIx l.length l.length hi - HT.sIx l.length 0 lo)) := by
  apply str_ext
  show ((((enc l).cps.toList.drop (HT.sIx (enc l).length 0 lo)).take (HT.sIx (enc l).length (enc l).length hi - HT.sIx (enc l).length 0 lo)).toArray).toList = _
  rw [enc_len, enc_cps, enc_cps, List.map_take, List.map_drop]
theorem cut_take (l : Tx) (k : Nat) : cutS (enc l) none (some (k : Int)) = enc (l.take k) := by
  rw [cut_enc, HT.sIx_none, HT.sIx_nat, List.drop_zero, Nat.sub_zero]
  congr 1
  rw [← List.take_eq_take_min]
theorem cut_drop (l : Tx) (k : Nat) : cutS (enc l) (some (k : Int)) none = enc (l.drop k) := by
  rw [cut_enc, HT.sIx_none, HT.sIx_nat]
  congr 1
  by_cases h : k ≤ l.length
  · rw [Nat.min_eq_left h, List.take_of_length_le (by rw [List.length_drop]; omega)]
  · rw [Nat.min_eq_right (by omega), List.drop_eq_nil_of_le (by omega), List.drop_eq_nil_of_le (by omega)]
    simp
theorem cut_mid (l : Tx) (a b : Nat) : cutS (enc l) (some (a : Int)) (some (b : Int)) = enc ((l.drop a).take (b - a)) := by
  rw [cut_enc, HT.sIx_nat, HT.sIx_nat]
  congr 1
  by_cases h : a ≤ l.length
  · rw [Nat.min_eq_left h]
    by_cases h2 : b ≤ l.length
    · rw [Nat.min_eq_left h2]
    · rw [show min b l.length = l.length by omega, List.take_of_length_le (by rw [List.length_drop]; omega), List.take_of_length_le (by rw [List.length_drop]; omega)]
  · rw [show min a l.length = l.length by omega, List.drop_eq_nil_of_le (by omega), List.drop_eq_nil_of_le (by omega)]
    simp
/-! ### values -/
abbrev tx (l : Tx) : V := .str (enc l)
abbrev nt (n : Nat) : V := .int (n : Int)
abbrev nts (l : List Nat) : List V := l.map nt
theorem small {n : Nat} (h : n ≤ 1000) : n ≤ sizeLine := Nat.le_trans h (by decide)
theorem len_small {l : Tx} (h : l.length ≤ 1000) : (enc l).length ≤ sizeLine := by
  rw [enc_len]
  exact small h
/-! ### a def by its name -/
/-- the def x stands, keeps the promise sp at the level k -/
structure Has (P : Program) (w : World) (K : PySem.W.Frag) (mg : Str → Option Value) (base : Heap) (CX : CXT) (k : Nat) (x : Str) (ps : List Str) (sp : Sp) : Prop where
  ex : ∃ fd, FnOk P w K mg base CX k (He.ga K x) fd ps sp ∧ Binds K fd ps []
  kp : PySem.W.keepIn K (.ref (He.ga K x)) = true
  gl : mg x = some (.ref (He.ga K x))
theorem Has.mono {P : Program} {w : World} {K : PySem.W.Frag} {mg : Str → Option Value} {base : Heap} {CX : CXT} {j k : Nat} {x : Str} {ps : List Str} {sp : Sp} (h : Has P w K mg base CX j x ps sp) (hj : j ≤ k) : Has P w K mg base CX k x ps sp := by
  obtain ⟨⟨fd, F, b⟩, kp, gl⟩ := h
  exact ⟨⟨fd, F.mono hj, b⟩, kp, gl⟩
section
variable {X : Cx} {CX : CXT} {k : Nat} {x : Str} {ps : List Str} {sp : Sp} {E : XK} {e : Expr} {es : List Expr} {p pos : Pos} {t : TA}
theorem pe_h (F : Has X.prog X.w X.K X.mg X.base CX k x ps sp) (hr : Room k X.A) (hx : Passes CX X E) (ha : PA X (e :: es) t) (hg : Gl X x := by rfl) (hdb : (x == ("__debug__" : Str)) = false := by decide)
    (he : starEach (e :: es) X.env = (false, eval e X.env) :: starEach es X.env := by rfl) (hpl : (backTo pos (starEach es X.env)).any (·.1) = false := by rfl) : PE X (.Call (.Name x p) (e :: es) [] pos) (tCall sp [] E t) := by
  obtain ⟨⟨fd, G, b⟩, kp, gl⟩ := F
  exact pe_call G hr hg gl kp b .nil hx ha hdb he hpl
end
/-- the top's facts -/
structure TopE (K : PySem.W.Frag) (mg : Str → Option Value) : Prop where
  says : He.SaysD fa fn K
  mgf : ∀ f ∈ fa, match f with
    | .glo x => mg x = some (.ref (He.ga K x))
    | .free x => mg x = none
    | .int x i => ∃ t, mg x = some (.int i t)
    | .str x z => ∃ t, mg x = some (.str z t)
    | _ => True
section
variable {P : Program} {w : World} {K : PySem.W.Frag} {mg : Str → Option Value} {base : Heap}
theorem TopE.glo (T : TopE K mg) {x : Str} (i : Nat) (h : fa[i]? = some (.glo x)) : mg x = some (.ref (He.ga K x)) := T.mgf _ (List.mem_of_getElem? h)
theorem TopE.free (T : TopE K mg) {x : Str} (i : Nat) (h : fa[i]? = some (.free x)) : mg x = none := T.mgf _ (List.mem_of_getElem? h)
theorem TopE.int (T : TopE K mg) {x : Str} {z : Int} (i : Nat) (h : fa[i]? = some (.int x z)) : ∃ t, mg x = some (.int z t) := T.mgf _ (List.mem_of_getElem? h)
theorem TopE.str (T : TopE K mg) {x z : Str} (i : Nat) (h : fa[i]? = some (.str x z)) : ∃ t, mg x = some (.str z t) := T.mgf _ (List.mem_of_getElem? h)
/-- a def of the text and its promise -/
theorem has_of (T : TopE K mg) {d : He.DefD} {st : Stmt} {x : Str} {ps N : List Str} {CX : CXT} {k : Nat} {sp : Sp} (i j : Nat) (hd : fn[i]? = some d) (ed : d = ⟨(x, none), x, x, defArgs st, defBody st, defScope st, [], []⟩) (hj : fa[j]? = some (.glo x)) (S : FnScope N ps (defScope st))
    (hb : ∀ (kV doc pm : Value) (an : Option Addr) (cdv ct : Value) (us : List Value), us.length = ps.length → bindArgs (PySem.W.fnOf x x (defArgs st) (defBody st) (defScope st) .none kV doc pm an cdv ct) ⟨us, []⟩ = pure (ps.zip us))
    (len : ∀ vs H Q E, sp vs H Q E → vs.length = ps.length)
    (hbody : ∀ (cdv : Value) (f : Addr) (A : Around) (outer : List Env) (s : Shared) (H : Hp) (vs : List V) (Q : VK) (E : XK), Room k (A.deeper (envOfC x (defScope st) s.heap.objs.size f cdv)) → sp vs H Q E →
      ∃ t, PSs (cxOf CX P w K mg base N x (defScope st) f cdv A outer s H E) (defBody st) t ∧ t { nx := fun _ H' => Q .non H', rt := Q } (L2.start N vs) H) : Has P w K mg base CX (k + 1) x ps sp := by
  subst ed
  obtain ⟨fd, F⟩ := T.says.def_ i hd
  have F' : FunD K x x (defArgs st) (defBody st) (defScope st) [] [] (He.ga K x) fd := F
  refine ⟨⟨fd, F'.ok S len fun cdv A outer s H vs Q E hr hsp => hbody cdv _ A outer s H vs Q E hr hsp, ?_⟩, F'.kp, T.glo j hj⟩
  obtain ⟨oc, od, dV, kV, doc, pm, an, cdv, ct, osl, rfl, lk, hcd, hv, _⟩ := F'.ex
  rcases hv with ⟨_, rfl⟩ | ⟨hn, _⟩
  · exact .all (hb kV doc pm an cdv ct)
  · exact absurd rfl hn
end
/-! ### what is given: a value, a list -/
abbrev GiveV (v : V) (H : Hp) (Q : VK) : Prop := ∀ H2, Ex H H2 → Q v H2
abbrev GiveL (xs : List V) (H : Hp) (Q : VK) : Prop := ∀ p H2, H p = none → Ex H H2 → H2 p = some (.lst xs) → Q (.ref p) H2
section
variable {K : PySem.W.Frag} {σ : L2.St} {H H' : Hp} {ta tb te tx' tl th : TE} {tr : TA} {to : TO} {t u : TT} {x y z v : V} {r : R2}
theorem ev_slS {z : Str} {lo hi : Option Int} {a b : TO} (h : Ev te σ H (.str z)) (h1 : EvO a σ H lo) (h2 : EvO b σ H hi) (hz : z.length ≤ sizeLine) : Ev (tSl rSlS te a b) σ H (.str (cutS z lo hi)) := fun H1 e _ q =>
  h H1 e _ fun H2 e2 => h1 H2 (e.trans e2) _ fun H3 e3 => h2 H3 ((e.trans e2).trans e3) _ fun H4 e4 => ⟨z, rfl, hz, q H4 ((e2.trans e3).trans e4)⟩
theorem ev_take {l : Tx} {k : Nat} {a b : TO} (h : Ev te σ H (tx l)) (h1 : EvO a σ H none) (h2 : EvO b σ H (some (k : Int))) (hz : l.length ≤ 1000) : Ev (tSl rSlS te a b) σ H (tx (l.take k)) := by
  have q := ev_slS h h1 h2 (len_small hz)
  rwa [cut_take] at q
theorem ev_drop {l : Tx} {k : Nat} {a b : TO} (h : Ev te σ H (tx l)) (h1 : EvO a σ H (some (k : Int))) (h2 : EvO b σ H none) (hz : l.length ≤ 1000) : Ev (tSl rSlS te a b) σ H (tx (l.drop k)) := by
  have q := ev_slS h h1 h2 (len_small hz)
  rwa [cut_drop] at q
theorem ev_mid {l : Tx} {m n : Nat} {a b : TO} (h : Ev te σ H (tx l)) (h1 : EvO a σ H (some (m : Int))) (h2 : EvO b σ H (some (n : Int))) (hz : l.length ≤ 1000) : Ev (tSl rSlS te a b) σ H (tx ((l.drop m).take (n - m))) := by
  have q := ev_slS h h1 h2 (len_small hz)
  rwa [cut_mid] at q
/-- len of a text -/
abbrev rLenT : List V → Hp → VK → Prop := fun xs H Q => ∃ z, xs = [.str z] ∧ z.length ≤ sizeLine ∧ Q (.int z.length) H
theorem ev_lenT {l : Tx} (h : Ev te σ H (tx l)) (hz : l.length ≤ 1000) : Ev (tCB rLenT (tCons te tNil)) σ H (nt l.length) := fun H1 e Q q =>
  h H1 e _ fun H2 e2 => ⟨enc l, rfl, len_small hz, by rw [enc_len]; exact q H2 e2⟩
theorem ev_add {i j : Int} (ha : Ev ta σ H (.int i)) (hb : Ev tb σ H (.int j)) : Ev (tOp (rI0 fun i j => .int (i + j)) ta tb) σ H (.int (i + j)) := ev_op ha hb rv_I0
theorem ev_sub {i j : Int} (ha : Ev ta σ H (.int i)) (hb : Ev tb σ H (.int j)) : Ev (tOp (rI0 fun i j => .int (i - j)) ta tb) σ H (.int (i - j)) := ev_op ha hb rv_I0
theorem ev_lt {i j : Int} (ha : Ev ta σ H (.int i)) (hb : Ev tb σ H (.int j)) : Ev (tOp (rI0 fun i j => .bl (decide (i < j))) ta tb) σ H (.bl (decide (i < j))) := ev_op ha hb rv_I0
theorem ev_le {i j : Int} (ha : Ev ta σ H (.int i)) (hb : Ev tb σ H (.int j)) : Ev (tOp (rI0 fun i j => .bl (decide (i ≤ j))) ta tb) σ H (.bl (decide (i ≤ j))) := ev_op ha hb rv_I0
theorem ev_gt {i j : Int} (ha : Ev ta σ H (.int i)) (hb : Ev tb σ H (.int j)) : Ev (tOp (rI0 fun i j => .bl (decide (j < i))) ta tb) σ H (.bl (decide (j < i))) := ev_op ha hb rv_I0
theorem ev_ge {i j : Int} (ha : Ev ta σ H (.int i)) (hb : Ev tb σ H (.int j)) : Ev (tOp (rI0 fun i j => .bl (decide (j ≤ i))) ta tb) σ H (.bl (decide (j ≤ i))) := ev_op ha hb rv_I0
theorem ev_eq (ha : Ev ta σ H x) (hb : Ev tb σ H y) (h : scal x y = true) : Ev (tOp rEq ta tb) σ H (.bl (decide (x = y))) := ev_op ha hb (rv_eq h)
theorem ev_ne (ha : Ev ta σ H x) (hb : Ev tb σ H y) (h : scal x y = true) : Ev (tOp rNe ta tb) σ H (.bl (!decide (x = y))) := ev_op ha hb (rv_ne h)
theorem ev_eqI {i j : Int} (ha : Ev ta σ H (.int i)) (hb : Ev tb σ H (.int j)) : Ev (tOp rEq ta tb) σ H (.bl (decide (i = j))) := ev_is (ev_eq ha hb rfl) (by congr 1; simp)
theorem ev_neI {i j : Int} (ha : Ev ta σ H (.int i)) (hb : Ev tb σ H (.int j)) : Ev (tOp rNe ta tb) σ H (.bl (!decide (i = j))) := ev_is (ev_ne ha hb rfl) (by congr 2; simp)
theorem ev_eqT {a b : Tx} (ha : Ev ta σ H (tx a)) (hb : Ev tb σ H (tx b)) : Ev (tOp rEq ta tb) σ H (.bl (decide (a = b))) := ev_is (ev_eq ha hb rfl) (by congr 1; simp [enc_iff])
theorem ev_neT {a b : Tx} (ha : Ev ta σ H (tx a)) (hb : Ev tb σ H (tx b)) : Ev (tOp rNe ta tb) σ H (.bl (!decide (a = b))) := ev_is (ev_ne ha hb rfl) (by congr 2; simp [enc_iff])
theorem ev_mod {i j : Int} (ha : Ev ta σ H (.int i)) (hb : Ev tb σ H (.int j)) (h : 0 < j) : Ev (tOp (rI (fun _ j => 0 < j) fun i j => .int (i % j)) ta tb) σ H (.int (i % j)) := ev_op ha hb (rv_I h)
theorem ev_fdiv {i j : Int} (ha : Ev ta σ H (.int i)) (hb : Ev tb σ H (.int j)) (h : 0 < j ∧ j < 1073741824) : Ev (tOp (rI CDiv fun i j => .int (i / j)) ta tb) σ H (.int (i / j)) := ev_op ha hb (rv_I h)
theorem ev_mul {i j : Int} (ha : Ev ta σ H (.int i)) (hb : Ev tb σ H (.int j)) (h : CMul i j) : Ev (tOp (rI CMul fun i j => .int (i * j)) ta tb) σ H (.int (i * j)) := ev_op ha hb (rv_I h)
theorem ev_isN (ha : Ev ta σ H x) : Ev (tOp (fun x y H Q => y = .non ∧ Q (.bl (decide (x = .non))) H) ta (tC .non)) σ H (.bl (decide (x = .non))) := ev_op ha ev_c fun H1 _ _ q => ⟨rfl, q H1 (Ex.refl H1)⟩
theorem ev_catT {a b : Tx} (ha : Ev ta σ H (tx a)) (hb : Ev tb σ H (tx b)) (h : a.length + b.length ≤ 1000) :
    Ev (tOp (fun x y H Q => ∃ i j, x = .str i ∧ y = .str j ∧ i.length + j.length ≤ sizeLine ∧ Q (.str (i ++ j)) H) ta tb) σ H (tx (a ++ b)) := ev_op ha hb fun H1 _ _ q =>
  ⟨enc a, enc b, rfl, rfl, by rw [enc_len, enc_len]; exact small h, by rw [enc_app]; exact q H1 (Ex.refl H1)⟩
/-- min, max of two numbers -/
theorem ev_min2 {i j : Int} (ha : Ev ta σ H (.int i)) (hb : Ev tb σ H (.int j)) : Ev (tCB (fun xs H Q => ∃ i j, xs = [.int i, .int j] ∧ Q (.int (if j < i then j else i)) H) (tCons ta (tCons tb tNil))) σ H (.int (if j < i then j else i)) := fun H1 e Q q =>
  ha H1 e _ fun H2 e2 => hb H2 (e.trans e2) _ fun H3 e3 => ⟨i, j, rfl, q H3 (e2.trans e3)⟩
/-- sum of a list of numbers -/
theorem ev_sum {a : Addr} {ns : List Int} (h : Ev te σ H (.ref a)) (hs : SqL K H a (ns.map V.int)) : Ev (tCB (rSum K) (tCons te tNil)) σ H (.int ns.sum) := fun H1 e Q q =>
  h H1 e _ fun H2 e2 => ⟨a, ns, rfl, ex_l (e.trans e2) hs, q H2 e2⟩
theorem ev_sumN {ns : List Int} (h : EvL te σ H (ns.map V.int)) : Ev (tCB (rSum K) (tCons te tNil)) σ H (.int ns.sum) := fun H1 e Q q =>
  h H1 e _ fun p H2 _ e2 hp => ⟨p, ns, rfl, sq_of hp, q H2 e2⟩
theorem ev_allN {bs : List Bool} (h : EvL te σ H (bs.map V.bl)) : Ev (tCB (rAll K) (tCons te tNil)) σ H (.bl (bs.all id)) := fun H1 e Q q =>
  h H1 e _ fun p H2 _ e2 hp => ⟨p, bs, rfl, sq_of hp, q H2 e2⟩
/-- len of a new list -/
abbrev rLenQ (K : PySem.W.Frag) : List V → Hp → VK → Prop := fun xs H Q => ∃ p ys, xs = [.ref p] ∧ (SqL K H p ys ∨ SqT K H p ys) ∧ Q (.int ys.length) H
theorem ev_lenL {p : Addr} {xs : List V} (ha : Ev ta σ H (.ref p)) (h : SqL K H p xs) : Ev (tCB (rLenQ K) (tCons ta tNil)) σ H (nt xs.length) := fun H1 e Q q =>
  ha H1 e _ fun H2 e2 => ⟨p, xs, rfl, Or.inl (ex_l (e.trans e2) h), q H2 e2⟩
theorem ev_lenLN {xs : List V} (ha : EvL ta σ H xs) : Ev (tCB (rLenQ K) (tCons ta tNil)) σ H (nt xs.length) := fun H1 e Q q =>
  ha H1 e _ fun p H2 _ e2 h2 => ⟨p, xs, rfl, Or.inl (sq_of h2), q H2 e2⟩
/-- a slice of a list from a place on -/
theorem el_dropL {a : Addr} {xs : List V} {k : Nat} {p q : TO} (h : Ev te σ H (.ref a)) (h1 : EvO p σ H (some (k : Int))) (h2 : EvO q σ H none) (hs : SqL K H a xs) : EvL (tSl (rSlL K) te p q) σ H (xs.drop k) := by
  have z := el_sl (K := K) h h1 h2 hs
  have e : cutV xs (some (k : Int)) none = xs.drop k := by
    unfold cutV
    rw [HT.sIx_none, HT.sIx_nat]
    by_cases c : k ≤ xs.length
    · rw [Nat.min_eq_left c, List.take_of_length_le (by rw [List.length_drop]; omega)]
    · rw [Nat.min_eq_right (by omega), List.drop_eq_nil_of_le (by omega), List.drop_eq_nil_of_le (by omega)]
      simp
  rwa [e] at z
theorem ev_chain {a b : Bool} {r r' : R2} (ha : Ev ta σ H x) (hb : Ev tb σ H y) (hc : Ev te σ H z) (h1 : RV r x y H (.bl a)) (h2 : RV r' y z H (.bl b)) : Ev (tChain r r' ta tb te) σ H (.bl (a && b)) := fun H1 e Q q =>
  ha H1 e _ fun H2 e2 => hb H2 (e.trans e2) _ fun H3 e3 => h1 H3 ((e.trans e2).trans e3) _ fun H4 e4 => ⟨a, rfl, by
    have e5 := ((e.trans e2).trans e3).trans e4
    have e6 := (e2.trans e3).trans e4
    cases a with
    | true =>
      refine iteT ?_
      exact hc H4 e5 _ fun H5 e7 => h2 H5 (e5.trans e7) Q fun H6 e8 => q H6 ((e6.trans e7).trans e8)
    | false =>
      refine iteF ?_
      exact q H4 e6⟩
theorem et_yes : EvT tYes σ H true := fun H1 _ _ q => q H1 (Ex.refl H1)
theorem ea_1 (h : Ev ta σ H x) : EvA (tCons ta tNil) σ H [x] := ea_cons h ea_nil
theorem ea_2 (h : Ev ta σ H x) (h2 : Ev tb σ H y) : EvA (tCons ta (tCons tb tNil)) σ H [x, y] := ea_cons h (ea_1 h2)
theorem ea_3 (h : Ev ta σ H x) (h2 : Ev tb σ H y) (h3 : Ev te σ H z) : EvA (tCons ta (tCons tb (tCons te tNil))) σ H [x, y, z] := ea_cons h (ea_2 h2 h3)
/-! ### comprehensions -/
/-- over anything that walks n turns while G stands, G staying as the heap grows; the i-th turn's item is a; kept if p a, then q a -/
theorem el_comp {α : Type} {wi : TI} {g : TG} {vs : List Nat} (as : List α) (p : α → Bool) (q : α → V) (hz : as.length ≤ 16000000)
    (hi : ∀ H1, Ex H H1 → ∀ R : It → Hp → Prop, (∀ J G Y H2, Ex H1 H2 → Walk J as.length G Y → G H2 → (∀ Ha Hb, Ex Ha Hb → G Ha → G Hb) →
        (∀ i a x Ha Hb, as[i]? = some a → Ex H Ha → Y i Ha x Hb → Ex Ha Hb ∧ ∃ σ2, (∀ Q : L2.St → Hp → Prop, (∀ Hc, Ex Hb Hc → Q σ2 Hc) → g x (wipe σ vs) Hb Q) ∧ wipe σ2 vs = wipe σ vs ∧ EvT t σ2 Hb (p a) ∧ (p a = true → Ev te σ2 Hb (q a))) → R J H2) → wi σ H1 R) :
    EvL (tLc wi g t te vs) σ H ((as.filter p).map q) := by
  intro H1 e1 Q hQ
  refine hi H1 e1 _ fun J G Y H2 e2 w hG stay turn D hD => ?_
  refine lc_it w (fun i H3 => G H3 ∧ Ex H2 H3 ∧ H3 D = some (.lst (((as.take i).filter p).map q))) ⟨stay _ _ (Ex.new hD) hG, Ex.new hD, upd_same⟩ (fun _ _ _ h => h.1) (fun i x H3 H4 hlt h y => ?_) fun H3 h => ?_
  · obtain ⟨h1, h2, h3⟩ := h
    have ha : as[i]? = some as[i] := List.getElem?_eq_getElem hlt
    obtain ⟨e4, σ2, hb, hw, ht, he⟩ := turn i as[i] x H3 H4 ha ((e1.trans e2).trans h2) y
    refine hb _ fun H5 e5 => ⟨hw, ht H5 e5 _ fun H6 e6 => ?_⟩
    have e36 := (e4.trans e5).trans e6
    have tk : as.take (i + 1) = as.take i ++ [as[i]] := by rw [List.take_add_one, ha] <;> rfl
    cases c : p as[i] with
    | false =>
      refine iteF ⟨stay _ _ e36 h1, h2.trans e36, ?_⟩
      rw [tk, List.filter_append, List.filter_cons, if_neg (by rw [c]; decide)]
      show _ = some (HO.lst ((_ ++ []).map q))
      rw [List.append_nil]
      exact e36 D _ h3
    | true =>
      refine iteT (he c H6 (e5.trans e6) _ fun H7 e7 => ?_)
      have e37 := e36.trans e7
      refine ⟨_, e37 D _ h3, ?_, ?_, ?_, ?_⟩
      · rw [List.length_map]
        refine Nat.lt_of_le_of_lt (List.length_filter_le _ _) ?_
        rw [List.length_take]
        exact Nat.lt_of_lt_of_le (show min i as.length < 16777216 by omega) (by decide)
      · have nD : H2 D = none := hD
        have e38 : Ex H2 (upd H7 D (.lst (((as.take i).filter p).map q ++ [q as[i]]))) := Ex.mut (h2.trans e37) nD
        exact stay H2 _ e38 hG
      · exact Ex.mut (h2.trans e37) hD
      · rw [tk, List.filter_append, List.filter_cons, if_pos c, List.map_append]
        exact upd_same
  · obtain ⟨h1, h2, h3⟩ := h
    rw [List.take_length] at h3
    exact hQ D H3 (fresh_back e2 hD) (e2.trans h2) h3
end
section
variable {K : PySem.W.Frag} {σ : L2.St} {H H' : Hp} {te tl : TE} {t : TT} {ta : TA}
/-- over a list that is known, the target a name -/
theorem el_compL {α : Type} {a : Addr} {j : Nat} {vs : List Nat} (as : List α) (f : α → V) (p : α → Bool) (q : α → V) (hz : as.length ≤ 16000000) (h : Ev tl σ H (.ref a)) (hx : SqL K H a (as.map f)) (hw : ∀ x, wipe ((wipe σ vs).set j (some x)) vs = wipe σ vs)
    (ht : ∀ (b : α) (i : Nat) H1, as[i]? = some b → Ex H H1 → EvT t ((wipe σ vs).set j (some (f b))) H1 (p b) ∧ (p b = true → Ev te ((wipe σ vs).set j (some (f b))) H1 (q b))) :
    EvL (tLc (iList K tl) (gName j) t te vs) σ H ((as.filter p).map q) := el_comp as p q hz fun H1 e1 R hR =>
  h H1 e1 _ fun H2 e2 => ⟨a, rfl, ⟨_, ex_l (e1.trans e2) hx⟩, hR _ _ _ H2 e2 (by have := walk_list (K := K) (a := a) (xs := as.map f); rwa [List.length_map] at this) (ex_l (e1.trans e2) hx) (fun _ _ e => ex_l e) fun i b x Ha Hb hb ea y => by
    obtain ⟨rfl, hi⟩ := y
    rw [List.getElem?_map, hb] at hi
    have ex : f b = x := Option.some.inj hi
    subst ex
    exact ⟨Ex.refl _, _, fun Q hQ => hQ _ (Ex.refl _), hw _, ht b i Hb hb ea⟩⟩
/-- over a new list -/
theorem el_compN {α : Type} {j : Nat} {vs : List Nat} (as : List α) (f : α → V) (p : α → Bool) (q : α → V) (hz : as.length ≤ 16000000) (h : EvL tl σ H (as.map f)) (hw : ∀ x, wipe ((wipe σ vs).set j (some x)) vs = wipe σ vs)
    (ht : ∀ (b : α) (i : Nat) H1, as[i]? = some b → Ex H H1 → EvT t ((wipe σ vs).set j (some (f b))) H1 (p b) ∧ (p b = true → Ev te ((wipe σ vs).set j (some (f b))) H1 (q b))) :
    EvL (tLc (iList K tl) (gName j) t te vs) σ H ((as.filter p).map q) := el_comp as p q hz fun H1 e1 R hR =>
  h H1 e1 _ fun a H2 _ e2 hx => ⟨a, rfl, ⟨_, sq_of hx⟩, hR _ _ _ H2 e2 (by have := walk_list (K := K) (a := a) (xs := as.map f); rwa [List.length_map] at this) (sq_of hx) (fun _ _ e => ex_l e) fun i b x Ha Hb hb ea y => by
    obtain ⟨rfl, hi⟩ := y
    rw [List.getElem?_map, hb] at hi
    have ex : f b = x := Option.some.inj hi
    subst ex
    exact ⟨Ex.refl _, _, fun Q hQ => hQ _ (Ex.refl _), hw _, ht b i Hb hb ea⟩⟩
/-- over range(n) -/
theorem el_compR {j n : Nat} {vs : List Nat} (p : Nat → Bool) (q : Nat → V) (hz : n ≤ 1000) (h : EvA ta σ H [nt n]) (hw : ∀ x, wipe ((wipe σ vs).set j (some x)) vs = wipe σ vs)
    (ht : ∀ (b : Nat) H1, b < n → Ex H H1 → EvT t ((wipe σ vs).set j (some (nt b))) H1 (p b) ∧ (p b = true → Ev te ((wipe σ vs).set j (some (nt b))) H1 (q b))) :
    EvL (tLc (iRng1 ta) (gName j) t te vs) σ H (((List.range n).filter p).map q) := el_comp (List.range n) p q (by rw [List.length_range]; omega) fun H1 e1 R hR =>
  h H1 e1 _ fun H2 e2 => ⟨(n : Int), rfl, by omega, by omega, hR _ _ _ H2 e2 (by have := walk_range (lo := 0) (n := (n : Int).toNat); rw [List.length_range]; simpa using this) trivial (fun _ _ _ _ => trivial) fun i b x Ha Hb hb ea y => by
    obtain ⟨rfl, ex⟩ := y
    obtain ⟨hi, eb⟩ := List.getElem?_eq_some_iff.mp hb
    rw [List.getElem_range] at eb
    subst eb
    rw [List.length_range] at hi
    have ex' : x = nt i := ex
    subst ex'
    exact ⟨Ex.refl _, _, fun Q hQ => hQ _ (Ex.refl _), hw _, ht i Hb hi ea⟩⟩
/-- over a text, sign by sign -/
theorem el_compT {j : Nat} {vs : List Nat} (l : Tx) (p : Nat → Bool) (q : Nat → V) (hz : l.length ≤ 1000) (h : Ev tl σ H (tx l)) (hw : ∀ x, wipe ((wipe σ vs).set j (some x)) vs = wipe σ vs)
    (ht : ∀ (b : Nat) H1, b ∈ l → Ex H H1 → EvT t ((wipe σ vs).set j (some (tx [b]))) H1 (p b) ∧ (p b = true → Ev te ((wipe σ vs).set j (some (tx [b]))) H1 (q b))) :
    EvL (tLc (iStr tl) (gName j) t te vs) σ H ((l.filter p).map q) := el_comp l p q (by omega) fun H1 e1 R hR =>
  h H1 e1 _ fun H2 e2 => ⟨enc l, rfl, hR _ _ _ H2 e2 (by have := walk_str (z := enc l); have e : (enc l).cps.size = l.length := enc_len l; rwa [e] at this) trivial (fun _ _ _ _ => trivial) fun i b x Ha Hb hb ea y => by
    obtain ⟨rfl, c, hc, ex⟩ := y
    have hc' : (l.map (97 + ·))[i]? = some c := by
      rw [← enc_cps, Array.getElem?_toList]
      exact hc
    rw [List.getElem?_map, hb] at hc'
    have ec : 97 + b = c := Option.some.inj hc'
    have ex' : x = tx [b] := ex.trans (by rw [← ec] <;> rfl)
    subst ex'
    exact ⟨Ex.refl _, _, fun Q hQ => hQ _ (Ex.refl _), hw _, ht b Hb (List.mem_of_getElem? hb) ea⟩⟩
theorem getElem?_zip' {α β : Type} {as : List α} {bs : List β} {i : Nat} {x : α × β} (h : (as.zip bs)[i]? = some x) : as[i]? = some x.1 ∧ bs[i]? = some x.2 := by
  obtain ⟨a, b⟩ := x
  exact List.getElem?_zip_eq_some.mp h
/-- over zip of two lists, a pair of names -/
theorem el_compZ {α β : Type} {j k : Nat} {vs : List Nat} (as : List α) (bs : List β) (f : α → V) (f' : β → V) (p : α × β → Bool) (q : α × β → V) (hz : as.length ≤ 16000000)
    (h : ∀ H1, Ex H H1 → ∀ Q : List V → Hp → Prop, (∀ a b H2, Ex H1 H2 → SqL K H2 a (as.map f) → SqL K H2 b (bs.map f') → Q [.ref a, .ref b] H2) → ta σ H1 Q) (hw : ∀ x y, wipe (((wipe σ vs).set j (some x)).set k (some y)) vs = wipe σ vs)
    (ht : ∀ (b : α × β) (i : Nat) H1, (as.zip bs)[i]? = some b → Ex H H1 → EvT t (((wipe σ vs).set j (some (f b.1))).set k (some (f' b.2))) H1 (p b) ∧ (p b = true → Ev te (((wipe σ vs).set j (some (f b.1))).set k (some (f' b.2))) H1 (q b))) :
    EvL (tLc (iZip K ta) (gTup K 2 (gCons (gName j) (gCons (gName k) gNil))) t te vs) σ H (((as.zip bs).filter p).map q) := el_comp (as.zip bs) p q (by rw [List.length_zip]; omega) fun H1 e1 R hR =>
  h H1 e1 _ fun a b H2 e2 ha hb => ⟨a, b, _, _, rfl, ha, hb, hR _ _ _ H2 e2 (walk_zip (K := K) (a := a) (b := b) (xs := as.map f) (ys := bs.map f') (by rw [List.length_zip, List.length_map, List.length_map])) ⟨ha, hb⟩ (fun _ _ e h => ⟨ex_l e h.1, ex_l e h.2⟩) fun i c x Ha Hb hc ea y => by
    obtain ⟨T, u, v, rfl, nT, rfl, hu, hv⟩ := y
    obtain ⟨h1, h2⟩ := getElem?_zip' hc
    have hu : (as.map f)[i]? = some u := hu
    have hv : (bs.map f')[i]? = some v := hv
    rw [List.getElem?_map, h1] at hu
    rw [List.getElem?_map, h2] at hv
    have eu : f c.1 = u := Option.some.inj hu
    have ev : f' c.2 = v := Option.some.inj hv
    subst eu ev
    exact ⟨Ex.new nT, _, fun Q hQ => ⟨T, _, rfl, st_of upd_same, rfl, _, _, rfl, _, _, rfl, rfl, hQ _ (Ex.refl _)⟩, hw _ _, ht c i _ hc (ea.trans (Ex.new nT))⟩⟩
/-- over enumerate of a new list, a pair of names -/
theorem el_compE {α : Type} {j k : Nat} {vs : List Nat} (as : List α) (f : α → V) (p : Nat × α → Bool) (q : Nat × α → V) (hz : as.length ≤ 16000000) (h : EvL tl σ H (as.map f)) (hw : ∀ x y, wipe (((wipe σ vs).set j (some x)).set k (some y)) vs = wipe σ vs)
    (ht : ∀ (b : α) (i : Nat) H1, as[i]? = some b → Ex H H1 → EvT t (((wipe σ vs).set j (some (nt i))).set k (some (f b))) H1 (p (i, b)) ∧ (p (i, b) = true → Ev te (((wipe σ vs).set j (some (nt i))).set k (some (f b))) H1 (q (i, b)))) :
    EvL (tLc (iEnum K (tCons tl tNil)) (gTup K 2 (gCons (gName j) (gCons (gName k) gNil))) t te vs) σ H ((((List.range as.length).zip as).filter p).map q) := el_comp ((List.range as.length).zip as) p q (by rw [List.length_zip, List.length_range]; omega) fun H1 e1 R hR =>
  h H1 e1 _ fun a H2 _ e2 hx => ⟨a, as.map f, rfl, sq_of hx, hR _ _ _ H2 e2 (by have := walk_enum (K := K) (a := a) (xs := as.map f); rw [List.length_map] at this; rwa [List.length_zip, List.length_range, Nat.min_self]) (sq_of hx) (fun _ _ e => ex_l e) fun i c x Ha Hb hc ea y => by
    obtain ⟨T, u, v, rfl, nT, rfl, hu, hv⟩ := y
    obtain ⟨h1, h2⟩ := getElem?_zip' hc
    have hv : (as.map f)[i]? = some v := hv
    rw [List.getElem?_map, h2] at hv
    have ev : f c.2 = v := Option.some.inj hv
    have eu : V.int (i : Nat) = u := Option.some.inj hu
    have ei : c.1 = i := by
      obtain ⟨_, e⟩ := List.getElem?_eq_some_iff.mp h1
      rw [List.getElem_range] at e
      exact e.symm
    obtain ⟨c1, c2⟩ := c
    subst eu ev ei
    exact ⟨Ex.new nT, _, fun Q hQ => ⟨T, _, rfl, st_of upd_same, rfl, _, _, rfl, _, _, rfl, rfl, hQ _ (Ex.refl _)⟩, hw _ _, ht c2 c1 _ h2 (ea.trans (Ex.new nT))⟩⟩
end
end K7

set_option linter.all false
set_option Elab.async false
/-! The top's facts by name. -/
namespace K7
open PySem PySem.Spec PyProof.Rows L2 Evl
section
variable {K : PySem.W.Frag} {mg : Str → Option Value}
theorem TopE.f_all (T : TopE K mg) : mg "all" = none := T.free 50 rfl
theorem TopE.f_bool (T : TopE K mg) : mg "bool" = none := T.free 51 rfl
theorem TopE.f_enumerate (T : TopE K mg) : mg "enumerate" = none := T.free 52 rfl
theorem TopE.f_int (T : TopE K mg) : mg "int" = none := T.free 53 rfl
theorem TopE.f_isinstance (T : TopE K mg) : mg "isinstance" = none := T.free 54 rfl
theorem TopE.f_len (T : TopE K mg) : mg "len" = none := T.free 55 rfl
theorem TopE.f_list (T : TopE K mg) : mg "list" = none := T.free 56 rfl
theorem TopE.f_max (T : TopE K mg) : mg "max" = none := T.free 57 rfl
theorem TopE.f_min (T : TopE K mg) : mg "min" = none := T.free 58 rfl
theorem TopE.f_range (T : TopE K mg) : mg "range" = none := T.free 59 rfl
theorem TopE.f_repr (T : TopE K mg) : mg "repr" = none := T.free 60 rfl
theorem TopE.f_set (T : TopE K mg) : mg "set" = none := T.free 61 rfl
theorem TopE.f_sorted (T : TopE K mg) : mg "sorted" = none := T.free 62 rfl
theorem TopE.f_str (T : TopE K mg) : mg "str" = none := T.free 63 rfl
theorem TopE.f_sum (T : TopE K mg) : mg "sum" = none := T.free 64 rfl
theorem TopE.f_zip (T : TopE K mg) : mg "zip" = none := T.free 65 rfl
theorem TopE.c_LETTERS (T : TopE K mg) : ∃ t, mg "LETTERS" = some (.str "abcdef" t) := T.str 66 rfl
theorem TopE.c_MOST_LONG (T : TopE K mg) : ∃ t, mg "MOST_LONG" = some (.int 60 t) := T.int 67 rfl
theorem TopE.c_MOST_SIZE (T : TopE K mg) : ∃ t, mg "MOST_SIZE" = some (.int 6 t) := T.int 68 rfl
theorem TopE.c_MANY_LETTERS (T : TopE K mg) : ∃ t, mg "MANY_LETTERS" = some (.int 6 t) := T.int 69 rfl
theorem TopE.c_HEAD (T : TopE K mg) : ∃ t, mg "HEAD" = some (.str "head" t) := T.str 70 rfl
theorem TopE.c_STEPS (T : TopE K mg) : ∃ t, mg "STEPS" = some (.str "steps" t) := T.str 71 rfl
end
end K7

set_option Elab.async false
set_option linter.all false
set_option maxRecDepth 100000
set_option maxHeartbeats 2000000
/-! The program's defs: what is asked; gaps, steps, runs. -/
namespace K7
open PySem PySem.Spec PyProof.Rows L2 Evl
section
variable {K : PySem.W.Frag} {σ : L2.St} {H : Hp} {te tb : TE}
theorem el_is {xs ys : List V} (h : EvL te σ H xs) (e : xs = ys) : EvL te σ H ys := e ▸ h
theorem ev_isi {x : V} {a n : String} {b : Bool} (h : Ev te σ H x) (h2 : Ev tb σ H (.ty n)) (ht : ∀ H, TyX K H x (.type a)) (hk : kitB a n = some b) : Ev (tCB (rIsi K) (tCons te (tCons tb tNil))) σ H (.bl b) := fun H1 e Q q =>
  h H1 e _ fun H2 e2 => h2 H2 (e.trans e2) _ fun H3 e3 => ⟨x, .ty n, .type a, .type n, b, rfl, .ty n, ht H3, kit_ty hk, q H3 (e2.trans e3)⟩
end
section
variable {P : Program} {w : World} {K : PySem.W.Frag} {mg : Str → Option Value} {base : Heap}
/-! ### is_whole, is_text, need_text, need_size, need_two -/
def sp_is_whole : Sp := fun vs H Q _ => ∃ v a b : Int, vs = [.int v, .int a, .int b] ∧ GiveV (.bl (decide (a ≤ v) && decide (v ≤ b))) H Q
theorem ok_is_whole (T : TopE K mg) : Has P w K mg base CX0 1 "is_whole" ["value", "least", "most"] sp_is_whole := by
  refine has_of T 0 0 rfl rfl rfl sc_is_whole (fun _ _ _ _ _ _ us hl => match us, hl with | [_, _, _], _ => rfl) (fun vs H Q E h => ?_) (fun cdv f A outer s H vs Q E hr h => ?_)
  · obtain ⟨v, a, b, rfl, _⟩ := h
    rfl
  · obtain ⟨v, a, b, rfl, k⟩ := h
    refine ⟨_, PSs.nox (pss_one (ps_ret (pe_and (pe_callB call_isi (by rfl) T.f_isinstance (by decide +kernel) (pa_cons (pv 0) (pa_cons (pe_bltn (v := .ty "int") (by rfl) T.f_int PyProof.Rows.boot_int rfl) pa_nil)))
      (pe_and (pe_not (pe_callB call_isi (by rfl) T.f_isinstance (by decide +kernel) (pa_cons (pv 0) (pa_cons (pe_bltn (v := .ty "bool") (u := .type "bool") (by rfl) T.f_bool (by decide +kernel) rfl) pa_nil))))
      (pe_one (pe_chain op_le op_le (pv 1) (pv 0) (pv 2))))))), ?_⟩
    refine s_ret (ev_andV (a := true) (b := !false && (decide (a ≤ v) && decide (v ≤ b))) (ev_isi (a := "int") (ev_var rfl) ev_c (fun _ => .base (.int v)) (by decide +kernel)) fun _ =>
      ev_andV (a := !false) (ev_notV (ev_isi (a := "int") (ev_var rfl) ev_c (fun _ => .base (.int v)) (by decide +kernel))) fun _ => ev_chain (ev_var rfl) (ev_var rfl) (ev_var rfl) rv_I0 rv_I0) fun H1 e => ?_
    exact k H1 e
def sp_is_text : Sp := fun vs H Q _ => ∃ l : Tx, vs = [tx l] ∧ Ok l ∧ l.length ≤ 60 ∧ GiveV (.bl true) H Q
theorem letters_has : ∀ x < 6, (!(Builtin.Str.occurrences ("abcdef" : Str) (enc [x]) 0 ("abcdef" : Str).length 1).isEmpty) = true := by decide +kernel
theorem letters_at : ∀ x < 6, Txt.index0 ("abcdef" : Str) (enc [x]) = some x := by decide +kernel
theorem ok_is_text (T : TopE K mg) : Has P w K mg base CX0 1 "is_text" ["value"] sp_is_text := by
  refine has_of T 1 1 rfl rfl rfl sc_is_text (fun _ _ _ _ _ _ us hl => match us, hl with | [_], _ => rfl) (fun vs H Q E h => ?_) (fun cdv f A outer s H vs Q E hr h => ?_)
  · obtain ⟨l, rfl, _⟩ := h
    rfl
  · obtain ⟨l, rfl, ok, hl, k⟩ := h
    obtain ⟨t1, gML⟩ := T.c_MOST_LONG
    obtain ⟨t2, gLT⟩ := T.c_LETTERS
    refine ⟨_, PSs.nox (pss_one (ps_ret (pe_and (pe_callB call_isi (by rfl) T.f_isinstance (by decide +kernel) (pa_cons (pv 0) (pa_cons (pe_bltn (v := .ty "str") (by rfl) T.f_str PyProof.Rows.boot_str rfl) pa_nil)))
      (pe_and (pe_cmpR op_le (pe_callB call_len_str (by rfl) T.f_len PySem.boot_len (pa_cons (pv 0) pa_nil)) (pe_glob (v := .int 60) (by rfl) gML ⟨_, rfl⟩) (nomark _))
      (pe_one (pe_callB (cr_all rfl) (by rfl) T.f_all (by decide +kernel) (pa_cons (pe_lc (own := [("sign", 1)]) (g := gName 1) (tt := tYes) rfl sc_is_text.nd (pi_str (pv 0)) (blkOk_by (N := N_is_text) (sc := defScope s_is_text) (by decide +kernel))
        (fun _ _ _ _ _ => pg_name (i := 1) sc_is_text.nd rfl (Or.inl rfl)) (fun _ _ _ _ _ => pts_nil) (fun _ _ _ _ _ => pe_cmpR op_in_str (pv 1) (pe_glob (v := .str "abcdef") (by rfl) gLT ⟨_, rfl⟩) (by rfl))) pa_nil))))))), ?_⟩
    refine s_ret (ev_andV (a := true) (b := true && true) (ev_isi (a := "str") (ev_var rfl) ev_c (fun _ => .base (.str (enc l))) (by decide +kernel)) fun _ =>
      ev_andV (a := true) (ev_is (ev_le (ev_lenT (ev_var rfl) (by omega)) ev_c) (by rw [decide_eq_true (by omega)])) fun _ => ev_is (ev_allN (bs := (l.filter fun _ => true).map fun _ => true) ?_) (by simp)) fun H1 e => k H1 e
    refine el_is (el_compT l (fun _ => true) (fun _ => .bl true) (by omega) (ev_var rfl) (fun x => rfl) fun b H1 hb e => ⟨et_yes, fun _ =>
      ev_op (z := .bl true) (ev_var rfl) (ev_c (v := .str "abcdef")) fun H2 _ Q q => ⟨enc [b], ("abcdef" : Str), rfl, rfl, by
        rw [letters_has b (ok b hb)]
        exact q H2 (Ex.refl H2)⟩⟩) (by simp)
def sp_need_text : Sp := fun vs H Q _ => ∃ l : Tx, vs = [tx l] ∧ Ok l ∧ l.length ≤ 60 ∧ GiveV (tx l) H Q
theorem ok_need_text (T : TopE K mg) : Has P w K mg base CX0 2 "need_text" ["text"] sp_need_text := by
  have F1 : Has P w K mg base CX0 1 "is_text" ["value"] sp_is_text := ok_is_text T
  refine has_of T 2 2 rfl rfl rfl sc_need_text (fun _ _ _ _ _ _ us hl => match us, hl with | [_], _ => rfl) (fun vs H Q E h => ?_) (fun cdv f A outer s H vs Q E hr h => ?_)
  · obtain ⟨l, rfl, _⟩ := h
    rfl
  · obtain ⟨l, rfl, ok, hl, k⟩ := h
    refine ⟨_, PSs.nox (pss_cons (ps_if (pt_not (pt_val (pe_h F1 hr pass0 (pa_cons (pv 0) pa_nil)))) (pss_one ps_never) pss_nil) (pss_one (ps_ret (pv 0)))), ?_⟩
    refine q_when (et_not (et_B (b := true) (ev_call (ea_1 (ev_var rfl)) fun H1 e Q q E => ⟨l, rfl, ok, hl, q⟩))) (fun h => by cases h) fun _ H1 e1 => ?_
    exact s_ret (ev_var rfl) fun H2 e2 => k H2 (e1.trans e2)
def sp_need_size : Sp := fun vs H Q _ => ∃ v : Int, vs = [.int v] ∧ 1 ≤ v ∧ v ≤ 6 ∧ GiveV (.int v) H Q
theorem ok_need_size (T : TopE K mg) : Has P w K mg base CX0 2 "need_size" ["size"] sp_need_size := by
  have F1 : Has P w K mg base CX0 1 "is_whole" ["value", "least", "most"] sp_is_whole := ok_is_whole T
  refine has_of T 3 3 rfl rfl rfl sc_need_size (fun _ _ _ _ _ _ us hl => match us, hl with | [_], _ => rfl) (fun vs H Q E h => ?_) (fun cdv f A outer s H vs Q E hr h => ?_)
  · obtain ⟨l, rfl, _⟩ := h
    rfl
  · obtain ⟨v, rfl, h1, h6, k⟩ := h
    obtain ⟨t1, gMS⟩ := T.c_MOST_SIZE
    refine ⟨_, PSs.nox (pss_cons (ps_if (pt_not (pt_val (pe_h F1 hr pass0 (pa_cons (pv 0) (pa_cons pe_int (pa_cons (pe_glob (v := .int 6) (by rfl) gMS ⟨_, rfl⟩) pa_nil)))))) (pss_one ps_never) pss_nil) (pss_one (ps_ret (pv 0)))), ?_⟩
    refine q_when (et_not (et_B (b := true) (ev_call (ea_3 (ev_var rfl) (ev_c (v := .int 1)) ev_c) fun H1 e Q q E => ⟨v, 1, 6, rfl, by
      rw [decide_eq_true h1, decide_eq_true h6]
      exact q⟩))) (fun h => by cases h) fun _ H1 e1 => ?_
    exact s_ret (ev_var rfl) fun H2 e2 => k H2 (e1.trans e2)
def sp_need_two : Sp := fun vs H Q _ => ∃ (a b : Tx) (v : Int), vs = [tx a, tx b, .int v] ∧ Ok a ∧ Ok b ∧ a.length ≤ 60 ∧ b.length ≤ 60 ∧ 1 ≤ v ∧ v ≤ 6 ∧ GiveV .non H Q
theorem ok_need_two (T : TopE K mg) : Has P w K mg base CX0 3 "need_two" ["one", "other", "size"] sp_need_two := by
  have F1 : Has P w K mg base CX0 2 "need_text" ["text"] sp_need_text := ok_need_text T
  have F2 : Has P w K mg base CX0 2 "need_size" ["size"] sp_need_size := ok_need_size T
  refine has_of T 4 4 rfl rfl rfl sc_need_two (fun _ _ _ _ _ _ us hl => match us, hl with | [_, _, _], _ => rfl) (fun vs H Q E h => ?_) (fun cdv f A outer s H vs Q E hr h => ?_)
  · obtain ⟨a, b, v, rfl, _⟩ := h
    rfl
  · obtain ⟨a, b, v, rfl, oa, ob, la, lb, h1, h6, k⟩ := h
    refine ⟨_, PSs.nox (pss_cons (ps_expr (pe_h F1 hr pass0 (pa_cons (pv 0) pa_nil))) (pss_cons (ps_expr (pe_h F1 hr pass0 (pa_cons (pv 1) pa_nil))) (pss_one (ps_expr (pe_h F2 hr pass0 (pa_cons (pv 2) pa_nil)))))), ?_⟩
    refine q_drop (ev_call (ea_1 (ev_var rfl)) fun H1 e Q q E => ⟨a, rfl, oa, la, q⟩) fun H1 e1 => ?_
    refine q_drop (ev_call (ea_1 (ev_var rfl)) fun H1 e Q q E => ⟨b, rfl, ob, lb, q⟩) fun H2 e2 => ?_
    refine s_drop (ev_call (ea_1 (ev_var rfl)) fun H1 e Q q E => ⟨v, rfl, h1, h6, q⟩) fun H3 e3 => ?_
    exact k H3 ((e1.trans e2).trans e3)
end
end K7

set_option Elab.async false
set_option linter.all false
set_option maxRecDepth 100000
set_option maxHeartbeats 2000000
/-! gaps_of, steps_of, runs_of, laid_out, built_of, root_of. -/
namespace K7
open PySem PySem.Spec PyProof.Rows L2 Evl
section
variable {X : Cx}
/-- xs[-1] as it is read ahead of xs[-1] += .. -/
def rLast : V → V → Hp → VK → Prop := fun o i H Q => ∃ p xs v, o = .ref p ∧ i = .int (-1) ∧ H p = some (.lst xs) ∧ xs[xs.length - 1]? = some v ∧ Q v H
theorem get_last : PGet X rLast := by
  intro pins s σ H o i ov iv Q I ro ri h
  obtain ⟨p, xs, v, rfl, rfl, hp, hv, q⟩ := h
  cases ro
  obtain ⟨t, rfl⟩ := ri
  obtain ⟨its, r, pl, hz⟩ := I.list (sq_of hp)
  obtain ⟨u, hu, ru⟩ := r.get hv
  have hl := r.length
  have hn := line63
  have hx : xs.length - 1 < xs.length := (List.getElem?_eq_some_iff.mp hv).1
  refine wpAny_mono (wpAny_getItem_list_neg (x := u) (Q := fun z s' => EP X pins σ Q z s') pl.isList (by omega) (by rw [List.size_toArray]; omega) (by omega) ?_ ⟨v, H, I, ru, q⟩) (fun _ _ z => z) fun _ _ z => z
  rw [List.size_toArray, ← hl, show ((-1 : Int) + (xs.length : Int)).toNat = xs.length - 1 by omega]
  simpa using hu
end
section
variable {K : PySem.W.Frag} {σ : L2.St} {H : Hp} {ta tb te : TE} {D : Ends} {x z : V}
theorem ev_callW {sp : Sp} {E : XK} {ta : TA} (PV : List V → Hp → Prop) (h : ∀ H1, Ex H H1 → ∀ Q : List V → Hp → Prop, (∀ vs H2, Ex H1 H2 → PV vs H2 → Q vs H2) → ta σ H1 Q)
    (hs : ∀ vs H1, Ex H H1 → PV vs H1 → ∀ (Q : VK) (E : XK), GiveV z H1 Q → sp vs H1 Q E) : Ev (tCall sp [] E ta) σ H z := fun H1 e Q q =>
  h H1 e _ fun vs H2 e2 p => by
    rw [List.append_nil]
    exact hs vs H2 (e.trans e2) p Q E fun H3 e3 => q H3 (e2.trans e3)
theorem el_callW {sp : Sp} {E : XK} {ta : TA} {xs : List V} (PV : List V → Hp → Prop) (h : ∀ H1, Ex H H1 → ∀ Q : List V → Hp → Prop, (∀ vs H2, Ex H1 H2 → PV vs H2 → Q vs H2) → ta σ H1 Q)
    (hs : ∀ vs H1, Ex H H1 → PV vs H1 → ∀ (Q : VK) (E : XK), GiveL xs H1 Q → sp vs H1 Q E) : EvL (tCall sp [] E ta) σ H xs := fun H1 e Q q =>
  h H1 e _ fun vs H2 e2 p => by
    rw [List.append_nil]
    exact hs vs H2 (e.trans e2) p Q E fun a H3 n e3 h3 => q a H3 (fresh_back e2 n) (e2.trans e3) h3
theorem wa_vll {xs ys : List V} (h1 : Ev ta σ H x) (h2 : EvL tb σ H xs) (h3 : EvL te σ H ys) : ∀ H1, Ex H H1 → ∀ Q : List V → Hp → Prop, (∀ vs H2, Ex H1 H2 → (∃ p q, vs = [x, .ref p, .ref q] ∧ H2 p = some (.lst xs) ∧ H2 q = some (.lst ys)) → Q vs H2) → tCons ta (tCons tb (tCons te tNil)) σ H1 Q := fun H1 e Q q =>
  h1 H1 e _ fun H2 e2 => h2 H2 (e.trans e2) _ fun p H3 _ e3 hp => h3 H3 ((e.trans e2).trans e3) _ fun r H4 _ e4 hr => q _ H4 ((e2.trans e3).trans e4) ⟨p, r, rfl, e4 p _ hp, hr⟩
theorem wa_vlv {a : Addr} {xs ys : List V} (h1 : Ev ta σ H x) (h2 : EvL tb σ H xs) (h3 : Ev te σ H (.ref a)) (ha : H a = some (.lst ys)) : ∀ H1, Ex H H1 → ∀ Q : List V → Hp → Prop, (∀ vs H2, Ex H1 H2 → (∃ p q, vs = [x, .ref p, .ref q] ∧ H2 p = some (.lst xs) ∧ H2 q = some (.lst ys)) → Q vs H2) → tCons ta (tCons tb (tCons te tNil)) σ H1 Q := fun H1 e Q q =>
  h1 H1 e _ fun H2 e2 => h2 H2 (e.trans e2) _ fun p H3 _ e3 hp => h3 H3 ((e.trans e2).trans e3) _ fun H4 e4 => q _ H4 ((e2.trans e3).trans e4) ⟨p, a, rfl, e4 p _ hp, (((e.trans e2).trans e3).trans e4) _ _ ha⟩
theorem wa_ll {xs ys : List V} (h2 : EvL tb σ H xs) (h3 : EvL te σ H ys) : ∀ H1, Ex H H1 → ∀ Q : List V → Hp → Prop, (∀ p q H2, Ex H1 H2 → SqL K H2 p xs → SqL K H2 q ys → Q [.ref p, .ref q] H2) → tCons tb (tCons te tNil) σ H1 Q := fun H1 e Q q =>
  h2 H1 e _ fun p H3 _ e3 hp => h3 H3 (e.trans e3) _ fun r H4 _ e4 hr => q _ _ H4 (e3.trans e4) (sq_of (e4 p _ hp)) (sq_of hr)
theorem wa_vl {a : Addr} {xs ys : List V} (h2 : Ev tb σ H (.ref a)) (hs : SqL K H a xs) (h3 : EvL te σ H ys) : ∀ H1, Ex H H1 → ∀ Q : List V → Hp → Prop, (∀ p q H2, Ex H1 H2 → SqL K H2 p xs → SqL K H2 q ys → Q [.ref p, .ref q] H2) → tCons tb (tCons te tNil) σ H1 Q := fun H1 e Q q =>
  h2 H1 e _ fun H3 e3 => h3 H3 (e.trans e3) _ fun r H4 _ e4 hr => q _ _ H4 (e3.trans e4) (ex_l ((e.trans e3).trans e4) hs) (sq_of hr)
theorem s_ext {l : Addr} {xs ys : List V} (hl : H l = some (.lst xs)) (ha : Ev ta σ H (.ref l)) (h : EvL te σ H ys) (hz : xs.length + ys.length ≤ 100000) (k : ∀ p H1, H p = none → Ex H H1 → H1 p = some (.lst ys) → D.nx σ (upd H1 l (.lst (xs ++ ys)))) :
    tDrop (tBM K "list" rExtend ta (tCons te tNil)) D σ H := ha H (Ex.refl H) _ fun H1 e1 =>
  ⟨Or.inl ⟨rfl, xs, sq_of (e1 l _ hl)⟩, h H1 e1 _ fun p H2 hp e2 h2 => ⟨l, p, xs, ys, rfl, rfl, e2 l _ (e1 l _ hl), h2, sz_of hz, k p H2 (fresh_back e1 hp) (e1.trans e2) h2⟩⟩
theorem q_ext {l : Addr} {xs ys : List V} {tz : TS} (hl : H l = some (.lst xs)) (ha : Ev ta σ H (.ref l)) (h : EvL te σ H ys) (hz : xs.length + ys.length ≤ 100000) (k : ∀ p H1, H p = none → Ex H H1 → H1 p = some (.lst ys) → tz D σ (upd H1 l (.lst (xs ++ ys)))) :
    tSeq (tDrop (tBM K "list" rExtend ta (tCons te tNil))) tz D σ H := s_ext (D := { D with nx := tz D }) hl ha h hz k
theorem filt_true {α : Type} (l : List α) : (l.filter fun _ => true) = l := List.filter_eq_self.mpr fun _ _ => rfl
theorem flat_rep {α : Type} (x : α) (n : Nat) : (List.replicate n [x]).flatten = List.replicate n x := by
  induction n with
  | zero => rfl
  | succ n ih => rw [List.replicate_succ, List.flatten_cons, ih, List.replicate_succ] <;> rfl
theorem el_repI {k : Nat} (h : EvL te σ H [x]) (hk : Ev tb σ H (nt k)) (hz : k ≤ 1000) : EvL (tOp rRep te tb) σ H (List.replicate k x) := fun H1 e Q q =>
  h H1 e _ fun p H2 np e2 hp => hk H2 (e.trans e2) _ fun H3 e3 => ⟨p, (k : Int), [x], rfl, rfl, e3 p _ hp, by omega, by omega, by simp only [Int.toNat_natCast, List.length_cons, List.length_nil]; exact small (by omega), fun r hr => by
    rw [Int.toNat_natCast, flat_rep]
    exact q r _ (fresh_back (e2.trans e3) hr) ((e2.trans e3).trans (Ex.new hr)) upd_same⟩
end
theorem cast_gap {a b : Nat} (ha : a < 6) (hb : b < 6) : ((b : Int) - (a : Int)) % 6 = ((gap a b : Nat) : Int) := by
  unfold gap
  omega
theorem gaps_zip (w : Nat) (l : Tx) : ((l.zip (l.drop w)).filter fun _ => true).map (fun p => nt (gap p.1 p.2)) = nts (gaps w l) := by
  unfold gaps nts
  rw [List.filter_eq_self.mpr (fun _ _ => rfl), ← List.map_uncurry_zip_eq_zipWith, List.map_map]
  rfl
section
variable {P : Program} {w : World} {K : PySem.W.Frag} {mg : Str → Option Value} {base : Heap}
/-! ### gaps_of, steps_of -/
/-- LETTERS.index(name) -/
def tIdx (K : PySem.W.Frag) (i : Nat) : TE := tBMS K "str" (rIndexX fun _ _ _ _ => False) (tC (.str "abcdef")) (tCons (tVar i) tNil)
theorem ev_idx {σ : L2.St} {H : Hp} {i b : Nat} (h : σ[i]? = some (some (tx [b]))) (hb : b < 6) : Ev (tIdx K i) σ H (nt b) := fun H1 _ Q q => by
  refine ⟨rfl, tx [b], h, ("abcdef" : Str), enc [b], rfl, rfl, fun k hk => ?_, fun hk => ?_⟩
  · rw [letters_at b hb] at hk
    cases hk
    exact q H1 (Ex.refl H1)
  · rw [letters_at b hb] at hk
    cases hk
def sp_gaps_of : Sp := fun vs H Q _ => ∃ (l : Tx) (n : Nat), vs = [tx l, nt n] ∧ Ok l ∧ l.length ≤ 1000 ∧ GiveL (nts (gaps n l)) H Q
theorem ok_gaps_of (T : TopE K mg) : Has P w K mg base CX0 1 "gaps_of" ["text", "size"] sp_gaps_of := by
  refine has_of T 5 5 rfl rfl rfl sc_gaps_of (fun _ _ _ _ _ _ us hl => match us, hl with | [_, _], _ => rfl) (fun vs H Q E h => ?_) (fun cdv f A outer s H vs Q E hr h => ?_)
  · obtain ⟨l, n, rfl, _⟩ := h
    rfl
  · obtain ⟨l, n, rfl, ok, hl, k⟩ := h
    obtain ⟨t1, gM⟩ := T.c_MANY_LETTERS
    obtain ⟨t2, gLT⟩ := T.c_LETTERS
    refine ⟨_, PSs.nox (pss_cons (ps_setLc (i := 2) (own := [("sign", 3)]) (g := gName 3) (tt := tYes) rfl sc_gaps_of.nd rfl rfl (sw_true rfl rfl rfl (by decide +kernel)) (pi_str (pv 0)) (blkOk_by (N := N_gaps_of) (sc := defScope s_gaps_of) (by decide +kernel))
        (fun _ _ _ _ _ => pg_name (i := 3) sc_gaps_of.nd rfl (Or.inl rfl)) (fun _ _ _ _ _ => pts_nil)
        (fun _ _ _ _ _ => show PE _ _ (tIdx K 3) from pe_bmS PySem.F.plainAttrs_str PySem.F.slot_str_index PySem.F.type_str_index (mt_indexX (W := fun _ _ _ _ => False) rfl takes0) (pe_glob (v := .str "abcdef") (by rfl) gLT ⟨_, rfl⟩) (pa_cons (pv 3) pa_nil)))
      (pss_one (ps_ret (pe_lc (own := [("near", 4), ("far", 5)]) (g := gTup _ 2 (gCons (gName 4) (gCons (gName 5) gNil))) (tt := tYes) rfl sc_gaps_of.nd (pi_zip (by rfl) T.f_zip (pa_cons (pv 2) (pa_cons (pe_slice sl_list (pv 2) (po_some (pv 1)) po_none) pa_nil)))
        (blkOk_by (N := N_gaps_of) (sc := defScope s_gaps_of) (by decide +kernel)) (fun _ _ _ _ _ => pg_tup rfl (pgs_cons (pg_name (i := 4) sc_gaps_of.nd rfl (Or.inl rfl)) (pgs_cons (pg_name (i := 5) sc_gaps_of.nd rfl (Or.inl rfl)) pgs_nil))) (fun _ _ _ _ _ => pts_nil)
        (fun _ _ _ _ _ => pe_op op_mod (pe_op op_sub (pv 5) (pv 4)) (pe_glob (v := .int 6) (by rfl) gM ⟨_, rfl⟩)))))), ?_⟩
    refine q_asgL (xs := nts l) (el_is (el_compT l (fun _ => true) nt hl (ev_var rfl) (fun x => rfl) fun b H1 hb e => ⟨et_yes, fun _ => ev_idx rfl (ok b hb)⟩) (by rw [filt_true])) fun p H1 np e1 hp => ?_
    · refine s_retL (el_is (el_compZ l (l.drop n) nt nt (fun _ => true) (fun p => nt (gap p.1 p.2)) (by omega) (wa_vl (ev_var rfl) (sq_of hp) (el_is (el_dropL (ev_var rfl) (eo_some (ev_var rfl)) eo_none (sq_of hp)) List.map_drop.symm)) (fun x y => rfl) fun b i H2 hb e2 => ⟨et_yes, fun _ => ?_⟩) (gaps_zip n l)) fun q H2 nq e2 hq => k q H2 (fresh_back e1 nq) (e1.trans e2) hq
      obtain ⟨h1, h2⟩ := getElem?_zip' hb
      exact ev_is (ev_mod (ev_sub (ev_var rfl) (ev_var rfl)) ev_c (by decide)) (by rw [cast_gap (ok _ (List.mem_of_getElem? h1)) (ok _ (List.mem_of_mem_drop (List.mem_of_getElem? h2)))])
def sp_steps_of : Sp := fun vs H Q _ => ∃ (l : Tx) (n : Nat), vs = [tx l, nt n] ∧ Ok l ∧ l.length ≤ 1000 ∧ GiveL (nts (steps n l)) H Q
theorem ok_steps_of (T : TopE K mg) : Has P w K mg base CX0 2 "steps_of" ["text", "size"] sp_steps_of := by
  have F1 : Has P w K mg base CX0 1 "gaps_of" ["text", "size"] sp_gaps_of := ok_gaps_of T
  refine has_of T 6 6 rfl rfl rfl sc_steps_of (fun _ _ _ _ _ _ us hl => match us, hl with | [_, _], _ => rfl) (fun vs H Q E h => ?_) (fun cdv f A outer s H vs Q E hr h => ?_)
  · obtain ⟨l, n, rfl, _⟩ := h
    rfl
  · obtain ⟨l, n, rfl, ok, hl, k⟩ := h
    refine ⟨_, PSs.nox (pss_one (ps_ret (pe_lc (own := [("gap", 2)]) (g := gName 2) rfl sc_steps_of.nd (pi_list (pe_h F1 hr pass0 (pa_cons (pv 0) (pa_cons (pv 1) pa_nil)))) (blkOk_by (N := N_steps_of) (sc := defScope s_steps_of) (by decide +kernel))
        (fun _ _ _ _ _ => pg_name (i := 2) sc_steps_of.nd rfl (Or.inl rfl)) (fun _ _ _ _ _ => pts_one (pt_cmpR op_ne (pv 2) pe_int (nomark _))) (fun _ _ _ _ _ => pv 2)))), ?_⟩
    refine s_retL (el_compN (gaps n l) nt (fun g => g != 0) nt (by rw [gaps_len]; omega) (el_call (ea_2 (ev_var rfl) (ev_var rfl)) fun H1 e Q q E => ⟨l, n, rfl, ok, hl, q⟩) (fun x => rfl) fun b i H1 hb e => ⟨et_is (et_test (ev_neI (ev_var rfl) (ev_c (v := .int 0)))) ?_, fun _ => ev_var rfl⟩) fun q H2 nq e2 hq => k q H2 nq e2 hq
    cases b with
    | zero => rfl
    | succ b => simp; omega
end
end K7

set_option Elab.async false
set_option linter.all false
set_option maxRecDepth 100000
set_option maxHeartbeats 2000000
/-! runs_of, laid_out, built_of, root_of. -/
namespace K7
open PySem PySem.Spec PyProof.Rows L2 Evl
/-- the runs as the program tells them: none of a text that is shorter than the size -/
def runsP (n : Nat) (l : Tx) : List Nat := if l.length < n then [] else runs n l
theorem nts_len (l : List Nat) : (nts l).length = l.length := List.length_map ..
theorem nts_app (a b : List Nat) : nts (a ++ b) = nts a ++ nts b := List.map_append ..
theorem nts_get {l : List Nat} {i : Nat} {x : V} (h : (nts l)[i]? = some x) : ∃ b, l[i]? = some b ∧ x = nt b := by
  rw [List.getElem?_map] at h
  cases e : l[i]? with
  | none =>
    rw [e] at h
    cases h
  | some b =>
    rw [e] at h
    exact ⟨b, rfl, (Option.some.inj h).symm⟩
theorem runsG_le : ∀ gs : List Nat, (runsG gs).length ≤ gs.length + 1
  | [] => Nat.le_refl _
  | 0 :: r => by
    have ih := runsG_le r
    obtain ⟨a, b, e⟩ := runsG_cons r
    show (inc1 (runsG r)).length ≤ r.length + 1 + 1
    rw [e] at ih ⊢
    exact Nat.le_succ_of_le ih
  | (n + 1) :: r => by
    have ih := runsG_le r
    show (runsG r).length + 1 ≤ r.length + 1 + 1
    omega
theorem last_some {l : List Nat} (h : l ≠ []) : ∃ k, l[l.length - 1]? = some k := by
  have : l.length - 1 < l.length := by
    cases l with
    | nil => exact absurd rfl h
    | cons a r => simp
  exact ⟨_, List.getElem?_eq_getElem this⟩
section
variable {P : Program} {w : World} {K : PySem.W.Frag} {mg : Str → Option Value} {base : Heap}
def sp_runs_of : Sp := fun vs H Q _ => ∃ (l : Tx) (n : Nat), vs = [tx l, nt n] ∧ Ok l ∧ l.length ≤ 1000 ∧ GiveL (nts (runsP n l)) H Q
theorem ok_runs_of (T : TopE K mg) : Has P w K mg base CX0 2 "runs_of" ["text", "size"] sp_runs_of := by
  have F1 : Has P w K mg base CX0 1 "gaps_of" ["text", "size"] sp_gaps_of := ok_gaps_of T
  refine has_of T 7 7 rfl rfl rfl sc_runs_of (fun _ _ _ _ _ _ us hl => match us, hl with | [_, _], _ => rfl) (fun vs H Q E h => ?_) (fun cdv f A outer s H vs Q E hr h => ?_)
  · obtain ⟨l, n, rfl, _⟩ := h
    rfl
  · obtain ⟨l, n, rfl, ok, hl, k⟩ := h
    refine ⟨_, PSs.nox (pss_cons (ps_if (pt_cmpR op_lt (pe_callB call_len_str (by rfl) T.f_len PySem.boot_len (pa_cons (pv 0) pa_nil)) (pv 1) (nomark _)) (pss_one (ps_ret (pe_lst pa_nil))) pss_nil)
      (pss_cons (ps_set (i := 2) sc_runs_of.nd rfl (Or.inl rfl) (pe_lst (pa_cons pe_int pa_nil)))
      (pss_cons (ps_for PassesOwn.never rfl (pi_list (pe_h F1 hr pass0 (pa_cons (pv 0) (pa_cons (pv 1) pa_nil)))) (pg_name (i := 3) sc_runs_of.nd rfl (Or.inl rfl))
        (pss_one (ps_if (pt_cmpR op_eq (pv 3) pe_int (nomark _)) (pss_one (ps_augS (pv 2) (pe_un un_neg pe_int) get_last pe_int ip_add set_list))
          (pss_one (ps_expr (pe_bm PySem.F.plainAttrs_list PySem.F.slot_list_append PySem.F.type_list_append mt_append (pv 2) (pa_cons pe_int pa_nil)))))))
      (pss_one (ps_ret (pv 2)))))), ?_⟩
    refine q_when (et_test (ev_lt (ev_lenT (ev_var rfl) hl) (ev_var rfl))) (fun hb H1 e1 => ?_) fun hb H1 e1 => ?_
    · have hc : l.length < n := by simpa using hb
      have er : runsP n l = [] := if_pos hc
      rw [er] at k
      exact s_retL (el_lst ea_nil (by simp)) fun p H2 np e2 hp => k p H2 (fresh_back e1 np) (e1.trans e2) hp
    · have hc : ¬ l.length < n := by simpa using hb
      have er : runsP n l = runs n l := if_neg hc
      rw [er] at k
      refine q_asgL (el_lst (ea_1 (ev_c (v := .int 0))) (by simp)) fun o H2 no e2 ho => ?_
      refine q_forNLn (K := K) (xs := nts (gaps n l)) (el_call (ea_2 (ev_var rfl) (ev_var rfl)) fun H1 e Q q E => ⟨l, n, rfl, ok, hl, q⟩)
        (fun p i σ' H' => p ≠ o ∧ (∃ y, σ' = [some (tx l), some (nt n), some (.ref o), y]) ∧ Ex H1 H' ∧ H' p = some (.lst (nts (gaps n l))) ∧ H' o = some (.lst (nts (runsG ((gaps n l).take i)))))
        (fun p H3 np e3 hp => ⟨(ne_of_none ho np).symm, ⟨_, rfl⟩, e2.trans e3, hp, e3 o _ ho⟩) (fun p i σ' H' _ h => sq_of h.2.2.2.1) (fun p i x σ' H' hx h => ?_) fun p σ' H' h => ?_
      · obtain ⟨npo, ⟨y, rfl⟩, e3, hp, hr3⟩ := h
        obtain ⟨g, hg, rfl⟩ := nts_get hx
        have hgl : i < (gaps n l).length := (List.getElem?_eq_some_iff.mp hg).1
        have tk : (gaps n l).take (i + 1) = (gaps n l).take i ++ [g] := by
          rw [List.take_add_one, hg]
          rfl
        have hsz : (runsG ((gaps n l).take i)).length ≤ 1001 := by
          refine Nat.le_trans (runsG_le _) ?_
          rw [List.length_take, gaps_len]
          omega
        obtain ⟨z, hz⟩ := last_some (runsG_ne ((gaps n l).take i))
        refine s_if (et_test (ev_eqI (ev_var rfl) (ev_c (v := .int 0)))) (fun hb H4 e4 => ?_) fun hb H4 e4 => ?_
        · have g0 : g = 0 := by
            have : (g : Int) = 0 := of_decide_eq_true hb
            omega
          subst g0
          have hv : (nts (runsG ((gaps n l).take i)))[(nts (runsG ((gaps n l).take i))).length - 1]? = some (nt z) := by
            rw [nts_len, List.getElem?_map, hz]
            rfl
          refine ⟨_, rfl, 1, rfl, o, _, _, rfl, rfl, e4 _ _ hr3, hv, z, 1, rfl, rfl, o, _, -1, (runsG ((gaps n l).take i)).length - 1, rfl, rfl, e4 _ _ hr3, ?_, ?_⟩
          · have h1 : 1 ≤ (runsG ((gaps n l).take i)).length := by
              obtain ⟨a, b, e⟩ := runsG_cons ((gaps n l).take i)
              rw [e]
              simp
            unfold ixN
            rw [if_neg (by omega), if_pos (by rw [nts_len]; omega), nts_len]
            congr 1
            omega
          · refine ⟨npo, ⟨_, rfl⟩, Ex.mut (e3.trans e4) no, ?_, ?_⟩
            · rw [upd_ne npo]
              exact e4 _ _ hp
            · rw [upd_same, tk, runsG_snoc0, incL_last hz]
              show some (HO.lst ((nts _).set _ (nt (z + 1)))) = _
              rw [← List.map_set]
        · obtain ⟨m, rfl⟩ : ∃ m, g = m + 1 := ⟨g - 1, by
            have : ¬ (g : Int) = 0 := of_decide_eq_false hb
            omega⟩
          refine s_app (e4 _ _ hr3) (ev_var rfl) (ev_c (v := .int 0)) (by rw [nts_len]; omega) fun H5 e5 => ?_
          refine ⟨npo, ⟨_, rfl⟩, Ex.mut ((e3.trans e4).trans e5) no, ?_, ?_⟩
          · rw [upd_ne npo]
            exact e5 _ _ (e4 _ _ hp)
          · rw [upd_same, tk, runsG_snoc, nts_app]
            rfl
      · obtain ⟨npo, ⟨y, rfl⟩, e3, hp, hr3⟩ := h
        rw [nts_len, List.take_length] at hr3
        exact s_ret (ev_var rfl) fun H4 e4 => k o H4 (fresh_back e1 no) ((e1.trans e3).trans e4) (e4 _ _ hr3)
/-! ### laid_out -/
theorem lay_next : ∀ (ss rs : List Nat) (i : Nat) (r : Nat), i ≤ ss.length → rs[i]? = some r → lay (ss.take (i + 1)) (rs.take (i + 1)) = lay (ss.take i) (rs.take i) ++ (List.replicate r 0 ++ match ss[i]? with | some s => [s] | none => [])
  | _, [], _, _, _, h => by simp at h
  | [], r :: rs, 0, r', _, h => by
    have e : r = r' := Option.some.inj h
    subst e
    show lay [] [r] = lay [] [] ++ _
    simp [lay]
  | [], r :: rs, i + 1, r', hi, h => by simp at hi
  | s :: ss, r :: rs, 0, r', _, h => by
    have e : r = r' := Option.some.inj h
    subst e
    show lay [s] [r] = lay [] [] ++ _
    simp [lay]
  | s :: ss, r :: rs, i + 1, r', hi, h => by
    have ih := lay_next ss rs i r' (by simpa using hi) (by simpa using h)
    show List.replicate r 0 ++ s :: lay (ss.take (i + 1)) (rs.take (i + 1)) = (List.replicate r 0 ++ s :: lay (ss.take i) (rs.take i)) ++ (List.replicate r' 0 ++ match ss[i]? with | some s => [s] | none => [])
    rw [ih]
    simp
theorem mem_sum : ∀ {l : List Nat} {x : Nat}, x ∈ l → x ≤ l.sum
  | a :: r, x, h => by
    rw [List.sum_cons]
    rcases List.mem_cons.mp h with rfl | h
    · omega
    · have := mem_sum h
      omega
theorem lay_take_le (ss rs : List Nat) (i : Nat) (hr : rs.length = ss.length + 1) (hi : i ≤ ss.length) : (lay (ss.take i) (rs.take i)).length ≤ ss.length + rs.sum := by
  have hsum : ∀ (l : List Nat) (j : Nat), (l.take j).sum ≤ l.sum := fun l j => by
    have := List.take_append_drop j l
    have e := congrArg List.sum this
    rw [List.sum_append] at e
    omega
  have gen : ∀ (a b : List Nat), b.length ≤ a.length + 1 → (lay a b).length ≤ a.length + b.sum := by
    intro a
    induction a with
    | nil =>
      intro b hb
      cases b with
      | nil => simp [lay]
      | cons r b =>
        have : b = [] := by simpa using hb
        subst this
        simp [lay]
    | cons s a ih =>
      intro b hb
      cases b with
      | nil => simp [lay]
      | cons r b =>
        have := ih b (by simpa using hb)
        show (List.replicate r 0 ++ s :: lay a b).length ≤ _
        rw [List.length_append, List.length_replicate, List.length_cons, List.sum_cons, List.length_cons]
        omega
  have h := gen (ss.take i) (rs.take i) (by rw [List.length_take, List.length_take]; omega)
  have := hsum rs i
  rw [List.length_take] at h
  omega
def sp_laid_out (K : PySem.W.Frag) : Sp := fun vs H Q _ => ∃ (a b : Addr) (ss rs : List Nat), vs = [.ref a, .ref b] ∧ SqL K H a (nts ss) ∧ SqL K H b (nts rs) ∧ rs.length = ss.length + 1 ∧ ss.length + rs.sum ≤ 1000 ∧ GiveL (nts (lay ss rs)) H Q
theorem ok_laid_out (T : TopE K mg) : Has P w K mg base CX0 1 "laid_out" ["own_steps", "own_runs"] (sp_laid_out K) := by
  refine has_of T 8 8 rfl rfl rfl sc_laid_out (fun _ _ _ _ _ _ us hl => match us, hl with | [_, _], _ => rfl) (fun vs H Q E h => ?_) (fun cdv f A outer s H vs Q E hr h => ?_)
  · obtain ⟨a, b, ss, rs, rfl, _⟩ := h
    rfl
  · obtain ⟨a, b, ss, rs, rfl, ha, hb, hlen, hz, k⟩ := h
    refine ⟨_, PSs.nox (pss_cons (ps_set (i := 2) sc_laid_out.nd rfl (Or.inl rfl) (pe_lst pa_nil))
      (pss_cons (ps_for PassesOwn.never rfl (pi_enum (by rfl) T.f_enumerate (pa_cons (pv 1) pa_nil)) (pg_tup rfl (pgs_cons (pg_name (i := 3) sc_laid_out.nd rfl (Or.inl rfl)) (pgs_cons (pg_name (i := 4) sc_laid_out.nd rfl (Or.inl rfl)) pgs_nil)))
        (pss_cons (ps_expr (pe_bm PySem.F.plainAttrs_list PySem.F.slot_list_extend PySem.F.type_list_extend mt_extend (pv 2) (pa_cons (pe_op op_rep (pe_lst (pa_cons pe_int pa_nil)) (pv 4)) pa_nil)))
        (pss_one (ps_if (pt_cmpR op_lt (pv 3) (pe_callB call_len_seq (by rfl) T.f_len PySem.boot_len (pa_cons (pv 0) pa_nil)) (nomark _))
          (pss_one (ps_expr (pe_bm PySem.F.plainAttrs_list PySem.F.slot_list_append PySem.F.type_list_append mt_append (pv 2) (pa_cons (pe_ix ix_list (pv 0) (pv 3) (fun _ _ => rfl)) pa_nil)))) pss_nil))))
      (pss_one (ps_ret (pv 2))))), ?_⟩
    refine q_asgL (el_lst ea_nil (by simp)) fun o H1 no e1 ho => ?_
    refine ⟨_, rfl, b, nts rs, rfl, ex_l e1 hb, for_it (walk_enum (K := K) (a := b) (xs := nts rs)) (fun i σ' H' => (∃ y z, σ' = [some (.ref a), some (.ref b), some (.ref o), y, z]) ∧ Ex H H' ∧ H' o = some (.lst (nts (lay (ss.take i) (rs.take i)))))
      ⟨⟨_, _, rfl⟩, e1, ho⟩ (fun i σ' H' _ h => ex_l h.2.1 hb) (fun i x σ' H' H'' hi h y => ?_) fun σ' H' h => ?_⟩
    · obtain ⟨⟨y1, y2, rfl⟩, e2, hr2⟩ := h
      obtain ⟨T', u, v, rfl, nT, rfl, hu, hv⟩ := y
      obtain ⟨r, hrr, rfl⟩ := nts_get (show (nts rs)[i]? = some v from hv)
      cases (Option.some.inj hu : V.int (i : Nat) = u)
      rw [nts_len, hlen] at hi
      have hrs : r ≤ rs.sum := mem_sum (List.mem_of_getElem? hrr)
      have nTo : o ≠ T' := ne_of_none hr2 nT
      have e3 : Ex H' (upd H' T' (.tup [.int (i : Nat), nt r])) := Ex.new nT
      have hL := lay_take_le ss rs i hlen (by omega)
      refine ⟨T', _, rfl, st_of upd_same, rfl, _, _, rfl, _, _, rfl, rfl, ?_⟩
      refine q_ext (xs := nts (lay (ss.take i) (rs.take i))) (ys := nts (List.replicate r 0)) ((e3 _ _ hr2)) (ev_var rfl) (el_is (el_repI (el_lst (ea_1 (ev_c (v := .int 0))) (by simp)) (ev_var rfl) (by omega)) (by simp)) (by rw [nts_len, nts_len, List.length_replicate]; omega) fun p H4 np e4 hp => ?_
      have n4 : H o = none := no
      have e5 : Ex H (upd H4 o (.lst (nts (lay (ss.take i) (rs.take i)) ++ nts (List.replicate r 0)))) := Ex.mut ((e2.trans e3).trans e4) n4
      refine s_when (et_test (ev_lt (ev_var rfl) (ev_lenL (ev_var rfl) (ex_l e5 ha)))) (fun hb H5 e6 => ?_) fun hb H5 e6 => ?_
      · have hc : i < ss.length := by
          rw [nts_len] at hb
          simpa using hb
        have hs : (nts ss)[i]? = some (nt ss[i]) := by rw [List.getElem?_map, List.getElem?_eq_getElem hc] <;> rfl
        refine s_app (e6 _ _ upd_same) (ev_var rfl) (ev_op (ev_var rfl) (ev_var rfl) (rv_ixL (ex_l (e5.trans e6) ha) (atI_nat hs))) (by rw [List.length_append, nts_len, nts_len, List.length_replicate]; omega) fun H6 e7 => ?_
        refine ⟨⟨_, _, rfl⟩, Ex.mut ((e5.trans e6).trans e7) n4, ?_⟩
        rw [upd_same, lay_next ss rs i r (by omega) hrr, List.getElem?_eq_getElem hc, nts_app, nts_app, List.append_assoc]
        rfl
      · have hc : ¬ i < ss.length := by
          rw [nts_len] at hb
          simpa using hb
        refine ⟨⟨_, _, rfl⟩, e5.trans e6, ?_⟩
        rw [lay_next ss rs i r (by omega) hrr, List.getElem?_eq_none (by omega), nts_app, nts_app]
        simpa using e6 _ _ upd_same
    · obtain ⟨⟨y1, y2, rfl⟩, e2, hr2⟩ := h
      rw [nts_len, hlen, List.take_of_length_le (by omega), List.take_of_length_le (by omega)] at hr2
      exact s_ret (ev_var rfl) fun H4 e4 => k o H4 no (e2.trans e4) (e4 _ _ hr2)
end
end K7

set_option Elab.async false
set_option linter.all false
set_option maxRecDepth 100000
set_option maxHeartbeats 2000000
/-! built_of, root_of. -/
namespace K7
open PySem PySem.Spec PyProof.Rows L2 Evl
theorem joinL_nil : ∀ ps : List (List Nat), TL.joinL [] ps = ps.flatten
  | [] => rfl
  | [p] => by simp [TL.joinL]
  | p :: q :: r => by
    have ih := joinL_nil (q :: r)
    show p ++ ([] ++ TL.joinL [] (q :: r)) = _
    rw [ih]
    rfl
theorem join_signs (l : Tx) : Txt.join ("" : Str) (l.map fun b => enc [b]) = enc l := by
  apply str_ext
  have h := TL.tl_join ("" : Str) (l.map fun b => enc [b])
  rw [TL.join_eq]
  show TL.tl (Str.join ("" : Str) (l.map fun b => enc [b])) = _
  rw [h, show TL.tl ("" : Str) = [] by decide +kernel, joinL_nil, enc_cps, List.map_map]
  clear h
  induction l with
  | nil => rfl
  | cons a l ih =>
    rw [List.map_cons, List.flatten_cons, ih]
    rfl
theorem letters_ix : ∀ b : Nat, b < 6 → atI ("abcdef" : Str).cps.toList (b : Int) = some (97 + b) := by decide +kernel
section
variable {K : PySem.W.Frag} {σ : L2.St} {H : Hp} {ta tb te : TE}
/-- LETTERS[number] -/
theorem ev_letter {b : Nat} (h : Ev te σ H (nt b)) (hb : b < 6) : Ev (tOp rIxS (tC (.str "abcdef")) te) σ H (tx [b]) := ev_op ev_c h fun H1 _ Q q =>
  ⟨("abcdef" : Str), (b : Int), 97 + b, rfl, rfl, by decide +kernel, letters_ix b hb, q H1 (Ex.refl H1)⟩
/-- "".join(..) of a new list of signs -/
theorem ev_joinS {l : Tx} {rj : V → List V → Hp → VK → Prop} (h : EvL te σ H (l.map fun b => tx [b])) (hl : l.length ≤ 1000)
    (hr : ∀ p H1 (Q : VK), (SqL K H1 p ((l.map fun b => enc [b]).map V.str)) → (((l.map fun b => enc [b]).map (·.length)).sum + (l.map fun b => enc [b]).length * ("" : Str).length ≤ 16777216) → Q (.str (Txt.join ("" : Str) (l.map fun b => enc [b]))) H1 → rj (.str ("" : Str)) [.ref p] H1 Q) :
    Ev (tM1 rj (tC (.str "")) te) σ H (tx l) := fun H1 e Q q => ⟨⟨_, rfl⟩, h H1 e _ fun p H2 np e2 hp => hr p H2 Q (sq_of (by rw [hp, List.map_map] <;> rfl)) (by
      rw [List.map_map, List.length_map, show ("" : Str).length = 0 by decide +kernel, Nat.mul_zero, Nat.add_zero]
      have : ∀ l : Tx, (l.map ((·.length) ∘ fun b => enc [b])).sum = l.length := fun l => by
        induction l with
        | nil => rfl
        | cons a l ih =>
          rw [List.map_cons, List.sum_cons, ih]
          show 1 + _ = _
          rw [List.length_cons]
          omega
      rw [this]
      omega) (by rw [join_signs]; exact q H2 e2)⟩
end
section
variable {P : Program} {w : World} {K : PySem.W.Frag} {mg : Str → Option Value} {base : Heap}
def sp_built_of (K : PySem.W.Frag) : Sp := fun vs H Q _ => ∃ (front : Tx) (a b : Addr) (ss rs : List Nat), vs = [tx front, .ref a, .ref b] ∧ SqL K H a (nts ss) ∧ SqL K H b (nts rs) ∧ Ok front ∧ 1 ≤ front.length ∧ front.length ≤ 200 ∧ rs.length = ss.length + 1 ∧ ss.length + rs.sum ≤ 200 ∧
  GiveV (tx (mk front.length front ss rs)) H Q
theorem ok_built_of (T : TopE K mg) : Has P w K mg base CX0 2 "built_of" ["front", "own_steps", "own_runs"] (sp_built_of K) := by
  have F1 : Has P w K mg base CX0 1 "laid_out" ["own_steps", "own_runs"] (sp_laid_out K) := ok_laid_out T
  refine has_of T 9 9 rfl rfl rfl sc_built_of (fun _ _ _ _ _ _ us hl => match us, hl with | [_, _, _], _ => rfl) (fun vs H Q E h => ?_) (fun cdv f A outer s H vs Q E hr h => ?_)
  · obtain ⟨l, a, b, ss, rs, rfl, _⟩ := h
    rfl
  · obtain ⟨l, a, b, ss, rs, rfl, ha, hb, ok, hl1, hl, hlen, hz, k⟩ := h
    obtain ⟨t1, gM⟩ := T.c_MANY_LETTERS
    obtain ⟨t2, gLT⟩ := T.c_LETTERS
    refine ⟨_, PSs.nox (pss_cons (ps_setLc (i := 3) (own := [("sign", 6)]) (g := gName 6) (tt := tYes) rfl sc_built_of.nd rfl rfl (sw_true rfl rfl rfl (by decide +kernel)) (pi_str (pv 0)) (blkOk_by (N := N_built_of) (sc := defScope s_built_of) (by decide +kernel))
        (fun _ _ _ _ _ => pg_name (i := 6) sc_built_of.nd rfl (Or.inl rfl)) (fun _ _ _ _ _ => pts_nil)
        (fun _ _ _ _ _ => show PE _ _ (tIdx K 6) from pe_bmS PySem.F.plainAttrs_str PySem.F.slot_str_index PySem.F.type_str_index (mt_indexX (W := fun _ _ _ _ => False) rfl takes0) (pe_glob (v := .str "abcdef") (by rfl) gLT ⟨_, rfl⟩) (pa_cons (pv 6) pa_nil)))
      (pss_cons (ps_set (i := 4) sc_built_of.nd rfl (Or.inl rfl) (pe_callB call_len_seq (by rfl) T.f_len PySem.boot_len (pa_cons (pv 3) pa_nil)))
      (pss_cons (ps_for PassesOwn.never rfl (pi_list (pe_h F1 hr pass0 (pa_cons (pv 1) (pa_cons (pv 2) pa_nil)))) (pg_name (i := 5) sc_built_of.nd rfl (Or.inl rfl))
        (pss_one (ps_expr (pe_bm PySem.F.plainAttrs_list PySem.F.slot_list_append PySem.F.type_list_append mt_append (pv 3) (pa_cons (pe_op op_mod (pe_op op_add (pe_ix ix_list (pv 3) (pe_op op_sub (pe_callB call_len_seq (by rfl) T.f_len PySem.boot_len (pa_cons (pv 3) pa_nil)) (pv 4)) (fun _ _ => rfl)) (pv 5)) (pe_glob (v := .int 6) (by rfl) gM ⟨_, rfl⟩)) pa_nil)))))
      (pss_one (ps_ret (pe_join pe_str (pe_lc (own := [("number", 7)]) (g := gName 7) (tt := tYes) rfl sc_built_of.nd (pi_list (pv 3)) (blkOk_by (N := N_built_of) (sc := defScope s_built_of) (by decide +kernel))
        (fun _ _ _ _ _ => pg_name (i := 7) sc_built_of.nd rfl (Or.inl rfl)) (fun _ _ _ _ _ => pts_nil) (fun _ _ _ _ _ => pe_ix ix_str (pe_glob (v := .str "abcdef") (by rfl) gLT ⟨_, rfl⟩) (pv 7) (fun _ _ => rfl))))))))), ?_⟩
    refine q_asgL (xs := nts l) (el_is (el_compT l (fun _ => true) nt (by omega) (ev_var rfl) (fun x => rfl) fun b H1 hb e => ⟨et_yes, fun _ => ev_idx rfl (ok b hb)⟩) (by rw [filt_true])) fun o H1 no e1 ho => ?_
    refine q_asg (v := nt l.length) (ev_is (ev_lenL (ev_var rfl) (sq_of ho)) (by rw [nts_len])) fun H2 e2 => ?_
    have n2 : H o = none := no
    have hgl : (lay ss rs).length ≤ 200 := by rw [lay_len ss rs hlen]; exact hz
    refine q_forNLn (K := K) (xs := nts (lay ss rs)) (el_call (ea_2 (ev_var rfl) (ev_var rfl)) fun H3 e3 Q q E => ⟨a, b, ss, rs, rfl, ex_l ((e1.trans e2).trans e3) ha, ex_l ((e1.trans e2).trans e3) hb, hlen, by omega, q⟩)
      (fun p i σ' H' => p ≠ o ∧ (∃ y, σ' = [some (tx l), some (.ref a), some (.ref b), some (.ref o), some (nt l.length), y, none, none]) ∧ Ex H H' ∧ H' p = some (.lst (nts (lay ss rs))) ∧ H' o = some (.lst (nts (build l.length l ((lay ss rs).take i)))))
      (fun p H3 np e3 hp => ⟨(ne_of_none (e2 _ _ ho) np).symm, ⟨_, rfl⟩, (e1.trans e2).trans e3, hp, e3 _ _ (e2 _ _ ho)⟩) (fun p i σ' H' _ h => sq_of h.2.2.2.1) (fun p i x σ' H' hx h => ?_) fun p σ' H' h => ?_
    · obtain ⟨npo, ⟨y, rfl⟩, e3, hp, h3⟩ := h
      obtain ⟨g, hg, rfl⟩ := nts_get hx
      have hi : i < (lay ss rs).length := (List.getElem?_eq_some_iff.mp hg).1
      have hbl : (build l.length l ((lay ss rs).take i)).length = l.length + i := by
        rw [build_len, List.length_take]
        omega
      have hat : (nts (build l.length l ((lay ss rs).take i)))[(build l.length l ((lay ss rs).take i)).length - l.length]? = some (nt ((build l.length l ((lay ss rs).take i)).getD ((build l.length l ((lay ss rs).take i)).length - l.length) 0)) := by
        rw [List.getElem?_map, List.getD_eq_getElem?_getD, List.getElem?_eq_getElem (by omega)]
        rfl
      refine s_app h3 (ev_var rfl) (ev_mod (ev_add (ev_op (ev_var rfl) (ev_sub (ev_lenL (ev_var rfl) (sq_of h3)) (ev_var rfl)) (rv_ixL (K := K) (sq_of h3) (at_of ?_ hat))) (ev_var rfl)) ev_c (by decide)) (by rw [nts_len]; omega) fun H4 e4 => ?_
      · rw [nts_len, hbl]
        omega
      · refine ⟨npo, ⟨_, rfl⟩, Ex.mut (e3.trans e4) n2, ?_, ?_⟩
        · rw [upd_ne npo]
          exact e4 _ _ hp
        · rw [upd_same, List.take_add_one, hg]
          show _ = some (HO.lst (nts (build l.length l ((lay ss rs).take i ++ [g]))))
          rw [build_snoc, nts_app]
          show some (HO.lst (_ ++ [V.int _])) = some (HO.lst (_ ++ [V.int _]))
          congr 5
    · obtain ⟨npo, ⟨y, rfl⟩, e3, hp, h3⟩ := h
      rw [nts_len, List.take_length] at h3
      have okB : Ok (build l.length l (lay ss rs)) := build_ok _ _ _ ok
      have hbl : (build l.length l (lay ss rs)).length ≤ 400 := by
        rw [build_len]
        omega
      refine s_ret (ev_joinS (K := K) (l := build l.length l (lay ss rs)) (el_is (el_compL (K := K) (build l.length l (lay ss rs)) nt (fun _ => true) (fun b => tx [b]) (by omega) (ev_var rfl) (sq_of h3) (fun x => rfl) fun b i H4 hb e4 => ⟨et_yes, fun _ => ev_letter (ev_var rfl) (okB b (List.mem_of_getElem? hb))⟩) (by rw [filt_true])) (by omega)
        fun p H4 Q' h4 h5 h6 => ⟨_, p, _, rfl, rfl, .inl h4, h5, h6⟩) fun H4 e4 => k H4 (e3.trans e4)
def sp_root_of : Sp := fun vs H Q _ => ∃ (l : Tx) (n : Nat), vs = [tx l, nt n] ∧ Ok l ∧ l.length ≤ 100 ∧ 1 ≤ n ∧ n ≤ 6 ∧ GiveV (tx (root n l)) H Q
theorem sum_mod_le (n : Nat) : ∀ l : List Nat, (l.map (· % n)).sum ≤ l.sum
  | [] => Nat.le_refl _
  | a :: l => by
    have ih := sum_mod_le n l
    rw [List.map_cons, List.sum_cons, List.sum_cons]
    have := Nat.mod_le a n
    omega
theorem ok_root_of (T : TopE K mg) : Has P w K mg base CX0 3 "root_of" ["text", "size"] sp_root_of := by
  have F1 : Has P w K mg base CX0 2 "built_of" ["front", "own_steps", "own_runs"] (sp_built_of K) := ok_built_of T
  have F2 : Has P w K mg base CX0 2 "steps_of" ["text", "size"] sp_steps_of := ok_steps_of T
  have F3 : Has P w K mg base CX0 2 "runs_of" ["text", "size"] sp_runs_of := ok_runs_of T
  refine has_of T 10 10 rfl rfl rfl sc_root_of (fun _ _ _ _ _ _ us hl => match us, hl with | [_, _], _ => rfl) (fun vs H Q E h => ?_) (fun cdv f A outer s H vs Q E hr h => ?_)
  · obtain ⟨l, n, rfl, _⟩ := h
    rfl
  · obtain ⟨l, n, rfl, ok, hl, h1, h6, k⟩ := h
    refine ⟨_, PSs.nox (pss_cons (ps_if (pt_cmpR op_lt (pe_callB call_len_str (by rfl) T.f_len PySem.boot_len (pa_cons (pv 0) pa_nil)) (pv 1) (nomark _)) (pss_one (ps_ret (pv 0))) pss_nil)
      (pss_one (ps_ret (pe_h F1 hr pass0 (pa_cons (pe_slice sl_str (pv 0) po_none (po_some (pv 1))) (pa_cons (pe_h F2 hr pass0 (pa_cons (pv 0) (pa_cons (pv 1) pa_nil))) (pa_cons
        (pe_lc (own := [("many", 2)]) (g := gName 2) (tt := tYes) rfl sc_root_of.nd (pi_list (pe_h F3 hr pass0 (pa_cons (pv 0) (pa_cons (pv 1) pa_nil)))) (blkOk_by (N := N_root_of) (sc := defScope s_root_of) (by decide +kernel))
          (fun _ _ _ _ _ => pg_name (i := 2) sc_root_of.nd rfl (Or.inl rfl)) (fun _ _ _ _ _ => pts_nil) (fun _ _ _ _ _ => pe_op op_mod (pv 2) (pv 1))) pa_nil))))))), ?_⟩
    refine q_when (et_test (ev_lt (ev_lenT (ev_var rfl) (by omega)) (ev_var rfl))) (fun hb H1 e1 => ?_) fun hb H1 e1 => ?_
    · have hc : l.length < n := by simpa using hb
      rw [root, if_pos hc] at k
      exact s_ret (ev_var rfl) fun H2 e2 => k H2 (e1.trans e2)
    · have hc : ¬ l.length < n := by simpa using hb
      rw [root, if_neg hc] at k
      have er : runsP n l = runs n l := if_neg hc
      have hf : (l.take n).length = n := by
        rw [List.length_take]
        omega
      have hlo := len_of h1 (Nat.le_of_not_lt hc) ok
      refine s_ret (ev_callW (sp := sp_built_of K) (fun vs H2 => ∃ p q, vs = [tx (l.take n), .ref p, .ref q] ∧ H2 p = some (.lst (nts (steps n l))) ∧ H2 q = some (.lst (nts ((runs n l).map (· % n)))))
        (wa_vll (ev_take (ev_var rfl) eo_none (eo_some (ev_var rfl)) (by omega)) (el_call (ea_2 (ev_var rfl) (ev_var rfl)) fun H3 e3 Q q E => ⟨l, n, rfl, ok, by omega, q⟩)
          (el_is (el_compN (runs n l) nt (fun _ => true) (fun b => nt (b % n)) (by rw [runs_len]; omega) (el_is (el_call (ea_2 (ev_var rfl) (ev_var rfl)) fun H3 e3 Q q E => ⟨l, n, rfl, ok, by omega, q⟩) (by rw [er])) (fun x => rfl) fun b i H3 hb e3 => ⟨et_yes, fun _ => ev_is (ev_mod (ev_var rfl) (ev_var rfl) (by omega)) (by simp)⟩)
            (by rw [filt_true, nts, List.map_map]; rfl)))
        fun vs H2 e2 hp Q E q => ?_) fun H2 e2 => k H2 (e1.trans e2)
      obtain ⟨p, r, rfl, hp, hr⟩ := hp
      refine ⟨_, p, r, steps n l, (runs n l).map (· % n), rfl, sq_of hp, sq_of hr, ok.take n, by omega, by omega, by rw [List.length_map, runs_len], ?_, ?_⟩
      · have := sum_mod_le n (runs n l)
        omega
      · rw [hf]
        exact q
end
end K7

set_option Elab.async false
set_option linter.all false
set_option maxRecDepth 100000
set_option maxHeartbeats 2000000
/-! Lists as data: == and != of lists of numbers, of texts. -/
namespace K7
open PySem PySem.Spec PyProof.Rows L2 Evl
/-- a list of flat things, as data -/
def flatD : PyData → Bool
  | .none | .bool _ | .int _ | .str _ => true
  | _ => false
theorem eqvAll_map {α : Type} (f : α → PyData) (hf : ∀ a b, PyData.eqv (f a) (f b) = true ↔ a = b) : ∀ l m : List α, PyData.eqvAll (l.map f) (m.map f) = true ↔ l = m
  | [], [] => by simp [PyData.eqvAll]
  | [], b :: m => by simp [PyData.eqvAll]
  | a :: l, [] => by simp [PyData.eqvAll]
  | a :: l, b :: m => by
    have ih := eqvAll_map f hf l m
    rw [List.map_cons, List.map_cons, PyData.eqvAll, Bool.and_eq_true, hf, ih, List.cons.injEq]
theorem eqv_list {α : Type} (f : α → PyData) (hf : ∀ a b, PyData.eqv (f a) (f b) = true ↔ a = b) (l m : List α) : PyData.eqv (.list (l.map f)) (.list (m.map f)) = true ↔ l = m := by
  rw [PyData.eqv]
  exact eqvAll_map f hf l m
def dN (n : Nat) : PyData := .int n
def dT (l : Tx) : PyData := .str (enc l)
theorem eqv_dN (a b : Nat) : PyData.eqv (dN a) (dN b) = true ↔ a = b := by
  unfold dN
  rw [PyData.eqv]
  simp only [beq_iff_eq]
  omega
theorem eqv_dT (a b : Tx) : PyData.eqv (dT a) (dT b) = true ↔ a = b := by
  unfold dT
  rw [PyData.eqv]
  simp [enc_iff]
theorem depth_flat {α : Type} (f : α → PyData) (hf : ∀ a, (f a).depth = 0) : ∀ l : List α, PyData.depthAll (l.map f) = 0
  | [] => by simp [PyData.depthAll]
  | a :: l => by
    have ih := depth_flat f hf l
    rw [List.map_cons, PyData.depthAll, ih, hf]
    rfl
theorem lay_flat {α : Type} (f : α → PyData) : ∀ l : List α, (∀ a ∈ l, (f a).canLay0 = true) → PyData.canLayAll0 (l.map f) = true
  | [], _ => by simp [PyData.canLayAll0]
  | a :: l, h => by
    have ih := lay_flat f l fun b m => h b (List.mem_cons_of_mem _ m)
    rw [List.map_cons, PyData.canLayAll0, ih, h a List.mem_cons_self]
    rfl
theorem shaped_flat {α : Type} (f : α → PyData) (hd : ∀ a, (f a).depth = 0) (l : List α) (h : ∀ a ∈ l, (f a).canLay0 = true) : SeqAt.shaped (.list (l.map f)) = true := by
  unfold SeqAt.shaped
  rw [Bool.and_eq_true, decide_eq_true_eq, PyData.canLay0, PyData.depth, depth_flat f hd]
  exact ⟨lay_flat f l h, by decide⟩
theorem shaped_nts (l : List Nat) : SeqAt.shaped (.list (l.map dN)) = true := shaped_flat dN (fun a => by simp [dN, PyData.depth]) l fun a _ => by simp [dN, PyData.canLay0]
theorem strOk_enc {l : Tx} (h : Ok l) : PyData.strOk (enc l) = true := by
  unfold PyData.strOk
  rw [Array.all_eq_true_iff_forall_mem]
  intro x hx
  have : x ∈ (enc l).cps.toList := by simpa using hx
  rw [enc_cps] at this
  obtain ⟨b, hb, rfl⟩ := List.mem_map.mp this
  have := h b hb
  simp
  omega
theorem shaped_txs (l : List Tx) (h : ∀ a ∈ l, Ok a) : SeqAt.shaped (.list (l.map dT)) = true := shaped_flat dT (fun a => by simp [dT, PyData.depth]) l fun a m => by
  unfold dT
  rw [PyData.canLay0]
  exact strOk_enc (h a m)
section
variable {K : PySem.W.Frag} {σ : L2.St} {H : Hp} {ta tb : TE}
theorem dp_nts : ∀ l : List Nat, DpAll K H (nts l) (l.map dN)
  | [] => .nil
  | a :: l => .cons (.int _) (dp_nts l)
theorem dp_txs : ∀ l : List Tx, DpAll K H (l.map tx) (l.map dT)
  | [] => .nil
  | a :: l => .cons (.str _) (dp_txs l)
theorem bool_dec {b : Bool} {p : Prop} [Decidable p] (h : b = true ↔ p) : b = decide p := by
  cases b with
  | true => exact (decide_eq_true (h.mp rfl)).symm
  | false => exact (decide_eq_false fun q => by cases h.mpr q).symm
theorem rv_eqN {a b : Addr} {l m : List Nat} (ha : SqL K H a (nts l)) (hb : SqL K H b (nts m)) : RV (rEqD K) (.ref a) (.ref b) H (.bl (decide (l = m))) := fun H1 e Q q =>
  ⟨_, _, .lst (ex_l e ha) (dp_nts l), .lst (ex_l e hb) (dp_nts m), shaped_nts l, shaped_nts m, by
    rw [bool_dec (eqv_list dN eqv_dN l m)]
    exact q H1 (Ex.refl H1)⟩
theorem rv_neN {a b : Addr} {l m : List Nat} (ha : SqL K H a (nts l)) (hb : SqL K H b (nts m)) : RV (rNeD K) (.ref a) (.ref b) H (.bl (!decide (l = m))) := fun H1 e Q q =>
  ⟨_, _, .lst (ex_l e ha) (dp_nts l), .lst (ex_l e hb) (dp_nts m), shaped_nts l, shaped_nts m, by
    rw [bool_dec (eqv_list dN eqv_dN l m)]
    exact q H1 (Ex.refl H1)⟩
theorem rv_eqX {a b : Addr} {l m : List Tx} (ha : SqL K H a (l.map tx)) (hb : SqL K H b (m.map tx)) (ol : ∀ a ∈ l, Ok a) (om : ∀ a ∈ m, Ok a) : RV (rEqD K) (.ref a) (.ref b) H (.bl (decide (l = m))) := fun H1 e Q q =>
  ⟨_, _, .lst (ex_l e ha) (dp_txs l), .lst (ex_l e hb) (dp_txs m), shaped_txs l ol, shaped_txs m om, by
    rw [bool_dec (eqv_list dT eqv_dT l m)]
    exact q H1 (Ex.refl H1)⟩
theorem rv_neX {a b : Addr} {l m : List Tx} (ha : SqL K H a (l.map tx)) (hb : SqL K H b (m.map tx)) (ol : ∀ a ∈ l, Ok a) (om : ∀ a ∈ m, Ok a) : RV (rNeD K) (.ref a) (.ref b) H (.bl (!decide (l = m))) := fun H1 e Q q =>
  ⟨_, _, .lst (ex_l e ha) (dp_txs l), .lst (ex_l e hb) (dp_txs m), shaped_txs l ol, shaped_txs m om, by
    rw [bool_dec (eqv_list dT eqv_dT l m)]
    exact q H1 (Ex.refl H1)⟩
theorem ev_neLL {l m : List Nat} (ha : EvL ta σ H (nts l)) (hb : EvL tb σ H (nts m)) : Ev (tOp (rNeD K) ta tb) σ H (.bl (!decide (l = m))) := ev_opLL ha hb fun _ _ _ h1 h2 _ => rv_neN (sq_of h1) (sq_of h2)
theorem el_nil {xs : List V} (h : xs = []) : EvL (tLst tNil) σ H xs := by
  subst h
  exact el_lst ea_nil (by simp)
/-- xs != [] -/
theorem ev_neNilN {a : Addr} {l : List Nat} (ha : Ev ta σ H (.ref a)) (h : SqL K H a (nts l)) : Ev (tOp (rNeD K) ta (tLst tNil)) σ H (.bl (!decide (l = []))) := ev_opL (xs := nts []) ha (el_nil rfl) fun _ _ h1 e => rv_neN (ex_l e h) (sq_of h1)
theorem ev_neNilX {a : Addr} {l : List Tx} (ha : Ev ta σ H (.ref a)) (h : SqL K H a (l.map tx)) (ol : ∀ a ∈ l, Ok a) : Ev (tOp (rNeD K) ta (tLst tNil)) σ H (.bl (!decide (l = []))) := ev_opL (xs := ([] : List Tx).map tx) ha (el_nil rfl) fun _ _ h1 e => rv_neX (ex_l e h) (sq_of h1) ol (by simp)
theorem ev_eqNilXN {l : List Tx} (ha : EvL ta σ H (l.map tx)) (ol : ∀ a ∈ l, Ok a) : Ev (tOp (rEqD K) ta (tLst tNil)) σ H (.bl (decide (l = []))) := ev_opLL (ys := ([] : List Tx).map tx) ha (el_nil rfl) fun _ _ _ h1 h2 _ => rv_eqX (sq_of h1) (sq_of h2) ol (by simp)
theorem ev_neNilXN {l : List Tx} (ha : EvL ta σ H (l.map tx)) (ol : ∀ a ∈ l, Ok a) : Ev (tOp (rNeD K) ta (tLst tNil)) σ H (.bl (!decide (l = []))) := ev_opLL (ys := ([] : List Tx).map tx) ha (el_nil rfl) fun _ _ _ h1 h2 _ => rv_neX (sq_of h1) (sq_of h2) ol (by simp)
end
end K7

set_option Elab.async false
set_option linter.all false
set_option maxRecDepth 100000
set_option maxHeartbeats 4000000
/-! max and min of a pair of numbers; zip walked by one name. -/
namespace K7
open PySem PySem.Spec PyProof.Rows L2 Evl
section
variable {prog : Program} {w : World} {A : Around} {E : Value → Shared → Prop} {s : Shared}
theorem pair_items {t : Addr} {i j : Int} {tk tk' : Tok} (h : IsTup s.heap t #[.int i tk, .int j tk']) : s.heap.IsTuple t (intItems #[(i, tk), (j, tk')]) := by
  obtain ⟨o, e, c, n, d⟩ := h
  exact ⟨o, e, c, n, by rw [d]; simp [intItems]⟩
theorem pair_below {t : Addr} {items : Array Value} (h : s.heap.IsTuple t items) : ∀ b ∈ [s.heap.objs.size, t], b < (s.heap.push { cls := .type "tuple_iterator", data := .fields #[.ref t, .int 0 0] }).objs.size := fun b hb => by
  have ht : t < s.heap.objs.size := by
    obtain ⟨_, e, _⟩ := h
    exact Heap.lt_size e
  rw [Heap.size_push]
  simp only [List.mem_cons, List.not_mem_nil, or_false] at hb
  rcases hb with z | z
  · rw [z]
    exact Nat.lt_succ_self _
  · rw [z]
    exact Nat.lt_succ_of_lt ht
theorem pair_kept {t : Addr} {h' : Heap} (hk : ∀ b o, b ∉ [s.heap.objs.size] → (s.heap.push { cls := .type "tuple_iterator", data := .fields #[.ref t, .int 0 0] }).get? b = some o → h'.get? b = some o) : ∀ b o, s.heap.get? b = some o → h'.get? b = some o := fun b o e =>
  hk b o (fun hm => by
    have z : b = s.heap.objs.size := by simpa using hm
    have q := Heap.lt_size e
    rw [z] at q
    exact Nat.lt_irrefl _ q) (Heap.get?_push_of_some _ e)
theorem best_pair (p : Nat → Nat → Bool) : argBest p 1 = if p 1 0 = true then 1 else 0 := by
  simp [argBest]
theorem max_pair {t : Addr} {i j : Int} {tk tk' : Tok} {Q : Value → Shared → Prop} (hh : A.handled = none) (ht : IsTup s.heap t #[.int i tk, .int j tk'])
    (h : ∀ h' u x, (∀ b o, s.heap.get? b = some o → h'.get? b = some o) → Q (.int (if j > i then j else i) x) { s with heap := h', toks := u }) : wpAny (model prog w) A (call (.builtin "max") [.ref t]) Q E s := by
  have hT := pair_items ht
  have htl : t < s.heap.objs.size := by
    obtain ⟨_, e, _⟩ := hT
    exact Heap.lt_size e
  refine call_max_walk (wpAny_pyIter_tuple hT ⟨_, _, _, _, _, _, _, rfl, Walks.tuple (A := A.in1) hh _ t (Nat.ne_of_lt htl) (intItems #[(i, tk), (j, tk')]), ⟨⟨_, Heap.get?_push_size _ rfl, rfl, rfl⟩, hT.push _⟩, pair_below hT, by simp [intItems],
    CmpOf.ints_gt (numAt #[(i, tk), (j, tk')]) (fun _ _ => intItems_at), fun v h' u hP hk => ?_⟩)
  have hP2 : (intItems #[(i, tk), (j, tk')])[argBest (fun a b => decide (numAt #[(i, tk), (j, tk')] a > numAt #[(i, tk), (j, tk')] b)) 1]? = some v := by
    have e1 : (intItems #[(i, tk), (j, tk')]).size - 1 = 1 := by simp [intItems]
    have hP' := hP
    rw [e1] at hP'
    exact hP'
  rw [best_pair] at hP2
  by_cases c : j > i
  · have hv : v = .int j tk' := by simpa [intItems, numAt, c] using hP2.symm
    have q := h h' u tk' (pair_kept hk)
    rw [if_pos c] at q
    rw [hv]
    exact q
  · have hv : v = .int i tk := by simpa [intItems, numAt, c] using hP2.symm
    have q := h h' u tk (pair_kept hk)
    rw [if_neg c] at q
    rw [hv]
    exact q
theorem min_pair {t : Addr} {i j : Int} {tk tk' : Tok} {Q : Value → Shared → Prop} (hh : A.handled = none) (ht : IsTup s.heap t #[.int i tk, .int j tk'])
    (h : ∀ h' u x, (∀ b o, s.heap.get? b = some o → h'.get? b = some o) → Q (.int (if j < i then j else i) x) { s with heap := h', toks := u }) : wpAny (model prog w) A (call (.builtin "min") [.ref t]) Q E s := by
  have hT := pair_items ht
  have htl : t < s.heap.objs.size := by
    obtain ⟨_, e, _⟩ := hT
    exact Heap.lt_size e
  refine call_min_walk (wpAny_pyIter_tuple hT ⟨_, _, _, _, _, _, _, rfl, Walks.tuple (A := A.in1) hh _ t (Nat.ne_of_lt htl) (intItems #[(i, tk), (j, tk')]), ⟨⟨_, Heap.get?_push_size _ rfl, rfl, rfl⟩, hT.push _⟩, pair_below hT, by simp [intItems],
    CmpOf.ints_lt (numAt #[(i, tk), (j, tk')]) (fun _ _ => intItems_at), fun v h' u hP hk => ?_⟩)
  have hP2 : (intItems #[(i, tk), (j, tk')])[argBest (fun a b => decide (numAt #[(i, tk), (j, tk')] a < numAt #[(i, tk), (j, tk')] b)) 1]? = some v := by
    have e1 : (intItems #[(i, tk), (j, tk')]).size - 1 = 1 := by simp [intItems]
    have hP' := hP
    rw [e1] at hP'
    exact hP'
  rw [best_pair] at hP2
  by_cases c : j < i
  · have hv : v = .int j tk' := by simpa [intItems, numAt, c] using hP2.symm
    have q := h h' u tk' (pair_kept hk)
    rw [if_pos c] at q
    rw [hv]
    exact q
  · have hv : v = .int i tk := by simpa [intItems, numAt, c] using hP2.symm
    have q := h h' u tk (pair_kept hk)
    rw [if_neg c] at q
    rw [hv]
    exact q
end
section
variable {X : Cx}
abbrev rMaxT (K : PySem.W.Frag) : List V → Hp → VK → Prop := fun vs H Q => ∃ (t : Addr) (i j : Int), vs = [.ref t] ∧ SqT K H t [.int i, .int j] ∧ Q (.int (if j > i then j else i)) H
abbrev rMinT (K : PySem.W.Frag) : List V → Hp → VK → Prop := fun vs H Q => ∃ (t : Addr) (i j : Int), vs = [.ref t] ∧ SqT K H t [.int i, .int j] ∧ Q (.int (if j < i then j else i)) H
theorem pair_raw {pins : List (Addr × Obj)} {σ : L2.St} {H : Hp} {s : Shared} (I : Inv X pins σ H s) {t : Addr} {i j : Int} (h : SqT X.K H t [.int i, .int j]) : ∃ tk tk', IsTup s.heap t #[.int i tk, .int j tk'] := by
  obtain ⟨its, r, p, _⟩ := I.tuple h
  obtain ⟨tk, tk', rfl⟩ := Vals.int2 r
  exact ⟨tk, tk', p⟩
theorem cr_maxT (hc : X.calm = true) : CallR X (.builtin "max") (rMaxT X.K) := by
  intro pins s σ H vs us Q I r h
  obtain ⟨t, i, j, rfl, ht, q⟩ := h
  obtain ⟨tk, tk', p⟩ := pair_raw I ht
  rw [Vals.ref1 r]
  exact max_pair (I.ok.hd hc) p fun h' u x hk => ⟨.int _, H, I.kept hk, ⟨_, rfl⟩, q⟩
theorem cr_minT (hc : X.calm = true) : CallR X (.builtin "min") (rMinT X.K) := by
  intro pins s σ H vs us Q I r h
  obtain ⟨t, i, j, rfl, ht, q⟩ := h
  obtain ⟨tk, tk', p⟩ := pair_raw I ht
  rw [Vals.ref1 r]
  exact min_pair (I.ok.hd hc) p fun h' u x hk => ⟨.int _, H, I.kept hk, ⟨_, rfl⟩, q⟩
end
end K7

set_option Elab.async false
set_option linter.all false
set_option maxRecDepth 100000
set_option maxHeartbeats 4000000
/-! zip of two lists whose pairs are kept by a name: the owned tuple may be in use. -/
namespace K7
open PySem PySem.Spec PyProof.Rows L2 Evl
abbrev zob (tI tO : Addr) (f g : Value) : Obj := { cls := .type "zip", dict := none, data := .fields #[f, g, .bool false, .ref tI, .ref tO], slots := #[] }
/-- the zip object at zp: what it handed out last, if anything -/
def ZSt (h : Heap) (zp tI tO : Addr) : Prop := ∃ f g, (f = .none ∨ ∃ T : Addr, f = rawInt T) ∧ h.get? zp = some (zob tI tO f g)
abbrev PairAt (h : Heap) (T : Addr) (a b : Value) : Prop := h.get? T = some { cls := .type "tuple", data := .seq #[a, b] }
section
variable {prog : Program} {w : World} {A : Around} {E : Value → Shared → Prop} {s : Shared}
theorem alive_rule {M : Model} {a : Addr} {Q : Option Obj → Shared → Prop} (h : Q (s.heap.get? a) s) : wpAny M A (loadIfAlive a) Q E s := by
  intro Γ p hp
  exact h
theorem free_rule {zp tI tO : Addr} {Q : Bool → Shared → Prop} (hz : ZSt s.heap zp tI tO) (h1 : Q true s) (h2 : ∀ h', ZSt h' zp tI tO → Heap.SameBut zp s.heap h' → Q false { s with heap := h' }) :
    wpAny (model prog w) A (Builtin.SmallTypes.ownedTupleIsFree (.ref zp)) Q E s := by
  obtain ⟨f, g, hf, ho⟩ := hz
  unfold Builtin.SmallTypes.ownedTupleIsFree
  refine wpAny_bind (wpAny_field ho rfl (x := f) rfl ?_)
  rcases hf with rfl | ⟨T, rfl⟩
  · exact wpAny_pure h1
  · refine wpAny_bind (alive_rule ?_)
    cases e : s.heap.get? (T : Int).toNat with
    | none => exact wpAny_pure h1
    | some o =>
      refine wpAny_bind (wpAny_field ho rfl (x := g) rfl ?_)
      by_cases c : (g != Value.bool true) = true
      · simp only [Option.isNone_some, c, if_true]
        refine wpAny_bind (wpAny_setField_rec ho (by simp) fun h' ho' sb => ?_)
        exact wpAny_pure (h2 h' ⟨_, _, .inr ⟨T, rfl⟩, ho'⟩ sb)
      · simp only [Option.isNone_some, c, if_false]
        refine wpAny_pure ?_
        have qq := h2 s.heap ⟨_, _, .inr ⟨T, rfl⟩, ho⟩ ⟨rfl, fun _ _ => rfl⟩
        exact qq
/-- the five objects of the iterator, and the lists, apart -/
theorem sb_get {zp : Addr} {h h' : Heap} (sb : Heap.SameBut zp h h') {c : Addr} {o : Obj} (n : c ≠ zp) (e : h.get? c = some o) : h'.get? c = some o := (sb.2 c n).trans e
theorem li_sb {zp i l : Addr} {k : Nat} {h h' : Heap} (sb : Heap.SameBut zp h h') (n : i ≠ zp) (x : h.IsListIter i l k) : h'.IsListIter i l k := x.at fun o e => sb_get sb n e
theorem ls_sb {zp l : Addr} {xs : Array Value} {h h' : Heap} (sb : Heap.SameBut zp h h') (n : l ≠ zp) (x : h.IsList l xs) : h'.IsList l xs := by
  obtain ⟨o, e, r⟩ := x
  exact ⟨o, sb_get sb n e, r⟩
theorem zn_item {zp tI tO ia ib l1 l2 : Addr} {k : Nat} {xs ys : Array Value} {x y a b : Value} {Q : Fin → Shared → Prop} (D : ZipApart zp tI tO ia ib l1 l2) (hz : ZSt s.heap zp tI tO) (atI : PairAt s.heap tI (.ref ia) (.ref ib)) (atO : PairAt s.heap tO a b)
    (h1 : s.heap.IsListIter ia l1 k) (h2 : s.heap.IsListIter ib l2 k) (hl1 : s.heap.IsList l1 xs) (hl2 : s.heap.IsList l2 ys) (hx : xs[k]? = some x) (hy : ys[k]? = some y)
    (hQ : ∀ h' T, s.heap.objs.size ≤ T → ZSt h' zp tI tO → (∃ a b, PairAt h' tO a b) → h'.IsListIter ia l1 (k + 1) → h'.IsListIter ib l2 (k + 1) → PairAt h' T x y → (∀ c o, c ≠ zp → c ≠ tO → c ≠ ia → c ≠ ib → s.heap.get? c = some o → h'.get? c = some o) → Q (.done (.ret (.ref T))) { s with heap := h' }) :
    wpAny (model prog w) A (Builtin.«zip.__next__» ⟨[.ref zp], []⟩) Q E s := by
  obtain ⟨f0, g0, _, ho⟩ := id hz
  show wpAny _ _ (field (.ref zp) 2 >>= _) _ _ _
  refine wpAny_bind (wpAny_field ho rfl (x := .bool false) rfl ?_)
  show wpAny _ _ (field (.ref zp) 3 >>= _) _ _ _
  refine wpAny_bind (wpAny_field ho rfl (x := .ref tI) rfl ?_)
  refine wpAny_bind (wpAny_seqItems atI rfl ?_)
  show wpAny _ _ (Builtin.SmallTypes.ownedTupleIsFree (.ref zp) >>= _) _ _ _
  refine wpAny_bind (free_rule hz ?_ fun h' hz' sb => ?_)
  · -- its own tuple again
    simp only [if_true]
    refine wpAny_bind (wpAny_rule ?_)
    refine wpAny_bind (wpAny_field ho rfl (x := .ref tO) rfl ?_)
    refine wpAny_bind (wpAny_setField_rec ho (by simp) fun ha hza sa => ?_)
    replace hza : ha.get? zp = some (zob tI tO .ellipsis g0) := hza
    refine wpAny_bind ?_
    simp only [List.zipIdx_cons, List.zipIdx_nil, List.forIn_cons, List.forIn_nil]
    refine wpAny_bind (wpAny_bind (wpAny_onRaise ?_))
    show wpAny _ _ (Builtin.SmallTypes.nextOf (.ref ia) >>= _) _ _ _
    refine wpAny_bind (wpAny_nextOf_list_item (li_sb sa D.i1z h1) (ls_sb sa D.l1z hl1) hx fun hb h1b sb => wpAny_pure ?_)
    have pb : PairAt hb tO a b := sb_get sb D.TOi1 (sb_get sa D.TOz atO)
    refine wpAny_bind (wpAny_seqItems pb rfl ?_)
    refine wpAny_bind (wpAny_updateSeq_pair pb fun hc hTOc sc => ?_)
    replace hTOc : PairAt hc tO x b := hTOc
    refine wpAny_bind (wpAny_letGo (wpAny_pure ?_))
    refine wpAny_bind (wpAny_bind (wpAny_onRaise ?_))
    show wpAny _ _ (Builtin.SmallTypes.nextOf (.ref ib) >>= _) _ _ _
    refine wpAny_bind (wpAny_nextOf_list_item (li_sb sc D.TOi2.symm (li_sb sb D.i12.symm (li_sb sa D.i2z h2))) (ls_sb sc D.l2TO (ls_sb sb D.l2i1 (ls_sb sa D.l2z hl2))) hy fun hd h2d sd => wpAny_pure ?_)
    have pd : PairAt hd tO x b := sb_get sd D.TOi2 hTOc
    refine wpAny_bind (wpAny_seqItems pd rfl ?_)
    refine wpAny_bind (wpAny_updateSeq_pair pd fun he hTOe se => ?_)
    replace hTOe : PairAt he tO x y := hTOe
    refine wpAny_bind (wpAny_letGo (wpAny_pure (wpAny_pure ?_)))
    refine wpAny_bind (wpAny_seqItems hTOe rfl ?_)
    refine wpAny_bind (wpAny_newTuple ?_)
    have sz : he.objs.size = s.heap.objs.size := by rw [se.1, sd.1, sc.1, sb.1, sa.1]
    have ze : he.get? zp = some (zob tI tO .ellipsis g0) := sb_get se D.TOz.symm (sb_get sd D.i2z.symm (sb_get sc D.TOz.symm (sb_get sb D.i1z.symm hza)))
    have ke : ∀ c o, c ≠ zp → c ≠ tO → c ≠ ia → c ≠ ib → s.heap.get? c = some o → he.get? c = some o := fun c o c1 c2 c3 c4 e => sb_get se c2 (sb_get sd c4 (sb_get sc c2 (sb_get sb c3 (sb_get sa c1 e))))
    have l1e : he.IsListIter ia l1 (k + 1) := li_sb se D.TOi1.symm (li_sb sd D.i12 (li_sb sc D.TOi1.symm h1b))
    have l2e : he.IsListIter ib l2 (k + 1) := li_sb se D.TOi2.symm h2d
    have zl : zp < he.objs.size := Heap.lt_size ze
    show wpAny _ _ (Builtin.SmallTypes.ownedTupleHandOut (.ref zp) (.ref he.objs.size) >>= _) _ _ _
    refine wpAny_bind ?_
    unfold Builtin.SmallTypes.ownedTupleHandOut
    have zf : (he.push { cls := .type "tuple", data := .seq #[x, y] }).get? zp = some (zob tI tO .ellipsis g0) := Heap.get?_push_of_some _ ze
    refine wpAny_bind (wpAny_setField_rec zf (by simp) fun lst zg sg => ?_)
    replace zg : lst.get? zp = some (zob tI tO (rawInt he.objs.size) g0) := zg
    refine wpAny_setField_rec zg (by simp) fun hh zh sh => ?_
    have up : ∀ c o, c ≠ zp → he.get? c = some o → hh.get? c = some o := fun c o c1 e => sb_get sh c1 (sb_get sg c1 (Heap.get?_push_of_some _ e))
    have pT : PairAt hh he.objs.size x y := sb_get sh (Nat.ne_of_gt zl) (sb_get sg (Nat.ne_of_gt zl) (Heap.get?_push_size _ rfl))
    exact wpAny_pure (hQ hh he.objs.size (Nat.le_of_eq sz.symm) ⟨_, _, .inr ⟨_, rfl⟩, zh⟩ ⟨_, _, up _ _ D.TOz hTOe⟩ (l1e.at fun o e => up _ o D.i1z e) (l2e.at fun o e => up _ o D.i2z e) pT fun c o c1 c2 c3 c4 e => up c o c1 (ke c o c1 c2 c3 c4 e))
  · -- another one
    simp (config := { zeta := true }) only [List.forIn_toArray, List.forIn_cons, List.forIn_nil, Bool.false_eq_true, if_false]
    refine wpAny_bind (wpAny_bind (wpAny_bind (wpAny_holding ?_)))
    show wpAny _ _ (Builtin.SmallTypes.nextOf (.ref ia) >>= _) _ _ _
    refine wpAny_bind (wpAny_nextOf_list_item (li_sb sb D.i1z h1) (ls_sb sb D.l1z hl1) hx fun hb h1b s2 => wpAny_pure ?_)
    dsimp only
    refine wpAny_pure ?_
    dsimp only
    refine wpAny_bind (wpAny_bind (wpAny_holding ?_))
    show wpAny _ _ (Builtin.SmallTypes.nextOf (.ref ib) >>= _) _ _ _
    refine wpAny_bind (wpAny_nextOf_list_item (li_sb s2 D.i12.symm (li_sb sb D.i2z h2)) (ls_sb s2 D.l2i1 (ls_sb sb D.l2z hl2)) hy fun hc h2c s3 => wpAny_pure ?_)
    dsimp only
    refine wpAny_pure ?_
    dsimp only
    refine wpAny_pure ?_
    dsimp only
    refine wpAny_bind (wpAny_newTuple ?_ (by show 2 ≤ sizeLine; decide))
    have zc : ZSt hc zp tI tO := by
      obtain ⟨f1, g1, hf1, ho1⟩ := hz'
      exact ⟨f1, g1, hf1, sb_get s3 D.i2z.symm (sb_get s2 D.i1z.symm ho1)⟩
    have kc : ∀ c o, c ≠ zp → c ≠ ia → c ≠ ib → s.heap.get? c = some o → hc.get? c = some o := fun c o c1 c3 c4 e => sb_get s3 c4 (sb_get s2 c3 (sb_get sb c1 e))
    have sz : hc.objs.size = s.heap.objs.size := by rw [s3.1, s2.1, sb.1]
    have push : ∀ c o, hc.get? c = some o → (hc.push { cls := .type "tuple", data := .seq ((#[].push x).push y).toList.toArray }).get? c = some o := fun c o e => Heap.get?_push_of_some _ e
    refine wpAny_pure (hQ _ hc.objs.size (Nat.le_of_eq sz.symm) ?_ ⟨a, b, push _ _ (kc _ _ D.TOz D.TOi1 D.TOi2 atO)⟩ ((li_sb s3 D.i12 h1b).at fun o e => push _ o e) (h2c.at fun o e => push _ o e) (Heap.get?_push_size _ rfl) fun c o c1 _ c3 c4 e => push c o (kc c o c1 c3 c4 e))
    obtain ⟨f1, g1, hf1, ho1⟩ := zc
    exact ⟨f1, g1, hf1, push _ _ ho1⟩
theorem zn_end {zp tI tO ia ib l1 l2 : Addr} {k : Nat} {xs ys : Array Value} {a b : Value} {Q : Fin → Shared → Prop} (hh : A.handled = none) (D : ZipApart zp tI tO ia ib l1 l2) (hz : ZSt s.heap zp tI tO) (atI : PairAt s.heap tI (.ref ia) (.ref ib)) (atO : PairAt s.heap tO a b)
    (h1 : s.heap.IsListIter ia l1 k) (h2 : s.heap.IsListIter ib l2 k) (hl1 : s.heap.IsList l1 xs) (hl2 : s.heap.IsList l2 ys) (hend : xs[k]? = none ∨ ys[k]? = none)
    (stop : ∀ h' e, (∀ c o, c ≠ zp → c ≠ tO → c ≠ ia → c ≠ ib → s.heap.get? c = some o → h'.get? c = some o) → (∃ o, h'.get? e = some o ∧ o.cls = .type "StopIteration") → E (.ref e) { s with heap := h' }) :
    wpAny (model prog w) A (Builtin.«zip.__next__» ⟨[.ref zp], []⟩) Q E s := by
  obtain ⟨f0, g0, _, ho⟩ := id hz
  show wpAny _ _ (field (.ref zp) 2 >>= _) _ _ _
  refine wpAny_bind (wpAny_field ho rfl (x := .bool false) rfl ?_)
  show wpAny _ _ (field (.ref zp) 3 >>= _) _ _ _
  refine wpAny_bind (wpAny_field ho rfl (x := .ref tI) rfl ?_)
  refine wpAny_bind (wpAny_seqItems atI rfl ?_)
  show wpAny _ _ (Builtin.SmallTypes.ownedTupleIsFree (.ref zp) >>= _) _ _ _
  refine wpAny_bind (free_rule hz ?_ fun h' hz' sb => ?_)
  · simp only [if_true]
    refine wpAny_bind (wpAny_rule ?_)
    refine wpAny_bind (wpAny_field ho rfl (x := .ref tO) rfl ?_)
    refine wpAny_bind (wpAny_setField_rec ho (by simp) fun ha hza sa => ?_)
    replace hza : ha.get? zp = some (zob tI tO .ellipsis g0) := hza
    refine wpAny_bind ?_
    simp only [List.zipIdx_cons, List.zipIdx_nil, List.forIn_cons, List.forIn_nil]
    refine wpAny_bind (wpAny_bind (wpAny_onRaise ?_))
    show wpAny _ _ (Builtin.SmallTypes.nextOf (.ref ia) >>= _) _ _ _
    cases hx : xs[k]? with
    | none =>
      refine wpAny_bind (wpAny_nextOf_list_end hh (li_sb sa D.i1z h1) (ls_sb sa D.l1z hl1) hx fun hb e eb he => ?_)
      obtain ⟨oe, hoe, hce⟩ := he
      have zb : hb.get? zp = some (zob tI tO .ellipsis g0) := eb _ _ D.i1z.symm hza
      have hez : e ≠ zp := fun qq => by
        subst qq
        rw [zb] at hoe
        cases hoe
        simp at hce
      exact wpAny_setField_rec zb (by simp) fun hc _ sc => stop hc e (fun c o c1 _ c3 _ qq => sb_get sc c1 (eb _ _ c3 (sb_get sa c1 qq))) ⟨oe, sb_get sc hez hoe, hce⟩
    | some x =>
      have hy : ys[k]? = none := by
        rcases hend with qq | qq
        · rw [hx] at qq
          cases qq
        · exact qq
      refine wpAny_bind (wpAny_nextOf_list_item (li_sb sa D.i1z h1) (ls_sb sa D.l1z hl1) hx fun hb h1b sb => wpAny_pure ?_)
      have pb : PairAt hb tO a b := sb_get sb D.TOi1 (sb_get sa D.TOz atO)
      refine wpAny_bind (wpAny_seqItems pb rfl ?_)
      refine wpAny_bind (wpAny_updateSeq_pair pb fun hc hTOc sc => ?_)
      refine wpAny_bind (wpAny_letGo (wpAny_pure ?_))
      refine wpAny_bind (wpAny_bind (wpAny_onRaise ?_))
      show wpAny _ _ (Builtin.SmallTypes.nextOf (.ref ib) >>= _) _ _ _
      refine wpAny_bind (wpAny_nextOf_list_end hh (li_sb sc D.TOi2.symm (li_sb sb D.i12.symm (li_sb sa D.i2z h2))) (ls_sb sc D.l2TO (ls_sb sb D.l2i1 (ls_sb sa D.l2z hl2))) hy fun hd e ed he => ?_)
      obtain ⟨oe, hoe, hce⟩ := he
      have zd : hd.get? zp = some (zob tI tO .ellipsis g0) := ed _ _ D.i2z.symm (sb_get sc D.TOz.symm (sb_get sb D.i1z.symm hza))
      have hez : e ≠ zp := fun qq => by
        subst qq
        rw [zd] at hoe
        cases hoe
        simp at hce
      exact wpAny_setField_rec zd (by simp) fun he _ se => stop he e (fun c o c1 c2 c3 c4 qq => sb_get se c1 (ed _ _ c4 (sb_get sc c2 (sb_get sb c3 (sb_get sa c1 qq))))) ⟨oe, sb_get se hez hoe, hce⟩
  · simp (config := { zeta := true }) only [List.forIn_toArray, List.forIn_cons, List.forIn_nil, Bool.false_eq_true, if_false]
    refine wpAny_bind (wpAny_bind (wpAny_bind (wpAny_holding ?_)))
    show wpAny _ _ (Builtin.SmallTypes.nextOf (.ref ia) >>= _) _ _ _
    cases hx : xs[k]? with
    | none =>
      refine wpAny_bind (wpAny_nextOf_list_end hh (li_sb sb D.i1z h1) (ls_sb sb D.l1z hl1) hx fun hb e eb he => ?_)
      exact stop hb e (fun c o c1 _ c3 _ qq => eb _ _ c3 (sb_get sb c1 qq)) he
    | some x =>
      have hy : ys[k]? = none := by
        rcases hend with qq | qq
        · rw [hx] at qq
          cases qq
        · exact qq
      refine wpAny_bind (wpAny_nextOf_list_item (li_sb sb D.i1z h1) (ls_sb sb D.l1z hl1) hx fun hb h1b s2 => wpAny_pure ?_)
      dsimp only
      refine wpAny_pure ?_
      dsimp only
      refine wpAny_bind (wpAny_bind (wpAny_holding ?_))
      show wpAny _ _ (Builtin.SmallTypes.nextOf (.ref ib) >>= _) _ _ _
      refine wpAny_bind (wpAny_nextOf_list_end hh (li_sb s2 D.i12.symm (li_sb sb D.i2z h2)) (ls_sb s2 D.l2i1 (ls_sb sb D.l2z hl2)) hy fun hd e ed he => ?_)
      exact stop hd e (fun c o c1 _ c3 c4 qq => ed _ _ c4 (sb_get s2 c3 (sb_get sb c1 qq))) he
end
section
variable {prog : Program} {w : World} {A : Around} {E : Value → Shared → Prop} {s : Shared}
theorem zn_type {zp tI tO : Addr} (hz : ZSt s.heap zp tI tO) : s.TypeIs (.ref zp) "zip" := by
  obtain ⟨f, g, _, ho⟩ := hz
  exact ⟨_, ho, rfl⟩
end
/-- the lists at a and b as they stand at each turn, a name for each new pair -/
theorem turn_zipN {P : Program} {w : World} {K : PySem.W.Frag} {x : PySem.Str} {px : Pos} {a b zp tI tO ia ib : Addr} (D : ZipApart zp tI tO ia ib a b) :
    Turn P w K (.Name x px) (Itz K a b) [zp, tI, tO, ia, ib] zp (fun i h => ZSt h zp tI tO ∧ PairAt h tI (.ref ia) (.ref ib) ∧ (∃ x y, PairAt h tO x y) ∧ h.IsListIter ia a i ∧ h.IsListIter ib b i) where
  mem := by simp
  obj := fun i h now c hc => by
    obtain ⟨⟨f, g, _, ho⟩, atI, ⟨x, y, atO⟩, ⟨o1, e1, _, d1⟩, ⟨o2, ez, _, d2⟩⟩ := now
    simp only [List.mem_cons, List.not_mem_nil, or_false] at hc
    rcases hc with qq | qq | qq | qq | qq
    · rw [qq]
      exact ⟨_, ho, fun v r => nomatch r⟩
    · rw [qq]
      exact ⟨_, atI, fun v r => nomatch r⟩
    · rw [qq]
      exact ⟨_, atO, fun v r => nomatch r⟩
    · exact ⟨o1, qq ▸ e1, fun v r => by rw [d1] at r; cases r⟩
    · exact ⟨o2, qq ▸ ez, fun v r => by rw [d2] at r; cases r⟩
  keep := fun i h h' now k => by
    obtain ⟨⟨f, g, hf, ho⟩, atI, ⟨x, y, atO⟩, h1, h2⟩ := now
    exact ⟨⟨f, g, hf, k zp (by simp) _ ho⟩, k tI (by simp) _ atI, ⟨x, y, k tO (by simp) _ atO⟩, h1.at fun o qq => k ia (by simp) o qq, h2.at fun o qq => k ib (by simp) o qq⟩
  item := by
    intro X hP hw hK hc i pins s σ H E In hf now lst
    subst hP hw hK
    obtain ⟨hz, atI, ⟨x0, y0, atO⟩, h1, h2⟩ := now
    obtain ⟨xs, ys, x, y, lx, ly, hx, hy⟩ := lst
    obtain ⟨its, rva, p, _⟩ := In.list lx
    obtain ⟨itb, rvb, pb, _⟩ := In.list ly
    obtain ⟨u, hu, ru⟩ := rva.get hx
    obtain ⟨ub, hub, rub⟩ := rvb.get hy
    have hT := zn_type hz
    unfold pyNext
    refine wpAny_bind (wpAny_attempt (wpAny_callSpecial?_slot (name := Str.ofString "__next__") hT F.slot_zip_next (wpAny_call_entry F.slot_zip_next hT F.entry_zip_next
      (zn_item D hz atI atO h1 h2 p.isList pb.isList (x := u) (y := ub) (by simpa using hu) (by simpa using hub) fun h' T hT' z' pTO l1' l2' pT hk => ?_) (F.args_zip_next_1 _))))
    refine ⟨_, rfl, wpAny_pure ⟨_, rfl, ?_⟩⟩
    show wpAny _ _ (pure ()) _ _ _
    refine wpAny_pure ?_
    have zl : ∀ c ∈ [zp, tI, tO, ia, ib], c < s.heap.objs.size := fun c hcm => by
      obtain ⟨f0, g0, _, ho⟩ := hz
      simp only [List.mem_cons, List.not_mem_nil, or_false] at hcm
      rcases hcm with qq | qq | qq | qq | qq
      · rw [qq]
        exact Heap.lt_size ho
      · rw [qq]
        exact Heap.lt_size atI
      · rw [qq]
        exact Heap.lt_size atO
      · rw [qq]
        obtain ⟨_, e1, _⟩ := h1
        exact Heap.lt_size e1
      · rw [qq]
        obtain ⟨_, ez, _⟩ := h2
        exact Heap.lt_size ez
    have new : ObjOk X.prog X.w (upd H T (.tup [x, y])) h' T (.tup [x, y]) := ⟨by show 2 ≤ sizeLine; decide, [u, ub], .cons ru (.cons rub .nil), ⟨_, pT, rfl, _, rfl⟩⟩
    have I1 : Inv X pins σ (upd H T (.tup [x, y])) { s with heap := h' } := In.turnedNew (t' := s.toks) (ch := [zp, tI, tO, ia, ib]) (fun c o hb qq => hk c o (fun r => hb (by simp [r])) (fun r => hb (by simp [r])) (fun r => hb (by simp [r])) (fun r => hb (by simp [r])) qq) hf hT' new
    refine ⟨.ref T, _, I1, rfl, ⟨T, x, y, rfl, In.hok.fresh hT', rfl, fun l hl => by rw [In.list_inj hl lx]; exact hx, fun l hl => by rw [In.list_inj hl ly]; exact hy⟩, ⟨z', hk _ _ D.TIz D.TITO D.TIi1 D.TIi2 atI, pTO, l1', l2'⟩, fun c hcm => ?_⟩
    rw [upd_ne (Nat.ne_of_lt (Nat.lt_of_lt_of_le (zl c hcm) hT'))]
    exact (hf c hcm).1
  done := by
    intro X hP hw hK hc i pins s σ H E In hf now lst
    subst hP hw hK
    obtain ⟨hz, atI, ⟨x0, y0, atO⟩, h1, h2⟩ := now
    obtain ⟨xs, ys, lx, ly, hend⟩ := lst
    obtain ⟨its, rva, p, _⟩ := In.list lx
    obtain ⟨itb, rvb, pb, _⟩ := In.list ly
    have e1 := rva.length
    have ez := rvb.length
    have he : its.toArray[i]? = none ∨ itb.toArray[i]? = none := by
      rcases hend with qq | qq
      · exact .inl (by simp; omega)
      · exact .inr (by simp; omega)
    have hT := zn_type hz
    unfold pyNext
    refine wpAny_bind (wpAny_attempt (wpAny_callSpecial?_slot (name := Str.ofString "__next__") hT F.slot_zip_next (wpAny_call_entry F.slot_zip_next hT F.entry_zip_next
      (zn_end (In.ok.hd hc) D hz atI atO h1 h2 p.isList pb.isList he fun h' e hk hst => ?_) (F.args_zip_next_1 _))))
    obtain ⟨o, ho, hcl⟩ := hst
    refine wpAny_bind (wpAny_isInstance (T := "StopIteration") (b := true) ⟨o, ho, hcl⟩ isSubtype_stop ?_)
    exact wpAny_pure ⟨rfl, In.turnedL (t' := s.toks) (ch := [zp, tI, tO, ia, ib]) (fun c o hb qq => hk c o (fun r => hb (by simp [r])) (fun r => hb (by simp [r])) (fun r => hb (by simp [r])) (fun r => hb (by simp [r])) qq) hf⟩
  self := fun A i s Q E now h => by
    have hT := zn_type now.1
    refine wpAny_pyIter_slot hT F.slot_zip_iter (wpAny_call_entry F.slot_zip_iter hT F.entry_zip_iter ?_ (F.args_zip_iter_1 _))
    show wpAny _ _ (ret (.ref zp)) _ _ s
    exact wpAny_pure ⟨_, rfl, "zip", _, hT, F.slot_zip_next.lookup, h⟩
/-- zip(..) walked by a name -/
theorem pi_zipN {X : Cx} {x : PySem.Str} {px : Pos} {e ez : Expr} {ta : TA} {p pos : Pos} (lst : Gl X "zip") (hm : X.mg "zip" = none) (ha : PA X [e, ez] ta)
    (hst : starEach [e, ez] X.env = (false, eval e X.env) :: starEach [ez] X.env := by rfl) (hpl : (backTo pos (starEach [ez] X.env)).any (·.1) = false := by rfl) :
    PI X (.Name x px) (.Call (.Name "zip" p) [e, ez] [] pos) (iZip X.K ta) := by
  refine ⟨fun pins s σ H Rr In h => ?_⟩
  refine Call_ (ld_blt In lst hm PyProof.Rows.boot_zip (PyProof.Rows.callWith_type1 (thn (ha.run pos pins s σ H _ In h) fun us sa ⟨vs, Ha, I1, r1, q1⟩ => ?_) hst hpl))
  obtain ⟨a, b, xs, ys, ex, lx, ly, qq⟩ := q1
  subst ex
  cases r1 with
  | cons r rr =>
    cases rr with
    | cons r' rr =>
      cases rr
      cases r
      cases r'
      obtain ⟨its, rva, p1, _⟩ := I1.list lx
      obtain ⟨itb, rvb, pb, _⟩ := I1.list ly
      have T := turn_zipN (P := X.prog) (w := X.w) (K := X.K) (x := x) (px := px) (PySem.W.ktu_apart sa.heap.objs.size a b p1.lt pb.lt)
      refine call_zip_2 p1.isList pb.isList fun h' hz atI atO h1 h2 hsz hk => ?_
      have now : ZSt h' (sa.heap.objs.size + 4) (sa.heap.objs.size + 2) (sa.heap.objs.size + 3) := ⟨_, _, .inl rfl, hz⟩
      refine T.self X.A 0 { sa with heap := h' } _ _ ⟨now, atI, ⟨_, _, atO⟩, h1, h2⟩ ?_
      have In2 : Inv X pins σ Ha { sa with heap := h' } := I1.kept (t' := sa.toks) hk
      refine ⟨_, _, _, _, Ha, rfl, In2, T, ⟨now, atI, ⟨_, _, atO⟩, h1, h2⟩, fun c hcm => ?_, qq⟩
      have big : sa.heap.objs.size ≤ c := by
        simp only [List.mem_cons, List.not_mem_nil, or_false] at hcm
        rcases hcm with zp | zp | zp | zp | zp <;> (rw [zp]; first | exact Nat.le_refl _ | exact Nat.le_add_right _ _)
      exact I1.fpOk big (I1.hok.fresh big)
end K7

set_option Elab.async false
set_option linter.all false
set_option maxRecDepth 100000
set_option maxHeartbeats 2000000
/-! unlike_word, is_short, growths_of, short_run, does_come. -/
namespace K7
open PySem PySem.Spec PyProof.Rows L2 Evl
def unl (n : Nat) (l e : Tx) : V := if !(decide (l.take n = e.take n)) || (decide (min l.length e.length < n) && !(decide (l = e))) then .str "head" else if !(decide (steps n l = steps n e)) then .str "steps" else .non
section
variable {K : PySem.W.Frag} {σ : L2.St} {H : Hp} {ta tb te : TE} {x y z v : V} {t : TT}
theorem et_pw {b : Bool} (h : EvT t σ H b) : EvT t σ H b := h
theorem ev_ifB {b : Bool} (h : EvT t σ H b) (h1 : Ev ta σ H x) (h2 : Ev tb σ H y) : Ev (tIf t ta tb) σ H (if b then x else y) := ev_if h (fun c => by rw [c]; exact h1) (fun c => by rw [c]; exact h2)
theorem ev_isNR {sp : Sp} {E : XK} {ta : TA} {vs : List V} {b : Bool} {p : V → Prop} (h : EvA ta σ H vs) (hs : ∀ H1, Ex H H1 → ∀ (Q : VK) (E : XK), (∀ v, p v → ∀ H2, Ex H1 H2 → Q v H2) → sp vs H1 Q E) (hb : ∀ v, p v → decide (v = V.non) = b) :
    Ev (tOp (fun x y H Q => y = .non ∧ Q (.bl (decide (x = .non))) H) (tCall sp [] E ta) (tC .non)) σ H (.bl b) := fun H1 e Q q => h H1 e _ fun H2 e2 => by
  rw [List.append_nil]
  exact hs H2 (e.trans e2) _ _ fun v hv H3 e3 => ⟨rfl, by rw [hb v hv]; exact q H3 (e2.trans e3)⟩
theorem ev_lenMin {a b : Tx} (ha : Ev ta σ H (tx a)) (hb : Ev tb σ H (tx b)) (la : a.length ≤ 1000) (lb : b.length ≤ 1000) :
    Ev (tCB (fun xs H Q => ∃ i j, xs = [.int i, .int j] ∧ Q (.int (if j < i then j else i)) H) (tCons (tCB rLenT (tCons ta tNil)) (tCons (tCB rLenT (tCons tb tNil)) tNil))) σ H (nt (min a.length b.length)) := ev_is (ev_min2 (ev_lenT ha la) (ev_lenT hb lb)) (by
      congr 1
      split <;> omega)
end
section
variable {P : Program} {w : World} {K : PySem.W.Frag} {mg : Str → Option Value} {base : Heap}
def sp_unlike_word : Sp := fun vs H Q _ => ∃ (l e : Tx) (n : Nat), vs = [tx l, tx e, nt n] ∧ Ok l ∧ Ok e ∧ l.length ≤ 100 ∧ e.length ≤ 100 ∧ GiveV (unl n l e) H Q
theorem ok_unlike_word (T : TopE K mg) : Has P w K mg base CX0 3 "unlike_word" ["later", "elder", "size"] sp_unlike_word := by
  have F1 : Has P w K mg base CX0 2 "steps_of" ["text", "size"] sp_steps_of := ok_steps_of T
  refine has_of T 11 11 rfl rfl rfl sc_unlike_word (fun _ _ _ _ _ _ us hl => match us, hl with | [_, _, _], _ => rfl) (fun vs H Q E h => ?_) (fun cdv f A outer s H vs Q E hr h => ?_)
  · obtain ⟨l, e, n, rfl, _⟩ := h
    rfl
  · obtain ⟨l, e, n, rfl, ol, oe, ll, le, k⟩ := h
    obtain ⟨t1, gH⟩ := T.c_HEAD
    obtain ⟨t2, gS⟩ := T.c_STEPS
    refine ⟨_, PSs.nox (pss_cons (ps_if (PW.pt (pw_or (pt_cmpR op_ne (pe_slice sl_str (pv 0) po_none (po_some (pv 2))) (pe_slice sl_str (pv 1) po_none (po_some (pv 2))) (nomark _)) (pw_or1 (PW.pt (pw_and (pt_cmpR op_lt (pe_callB (call_min2 rfl) (by rfl) T.f_min (by decide +kernel)
        (pa_cons (pe_callB call_len_str (by rfl) T.f_len PySem.boot_len (pa_cons (pv 0) pa_nil)) (pa_cons (pe_callB call_len_str (by rfl) T.f_len PySem.boot_len (pa_cons (pv 1) pa_nil)) pa_nil))) (pv 2) (nomark _)) (pw_and1 (pt_cmpR op_ne (pv 0) (pv 1) (nomark _)))))))) (pss_one (ps_ret (pe_glob (v := .str "head") (by rfl) gH ⟨_, rfl⟩))) pss_nil)
      (pss_one (ps_ret (pe_ifExp (pt_cmpR (op_neD hr.units) (pe_h F1 hr pass0 (pa_cons (pv 0) (pa_cons (pv 2) pa_nil))) (pe_h F1 hr pass0 (pa_cons (pv 1) (pa_cons (pv 2) pa_nil))) (nomark _)) (pe_glob (v := .str "steps") (by rfl) gS ⟨_, rfl⟩) pe_non)))), ?_⟩
    refine q_when (et_or (et_test (ev_neT (ev_take (ev_var rfl) eo_none (eo_some (ev_var rfl)) (by omega)) (ev_take (ev_var rfl) eo_none (eo_some (ev_var rfl)) (by omega)))) fun _ =>
      et_and (et_test (ev_lt (ev_lenMin (ev_var rfl) (ev_var rfl) (by omega) (by omega)) (ev_var rfl))) fun _ => et_test (ev_neT (ev_var rfl) (ev_var rfl))) (fun hb H1 e1 => ?_) fun hb H1 e1 => ?_
    · have eu : unl n l e = .str "head" := if_pos (by simpa using hb)
      rw [eu] at k
      exact s_ret ev_c fun H2 e2 => k H2 (e1.trans e2)
    · have eu : unl n l e = if !(decide (steps n l = steps n e)) then .str "steps" else .non := if_neg (by simpa using hb)
      rw [eu] at k
      refine s_ret (ev_ifB (et_test (ev_neLL (el_call (ea_2 (ev_var rfl) (ev_var rfl)) fun H3 e3 Q q E => ⟨l, n, rfl, ol, by omega, q⟩) (el_call (ea_2 (ev_var rfl) (ev_var rfl)) fun H3 e3 Q q E => ⟨e, n, rfl, oe, by omega, q⟩))) ev_c ev_c) fun H2 e2 => k H2 (e1.trans e2)
def sp_is_short : Sp := fun vs H Q _ => ∃ (m : Int) (n : Nat), vs = [.int m, nt n] ∧ 1 ≤ n ∧ GiveV (.bl (isSh n m)) H Q
theorem ok_is_short (T : TopE K mg) : Has P w K mg base CX0 1 "is_short" ["more", "size"] sp_is_short := by
  refine has_of T 12 12 rfl rfl rfl sc_is_short (fun _ _ _ _ _ _ us hl => match us, hl with | [_, _], _ => rfl) (fun vs H Q E h => ?_) (fun cdv f A outer s H vs Q E hr h => ?_)
  · obtain ⟨m, n, rfl, _⟩ := h
    rfl
  · obtain ⟨m, n, rfl, hn, k⟩ := h
    refine ⟨_, PSs.nox (pss_one (ps_ret (pe_or (pe_cmpR op_lt (pv 0) pe_int (nomark _)) (pe_one (pe_cmpR op_ne (pe_op op_mod (pv 0) (pv 1)) pe_int (nomark _)))))), ?_⟩
    exact s_ret (ev_orV (ev_lt (ev_var rfl) (ev_c (v := .int 0))) fun _ => ev_neI (ev_mod (ev_var rfl) (ev_var rfl) (by omega)) (ev_c (v := .int 0))) k
/-- how much more each run is -/
def groP (n : Nat) (l e : Tx) : List Int := ((runsP n l).zip (runsP n e)).map fun p => (p.1 : Int) - (p.2 : Int)
theorem runsP_le (n : Nat) (l : Tx) : (runsP n l).length ≤ l.length + 1 := by
  unfold runsP
  split
  · simp
  · refine Nat.le_trans (runsG_le _) ?_
    rw [gaps_len]
    omega
def sp_growths_of : Sp := fun vs H Q _ => ∃ (l e : Tx) (n : Nat), vs = [tx l, tx e, nt n] ∧ Ok l ∧ Ok e ∧ l.length ≤ 100 ∧ e.length ≤ 100 ∧ GiveL ((groP n l e).map V.int) H Q
theorem ok_growths_of (T : TopE K mg) : Has P w K mg base CX0 3 "growths_of" ["later", "elder", "size"] sp_growths_of := by
  have F1 : Has P w K mg base CX0 2 "runs_of" ["text", "size"] sp_runs_of := ok_runs_of T
  refine has_of T 13 13 rfl rfl rfl sc_growths_of (fun _ _ _ _ _ _ us hl => match us, hl with | [_, _, _], _ => rfl) (fun vs H Q E h => ?_) (fun cdv f A outer s H vs Q E hr h => ?_)
  · obtain ⟨l, e, n, rfl, _⟩ := h
    rfl
  · obtain ⟨l, e, n, rfl, ol, oe, ll, le, k⟩ := h
    refine ⟨_, PSs.nox (pss_one (ps_ret (pe_lc (own := [("one", 3), ("other", 4)]) (g := gTup _ 2 (gCons (gName 3) (gCons (gName 4) gNil))) (tt := tYes) rfl sc_growths_of.nd (pi_zip (by rfl) T.f_zip (pa_cons (pe_h F1 hr pass0 (pa_cons (pv 0) (pa_cons (pv 2) pa_nil))) (pa_cons (pe_h F1 hr pass0 (pa_cons (pv 1) (pa_cons (pv 2) pa_nil))) pa_nil)))
        (blkOk_by (N := N_growths_of) (sc := defScope s_growths_of) (by decide +kernel)) (fun _ _ _ _ _ => pg_tup rfl (pgs_cons (pg_name (i := 3) sc_growths_of.nd rfl (Or.inl rfl)) (pgs_cons (pg_name (i := 4) sc_growths_of.nd rfl (Or.inl rfl)) pgs_nil))) (fun _ _ _ _ _ => pts_nil)
        (fun _ _ _ _ _ => pe_op op_sub (pv 3) (pv 4))))), ?_⟩
    refine s_retL (el_is (el_compZ (runsP n l) (runsP n e) nt nt (fun _ => true) (fun p => V.int ((p.1 : Int) - (p.2 : Int))) (by have := runsP_le n l; omega)
      (wa_ll (el_call (ea_2 (ev_var rfl) (ev_var rfl)) fun H3 e3 Q q E => ⟨l, n, rfl, ol, by omega, q⟩) (el_call (ea_2 (ev_var rfl) (ev_var rfl)) fun H3 e3 Q q E => ⟨e, n, rfl, oe, by omega, q⟩)) (fun x y => rfl)
      fun b i H2 hb e2 => ⟨et_yes, fun _ => ev_sub (ev_var rfl) (ev_var rfl)⟩) (by rw [filt_true, groP, List.map_map]; rfl)) k
/-- whether some run is short -/
def shr (n : Nat) (l e : Tx) : Bool := (groP n l e).any (isSh n)
def sp_short_run : Sp := fun vs H Q _ => ∃ (l e : Tx) (n : Nat), vs = [tx l, tx e, nt n] ∧ Ok l ∧ Ok e ∧ l.length ≤ 100 ∧ e.length ≤ 100 ∧ 1 ≤ n ∧ ∀ v : V, (v = .non ↔ shr n l e = false) → GiveV v H Q
theorem ok_short_run (T : TopE K mg) : Has P w K mg base CX0 4 "short_run" ["later", "elder", "size"] sp_short_run := by
  have F1 : Has P w K mg base CX0 3 "growths_of" ["later", "elder", "size"] sp_growths_of := ok_growths_of T
  have F2 : Has P w K mg base CX0 3 "is_short" ["more", "size"] sp_is_short := (ok_is_short T).mono (by decide)
  refine has_of T 14 14 rfl rfl rfl sc_short_run (fun _ _ _ _ _ _ us hl => match us, hl with | [_, _, _], _ => rfl) (fun vs H Q E h => ?_) (fun cdv f A outer s H vs Q E hr h => ?_)
  · obtain ⟨l, e, n, rfl, _⟩ := h
    rfl
  · obtain ⟨l, e, n, rfl, ol, oe, ll, le, hn, k⟩ := h
    refine ⟨_, PSs.nox (pss_cons (ps_setLc (i := 3) (own := [("number", 4), ("more", 5)]) (g := gTup _ 2 (gCons (gName 4) (gCons (gName 5) gNil))) rfl sc_short_run.nd rfl rfl (sw_true rfl rfl rfl (by decide +kernel)) (pi_enum (by rfl) T.f_enumerate (pa_cons (pe_h F1 hr pass0 (pa_cons (pv 0) (pa_cons (pv 1) (pa_cons (pv 2) pa_nil)))) pa_nil))
        (blkOk_by (N := N_short_run) (sc := defScope s_short_run) (by decide +kernel)) (fun _ _ _ _ _ => pg_tup rfl (pgs_cons (pg_name (i := 4) sc_short_run.nd rfl (Or.inl rfl)) (pgs_cons (pg_name (i := 5) sc_short_run.nd rfl (Or.inl rfl)) pgs_nil)))
        (fun _ _ _ _ _ => pts_one (pt_val (pe_h F2 hr pass0 (pa_cons (pv 5) (pa_cons (pv 2) pa_nil))))) (fun _ _ _ _ _ => pv 4))
      (pss_one (ps_ret (pe_ifExp (pt_cmpR (op_neD hr.units) (pv 3) (pe_lst pa_nil) (nomark _)) (pe_ix ix_list (pv 3) pe_int (fun _ _ => rfl)) pe_non)))), ?_⟩
    have hgl : (groP n l e).length ≤ 200 := by
      unfold groP
      rw [List.length_map, List.length_zip]
      have := runsP_le n l
      omega
    refine q_asgL (xs := nts ((((List.range (groP n l e).length).zip (groP n l e)).filter fun p => isSh n p.2).map (·.1))) (el_is (el_compE (groP n l e) V.int (fun p => isSh n p.2) (fun p => nt p.1) (by omega) (el_call (ea_3 (ev_var rfl) (ev_var rfl) (ev_var rfl)) fun H3 e3 Q q E => ⟨l, e, n, rfl, ol, oe, ll, le, q⟩) (fun x y => rfl)
      fun b i H2 hb e2 => ⟨et_B (ev_call (ea_2 (ev_var rfl) (ev_var rfl)) fun H3 e3 Q q E => ⟨b, n, rfl, hn, q⟩), fun _ => ev_var rfl⟩) (by rw [nts, List.map_map]; rfl)) fun p H1 np e1 hp => ?_
    have key : ∀ (g : List Int) (m : Nat), ((((List.range' m g.length).zip g).filter fun p => isSh n p.2).map (·.1) = []) ↔ g.any (isSh n) = false := by
      intro g
      induction g with
      | nil => intro m; simp
      | cons a g ih =>
        intro m
        have ih := ih (m + 1)
        rw [List.length_cons, List.range'_succ, List.zip_cons_cons, List.filter_cons, List.any_cons]
        cases c : isSh n a with
        | true => simp
        | false =>
          simp only [Bool.false_eq_true, if_false, Bool.false_or]
          exact ih
    have key0 := key (groP n l e) 0
    rw [← List.range_eq_range'] at key0
    cases c : ((((List.range (groP n l e).length).zip (groP n l e)).filter fun p => isSh n p.2).map (·.1)) with
    | nil =>
      rw [c] at hp
      refine s_ret (v := .non) (ev_if (b := false) (et_is (et_test (ev_neNilN (ev_var rfl) (sq_of hp))) (by simp)) (fun h => by cases h) fun _ => ev_c) fun H2 e2 => ?_
      exact k .non ⟨fun _ => key0.mp c, fun _ => rfl⟩ H2 (e1.trans e2)
    | cons a r =>
      rw [c] at hp
      refine s_ret (v := nt a) (ev_if (b := true) (et_is (et_test (ev_neNilN (ev_var rfl) (sq_of hp))) (by simp)) (fun _ => ev_op (ev_var rfl) (ev_c (v := .int 0)) (rv_ixL (K := K) (sq_of hp) (atI_nat (j := 0) rfl))) fun h => by cases h) fun H2 e2 => ?_
      refine k (nt a) ⟨fun h => (by cases h), fun h => ?_⟩ H2 (e1.trans e2)
      have := key0.mpr h
      rw [c] at this
      cases this
/-- whether the one comes of the other, as the program tells it -/
def dcB (n : Nat) (l e : Tx) : Bool := decide (unl n l e = .non) && !shr n l e
def sp_does_come : Sp := fun vs H Q _ => ∃ (l e : Tx) (n : Nat), vs = [tx l, tx e, nt n] ∧ Ok l ∧ Ok e ∧ l.length ≤ 100 ∧ e.length ≤ 100 ∧ 1 ≤ n ∧ GiveV (.bl (dcB n l e)) H Q
theorem ok_does_come (T : TopE K mg) : Has P w K mg base CX0 5 "does_come" ["later", "elder", "size"] sp_does_come := by
  have F1 : Has P w K mg base CX0 4 "unlike_word" ["later", "elder", "size"] sp_unlike_word := (ok_unlike_word T).mono (by decide)
  have F2 : Has P w K mg base CX0 4 "short_run" ["later", "elder", "size"] sp_short_run := ok_short_run T
  refine has_of T 15 15 rfl rfl rfl sc_does_come (fun _ _ _ _ _ _ us hl => match us, hl with | [_, _, _], _ => rfl) (fun vs H Q E h => ?_) (fun cdv f A outer s H vs Q E hr h => ?_)
  · obtain ⟨l, e, n, rfl, _⟩ := h
    rfl
  · obtain ⟨l, e, n, rfl, ol, oe, ll, le, hn, k⟩ := h
    refine ⟨_, PSs.nox (pss_one (ps_ret (pe_and (pe_cmpR op_isN (pe_h F1 hr pass0 (pa_cons (pv 0) (pa_cons (pv 1) (pa_cons (pv 2) pa_nil)))) pe_non (nomark _)) (pe_one (pe_cmpR op_isN (pe_h F2 hr pass0 (pa_cons (pv 0) (pa_cons (pv 1) (pa_cons (pv 2) pa_nil)))) pe_non (nomark _)))))), ?_⟩
    have second : ∀ v : V, (v = .non ↔ shr n l e = false) → decide (v = V.non) = !shr n l e := fun v hv => by
      cases c : shr n l e with
      | false => exact decide_eq_true (hv.mpr c)
      | true => exact decide_eq_false fun z => (by
          have q := hv.mp z
          rw [c] at q
          cases q)
    exact s_ret (ev_andV (a := decide (unl n l e = .non)) (b := !shr n l e) (ev_isN (ev_call (ea_3 (ev_var rfl) (ev_var rfl) (ev_var rfl)) fun H3 e3 Q q E => ⟨l, e, n, rfl, ol, oe, ll, le, q⟩))
      fun _ => ev_isNR (p := fun v => v = .non ↔ shr n l e = false) (ea_3 (ev_var rfl) (ev_var rfl) (ev_var rfl)) (fun H2 e2 Q E q => ⟨l, e, n, rfl, ol, oe, ll, le, hn, q⟩) second) k
end
end K7

set_option Elab.async false
set_option linter.all false
set_option maxRecDepth 100000
set_option maxHeartbeats 2000000
/-! are_kin_of, are_kin, joined_runs, least_later_of, greatest_elder, copies_apart, stands_between. -/
namespace K7
open PySem PySem.Spec PyProof.Rows L2 Evl
abbrev GiveU (xs : List V) (H : Hp) (Q : VK) : Prop := ∀ p H2, H p = none → Ex H H2 → H2 p = some (.tup xs) → Q (.ref p) H2
section
variable {K : PySem.W.Frag} {σ : L2.St} {H H' : Hp} {te tl : TE} {t : TT} {ta : TA}
/-- over zip of two lists, one name for the pair -/
theorem el_compP {α β : Type} {j : Nat} {vs : List Nat} (as : List α) (bs : List β) (f : α → V) (f' : β → V) (p : α × β → Bool) (q : α × β → V) (hz : as.length ≤ 16000000)
    (h : ∀ H1, Ex H H1 → ∀ Q : List V → Hp → Prop, (∀ a b H2, Ex H1 H2 → SqL K H2 a (as.map f) → SqL K H2 b (bs.map f') → Q [.ref a, .ref b] H2) → ta σ H1 Q) (hw : ∀ x, wipe ((wipe σ vs).set j (some x)) vs = wipe σ vs)
    (ht : ∀ (b : α × β) (i : Nat) T H1, (as.zip bs)[i]? = some b → Ex H H1 → H1 T = some (.tup [f b.1, f' b.2]) → EvT t ((wipe σ vs).set j (some (.ref T))) H1 (p b) ∧ (p b = true → Ev te ((wipe σ vs).set j (some (.ref T))) H1 (q b))) :
    EvL (tLc (iZip K ta) (gName j) t te vs) σ H (((as.zip bs).filter p).map q) := el_comp (as.zip bs) p q (by rw [List.length_zip]; omega) fun H1 e1 R hR =>
  h H1 e1 _ fun a b H2 e2 ha hb => ⟨a, b, _, _, rfl, ha, hb, hR _ _ _ H2 e2 (walk_zip (K := K) (a := a) (b := b) (xs := as.map f) (ys := bs.map f') (by rw [List.length_zip, List.length_map, List.length_map])) ⟨ha, hb⟩ (fun _ _ e h => ⟨ex_l e h.1, ex_l e h.2⟩) fun i c x Ha Hb hc ea y => by
    obtain ⟨T, u, v, rfl, nT, rfl, hu, hv⟩ := y
    obtain ⟨h1, h2⟩ := getElem?_zip' hc
    have hu : (as.map f)[i]? = some u := hu
    have hv : (bs.map f')[i]? = some v := hv
    rw [List.getElem?_map, h1] at hu
    rw [List.getElem?_map, h2] at hv
    have eu : f c.1 = u := Option.some.inj hu
    have ev : f' c.2 = v := Option.some.inj hv
    subst eu ev
    exact ⟨Ex.new nT, _, fun Q hQ => hQ _ (Ex.refl _), hw _, ht c i T _ hc (ea.trans (Ex.new nT)) upd_same⟩⟩
theorem ev_maxT {T : Addr} {i j : Int} (h : Ev te σ H (.ref T)) (hT : SqT K H T [.int i, .int j]) : Ev (tCB (rMaxT K) (tCons te tNil)) σ H (.int (if j > i then j else i)) := fun H1 e Q q =>
  h H1 e _ fun H2 e2 => ⟨T, i, j, rfl, ex_t (e.trans e2) hT, q H2 e2⟩
theorem ev_minT {T : Addr} {i j : Int} (h : Ev te σ H (.ref T)) (hT : SqT K H T [.int i, .int j]) : Ev (tCB (rMinT K) (tCons te tNil)) σ H (.int (if j < i then j else i)) := fun H1 e Q q =>
  h H1 e _ fun H2 e2 => ⟨T, i, j, rfl, ex_t (e.trans e2) hT, q H2 e2⟩
end
section
variable {P : Program} {w : World} {K : PySem.W.Frag} {mg : Str → Option Value} {base : Heap}
def sp_are_kin_of : Sp := fun vs H Q _ => ∃ (a b : Tx) (n : Nat), vs = [tx a, tx b, nt n] ∧ Ok a ∧ Ok b ∧ a.length ≤ 100 ∧ b.length ≤ 100 ∧ 1 ≤ n ∧ n ≤ 6 ∧ GiveV (.bl (decide (root n a = root n b))) H Q
theorem ok_are_kin_of (T : TopE K mg) : Has P w K mg base CX0 4 "are_kin_of" ["one", "other", "size"] sp_are_kin_of := by
  have F1 : Has P w K mg base CX0 3 "root_of" ["text", "size"] sp_root_of := ok_root_of T
  refine has_of T 16 16 rfl rfl rfl sc_are_kin_of (fun _ _ _ _ _ _ us hl => match us, hl with | [_, _, _], _ => rfl) (fun vs H Q E h => ?_) (fun cdv f A outer s H vs Q E hr h => ?_)
  · obtain ⟨a, b, n, rfl, _⟩ := h
    rfl
  · obtain ⟨a, b, n, rfl, oa, ob, la, lb, h1, h6, k⟩ := h
    refine ⟨_, PSs.nox (pss_one (ps_ret (pe_cmpR op_eq (pe_h F1 hr pass0 (pa_cons (pv 0) (pa_cons (pv 2) pa_nil))) (pe_h F1 hr pass0 (pa_cons (pv 1) (pa_cons (pv 2) pa_nil))) (nomark _)))), ?_⟩
    exact s_ret (ev_eqT (ev_call (ea_2 (ev_var rfl) (ev_var rfl)) fun H3 e3 Q q E => ⟨a, n, rfl, oa, la, h1, h6, q⟩) (ev_call (ea_2 (ev_var rfl) (ev_var rfl)) fun H3 e3 Q q E => ⟨b, n, rfl, ob, lb, h1, h6, q⟩)) k
def sp_are_kin : Sp := fun vs H Q _ => ∃ (a b : Tx) (n : Nat), vs = [tx a, tx b, nt n] ∧ Ok a ∧ Ok b ∧ a.length ≤ 60 ∧ b.length ≤ 60 ∧ 1 ≤ n ∧ n ≤ 6 ∧ GiveV (.bl (decide (root n a = root n b))) H Q
theorem ok_are_kin (T : TopE K mg) : Has P w K mg base CX0 5 "are_kin" ["one", "other", "size"] sp_are_kin := by
  have F1 : Has P w K mg base CX0 4 "need_two" ["one", "other", "size"] sp_need_two := (ok_need_two T).mono (by decide)
  have F2 : Has P w K mg base CX0 4 "are_kin_of" ["one", "other", "size"] sp_are_kin_of := ok_are_kin_of T
  refine has_of T 17 17 rfl rfl rfl sc_are_kin (fun _ _ _ _ _ _ us hl => match us, hl with | [_, _, _], _ => rfl) (fun vs H Q E h => ?_) (fun cdv f A outer s H vs Q E hr h => ?_)
  · obtain ⟨a, b, n, rfl, _⟩ := h
    rfl
  · obtain ⟨a, b, n, rfl, oa, ob, la, lb, h1, h6, k⟩ := h
    refine ⟨_, PSs.nox (pss_cons (ps_expr (pe_h F1 hr pass0 (pa_cons (pv 0) (pa_cons (pv 1) (pa_cons (pv 2) pa_nil))))) (pss_one (ps_ret (pe_h F2 hr pass0 (pa_cons (pv 0) (pa_cons (pv 1) (pa_cons (pv 2) pa_nil))))))), ?_⟩
    refine q_drop (ev_call (ea_3 (ev_var rfl) (ev_var rfl) (ev_var rfl)) fun H3 e3 Q q E => ⟨a, b, (n : Int), rfl, oa, ob, la, lb, by omega, by omega, q⟩) fun H1 e1 => ?_
    exact s_ret (ev_call (ea_3 (ev_var rfl) (ev_var rfl) (ev_var rfl)) fun H3 e3 Q q E => ⟨a, b, n, rfl, oa, ob, by omega, by omega, h1, h6, q⟩) fun H2 e2 => k H2 (e1.trans e2)
theorem ite_max (a b : Nat) : V.int (if (b : Int) > (a : Int) then (b : Int) else (a : Int)) = nt (max a b) := by
  congr 1
  split <;> omega
theorem ite_min (a b : Nat) : V.int (if (b : Int) < (a : Int) then (b : Int) else (a : Int)) = nt (min a b) := by
  congr 1
  split <;> omega
def sp_joined_runs : Sp := fun vs H Q _ => ∃ (a b : Tx) (n : Nat), vs = [tx a, tx b, nt n] ∧ Ok a ∧ Ok b ∧ a.length ≤ 100 ∧ b.length ≤ 100 ∧ GiveL (nts (maxs (runsP n a) (runsP n b))) H Q
theorem ok_joined_runs (T : TopE K mg) : Has P w K mg base CX0 3 "joined_runs" ["one", "other", "size"] sp_joined_runs := by
  have F1 : Has P w K mg base CX0 2 "runs_of" ["text", "size"] sp_runs_of := ok_runs_of T
  refine has_of T 18 18 rfl rfl rfl sc_joined_runs (fun _ _ _ _ _ _ us hl => match us, hl with | [_, _, _], _ => rfl) (fun vs H Q E h => ?_) (fun cdv f A outer s H vs Q E hr h => ?_)
  · obtain ⟨a, b, n, rfl, _⟩ := h
    rfl
  · obtain ⟨a, b, n, rfl, oa, ob, la, lb, k⟩ := h
    refine ⟨_, PSs.nox (pss_one (ps_ret (pe_lc (own := [("pair", 3)]) (g := gName 3) (tt := tYes) rfl sc_joined_runs.nd (pi_zipN (by rfl) T.f_zip (pa_cons (pe_h F1 hr pass0 (pa_cons (pv 0) (pa_cons (pv 2) pa_nil))) (pa_cons (pe_h F1 hr pass0 (pa_cons (pv 1) (pa_cons (pv 2) pa_nil))) pa_nil)))
        (blkOk_by (N := N_joined_runs) (sc := defScope s_joined_runs) (by decide +kernel)) (fun _ _ _ _ _ => pg_name (i := 3) sc_joined_runs.nd rfl (Or.inl rfl)) (fun _ _ _ _ _ => pts_nil)
        (fun _ _ _ _ _ => show PE _ _ (tCB (rMaxT K) (tCons (tVar 3) tNil)) from pe_callB (cr_maxT rfl) (by rfl) T.f_max (by decide +kernel) (pa_cons (pv 3) pa_nil))))), ?_⟩
    exact s_retL (el_is (el_compP (runsP n a) (runsP n b) nt nt (fun _ => true) (fun p => nt (max p.1 p.2)) (by have := runsP_le n a; omega)
      (wa_ll (el_call (ea_2 (ev_var rfl) (ev_var rfl)) fun H3 e3 Q q E => ⟨a, n, rfl, oa, by omega, q⟩) (el_call (ea_2 (ev_var rfl) (ev_var rfl)) fun H3 e3 Q q E => ⟨b, n, rfl, ob, by omega, q⟩)) (fun x => rfl)
      fun b i T H2 hb e2 hT => ⟨et_yes, fun _ => ev_is (ev_maxT (ev_var rfl) (st_of hT)) (ite_max _ _)⟩) (by rw [filt_true, maxs, nts, List.map_map]; rfl)) k
theorem sum_maxs_le : ∀ a b : List Nat, (maxs a b).sum ≤ a.sum + b.sum
  | [], b => by simp [maxs]
  | _ :: _, [] => by simp [maxs]
  | x :: a, y :: b => by
    have ih := sum_maxs_le a b
    show (max x y :: maxs a b).sum ≤ _
    rw [List.sum_cons, List.sum_cons, List.sum_cons]
    omega
theorem sum_mins_le : ∀ a b : List Nat, (mins a b).sum ≤ a.sum
  | [], b => by simp [mins]
  | _ :: _, [] => by simp [mins]
  | x :: a, y :: b => by
    have ih := sum_mins_le a b
    show (min x y :: mins a b).sum ≤ _
    rw [List.sum_cons, List.sum_cons]
    omega
def sp_least_later_of : Sp := fun vs H Q _ => ∃ (a b : Tx) (n : Nat), vs = [tx a, tx b, nt n] ∧ Ok a ∧ Ok b ∧ a.length ≤ 60 ∧ b.length ≤ 60 ∧ 1 ≤ n ∧ n ≤ 6 ∧ root n a = root n b ∧ GiveV (tx (ll n a b)) H Q
theorem ok_least_later_of (T : TopE K mg) : Has P w K mg base CX0 4 "least_later_of" ["one", "other", "size"] sp_least_later_of := by
  have F1 : Has P w K mg base CX0 3 "built_of" ["front", "own_steps", "own_runs"] (sp_built_of K) := (ok_built_of T).mono (by decide)
  have F2 : Has P w K mg base CX0 3 "steps_of" ["text", "size"] sp_steps_of := (ok_steps_of T).mono (by decide)
  have F3 : Has P w K mg base CX0 3 "joined_runs" ["one", "other", "size"] sp_joined_runs := ok_joined_runs T
  refine has_of T 19 19 rfl rfl rfl sc_least_later_of (fun _ _ _ _ _ _ us hl => match us, hl with | [_, _, _], _ => rfl) (fun vs H Q E h => ?_) (fun cdv f A outer s H vs Q E hr h => ?_)
  · obtain ⟨a, b, n, rfl, _⟩ := h
    rfl
  · obtain ⟨a, b, n, rfl, oa, ob, la, lb, h1, h6, kin, k⟩ := h
    refine ⟨_, PSs.nox (pss_cons (ps_if (pt_cmpR op_lt (pe_callB call_len_str (by rfl) T.f_len PySem.boot_len (pa_cons (pv 0) pa_nil)) (pv 2) (nomark _)) (pss_one (ps_ret (pv 0))) pss_nil)
      (pss_one (ps_ret (pe_h F1 hr pass0 (pa_cons (pe_slice sl_str (pv 0) po_none (po_some (pv 2))) (pa_cons (pe_h F2 hr pass0 (pa_cons (pv 0) (pa_cons (pv 2) pa_nil))) (pa_cons (pe_h F3 hr pass0 (pa_cons (pv 0) (pa_cons (pv 1) (pa_cons (pv 2) pa_nil)))) pa_nil))))))), ?_⟩
    refine q_when (et_test (ev_lt (ev_lenT (ev_var rfl) (by omega)) (ev_var rfl))) (fun hb H1 e1 => ?_) fun hb H1 e1 => ?_
    · have hc : a.length < n := by simpa using hb
      rw [ll, if_pos hc] at k
      exact s_ret (ev_var rfl) fun H2 e2 => k H2 (e1.trans e2)
    · have hc : ¬ a.length < n := by simpa using hb
      have ha : n ≤ a.length := by omega
      have hbl := kin_len h1 oa ob kin ha
      have era : runsP n a = runs n a := if_neg hc
      have erb : runsP n b = runs n b := if_neg (by omega)
      rw [ll, if_neg hc] at k
      have hlo := len_of h1 ha oa
      have hlb := len_of h1 hbl ob
      have hs := sum_maxs_le (runs n a) (runs n b)
      refine s_ret (ev_callW (sp := sp_built_of K) (fun vs H2 => ∃ p q, vs = [tx (a.take n), .ref p, .ref q] ∧ H2 p = some (.lst (nts (steps n a))) ∧ H2 q = some (.lst (nts (maxs (runs n a) (runs n b)))))
        (wa_vll (ev_take (ev_var rfl) eo_none (eo_some (ev_var rfl)) (by omega)) (el_call (ea_2 (ev_var rfl) (ev_var rfl)) fun H3 e3 Q q E => ⟨a, n, rfl, oa, by omega, q⟩)
          (el_is (el_call (ea_3 (ev_var rfl) (ev_var rfl) (ev_var rfl)) fun H3 e3 Q q E => ⟨a, b, n, rfl, oa, ob, by omega, by omega, q⟩) (by rw [era, erb])))
        fun vs H2 e2 hp Q E q => ?_) fun H2 e2 => k H2 (e1.trans e2)
      obtain ⟨p, r, rfl, hp, hr⟩ := hp
      have hf := take_len h1 ha
      refine ⟨_, p, r, steps n a, maxs (runs n a) (runs n b), rfl, sq_of hp, sq_of hr, oa.take n, by omega, by omega, by rw [maxs_len (kin_runs h1 oa ob kin ha), runs_len], by omega, ?_⟩
      rw [hf]
      exact q
def sp_greatest_elder : Sp := fun vs H Q _ => ∃ (a b : Tx) (n : Nat), vs = [tx a, tx b, nt n] ∧ Ok a ∧ Ok b ∧ a.length ≤ 60 ∧ b.length ≤ 60 ∧ 1 ≤ n ∧ n ≤ 6 ∧ GiveV (if root n a = root n b then tx (ge n a b) else .non) H Q
theorem ok_greatest_elder (T : TopE K mg) : Has P w K mg base CX0 5 "greatest_elder" ["one", "other", "size"] sp_greatest_elder := by
  have F1 : Has P w K mg base CX0 4 "built_of" ["front", "own_steps", "own_runs"] (sp_built_of K) := (ok_built_of T).mono (by decide)
  have F2 : Has P w K mg base CX0 4 "steps_of" ["text", "size"] sp_steps_of := (ok_steps_of T).mono (by decide)
  have F3 : Has P w K mg base CX0 4 "runs_of" ["text", "size"] sp_runs_of := (ok_runs_of T).mono (by decide)
  have F4 : Has P w K mg base CX0 4 "need_two" ["one", "other", "size"] sp_need_two := (ok_need_two T).mono (by decide)
  have F5 : Has P w K mg base CX0 4 "are_kin_of" ["one", "other", "size"] sp_are_kin_of := ok_are_kin_of T
  refine has_of T 21 21 rfl rfl rfl sc_greatest_elder (fun _ _ _ _ _ _ us hl => match us, hl with | [_, _, _], _ => rfl) (fun vs H Q E h => ?_) (fun cdv f A outer s H vs Q E hr h => ?_)
  · obtain ⟨a, b, n, rfl, _⟩ := h
    rfl
  · obtain ⟨a, b, n, rfl, oa, ob, la, lb, h1, h6, k⟩ := h
    refine ⟨_, PSs.nox (pss_cons (ps_expr (pe_h F4 hr pass0 (pa_cons (pv 0) (pa_cons (pv 1) (pa_cons (pv 2) pa_nil)))))
      (pss_cons (ps_if (pt_not (pt_val (pe_h F5 hr pass0 (pa_cons (pv 0) (pa_cons (pv 1) (pa_cons (pv 2) pa_nil)))))) (pss_one (ps_ret pe_non)) pss_nil)
      (pss_cons (ps_if (pt_cmpR op_lt (pe_callB call_len_str (by rfl) T.f_len PySem.boot_len (pa_cons (pv 0) pa_nil)) (pv 2) (nomark _)) (pss_one (ps_ret (pv 0))) pss_nil)
      (pss_cons (ps_setLc (i := 3) (own := [("pair", 4)]) (g := gName 4) (tt := tYes) rfl sc_greatest_elder.nd rfl rfl (sw_true rfl rfl rfl (by decide +kernel)) (pi_zipN (by rfl) T.f_zip (pa_cons (pe_h F3 hr pass0 (pa_cons (pv 0) (pa_cons (pv 2) pa_nil))) (pa_cons (pe_h F3 hr pass0 (pa_cons (pv 1) (pa_cons (pv 2) pa_nil))) pa_nil)))
        (blkOk_by (N := N_greatest_elder) (sc := defScope s_greatest_elder) (by decide +kernel)) (fun _ _ _ _ _ => pg_name (i := 4) sc_greatest_elder.nd rfl (Or.inl rfl)) (fun _ _ _ _ _ => pts_nil)
        (fun _ _ _ _ _ => show PE _ _ (tCB (rMinT K) (tCons (tVar 4) tNil)) from pe_callB (cr_minT rfl) (by rfl) T.f_min (by decide +kernel) (pa_cons (pv 4) pa_nil)))
      (pss_one (ps_ret (pe_h F1 hr pass0 (pa_cons (pe_slice sl_str (pv 0) po_none (po_some (pv 2))) (pa_cons (pe_h F2 hr pass0 (pa_cons (pv 0) (pa_cons (pv 2) pa_nil))) (pa_cons (pv 3) pa_nil)))))))))), ?_⟩
    refine q_drop (ev_call (ea_3 (ev_var rfl) (ev_var rfl) (ev_var rfl)) fun H3 e3 Q q E => ⟨a, b, (n : Int), rfl, oa, ob, la, lb, by omega, by omega, q⟩) fun H1 e1 => ?_
    refine q_when (et_not (et_B (ev_call (ea_3 (ev_var rfl) (ev_var rfl) (ev_var rfl)) fun H3 e3 Q q E => ⟨a, b, n, rfl, oa, ob, by omega, by omega, h1, h6, q⟩))) (fun hk H2 e2 => ?_) fun hk H2 e2 => ?_
    · have hk : ¬ root n a = root n b := by simpa using hk
      rw [if_neg hk] at k
      exact s_ret ev_c fun H3 e3 => k H3 ((e1.trans e2).trans e3)
    have kin : root n a = root n b := by simpa using hk
    rw [if_pos kin] at k
    refine q_when (et_test (ev_lt (ev_lenT (ev_var rfl) (by omega)) (ev_var rfl))) (fun hb H3 e3 => ?_) fun hb H3 e3 => ?_
    · have hc : a.length < n := by simpa using hb
      rw [ge, if_pos hc] at k
      exact s_ret (ev_var rfl) fun H4 e4 => k H4 (((e1.trans e2).trans e3).trans e4)
    · have hc : ¬ a.length < n := by simpa using hb
      have ha : n ≤ a.length := by omega
      have hbl := kin_len h1 oa ob kin ha
      have era : runsP n a = runs n a := if_neg hc
      have erb : runsP n b = runs n b := if_neg (by omega)
      rw [ge, if_neg hc] at k
      have hlo := len_of h1 ha oa
      have hlb := len_of h1 hbl ob
      have hs := sum_mins_le (runs n a) (runs n b)
      refine q_asgL (xs := nts (mins (runs n a) (runs n b))) (el_is (el_compP (runsP n a) (runsP n b) nt nt (fun _ => true) (fun p => nt (min p.1 p.2)) (by have := runsP_le n a; omega)
        (wa_ll (el_call (ea_2 (ev_var rfl) (ev_var rfl)) fun H3 e3 Q q E => ⟨a, n, rfl, oa, by omega, q⟩) (el_call (ea_2 (ev_var rfl) (ev_var rfl)) fun H3 e3 Q q E => ⟨b, n, rfl, ob, by omega, q⟩)) (fun x => rfl)
        fun b i T H2 hb e2 hT => ⟨et_yes, fun _ => ev_is (ev_minT (ev_var rfl) (st_of hT)) (ite_min _ _)⟩) (by rw [filt_true, era, erb, mins, nts, List.map_map]; rfl)) fun r H4 nr e4 hr4 => ?_
      refine s_ret (ev_callW (sp := sp_built_of K) (fun vs H2 => ∃ p q, vs = [tx (a.take n), .ref p, .ref q] ∧ H2 p = some (.lst (nts (steps n a))) ∧ H2 q = some (.lst (nts (mins (runs n a) (runs n b)))))
        (wa_vlv (ev_take (ev_var rfl) eo_none (eo_some (ev_var rfl)) (by omega)) (el_call (ea_2 (ev_var rfl) (ev_var rfl)) fun H3 e3 Q q E => ⟨a, n, rfl, oa, by omega, q⟩) (ev_var rfl) hr4)
        fun vs H2 e2 hp Q E q => ?_) fun H5 e5 => k H5 ((((e1.trans e2).trans e3).trans e4).trans e5)
      obtain ⟨p, r, rfl, hp, hr⟩ := hp
      have hf := take_len h1 ha
      refine ⟨_, p, r, steps n a, mins (runs n a) (runs n b), rfl, sq_of hp, sq_of hr, oa.take n, by omega, by omega, by rw [mins_len (kin_runs h1 oa ob kin ha), runs_len], by omega, ?_⟩
      rw [hf]
      exact q
/-- the sums of what is more, of what is less -/
def posS (g : List Int) : Int := (g.filter fun m => decide (0 < m)).sum
def negS (g : List Int) : Int := ((g.filter fun m => decide (m < 0)).map fun m => 0 - m).sum
def sp_copies_apart : Sp := fun vs H Q _ => ∃ (a b : Tx) (n : Nat), vs = [tx a, tx b, nt n] ∧ Ok a ∧ Ok b ∧ a.length ≤ 60 ∧ b.length ≤ 60 ∧ 1 ≤ n ∧ n ≤ 6 ∧
  (root n a = root n b → GiveU [.int (posS (groP n b a) / (n : Int)), .int (negS (groP n b a) / (n : Int))] H Q) ∧ (¬ root n a = root n b → GiveV .non H Q)
theorem ok_copies_apart (T : TopE K mg) : Has P w K mg base CX0 5 "copies_apart" ["one", "other", "size"] sp_copies_apart := by
  have F1 : Has P w K mg base CX0 4 "growths_of" ["later", "elder", "size"] sp_growths_of := (ok_growths_of T).mono (by decide)
  have F4 : Has P w K mg base CX0 4 "need_two" ["one", "other", "size"] sp_need_two := (ok_need_two T).mono (by decide)
  have F5 : Has P w K mg base CX0 4 "are_kin_of" ["one", "other", "size"] sp_are_kin_of := ok_are_kin_of T
  refine has_of T 22 22 rfl rfl rfl sc_copies_apart (fun _ _ _ _ _ _ us hl => match us, hl with | [_, _, _], _ => rfl) (fun vs H Q E h => ?_) (fun cdv f A outer s H vs Q E hr h => ?_)
  · obtain ⟨a, b, n, rfl, _⟩ := h
    rfl
  · obtain ⟨a, b, n, rfl, oa, ob, la, lb, h1, h6, kY, kN⟩ := h
    refine ⟨_, PSs.nox (pss_cons (ps_expr (pe_h F4 hr pass0 (pa_cons (pv 0) (pa_cons (pv 1) (pa_cons (pv 2) pa_nil)))))
      (pss_cons (ps_if (pt_not (pt_val (pe_h F5 hr pass0 (pa_cons (pv 0) (pa_cons (pv 1) (pa_cons (pv 2) pa_nil)))))) (pss_one (ps_ret pe_non)) pss_nil)
      (pss_cons (ps_set (i := 3) sc_copies_apart.nd rfl (Or.inl rfl) (pe_h F1 hr pass0 (pa_cons (pv 1) (pa_cons (pv 0) (pa_cons (pv 2) pa_nil)))))
      (pss_one (ps_ret (pe_tup (pa_cons (pe_op op_fdiv (pe_callB (cr_sum rfl) (by rfl) T.f_sum (by decide +kernel) (pa_cons (pe_lc (own := [("many", 4)]) (g := gName 4) rfl sc_copies_apart.nd (pi_list (pv 3)) (blkOk_by (N := N_copies_apart) (sc := defScope s_copies_apart) (by decide +kernel))
          (fun _ _ _ _ _ => pg_name (i := 4) sc_copies_apart.nd rfl (Or.inl rfl)) (fun _ _ _ _ _ => pts_one (pt_cmpR op_gt (pv 4) pe_int (nomark _))) (fun _ _ _ _ _ => pv 4)) pa_nil)) (pv 2))
        (pa_cons (pe_op op_fdiv (pe_callB (cr_sum rfl) (by rfl) T.f_sum (by decide +kernel) (pa_cons (pe_lc (own := [("many", 4)]) (g := gName 4) rfl sc_copies_apart.nd (pi_list (pv 3)) (blkOk_by (N := N_copies_apart) (sc := defScope s_copies_apart) (by decide +kernel))
          (fun _ _ _ _ _ => pg_name (i := 4) sc_copies_apart.nd rfl (Or.inl rfl)) (fun _ _ _ _ _ => pts_one (pt_cmpR op_lt (pv 4) pe_int (nomark _))) (fun _ _ _ _ _ => pe_op op_sub pe_int (pv 4))) pa_nil)) (pv 2)) pa_nil)))))))), ?_⟩
    refine q_drop (ev_call (ea_3 (ev_var rfl) (ev_var rfl) (ev_var rfl)) fun H3 e3 Q q E => ⟨a, b, (n : Int), rfl, oa, ob, la, lb, by omega, by omega, q⟩) fun H1 e1 => ?_
    refine q_when (et_not (et_B (ev_call (ea_3 (ev_var rfl) (ev_var rfl) (ev_var rfl)) fun H3 e3 Q q E => ⟨a, b, n, rfl, oa, ob, by omega, by omega, h1, h6, q⟩))) (fun hk H2 e2 => ?_) fun hk H2 e2 => ?_
    · have hk : ¬ root n a = root n b := by simpa using hk
      exact s_ret ev_c fun H3 e3 => kN hk H3 ((e1.trans e2).trans e3)
    have kin : root n a = root n b := by simpa using hk
    have hgl : (groP n b a).length ≤ 200 := by
      unfold groP
      rw [List.length_map, List.length_zip]
      have := runsP_le n b
      omega
    refine q_asgL (el_call (ea_3 (ev_var rfl) (ev_var rfl) (ev_var rfl)) fun H3 e3 Q q E => ⟨b, a, n, rfl, ob, oa, by omega, by omega, q⟩) fun g H3 ng e3 hg => ?_
    refine s_retU (eu_tup (ea_2 (ev_fdiv (ev_sumN (el_is (el_compL (K := K) (groP n b a) V.int (fun m => decide (0 < m)) V.int (by omega) (ev_var rfl) (sq_of hg) (fun x => rfl) fun m i H4 hm e4 => ⟨et_test (ev_gt (ev_var rfl) (ev_c (v := .int 0))), fun _ => ev_var rfl⟩) rfl)) (ev_var rfl) (by omega))
      (ev_fdiv (ev_sumN (el_is (el_compL (K := K) (groP n b a) V.int (fun m => decide (m < 0)) (fun m => V.int (0 - m)) (by omega) (ev_var rfl) (sq_of hg) (fun x => rfl) fun m i H4 hm e4 => ⟨et_test (ev_lt (ev_var rfl) (ev_c (v := .int 0))), fun _ => ev_sub (ev_c (v := .int 0)) (ev_var rfl)⟩) (by rw [List.map_map]; rfl))) (ev_var rfl) (by omega))) (by simp)) fun p H4 np e4 hp => ?_
    exact kY kin p H4 (fresh_back ((e1.trans e2).trans e3) np) (((e1.trans e2).trans e3).trans e4) hp
def sp_stands_between : Sp := fun vs H Q _ => ∃ (t l e : Tx) (n : Nat), vs = [tx t, tx l, tx e, nt n] ∧ Ok t ∧ Ok l ∧ Ok e ∧ t.length ≤ 60 ∧ l.length ≤ 60 ∧ e.length ≤ 60 ∧ 1 ≤ n ∧ n ≤ 6 ∧ GiveV (.bl (dcB n t e && dcB n l t)) H Q
theorem ok_stands_between (T : TopE K mg) : Has P w K mg base CX0 6 "stands_between" ["text", "later", "elder", "size"] sp_stands_between := by
  have F1 : Has P w K mg base CX0 5 "need_text" ["text"] sp_need_text := (ok_need_text T).mono (by decide)
  have F2 : Has P w K mg base CX0 5 "need_two" ["one", "other", "size"] sp_need_two := (ok_need_two T).mono (by decide)
  have F3 : Has P w K mg base CX0 5 "does_come" ["later", "elder", "size"] sp_does_come := ok_does_come T
  refine has_of T 23 23 rfl rfl rfl sc_stands_between (fun _ _ _ _ _ _ us hl => match us, hl with | [_, _, _, _], _ => rfl) (fun vs H Q E h => ?_) (fun cdv f A outer s H vs Q E hr h => ?_)
  · obtain ⟨t, l, e, n, rfl, _⟩ := h
    rfl
  · obtain ⟨t, l, e, n, rfl, ot, ol, oe, lt, lL, le, h1, h6, k⟩ := h
    refine ⟨_, PSs.nox (pss_cons (ps_expr (pe_h F1 hr pass0 (pa_cons (pv 0) pa_nil))) (pss_cons (ps_expr (pe_h F2 hr pass0 (pa_cons (pv 1) (pa_cons (pv 2) (pa_cons (pv 3) pa_nil)))))
      (pss_one (ps_ret (pe_and (pe_h F3 hr pass0 (pa_cons (pv 0) (pa_cons (pv 2) (pa_cons (pv 3) pa_nil)))) (pe_one (pe_h F3 hr pass0 (pa_cons (pv 1) (pa_cons (pv 0) (pa_cons (pv 3) pa_nil)))))))))), ?_⟩
    refine q_drop (ev_call (ea_1 (ev_var rfl)) fun H3 e3 Q q E => ⟨t, rfl, ot, lt, q⟩) fun H1 e1 => ?_
    refine q_drop (ev_call (ea_3 (ev_var rfl) (ev_var rfl) (ev_var rfl)) fun H3 e3 Q q E => ⟨l, e, (n : Int), rfl, ol, oe, lL, le, by omega, by omega, q⟩) fun H2 e2 => ?_
    exact s_ret (ev_andV (ev_call (ea_3 (ev_var rfl) (ev_var rfl) (ev_var rfl)) fun H3 e3 Q q E => ⟨t, e, n, rfl, ot, oe, by omega, by omega, h1, q⟩) fun _ => ev_call (ea_3 (ev_var rfl) (ev_var rfl) (ev_var rfl)) fun H3 e3 Q q E => ⟨l, t, n, rfl, ol, ot, by omega, by omega, h1, q⟩)
      fun H3 e3 => k H3 ((e1.trans e2).trans e3)
end
end K7

set_option Elab.async false
set_option linter.all false
set_option maxRecDepth 100000
set_option maxHeartbeats 2000000
/-! _law_mixed, _law_is_twice, the drawing. -/
namespace K7
open PySem PySem.Spec PyProof.Rows L2 Evl
section
variable {K : PySem.W.Frag} {σ : L2.St} {H H' : Hp} {ta tb te tx' tl th : TE} {x y z v : V}
abbrev rInt1 : List V → Hp → VK → Prop := fun xs H Q => (∃ i, xs = [.int i] ∧ Q (.int i) H) ∨ ∃ k, xs = [.bl k] ∧ Q (.int (if k then 1 else 0)) H
theorem ev_int {i : Int} (h : Ev te σ H (.int i)) : Ev (tCB rInt1 (tCons te tNil)) σ H (.int i) := fun H1 e Q q =>
  h H1 e _ fun H2 e2 => .inl ⟨i, rfl, q H2 e2⟩
end
section
variable {P : Program} {w : World} {K : PySem.W.Frag} {mg : Str → Option Value} {base : Heap}
def sp_is_twice : Sp := fun vs H Q _ => ∃ (l : Tx) (n p : Nat), vs = [tx l, nt n, nt p] ∧ l.length ≤ 1000 ∧ GiveV (.bl (twice n p l)) H Q
theorem ok_is_twice (T : TopE K mg) : Has P w K mg base CX0 1 "_law_is_twice" ["_law_text", "_law_wide", "_law_at"] sp_is_twice := by
  refine has_of T 31 31 rfl rfl rfl sc_l_is_twice (fun _ _ _ _ _ _ us hl => match us, hl with | [_, _, _], _ => rfl) (fun vs H Q E h => ?_) (fun cdv f A outer s H vs Q E hr h => ?_)
  · obtain ⟨l, n, p, rfl, _⟩ := h
    rfl
  · obtain ⟨l, n, p, rfl, hl, k⟩ := h
    refine ⟨_, PSs.nox (pss_one (ps_ret (pe_and (pe_cmpR op_le (pe_op op_add (pv 2) (pe_op op_mul pe_int (pv 1))) (pe_callB call_len_str (by rfl) T.f_len PySem.boot_len (pa_cons (pv 0) pa_nil)) (nomark _))
      (pe_one (pe_cmpR op_eq (pe_slice sl_str (pv 0) (po_some (pv 2)) (po_some (pe_op op_add (pv 2) (pv 1)))) (pe_slice sl_str (pv 0) (po_some (pe_op op_add (pv 2) (pv 1))) (po_some (pe_op op_add (pv 2) (pe_op op_mul pe_int (pv 1))))) (nomark _)))))), ?_⟩
    have c1 : ∀ a b : Nat, (a : Int) + (b : Int) = ((a + b : Nat) : Int) := fun a b => by omega
    have c2 : (p : Int) + (2 : Int) * (n : Int) = ((p + 2 * n : Nat) : Int) := by omega
    have e2 : ∀ H1, Ev (tOp (rI0 fun i j => .int (i + j)) (tVar 2) (tOp (rI CMul fun i j => .int (i * j)) (tC (.int 2)) (tVar 1))) (L2.start N_l_is_twice [tx l, nt n, nt p]) H1 (nt (p + 2 * n)) := fun H1 =>
      ev_is (ev_add (ev_var rfl) (ev_mul (ev_c (v := .int 2)) (ev_var rfl) (.inl (by decide)))) (by rw [c2])
    have e1 : ∀ H1, Ev (tOp (rI0 fun i j => .int (i + j)) (tVar 2) (tVar 1)) (L2.start N_l_is_twice [tx l, nt n, nt p]) H1 (nt (p + n)) := fun H1 =>
      ev_is (ev_add (ev_var rfl) (ev_var rfl)) (by rw [c1])
    refine s_ret (ev_is (ev_andV (a := decide (((p + 2 * n : Nat) : Int) ≤ ((l.length : Nat) : Int))) (b := decide ((l.drop p).take (p + n - p) = (l.drop (p + n)).take (p + 2 * n - (p + n)))) (ev_le (e2 H) (ev_lenT (ev_var rfl) (by omega)))
      fun _ => ev_eqT (ev_mid (ev_var rfl) (eo_some (ev_var rfl)) (eo_some (e1 H)) (by omega)) (ev_mid (ev_var rfl) (eo_some (e1 H)) (eo_some (e2 H)) (by omega))) ?_) k
    unfold twice
    rw [show p + n - p = n by omega, show p + 2 * n - (p + n) = n by omega]
    congr 2
    exact decide_eq_decide.mpr (by omega)
/-! ### the drawing -/
def sp_mixed : Sp := fun vs H Q _ => ∃ (c : Int) (n : Nat), vs = [.int c, nt n] ∧ n ≤ 100000 ∧ ∀ r : Int, 0 ≤ r → r < 400000000 → GiveV (.int r) H Q
theorem ok_mixed (T : TopE K mg) : Has P w K mg base CX0 1 "_law_mixed" ["_law_cell", "_law_n"] sp_mixed := by
  refine has_of T 24 24 rfl rfl rfl sc_l_mixed (fun _ _ _ _ _ _ us hl => match us, hl with | [_, _], _ => rfl) (fun vs H Q E h => ?_) (fun cdv f A outer s H vs Q E hr h => ?_)
  · obtain ⟨c, n, rfl, _⟩ := h
    rfl
  · obtain ⟨c, n, rfl, hn, k⟩ := h
    refine ⟨_, PSs.nox (pss_cons (ps_set (i := 2) sc_l_mixed.nd rfl (Or.inl rfl) (pe_op op_add (pe_op op_add (pe_op op_mod (pe_callTy call_int1 (by rfl) T.f_int PyProof.Rows.boot_int (pa_cons (pe_op op_mul (pe_op op_mul (pv 0) (pe_op op_add pe_int (pe_op op_mul pe_int (pv 1)))) pe_int) pa_nil)) pe_int)
        (pe_op op_mul (pe_op op_mul pe_int (pv 1)) (pv 1))) (pe_op op_mul pe_int (pv 1))))
      (pss_one (ps_ret (pe_op op_fdiv (pe_op op_mod (pe_callTy call_int1 (by rfl) T.f_int PyProof.Rows.boot_int (pa_cons (pe_op op_mul (pv 2) pe_int) pa_nil)) pe_int) pe_int)))), ?_⟩
    refine q_asg (ev_add (ev_add (ev_mod (ev_int (ev_mul (ev_mul (ev_var rfl) (ev_add (ev_c (v := .int 1)) (ev_mul (ev_c (v := .int 2)) (ev_var rfl) (.inl (by decide)))) (.inr (by constructor <;> omega))) (ev_c (v := .int 48271)) (.inr (by decide)))) (ev_c (v := .int 2147483647)) (by decide))
      (ev_mul (ev_mul (ev_c (v := .int 7919)) (ev_var rfl) (.inl (by decide))) (ev_var rfl) (.inr (by constructor <;> omega)))) (ev_mul (ev_c (v := .int 104729)) (ev_var rfl) (.inl (by decide)))) fun H1 e1 => ?_
    refine s_ret (ev_fdiv (ev_mod (ev_int (ev_mul (ev_var rfl) (ev_c (v := .int 69621)) (.inr (by decide)))) (ev_c (v := .int 2147483629)) (by decide)) (ev_c (v := .int 7)) (by decide)) fun H2 e2 => ?_
    refine k _ ?_ ?_ H2 (e1.trans e2)
    · refine Int.ediv_nonneg (Int.emod_nonneg _ (by decide)) (by decide)
    · have h1 := Int.emod_lt_of_pos (((c * (1 + 2 * (n : Int)) * 48271) % 2147483647 + 7919 * (n : Int) * (n : Int) + 104729 * (n : Int)) * 69621) (show (0 : Int) < 2147483629 by decide)
      omega
end
end K7

set_option Elab.async false
set_option linter.all false
set_option maxRecDepth 100000
set_option maxHeartbeats 2000000
/-! The drawing. -/
namespace K7
open PySem PySem.Spec PyProof.Rows L2 Evl
abbrev kS (z : Str) : Key := Sum.inr z
abbrev kvM (C G : Addr) (n : Nat) : List (Key × V) := [(kS "cells", .ref C), (kS "great", .ref G), (kS "spot", nt n)]
theorem kv_cells (C G : Addr) (n : Nat) : valV (kvM C G n) (kS "cells") = some (.ref C) := valV_pos rfl
theorem kv_great (C G : Addr) (n : Nat) : valV (kvM C G n) (kS "great") = some (.ref G) := (valV_neg (show ¬ kS "cells" = kS "great" by decide)).trans (valV_pos rfl)
theorem kv_spot (C G : Addr) (n : Nat) : valV (kvM C G n) (kS "spot") = some (nt n) := (valV_neg (show ¬ kS "cells" = kS "spot" by decide)).trans ((valV_neg (show ¬ kS "great" = kS "spot" by decide)).trans (valV_pos rfl))
theorem kv_put (C G : Addr) (n m : Nat) : putK (kvM C G n) (kS "spot") (nt m) = kvM C G m := by
  have h1 : ¬ kS "cells" = kS "spot" := by decide
  have h2 : ¬ kS "great" = kS "spot" := by decide
  unfold putK
  rw [if_pos (by simp)]
  simp [h1, h2]
structure Dr (M C G : Addr) (n : Nat) (H : Hp) : Prop where
  m : H M = some (.dK (kvM C G n))
  c : ∃ cs : List Int, cs.length = 64 ∧ (∀ c ∈ cs, 0 ≤ c ∧ c < 2147483647) ∧ H C = some (.lst (cs.map V.int))
  g : ∃ gs : List Int, (∀ c ∈ gs, 0 ≤ c) ∧ H G = some (.lst (gs.map V.int))
  ne : C ≠ G
def Fr (M G : Addr) (H H' : Hp) : Prop := ∀ a o, a ≠ M → a ≠ G → H a = some o → H' a = some o
theorem Fr.refl {M G : Addr} (H : Hp) : Fr M G H H := fun _ _ _ _ h => h
theorem Fr.trans {M G : Addr} {H H1 H2 : Hp} (a : Fr M G H H1) (b : Fr M G H1 H2) : Fr M G H H2 := fun x o n1 n2 h => b x o n1 n2 (a x o n1 n2 h)
theorem Fr.ex {M G : Addr} {H H' : Hp} (e : Ex H H') : Fr M G H H' := fun x o _ _ h => e x o h
theorem Fr.m {M G : Addr} {H : Hp} {o : HO} : Fr M G H (upd H M o) := fun x u n1 _ h => by rw [upd_ne n1]; exact h
theorem Fr.g {M G : Addr} {H : Hp} {o : HO} : Fr M G H (upd H G o) := fun x u _ n2 h => by rw [upd_ne n2]; exact h
theorem Dr.ex {M C G : Addr} {n : Nat} {H H' : Hp} (d : Dr M C G n H) (e : Ex H H') : Dr M C G n H' := by
  obtain ⟨m, ⟨cs, c1, c2, c3⟩, ⟨gs, g1, g2⟩, ne⟩ := d
  exact ⟨e _ _ m, ⟨cs, c1, c2, e _ _ c3⟩, ⟨gs, g1, e _ _ g2⟩, ne⟩
/-- an object that is not the drawing's is written anew -/
theorem Dr.upd {M C G D : Addr} {n : Nat} {H : Hp} {o : HO} (d : Dr M C G n H) (h1 : D ≠ M) (h2 : D ≠ C) (h3 : D ≠ G) : Dr M C G n (upd H D o) := by
  obtain ⟨m, ⟨cs, c1, c2, c3⟩, ⟨gs, g1, g2⟩, ne⟩ := d
  exact ⟨by rw [upd_ne h1.symm]; exact m, ⟨cs, c1, c2, by rw [upd_ne h2.symm]; exact c3⟩, ⟨gs, g1, by rw [upd_ne h3.symm]; exact g2⟩, ne⟩
theorem Dr.new {M C G D : Addr} {n : Nat} {H : Hp} (d : Dr M C G n H) (h : H D = none) : D ≠ M ∧ D ≠ C ∧ D ≠ G := by
  obtain ⟨m, ⟨cs, c1, c2, c3⟩, ⟨gs, g1, g2⟩, ne⟩ := d
  refine ⟨fun e => ?_, fun e => ?_, fun e => ?_⟩
  · rw [e, m] at h; cases h
  · rw [e, c3] at h; cases h
  · rw [e, g2] at h; cases h
section
variable {K : PySem.W.Frag} {σ : L2.St} {H H' : Hp} {ta tb te : TE} {x y z v : V} {D : Ends} {tz : TS}
theorem ev_dget {a : Addr} {kvs : List (Key × V)} {k : Key} (ha : Ev ta σ H (.ref a)) (hk : Ev tb σ H (kV k)) (h : H a = some (.dK kvs)) (hv : valV kvs k = some v) : Ev (tDGet ta tb) σ H v := fun H1 e Q q =>
  ha H1 e _ fun H2 e2 => hk H2 (e.trans e2) _ fun H3 e3 => ⟨a, v, rfl, by rw [← hv]; exact DGet.k (((e.trans e2).trans e3) _ _ h), q H3 (e2.trans e3)⟩
theorem s_dput {a : Addr} {kvs : List (Key × V)} {k : Key} (hv : Ev te σ H v) (ha : Ev ta σ H (.ref a)) (hk : Ev tb σ H (kV k)) (h : H a = some (.dK kvs)) (hl : kvs.length < sizeLine) (c : ∀ H1, Ex H H1 → D.nx σ (upd H1 a (.dK (putK kvs k v)))) : sDPut ta tb te D σ H :=
  hv H (Ex.refl H) _ fun H1 e1 => ha H1 e1 _ fun H2 e2 => hk H2 (e1.trans e2) _ fun H3 e3 => ⟨a, _, rfl, DPut.k (((e1.trans e2).trans e3) _ _ h) hl, c H3 ((e1.trans e2).trans e3)⟩
theorem q_dput {a : Addr} {kvs : List (Key × V)} {k : Key} (hv : Ev te σ H v) (ha : Ev ta σ H (.ref a)) (hk : Ev tb σ H (kV k)) (h : H a = some (.dK kvs)) (hl : kvs.length < sizeLine) (c : ∀ H1, Ex H H1 → tz D σ (upd H1 a (.dK (putK kvs k v)))) : tSeq (sDPut ta tb te) tz D σ H :=
  s_dput (D := { D with nx := tz D }) hv ha hk h hl c
/-- a reading whose value is known by a property -/
def EvR (te : TE) (σ : L2.St) (H : Hp) (p : V → Prop) : Prop := ∀ H1, Ex H H1 → ∀ Q : VK, (∀ v H2, p v → Ex H1 H2 → Q v H2) → te σ H1 Q
theorem er_callR {sp : Sp} {E : XK} {p q : V → Prop} (ha : EvR ta σ H p) (hb : Ev tb σ H y) (hs : ∀ x H1, p x → Ex H H1 → ∀ (Q : VK) (E : XK), (∀ v, q v → GiveV v H1 Q) → sp [x, y] H1 Q E) : EvR (tCall sp [] E (tCons ta (tCons tb tNil))) σ H q := fun H1 e Q k =>
  ha H1 e _ fun x H2 px e2 => hb H2 (e.trans e2) _ fun H3 e3 => hs x H3 px ((e.trans e2).trans e3) Q E fun v qv H4 e4 => k v H4 qv ((e2.trans e3).trans e4)
theorem er_of (h : Ev te σ H v) : EvR te σ H (fun x => x = v) := fun H1 e Q k => h H1 e Q fun H2 e2 => k v H2 rfl e2
theorem er_modInt {p : V → Prop} {j : Int} (ha : EvR ta σ H p) (hp : ∀ v, p v → ∃ i, v = .int i) (hb : Ev tb σ H (.int j)) (hj : 0 < j) : EvR (tOp (rI (fun _ j => 0 < j) fun i j => .int (i % j)) (tCB rInt1 (tCons ta tNil)) tb) σ H (fun v => ∃ i, p (.int i) ∧ v = .int (i % j)) := fun H1 e Q k =>
  ha H1 e _ fun x H2 px e2 => by
    obtain ⟨i, rfl⟩ := hp x px
    exact .inl ⟨i, rfl, hb H2 (e.trans e2) _ fun H3 e3 => ⟨i, j, rfl, rfl, hj, k _ H3 ⟨i, px, rfl⟩ (e2.trans e3)⟩⟩
theorem s_retR {p : V → Prop} (h : EvR te σ H p) (k : ∀ v H1, p v → Ex H H1 → D.rt v H1) : tRet te D σ H := h H (Ex.refl H) _ k
def dI (n : Int) : PyData := .int n
theorem eqv_dI (a b : Int) : PyData.eqv (dI a) (dI b) = true ↔ a = b := by
  unfold dI
  rw [PyData.eqv]
  simp only [beq_iff_eq]
theorem dp_ints : ∀ l : List Int, DpAll K H (l.map V.int) (l.map dI)
  | [] => .nil
  | a :: l => .cons (.int _) (dp_ints l)
theorem shaped_ints (l : List Int) : SeqAt.shaped (.list (l.map dI)) = true := shaped_flat dI (fun a => by simp [dI, PyData.depth]) l fun a _ => by simp [dI, PyData.canLay0]
theorem rv_neI {a b : Addr} {l m : List Int} (ha : SqL K H a (l.map V.int)) (hb : SqL K H b (m.map V.int)) : RV (rNeD K) (.ref a) (.ref b) H (.bl (!decide (l = m))) := fun H1 e Q q =>
  ⟨_, _, .lst (ex_l e ha) (dp_ints l), .lst (ex_l e hb) (dp_ints m), shaped_ints l, shaped_ints m, by
    rw [bool_dec (eqv_list dI eqv_dI l m)]
    exact q H1 (Ex.refl H1)⟩
theorem ev_neNilI {a : Addr} {l : List Int} (ha : Ev ta σ H (.ref a)) (h : SqL K H a (l.map V.int)) : Ev (tOp (rNeD K) ta (tLst tNil)) σ H (.bl (!decide (l = []))) := ev_opL (xs := ([] : List Int).map V.int) ha (el_nil rfl) fun _ _ h1 e => rv_neI (ex_l e h) (sq_of h1)
end
section
variable {P : Program} {w : World} {K : PySem.W.Frag} {mg : Str → Option Value} {base : Heap}
def sp_draw : Sp := fun vs H Q _ => ∃ (M C G : Addr) (n L : Nat), vs = [.ref M, nt L] ∧ Dr M C G n H ∧ n ≤ 10000 ∧ 1 ≤ L ∧ L ≤ 100 ∧ ∀ r H', r < L → Fr M G H H' → Dr M C G (n + 1) H' → Q (nt r) H'
theorem get_int {l : List Int} {i : Nat} (h : i < l.length) : (l.map V.int)[i]? = some (.int l[i]) := by
  rw [List.getElem?_map, List.getElem?_eq_getElem h] <;> rfl
theorem ok_draw (T : TopE K mg) : Has P w K mg base CX0 2 "_law_draw" ["_law_m", "_law_limit"] sp_draw := by
  have F1 : Has P w K mg base CX0 1 "_law_mixed" ["_law_cell", "_law_n"] sp_mixed := ok_mixed T
  refine has_of T 26 26 rfl rfl rfl sc_l_draw (fun _ _ _ _ _ _ us hl => match us, hl with | [_, _], _ => rfl) (fun vs H Q E h => ?_) (fun cdv f A outer s H vs Q E hr h => ?_)
  · obtain ⟨M, C, G, n, L, rfl, _⟩ := h
    rfl
  · obtain ⟨M, C, G, n, L, rfl, ⟨hM, ⟨cs, c1, c2, hC⟩, ⟨gs, g1, hG⟩, ne⟩, hn, hL, hL2, k⟩ := h
    have hu := hu_of hr
    refine ⟨_, PSs.nox (pss_cons (ps_set (i := 2) sc_l_draw.nd rfl (Or.inl rfl) (pe_dget hu (pv 0) pe_str (fun _ _ => rfl)))
      (pss_cons (ps_dput hu (pv 0) pe_str (pe_op op_add (pv 2) pe_int) rfl)
      (pss_cut (ps_if (pt_cmpR (op_neD hr.units) (pe_dget hu (pv 0) pe_str (fun _ _ => rfl)) (pe_lst pa_nil) (nomark _))
        (pss_cons (ps_set (i := 3) sc_l_draw.nd rfl (Or.inl rfl) (pe_dget hu (pv 0) pe_str (fun _ _ => rfl)))
        (pss_cons (ps_set (i := 4) sc_l_draw.nd rfl (Or.inl rfl) (pe_op op_mod (pe_callTy call_int1 (by rfl) T.f_int PyProof.Rows.boot_int (pa_cons (pv 2) pa_nil)) (pe_callB call_len_seq (by rfl) T.f_len PySem.boot_len (pa_cons (pv 3) pa_nil))))
        (pss_cons (ps_set (i := 5) sc_l_draw.nd rfl (Or.inl rfl) (pe_ix ix_list (pv 3) (pv 4) (fun _ _ => rfl)))
        (pss_one (ps_if (pt_cmpR op_gt (pv 5) pe_int (nomark _))
          (pss_cons (ps_asg (pe_op op_fdiv (pv 5) (pv 1)) (pg_sub (pv 3) (pv 4) set_list))
          (pss_one (ps_ret (pe_op op_mod (pe_callTy call_int1 (by rfl) T.f_int PyProof.Rows.boot_int (pa_cons (pv 5) pa_nil)) (pv 1))))) pss_nil))))) pss_nil)
      (pss_cons (ps_set (i := 3) sc_l_draw.nd rfl (Or.inl rfl) (pe_dget hu (pv 0) pe_str (fun _ _ => rfl)))
      (pss_one (ps_ret (pe_op op_mod (pe_callTy call_int1 (by rfl) T.f_int PyProof.Rows.boot_int (pa_cons (pe_h F1 hr pass0 (pa_cons
        (pe_h F1 hr pass0 (pa_cons (pe_op op_add (pe_ix ix_list (pv 3) (pe_op op_mod (pe_callTy call_int1 (by rfl) T.f_int PyProof.Rows.boot_int (pa_cons (pv 2) pa_nil)) pe_int) (fun _ _ => rfl)) (pe_op op_mul pe_int (pe_op op_fdiv (pv 2) pe_int))) (pa_cons (pv 2) pa_nil)))
        (pa_cons (pe_op op_add (pv 2) pe_int) pa_nil))) pa_nil)) (pv 1)))))))), ?_⟩
    refine q_asg (ev_dget (k := kS "spot") (ev_var rfl) ev_c hM (kv_spot C G n)) fun H1 e1 => ?_
    have nMC : C ≠ M := ne_of hC hM (by intro z; cases z)
    have nMG : G ≠ M := ne_of hG hM (by intro z; cases z)
    refine q_dput (k := kS "spot") (ev_add (ev_var rfl) (ev_c (v := .int 1))) (ev_var rfl) ev_c (e1 _ _ hM) (show 3 < sizeLine by decide) fun H2 e2 => ?_
    rw [show V.int ((n : Int) + 1) = nt (n + 1) from rfl, kv_put]
    generalize hH3 : upd H2 M (.dK (kvM C G (n + 1))) = H3
    have hM3 : H3 M = some (.dK (kvM C G (n + 1))) := by rw [← hH3]; exact upd_same
    have hC3 : H3 C = some (.lst (cs.map V.int)) := by rw [← hH3, upd_ne nMC]; exact e2 _ _ (e1 _ _ hC)
    have hG3 : H3 G = some (.lst (gs.map V.int)) := by rw [← hH3, upd_ne nMG]; exact e2 _ _ (e1 _ _ hG)
    have f3 : Fr M G H H3 := ((Fr.ex (e1.trans e2)).trans (by rw [← hH3]; exact Fr.m))
    refine q_cut (M := fun σ' H' => (∃ y3 y4 y5, σ' = [some (.ref M), some (nt L), some (nt n), y3, y4, y5]) ∧ Ex H3 H') (s_when (et_test (ev_neNilI (K := K) (ev_dget (k := kS "great") (ev_var rfl) ev_c hM3 (kv_great C G (n + 1))) (sq_of hG3))) (fun hb H4 e4 => ?_) fun hb H4 e4 => ⟨⟨_, _, _, rfl⟩, e4⟩) fun σ' H4 h4 => ?_
    · have hne : gs ≠ [] := by simpa using hb
      have hlen : 0 < gs.length := List.length_pos_iff.mpr hne
      refine q_asg (ev_dget (k := kS "great") (ev_var rfl) ev_c (e4 _ _ hM3) (kv_great C G (n + 1))) fun H5 e5 => ?_
      have hG5 := e5 _ _ (e4 _ _ hG3)
      refine q_asg (v := nt (n % gs.length)) (ev_is (ev_mod (ev_int (ev_var rfl)) (ev_lenL (K := K) (ev_var rfl) (sq_of hG5)) (by rw [List.length_map]; omega)) (by rw [List.length_map]; rfl)) fun H6 e6 => ?_
      have hlt : n % gs.length < gs.length := Nat.mod_lt _ hlen
      refine q_asg (v := .int gs[n % gs.length]) (ev_op (ev_var rfl) (ev_var rfl) (rv_ixL (K := K) (sq_of (e6 _ _ hG5)) (atI_nat (get_int hlt)))) fun H7 e7 => ?_
      refine s_when (et_test (ev_gt (ev_var rfl) (ev_c (v := .int 0)))) (fun hb2 H8 e8 => ?_) fun hb2 H8 e8 => ⟨⟨_, _, _, rfl⟩, (((e4.trans e5).trans e6).trans e7).trans e8⟩
      · have hG8 := (e7.trans e8) _ _ (e6 _ _ hG5)
        have e38 := (((e4.trans e5).trans e6).trans e7).trans e8
        refine q_setL hG8 (ev_fdiv (ev_var rfl) (ev_var rfl) (by omega)) (ev_var rfl) (ev_var rfl) (by rw [List.length_map]; exact hlt) fun H9 e9 => ?_
        refine s_ret (v := nt (gs[n % gs.length] % (L : Int)).toNat) (ev_is (ev_mod (ev_int (ev_var rfl)) (ev_var rfl) (by omega)) ?_) fun H10 e10 => ?_
        · have := Int.emod_nonneg gs[n % gs.length] (show (L : Int) ≠ 0 by omega)
          congr 1
          omega
        · have e39 := e38.trans e9
          refine k _ _ ?_ ((f3.trans (Fr.ex e39)).trans (Fr.g.trans (Fr.ex e10))) ?_
          · have := Int.emod_lt_of_pos gs[n % gs.length] (show (0 : Int) < L by omega)
            omega
          · refine Dr.ex ⟨?_, ⟨cs, c1, c2, ?_⟩, ⟨gs.set (n % gs.length) (gs[n % gs.length] / (L : Int)), ?_, ?_⟩, ne⟩ e10
            · rw [upd_ne nMG.symm]; exact e39 _ _ hM3
            · rw [upd_ne ne]; exact e39 _ _ hC3
            · intro c hc
              rcases List.mem_or_eq_of_mem_set hc with h | h
              · exact g1 c h
              · rw [h]
                exact Int.ediv_nonneg (g1 _ (List.getElem_mem hlt)) (by omega)
            · rw [upd_same, ← List.map_set]
    · obtain ⟨⟨y3, y4, y5, rfl⟩, e4⟩ := h4
      refine q_asg (ev_dget (k := kS "cells") (ev_var rfl) ev_c (e4 _ _ hM3) (kv_cells C G (n + 1))) fun H5 e5 => ?_
      have e35 := e4.trans e5
      have hlt : n % 64 < cs.length := by omega
      have h6 : ∀ H, Ev (tOp (rI (fun _ j => 0 < j) fun i j => .int (i % j)) (tCB rInt1 (tCons (tVar 2) tNil)) (tC (.int 64))) [some (.ref M), some (nt L), some (nt n), some (.ref C), y4, y5] H (nt (n % 64)) := fun H =>
        ev_is (ev_mod (ev_int (ev_var rfl)) (ev_c (v := .int 64)) (by decide)) rfl
      have hC5 := e35 _ _ hC3
      have isI : ∀ v : V, (∃ r : Int, (0 ≤ r ∧ r < 400000000) ∧ v = .int r) → ∃ i, v = .int i := fun v h => ⟨h.choose, h.choose_spec.2⟩
      refine s_retR (er_modInt (p := fun v => ∃ r : Int, (0 ≤ r ∧ r < 400000000) ∧ v = .int r) (j := (L : Int)) (er_callR (p := fun v => ∃ r : Int, (0 ≤ r ∧ r < 400000000) ∧ v = .int r) (er_callR (p := fun v => v = .int (cs[n % 64] + 31 * ((n : Int) / 64)))
        (er_of (ev_add (ev_op (ev_var rfl) (h6 H5) (rv_ixL (K := K) (sq_of hC5) (atI_nat (get_int hlt)))) (ev_mul (ev_c (v := .int 31)) (ev_fdiv (ev_var rfl) (ev_c (v := .int 64)) (by decide)) (.inl (by decide))))) (ev_var rfl)
          fun x H6 hx e6 Q E q => ?_) (ev_add (ev_var rfl) (ev_c (v := .int 7))) fun x H6 hx e6 Q E q => ?_) isI (ev_var rfl) (by omega)) fun v H6 hv e6 => ?_
      · rw [hx]
        exact ⟨_, n, rfl, by omega, fun r h0 h1 => q _ ⟨r, ⟨h0, h1⟩, rfl⟩⟩
      · obtain ⟨r, hr, rfl⟩ := hx
        exact ⟨r, n + 7, rfl, by omega, fun r h0 h1 => q _ ⟨r, ⟨h0, h1⟩, rfl⟩⟩
      · obtain ⟨i, ⟨r, hr, hi⟩, rfl⟩ := hv
        have n1 := Int.emod_nonneg i (show (L : Int) ≠ 0 by omega)
        have n2 := Int.emod_lt_of_pos i (show (0 : Int) < L by omega)
        have e : V.int (i % (L : Int)) = nt (i % (L : Int)).toNat := by
          congr 1
          omega
        rw [e]
        refine k _ _ (by omega) (f3.trans (Fr.ex (e35.trans e6))) ?_
        exact Dr.ex ⟨hM3, ⟨cs, c1, c2, hC3⟩, ⟨gs, g1, hG3⟩, ne⟩ (e35.trans e6)
end
end K7

set_option Elab.async false
set_option linter.all false
set_option maxRecDepth 100000
set_option maxHeartbeats 2000000
/-! _law_folded, _law_begun. -/
namespace K7
open PySem PySem.Spec PyProof.Rows L2 Evl
def Cel (cs : List Int) : Prop := cs.length = 64 ∧ ∀ c ∈ cs, 0 ≤ c ∧ c < 2147483647
theorem Cel.set {cs : List Int} (h : Cel cs) (i : Nat) (x : Int) : Cel (cs.set i (x % 2147483647)) := by
  refine ⟨by rw [List.length_set]; exact h.1, fun c hc => ?_⟩
  rcases List.mem_or_eq_of_mem_set hc with q | q
  · exact h.2 c q
  · rw [q]
    exact ⟨Int.emod_nonneg _ (by decide), Int.emod_lt_of_pos _ (by decide)⟩
section
variable {P : Program} {w : World} {K : PySem.W.Frag} {mg : Str → Option Value} {base : Heap}
def sp_folded (K : PySem.W.Frag) : Sp := fun vs H Q _ => ∃ (S : Addr) (ns : List Int), vs = [.ref S] ∧ SqL K H S (ns.map V.int) ∧ ∀ cs, Cel cs → GiveL (cs.map V.int) H Q
theorem ok_folded (T : TopE K mg) : Has P w K mg base CX0 1 "_law_folded" ["_law_script"] (sp_folded K) := by
  refine has_of T 25 25 rfl rfl rfl sc_l_folded (fun _ _ _ _ _ _ us hl => match us, hl with | [_], _ => rfl) (fun vs H Q E h => ?_) (fun cdv f A outer s H vs Q E hr h => ?_)
  · obtain ⟨S, ns, rfl, _⟩ := h
    rfl
  · obtain ⟨S, ns, rfl, hS, k⟩ := h
    refine ⟨_, PSs.nox (pss_cons (ps_setLc (i := 2) (own := [("_law_n", 1)]) (g := gName 1) (tt := tYes) rfl sc_l_folded.nd rfl rfl (sw_true rfl rfl rfl (by decide +kernel)) (pi_range1 (by rfl) T.f_range (pa_cons pe_int pa_nil))
        (blkOk_by (N := N_l_folded) (sc := defScope s_l_folded) (by decide +kernel)) (fun _ _ _ _ _ => pg_name (i := 1) sc_l_folded.nd rfl (Or.inl rfl)) (fun _ _ _ _ _ => pts_nil) (fun _ _ _ _ _ => pe_op op_add pe_int (pv 1)))
      (pss_cons (ps_for PassesOwn.never rfl (pi_enum (by rfl) T.f_enumerate (pa_cons (pv 0) pa_nil)) (pg_tup rfl (pgs_cons (pg_name (i := 1) sc_l_folded.nd rfl (Or.inl rfl)) (pgs_cons (pg_name (i := 3) sc_l_folded.nd rfl (Or.inl rfl)) pgs_nil)))
        (pss_one (ps_asg (pe_op op_mod (pe_callTy call_int1 (by rfl) T.f_int PyProof.Rows.boot_int (pa_cons (pe_op op_add (pe_op op_mul (pe_ix ix_list (pv 2) (pe_op op_mod (pe_callTy call_int1 (by rfl) T.f_int PyProof.Rows.boot_int (pa_cons (pv 1) pa_nil)) pe_int) (fun _ _ => rfl)) pe_int) (pv 3)) pa_nil)) pe_int)
          (pg_sub (pv 2) (pe_op op_mod (pe_callTy call_int1 (by rfl) T.f_int PyProof.Rows.boot_int (pa_cons (pv 1) pa_nil)) pe_int) set_list))))
      (pss_cons (ps_for PassesOwn.never rfl (pi_range2 (by rfl) T.f_range (pa_cons pe_int (pa_cons pe_int pa_nil))) (pg_name (i := 1) sc_l_folded.nd rfl (Or.inl rfl))
        (pss_one (ps_asg (pe_op op_mod (pe_callTy call_int1 (by rfl) T.f_int PyProof.Rows.boot_int (pa_cons (pe_op op_add (pe_ix ix_list (pv 2) (pv 1) (fun _ _ => rfl)) (pe_op op_mul (pe_ix ix_list (pv 2) (pe_op op_sub (pv 1) pe_int) (fun _ _ => rfl)) pe_int)) pa_nil)) pe_int)
          (pg_sub (pv 2) (pv 1) set_list))))
      (pss_one (ps_ret (pv 2)))))), ?_⟩
    refine q_asgL (xs := (List.map (fun n : Nat => 17 + (n : Int)) (List.range 64)).map V.int) (el_is (el_compR (n := 64) (fun _ => true) (fun n : Nat => .int (17 + (n : Int))) (by decide) (ea_1 (ev_c (v := .int 64))) (fun x => rfl)
      fun b H1 hb e => ⟨et_yes, fun _ => ev_add (ev_c (v := .int 17)) (ev_var rfl)⟩) (by rw [filt_true, List.map_map]; rfl)) fun o H1 no e1 ho => ?_
    have n1 : H o = none := no
    refine ⟨_, rfl, S, ns.map V.int, rfl, ex_l e1 hS, for_it (walk_enum (K := K) (a := S) (xs := ns.map V.int)) (fun i σ' H' => (∃ y z, σ' = [some (.ref S), y, some (.ref o), z]) ∧ Ex H H' ∧ ∃ cs, Cel cs ∧ H' o = some (.lst (cs.map V.int)))
      ⟨⟨_, _, rfl⟩, e1, _, ⟨rfl, by decide⟩, ho⟩ (fun i σ' H' _ h => ex_l h.2.1 hS) (fun i x σ' H' H'' hi h y => ?_) fun σ' H' h => ?_⟩
    · obtain ⟨⟨y1, y2, rfl⟩, e2, cs, hcs, hr2⟩ := h
      obtain ⟨T', u, v, rfl, nT, rfl, hu, hv⟩ := y
      obtain ⟨c, rfl⟩ : ∃ c : Int, v = .int c := by
        have hv : (ns.map V.int)[i]? = some v := hv
        rw [List.getElem?_map] at hv
        cases e : ns[i]? with
        | none => rw [e] at hv; cases hv
        | some c => rw [e] at hv; exact ⟨c, (Option.some.inj hv).symm⟩
      cases (Option.some.inj hu : V.int (i : Nat) = u)
      have nTo : o ≠ T' := ne_of_none hr2 nT
      have e3 : Ex H' (upd H' T' (.tup [.int (i : Nat), .int c])) := Ex.new nT
      have hlt : i % 64 < cs.length := by rw [hcs.1]; omega
      refine ⟨T', _, rfl, st_of upd_same, rfl, _, _, rfl, _, _, rfl, rfl, ?_⟩
      have h6 : ∀ H, Ev (tOp (rI (fun _ j => 0 < j) fun i j => .int (i % j)) (tCB rInt1 (tCons (tVar 1) tNil)) (tC (.int 64))) [some (.ref S), some (nt i), some (.ref o), some (.int c)] H (nt (i % 64)) := fun H =>
        ev_is (ev_mod (ev_int (ev_var rfl)) (ev_c (v := .int 64)) (by decide)) rfl
      refine s_setL (e3 _ _ hr2) (ev_mod (ev_int (ev_add (ev_mul (ev_op (ev_var rfl) (h6 _) (rv_ixL (K := K) (sq_of (e3 _ _ hr2)) (atI_nat (get_int hlt)))) (ev_c (v := .int 48271)) (.inr (by decide))) (ev_var rfl))) (ev_c (v := .int 2147483647)) (by decide)) (ev_var rfl) (h6 _) (by rw [List.length_map]; exact hlt) fun H4 e4 => ?_
      refine ⟨⟨_, _, rfl⟩, Ex.mut ((e2.trans e3).trans e4) n1, cs.set (i % 64) ((cs[i % 64] * 48271 + c) % 2147483647), hcs.set _ _, ?_⟩
      rw [upd_same, ← List.map_set]
    · obtain ⟨⟨y1, y2, rfl⟩, e2, cs, hcs, hr2⟩ := h
      refine q_forR2 (lo := 1) (n := 64) (ea_2 (ev_c (v := .int 1)) (ev_c (v := .int 64))) (by decide) (fun i σ' H' => (∃ y z, σ' = [some (.ref S), y, some (.ref o), z]) ∧ Ex H H' ∧ ∃ cs, Cel cs ∧ H' o = some (.lst (cs.map V.int)))
        (fun H3 e3 => ⟨⟨_, _, rfl⟩, e2.trans e3, cs, hcs, e3 _ _ hr2⟩) (fun i σ' H3 hi h => ?_) fun σ' H3 h => ?_
      · obtain ⟨⟨y1, y2, rfl⟩, e2, cs, hcs, hr2⟩ := h
        have hi1 : i < 63 := by omega
        have hlt : i + 1 < cs.length := by rw [hcs.1]; omega
        have hlt0 : i < cs.length := by omega
        refine s_setL (j := i + 1) hr2 (ev_mod (ev_int (ev_add (ev_op (y := .int (1 + (i : Int))) (ev_var rfl) (ev_var rfl) (rv_ixL (K := K) (sq_of hr2) (at_of (j := i + 1) (by omega) (get_int hlt)))) (ev_mul (ev_op (y := .int (1 + (i : Int) - 1)) (ev_var rfl) (ev_sub (ev_var rfl) (ev_c (v := .int 1))) (rv_ixL (K := K) (sq_of hr2) (at_of (j := i) (by omega) (get_int hlt0)))) (ev_c (v := .int 16807)) (.inr (by decide)))))
          (ev_c (v := .int 2147483647)) (by decide)) (ev_var rfl) (ev_is (ev_var rfl) (by congr 1; omega)) (by rw [List.length_map]; exact hlt) fun H4 e4 => ?_
        refine ⟨⟨_, _, rfl⟩, Ex.mut (e2.trans e4) n1, cs.set (i + 1) ((cs[i + 1] + cs[i] * 16807) % 2147483647), hcs.set _ _, ?_⟩
        rw [upd_same, ← List.map_set]
      · obtain ⟨⟨y1, y2, rfl⟩, e2, cs, hcs, hr2⟩ := h
        exact s_ret (ev_var rfl) fun H4 e4 => k cs hcs o H4 n1 (e2.trans e4) (e4 _ _ hr2)
theorem q_dputL {σ : L2.St} {H : Hp} {ta tb te : TE} {D : Ends} {tz : TS} {a : Addr} {kvs : List (Key × V)} {k : Key} {xs : List V} (hv : EvL te σ H xs) (ha : Ev ta σ H (.ref a)) (hk : Ev tb σ H (kV k)) (h : H a = some (.dK kvs)) (hl : kvs.length < sizeLine)
    (c : ∀ p H1, H p = none → Ex H H1 → H1 p = some (.lst xs) → tz D σ (upd H1 a (.dK (putK kvs k (.ref p))))) : tSeq (sDPut ta tb te) tz D σ H :=
  hv H (Ex.refl H) _ fun p H1 np e1 hp => ha H1 e1 _ fun H2 e2 => hk H2 (e1.trans e2) _ fun H3 e3 => ⟨a, _, rfl, DPut.k (((e1.trans e2).trans e3) _ _ h) hl, c p H3 np ((e1.trans e2).trans e3) ((e2.trans e3) _ _ hp)⟩
theorem kv_great_put (C G G' : Addr) (n : Nat) : putK (kvM C G n) (kS "great") (.ref G') = kvM C G' n := by
  have h1 : ¬ kS "cells" = kS "great" := by decide
  have h2 : ¬ kS "spot" = kS "great" := by decide
  unfold putK
  rw [if_pos (by simp)]
  simp [h1, h2]
theorem kv_merge (C G : Addr) : mergeK [] (kvM C G 0) = kvM C G 0 := by
  have h1 : ¬ kS "cells" = kS "great" := by decide
  have h2 : ¬ kS "cells" = kS "spot" := by decide
  have h3 : ¬ kS "great" = kS "spot" := by decide
  show putK (putK (putK [] (kS "cells") (.ref C)) (kS "great") (.ref G)) (kS "spot") (nt 0) = _
  simp [putK, h1, h2, h3]
def sp_begun (K : PySem.W.Frag) : Sp := fun vs H Q _ => ∃ (S : Addr) (ns : List Int), vs = [.ref S] ∧ SqL K H S (ns.map V.int) ∧ ns.length ≤ 1000 ∧ ∀ M C G H', Ex H H' → Dr M C G 0 H' → Q (.ref M) H'
theorem ok_begun (T : TopE K mg) : Has P w K mg base CX0 2 "_law_begun" ["_law_script"] (sp_begun K) := by
  have F1 : Has P w K mg base CX0 1 "_law_folded" ["_law_script"] (sp_folded K) := ok_folded T
  refine has_of T 27 27 rfl rfl rfl sc_l_begun (fun _ _ _ _ _ _ us hl => match us, hl with | [_], _ => rfl) (fun vs H Q E h => ?_) (fun cdv f A outer s H vs Q E hr h => ?_)
  · obtain ⟨S, ns, rfl, _⟩ := h
    rfl
  · obtain ⟨S, ns, rfl, hS, hn, k⟩ := h
    have hu := hu_of hr
    refine ⟨_, PSs.nox (pss_cons (ps_set (i := 1) sc_l_begun.nd rfl (Or.inl rfl) (pe_disp (pps_cons pe_str (pe_h F1 hr pass0 (pa_cons (pv 0) pa_nil)) (pps_cons pe_str (pe_lst pa_nil) (pps_cons pe_str pe_int pps_nil))) (by rfl) (by rfl) (fun z => by cases z) (by decide)))
      (pss_cons (ps_dput hu (pv 1) pe_str (pe_lc (own := [("_law_cell", 2)]) (g := gName 2) (tt := tYes) rfl sc_l_begun.nd (pi_list (pv 0)) (blkOk_by (N := N_l_begun) (sc := defScope s_l_begun) (by decide +kernel))
        (fun _ _ _ _ _ => pg_name (i := 2) sc_l_begun.nd rfl (Or.inl rfl)) (fun _ _ _ _ _ => pts_nil) (fun _ _ _ _ _ => pe_ifExp (pt_cmpR op_ge (pv 2) (pe_op op_pow pe_int pe_int) (nomark _)) (pv 2) pe_int)) rfl)
      (pss_one (ps_ret (pv 1))))), ?_⟩
    refine fun M nM => ?_
    have eM : Ex H (upd H M (.dK [])) := Ex.new nM
    refine ⟨.ref S, rfl, S, ns, rfl, ex_l eM hS, fun cs hcs C H1 nC e1 hC => ?_⟩
    refine ⟨by show 0 ≤ sizeLine; decide, fun G nG => ?_⟩
    have e2 : Ex H1 (upd H1 G (.lst [])) := Ex.new nG
    have hM1 : H1 M = some (.dK []) := e1 _ _ upd_same
    refine ⟨e2 _ _ hM1, kvM C G 0, rfl, by show 3 ≤ 15; decide, ?_⟩
    rw [kv_merge]
    generalize hH2 : upd (upd H1 G (.lst [])) M (.dK (kvM C G 0)) = H2
    have nCM : C ≠ M := ne_of hC hM1 (by intro z; cases z)
    have hM2 : H2 M = some (.dK (kvM C G 0)) := by rw [← hH2]; exact upd_same
    have hC2 : H2 C = some (.lst (cs.map V.int)) := by rw [← hH2, upd_ne nCM]; exact e2 _ _ hC
    have e02 : Ex H H2 := by rw [← hH2]; exact Ex.mut ((eM.trans e1).trans e2) nM
    let g : Int → Int := fun c => if (10 : Int) ^ 18 ≤ c then c else 0
    have hg : ∀ c ∈ ns.map g, 0 ≤ c := fun c hc => by
      obtain ⟨b, _, rfl⟩ := List.mem_map.mp hc
      show 0 ≤ if (10 : Int) ^ 18 ≤ b then b else 0
      split
      · exact Int.le_trans (show (0 : Int) ≤ 10 ^ 18 by decide) ‹_›
      · exact Int.le_refl _
    refine q_dputL (k := kS "great") (xs := (ns.map g).map V.int) (el_is (el_compL (K := K) ns V.int (fun _ => true) (fun c => .int (g c)) (by omega) (ev_var rfl) (ex_l e02 hS) (fun x => rfl)
      fun b i H3 hb e3 => ⟨et_yes, fun _ => ev_is (ev_ifB (et_test (ev_ge (ev_var rfl) (ev_op (z := .int ((10 : Int) ^ 18)) (ev_c (v := .int 10)) (ev_c (v := .int 18)) (rv_I (by show (0 : Int) ≤ 18 ∧ (18 : Int) ≤ 1000000 ∧ (10 : Int).natAbs < 2 ^ 64; decide))))) (ev_var rfl) (ev_c (v := .int 0))) ?_⟩) (by rw [filt_true, List.map_map]; rfl)) (ev_var rfl) ev_c hM2 (show 3 < sizeLine by decide) fun G' H3 nG' e3 hG' => ?_
    · show _ = V.int (if (10 : Int) ^ 18 ≤ b then b else 0)
      by_cases c : (10 : Int) ^ 18 ≤ b
      · rw [if_pos c, if_pos (by simpa using c)]
      · rw [if_neg c, if_neg (by simpa using c)]
    · rw [kv_great_put]
      have nCG : C ≠ G' := ne_of_none hC2 nG'
      have nGM : G' ≠ M := ne_of hG' (e3 _ _ hM2) (by intro z; cases z)
      refine s_ret (ev_var rfl) fun H4 e4 => k M C G' H4 ((Ex.mut (e02.trans e3) nM).trans e4) (Dr.ex ⟨upd_same, ⟨cs, hcs.1, hcs.2, ?_⟩, ⟨ns.map g, hg, ?_⟩, nCG⟩ e4)
      · rw [upd_ne nCM]
        exact e3 _ _ hC2
      · rw [upd_ne nGM]
        exact hG'
end
end K7

set_option Elab.async false
set_option linter.all false
set_option maxRecDepth 100000
set_option maxHeartbeats 2000000
/-! _law_grown, _law_text_of. -/
namespace K7
open PySem PySem.Spec PyProof.Rows L2 Evl
theorem Fr.mut {M G D : Addr} {H H' : Hp} {o : HO} (f : Fr M G H H') (h : H D = none) : Fr M G H (upd H' D o) := fun a u n1 n2 ha => by
  rw [upd_ne (ne_of_none ha h)]
  exact f a u n1 n2 ha
theorem Fr.back {M G D : Addr} {H H' : Hp} (f : Fr M G H H') (h1 : D ≠ M) (h2 : D ≠ G) (h : H' D = none) : H D = none := by
  cases e : H D with
  | none => rfl
  | some o =>
    rw [f D o h1 h2 e] at h
    cases h
section
variable {K : PySem.W.Frag} {σ : L2.St} {H : Hp} {ta tb te : TE} {M C G : Addr} {n : Nat}
theorem yes_go {Q : Bool → Hp → Prop} (h : Q true H) : tYes σ H Q := h
theorem td_draw {E : XK} {i L : Nat} {Q : VK} (d : Dr M C G n H) (hn : n ≤ 10000) (hM : σ[i]? = some (some (.ref M))) (hL : Ev te σ H (nt L)) (h1 : 1 ≤ L) (h2 : L ≤ 100) (k : ∀ r H', r < L → Fr M G H H' → Dr M C G (n + 1) H' → Q (nt r) H') :
    tCall sp_draw [] E (tCons (tVar i) (tCons te tNil)) σ H Q :=
  ⟨_, hM, hL H (Ex.refl H) _ fun H2 e2 => ⟨M, C, G, n, L, rfl, d.ex e2, hn, h1, h2, fun r H' hr f d' => k r H' hr ((Fr.ex e2).trans f) d'⟩⟩
theorem ev_cpT {l : Tx} {p k : Nat} {a1 a2 b1 b2 : TO} (h : Ev te σ H (tx l)) (h1 : EvO a1 σ H none) (h2 : EvO a2 σ H (some ((p + k : Nat) : Int))) (h3 : EvO b1 σ H (some (p : Int))) (h4 : EvO b2 σ H none) (hz : l.length ≤ 400) :
    Ev (tOp (fun x y H Q => ∃ i j, x = .str i ∧ y = .str j ∧ i.length + j.length ≤ sizeLine ∧ Q (.str (i ++ j)) H) (tSl rSlS te a1 a2) (tSl rSlS te b1 b2)) σ H (tx (cp k p l)) :=
  ev_catT (ev_take h h1 h2 (by omega)) (ev_drop h h3 h4 (by omega)) (by rw [List.length_take, List.length_drop]; omega)
end
section
variable {P : Program} {w : World} {K : PySem.W.Frag} {mg : Str → Option Value} {base : Heap}
def sp_grown : Sp := fun vs H Q _ => ∃ (M C G : Addr) (n : Nat) (l : Tx) (k most : Nat), vs = [.ref M, tx l, nt k, nt most] ∧ Dr M C G n H ∧ n ≤ 9000 ∧ Ok l ∧ l.length ≤ most ∧ most ≤ 90 ∧
  ∀ l' n' H', Ok l' → l'.length ≤ most → n' ≤ n + 20 → Fr M G H H' → Dr M C G n' H' → Q (tx l') H'
theorem ok_grown (T : TopE K mg) : Has P w K mg base CX0 3 "_law_grown" ["_law_m", "_law_text", "_law_wide", "_law_most"] sp_grown := by
  have F1 : Has P w K mg base CX0 2 "_law_draw" ["_law_m", "_law_limit"] sp_draw := ok_draw T
  refine has_of T 30 30 rfl rfl rfl sc_l_grown (fun _ _ _ _ _ _ us hl => match us, hl with | [_, _, _, _], _ => rfl) (fun vs H Q E h => ?_) (fun cdv f A outer s H vs Q E hr h => ?_)
  · obtain ⟨M, C, G, n, l, k, most, rfl, _⟩ := h
    rfl
  · obtain ⟨M, C, G, n, l, k, most, rfl, d, hn, ok, hl, hm, q⟩ := h
    refine ⟨_, PSs.nox (pss_cons (ps_for PassesOwn.never rfl (pi_range1 (by rfl) T.f_range (pa_cons (pe_h F1 hr pass0 (pa_cons (pv 0) (pa_cons pe_int pa_nil))) pa_nil)) (pg_name (i := 4) sc_l_grown.nd rfl (Or.inl rfl))
        (pss_one (ps_if (PW.pt (pw_and (pt_cmpR op_le (pv 2) (pe_callB call_len_str (by rfl) T.f_len PySem.boot_len (pa_cons (pv 1) pa_nil)) (nomark _)) (pw_and1 (pt_cmpR op_le (pe_op op_add (pe_callB call_len_str (by rfl) T.f_len PySem.boot_len (pa_cons (pv 1) pa_nil)) (pv 2)) (pv 3) (nomark _)))))
          (pss_cons (ps_set (i := 5) sc_l_grown.nd rfl (Or.inl rfl) (pe_h F1 hr pass0 (pa_cons (pv 0) (pa_cons (pe_op op_add (pe_op op_sub (pe_callB call_len_str (by rfl) T.f_len PySem.boot_len (pa_cons (pv 1) pa_nil)) (pv 2)) pe_int) pa_nil))))
          (pss_one (ps_set (i := 1) sc_l_grown.nd rfl (Or.inl rfl) (pe_op op_add_str (pe_slice sl_str (pv 1) po_none (po_some (pe_op op_add (pv 5) (pv 2)))) (pe_slice sl_str (pv 1) (po_some (pv 5)) po_none))))) pss_nil)))
      (pss_one (ps_ret (pv 1)))), ?_⟩
    refine td_draw (L := 5) d (by omega) rfl (ev_c (v := .int 5)) (by decide) (by decide) fun r H1 hr5 f1 d1 => ⟨(r : Int), rfl, by omega, by omega, ?_⟩
    refine for_range (lo := 0) (n := r) (fun i σ' H' => ∃ l' y z n', σ' = [some (.ref M), some (tx l'), some (nt k), some (nt most), y, z] ∧ Ok l' ∧ l'.length ≤ most ∧ n' ≤ n + 1 + i ∧ Fr M G H H' ∧ Dr M C G n' H')
      ⟨l, _, _, n + 1, rfl, ok, hl, by omega, f1, d1⟩ (fun i σ' H2 hi h => ?_) fun σ' H2 h => ?_
    · obtain ⟨l', y, z, n', rfl, ok', hl', hn', f2, d2⟩ := h
      refine s_when (et_and (et_test (ev_le (ev_var rfl) (ev_lenT (ev_var rfl) (by omega)))) fun _ => et_test (ev_le (ev_add (ev_lenT (ev_var rfl) (by omega)) (ev_var rfl)) (ev_var rfl))) (fun hb H3 e3 => ?_) fun hb H3 e3 => ?_
      · rw [Bool.and_eq_true, decide_eq_true_eq, decide_eq_true_eq] at hb
        refine td_draw (L := l'.length - k + 1) (d2.ex e3) (by omega) rfl (ev_is (ev_add (ev_sub (ev_lenT (ev_var rfl) (by omega)) (ev_var rfl)) (ev_c (v := .int 1))) (by congr 1; omega)) (by omega) (by omega) fun p H4 hp f4 d4 => ?_
        refine s_asg (v := tx (cp k p l')) (ev_cpT (ev_var rfl) eo_none (eo_some (ev_is (ev_add (ev_var rfl) (ev_var rfl)) (by congr 1))) (eo_some (ev_var rfl)) eo_none (by omega)) fun H5 e5 => ?_
        exact ⟨_, _, _, n' + 1, rfl, cp_ok ok', by rw [cp_len (by omega)]; omega, by omega, ((f2.trans (Fr.ex e3)).trans f4).trans (Fr.ex e5), d4.ex e5⟩
      · exact ⟨l', _, _, n', rfl, ok', hl', by omega, f2.trans (Fr.ex e3), d2.ex e3⟩
    · obtain ⟨l', y, z, n', rfl, ok', hl', hn', f2, d2⟩ := h
      exact s_ret (ev_var rfl) fun H3 e3 => q l' n' H3 ok' hl' (by omega) (f2.trans (Fr.ex e3)) (d2.ex e3)
def sp_text_of : Sp := fun vs H Q _ => ∃ (M C G : Addr) (n : Nat) (many long : Nat), vs = [.ref M, nt many, nt long] ∧ Dr M C G n H ∧ n ≤ 9000 ∧ 1 ≤ many ∧ many ≤ 6 ∧ long ≤ 60 ∧
  ∀ l' n' H', Ok l' → l'.length ≤ long → n' ≤ n + 100 → Fr M G H H' → Dr M C G n' H' → Q (tx l') H'
theorem ok_text_of (T : TopE K mg) : Has P w K mg base CX0 3 "_law_text_of" ["_law_m", "_law_many", "_law_long"] sp_text_of := by
  have F1 : Has P w K mg base CX0 2 "_law_draw" ["_law_m", "_law_limit"] sp_draw := ok_draw T
  refine has_of T 29 29 rfl rfl rfl sc_l_text_of (fun _ _ _ _ _ _ us hl => match us, hl with | [_, _, _], _ => rfl) (fun vs H Q E h => ?_) (fun cdv f A outer s H vs Q E hr h => ?_)
  · obtain ⟨M, C, G, n, many, long, rfl, _⟩ := h
    rfl
  · obtain ⟨M, C, G, n, many, long, rfl, d, hn, hm1, hm6, hlo, q⟩ := h
    refine ⟨_, PSs.nox (pss_cons (ps_set (i := 3) sc_l_text_of.nd rfl (Or.inl rfl) (pe_join pe_str (pe_lc (own := [("_law_k", 7)]) (g := gName 7) (tt := tYes) rfl sc_l_text_of.nd (pi_range1 (by rfl) T.f_range (pa_cons (pe_h F1 hr pass0 (pa_cons (pv 0) (pa_cons (pe_op op_add (pv 2) pe_int) pa_nil))) pa_nil))
        (blkOk_by (N := N_l_text_of) (sc := defScope s_l_text_of) (by decide +kernel)) (fun _ _ _ _ _ => pg_name (i := 7) sc_l_text_of.nd rfl (Or.inl rfl)) (fun _ _ _ _ _ => pts_nil)
        (fun _ _ _ _ _ => show PE _ _ (tOp rIxS (tC (.str "abcdef")) (tCall sp_draw [] _ (tCons (tVar 0) (tCons (tVar 1) tNil)))) from pe_ix ix_str pe_str (pe_h F1 hr pass0 (pa_cons (pv 0) (pa_cons (pv 1) pa_nil))) (fun _ _ => rfl)))))
      (pss_cons (ps_for PassesOwn.never rfl (pi_range1 (by rfl) T.f_range (pa_cons (pe_h F1 hr pass0 (pa_cons (pv 0) (pa_cons pe_int pa_nil))) pa_nil)) (pg_name (i := 4) sc_l_text_of.nd rfl (Or.inl rfl))
        (pss_cons (ps_set (i := 5) sc_l_text_of.nd rfl (Or.inl rfl) (pe_op op_add pe_int (pe_h F1 hr pass0 (pa_cons (pv 0) (pa_cons pe_int pa_nil)))))
        (pss_one (ps_if (PW.pt (pw_and (pt_cmpR op_le (pv 5) (pe_callB call_len_str (by rfl) T.f_len PySem.boot_len (pa_cons (pv 3) pa_nil)) (nomark _)) (pw_and1 (pt_cmpR op_le (pe_op op_add (pe_callB call_len_str (by rfl) T.f_len PySem.boot_len (pa_cons (pv 3) pa_nil)) (pv 5)) (pv 2) (nomark _)))))
          (pss_cons (ps_set (i := 6) sc_l_text_of.nd rfl (Or.inl rfl) (pe_h F1 hr pass0 (pa_cons (pv 0) (pa_cons (pe_op op_add (pe_op op_sub (pe_callB call_len_str (by rfl) T.f_len PySem.boot_len (pa_cons (pv 3) pa_nil)) (pv 5)) pe_int) pa_nil))))
          (pss_one (ps_set (i := 3) sc_l_text_of.nd rfl (Or.inl rfl) (pe_op op_add_str (pe_slice sl_str (pv 3) po_none (po_some (pe_op op_add (pv 6) (pv 5)))) (pe_slice sl_str (pv 3) (po_some (pv 6)) po_none))))) pss_nil))))
      (pss_one (ps_ret (pv 3))))), ?_⟩
    refine ⟨⟨_, rfl⟩, ?_⟩
    refine td_draw (L := long + 1) d (by omega) rfl (ev_is (ev_add (ev_var rfl) (ev_c (v := .int 1))) rfl) (by omega) (by omega) fun r H1 hr5 f1 d1 => ⟨(r : Int), rfl, by omega, by omega, ?_⟩
    intro D nD
    have dD := d1.new nD
    refine lc_range (lo := 0) (n := r) (fun i H' => ∃ (l : Tx) (n' : Nat), Ok l ∧ l.length = i ∧ n' ≤ n + 1 + i ∧ Fr M G H H' ∧ Dr M C G n' H' ∧ H' D = some (.lst (l.map fun b => tx [b])))
      ⟨[], n + 1, (fun x m => by cases m), rfl, by omega, f1.trans (Fr.ex (Ex.new nD)), d1.ex (Ex.new nD), upd_same⟩ (fun i H2 hi h => ?_) fun H2 h => ?_
    · obtain ⟨l, n', ok, hl, hn', f2, d2, hD⟩ := h
      refine ⟨rfl, ?_⟩
      refine yes_go ?_
      rw [if_pos rfl]
      refine td_draw (L := many) d2 (by omega) rfl (ev_var rfl) (by omega) (by omega) fun b H4 hb f4 d4 => ?_
      refine ⟨("abcdef" : Str), (b : Int), 97 + b, rfl, rfl, by decide +kernel, letters_ix b (by omega), ?_⟩
      refine ⟨_, f4 _ _ dD.1 dD.2.2 hD, ?_, l ++ [b], n' + 1, ok.app (fun x m => ?_), by rw [List.length_append, hl] <;> rfl, by omega, ?_, ?_, ?_⟩
      · rw [List.length_map, hl]
        exact sz_lt (by omega)
      · rw [List.mem_singleton.mp m]
        omega
      · exact (f2.trans f4).mut (f1.back dD.1 dD.2.2 nD)
      · exact d4.upd dD.1 dD.2.1 dD.2.2
      · rw [List.map_append]
        exact upd_same
    · obtain ⟨l, n', ok, hl, hn', f2, d2, hD⟩ := h
      have hl := ok |> fun _ => hl
      refine ⟨"", D, l.map fun b => enc [b], rfl, rfl, .inl (sq_of (by rw [hD, List.map_map] <;> rfl)), ?_, ?_⟩
      · rw [List.map_map, List.length_map, show ("" : Str).length = 0 by decide +kernel, Nat.mul_zero, Nat.add_zero]
        have : ∀ l : Tx, (l.map ((·.length) ∘ fun b => enc [b])).sum = l.length := fun l => by
          induction l with
          | nil => rfl
          | cons a l ih =>
            rw [List.map_cons, List.sum_cons, ih]
            show 1 + _ = _
            rw [List.length_cons]
            omega
        rw [this]
        omega
      rw [join_signs]
      refine td_draw (L := 4) d2 (by omega) rfl (ev_c (v := .int 4)) (by decide) (by decide) fun r2 H3 hr2 f3 d3 => ⟨(r2 : Int), rfl, by omega, by omega, ?_⟩
      refine for_range (lo := 0) (n := r2) (fun i σ' H' => ∃ l' y z z2 n', σ' = [some (.ref M), some (nt many), some (nt long), some (tx l'), y, z, z2, none] ∧ Ok l' ∧ l'.length ≤ long ∧ n' ≤ n + 70 + 2 * i ∧ Fr M G H H' ∧ Dr M C G n' H')
        ⟨l, _, _, _, n' + 1, rfl, ok, by omega, by omega, f2.trans f3, d3⟩ (fun i σ' H2 hi h => ?_) fun σ' H2 h => ?_
      · obtain ⟨l', y, z, z2, n'', rfl, ok', hl', hn'', f5, d5⟩ := h
        refine td_draw (L := 4) d5 (by omega) rfl (ev_c (v := .int 4)) (by decide) (by decide) fun k H6 hk f6 d6 => ?_
        refine ⟨1, (k : Int), rfl, rfl, ?_⟩
        have ek : V.int (1 + (k : Int)) = nt (k + 1) := by
          congr 1
          omega
        show gName 5 (V.int (1 + (k : Int))) _ _ _
        rw [ek]
        refine s_when (et_and (et_test (ev_le (ev_var rfl) (ev_lenT (ev_var rfl) (by omega)))) fun _ => et_test (ev_le (ev_add (ev_lenT (ev_var rfl) (by omega)) (ev_var rfl)) (ev_var rfl))) (fun hb H3 e3 => ?_) fun hb H3 e3 => ?_
        · rw [Bool.and_eq_true, decide_eq_true_eq, decide_eq_true_eq] at hb
          refine td_draw (L := l'.length - (k + 1) + 1) (d6.ex e3) (by omega) rfl (ev_is (ev_add (ev_sub (ev_lenT (ev_var rfl) (by omega)) (ev_var rfl)) (ev_c (v := .int 1))) (by congr 1; omega)) (by omega) (by omega) fun p H4 hp f4 d4 => ?_
          refine s_asg (v := tx (cp (k + 1) p l')) (ev_cpT (ev_var rfl) eo_none (eo_some (ev_is (ev_add (ev_var rfl) (ev_var rfl)) (by congr 1))) (eo_some (ev_var rfl)) eo_none (by omega)) fun H5 e5 => ?_
          exact ⟨_, _, _, _, n'' + 1 + 1, rfl, cp_ok ok', by rw [cp_len (by omega)]; omega, by omega, (((f5.trans f6).trans (Fr.ex e3)).trans f4).trans (Fr.ex e5), d4.ex e5⟩
        · exact ⟨l', _, _, _, n'' + 1, rfl, ok', hl', by omega, (f5.trans f6).trans (Fr.ex e3), d6.ex e3⟩
      · obtain ⟨l', y, z, z2, n'', rfl, ok', hl', hn'', f5, d5⟩ := h
        exact s_ret (ev_var rfl) fun H3 e3 => q l' n'' H3 ok' hl' (by omega) (f5.trans (Fr.ex e3)) (d5.ex e3)
end
end K7

set_option Elab.async false
set_option linter.all false
set_option maxRecDepth 100000
set_option maxHeartbeats 2000000
/-! _law_bare. -/
namespace K7
open PySem PySem.Spec PyProof.Rows L2 Evl
theorem unCp {w p : Nat} {l : Tx} (h : twice w p l = true) : Cp w (un w p l) l := un_iff.mp ⟨p, h, rfl⟩
theorem Rc.cp {w : Nat} {e l : Tx} (h : Cp w e l) : Rc w e l := ⟨1, R.one h⟩
theorem twice_le {w p : Nat} {l : Tx} (h : twice w p l = true) : p + 2 * w ≤ l.length := by
  unfold twice at h
  rw [Bool.and_eq_true, decide_eq_true_eq] at h
  exact h.1
/-- the places where a stretch stands twice -/
def spots (w : Nat) (l : Tx) : List Nat := (List.range l.length).filter fun p => twice w p l
theorem mem_spots {w : Nat} (hw : 1 ≤ w) {l : Tx} {p : Nat} : p ∈ spots w l ↔ twice w p l = true := by
  unfold spots
  rw [List.mem_filter, List.mem_range]
  refine ⟨fun h => h.2, fun h => ⟨?_, h⟩⟩
  have := twice_le h
  omega
theorem spots_len (w : Nat) (l : Tx) : (spots w l).length ≤ l.length := Nat.le_trans (List.length_filter_le _ _) (by rw [List.length_range]; omega)
section
variable {K : PySem.W.Frag} {σ : L2.St} {H : Hp} {ta tb te : TE}
theorem ev_unT {l : Tx} {p k : Nat} {a1 a2 b1 b2 : TO} (h : Ev te σ H (tx l)) (h1 : EvO a1 σ H none) (h2 : EvO a2 σ H (some ((p + k : Nat) : Int))) (h3 : EvO b1 σ H (some ((p + 2 * k : Nat) : Int))) (h4 : EvO b2 σ H none) (hz : l.length ≤ 400) :
    Ev (tOp (fun x y H Q => ∃ i j, x = .str i ∧ y = .str j ∧ i.length + j.length ≤ sizeLine ∧ Q (.str (i ++ j)) H) (tSl rSlS te a1 a2) (tSl rSlS te b1 b2)) σ H (tx (un k p l)) :=
  ev_catT (ev_take h h1 h2 (by omega)) (ev_drop h h3 h4 (by omega)) (by rw [List.length_take, List.length_drop]; omega)
end
section
variable {P : Program} {w : World} {K : PySem.W.Frag} {mg : Str → Option Value} {base : Heap}
def sp_bare : Sp := fun vs H Q _ => ∃ (l : Tx) (n : Nat), vs = [tx l, nt n] ∧ Ok l ∧ l.length ≤ 100 ∧ 1 ≤ n ∧ n ≤ 6 ∧ GiveV (tx (root n l)) H Q
theorem ok_bare (T : TopE K mg) : Has P w K mg base CX0 2 "_law_bare" ["_law_text", "_law_wide"] sp_bare := by
  have F1 : Has P w K mg base CX0 1 "_law_is_twice" ["_law_text", "_law_wide", "_law_at"] sp_is_twice := ok_is_twice T
  refine has_of T 32 32 rfl rfl rfl sc_l_bare (fun _ _ _ _ _ _ us hl => match us, hl with | [_, _], _ => rfl) (fun vs H Q E h => ?_) (fun cdv f A outer s H vs Q E hr h => ?_)
  · obtain ⟨l, n, rfl, _⟩ := h
    rfl
  · obtain ⟨l, n, rfl, ok, hl, h1, h6, k⟩ := h
    refine ⟨_, PSs.nox (pss_cons (ps_set (i := 2) sc_l_bare.nd rfl (Or.inl rfl) (pe_lst (pa_cons pe_int pa_nil)))
      (pss_cons (ps_while PassesOwn.never (pt_cmpR (op_neD hr.units) (pv 2) (pe_lst pa_nil) (nomark _))
        (pss_cons (ps_setLc (i := 2) (own := [("_law_k", 3)]) (g := gName 3) rfl sc_l_bare.nd rfl rfl (sw_true rfl rfl rfl (by decide +kernel)) (pi_range1 (by rfl) T.f_range (pa_cons (pe_callB call_len_str (by rfl) T.f_len PySem.boot_len (pa_cons (pv 0) pa_nil)) pa_nil))
          (blkOk_by (N := N_l_bare) (sc := defScope s_l_bare) (by decide +kernel)) (fun _ _ _ _ _ => pg_name (i := 3) sc_l_bare.nd rfl (Or.inl rfl)) (fun _ _ _ _ _ => pts_one (pt_val (pe_h F1 hr pass0 (pa_cons (pv 0) (pa_cons (pv 1) (pa_cons (pv 3) pa_nil)))))) (fun _ _ _ _ _ => pv 3))
        (pss_one (ps_if (pt_cmpR (op_neD hr.units) (pv 2) (pe_lst pa_nil) (nomark _))
          (pss_one (ps_set (i := 0) sc_l_bare.nd rfl (Or.inr rfl) (pe_op op_add_str (pe_slice sl_str (pv 0) po_none (po_some (pe_op op_add (pe_ix ix_list (pv 2) pe_int (fun _ _ => rfl)) (pv 1))))
            (pe_slice sl_str (pv 0) (po_some (pe_op op_add (pe_ix ix_list (pv 2) pe_int (fun _ _ => rfl)) (pe_op op_mul pe_int (pv 1)))) po_none)))) pss_nil))))
      (pss_one (ps_ret (pv 0))))), ?_⟩
    refine q_asgL (xs := nts [0]) (el_lst (ea_1 (ev_c (v := .int 0))) (by simp)) fun S0 H1 nS e1 hS0 => ?_
    refine q_while (fun m σ' H' => ∃ t S ss y, σ' = [some (tx t), some (nt n), some (.ref S), y] ∧ H' S = some (.lst (nts ss)) ∧ Ex H H' ∧ Ok t ∧ t.length ≤ l.length ∧ Rc n t l ∧ (ss = [] → ∀ p, twice n p t = false) ∧ m = t.length + (if ss = [] then 0 else 1))
      (l.length + 1) ⟨l, S0, [0], _, rfl, hS0, e1, ok, Nat.le_refl _, Rc.refl n l, (fun z => by cases z), rfl⟩ ?_
    intro m σ' H' h
    obtain ⟨t, S, ss, y, rfl, hS, e2, okt, htl, hrc, hno, rfl⟩ := h
    refine ⟨!decide (ss = []), et_test (ev_neNilN (ev_var rfl) (sq_of hS)), fun hb H3 e3 => ?_, fun hb H3 e3 => ?_⟩
    · have hne : ss ≠ [] := by simpa using hb
      rw [if_neg hne]
      refine ⟨fun σ2 H2 => ∃ m', m' < t.length + 1 ∧ ∃ t S ss y, σ2 = [some (tx t), some (nt n), some (.ref S), y] ∧ H2 S = some (.lst (nts ss)) ∧ Ex H H2 ∧ Ok t ∧ t.length ≤ l.length ∧ Rc n t l ∧ (ss = [] → ∀ p, twice n p t = false) ∧ m' = t.length + (if ss = [] then 0 else 1), fun _ _ h => h, ?_⟩
      refine q_asgL (xs := nts (spots n t)) (el_compR (n := t.length) (fun p => twice n p t) nt (by omega) (ea_1 (ev_lenT (ev_var rfl) (by omega))) (fun x => rfl)
        fun b H4 hb e4 => ⟨et_B (ev_call (ea_3 (ev_var rfl) (ev_var rfl) (ev_var rfl)) fun H5 e5 Q q E => ⟨t, n, b, rfl, by omega, q⟩), fun _ => ev_var rfl⟩) fun S2 H4 nS2 e4 hS2 => ?_
      have e24 := (e2.trans e3).trans e4
      refine s_when (et_test (ev_neNilN (ev_var rfl) (sq_of hS2))) (fun hb2 H5 e5 => ?_) fun hb2 H5 e5 => ?_
      · have hne2 : spots n t ≠ [] := by simpa using hb2
        obtain ⟨p, ps, hp⟩ : ∃ p ps, spots n t = p :: ps := List.exists_cons_of_ne_nil hne2
        have tw : twice n p t = true := (mem_spots h1).mp (by rw [hp]; exact List.mem_cons_self)
        have hle := twice_le tw
        have h0 : (nts (spots n t))[0]? = some (nt p) := by rw [hp] <;> rfl
        have hix : ∀ H, Ex H5 H → Ev (tOp (rIxL K) (tVar 2) (tC (.int 0))) [some (tx t), some (nt n), some (.ref S2), y] H (nt p) := fun H e => ev_op (ev_var rfl) (ev_c (v := .int 0)) (rv_ixL (sq_of (e _ _ (e5 _ _ hS2))) (atI_nat (j := 0) h0))
        refine s_asg (v := tx (un n p t)) (ev_unT (ev_var rfl) eo_none (eo_some (ev_is (ev_add (hix _ (Ex.refl _)) (ev_var rfl)) (by congr 1)))
          (eo_some (ev_is (ev_add (hix _ (Ex.refl _)) (ev_mul (ev_c (v := .int 2)) (ev_var rfl) (.inl (by decide)))) (by congr 1))) eo_none (by omega)) fun H6 e6 => ?_
        have hul := un_len hle
        refine ⟨(un n p t).length + 1, by omega, un n p t, S2, spots n t, y, rfl, (e5.trans e6) _ _ hS2, (e24.trans e5).trans e6, un_ok okt, by omega, (Rc.cp (unCp tw)).trans hrc, fun z => absurd z hne2, by rw [if_neg hne2]⟩
      · have hn2 : spots n t = [] := by simpa using hb2
        refine ⟨t.length, by omega, t, S2, spots n t, y, rfl, e5 _ _ hS2, e24.trans e5, okt, htl, hrc, fun _ p => ?_, by rw [if_pos hn2] <;> rfl⟩
        cases c : twice n p t with
        | false => rfl
        | true =>
          have := (mem_spots h1).mpr c
          rw [hn2] at this
          cases this
    · have hn : ss = [] := by simpa using hb
      have er : t = root n l := root_unique h1 ok hrc (hno hn)
      rw [← er] at k
      exact s_ret (ev_var rfl) fun H4 e4 => k H4 ((e2.trans e3).trans e4)
end
end K7

set_option Elab.async false
set_option linter.all false
set_option maxRecDepth 100000
set_option maxHeartbeats 2000000
/-! What the program tells of two texts; dicts of texts. -/
namespace K7
open PySem PySem.Spec PyProof.Rows L2 Evl
theorem shr_self (n : Nat) (l : Tx) : shr n l l = false := by
  unfold shr groP
  rw [List.any_eq_false]
  intro x hx
  obtain ⟨p, hp, rfl⟩ := List.mem_map.mp hx
  have : ∀ (a : List Nat) (p : Nat × Nat), p ∈ a.zip a → p.1 = p.2 := by
    intro a
    induction a with
    | nil => intro p h; cases h
    | cons b a ih =>
      intro p h
      rw [List.zip_cons_cons] at h
      rcases List.mem_cons.mp h with rfl | h
      · rfl
      · exact ih p h
  have e := this _ p hp
  rw [e]
  simp [isSh]
theorem unl_non {n : Nat} {l e : Tx} : unl n l e = .non ↔ l.take n = e.take n ∧ ¬ (min l.length e.length < n ∧ l ≠ e) ∧ steps n l = steps n e := by
  unfold unl
  by_cases c1 : l.take n = e.take n
  · by_cases c2 : min l.length e.length < n ∧ l ≠ e
    · rw [if_pos (by simp [c2.1, c2.2])]
      exact ⟨fun h => (by cases h), fun h => absurd c2 h.2.1⟩
    · rw [if_neg (by simp only [c1]; simpa using c2)]
      by_cases c3 : steps n l = steps n e
      · rw [if_neg (by simp [c3])]
        exact ⟨fun _ => ⟨c1, c2, c3⟩, fun _ => rfl⟩
      · rw [if_pos (by simp [c3])]
        exact ⟨fun h => (by cases h), fun h => absurd h.2.2 c3⟩
  · rw [if_pos (by simp [c1])]
    exact ⟨fun h => (by cases h), fun h => absurd h.1 c1⟩
theorem dcB_iff {n : Nat} (hn : 1 ≤ n) {l e : Tx} (ol : Ok l) (oe : Ok e) : dcB n l e = true ↔ Rc n e l := by
  unfold dcB
  rw [Bool.and_eq_true, decide_eq_true_eq, unl_non, Bool.not_eq_true']
  by_cases c : n ≤ e.length
  · rw [Rc_iff hn c oe ol]
    have key : n ≤ l.length → steps n l = steps n e → (shr n l e = false ↔ PW n (runs n e) (runs n l)) := fun hl hs => by
      have er : (runs n e).length = (runs n l).length := by rw [runs_len, runs_len, hs]
      rw [PW_gro hn er]
      unfold shr groP
      have e1 : runsP n l = runs n l := if_neg (by omega)
      have e2 : runsP n e = runs n e := if_neg (by omega)
      rw [e1, e2, List.any_eq_false, List.all_eq_true]
      exact ⟨fun h x hx => by simpa using h x hx, fun h x hx => by simpa using h x hx⟩
    constructor
    · rintro ⟨⟨h1, h2, h3⟩, h4⟩
      have hl : n ≤ l.length := by
        rcases Nat.lt_or_ge l.length n with q | q
        · exact absurd ⟨by omega, fun z => by rw [z] at q; omega⟩ h2
        · exact q
      exact ⟨hl, h1, h3, (key hl h3).mp h4⟩
    · rintro ⟨h1, h2, h3, h4⟩
      exact ⟨⟨h2, fun z => by omega, h3⟩, (key h1 h3).mpr h4⟩
  · rw [Rc_short (by omega)]
    constructor
    · rintro ⟨⟨h1, h2, h3⟩, h4⟩
      refine Decidable.byContradiction fun z => h2 ⟨by omega, z⟩
    · rintro rfl
      exact ⟨⟨rfl, fun z => z.2 rfl, rfl⟩, shr_self n l⟩
/-! ### dicts of texts -/
def tru (L : List Tx) : List (Key × V) := L.map fun x => (kS (enc x), V.bl true)
theorem tru_any (x : Tx) : ∀ L : List Tx, ((tru L).any fun kv => decide (kv.1 = kS (enc x))) = decide (x ∈ L)
  | [] => by simp [tru]
  | a :: L => by
    have ih := tru_any x L
    show (decide (kS (enc a) = kS (enc x)) || _) = _
    unfold tru at ih
    rw [ih]
    by_cases c : a = x
    · subst c
      simp
    · have : ¬ kS (enc a) = kS (enc x) := fun h => c (enc_inj (Sum.inr.inj h))
      have c' : ¬ x = a := fun h => c h.symm
      simp [this, c']
theorem put_tru (x : Tx) (L : List Tx) : putK (tru L) (kS (enc x)) (.bl true) = tru (addN x L) := by
  unfold putK addN
  rw [tru_any]
  by_cases c : x ∈ L
  · rw [if_pos (by simpa using c), if_pos c]
    unfold tru
    rw [List.map_map]
    refine List.map_congr_left fun a _ => ?_
    show (if kS (enc a) = kS (enc x) then (kS (enc a), V.bl true) else (kS (enc a), V.bl true)) = _
    rw [ite_self]
  · rw [if_neg (by simpa using c), if_neg c]
    unfold tru
    rw [List.map_append]
    rfl
theorem val_tru (x : Tx) (L : List Tx) : (valV (tru L) (kS (enc x))).isSome = decide (x ∈ L) := by
  rw [← valV_any, tru_any]
theorem tru_len (L : List Tx) : (tru L).length = L.length := List.length_map ..
theorem keys_tru (L : List Tx) : ((tru L).map fun kv => kV kv.1) = L.map tx := by
  unfold tru
  rw [List.map_map]
  rfl
section
variable {K : PySem.W.Frag} {σ : L2.St} {H : Hp} {ta tb te : TE} {D : Ends} {tz : TS}
/-- list(d) -/
theorem el_listD {a : Addr} {L : List Tx} (h : Ev te σ H (.ref a)) (hd : H a = some (.dK (tru L))) : EvL (tCB rListD (tCons te tNil)) σ H (L.map tx) := fun H1 e Q q =>
  h H1 e _ fun H2 e2 => by
    unfold rListD
    refine ⟨a, tru L, rfl, (e.trans e2) _ _ hd, fun p np => ?_⟩
    rw [keys_tru]
    exact q p _ (fresh_back e2 np) (e2.trans (Ex.new np)) upd_same
/-- d[x] = True -/
theorem s_putT {a : Addr} {L : List Tx} {x : Tx} (hv : Ev te σ H (.bl true)) (ha : Ev ta σ H (.ref a)) (hk : Ev tb σ H (tx x)) (h : H a = some (.dK (tru L))) (hl : L.length ≤ 4000000) (c : ∀ H1, Ex H H1 → D.nx σ (upd H1 a (.dK (tru (addN x L))))) : sDPut ta tb te D σ H :=
  s_dput (k := kS (enc x)) hv ha hk h (by rw [tru_len]; exact Nat.lt_of_le_of_lt hl (by decide)) fun H1 e1 => by
    rw [put_tru]
    exact c H1 e1
end
end K7

set_option Elab.async false
set_option linter.all false
set_option maxRecDepth 100000
set_option maxHeartbeats 2000000
/-! _law_does_come. -/
namespace K7
open PySem PySem.Spec PyProof.Rows L2 Evl
theorem inV_tx (x : Tx) (L : List Tx) : inV (tx x) (L.map tx) = decide (x ∈ L) := by
  unfold inV
  rw [List.any_map]
  induction L with
  | nil => simp
  | cons a L ih =>
    rw [List.any_cons, ih]
    show ((enc a == enc x) || _) = _
    by_cases c : a = x
    · subst c
      simp
    · have : ¬ enc a = enc x := fun h => c (enc_inj h)
      have c' : ¬ x = a := fun h => c h.symm
      simp [this, c']
theorem flat_txs (L : List Tx) : (L.map tx).all flatV = true := by
  rw [List.all_map, List.all_eq_true]
  intro a _
  rfl
theorem R.down {w j : Nat} {x l : Tx} : R w (j + 1) x l ↔ ∃ y, R w j y l ∧ Cp w x y := ⟨fun h => by
  obtain ⟨m, h1, h2⟩ := h.first
  exact ⟨m, h2, h1⟩, fun ⟨y, h1, h2⟩ => by
  have := (R.one h2).trans h1
  rwa [Nat.add_comm] at this⟩
section
variable {K : PySem.W.Frag} {σ : L2.St} {H : Hp} {ta tb te : TE} {D : Ends} {tz : TS}
theorem q_asgNew {i : Nat} (k : ∀ p, H p = none → tz D (σ.set i (some (.ref p))) (upd H p (.dK []))) : tSeq (tAsg tDNewK (gName i)) tz D σ H := fun p np => k p np
theorem ev_inX {x : Tx} {a : Addr} {L : List Tx} (hx : Ev ta σ H (tx x)) (ha : Ev tb σ H (.ref a)) (h : SqL K H a (L.map tx)) : Ev (tOp (rIn K false) ta tb) σ H (.bl (decide (x ∈ L))) := ev_is (ev_op hx ha (rv_isL h rfl (flat_txs L))) (by rw [inV_tx])
end
theorem get_tx {L : List Tx} {i : Nat} {x : V} (h : (L.map tx)[i]? = some x) : ∃ b, L[i]? = some b ∧ x = tx b := by
  rw [List.getElem?_map] at h
  cases e : L[i]? with
  | none => rw [e] at h; cases h
  | some b => rw [e] at h; exact ⟨b, rfl, (Option.some.inj h).symm⟩
theorem take_next {α : Type} {L : List α} {i : Nat} {b : α} (h : L[i]? = some b) : L.take (i + 1) = L.take i ++ [b] := by
  rw [List.take_add_one, h]
  rfl
section
variable {P : Program} {w : World} {K : PySem.W.Frag} {mg : Str → Option Value} {base : Heap}
def sp_ldc : Sp := fun vs H Q _ => ∃ (l e : Tx) (n : Nat), vs = [tx l, tx e, nt n] ∧ Ok l ∧ Ok e ∧ l.length ≤ 22 ∧ e.length ≤ 22 ∧ 1 ≤ n ∧ n ≤ 6 ∧ GiveV (.bl (dcB n l e)) H Q
theorem ok_ldc (T : TopE K mg) : Has P w K mg base CX0 2 "_law_does_come" ["_law_late", "_law_early", "_law_wide"] sp_ldc := by
  have F1 : Has P w K mg base CX0 1 "_law_is_twice" ["_law_text", "_law_wide", "_law_at"] sp_is_twice := ok_is_twice T
  refine has_of T 35 35 rfl rfl rfl sc_l_does_come (fun _ _ _ _ _ _ us hl => match us, hl with | [_, _, _], _ => rfl) (fun vs H Q E h => ?_) (fun cdv f A outer s H vs Q E hr h => ?_)
  · obtain ⟨l, e, n, rfl, _⟩ := h
    rfl
  · obtain ⟨l, e, n, rfl, ol, oe, hl, he, h1, h6, k⟩ := h
    have hu := hu_of hr
    refine ⟨_, PSs.nox (pss_cons (ps_set (i := 3) sc_l_does_come.nd rfl (Or.inl rfl) (pe_lst (pa_cons (pv 0) pa_nil)))
      (pss_cons (ps_while PassesOwn.never (PW.pt (pw_and (pt_cmpR (op_neD hr.units) (pv 3) (pe_lst pa_nil) (nomark _)) (pw_and1 (pt_cmpR op_gt (pe_callB call_len_str (by rfl) T.f_len PySem.boot_len (pa_cons (pe_ix ix_list (pv 3) pe_int (fun _ _ => rfl)) pa_nil)) (pe_callB call_len_str (by rfl) T.f_len PySem.boot_len (pa_cons (pv 1) pa_nil)) (nomark _)))))
        (pss_cons (ps_set (i := 4) sc_l_does_come.nd rfl (Or.inl rfl) pe_dnewK)
        (pss_cons (ps_for PassesOwn.never rfl (pi_list (pv 3)) (pg_name (i := 5) sc_l_does_come.nd rfl (Or.inl rfl))
          (pss_one (ps_for PassesOwn.never rfl (pi_range1 (by rfl) T.f_range (pa_cons (pe_callB call_len_str (by rfl) T.f_len PySem.boot_len (pa_cons (pv 5) pa_nil)) pa_nil)) (pg_name (i := 6) sc_l_does_come.nd rfl (Or.inl rfl))
            (pss_one (ps_if (pt_val (pe_h F1 hr pass0 (pa_cons (pv 5) (pa_cons (pv 2) (pa_cons (pv 6) pa_nil)))))
              (pss_one (ps_dput hu (pv 4) (pe_op op_add_str (pe_slice sl_str (pv 5) po_none (po_some (pe_op op_add (pv 6) (pv 2)))) (pe_slice sl_str (pv 5) (po_some (pe_op op_add (pv 6) (pe_op op_mul pe_int (pv 2)))) po_none)) pe_bl rfl)) pss_nil)))))
        (pss_one (ps_set (i := 3) sc_l_does_come.nd rfl (Or.inl rfl) (pe_callTy (call_list_dK rfl) (by rfl) T.f_list PyProof.Rows.boot_list (pa_cons (pv 4) pa_nil)))))))
      (pss_one (ps_ret (pe_cmpR op_in_seq (pv 1) (pv 3) (by rfl)))))), ?_⟩
    refine q_asgL (xs := [l].map tx) (el_lst (ea_1 (ev_var rfl)) (by simp)) fun S0 H1 nS e1 hS0 => ?_
    refine q_while (fun m σ' H' => ∃ S L j y4 y5 y6, σ' = [some (tx l), some (tx e), some (nt n), some (.ref S), y4, y5, y6] ∧ H' S = some (.lst (L.map tx)) ∧ Ex H H' ∧ L.Nodup ∧ (∀ x, x ∈ L ↔ R n j x l) ∧ (j = 0 ∨ e.length + j * n < l.length + n) ∧ m = l.length + 1 - j)
      (l.length + 1) ⟨S0, [l], 0, _, _, _, rfl, hS0, e1, by simp, fun x => by rw [List.mem_singleton]; exact ⟨fun h => h.symm, fun h => Eq.symm h⟩, .inl rfl, rfl⟩ ?_
    rintro m σ' H' ⟨S, L, j, y4, y5, y6, rfl, hS, e2, nd, hL, hj, rfl⟩
    have hlen : ∀ x ∈ L, x.length + j * n = l.length := fun x hx => ((hL x).mp hx).len.symm
    have hok : ∀ x ∈ L, Ok x := fun x hx => ((hL x).mp hx).ok' ol
    have hjn : j ≤ j * n := Nat.le_mul_of_pos_right j h1
    have hsz : L.length ≤ 2097152 := fam_down h1 ol nd (fun x hx => (hL x).mp hx) hl
    let hd : Nat := match L with | [] => 0 | x :: _ => x.length
    refine ⟨!decide (L = []) && decide ((e.length : Int) < (hd : Int)), et_and (et_test (ev_neNilX (ev_var rfl) (sq_of hS) hok)) fun hb => ?_, fun hb H3 e3 => ?_, fun hb H3 e3 => ?_⟩
    · have hne : L ≠ [] := by simpa using hb
      obtain ⟨x, r, rfl⟩ := List.exists_cons_of_ne_nil hne
      have := hlen x List.mem_cons_self
      exact et_test (ev_gt (ev_lenT (ev_op (z := tx x) (ev_var rfl) (ev_c (v := .int 0)) (rv_ixL (K := K) (sq_of hS) (atI_nat (j := 0) rfl))) (by omega)) (ev_lenT (ev_var rfl) (by omega)))
    · rw [Bool.and_eq_true, decide_eq_true_eq] at hb
      have hne : L ≠ [] := by simpa using hb.1
      have hgt : e.length < hd := by have := hb.2; omega
      obtain ⟨x0, r0, hx0⟩ := List.exists_cons_of_ne_nil hne
      have hx0l := hlen x0 (by rw [hx0]; exact List.mem_cons_self)
      have hd0 : hd = x0.length := by show (match L with | [] => 0 | x :: _ => x.length) = _; rw [hx0]
      have hj1 : (j + 1) * n = j * n + n := Nat.succ_mul j n
      refine ⟨_, fun _ _ h => h, q_asgNew fun D nD => ?_⟩
      have eD : Ex H3 (upd H3 D (.dK [])) := Ex.new nD
      have nDS : S ≠ D := ne_of_none (e3 _ _ hS) nD
      refine q_forLn (K := K) (xs := L.map tx) (ev_var rfl) (sq_of (eD _ _ (e3 _ _ hS))) (fun i σ' H' => ∃ L' y5 y6, σ' = [some (tx l), some (tx e), some (nt n), some (.ref S), some (.ref D), y5, y6] ∧ Ex H3 H' ∧ H' D = some (.dK (tru L')) ∧ L'.Nodup ∧ ∀ x, x ∈ L' ↔ ∃ y ∈ L.take i, ∃ p, twice n p y = true ∧ x = un n p y)
        (fun H4 e4 => ⟨[], _, _, rfl, eD.trans e4, e4 _ _ upd_same, List.nodup_nil, fun x => by simp⟩) (fun i σ' H' _ h => ?_) (fun i x σ' H' hx h => ?_) fun σ' H' h => ?_
      · obtain ⟨L', _, _, _, e4, _⟩ := h
        exact sq_of (e4 _ _ (e3 _ _ hS))
      · obtain ⟨L', y5, y6, rfl, e4, hD, ndL, hL'⟩ := h
        obtain ⟨t, ht, rfl⟩ := get_tx hx
        have htm : t ∈ L := List.mem_of_getElem? ht
        have htl := hlen t htm
        refine s_forR1 (n := (t.length : Int)) (ea_1 (ev_lenT (ev_var rfl) (by omega))) (by omega) (fun q σ' H' => ∃ L' y6, σ' = [some (tx l), some (tx e), some (nt n), some (.ref S), some (.ref D), some (tx t), y6] ∧ Ex H3 H' ∧ H' D = some (.dK (tru L')) ∧ L'.Nodup ∧ ∀ x, x ∈ L' ↔ (∃ y ∈ L.take i, ∃ p, twice n p y = true ∧ x = un n p y) ∨ ∃ p, p < q ∧ twice n p t = true ∧ x = un n p t)
          (fun H5 e5 => ⟨L', _, rfl, e4.trans e5, e5 _ _ hD, ndL, fun x => by rw [hL' x]; exact ⟨.inl, fun h => h.elim id fun ⟨p, hp, _⟩ => absurd hp (by omega)⟩⟩) (fun q σ' H5 hq h => ?_) fun σ' H5 h => ?_
        · obtain ⟨L2, y6, rfl, e5, hD5, nd2, hL2⟩ := h
          have hq' : q < t.length := by omega
          have hfam : ∀ x ∈ L2, R n (j + 1) x l := fun x hx => by
            rcases (hL2 x).mp hx with ⟨y, hy, p, htw, rfl⟩ | ⟨p, _, htw, rfl⟩
            · exact R.down.mpr ⟨y, (hL y).mp (List.mem_of_mem_take hy), unCp htw⟩
            · exact R.down.mpr ⟨t, (hL t).mp htm, unCp htw⟩
          have hsz2 := fam_down h1 ol nd2 hfam hl
          refine s_when (et_B (ev_call (ea_3 (ev_var rfl) (ev_var rfl) (ev_var rfl)) fun H6 e6 Q q' E => ⟨t, n, q, rfl, by omega, q'⟩)) (fun hb H6 e6 => ?_) fun hb H6 e6 => ?_
          · refine s_putT (x := un n q t) (ev_c (v := .bl true)) (ev_var rfl) (ev_unT (ev_var rfl) eo_none (eo_some (ev_is (ev_add (ev_var rfl) (ev_var rfl)) (by congr 1)))
              (eo_some (ev_is (ev_add (ev_var rfl) (ev_mul (ev_c (v := .int 2)) (ev_var rfl) (.inl (by decide)))) (by congr 1))) eo_none (by omega)) (e6 _ _ hD5) (by omega) fun H7 e7 => ?_
            refine ⟨addN (un n q t) L2, _, rfl, Ex.mut ((e5.trans e6).trans e7) nD, upd_same, nodup_addN nd2, fun x => ?_⟩
            rw [mem_addN, hL2 x]
            constructor
            · rintro ((h | ⟨p, hp, h⟩) | rfl)
              · exact .inl h
              · exact .inr ⟨p, by omega, h⟩
              · exact .inr ⟨q, by omega, hb, rfl⟩
            · rintro (h | ⟨p, hp, htw, rfl⟩)
              · exact .inl (.inl h)
              · by_cases c : p = q
                · subst c
                  exact .inr rfl
                · exact .inl (.inr ⟨p, by omega, htw, rfl⟩)
          · refine ⟨L2, _, rfl, e5.trans e6, e6 _ _ hD5, nd2, fun x => ?_⟩
            rw [hL2 x]
            constructor
            · rintro (h | ⟨p, hp, h⟩)
              · exact .inl h
              · exact .inr ⟨p, by omega, h⟩
            · rintro (h | ⟨p, hp, htw, rfl⟩)
              · exact .inl h
              · by_cases c : p = q
                · subst c
                  rw [hb] at htw
                  cases htw
                · exact .inr ⟨p, by omega, htw, rfl⟩
        · obtain ⟨L2, y6, rfl, e5, hD5, nd2, hL2⟩ := h
          refine ⟨L2, _, _, rfl, e5, hD5, nd2, fun x => ?_⟩
          rw [hL2 x, take_next ht]
          constructor
          · rintro (⟨y, hy, h⟩ | ⟨p, hp, h⟩)
            · exact ⟨y, List.mem_append.mpr (.inl hy), h⟩
            · exact ⟨t, List.mem_append.mpr (.inr (List.mem_singleton.mpr rfl)), p, h⟩
          · rintro ⟨y, hy, p, htw, rfl⟩
            rcases List.mem_append.mp hy with hy | hy
            · exact .inl ⟨y, hy, p, htw, rfl⟩
            · have := List.mem_singleton.mp hy
              subst this
              refine .inr ⟨p, ?_, htw, rfl⟩
              have := twice_le htw
              simp only [Int.toNat_natCast]
              omega
      · obtain ⟨L', y5, y6, rfl, e4, hD, ndL, hL'⟩ := h
        rw [List.length_map, List.take_length] at hL'
        refine s_asgL (el_listD (ev_var rfl) hD) fun S2 H5 nS2 e5 hS2 => ?_
        refine ⟨l.length + 1 - (j + 1), by omega, S2, L', j + 1, _, _, _, rfl, hS2, ((e2.trans e3).trans e4).trans e5, ndL, fun x => ?_, .inr (by omega), rfl⟩
        rw [hL' x, R.down]
        constructor
        · rintro ⟨y, hy, p, htw, rfl⟩
          exact ⟨y, (hL y).mp hy, unCp htw⟩
        · rintro ⟨y, hy, hc⟩
          exact ⟨y, (hL y).mpr hy, un_iff.mpr hc⟩
    · have hmem : dcB n l e = decide (e ∈ L) := by
        refine bool_dec ?_
        rw [dcB_iff h1 ol oe, hL e]
        constructor
        · rintro ⟨i, hi⟩
          have hil := hi.len
          have hij : i * n ≤ i * n := Nat.le_refl _
          rcases Nat.lt_trichotomy i j with q | q | q
          · exfalso
            have : (i + 1) * n ≤ j * n := Nat.mul_le_mul_right n q
            rw [Nat.succ_mul] at this
            omega
          · rw [← q]
            exact hi
          · exfalso
            obtain ⟨d, rfl⟩ := Nat.exists_eq_add_of_le q
            have hi' : R n (d + 1 + j) e l := by
              rw [show d + 1 + j = j + 1 + d by omega]
              exact hi
            obtain ⟨m, hm1, hm2⟩ := R.split (k := d + 1) (n := j) hi'
            have hmL := (hL m).mpr hm2
            have hml := hm1.len
            have hne : L ≠ [] := fun z => by rw [z] at hmL; cases hmL
            have hb2 : ¬ (e.length < hd) := by
              intro z
              rw [show decide ((e.length : Int) < (hd : Int)) = true from decide_eq_true (by omega), decide_eq_false hne] at hb
              cases hb
            obtain ⟨x0, r0, hx0⟩ := List.exists_cons_of_ne_nil hne
            have hx0l := hlen x0 (by rw [hx0]; exact List.mem_cons_self)
            have hd0 : hd = x0.length := by show (match L with | [] => 0 | x :: _ => x.length) = _; rw [hx0]
            have := hlen m hmL
            rw [Nat.succ_mul] at hml
            omega
        · exact fun h => ⟨j, h⟩
      rw [hmem] at k
      exact s_ret (ev_inX (K := K) (ev_var rfl) (ev_var rfl) (sq_of (e3 _ _ hS))) fun H4 e4 => k H4 ((e2.trans e3).trans e4)
end
end K7

set_option Elab.async false
set_option linter.all false
set_option maxRecDepth 100000
set_option maxHeartbeats 4000000
/-! Sets of texts: what stands in one, how a text comes into it. -/
namespace K7
open PySem PySem.Spec PyProof.Rows L2
/-- the text of a row -/
def rowX (r : Int × Value) : Str := match r.2 with | .str x _ => x | _ => Str.empty
/-- the set at b: its texts, their number -/
structure TxSet (W : World) (hp : Heap) (b : Addr) (In : Str → Bool) (c : Nat) (ob : Obj) (rows : Array (Int × Value)) (age : Nat) (tab : SetTable) : Prop where
  here : hp.get? b = some ob
  plain : ob.ExactSet
  data : ob.data = .set rows age tab
  good : ∀ r ∈ rows.toList, ∃ x k, r.2 = Value.str x k ∧ r.1 = hashStr W x
  once : (rows.toList.map rowX).Nodup
  mem : ∀ x, In x = true ↔ x ∈ rows.toList.map rowX
  few : rows.size < scanBound
  fits : tab.fits rows.size = true
  many : rows.size = c
  ris : Ris tab.place.toList
  led : W.params.followText "set-order" = true ∨ tab.led = true
def SetX (W : World) (hp : Heap) (b : Addr) (In : Str → Bool) (c : Nat) : Prop := ∃ ob rows age tab, TxSet W hp b In c ob rows age tab
section
variable {Pg : Program} {W : World} {hp hp' : Heap} {b : Addr} {In In' : Str → Bool} {c : Nat}
theorem SetX.at (R : SetX W hp b In c) (keep : ∀ ob, hp.get? b = some ob → hp'.get? b = some ob) : SetX W hp' b In c := by
  obtain ⟨ob, rows, age, tab, R⟩ := R
  exact ⟨ob, rows, age, tab, { R with here := keep ob R.here }⟩
theorem SetX.eq (R : SetX W hp b In c) (e : ∀ x, In' x = In x) : SetX W hp b In' c := by
  rw [show In' = In from funext e]
  exact R
theorem isStr_self (x : Str) (k : Tok) : (PySem.strKind Pg W).is x (.str x k) = true := by
  show Value.isStrOf x (.str x k) = true
  simp [Value.isStrOf]
theorem good_rows {rows : List (Int × Value)} (g : ∀ r ∈ rows, ∃ x k, r.2 = Value.str x k ∧ r.1 = hashStr W x) : ElemsOf (PySem.strKind Pg W) rows := fun r hr => by
  obtain ⟨x, k, e1, e2⟩ := g r hr
  exact ⟨⟨x, by rw [e1]; exact isStr_self x k, e2⟩, by rw [e1] <;> rfl⟩
theorem row_is {r : Int × Value} (g : ∃ x k, r.2 = Value.str x k ∧ r.1 = hashStr W x) (z : Str) : (PySem.strKind Pg W).is z r.2 = true ↔ rowX r = z := by
  obtain ⟨x, k, e1, _⟩ := g
  unfold rowX
  rw [e1]
  constructor
  · intro q
    obtain ⟨k', e⟩ := Value.isStrOf_shape (show Value.isStrOf z (.str x k) = true from q)
    injection e
  · rintro rfl
    exact isStr_self _ _
theorem row_mem {rows : List (Int × Value)} (g : ∀ r ∈ rows, ∃ x k, r.2 = Value.str x k ∧ r.1 = hashStr W x) (z : Str) : z ∈ rows.map rowX ↔ ∃ r ∈ rows, (PySem.strKind Pg W).is z r.2 = true := by
  rw [List.mem_map]
  exact ⟨fun ⟨r, hr, q⟩ => ⟨r, hr, (row_is (g r hr) z).mpr q⟩, fun ⟨r, hr, q⟩ => ⟨r, hr, (row_is (g r hr) z).mp q⟩⟩
end
section
variable {Pg : Program} {W : World} {A : Around} {E : Value → Shared → Prop} {sh : Shared} {b : Addr} {In : Str → Bool} {c : Nat}
/-- the rows with a new one in, laid, and the table made wider if it is too full -/
theorem setX_lay {note : Bool → Sem Unit} (hnote : ∀ (q : Bool) (s1 : Shared) (Z : Unit → Shared → Prop), Z () s1 → wpAny (model Pg W) A (note q) Z E s1)
    {ob : Obj} {rows : Array (Int × Value)} {age : Nat} {tab : SetTable} (here : sh.heap.get? b = some ob) (plain : ob.ExactSet) (data : ob.data = .set rows age tab)
    {rows1 : Array (Int × Value)} {tab1 : SetTable} {In1 : Str → Bool} (g1 : ∀ r ∈ rows1.toList, ∃ x k, r.2 = Value.str x k ∧ r.1 = hashStr W x) (once1 : (rows1.toList.map rowX).Nodup) (mem1 : ∀ x, In1 x = true ↔ x ∈ rows1.toList.map rowX)
    (few1 : rows1.size < scanBound) (fits1 : tab1.fits rows1.size = true) (ris1 : Ris tab1.place.toList) (led1 : W.params.followText "set-order" = true ∨ tab1.led = true) {dum : Bool} {Z : Option Bool → Shared → Prop}
    (hZ : ∀ hp', Heap.SameBut b sh.heap hp' → SetX W hp' b In1 rows1.size → Z (some true) { sh with heap := hp' }) :
    wpAny (model Pg W) A (do
      storeSet b rows1 tab1
      if (!dum && tab1.tooFull) = true then do
        note (relayAll tab1 rows1 (SetTable.grown rows1.size)).2.2
        storeSet b (relayAll tab1 rows1 (SetTable.grown rows1.size)).1 (relayAll tab1 rows1 (SetTable.grown rows1.size)).2.1
        pure (some true)
      else pure (some true)) Z E sh := by
  have same1 := Heap.SameBut.update sh.heap b (Obj.putSet rows1 tab1)
  have here1 := store_at (es' := rows1) (t' := tab1) here data
  refine wpAny_bind (wpAny_storeSet_of here data ?_ (fits_of_scanBound few1))
  by_cases full : (!dum && tab1.tooFull) = true
  · rw [if_pos full]
    have perm2 := relayAll_perm tab1 rows1 (SetTable.grown rows1.size)
    have fits2 := relayAll_fits tab1 rows1 (SetTable.grown rows1.size)
    have ris2 := relayAll_ris tab1 rows1 (SetTable.grown rows1.size)
    have led2 := relayAll_led tab1 rows1 (SetTable.grown rows1.size)
    generalize relayAll tab1 rows1 (SetTable.grown rows1.size) = Y at perm2 fits2 ris2 led2 ⊢
    obtain ⟨rows2, tab2, gave⟩ := Y
    dsimp only at perm2 fits2 ris2 led2 ⊢
    have size2 : rows2.size = rows1.size := (Array.length_toList (xs := rows2)).symm.trans (perm2.length_eq.trans Array.length_toList)
    have few2 : rows2.size < scanBound := size2 ▸ few1
    refine wpAny_bind (hnote _ _ _ (wpAny_bind (wpAny_storeSet_of here1 rfl (wpAny_pure (hZ _ (same1.trans (Heap.SameBut.update _ b _)) ?_)) (fits_of_scanBound few2))))
    exact ⟨_, rows2, _, tab2, store_at (es' := rows2) (t' := tab2) here1 rfl, plain, rfl, fun r hr => g1 r (perm2.mem_iff.mp hr), (perm2.map rowX).nodup_iff.mpr once1, fun x => (mem1 x).trans (perm2.map rowX).mem_iff.symm,
      few2, fits2, size2, ris2, led1.imp id fun q => led2.trans q⟩
  · rw [if_neg full]
    exact wpAny_pure (hZ _ same1 ⟨_, rows1, _, tab1, here1, plain, rfl, g1, once1, mem1, few1, fits1, rfl, ris1, led1⟩)
/-- a text comes in -/
theorem setX_in {x : Str} {k : Tok} {Q : Bool → Shared → Prop} (R : SetX W sh.heap b In c) (room : c + 1 < scanBound)
    (hQ : ∀ hp', Heap.SameBut b sh.heap hp' → SetX W hp' b (fun z => In z || decide (z = x)) (if In x = true then c else c + 1) → Q (!In x) { sh with heap := hp' }) :
    wpAny (model Pg W) A (setAddHashed b (.str x k) ((PySem.strKind Pg W).hash x)) Q E sh := by
  obtain ⟨ob, rows, age, tab, here, plain, data, good, once, mem, few, fits, many, ris, led⟩ := R
  have self : (PySem.strKind Pg W).is x (.str x k) = true := isStr_self x k
  have scan : (Value.str x k).scannable = true := rfl
  have elems : ElemsOf (PySem.strKind Pg W) rows.toList := good_rows good
  have quiet : ∀ (q : Bool) {s1 : Shared} {Z : Unit → Shared → Prop}, Z () s1 → wpAny (model Pg W) A (match q with | true => rule "set.scan.the-table-gave-way" | false => pure ()) Z E s1 := fun q s1 Z z => by
    cases q with
    | false => exact wpAny_pure z
    | true => exact wpAny_rule z
  unfold setAddHashed setAddHashedIn
  refine wpAny_holding (wpAny_bind (wpAny_setState_of here data fits ?_))
  dsimp only
  rw [byScan_of scan few elems]
  simp only [↓reduceIte]
  unfold setAddByScan
  refine wpAny_bind (wpAny_bind (wpAny_rule (wpAny_bind (wpAny_setScan_of self here data fits elems ?_))))
  cases at0 : List.findIdx? (fun r => (PySem.strKind Pg W).is x r.2) rows.toList with
  | some j =>
    obtain ⟨jlt, jis, _⟩ := List.findIdx?_eq_some_iff_getElem.mp at0
    have isIn : In x = true := (mem x).mpr ((row_mem (Pg := Pg) good x).mpr ⟨rows.toList[j], List.getElem_mem jlt, jis⟩)
    have z := hQ sh.heap (Heap.SameBut.refl b sh.heap) ⟨ob, rows, age, tab, here, plain, data, good, once, fun y => by
      rw [Bool.or_eq_true, decide_eq_true_eq, ← mem y]
      exact ⟨fun q => q.elim id fun e => by rw [e]; exact isIn, Or.inl⟩, few, fits, by rw [if_pos isIn]; exact many, ris, led⟩
    rw [isIn] at z
    dsimp only
    exact wpAny_pure (wpAny_pure z)
  | none =>
    dsimp only
    have out : x ∉ rows.toList.map rowX := fun z => by
      obtain ⟨r, hr, q⟩ := (row_mem (Pg := Pg) good x).mp z
      have no := List.findIdx?_eq_none_iff.mp at0 r hr
      rw [q] at no
      cases no
    have notIn : In x = false := by
      cases q : In x with
      | true => exact absurd ((mem x).mp q) out
      | false => rfl
    have permN := layNew_perm tab rows ((PySem.strKind Pg W).hash x) (.str x k)
    have fitsN := layNew_fits tab rows ((PySem.strKind Pg W).hash x) (.str x k)
    have risN := layNew_ris tab rows ((PySem.strKind Pg W).hash x) (.str x k) ris
    have ledN := layNew_led tab rows ((PySem.strKind Pg W).hash x) (.str x k)
    generalize layNew tab rows ((PySem.strKind Pg W).hash x) (.str x k) = Y at permN fitsN risN ledN ⊢
    obtain ⟨rows1, tab1, dum, gave⟩ := Y
    dsimp only at permN fitsN risN ledN ⊢
    rw [Array.toList_push] at permN
    have permC : rows1.toList.Perm (((PySem.strKind Pg W).hash x, Value.str x k) :: rows.toList) := permN.trans (List.perm_append_singleton _ _)
    have permK : (rows1.toList.map rowX).Perm (x :: rows.toList.map rowX) := permC.map rowX
    have good1 : ∀ r ∈ rows1.toList, ∃ x k, r.2 = Value.str x k ∧ r.1 = hashStr W x := fun r hr => (List.mem_cons.mp (permC.mem_iff.mp hr)).elim (fun z => ⟨x, k, by rw [z], by rw [z]; rfl⟩) (good r)
    have once1 : (rows1.toList.map rowX).Nodup := permK.nodup_iff.mpr (List.nodup_cons.mpr ⟨out, once⟩)
    have mem1 : ∀ y, (In y || decide (y = x)) = true ↔ y ∈ rows1.toList.map rowX := fun y => by
      rw [permK.mem_iff, List.mem_cons, ← mem y, Bool.or_eq_true, decide_eq_true_eq]
      exact or_comm
    have size1 : rows1.size = c + 1 := (Array.length_toList (xs := rows1)).symm.trans (permC.length_eq.trans (by rw [List.length_cons, Array.length_toList, many]))
    have few1 : rows1.size < scanBound := size1 ▸ room
    have led1 : W.params.followText "set-order" = true ∨ tab1.led = true := led.imp id fun q => ledN.trans q
    have fin : ∀ hp', Heap.SameBut b sh.heap hp' → SetX W hp' b (fun z => In z || decide (z = x)) rows1.size → Q true { sh with heap := hp' } := fun hp' same r => by
      have q := hQ hp' same
      rw [notIn] at q
      rw [size1] at r
      exact q r
    refine wpAny_bind (quiet _ ?_)
    split
    · refine wpAny_bind ?_
      rw [hashByValue_scannable 8 scan]
      refine wpAny_pure (setX_lay (fun q s1 Z z => ?_) here plain data good1 once1 mem1 few1 ?_ ?_ ?_ fun hp' same r => wpAny_pure (fin hp' same r))
      · cases q with
        | false => exact wpAny_pure z
        | true => exact wpAny_rule z
      · first | (split <;> first | exact fitsN | exact SetTable.fits_plain_off fitsN) | exact fitsN
      · first | (split <;> exact risN) | exact risN
      · first | (split <;> exact led1) | exact led1
    · refine wpAny_bind (wpAny_pure ?_)
      simp only [↓reduceIte]
      refine setX_lay (fun q s1 Z z => ?_) here plain data good1 once1 mem1 few1 fitsN risN led1 fun hp' same r => wpAny_pure (fin hp' same r)
      cases q with
      | false => exact wpAny_pure z
      | true => exact wpAny_rule z
theorem setX_empty {hp : Heap} {b : Addr} {xs : List Str} (here : hp.get? b = some { cls := .type "set", dict := none, data := .set #[] 0 (.fresh 0 0 (!W.params.followText "set-order")) }) : SetX W hp b (fun z => decide (z ∈ xs.take 0)) 0 :=
  ⟨_, #[], 0, _, here, ⟨rfl, rfl, rfl⟩, rfl, (fun r hr => absurd hr (by simp)), (by simp), (fun z => by simp), (by decide), (by rfl), rfl, List.Pairwise.nil, by
    show _ ∨ (!W.params.followText "set-order") = true
    cases W.params.followText "set-order" with
    | true => exact Or.inl rfl
    | false => exact Or.inr rfl⟩
/-- set.update's loop over texts -/
theorem setX_loop {It : Addr} {fp wr : List Addr} {G : Array GenState → Array GenState → Prop} {n : Nat} {Pv : Nat → Value → Prop} {St : Nat → Shared → Prop} {Z : Result → Shared → Prop}
    (walk : WalksS Pg W A.in1 It fp wr G n Pv St) (D : Addr) (apart : D ∉ fp) (xs : List Str) (hn : n = xs.length) (room : xs.length + 1 < scanBound) (val : ∀ i v, Pv i v → ∃ x k, xs[i]? = some x ∧ v = Value.str x k) :
    ∀ (left i : Nat) (sh : Shared), n - i = left → i ≤ n → St i sh → (∃ c, c ≤ i ∧ SetX W sh.heap D (fun z => decide (z ∈ xs.take i)) c) →
      (∀ s' c, Moved (D :: wr) G sh s' → c ≤ n → SetX W s'.heap D (fun z => decide (z ∈ xs)) c → Z (.ok (.ret .none)) s') →
      codeAny (model Pg W) A (.builtin "set.update.loop" ⟨[.ref D, .ref It], []⟩) Z sh := by
  have apart2 : D ∉ wr := fun q => apart (walk.sub _ q)
  have more : ∀ a ∈ wr, a ∈ D :: wr := fun a ha => List.mem_cons_of_mem _ ha
  intro left
  induction left with
  | zero =>
    intro i sh hleft hi st ⟨c, hc, R⟩ done
    obtain rfl : i = n := by omega
    refine codeAny_builtin F.entry_set_update_loop ?_
    rw [Around.under_plainId F.plain_set_update_loop _]
    show wpAny _ A.in1 (pyNext (.ref It) >>= _) _ _ sh
    refine wpAny_bind (walk.done sh _ _ st fun s' moved => ?_)
    rw [show xs.take i = xs from List.take_of_length_le (Nat.le_of_eq hn.symm)] at R
    show wpAny _ A.in1 (ret Value.none) _ _ s'
    exact wpAny_pure (done s' c (moved.mono more) hc (R.at fun ob e => moved.heap D ob apart2 e))
  | succ left ih =>
    intro i sh hleft hi st ⟨c, hc, R⟩ done
    have lt : i < n := by omega
    refine codeAny_builtin F.entry_set_update_loop ?_
    rw [Around.under_plainId F.plain_set_update_loop _]
    show wpAny _ A.in1 (pyNext (.ref It) >>= _) _ _ sh
    refine wpAny_bind (walk.item i sh _ _ lt st fun v s' hv st' moved => ?_)
    obtain ⟨x, k, hx, rfl⟩ := val i v hv
    have R' : SetX W s'.heap D (fun z => decide (z ∈ xs.take i)) c := R.at fun ob e => moved.heap D ob apart2 e
    show wpAny _ A.in1 (holding [Value.str x k] (setAdd D (.str x k)) >>= _) _ _ s'
    unfold setAdd
    refine wpAny_bind (wpAny_holding (wpAny_holding (wpAny_bind ((PySem.strKind Pg W).pyHash (k := x) (isStr_self x k) ?_))))
    refine setX_in (sh := { s' with toks := s'.toks + 1 }) R' (by omega) fun hp2 same R2 => ?_
    have R3 : SetX W hp2 D (fun z => decide (z ∈ xs.take (i + 1))) (if decide (x ∈ xs.take i) = true then c else c + 1) := R2.eq fun z => by
      rw [List.take_add_one, hx]
      simp [List.mem_append]
    have c3 : (if decide (x ∈ xs.take i) = true then c else c + 1) ≤ i + 1 := by split <;> omega
    refine wpAny_pure ⟨plainId_quiet F.plain_set_update_loop _, ih (i + 1) _ (by omega) lt (walk.frame _ s' _ _ st' (Nat.le_succ _) fun a ha ob e => ?_) ⟨_, c3, R3⟩ fun s2 c2 moved2 hc2 R4 => ?_⟩
    · exact (same.2 a fun e : a = D => apart (e ▸ ha)).trans e
    · exact done s2 c2 (Moved.trans walk.gtrans ((moved.mono more).then_heap (Nat.le_succ _) fun a ob ha e => (same.2 a fun e : a = D => ha (by rw [e]; exact List.mem_cons_self)).trans e) moved2) hc2 R4
/-- set(xs), xs a list of texts -/
theorem call_setX {lst : Addr} {items : Array Value} (xs : List Str) {Q : Value → Shared → Prop} (cool : A.handled = none) (hl : sh.heap.IsList lst items) (hit : StrsAre items.toList xs) (room : xs.length + 1 < scanBound)
    (h : ∀ (hp' : Heap) (tk c : Nat), SetX W hp' sh.heap.objs.size (fun z => decide (z ∈ xs)) c → c ≤ xs.length → (∀ a ob, sh.heap.get? a = some ob → hp'.get? a = some ob) → Q (.ref sh.heap.objs.size) { sh with heap := hp', toks := tk }) :
    wpAny (model Pg W) A (call (.type "set") [.ref lst]) Q E sh := by
  have many : items.size = xs.length := Array.length_toList.symm.trans (StrsAre.len_eq hit)
  obtain ⟨c, tl, gMro⟩ := F.called_set.mro
  have gMade := F.called_set.made
  have hsub := F.called_set.sub
  refine wpAny_call (codeAny_of_tree ?_)
  show wpAny _ _ (callAny (.type "set") _) _ _ _
  refine wpAny_pure ⟨Code.quiet_builtin _ (by decide +kernel), codeAny_builtin F.entry_type_call ?_⟩
  rw [Around.under_plain (weight_type_call_type "set" [.ref lst] []) rfl]
  have gNot := F.called_set.notType
  have gCan := F.called_set.canCreate
  have gCall := F.typeCall_set_1 (.ref lst)
  repeat (any_goals (first | assumption | wp_step))

  refine codeAny_mono (code_set_led1 (.ref lst) (E := E) (Q₁ := fun obj s₁ => obj = .ref sh.heap.objs.size ∧ s₁ = { sh with heap := sh.heap.push { cls := .type "set", dict := none, data := .set #[] 0 (.fresh 0 0 (!W.params.followText "set-order")) } }) ⟨rfl, rfl⟩) fun r s₁ hr => ?_
  cases r with
  | error e => exact hr
  | ok fl =>
    cases fl with
    | ret obj =>
      obtain ⟨rfl, rfl⟩ := hr
      have hS : (sh.heap.push { cls := .type "set", dict := none, data := .set #[] 0 (.fresh 0 0 (!W.params.followText "set-order")) }).get? sh.heap.objs.size = some { cls := .type "set", dict := none, data := .set #[] 0 (.fresh 0 0 (!W.params.followText "set-order")) } := Heap.get?_push_size _ rfl
      have isSet : Shared.TypeIs { sh with heap := sh.heap.push { cls := .type "set", dict := none, data := .set #[] 0 (.fresh 0 0 (!W.params.followText "set-order")) } } (.ref sh.heap.objs.size) "set" := ⟨_, hS, rfl⟩
      have gLook := F.called_set.init.lookup
      have gBind := F.called_set.init.bind (.ref sh.heap.objs.size)
      repeat (any_goals (first | assumption | wp_step))

      refine codeAny_mono (codeAny_call_builtin (R := wants (fun r ss => r = .none ∧ ∃ h' tk c, ss = { sh with heap := h', toks := tk } ∧ SetX W h' sh.heap.objs.size (fun j => decide (j ∈ xs)) c ∧ c ≤ xs.length ∧
          (∀ b o, sh.heap.get? b = some o → h'.get? b = some o)) E) F.called_set.init.plain F.entry_set_init (check_set_init_1 isSet ?_)) fun rr ss hrr => ?_
      · obtain ⟨oOf, oAt, oIs, oN, oHas⟩ := hl
        obtain ⟨oC, oD, oV, oS⟩ := oOf
        simp only at oIs oHas
        subst oIs; subst oHas
        have hol' : (sh.heap.push { cls := .type "set", dict := none, data := .set #[] 0 (.fresh 0 0 (!W.params.followText "set-order")) }).get? lst = some { cls := .type "list", dict := oD, data := .seq items oN, slots := oS } := Heap.get?_push_of_some _ oAt
        have gSub := F.sub_list_set
        have gFro := F.sub_list_frozenset
        have notD : (Value.type "list" == Value.type "dict") = false := by decide
        have isL : (sh.heap.push { cls := .type "set", dict := none, data := .set #[] 0 (.fresh 0 0 (!W.params.followText "set-order")) }).IsList lst items := ⟨_, hol', rfl, oN, rfl⟩
        unfold Builtin.«set.__init__» noKeywords Builtin.Frozenset.updateFrom
        generalize hPI : pyIter = PI
        wp_walk
        subst hPI

        refine wpAny_pyIter_list isL ?_
        refine wpAny_bind (wpAny_runValue ?_)
        have lold : lst < sh.heap.objs.size := Heap.lt_size oAt
        have cool3 : A.in1.in1.in1.handled = none := by simp [cool]
        have lne : lst ≠ (sh.heap.push { cls := .type "set", dict := none, data := .set #[] 0 (.fresh 0 0 (!W.params.followText "set-order")) }).objs.size := by
          rw [Heap.size_push]; exact Nat.ne_of_lt (Nat.lt_succ_of_lt lold)
        have apart : sh.heap.objs.size ∉ [(sh.heap.push { cls := .type "set", dict := none, data := .set #[] 0 (.fresh 0 0 (!W.params.followText "set-order")) }).objs.size, lst] := by
          rw [Heap.size_push]; simp only [List.mem_cons, List.not_mem_nil, or_false, not_or]
          exact ⟨Nat.ne_of_lt (Nat.lt_succ_self _), Nat.ne_of_gt lold⟩
        have val : ∀ (i : Nat) (v : Value), items[i]? = some v → ∃ x k, xs[i]? = some x ∧ v = Value.str x k := fun i v hv => by
          obtain ⟨y, t, e, hy⟩ := StrsAre.item hit i v (by rw [Array.getElem?_toList]; exact hv)
          exact ⟨y, t, hy, e⟩
        refine setX_loop ((Walks.list cool3 _ lst lne items).toS) sh.heap.objs.size
          apart xs many room val (items.size - 0) 0 _ (by omega) (Nat.zero_le _)
          ⟨⟨_, Heap.get?_push_size _ rfl, rfl, rfl⟩, (isL.push _)⟩ ⟨0, Nat.le_refl 0, setX_empty (Heap.get?_push_of_some _ hS)⟩ fun s' c' moved hc' R => ?_
        obtain ⟨hp', g2, d', tk', os'⟩ := s'
        obtain rfl : g2 = sh.gens := moved.gens
        obtain rfl : d' = sh.drawn := moved.drawn
        obtain rfl : os' = sh.os := moved.os
        show wpAny _ _ _ _ _ _
        refine wpAny_pure ?_
        show wpAny _ _ (ret Value.none) _ _ _
        refine wpAny_pure ⟨rfl, hp', tk', c', rfl, R, many ▸ hc', fun a ob e => ?_⟩
        have old : a < sh.heap.objs.size := Heap.lt_size e
        have ne1 : a ≠ sh.heap.objs.size := Nat.ne_of_lt old
        have ne2 : a ≠ (sh.heap.push { cls := .type "set", dict := none, data := .set #[] 0 (.fresh 0 0 (!W.params.followText "set-order")) }).objs.size := by
          rw [Heap.size_push]; exact Nat.ne_of_lt (Nat.lt_succ_of_lt old)
        exact moved.heap a ob (by simp only [List.mem_cons, List.not_mem_nil, or_false, not_or]; exact ⟨ne1, ne2⟩) (Heap.get?_push_of_some _ (Heap.get?_push_of_some _ e))
      · cases rr with
        | error e => exact hrr
        | ok fl₂ =>
          cases fl₂ with
          | ret r =>
            obtain ⟨rfl, h', tk, c', rfl, R, hc', keep⟩ := hrr
            repeat (any_goals (first | assumption | wp_step))
            exact h _ _ _ R hc' keep
          | _ => exact hrr.elim
    | _ => exact hr.elim
end
end K7

set_option Elab.async false
set_option linter.all false
set_option maxRecDepth 100000
set_option maxHeartbeats 4000000
/-! sorted of sets of texts, of lists of texts. -/
namespace K7
open PySem PySem.Spec PyProof.Rows L2 Evl
section
variable {Pg : Program} {W : World} {A : Around} {E : Value → Shared → Prop} {s : Shared} {b : Addr} {In : Str → Bool} {c : Nat}
theorem strs_of : ∀ (vs : List Value), (∀ v ∈ vs, ∃ x k, v = Value.str x k) → StrsAre vs (vs.map fun v => match v with | .str x _ => x | _ => Str.empty)
  | [], _ => .nil
  | v :: vs, h => by
    obtain ⟨x, k, rfl⟩ := h v List.mem_cons_self
    exact .cons x k (strs_of vs fun u hu => h u (List.mem_cons_of_mem _ hu))
theorem sorted_setX {Q : Value → Shared → Prop} (R : SetX W s.heap b In c) (cool : A.handled = none)
    (hQ : ∀ s' p (out : Array Value) (e : Nat) (xs : List Str), (∀ a ob, s.heap.get? a = some ob → s'.heap.get? a = some ob) → s'.gens = s.gens → s'.os = s.os → s.heap.objs.size ≤ p →
      s'.heap.get? p = some (seqObj "list" out e) → StrsAre out.toList xs → xs.Nodup → (∀ x, x ∈ xs ↔ In x = true) → xs.length = c → Q (.ref p) s') :
    wpAny (model Pg W) A (call (.builtin "sorted") [.ref b]) Q E s := by
  obtain ⟨ob, rows, age, tab, here, plain, data, good, once, mem, few, fits, many, ris, led⟩ := R
  refine Calls.call_function_entry kind_sorted plain_sorted entry_sorted (args_sorted1 _) ?_
  unfold Builtin.«sorted»
  refine wpAny_bind (m := checkCount "sorted" 1 1 _) (wpAny_pure (wpAny_bind (collect_set (A := A.in1) cool ⟨ob, here, plain.1, data⟩ fits few ris led fun s1 vs keep more gens1 os1 perm => ?_)))
  have len : vs.length = c := perm.length_eq.trans (by rw [List.length_map, Array.length_toList, many])
  have are : StrsAre vs (vs.map fun v => match v with | .str x _ => x | _ => Str.empty) := strs_of vs fun v hv => by
    obtain ⟨r, hr, q⟩ := List.mem_map.mp (perm.mem_iff.mp hv)
    obtain ⟨x, k, e, _⟩ := good r hr
    exact ⟨x, k, q ▸ e⟩
  have permX : (vs.map fun v => match v with | .str x _ => x | _ => Str.empty).Perm (rows.toList.map rowX) := by
    have q := perm.map fun v => match v with | .str x _ => x | _ => Str.empty
    rw [List.map_map] at q
    exact q
  have lenL : vs.length ≤ sizeLine := by rw [len, ← many]; exact fits_of_scanBound few
  refine wpAny_bind (wpAny_newList ?_ lenL)
  have hoL : (s1.heap.push (seqObj "list" vs.toArray 0)).get? s1.heap.objs.size = some (seqObj "list" vs.toArray 0) := Heap.get?_push_size _ rfl
  refine wpAny_bind (wpAny_holding (wpAny_call_entry slot_list_sort ⟨_, hoL, rfl⟩ entry_list_sort (list_sort_treeKAny (κ := PyProof.Rows.strKind) strKind_oneLt hoL are.keysOf (fun v1 v2 rest e => keyKind_strs (by rw [← e]; exact are)) lenL fun st hp hs => ⟨_, rfl, ?_⟩) (args_list_sort _)))
  obtain ⟨xs, are2, perm2, _⟩ := sorted_out_str are hp hs
  obtain ⟨e, he⟩ := sortedHeap_at (vs := vs) (out := (arrOf st).map (·.2)) hoL
  have permA : xs.Perm (rows.toList.map rowX) := perm2.trans permX
  refine wpAny_pure ⟨_, rfl, hQ _ s1.heap.objs.size _ e xs (fun a u hu => ?_) gens1 os1 more he are2 (permA.nodup_iff.mpr once) (fun x => permA.mem_iff.trans (mem x).symm) (permA.length_eq.trans (by rw [List.length_map, Array.length_toList, many]))⟩
  have q := keep a u hu
  have lt := Heap.lt_size q
  show (sortedHeap (s1.heap.push (seqObj "list" vs.toArray 0)) s1.heap.objs.size vs _).get? a = some u
  rw [sortedHeap_old (Nat.ne_of_lt lt) (by rw [size_push']; exact Nat.lt_succ_of_lt lt)]
  exact Heap.get?_push_of_some _ q
end
/-- the set of texts as the abstract heap holds it -/
def setXO (W : World) (b : Addr) (In : Str → Bool) (c : Nat) : HO := .ext fun h => SetX W h b In c
section
variable {X : Cx}
theorem setXO_new {W : World} {Pg : Program} {H : Hp} {h : Heap} {b : Addr} {In : Str → Bool} {c : Nat} (R : SetX W h b In c) : ObjOk Pg W H h b (setXO W b In c) := by
  have ⟨ob, _, _, _, R'⟩ := R
  exact ⟨R, ⟨ob, R'.here⟩, fun _ _ R1 keep => SetX.at R1 keep⟩
/-- set(xs) -/
def rSetX (K : PySem.W.Frag) (W : World) : List V → Hp → VK → Prop := fun vs H Q => ∃ (l : Addr) (xs : List Str), vs = [.ref l] ∧ SqL K H l (xs.map V.str) ∧ xs.length ≤ 60 ∧ ∀ p c, H p = none → Q (.ref p) (upd H p (setXO W p (fun z => decide (z ∈ xs)) c))
theorem cr_setX (hc : X.calm = true) : CallR X (.type "set") (rSetX X.K X.w) := by
  intro pins s σ H vs us Q I r h
  obtain ⟨l, xs, rfl, hs, few, q⟩ := h
  obtain ⟨its, rv, hl, _⟩ := I.list hs
  rw [Vals.ref1 r]
  refine call_setX (items := its.toArray) xs (I.ok.hd hc) hl.isList rv.strs (by unfold scanBound; omega) fun hp' tk c R hc' keep => ?_
  exact ⟨.ref _, upd H s.heap.objs.size (setXO X.w s.heap.objs.size (fun z => decide (z ∈ xs)) c), I.laid (t' := tk) keep (Nat.le_refl _) (setXO_new R), rfl, q _ c (I.hok.fresh (Nat.le_refl _))⟩
/-- sorted(s), s a set of texts -/
def rSortSetX (W : World) : List V → Hp → VK → Prop := fun vs H Q => ∃ (b : Addr) (In : Str → Bool) (c : Nat), vs = [.ref b] ∧ H b = some (setXO W b In c) ∧
  ∀ (xs : List Str) (p : Addr), xs.Nodup → (∀ x, x ∈ xs ↔ In x = true) → H p = none → Q (.ref p) (upd H p (.lst (xs.map V.str)))
theorem cr_sortSetX (hc : X.calm = true) : CallR X (.builtin "sorted") (rSortSetX X.w) := by
  intro pins s σ H vs us Q I r h
  obtain ⟨b, In, c, rfl, ha, q⟩ := h
  have R : SetX X.w s.heap b In c := (I.hok b _ ha).1
  have few : c ≤ sizeLine := by
    obtain ⟨ob, rows, age, tab, R'⟩ := R
    rw [← R'.many]
    exact fits_of_scanBound R'.few
  rw [Vals.ref1 r]
  refine sorted_setX R (I.ok.hd hc) fun s' p out e xs keep g o hp hg are once mem len => ?_
  have hlen : (xs.map V.str).length ≤ sizeLine := by rw [List.length_map, len]; exact few
  have np : H p = none := I.hok.fresh hp
  have J : Inv X pins σ (upd H p (.lst (xs.map V.str))) { s with heap := s'.heap, gens := s'.gens, drawn := s'.drawn, toks := s'.toks } :=
    I.call (ch := []) (Un.laid keep hp np) (I.hok.laid keep hp ⟨hlen, out.toList, e, vals_of_strs are, hg⟩) (by rw [g]; exact I.bare) (fun _ z => nomatch z)
  have es : s' = { s with heap := s'.heap, gens := s'.gens, drawn := s'.drawn, toks := s'.toks } := by
    cases s'
    cases s
    cases o
    rfl
  rw [es]
  exact ⟨.ref p, _, J, rfl, q xs p once mem np⟩
/-- sorted(xs), any number of texts -/
def rSortX (K : PySem.W.Frag) : List V → Hp → VK → Prop := fun vs H Q => ∃ (a : Addr) (xs : List Str), vs = [V.ref a] ∧ SqL K H a (xs.map V.str) ∧
  ∀ (ys : List Str) (p : Addr), ys.Perm xs → H p = none → Q (.ref p) (upd H p (.lst (ys.map V.str)))
theorem cr_sortX : CallR X (.builtin "sorted") (rSortX X.K) := by
  intro pins s σ H vs us Q I r h
  obtain ⟨a, xs, rfl, hs, q⟩ := h
  obtain ⟨its, rv, hl, hz⟩ := I.list hs
  rw [Vals.ref1 r]
  have many := rv.length
  refine PyProof.Rows.sorted_strsAny hl.isList rv.strs (by rw [← many]; exact hz) fun out ys are perm _ => ?_
  obtain ⟨ep, he⟩ := PyProof.Rows.sortedAll_at s.heap its out
  have hlen : (ys.map V.str).length ≤ sizeLine := by
    rw [List.length_map] at hz ⊢
    rw [perm.length_eq]
    exact hz
  exact ⟨.ref _, upd H (s.heap.objs.size + 1) (.lst (ys.map V.str)), I.laid (t' := s.toks) (fun _ _ => PyProof.Rows.sortedAll_old) (Nat.le_succ _) ⟨hlen, out.toList, ep, vals_of_strs are, he⟩, rfl, q ys _ perm (I.hok.fresh (Nat.le_succ _))⟩
end
end K7

set_option Elab.async false
set_option linter.all false
set_option maxRecDepth 100000
set_option maxHeartbeats 2000000
/-! _law_once, _law_after. -/
namespace K7
open PySem PySem.Spec PyProof.Rows L2 Evl
theorem enc_list : ∀ ys : List Str, (∀ y ∈ ys, ∃ t : Tx, y = enc t) → ∃ L : List Tx, ys = L.map enc
  | [], _ => ⟨[], rfl⟩
  | y :: ys, h => by
    obtain ⟨t, rfl⟩ := h y List.mem_cons_self
    obtain ⟨L, rfl⟩ := enc_list ys fun z hz => h z (List.mem_cons_of_mem _ hz)
    exact ⟨t :: L, rfl⟩
theorem mem_enc {L : List Tx} {t : Tx} : enc t ∈ L.map enc ↔ t ∈ L := by
  rw [List.mem_map]
  exact ⟨fun ⟨a, ha, e⟩ => by rwa [← enc_inj e], fun h => ⟨t, h, rfl⟩⟩
theorem nodup_enc {L : List Tx} : (L.map enc).Nodup ↔ L.Nodup := by
  unfold List.Nodup
  rw [List.pairwise_map]
  exact ⟨fun h => h.imp fun q e => q (by rw [e]), fun h => h.imp fun q e => q (enc_inj e)⟩
theorem map_enc (L : List Tx) : (L.map enc).map V.str = L.map tx := by
  rw [List.map_map]
  rfl
/-- a reading that gives a new list of texts of which S is known -/
def EvX (te : TE) (σ : L2.St) (H : Hp) (S : List Tx → Prop) : Prop := ∀ H1, Ex H H1 → ∀ Q : VK, (∀ L p H2, S L → H1 p = none → Ex H1 H2 → H2 p = some (.lst (L.map tx)) → Q (.ref p) H2) → te σ H1 Q
abbrev GiveX (S : List Tx → Prop) (H : Hp) (Q : VK) : Prop := ∀ L, S L → GiveL (L.map tx) H Q
section
variable {K : PySem.W.Frag} {W : World} {σ : L2.St} {H H' : Hp} {ta tb te tl : TE} {D : Ends} {tz tu : TS} {S S' : List Tx → Prop} {t : TT}
theorem ex_of {L : List Tx} (h : EvL te σ H (L.map tx)) : EvX te σ H (fun M => M = L) := fun H1 e Q q => h H1 e Q fun p H2 np e2 hp => q L p H2 rfl np e2 hp
theorem ex_call {sp : Sp} {E : XK} {a : TA} {vs : List V} (h : EvA a σ H vs) (hs : ∀ H1, Ex H H1 → ∀ (Q : VK) (E : XK), GiveX S H1 Q → sp vs H1 Q E) : EvX (tCall sp [] E a) σ H S := fun H1 e Q q =>
  h H1 e _ fun H2 e2 => by
    rw [List.append_nil]
    exact hs H2 (e.trans e2) Q E fun L sL p H3 np e3 hp => q L p H3 sL (fresh_back e2 np) (e2.trans e3) hp
theorem ex_imp (h : EvX te σ H S) (i : ∀ L, S L → S' L) : EvX te σ H S' := fun H1 e Q q => h H1 e Q fun L p H2 sL => q L p H2 (i L sL)
/-- sorted(set(xs)) -/
theorem ex_sortSet {L : List Tx} (h : EvL te σ H (L.map tx)) (hl : L.length ≤ 60) : EvX (tCB (rSortSetX W) (tCons (tCB (rSetX K W) (tCons te tNil)) tNil)) σ H (fun M => M.Nodup ∧ ∀ x, x ∈ M ↔ x ∈ L) := fun H1 e Q q =>
  h H1 e _ fun p H2 np e2 hp => by
    refine ⟨p, L.map enc, rfl, sq_of (by rw [map_enc]; exact hp), by rw [List.length_map]; exact hl, fun b c nb => ?_⟩
    refine ⟨b, _, c, rfl, upd_same, fun xs r once mem nr => ?_⟩
    have e3 : Ex H2 (upd H2 b (setXO W b (fun z => decide (z ∈ L.map enc)) c)) := Ex.new nb
    obtain ⟨M, rfl⟩ := enc_list xs fun y hy => by
      have := of_decide_eq_true ((mem y).mp hy)
      obtain ⟨a, _, e⟩ := List.mem_map.mp this
      exact ⟨a, e.symm⟩
    refine q M r _ ⟨nodup_enc.mp once, fun x => ?_⟩ (fresh_back e2 (fresh_back e3 nr)) ((e2.trans e3).trans (Ex.new nr)) (by rw [map_enc]; exact upd_same)
    rw [← mem_enc (L := M), mem (enc x), decide_eq_true_eq, mem_enc]
/-- sorted(xs) -/
theorem ex_sort (h : EvX te σ H S) (hS : ∀ L M, S L → M.Nodup → (∀ x, x ∈ M ↔ x ∈ L) → S' M) (hn : ∀ L, S L → L.Nodup) : EvX (tCB (rSortX K) (tCons te tNil)) σ H S' := fun H1 e Q q =>
  h H1 e _ fun L p H2 sL np e2 hp => by
    refine ⟨p, L.map enc, rfl, sq_of (by rw [map_enc]; exact hp), fun ys r perm nr => ?_⟩
    obtain ⟨M, rfl⟩ := enc_list ys fun y hy => by
      obtain ⟨a, _, e⟩ := List.mem_map.mp (perm.mem_iff.mp hy)
      exact ⟨a, e.symm⟩
    refine q M r _ (hS L M sL (nodup_enc.mp (perm.nodup_iff.mpr (nodup_enc.mpr (hn L sL)))) fun x => ?_) (fresh_back e2 nr) (e2.trans (Ex.new nr)) (by rw [map_enc]; exact upd_same)
    rw [← mem_enc (L := M), perm.mem_iff, mem_enc]
theorem ex_sortV {a : Addr} {L : List Tx} (h : Ev te σ H (.ref a)) (ha : SqL K H a (L.map tx)) (hn : L.Nodup) : EvX (tCB (rSortX K) (tCons te tNil)) σ H (fun M => M.Nodup ∧ ∀ x, x ∈ M ↔ x ∈ L) := fun H1 e Q q =>
  h H1 e _ fun H2 e2 => by
    refine ⟨a, L.map enc, rfl, by rw [map_enc]; exact ex_l (e.trans e2) ha, fun ys r perm nr => ?_⟩
    obtain ⟨M, rfl⟩ := enc_list ys fun y hy => by
      obtain ⟨a, _, e⟩ := List.mem_map.mp (perm.mem_iff.mp hy)
      exact ⟨a, e.symm⟩
    refine q M r _ ⟨nodup_enc.mp (perm.nodup_iff.mpr (nodup_enc.mpr hn)), fun x => ?_⟩ (fresh_back e2 nr) (e2.trans (Ex.new nr)) (by rw [map_enc]; exact upd_same)
    rw [← mem_enc (L := M), perm.mem_iff, mem_enc]
theorem s_retX (h : EvX te σ H S) (k : ∀ L p H1, S L → H p = none → Ex H H1 → H1 p = some (.lst (L.map tx)) → D.rt (.ref p) H1) : tRet te D σ H := h H (Ex.refl H) _ k
theorem q_asgX {i : Nat} (h : EvX te σ H S) (k : ∀ L p H1, S L → H p = none → Ex H H1 → H1 p = some (.lst (L.map tx)) → tz D (σ.set i (some (.ref p))) H1) : tSeq (tAsg te (gName i)) tz D σ H := h H (Ex.refl H) _ k
theorem s_forX {j : Nat} (h : EvX tl σ H S) (Pv : List Tx → Addr → Nat → L2.St → Hp → Prop) (h0 : ∀ L p H1, S L → H p = none → Ex H H1 → H1 p = some (.lst (L.map tx)) → Pv L p 0 σ H1) (hl : ∀ L p i σ' H', i ≤ L.length → Pv L p i σ' H' → H' p = some (.lst (L.map tx)))
    (hs : ∀ L p i x σ' H', S L → L[i]? = some x → Pv L p i σ' H' → tu { D with nx := Pv L p (i + 1), ct := Pv L p (i + 1), bk := D.nx } (σ'.set j (some (tx x))) H') (hd : ∀ L p σ' H', S L → Pv L p L.length σ' H' → D.nx σ' H') : tFor (iList K tl) (gName j) tu D σ H :=
  h H (Ex.refl H) _ fun L p H1 sL np e hp => ⟨p, rfl, ⟨_, sq_of hp⟩, for_list (xs := L.map tx) (Pv L p) (h0 L p H1 sL np e hp) (fun i σ' H' hi h => sq_of (hl L p i σ' H' (by rwa [List.length_map] at hi) h)) (fun i x σ' H' hx h => by
    obtain ⟨b, hb, rfl⟩ := get_tx hx
    exact hs L p i b σ' H' sL hb h) (fun σ' H' h => hd L p σ' H' sL (by rwa [List.length_map] at h))⟩
theorem el_compRI {j n : Nat} {z : Int} {a : TA} {vs : List Nat} (p : Nat → Bool) (q : Nat → V) (hz : z.toNat = n) (hlo : -1000 ≤ z) (hhi : z ≤ 1000) (h : EvA a σ H [.int z]) (hw : ∀ x, wipe ((wipe σ vs).set j (some x)) vs = wipe σ vs)
    (ht : ∀ (b : Nat) H1, b < n → Ex H H1 → EvT t ((wipe σ vs).set j (some (nt b))) H1 (p b) ∧ (p b = true → Ev te ((wipe σ vs).set j (some (nt b))) H1 (q b))) :
    EvL (tLc (iRng1 a) (gName j) t te vs) σ H (((List.range n).filter p).map q) := el_comp (List.range n) p q (by rw [List.length_range]; omega) fun H1 e1 R hR =>
  h H1 e1 _ fun H2 e2 => ⟨z, rfl, by omega, by omega, hR _ _ _ H2 e2 (by rw [hz, List.length_range]; exact walk_range (lo := 0) (n := n)) trivial (fun _ _ _ _ => trivial) fun i b x Ha Hb hb ea y => by
    obtain ⟨rfl, ex⟩ := y
    obtain ⟨hi, eb⟩ := List.getElem?_eq_some_iff.mp hb
    rw [List.getElem_range] at eb
    subst eb
    rw [List.length_range] at hi
    have ex' : x = nt i := ex.trans (by
      show V.int (0 + (i : Int)) = _
      rw [Int.zero_add])
    subst ex'
    exact ⟨Ex.refl _, _, fun Q hQ => hQ _ (Ex.refl _), hw _, ht i Hb hi ea⟩⟩
end
section
variable {P : Program} {w : World} {K : PySem.W.Frag} {mg : Str → Option Value} {base : Heap}
def sp_once : Sp := fun vs H Q _ => ∃ (l : Tx) (n : Nat), vs = [tx l, nt n] ∧ Ok l ∧ l.length ≤ 40 ∧ 1 ≤ n ∧ n ≤ 6 ∧ GiveX (fun L => L.Nodup ∧ ∀ x, x ∈ L ↔ Cp n l x) H Q
theorem ok_once (T : TopE K mg) : Has P w K mg base CX0 1 "_law_once" ["_law_text", "_law_wide"] sp_once := by
  refine has_of T 33 33 rfl rfl rfl sc_l_once (fun _ _ _ _ _ _ us hl => match us, hl with | [_, _], _ => rfl) (fun vs H Q E h => ?_) (fun cdv f A outer s H vs Q E hr h => ?_)
  · obtain ⟨l, n, rfl, _⟩ := h
    rfl
  · obtain ⟨l, n, rfl, ok, hl, h1, h6, k⟩ := h
    refine ⟨_, PSs.nox (pss_one (ps_ret (pe_callB (cr_sortSetX rfl) (by rfl) T.f_sorted (by decide +kernel) (pa_cons (pe_callTy (cr_setX rfl) (by rfl) T.f_set (by decide +kernel) (pa_cons
      (pe_lc (own := [("_law_k", 2)]) (g := gName 2) (tt := tYes) rfl sc_l_once.nd (pi_range1 (by rfl) T.f_range (pa_cons (pe_op op_add (pe_op op_sub (pe_callB call_len_str (by rfl) T.f_len PySem.boot_len (pa_cons (pv 0) pa_nil)) (pv 1)) pe_int) pa_nil))
        (blkOk_by (N := N_l_once) (sc := defScope s_l_once) (by decide +kernel)) (fun _ _ _ _ _ => pg_name (i := 2) sc_l_once.nd rfl (Or.inl rfl)) (fun _ _ _ _ _ => pts_nil)
        (fun _ _ _ _ _ => pe_op op_add_str (pe_slice sl_str (pv 0) po_none (po_some (pe_op op_add (pv 2) (pv 1)))) (pe_slice sl_str (pv 0) (po_some (pv 2)) po_none))) pa_nil)) pa_nil)))), ?_⟩
    refine s_retX (ex_sortSet (L := (List.range (l.length + 1 - n)).map fun p => cp n p l) (el_is (el_compRI (n := l.length + 1 - n) (z := (l.length : Int) - (n : Int) + 1) (fun _ => true) (fun p => tx (cp n p l)) (by omega) (by omega) (by omega)
      (ea_1 (ev_add (ev_sub (ev_lenT (ev_var rfl) (by omega)) (ev_var rfl)) (ev_c (v := .int 1)))) (fun x => rfl)
      fun b H1 hb e => ⟨et_yes, fun _ => ev_cpT (ev_var rfl) eo_none (eo_some (ev_is (ev_add (ev_var rfl) (ev_var rfl)) (by congr 1))) (eo_some (ev_var rfl)) eo_none (by omega)⟩) (by rw [filt_true, List.map_map]; rfl)) (by rw [List.length_map, List.length_range]; omega))
      fun L p H1 hL np e hp => k L ⟨hL.1, fun x => ?_⟩ p H1 np e hp
    rw [hL.2 x, List.mem_map]
    constructor
    · rintro ⟨q, hq, rfl⟩
      rw [List.mem_range] at hq
      exact ⟨q, by omega, rfl⟩
    · rintro ⟨q, hq, rfl⟩
      exact ⟨q, by rw [List.mem_range]; omega, rfl⟩
end
end K7

set_option Elab.async false
set_option linter.all false
set_option maxRecDepth 100000
set_option maxHeartbeats 2000000
/-! _law_after. -/
namespace K7
open PySem PySem.Spec PyProof.Rows L2 Evl
theorem R.up {w j : Nat} {e x : Tx} : R w (j + 1) e x ↔ ∃ m, R w j e m ∧ Cp w m x := Iff.rfl
section
variable {P : Program} {w : World} {K : PySem.W.Frag} {mg : Str → Option Value} {base : Heap}
def sp_after : Sp := fun vs H Q _ => ∃ (l : Tx) (n t : Nat), vs = [tx l, nt n, nt t] ∧ Ok l ∧ l.length + t * n ≤ 22 ∧ 1 ≤ n ∧ n ≤ 6 ∧ GiveX (fun L => L.Nodup ∧ ∀ x, x ∈ L ↔ R n t l x) H Q
theorem ok_after (T : TopE K mg) : Has P w K mg base CX0 2 "_law_after" ["_law_text", "_law_wide", "_law_times"] sp_after := by
  have F1 : Has P w K mg base CX0 1 "_law_once" ["_law_text", "_law_wide"] sp_once := ok_once T
  refine has_of T 34 34 rfl rfl rfl sc_l_after (fun _ _ _ _ _ _ us hl => match us, hl with | [_, _, _], _ => rfl) (fun vs H Q E h => ?_) (fun cdv f A outer s H vs Q E hr h => ?_)
  · obtain ⟨l, n, t, rfl, _⟩ := h
    rfl
  · obtain ⟨l, n, t, rfl, ol, hl, h1, h6, k⟩ := h
    have hu := hu_of hr
    have htn : t ≤ t * n := Nat.le_mul_of_pos_right t h1
    refine ⟨_, PSs.nox (pss_cons (ps_set (i := 3) sc_l_after.nd rfl (Or.inl rfl) (pe_lst (pa_cons (pv 0) pa_nil)))
      (pss_cons (ps_for PassesOwn.never rfl (pi_range1 (by rfl) T.f_range (pa_cons (pv 2) pa_nil)) (pg_name (i := 4) sc_l_after.nd rfl (Or.inl rfl))
        (pss_cons (ps_set (i := 5) sc_l_after.nd rfl (Or.inl rfl) pe_dnewK)
        (pss_cons (ps_for PassesOwn.never rfl (pi_list (pv 3)) (pg_name (i := 6) sc_l_after.nd rfl (Or.inl rfl))
          (pss_one (ps_for PassesOwn.never rfl (pi_list (pe_h F1 hr pass0 (pa_cons (pv 6) (pa_cons (pv 1) pa_nil)))) (pg_name (i := 7) sc_l_after.nd rfl (Or.inl rfl))
            (pss_one (ps_dput hu (pv 5) (pv 7) pe_bl rfl)))))
        (pss_one (ps_set (i := 3) sc_l_after.nd rfl (Or.inl rfl) (pe_callTy (call_list_dK rfl) (by rfl) T.f_list PyProof.Rows.boot_list (pa_cons (pv 5) pa_nil)))))))
      (pss_one (ps_ret (pe_callB cr_sortX (by rfl) T.f_sorted (by decide +kernel) (pa_cons (pv 3) pa_nil)))))), ?_⟩
    refine q_asgL (xs := [l].map tx) (el_lst (ea_1 (ev_var rfl)) (by simp)) fun S0 H1 nS e1 hS0 => ?_
    refine q_forR1 (n := (t : Int)) (ea_1 (ev_var rfl)) (by omega) (fun j σ' H' => ∃ S L y4 y5 y6 y7, σ' = [some (tx l), some (nt n), some (nt t), some (.ref S), y4, y5, y6, y7] ∧ Ex H H' ∧ H' S = some (.lst (L.map tx)) ∧ L.Nodup ∧ ∀ x, x ∈ L ↔ R n j l x)
      (fun H2 e2 => ⟨S0, [l], _, _, _, _, rfl, e1.trans e2, e2 _ _ hS0, by simp, fun x => by rw [List.mem_singleton]; exact Iff.rfl⟩) (fun j σ' H3 hj h => ?_) fun σ' H3 h => ?_
    · obtain ⟨S, L, y4, y5, y6, y7, rfl, e2, hS, nd, hL⟩ := h
      have hj' : j < t := by omega
      have hjn : (j + 1) * n ≤ t * n := Nat.mul_le_mul_right n hj'
      have hj1 : (j + 1) * n = j * n + n := Nat.succ_mul j n
      have hok : ∀ x ∈ L, Ok x := fun x hx => ((hL x).mp hx).ok ol
      have hlen : ∀ x ∈ L, x.length = l.length + j * n := fun x hx => ((hL x).mp hx).len
      refine q_asgNew fun D nD => ?_
      have eD : Ex H3 (upd H3 D (.dK [])) := Ex.new nD
      refine q_forLn (K := K) (xs := L.map tx) (ev_var rfl) (sq_of (eD _ _ hS)) (fun i σ' H' => ∃ L' y6 y7, σ' = [some (tx l), some (nt n), some (nt t), some (.ref S), some (.int (j : Nat)), some (.ref D), y6, y7] ∧ Ex H3 H' ∧ H' D = some (.dK (tru L')) ∧ L'.Nodup ∧ ∀ x, x ∈ L' ↔ ∃ y ∈ L.take i, Cp n y x)
        (fun H4 e4 => ⟨[], _, _, rfl, eD.trans e4, e4 _ _ upd_same, List.nodup_nil, fun x => by simp⟩) (fun i σ' H' _ h => ?_) (fun i x σ' H' hx h => ?_) fun σ' H' h => ?_
      · obtain ⟨L', _, _, _, e4, _⟩ := h
        exact sq_of (e4 _ _ hS)
      · obtain ⟨L', y6, y7, rfl, e4, hD, ndL, hL'⟩ := h
        obtain ⟨a, ha, rfl⟩ := get_tx hx
        have ham : a ∈ L := List.mem_of_getElem? ha
        have hal := hlen a ham
        refine s_forX (S := fun M => M.Nodup ∧ ∀ x, x ∈ M ↔ Cp n a x) (ex_call (ea_2 (ev_var rfl) (ev_var rfl)) fun H5 e5 Q E q => ⟨a, n, rfl, hok a ham, by omega, h1, h6, q⟩)
          (fun M p q σ' H' => H' p = some (.lst (M.map tx)) ∧ p ≠ D ∧ ∃ L' y7, σ' = [some (tx l), some (nt n), some (nt t), some (.ref S), some (.int (j : Nat)), some (.ref D), some (tx a), y7] ∧ Ex H3 H' ∧ H' D = some (.dK (tru L')) ∧ L'.Nodup ∧ ∀ x, x ∈ L' ↔ (∃ y ∈ L.take i, Cp n y x) ∨ x ∈ M.take q)
          (fun M p H5 hM np e5 hp => ⟨hp, (ne_of_none hD np).symm, L', _, rfl, e4.trans e5, e5 _ _ hD, ndL, fun x => by rw [hL' x]; simp⟩) (fun M p q σ' H' _ h => h.1) (fun M p q x σ' H5 hM hx h => ?_) fun M p σ' H5 hM h => ?_
        · obtain ⟨hp, npD, L2, y7, rfl, e5, hD5, nd2, hL2⟩ := h
          have hxm : x ∈ M := List.mem_of_getElem? hx
          have hfam : ∀ z ∈ L2, R n (j + 1) l z := fun z hz => by
            rcases (hL2 z).mp hz with ⟨y, hy, hc⟩ | hz
            · exact R.up.mpr ⟨y, (hL y).mp (List.mem_of_mem_take hy), hc⟩
            · exact R.up.mpr ⟨a, (hL a).mp ham, (hM.2 z).mp (List.mem_of_mem_take hz)⟩
          have hsz2 := fam_up h1 ol nd2 hfam (by omega)
          refine s_putT (x := x) (ev_c (v := .bl true)) (ev_var rfl) (ev_var rfl) hD5 (by omega) fun H6 e6 => ?_
          refine ⟨by rw [upd_ne npD]; exact e6 _ _ hp, npD, addN x L2, _, rfl, Ex.mut (e5.trans e6) nD, upd_same, nodup_addN nd2, fun z => ?_⟩
          rw [mem_addN, hL2 z, take_next hx, List.mem_append, List.mem_singleton, or_assoc]
        · obtain ⟨hp, npD, L2, y7, rfl, e5, hD5, nd2, hL2⟩ := h
          rw [List.take_length] at hL2
          refine ⟨L2, _, _, rfl, e5, hD5, nd2, fun z => ?_⟩
          rw [hL2 z, take_next ha, hM.2 z]
          constructor
          · rintro (⟨y, hy, hc⟩ | hc)
            · exact ⟨y, List.mem_append.mpr (.inl hy), hc⟩
            · exact ⟨a, List.mem_append.mpr (.inr (List.mem_singleton.mpr rfl)), hc⟩
          · rintro ⟨y, hy, hc⟩
            rcases List.mem_append.mp hy with hy | hy
            · exact .inl ⟨y, hy, hc⟩
            · rw [List.mem_singleton.mp hy] at hc
              exact .inr hc
      · obtain ⟨L', y6, y7, rfl, e4, hD, ndL, hL'⟩ := h
        rw [List.length_map, List.take_length] at hL'
        refine s_asgL (el_listD (ev_var rfl) hD) fun S2 H5 nS2 e5 hS2 => ?_
        refine ⟨S2, L', _, _, _, _, rfl, (e2.trans e4).trans e5, hS2, ndL, fun x => ?_⟩
        rw [hL' x, R.up]
        exact ⟨fun ⟨y, hy, hc⟩ => ⟨y, (hL y).mp hy, hc⟩, fun ⟨y, hy, hc⟩ => ⟨y, (hL y).mpr hy, hc⟩⟩
    · obtain ⟨S, L, y4, y5, y6, y7, rfl, e2, hS, nd, hL⟩ := h
      rw [Int.toNat_natCast] at hL
      exact s_retX (ex_sortV (K := K) (ev_var rfl) (sq_of hS) nd) fun M p H4 hM np e4 hp => k M ⟨hM.1, fun x => by rw [hM.2 x, hL x]⟩ p H4 (fresh_back e2 np) (e2.trans e4) hp
end
end K7

set_option Elab.async false
set_option linter.all false
set_option maxRecDepth 100000
set_option maxHeartbeats 2000000
/-! _law_elders. -/
namespace K7
open PySem PySem.Spec PyProof.Rows L2 Evl
/-- how many turns a text of this length can ask for -/
def fpot : Nat → Nat
  | 0 => 1
  | n + 1 => 1 + n * fpot n
theorem fpot_pos : ∀ n, 1 ≤ fpot n
  | 0 => Nat.le_refl _
  | n + 1 => Nat.le_add_right 1 _
theorem fpot_up (n : Nat) : fpot n ≤ fpot (n + 1) := by
  cases n with
  | zero => decide
  | succ n =>
    show _ ≤ 1 + (n + 1) * fpot (n + 1)
    rw [Nat.succ_mul]
    omega
theorem fpot_mono {a b : Nat} (h : a ≤ b) : fpot a ≤ fpot b := by
  induction h with
  | refl => exact Nat.le_refl _
  | step _ ih => exact Nat.le_trans ih (fpot_up _)
theorem fpot_11 : fpot 11 = 9864101 := by decide
def pots (L : List Tx) : Nat := (L.map fun x => fpot x.length).sum
theorem pots_app (L M : List Tx) : pots (L ++ M) = pots L + pots M := by
  unfold pots
  rw [List.map_append, List.sum_append]
theorem pots_le {L : List Tx} {k : Nat} (h : ∀ x ∈ L, x.length ≤ k) : pots L ≤ L.length * fpot k := by
  induction L with
  | nil => simp [pots]
  | cons a L ih =>
    have h1 := fpot_mono (h a List.mem_cons_self)
    have h2 := ih fun x hx => h x (List.mem_cons_of_mem _ hx)
    show fpot a.length + pots L ≤ (L.length + 1) * fpot k
    rw [Nat.succ_mul]
    omega
theorem len_pots (L : List Tx) : L.length ≤ pots L := by
  induction L with
  | nil => simp [pots]
  | cons a L ih =>
    have := fpot_pos a.length
    show L.length + 1 ≤ fpot a.length + pots L
    omega
theorem spots_few {w : Nat} (hw : 1 ≤ w) (l : Tx) : (spots w l).length ≤ l.length - 1 := by
  have := inj_len (fun x => x) (spots w l) (List.range (l.length - 1)) (List.Pairwise.filter _ List.nodup_range) (fun _ _ _ _ e => e) fun p hp => by
    have := twice_le ((mem_spots hw).mp hp)
    rw [List.mem_range]
    omega
  rwa [List.length_range] at this
/-- the texts with one stretch taken out -/
def undone (w : Nat) (l : Tx) : List Tx := (spots w l).map fun p => un w p l
theorem mem_undone {w : Nat} (hw : 1 ≤ w) {l x : Tx} : x ∈ undone w l ↔ Cp w x l := by
  unfold undone
  rw [List.mem_map, ← un_iff]
  exact ⟨fun ⟨p, hp, e⟩ => ⟨p, (mem_spots hw).mp hp, e.symm⟩, fun ⟨p, hp, e⟩ => ⟨p, (mem_spots hw).mpr hp, e.symm⟩⟩
theorem pots_undone {w : Nat} (hw : 1 ≤ w) (l : Tx) : pots (undone w l) + 1 ≤ fpot l.length := by
  have h1 := spots_few hw l
  have h2 : pots (undone w l) ≤ (undone w l).length * fpot (l.length - 1) := pots_le fun x hx => by
    have := ((mem_undone hw).mp hx).len
    omega
  have h3 : (undone w l).length = (spots w l).length := List.length_map ..
  rw [h3] at h2
  have h4 : (spots w l).length * fpot (l.length - 1) ≤ (l.length - 1) * fpot (l.length - 1) := Nat.mul_le_mul_right _ h1
  cases e : l.length with
  | zero =>
    rw [e] at h1 h2
    have : (spots w l).length = 0 := by omega
    rw [this] at h2
    simp only [Nat.zero_mul] at h2
    show pots (undone w l) + 1 ≤ 1
    omega
  | succ n =>
    rw [e] at h2 h4
    show pots (undone w l) + 1 ≤ 1 + n * fpot n
    simp only [Nat.add_sub_cancel] at h2 h4
    omega
theorem closed {w : Nat} {l : Tx} {L : List Tx} (h0 : l ∈ L) (hc : ∀ x ∈ L, ∀ y, Cp w y x → y ∈ L) : ∀ (k : Nat) (y : Tx), R w k y l → y ∈ L
  | 0, y, h => by
    have : l = y := h
    rw [← this]
    exact h0
  | k + 1, y, h => by
    obtain ⟨m, h1, h2⟩ := R.down.mp h
    exact hc m (closed h0 hc k m h1) y h2
section
variable {K : PySem.W.Frag} {σ : L2.St} {H : Hp} {ta tb te : TE}
theorem et_notin {a : Addr} {L : List Tx} {x : Tx} (hk : Ev tb σ H (tx x)) (ha : Ev ta σ H (.ref a)) (h : H a = some (.dK (tru L))) : EvT (tB (tDNotIn tb ta)) σ H (!decide (x ∈ L)) := fun H1 e Q q =>
  hk H1 e _ fun H2 e2 => ha H2 (e.trans e2) _ fun H3 e3 => ⟨a, _, rfl, DGet.k (k := kS (enc x)) (((e.trans e2).trans e3) _ _ h), _, rfl, by rw [val_tru]; exact q H3 (e2.trans e3)⟩
theorem el_cat {a : Addr} {xs ys : List V} (ha : Ev ta σ H (.ref a)) (h : H a = some (.lst xs)) (hb : EvL tb σ H ys) (hz : xs.length + ys.length ≤ sizeLine) : EvL (tOp rCat ta tb) σ H (xs ++ ys) := fun H1 e Q q =>
  ha H1 e _ fun H2 e2 => hb H2 (e.trans e2) _ fun p H3 np e3 hp => ⟨a, p, xs, ys, rfl, rfl, ((e.trans e2).trans e3) _ _ h, hp, hz, fun r nr => q r _ (fresh_back (e2.trans e3) nr) ((e2.trans e3).trans (Ex.new nr)) upd_same⟩
end
section
variable {P : Program} {w : World} {K : PySem.W.Frag} {mg : Str → Option Value} {base : Heap}
def ElS (n : Nat) (l : Tx) (L : List Tx) : Prop := L.Nodup ∧ (∀ x, x ∈ L ↔ Rc n x l) ∧ L.length ≤ 16000000
def sp_elders : Sp := fun vs H Q _ => ∃ (l : Tx) (n : Nat), vs = [tx l, nt n] ∧ Ok l ∧ l.length ≤ 11 ∧ 1 ≤ n ∧ n ≤ 6 ∧ GiveX (ElS n l) H Q
theorem ok_elders (T : TopE K mg) : Has P w K mg base CX0 2 "_law_elders" ["_law_text", "_law_wide"] sp_elders := by
  have F1 : Has P w K mg base CX0 1 "_law_is_twice" ["_law_text", "_law_wide", "_law_at"] sp_is_twice := ok_is_twice T
  refine has_of T 37 37 rfl rfl rfl sc_l_elders (fun _ _ _ _ _ _ us hl => match us, hl with | [_, _], _ => rfl) (fun vs H Q E h => ?_) (fun cdv f A outer s H vs Q E hr h => ?_)
  · obtain ⟨l, n, rfl, _⟩ := h
    rfl
  · obtain ⟨l, n, rfl, ol, hl, h1, h6, k⟩ := h
    have hu := hu_of hr
    refine ⟨_, PSs.nox (pss_cons (ps_par (i := 2) (j := 3) rfl sc_l_elders.nd rfl rfl (by decide) rfl rfl (pa_cons (pe_lst (pa_cons (pv 0) pa_nil)) (pa_cons pe_dnewK pa_nil)) (by rfl))
      (pss_cons (ps_while PassesOwn.never (pt_cmpR (op_neD hr.units) (pv 2) (pe_lst pa_nil) (nomark _))
        (pss_cons (ps_set (i := 4) sc_l_elders.nd rfl (Or.inr rfl) (pe_bm0 PySem.F.plainAttrs_list PySem.F.slot_list_pop PySem.F.type_list_pop mt_pop (pv 2)))
        (pss_one (ps_if (pt_cmp (pc_dnotin hu (pv 4) (pv 3)))
          (pss_cons (ps_dput hu (pv 3) (pv 4) pe_bl rfl)
          (pss_cons (ps_setLc (i := 5) (own := [("_law_k", 6)]) (g := gName 6) rfl sc_l_elders.nd rfl rfl (sw_true rfl rfl rfl (by decide +kernel)) (pi_range1 (by rfl) T.f_range (pa_cons (pe_callB call_len_str (by rfl) T.f_len PySem.boot_len (pa_cons (pv 4) pa_nil)) pa_nil))
            (blkOk_by (N := N_l_elders) (sc := defScope s_l_elders) (by decide +kernel)) (fun _ _ _ _ _ => pg_name (i := 6) sc_l_elders.nd rfl (Or.inl rfl)) (fun _ _ _ _ _ => pts_one (pt_val (pe_h F1 hr pass0 (pa_cons (pv 4) (pa_cons (pv 1) (pa_cons (pv 6) pa_nil)))))) (fun _ _ _ _ _ => pv 6))
          (pss_one (ps_set (i := 2) sc_l_elders.nd rfl (Or.inl rfl) (pe_op op_cat (pv 2) (pe_lc (own := [("_law_k", 6)]) (g := gName 6) (tt := tYes) rfl sc_l_elders.nd (pi_list (pv 5))
            (blkOk_by (N := N_l_elders) (sc := defScope s_l_elders) (by decide +kernel)) (fun _ _ _ _ _ => pg_name (i := 6) sc_l_elders.nd rfl (Or.inl rfl)) (fun _ _ _ _ _ => pts_nil)
            (fun _ _ _ _ _ => pe_op op_add_str (pe_slice sl_str (pv 4) po_none (po_some (pe_op op_add (pv 6) (pv 1)))) (pe_slice sl_str (pv 4) (po_some (pe_op op_add (pv 6) (pe_op op_mul pe_int (pv 1)))) po_none))))))))
          pss_nil))))
      (pss_one (ps_ret (pe_callB cr_sortX (by rfl) T.f_sorted (by decide +kernel) (pa_cons (pe_callTy (call_list_dK rfl) (by rfl) T.f_list PyProof.Rows.boot_list (pa_cons (pv 3) pa_nil)) pa_nil)))))), ?_⟩
    refine ⟨_, rfl, by show 1 ≤ sizeLine; decide, fun S0 nS0 D nD => ⟨.ref S0, .ref D, rfl, ?_⟩⟩
    have e1 : Ex H (upd H S0 (.lst [tx l])) := Ex.new nS0
    have e2 : Ex (upd H S0 (.lst [tx l])) (upd (upd H S0 (.lst [tx l])) D (.dK [])) := Ex.new nD
    have nD0 : H D = none := fresh_back e1 nD
    refine q_while (fun m σ' H' => ∃ S L F y4 y5 y6, σ' = [some (tx l), some (nt n), some (.ref S), some (.ref D), y4, y5, y6] ∧ H S = none ∧ Ex H H' ∧ H' S = some (.lst (L.map tx)) ∧ H' D = some (.dK (tru F)) ∧ F.Nodup ∧ (∀ x ∈ L, Rc n x l) ∧ (∀ x ∈ F, Rc n x l) ∧
      (∀ x ∈ F, ∀ y, Cp n y x → y ∈ F ∨ y ∈ L) ∧ (l ∈ F ∨ l ∈ L) ∧ F.length + pots L ≤ fpot 11 ∧ m = pots L)
      (pots [l]) ⟨S0, [l], [], _, _, _, rfl, nS0, e1.trans e2, e2 _ _ upd_same, upd_same, List.nodup_nil, fun x hx => by rw [List.mem_singleton.mp hx]; exact Rc.refl n l, fun x hx => (by cases hx), fun x hx => (by cases hx), .inr List.mem_cons_self, ?_, rfl⟩ ?_
    · show 0 + (fpot l.length + 0) ≤ _
      have := fpot_mono hl
      omega
    rintro m σ' H' ⟨S, L, F, y4, y5, y6, rfl, nS, e3, hS, hD, ndF, hL, hF, hcl, hl0, hpot, rfl⟩
    have hok : ∀ x ∈ L, Ok x := fun x hx => (hL x hx).ok' ol
    refine ⟨!decide (L = []), et_test (ev_neNilX (ev_var rfl) (sq_of hS) hok), fun hb H3 e4 => ?_, fun hb H3 e4 => ?_⟩
    · have hne : L ≠ [] := by simpa using hb
      obtain ⟨L0, x, rfl⟩ : ∃ L0 x, L = L0 ++ [x] := ⟨L.dropLast, L.getLast hne, (List.dropLast_concat_getLast hne).symm⟩
      have hx : Rc n x l := hL x (List.mem_append.mpr (.inr List.mem_cons_self))
      have ox : Ok x := hx.ok' ol
      have lx : x.length ≤ 11 := Nat.le_trans hx.le hl
      have hp1 : pots (L0 ++ [x]) = pots L0 + fpot x.length := by rw [pots_app]; rfl
      rw [hp1] at hpot
      have nSD : S ≠ D := ne_of hS hD (by intro z; cases z)
      refine ⟨fun σ2 H2 => ∃ m', m' < pots (L0 ++ [x]) ∧ ∃ S L F y4 y5 y6, σ2 = [some (tx l), some (nt n), some (.ref S), some (.ref D), y4, y5, y6] ∧ H S = none ∧ Ex H H2 ∧ H2 S = some (.lst (L.map tx)) ∧ H2 D = some (.dK (tru F)) ∧ F.Nodup ∧ (∀ x ∈ L, Rc n x l) ∧ (∀ x ∈ F, Rc n x l) ∧
        (∀ x ∈ F, ∀ y, Cp n y x → y ∈ F ∨ y ∈ L) ∧ (l ∈ F ∨ l ∈ L) ∧ F.length + pots L ≤ fpot 11 ∧ m' = pots L, fun _ _ h => h, ?_⟩
      refine ⟨_, rfl, .inl ⟨rfl, _, sq_of (e4 _ _ hS)⟩, S, _, tx x, rfl, rfl, e4 _ _ hS, ?_, ?_⟩
      · rw [List.map_append, List.length_append, List.getElem?_append_right (by simp)]
        simp
      rw [List.map_append, show (L0.map tx ++ [x].map tx).dropLast = L0.map tx by simp]
      generalize hH4 : upd H3 S (.lst (L0.map tx)) = H4
      have hS4 : H4 S = some (.lst (L0.map tx)) := by rw [← hH4]; exact upd_same
      have hD4 : H4 D = some (.dK (tru F)) := by rw [← hH4, upd_ne nSD.symm]; exact e4 _ _ hD
      have e5 : Ex H H4 := by rw [← hH4]; exact Ex.mut (e3.trans e4) nS
      refine s_when (et_notin (ev_var rfl) (ev_var rfl) hD4) (fun hb2 H5 e6 => ?_) fun hb2 H5 e6 => ?_
      · have hxF : x ∉ F := by simpa using hb2
        have hlF : F.length ≤ 16000000 := by
          rw [fpot_11] at hpot
          omega
        refine s_dput (D := { nx := _, rt := _, bk := _, ct := _ }) (k := kS (enc x)) (ev_c (v := .bl true)) (ev_var rfl) (ev_var rfl) (e6 _ _ hD4) (by rw [tru_len]; exact Nat.lt_of_le_of_lt hlF (by decide)) fun H6 e7 => ?_
        rw [put_tru, show addN x F = F ++ [x] from if_neg hxF]
        generalize hH7 : upd H6 D (.dK (tru (F ++ [x]))) = H7
        have hS7 : H7 S = some (.lst (L0.map tx)) := by rw [← hH7, upd_ne nSD]; exact e7 _ _ (e6 _ _ hS4)
        have hD7 : H7 D = some (.dK (tru (F ++ [x]))) := by rw [← hH7]; exact upd_same
        have e8 : Ex H H7 := by rw [← hH7]; exact Ex.mut ((e5.trans e6).trans e7) nD0
        have hpu := pots_undone h1 x
        have hlu := len_pots (undone n x)
        have hlL := len_pots L0
        refine q_asgL (xs := nts (spots n x)) (el_compR (n := x.length) (fun p => twice n p x) nt (by omega) (ea_1 (ev_lenT (ev_var rfl) (by omega))) (fun x => rfl)
          fun b H8 hb e9 => ⟨et_B (ev_call (ea_3 (ev_var rfl) (ev_var rfl) (ev_var rfl)) fun H5 e5 Q q E => ⟨x, n, b, rfl, by omega, q⟩), fun _ => ev_var rfl⟩) fun S2 H8 nS2 e9 hS2 => ?_
        refine s_asgL (xs := (L0 ++ undone n x).map tx) (el_is (el_cat (ev_var rfl) (e9 _ _ hS7) (el_is (ys := (undone n x).map tx) (el_compL (K := K) (spots n x) nt (fun _ => true) (fun p => tx (un n p x)) (by have := spots_len n x; omega) (ev_var rfl) (sq_of hS2) (fun x => rfl)
          fun p i H9 hp e10 => ⟨et_yes, fun _ => ev_unT (ev_var rfl) eo_none (eo_some (ev_is (ev_add (ev_var rfl) (ev_var rfl)) (by congr 1))) (eo_some (ev_is (ev_add (ev_var rfl) (ev_mul (ev_c (v := .int 2)) (ev_var rfl) (.inl (by decide)))) (by congr 1))) eo_none (by omega)⟩)
            (by rw [filt_true, undone, List.map_map]; rfl)) (by rw [List.length_map, List.length_map]; rw [fpot_11] at hpot; exact Nat.le_trans (show _ ≤ 16000000 by omega) (by decide))) (by rw [List.map_append])) fun S3 H9 nS3 e10 hS3 => ?_
        refine ⟨pots (L0 ++ undone n x), ?_, S3, L0 ++ undone n x, F ++ [x], _, _, _, rfl, fresh_back (e8.trans e9) nS3, (e8.trans e9).trans e10, hS3, (e9.trans e10) _ _ hD7, nodup_snoc ndF hxF, fun z hz => ?_, fun z hz => ?_, fun z hz y hy => ?_, ?_, ?_, rfl⟩
        · rw [pots_app, hp1]
          omega
        · rcases List.mem_append.mp hz with hz | hz
          · exact hL z (List.mem_append.mpr (.inl hz))
          · exact (Rc.cp ((mem_undone h1).mp hz)).trans hx
        · rcases List.mem_append.mp hz with hz | hz
          · exact hF z hz
          · rw [List.mem_singleton.mp hz]
            exact hx
        · rcases List.mem_append.mp hz with hz | hz
          · rcases hcl z hz y hy with q | q
            · exact .inl (List.mem_append.mpr (.inl q))
            · rcases List.mem_append.mp q with q | q
              · exact .inr (List.mem_append.mpr (.inl q))
              · exact .inl (List.mem_append.mpr (.inr q))
          · rw [List.mem_singleton.mp hz] at hy
            exact .inr (List.mem_append.mpr (.inr ((mem_undone h1).mpr hy)))
        · rcases hl0 with q | q
          · exact .inl (List.mem_append.mpr (.inl q))
          · rcases List.mem_append.mp q with q | q
            · exact .inr (List.mem_append.mpr (.inl q))
            · exact .inl (List.mem_append.mpr (.inr q))
        · rw [pots_app, List.length_append, List.length_singleton]
          omega
      · have hxF : x ∈ F := by simpa using hb2
        have := fpot_pos x.length
        refine ⟨pots L0, by rw [hp1]; omega, S, L0, F, _, _, _, rfl, nS, e5.trans e6, e6 _ _ hS4, e6 _ _ hD4, ndF, fun z hz => hL z (List.mem_append.mpr (.inl hz)), hF, fun z hz y hy => ?_, ?_, by omega, rfl⟩
        · rcases hcl z hz y hy with q | q
          · exact .inl q
          · rcases List.mem_append.mp q with q | q
            · exact .inr q
            · rw [List.mem_singleton.mp q]
              exact .inl hxF
        · rcases hl0 with q | q
          · exact .inl q
          · rcases List.mem_append.mp q with q | q
            · exact .inr q
            · rw [List.mem_singleton.mp q]
              exact .inl hxF
    · have hL0 : L = [] := by simpa using hb
      subst hL0
      have hF0 : l ∈ F := hl0.elim id fun q => by cases q
      have hcl0 : ∀ x ∈ F, ∀ y, Cp n y x → y ∈ F := fun x hx y hy => (hcl x hx y hy).elim id fun q => by cases q
      refine s_retX (ex_sort (S := fun M => M = F) (S' := fun M => M.Nodup ∧ ∀ x, x ∈ M ↔ x ∈ F) (ex_of (el_listD (ev_var rfl) (e4 _ _ hD))) (fun L M e nd hm => ⟨nd, fun x => by rw [hm x, e]⟩) (fun L e => e ▸ ndF)) fun M p H4 hM np e5 hp =>
        k M ⟨hM.1, fun x => ?_, ?_⟩ p H4 (fresh_back (e3.trans e4) np) ((e3.trans e4).trans e5) hp
      · rw [hM.2 x]
        exact ⟨hF x, fun ⟨i, hi⟩ => closed hF0 hcl0 i x hi⟩
      · have := inj_len (fun x => x) M F hM.1 (fun _ _ _ _ e => e) fun x hx => (hM.2 x).mp hx
        rw [fpot_11] at hpot
        omega
end
end K7

set_option Elab.async false
set_option linter.all false
set_option maxRecDepth 100000
set_option maxHeartbeats 2000000
/-! _law_meet. -/
namespace K7
open PySem PySem.Spec PyProof.Rows L2 Evl
theorem Rc.same {w : Nat} (hw : 1 ≤ w) {a b : Tx} (h : Rc w a b) (e : b.length ≤ a.length) : a = b := by
  obtain ⟨k, h⟩ := h
  have hl := h.len
  cases k with
  | zero => exact (show b = a from h).symm
  | succ k =>
    rw [Nat.succ_mul] at hl
    omega
theorem single {L : List Tx} {g : Tx} (nd : L.Nodup) (h : ∀ x, x ∈ L ↔ x = g) : L = [g] := by
  cases L with
  | nil => exact absurd ((h g).mpr rfl) (by simp)
  | cons a L =>
    have ha := (h a).mp List.mem_cons_self
    subst ha
    cases L with
    | nil => rfl
    | cons b L =>
      have hb := (h b).mp (List.mem_cons_of_mem _ List.mem_cons_self)
      subst hb
      have := (List.nodup_cons.mp nd).1
      exact absurd List.mem_cons_self this
section
variable {K : PySem.W.Frag} {σ : L2.St} {H : Hp} {ta tb te tl : TE} {S : List Tx → Prop} {t : TT}
/-- over a new list of texts of which S is known; what is kept is the text itself -/
theorem ex_comp {j : Nat} {vs : List Nat} (p : Tx → Bool) (hz : ∀ L, S L → L.length ≤ 16000000) (h : EvX tl σ H S) (hw : ∀ x, wipe ((wipe σ vs).set j (some x)) vs = wipe σ vs)
    (ht : ∀ L, S L → ∀ (b : Tx) H1, b ∈ L → Ex H H1 → EvT t ((wipe σ vs).set j (some (tx b))) H1 (p b) ∧ (p b = true → Ev te ((wipe σ vs).set j (some (tx b))) H1 (tx b))) :
    EvX (tLc (iList K tl) (gName j) t te vs) σ H (fun M => ∃ L, S L ∧ M = L.filter p) := fun H1 e1 Q q =>
  h H1 e1 _ fun L a H2 sL na e2 ha => ⟨a, rfl, ⟨_, sq_of ha⟩, fun D hD => by
    have key := el_compL (K := K) (σ := σ) (H := H2) (a := a) (j := j) (vs := vs) (tl := tC (.ref a)) (t := t) (te := te) L tx p tx (hz L sL) ev_c (sq_of ha) hw fun b i H3 hb e3 => ht L sL b H3 (List.mem_of_getElem? hb) ((e1.trans e2).trans e3)
    have := key H2 (Ex.refl H2) Q fun r H3 nr e3 hr => q (L.filter p) r H3 ⟨L, sL, rfl⟩ (fresh_back e2 nr) (e2.trans e3) hr
    obtain ⟨a', ea, hx, w⟩ := this
    cases ea
    exact w D hD⟩
/-- a text among the elders of one -/
theorem ev_inElders {E : XK} {l x : Tx} {n : Nat} (hx : Ev ta σ H (tx x)) (hl : Ev tb σ H (tx l)) (hn : Ev te σ H (nt n)) (ol : Ok l) (ox : Ok x) (h11 : l.length ≤ 11) (h1 : 1 ≤ n) (h6 : n ≤ 6) :
    Ev (tOp (rIn K false) ta (tCall sp_elders [] E (tCons tb (tCons te tNil)))) σ H (.bl (dcB n l x)) := fun H1 e Q q =>
  hx H1 e _ fun H2 e2 => ex_call (S := ElS n l) (ea_2 hl hn) (fun H3 e3 Q E q => ⟨l, n, rfl, ol, h11, h1, h6, q⟩) H2 (e.trans e2) _ fun L p H3 hL np e3 hp => ⟨p, _, rfl, .inl (sq_of hp), rfl, flat_txs L, by
    have : dcB n l x = inV (tx x) (L.map tx) := by
      rw [inV_tx]
      exact bool_dec ((dcB_iff h1 ol ox).trans (hL.2.1 x).symm)
    rw [← this]
    exact q H3 (e2.trans e3)⟩
theorem el_catNN {xs ys : List V} (ha : EvL ta σ H xs) (hb : EvL tb σ H ys) (hz : xs.length + ys.length ≤ sizeLine) : EvL (tOp rCat ta tb) σ H (xs ++ ys) := fun H1 e Q q =>
  ha H1 e _ fun a H2 na e2 h => hb H2 (e.trans e2) _ fun p H3 np e3 hp => ⟨a, p, xs, ys, rfl, rfl, e3 _ _ h, hp, hz, fun r nr => q r _ (fresh_back (e2.trans e3) nr) ((e2.trans e3).trans (Ex.new nr)) upd_same⟩
/-- max of a new list of numbers -/
theorem ev_maxN {ns : List Int} {m : Int} (h : EvL te σ H (ns.map V.int)) (hn : 0 < ns.length) (hm : ∀ x, x ∈ ns → (∀ y ∈ ns, y ≤ x) → x = m) : Ev (tCB (rMax K) (tCons te tNil)) σ H (.int m) := fun H1 e Q q =>
  h H1 e _ fun a H2 na e2 ha => ⟨a, ns, rfl, sq_of ha, hn, fun x hx hle => by
    rw [hm x hx hle]
    exact q H2 e2⟩
end
section
variable {P : Program} {w : World} {K : PySem.W.Frag} {mg : Str → Option Value} {base : Heap}
def sp_meet : Sp := fun vs H Q _ => ∃ (a b : Tx) (n : Nat), vs = [tx a, tx b, nt n] ∧ Ok a ∧ Ok b ∧ a.length ≤ 11 ∧ b.length ≤ 11 ∧ 1 ≤ n ∧ n ≤ 6 ∧ GiveV (if root n a = root n b then tx (ge n a b) else .non) H Q
theorem ok_meet (T : TopE K mg) : Has P w K mg base CX0 3 "_law_meet" ["_law_one", "_law_other", "_law_wide"] sp_meet := by
  have F1 : Has P w K mg base CX0 2 "_law_elders" ["_law_text", "_law_wide"] sp_elders := ok_elders T
  refine has_of T 38 38 rfl rfl rfl sc_l_meet (fun _ _ _ _ _ _ us hl => match us, hl with | [_, _, _], _ => rfl) (fun vs H Q E h => ?_) (fun cdv f A outer s H vs Q E hr h => ?_)
  · obtain ⟨a, b, n, rfl, _⟩ := h
    rfl
  · obtain ⟨a, b, n, rfl, oa, ob, la, lb, h1, h6, k⟩ := h
    refine ⟨_, PSs.nox (pss_cons (ps_setLc (i := 4) (own := [("_law_some", 3)]) (g := gName 3) rfl sc_l_meet.nd rfl rfl (sw_true rfl rfl rfl (by decide +kernel)) (pi_list (pe_h F1 hr pass0 (pa_cons (pv 0) (pa_cons (pv 2) pa_nil))))
        (blkOk_by (N := N_l_meet) (sc := defScope s_l_meet) (by decide +kernel)) (fun _ _ _ _ _ => pg_name (i := 3) sc_l_meet.nd rfl (Or.inl rfl))
        (fun _ _ _ _ _ => pts_one (show PT _ _ (tTest (tOp (rIn K false) (tVar 3) (tCall sp_elders [] _ (tCons (tVar 1) (tCons (tVar 2) tNil))))) from pt_cmpR op_in_seq (pv 3) (pe_h F1 hr pass0 (pa_cons (pv 1) (pa_cons (pv 2) pa_nil))) (by rfl))) (fun _ _ _ _ _ => pv 3))
      (pss_cons (ps_set (i := 5) sc_l_meet.nd rfl (Or.inr rfl) (pe_callB (cr_max rfl) (by rfl) T.f_max (by decide +kernel) (pa_cons (pe_op op_cat (pe_lc (own := [("_law_some", 3)]) (g := gName 3) (tt := tYes) rfl sc_l_meet.nd (pi_list (pv 4))
          (blkOk_by (N := N_l_meet) (sc := defScope s_l_meet) (by decide +kernel)) (fun _ _ _ _ _ => pg_name (i := 3) sc_l_meet.nd rfl (Or.inl rfl)) (fun _ _ _ _ _ => pts_nil) (fun _ _ _ _ _ => pe_callB call_len_str (by rfl) T.f_len PySem.boot_len (pa_cons (pv 3) pa_nil)))
          (pe_lst (pa_cons (pe_un un_neg pe_int) pa_nil))) pa_nil)))
      (pss_cons (ps_setLc (i := 3) (own := [("_law_text", 6)]) (g := gName 6) rfl sc_l_meet.nd rfl rfl (sw_true rfl rfl rfl (by decide +kernel)) (pi_list (pv 4))
        (blkOk_by (N := N_l_meet) (sc := defScope s_l_meet) (by decide +kernel)) (fun _ _ _ _ _ => pg_name (i := 6) sc_l_meet.nd rfl (Or.inl rfl)) (fun _ _ _ _ _ => pts_one (pt_cmpR op_eq (pe_callB call_len_str (by rfl) T.f_len PySem.boot_len (pa_cons (pv 6) pa_nil)) (pv 5) (nomark _))) (fun _ _ _ _ _ => pv 6))
      (pss_one (ps_ret (pe_ifExp (pt_cmpR op_eq (pe_callB call_len_seq (by rfl) T.f_len PySem.boot_len (pa_cons (pv 3) pa_nil)) pe_int (nomark _)) (pe_ix ix_list (pv 3) pe_int (fun _ _ => rfl)) pe_non)))))), ?_⟩
    have hbt : ∀ x, Rc n x a → Ok x := fun x hx => hx.ok' oa
    refine q_asgX (S := fun M => ∃ L, ElS n a L ∧ M = L.filter fun x => dcB n b x) (ex_comp (fun x => dcB n b x) (fun L hL => hL.2.2) (ex_call (ea_2 (ev_var rfl) (ev_var rfl)) fun H1 e1 Q E q => ⟨a, n, rfl, oa, la, h1, h6, q⟩) (fun x => rfl)
      fun L hL x H1 hx e1 => ⟨et_test (ev_inElders (ev_var rfl) (ev_var rfl) (ev_var rfl) ob (hbt x ((hL.2.1 x).mp hx)) lb h1 h6), fun _ => ev_var rfl⟩) fun B p H1 hB np e1 hp => ?_
    obtain ⟨L, hL, rfl⟩ := hB
    generalize hBe : L.filter (fun x => dcB n b x) = B at hp
    have ndB : B.Nodup := by rw [← hBe]; exact List.Pairwise.filter _ hL.1
    have szB : B.length ≤ 16000000 := by rw [← hBe]; exact Nat.le_trans (List.length_filter_le _ _) hL.2.2
    have memB : ∀ x, x ∈ B ↔ Rc n x a ∧ Rc n x b := fun x => by
      rw [← hBe, List.mem_filter, hL.2.1 x]
      exact ⟨fun h => ⟨h.1, (dcB_iff h1 ob (hbt x h.1)).mp h.2⟩, fun h => ⟨h.1, (dcB_iff h1 ob (hbt x h.1)).mpr h.2⟩⟩
    have lenB : ∀ x ∈ B, x.length ≤ 11 := fun x hx => Nat.le_trans ((memB x).mp hx).1.le la
    have okB : ∀ x ∈ B, Ok x := fun x hx => ((memB x).mp hx).1.ok' oa
    let g : Tx := ge n a b
    let m : Int := if root n a = root n b then ((g.length : Nat) : Int) else -1
    have memg : root n a = root n b → ∀ x, x ∈ B ∧ x.length = g.length ↔ x = g := fun kin x => by
      have hg : g ∈ B := (memB g).mpr ⟨ge_left h1 oa ob kin, ge_right h1 oa ob kin⟩
      constructor
      · rintro ⟨hx, e⟩
        exact (ge_most h1 oa ob kin ((memB x).mp hx).1 ((memB x).mp hx).2).same h1 (by show g.length ≤ x.length; omega)
      · rintro rfl
        exact ⟨hg, rfl⟩
    have leg : root n a = root n b → ∀ x ∈ B, x.length ≤ g.length := fun kin x hx => (ge_most h1 oa ob kin ((memB x).mp hx).1 ((memB x).mp hx).2).le
    have nog : ¬ root n a = root n b → B = [] := fun nk => by
      rw [List.eq_nil_iff_forall_not_mem]
      intro x hx
      obtain ⟨r1, r2⟩ := (memB x).mp hx
      exact nk ((r1.root h1 (r1.ok' oa)).symm.trans (r2.root h1 (r2.ok' ob)))
    refine q_asg (v := .int m) (ev_maxN (K := K) (ns := B.map (fun x => ((x.length : Nat) : Int)) ++ [-1]) (el_is (el_catNN (ys := [V.int (-1)]) (el_compL (K := K) B tx (fun _ => true) (fun x => nt x.length) szB (ev_var rfl) (sq_of hp) (fun x => rfl)
      fun x i H2 hx e2 => ⟨et_yes, fun _ => ev_lenT (ev_var rfl) (by have := lenB x (List.mem_of_getElem? hx); omega)⟩) (el_lst (ea_1 (ev_un (ev_c (v := .int 1)) ru_neg)) (by simp)) (by rw [List.length_map]; exact Nat.le_trans (Nat.add_le_add (Nat.le_trans (List.length_filter_le _ _) szB) (Nat.le_refl 1)) (by decide)))
        (by rw [filt_true, List.map_append, List.map_map]; rfl)) (by simp) fun x hx hle => ?_) fun H2 e2 => ?_
    · rw [List.mem_append, List.mem_map, List.mem_singleton] at hx
      show x = if root n a = root n b then ((g.length : Nat) : Int) else -1
      by_cases kin : root n a = root n b
      · rw [if_pos kin]
        have hg := ((memg kin g).mpr rfl).1
        have h3 := hle (g.length : Nat) (List.mem_append.mpr (.inl (List.mem_map.mpr ⟨g, hg, rfl⟩)))
        rcases hx with ⟨y, hy, rfl⟩ | rfl
        · have := leg kin y hy
          omega
        · omega
      · rw [if_neg kin]
        rcases hx with ⟨y, hy, rfl⟩ | rfl
        · rw [nog kin] at hy
          cases hy
        · rfl
    refine q_asgL (xs := (B.filter fun x : Tx => decide (((List.length x : Nat) : Int) = m)).map tx) (el_compL (K := K) B tx (fun x : Tx => decide (((List.length x : Nat) : Int) = m)) tx szB (ev_var rfl) (sq_of (e2 _ _ hp)) (fun x => rfl)
      fun x i H3 hx e3 => ⟨et_test (ev_eqI (ev_lenT (ev_var rfl) (by have := lenB x (List.mem_of_getElem? hx); omega)) (ev_var rfl)), fun _ => ev_var rfl⟩) fun r H3 nr e3 hr => ?_
    by_cases kin : root n a = root n b
    · rw [if_pos kin] at k
      have em : m = ((g.length : Nat) : Int) := if_pos kin
      have e1' : (B.filter fun x : Tx => decide (((List.length x : Nat) : Int) = m)) = [g] := single (List.Pairwise.filter _ ndB) fun x => by
        rw [List.mem_filter, decide_eq_true_eq, em, ← memg kin x]
        exact ⟨fun h => ⟨h.1, by omega⟩, fun h => ⟨h.1, by omega⟩⟩
      rw [e1'] at hr
      exact s_ret (v := tx g) (ev_if (b := true) (et_is (et_test (ev_eqI (ev_lenL (K := K) (ev_var rfl) (sq_of hr)) (ev_c (v := .int 1)))) (by simp)) (fun _ => ev_op (ev_var rfl) (ev_c (v := .int 0)) (rv_ixL (K := K) (sq_of hr) (atI_nat (j := 0) rfl))) fun h => by cases h)
        fun H4 e4 => k H4 (((e1.trans e2).trans e3).trans e4)
    · rw [if_neg kin] at k
      have e1' : (B.filter fun x : Tx => decide (((List.length x : Nat) : Int) = m)) = [] := by rw [nog kin]; rfl
      rw [e1'] at hr
      exact s_ret (v := .non) (ev_if (b := false) (et_is (et_test (ev_eqI (ev_lenL (K := K) (ev_var rfl) (sq_of hr)) (ev_c (v := .int 1)))) (by simp)) (fun h => by cases h) fun _ => ev_c)
        fun H4 e4 => k H4 (((e1.trans e2).trans e3).trans e4)
end
end K7

set_option Elab.async false
set_option linter.all false
set_option maxRecDepth 100000
set_option maxHeartbeats 2000000
/-! _law_join. -/
namespace K7
open PySem PySem.Spec PyProof.Rows L2 Evl
theorem ll_len {n : Nat} {a b : Tx} (h1 : 1 ≤ n) (oa : Ok a) (ob : Ok b) (kin : root n a = root n b) (la : a.length ≤ 11) (lb : b.length ≤ 11) : (ll n a b).length ≤ 21 := by
  by_cases hc : a.length < n
  · rw [ll, if_pos hc]
    omega
  · have ha : n ≤ a.length := by omega
    have hb := kin_len h1 oa ob kin ha
    obtain ⟨l1, l2, l3, l4, l5⟩ := ll_coords h1 oa ob kin ha
    have e1 := len_of h1 l1 l2
    rw [l4, l5] at e1
    have e2 := len_of h1 ha oa
    have e3 := len_of h1 hb ob
    have hs := sum_maxs_le (runs n a) (runs n b)
    omega
section
variable {P : Program} {w : World} {K : PySem.W.Frag} {mg : Str → Option Value} {base : Heap}
def sp_join : Sp := fun vs H Q _ => ∃ (a b : Tx) (n : Nat), vs = [tx a, tx b, nt n] ∧ Ok a ∧ Ok b ∧ a.length ≤ 11 ∧ b.length ≤ 11 ∧ 1 ≤ n ∧ n ≤ 6 ∧ GiveV (if root n a = root n b then tx (ll n a b) else .non) H Q
theorem ok_join (T : TopE K mg) : Has P w K mg base CX0 3 "_law_join" ["_law_one", "_law_other", "_law_wide"] sp_join := by
  have F1 : Has P w K mg base CX0 2 "_law_once" ["_law_text", "_law_wide"] sp_once := (ok_once T).mono (by decide)
  have F2 : Has P w K mg base CX0 2 "_law_bare" ["_law_text", "_law_wide"] sp_bare := ok_bare T
  have F3 : Has P w K mg base CX0 2 "_law_does_come" ["_law_late", "_law_early", "_law_wide"] sp_ldc := ok_ldc T
  refine has_of T 39 39 rfl rfl rfl sc_l_join (fun _ _ _ _ _ _ us hl => match us, hl with | [_, _, _], _ => rfl) (fun vs H Q E h => ?_) (fun cdv f A outer s H vs Q E hr h => ?_)
  · obtain ⟨a, b, n, rfl, _⟩ := h
    rfl
  · obtain ⟨l, b, n, rfl, ol, ob, la, lb, h1, h6, k⟩ := h
    have hu := hu_of hr
    refine ⟨_, PSs.nox (pss_cons (ps_if (pt_cmpR op_ne (pe_h F2 hr pass0 (pa_cons (pv 0) (pa_cons (pv 2) pa_nil))) (pe_h F2 hr pass0 (pa_cons (pv 1) (pa_cons (pv 2) pa_nil))) (nomark _)) (pss_one (ps_ret pe_non)) pss_nil)
      (pss_cons (ps_set (i := 3) sc_l_join.nd rfl (Or.inl rfl) (pe_lst (pa_cons (pv 0) pa_nil)))
      (pss_cons (ps_while PassesOwn.never (pt_cmpR (op_eqD hr.units) (pe_lc (own := [("_law_text", 4)]) (g := gName 4) rfl sc_l_join.nd (pi_list (pv 3)) (blkOk_by (N := N_l_join) (sc := defScope s_l_join) (by decide +kernel)) (fun _ _ _ _ _ => pg_name (i := 4) sc_l_join.nd rfl (Or.inl rfl))
          (fun _ _ _ _ _ => pts_one (pt_val (pe_h F3 hr pass0 (pa_cons (pv 4) (pa_cons (pv 1) (pa_cons (pv 2) pa_nil)))))) (fun _ _ _ _ _ => pv 4)) (pe_lst pa_nil) (nomark _))
        (pss_cons (ps_set (i := 5) sc_l_join.nd rfl (Or.inl rfl) pe_dnewK)
        (pss_cons (ps_for PassesOwn.never rfl (pi_list (pv 3)) (pg_name (i := 4) sc_l_join.nd rfl (Or.inl rfl))
          (pss_one (ps_for PassesOwn.never rfl (pi_list (pe_h F1 hr pass0 (pa_cons (pv 4) (pa_cons (pv 2) pa_nil)))) (pg_name (i := 6) sc_l_join.nd rfl (Or.inl rfl))
            (pss_one (ps_dput hu (pv 5) (pv 6) pe_bl rfl)))))
        (pss_one (ps_set (i := 3) sc_l_join.nd rfl (Or.inl rfl) (pe_callTy (call_list_dK rfl) (by rfl) T.f_list PyProof.Rows.boot_list (pa_cons (pv 5) pa_nil)))))))
      (pss_one (ps_ret (pe_ix ix_list (pe_lc (own := [("_law_text", 4)]) (g := gName 4) rfl sc_l_join.nd (pi_list (pv 3)) (blkOk_by (N := N_l_join) (sc := defScope s_l_join) (by decide +kernel)) (fun _ _ _ _ _ => pg_name (i := 4) sc_l_join.nd rfl (Or.inl rfl))
          (fun _ _ _ _ _ => pts_one (pt_val (pe_h F3 hr pass0 (pa_cons (pv 4) (pa_cons (pv 1) (pa_cons (pv 2) pa_nil)))))) (fun _ _ _ _ _ => pv 4)) pe_int (fun _ _ => rfl))))))), ?_⟩
    refine q_when (et_test (ev_neT (ev_call (ea_2 (ev_var rfl) (ev_var rfl)) fun H3 e3 Q q E => ⟨l, n, rfl, ol, by omega, h1, h6, q⟩) (ev_call (ea_2 (ev_var rfl) (ev_var rfl)) fun H3 e3 Q q E => ⟨b, n, rfl, ob, by omega, h1, h6, q⟩))) (fun hk H0 e0 => ?_) fun hk H0 e0 => ?_
    · have nk : ¬ root n l = root n b := by simpa using hk
      rw [if_neg nk] at k
      exact s_ret ev_c fun H3 e3 => k H3 (e0.trans e3)
    have kin : root n l = root n b := by simpa using hk
    rw [if_pos kin] at k
    obtain ⟨t, ht⟩ := ll_left h1 ol ob kin
    have hlt := ht.len
    have hll := ll_len h1 ol ob kin la lb
    have htn : t ≤ t * n := Nat.le_mul_of_pos_right t h1
    refine q_asgL (xs := [l].map tx) (el_lst (ea_1 (ev_var rfl)) (by simp)) fun S0 H1 nS e1 hS0 => ?_
    have comp : ∀ (σ' : L2.St) (H' : Hp) (S : Addr) (L : List Tx) (j : Nat), (∃ y4 y5 y6, σ' = [some (tx l), some (tx b), some (nt n), some (.ref S), y4, y5, y6]) → H' S = some (.lst (L.map tx)) → L.Nodup → (∀ x, x ∈ L ↔ R n j l x) → j ≤ t → ∀ E,
        EvL (tLc (iList K (tVar 3)) (gName 4) (tB (tCall sp_ldc [] E (tCons (tVar 4) (tCons (tVar 1) (tCons (tVar 2) tNil))))) (tVar 4) [4]) σ' H' ((L.filter fun x => dcB n x b).map tx) := by
      rintro σ' H' S L j ⟨y4, y5, y6, rfl⟩ hS nd hL hj E
      have hjn : j * n ≤ t * n := Nat.mul_le_mul_right n hj
      have hsz := fam_up h1 ol nd (fun x hx => (hL x).mp hx) (by omega)
      exact el_compL (K := K) L tx (fun x => dcB n x b) tx (by omega) (ev_var rfl) (sq_of hS) (fun x => rfl) fun x i H3 hx e3 => by
        have r := (hL x).mp (List.mem_of_getElem? hx)
        have rl := r.len
        exact ⟨et_B (ev_call (ea_3 (ev_var rfl) (ev_var rfl) (ev_var rfl)) fun H3 e3 Q q E => ⟨x, b, n, rfl, r.ok ol, ob, by omega, by omega, h1, h6, q⟩), fun _ => ev_var rfl⟩
    have allll : ∀ (L : List Tx) (j : Nat), (∀ x, x ∈ L ↔ R n j l x) → j ≤ t → ∀ x ∈ L.filter (fun x => dcB n x b), x = ll n l b := fun L j hL hj x hx => by
      rw [List.mem_filter] at hx
      have r := (hL x).mp hx.1
      have ox := r.ok ol
      have rl := r.len
      have hjn : j * n ≤ t * n := Nat.mul_le_mul_right n hj
      exact ((ll_least h1 ol ob kin ⟨j, r⟩ ((dcB_iff h1 ox ob).mp hx.2)).same h1 (by omega)).symm
    refine q_while (fun m σ' H' => ∃ S L j y4 y5 y6, σ' = [some (tx l), some (tx b), some (nt n), some (.ref S), y4, y5, y6] ∧ Ex H H' ∧ H' S = some (.lst (L.map tx)) ∧ L.Nodup ∧ (∀ x, x ∈ L ↔ R n j l x) ∧ j ≤ t ∧ m = t - j)
      t ⟨S0, [l], 0, _, _, _, rfl, e0.trans e1, hS0, by simp, fun x => by rw [List.mem_singleton]; exact Iff.rfl, Nat.zero_le _, rfl⟩ ?_
    rintro m σ' H' ⟨S, L, j, y4, y5, y6, rfl, e2, hS, nd, hL, hj, rfl⟩
    have hok : ∀ x ∈ L, Ok x := fun x hx => ((hL x).mp hx).ok ol
    have hlen : ∀ x ∈ L, x.length = l.length + j * n := fun x hx => ((hL x).mp hx).len
    refine ⟨_, et_test (ev_eqNilXN (l := L.filter fun x => dcB n x b) (comp _ _ S L j ⟨_, _, _, rfl⟩ hS nd hL hj _) fun x hx => hok x (List.mem_filter.mp hx).1), fun hb H3 e3 => ?_, fun hb H3 e3 => ?_⟩
    · have hnil : L.filter (fun x => dcB n x b) = [] := by simpa using hb
      have hjt : j < t := by
        rcases Nat.lt_or_ge j t with q | q
        · exact q
        · have ej : j = t := by omega
          subst ej
          have : ll n l b ∈ L.filter (fun x => dcB n x b) := List.mem_filter.mpr ⟨(hL _).mpr ht, (dcB_iff h1 (ll_ok h1 ol ob kin) ob).mpr (ll_right h1 ol ob kin)⟩
          rw [hnil] at this
          cases this
      have hjn : (j + 1) * n ≤ t * n := Nat.mul_le_mul_right n hjt
      have hj1 : (j + 1) * n = j * n + n := Nat.succ_mul j n
      refine ⟨_, fun _ _ h => h, q_asgNew fun D nD => ?_⟩
      have eD : Ex H3 (upd H3 D (.dK [])) := Ex.new nD
      have hS3 := e3 _ _ hS
      refine q_forLn (K := K) (xs := L.map tx) (ev_var rfl) (sq_of (eD _ _ hS3)) (fun i σ' H' => ∃ L' y4 y6, σ' = [some (tx l), some (tx b), some (nt n), some (.ref S), y4, some (.ref D), y6] ∧ Ex H3 H' ∧ H' D = some (.dK (tru L')) ∧ L'.Nodup ∧ ∀ x, x ∈ L' ↔ ∃ y ∈ L.take i, Cp n y x)
        (fun H4 e4 => ⟨[], _, _, rfl, eD.trans e4, e4 _ _ upd_same, List.nodup_nil, fun x => by simp⟩) (fun i σ' H' _ h => ?_) (fun i x σ' H' hx h => ?_) fun σ' H' h => ?_
      · obtain ⟨L', _, _, _, e4, _⟩ := h
        exact sq_of (e4 _ _ hS3)
      · obtain ⟨L', y6, y7, rfl, e4, hD, ndL, hL'⟩ := h
        obtain ⟨a, ha, rfl⟩ := get_tx hx
        have ham : a ∈ L := List.mem_of_getElem? ha
        have hal := hlen a ham
        refine s_forX (S := fun M => M.Nodup ∧ ∀ x, x ∈ M ↔ Cp n a x) (ex_call (ea_2 (ev_var rfl) (ev_var rfl)) fun H5 e5 Q E q => ⟨a, n, rfl, hok a ham, by omega, h1, h6, q⟩)
          (fun M p q σ' H' => H' p = some (.lst (M.map tx)) ∧ p ≠ D ∧ ∃ L' y7, σ' = [some (tx l), some (tx b), some (nt n), some (.ref S), some (tx a), some (.ref D), y7] ∧ Ex H3 H' ∧ H' D = some (.dK (tru L')) ∧ L'.Nodup ∧ ∀ x, x ∈ L' ↔ (∃ y ∈ L.take i, Cp n y x) ∨ x ∈ M.take q)
          (fun M p H5 hM np e5 hp => ⟨hp, (ne_of_none hD np).symm, L', _, rfl, e4.trans e5, e5 _ _ hD, ndL, fun x => by rw [hL' x]; simp⟩) (fun M p q σ' H' _ h => h.1) (fun M p q x σ' H5 hM hx h => ?_) fun M p σ' H5 hM h => ?_
        · obtain ⟨hp, npD, L2, y7, rfl, e5, hD5, nd2, hL2⟩ := h
          have hxm : x ∈ M := List.mem_of_getElem? hx
          have hfam : ∀ z ∈ L2, R n (j + 1) l z := fun z hz => by
            rcases (hL2 z).mp hz with ⟨y, hy, hc⟩ | hz
            · exact R.up.mpr ⟨y, (hL y).mp (List.mem_of_mem_take hy), hc⟩
            · exact R.up.mpr ⟨a, (hL a).mp ham, (hM.2 z).mp (List.mem_of_mem_take hz)⟩
          have hsz2 := fam_up h1 ol nd2 hfam (by omega)
          refine s_putT (x := x) (ev_c (v := .bl true)) (ev_var rfl) (ev_var rfl) hD5 (by omega) fun H6 e6 => ?_
          refine ⟨by rw [upd_ne npD]; exact e6 _ _ hp, npD, addN x L2, _, rfl, Ex.mut (e5.trans e6) nD, upd_same, nodup_addN nd2, fun z => ?_⟩
          rw [mem_addN, hL2 z, take_next hx, List.mem_append, List.mem_singleton, or_assoc]
        · obtain ⟨hp, npD, L2, y7, rfl, e5, hD5, nd2, hL2⟩ := h
          rw [List.take_length] at hL2
          refine ⟨L2, _, _, rfl, e5, hD5, nd2, fun z => ?_⟩
          rw [hL2 z, take_next ha, hM.2 z]
          constructor
          · rintro (⟨y, hy, hc⟩ | hc)
            · exact ⟨y, List.mem_append.mpr (.inl hy), hc⟩
            · exact ⟨a, List.mem_append.mpr (.inr (List.mem_singleton.mpr rfl)), hc⟩
          · rintro ⟨y, hy, hc⟩
            rcases List.mem_append.mp hy with hy | hy
            · exact .inl ⟨y, hy, hc⟩
            · rw [List.mem_singleton.mp hy] at hc
              exact .inr hc
      · obtain ⟨L', y6, y7, rfl, e4, hD, ndL, hL'⟩ := h
        rw [List.length_map, List.take_length] at hL'
        refine s_asgL (el_listD (ev_var rfl) hD) fun S2 H5 nS2 e5 hS2 => ?_
        refine ⟨t - (j + 1), by omega, S2, L', j + 1, _, _, _, rfl, ((e2.trans e3).trans e4).trans e5, hS2, ndL, fun x => ?_, hjt, rfl⟩
        rw [hL' x, R.up]
        exact ⟨fun ⟨y, hy, hc⟩ => ⟨y, (hL y).mp hy, hc⟩, fun ⟨y, hy, hc⟩ => ⟨y, (hL y).mpr hy, hc⟩⟩
    · have hne : L.filter (fun x => dcB n x b) ≠ [] := by simpa using hb
      obtain ⟨x, r, hx⟩ := List.exists_cons_of_ne_nil hne
      have ex := allll L j hL hj x (by rw [hx]; exact List.mem_cons_self)
      subst ex
      refine s_ret (v := tx (ll n l b)) (ev_opL1 (comp _ _ S L j ⟨_, _, _, rfl⟩ (e3 _ _ hS) nd hL hj _) (fun _ _ => ev_c (v := .int 0)) fun p H4 hp e4 => rv_ixL (K := K) (sq_of hp) (atI_nat (j := 0) (by rw [hx]; rfl))) fun H4 e4 => k H4 ((e2.trans e3).trans e4)
end
end K7

set_option Elab.async false
set_option linter.all false
set_option maxRecDepth 100000
set_option maxHeartbeats 4000000
/-! TooLong: its __init__, its making. -/
namespace K7
open PySem PySem.Spec PyProof.Rows L2 Evl
open PySem.W (Frag findIn typeIn keepIn subIn hasDictIn nsIn clsIn codeIn InstAt alongIn Looks ksFn ksEnv kxs_mw)
/-- the def in a class that has but one -/
def initOf : Stmt → Stmt
  | .ClassDef _ _ _ b _ _ _ _ _ _ _ => b.getD 0 (.Pass ⟨0, 0, 0, 0⟩)
  | s => s
abbrev s_long : Stmt := topS 7
abbrev s_longI : Stmt := initOf s_long
abbrev ovTail : List Value := [.type "OverflowError", .type "ArithmeticError", .type "Exception", .type "BaseException", .type "object"]
/-- what the written part says of TooLong, at C -/
structure LongT (prog : Program) (K : Frag) (mg : Str → Option Value) (C : Addr) : Prop where
  gC : mg "TooLong" = some (.ref C)
  cls : ∃ nm q N bs sn sub ab col dd k0 k1 k2 k3 k5, K.lookup C = some (excClassObj nm q C N bs ovTail true sn sub ab col dd k0 k1 k2 k3 k5 "OverflowError.__new__")
  sa : findIn K (.ref C) "__setattr__" = some (some (.builtin "object.__setattr__"))
  ga : findIn K (.ref C) "__getattribute__" = some (some (.builtin "BaseException.__getattribute__"))
  gg : findIn K (.ref C) "__getattr__" = some none
  noN : findIn K (.ref C) "most" = some none
  kC : keepIn K (.ref C) = true
  exC : subIn K (.ref C) (.type "BaseException") = some true
  ovC : subIn K (.ref C) (.type "OverflowError") = some true
  seC : PySem.W.mroIn K C (.ref C) = some true
  tyC : typeIn K (.ref C) = some (.type "type")
  hdC : hasDictIn K C = true
  opq : nsIn K cStatics "thirdparty.any" = some none
  sup : nsIn K mainGlobals "super" = some none
  fn : ∃ (fI : Addr) (oc : Value) (od : Option Addr) (doc pm : Value) (an : Option Addr) (ct : Value) (osl : Array (Option Value)) (cda cc : Addr) (ccl cl : Value) (cdd cld : Option Addr) (vs : Array Value) (ccs csl : Array (Option Value)) (file : Str) (tf : Tok),
    findIn K (.ref C) "__init__" = some (some (.ref fI)) ∧ typeIn K (.ref fI) = some (.type "function") ∧
    K.lookup fI = some ⟨oc, od, .func (ksFn "__init__" "TooLong.__init__" (defArgs s_longI) (defBody s_longI) (defScope s_longI) .none .none doc pm an (.ref cda) ct cc), osl⟩ ∧ codeIn K (.ref cda) "TooLong.__init__" = true ∧
    K.lookup cda = some ⟨ccl, cdd, .fields vs, ccs⟩ ∧ vs[2]? = some (.str file tf) ∧ ((prog.main.file : Str) == file) = true ∧ K.lookup cc = some ⟨cl, cld, .cell (some (.ref C)), csl⟩
  htop : (prog.main.scope.names.lookup ("super" : Str)).isSome = false
section
open Builtin Builtin.ObjectAttr
variable {prog : Program} {w : World} {A : Around} {E : Value → Shared → Prop} {R : Result → Shared → Prop} {hp : Heap} {g : Array GenState} {d : Drawn} {t : Nat} {os : OsState}
/-- self.name = v on such an exception that has no dict as yet -/
theorem ov_set {K : Frag} {name : Str} {tz : Tok} {v : Value} {x C : Addr} {fv : Array Value} {cd : ClassData} (X : K.In hp) (hx : hp.get? x = some { cls := .ref C, data := .fields fv }) (hcd : clsIn K C = some cd) (hm : cd.mro = .ref C :: ovTail) (hh : cd.hasDict = true)
    (ha : findIn K (.ref C) name = some none)
    (hq : ∀ hp' tk' dx, (∀ b o, b ≠ x → hp.get? b = some o → hp'.get? b = some o) → hp.objs.size ≤ dx → dx ≠ x → hp'.get? x = some { cls := .ref C, dict := some dx, data := .fields fv } →
      hp'.Ns1 dx (fun y => if y = name then some v else none) → R (.ok (.ret .none)) ⟨hp', g, d, tk', os⟩) :
    codeAny (model prog w) A (.call (.builtin "object.__setattr__") ⟨[.ref x, .str name tz, v], []⟩) R ⟨hp, g, d, t, os⟩ := by
  have I : InstAt hp x { cls := .ref C, data := .fields fv } C none := ⟨hx, rfl, rfl, trivial⟩
  have apart : x ≠ hp.objs.size := Nat.ne_of_lt (Heap.lt_size hx)
  have SF := F.store_object
  have isObj : PySem.W.mroIn K C (.type "object") = some true := by
    unfold PySem.W.mroIn
    rw [hcd, Option.bind_some, hm, if_neg (show ¬ (List.isEmpty (Value.ref C :: ovTail) = true) from Bool.false_ne_true)]
    rfl
  have sub : Looks (model prog w) hp (isInstance (.ref x) (.type "object")) true := I.type.andThen (PySem.W.looks_mroIn X isObj)
  refine codeAny_call_builtin SF.slot.plain SF.entry (@PySem.W.check_slot (model prog w) _ _ ⟨hp, g, d, t, os⟩ "object.__setattr__" "object" "__setattr__" (.ref x) [.str name tz, v] [] _ SF.kind SF.split sub (SF.args (.ref x) (.str name tz) v) ?_)
  have mroL : Looks (model prog w) hp (mroOf (.ref C)) cd.mro := (PySem.W.looks_clsIn X hcd).andThen .now
  have taker : Looks (model prog w) hp (storeTaker? none) none := .now
  have pass : refuseLoop (.ref x) "__setattr__" cd.mro = pure () := by
    rw [hm, refuseLoop_ref]
    exact F.store_OverflowError.passes _
  rw [PySem.W.osa_eq, refuse_eq]
  refine wpAny_bind (wpAny_bind (I.type.at (wpAny_bind (mroL.at ?_))))
  rw [pass]
  refine wpAny_pure (wpAny_bind (I.type.at (wpAny_bind ((PySem.W.looks_findIn X ha).at (wpAny_bind (taker.at ?_))))))
  show wpAny _ _ (storeInOwnDict (.ref x) (.ref C) (.str name tz) name v false) _ _ _
  have hcls : Looks (model prog w) hp (classData C) cd := PySem.W.looks_clsIn X hcd
  obtain ⟨nm, bs, mro, ns, qn, hd, sn, sb, ab, col, del⟩ := cd
  dsimp only at hh
  subst hh
  unfold storeInOwnDict ownDictForStores
  repeat (first | with_reducible refine HandSPX.store_in_new ?_ ?_ | with_reducible refine wpAny_loadPart_at hx ?_ | with_reducible refine hcls.at ?_ | wp_step)
  · exact ⟨_, #[], _, (Heap.get?_update_ne _ _ _ _ apart.symm).trans (Heap.get?_push_at rfl rfl), rfl, fun e he => absurd he (by simp), fun _ => rfl⟩
  · intro hp' tk' ns' same
    have hx1 : (hp.push { cls := .type "dict", data := .dict #[] }).get? x = some { cls := .ref C, data := .fields fv } := Heap.get?_push_of_some _ hx
    exact hq hp' tk' hp.objs.size (fun b o hnb hat => (same.2 b (Nat.ne_of_lt (Heap.lt_size hat))).trans ((Heap.get?_update_ne _ _ _ _ hnb).trans (Heap.get?_push_of_some _ hat))) (Nat.le_refl _) apart.symm
      ((same.2 x apart).trans (Heap.get?_update_self _ hx1 rfl)) ns'
/-- the bound __init__ of OverflowError is called: the args are laid anew -/
theorem ov_bound {nm q : Str} {C N : Addr} {bs : List Value} {hdct : Bool} {sn : List Str} {sub : List Value} {ab : Bool} {col : Option Bool} {dd : Option Addr} {k0 k1 k2 k3 k5 : Option Value} {ub e t0 : Addr} {rest : List Value} {Q : Value → Shared → Prop}
    (hC : hp.get? C = some (excClassObj nm q C N bs ovTail hdct sn sub ab col dd k0 k1 k2 k3 k5 "OverflowError.__new__")) (he : hp.get? e = some (HandSPX.excO C t0)) (hub : hp.get? ub = some (kxs_mw "OverflowError.__init__" e)) (few : rest.length ≤ sizeLine)
    (hq : ∀ hp' t1, (∀ b o, b ≠ e → hp.get? b = some o → hp'.get? b = some o) → hp'.get? e = some (HandSPX.excO C t1) → Q .none ⟨hp', g, d, t, os⟩) :
    wpAny (model prog w) A (call (.ref ub) rest) Q E ⟨hp, g, d, t, os⟩ := by
  refine wpAny_call (codeAny_of_tree ?_)
  show wpAny _ A.in1 (callAny (.ref ub) ⟨rest, []⟩) _ _ _
  simp only [callAny]
  refine wpAny_bind (wpAny_load hub ?_)
  simp only [kxs_mw, show (Value.type "method-wrapper" == Value.type "method" || Value.type "method-wrapper" == Value.type "builtin_function_or_method" || Value.type "method-wrapper" == Value.type "method-wrapper") = true by decide, if_true]
  refine PySem.W.KFB.if_so (by decide) ?_
  refine wpAny_bind (PySem.W.check_bound_init F.excBase_OverflowError.toExcCallFacts hC he rfl (wpAny_bind (wpAny_pure (wpAny_pure ?_))))
  refine ⟨plainId_quiet F.excBase_OverflowError.init.plain _, codeAny_builtin F.excBase_OverflowError.initEntry ?_⟩
  rw [Around.under_plainId F.excBase_OverflowError.init.plain _]
  wp_walk
  refine hq _ hp.objs.size (fun b o hnb hat => ?_) ?_
  · rw [Heap.get?_update_other _ _ (Ne.symm hnb)]
    exact Heap.get?_push_of_some _ hat
  · rw [Heap.get?_update_self _ (Heap.get?_push_of_some _ he) rfl] <;> rfl
theorem kept_but {K : Frag} {h h' : Heap} {x : Addr} (X : K.In h) (hx : K.lookup x = none) (k : ∀ b o, b ≠ x → h.get? b = some o → h'.get? b = some o) : K.In h' := fun a o e =>
  k a o (fun z => by rw [z, hx] at e; cases e) (X a o e)
/-- what __init__ leaves of a fresh exception at x -/
structure LongEnd (h h' : Heap) (x C dx : Addr) (v : Value) : Prop where
  keep : ∀ b o, b ≠ x → h.get? b = some o → h'.get? b = some o
  obj : ∃ t1 : Addr, h'.get? x = some { cls := .ref C, dict := some dx, data := .fields #[.ref t1, .none, .none, .none, .bool false, .none] }
  dbig : h.objs.size ≤ dx
  dne : dx ≠ x
  ns : h'.Ns1 dx (fun y => if y = "most" then some v else none)
end
section
variable {prog : Program} {w : World} {A : Around} {E : Value → Shared → Prop} {R : Result → Shared → Prop} {s : Shared} {K : Frag} {mg mb : Str → Option Value} {C : Addr}
theorem longI_cells : ∀ y ∈ (defScope s_longI).names, y.2 ≠ .cell := by decide +kernel
theorem longI_self : (defScope s_longI).names.lookup ("self" : Str) = some .local := by decide +kernel
theorem longI_most : (defScope s_longI).names.lookup ("most" : Str) = some .local := by decide +kernel
theorem long_init (T : LongT prog K mg C) {fI x t0 : Addr} {v : Value} (iC : findIn K (.ref C) "__init__" = some (some (.ref fI))) (X : K.In s.heap) (hmg : s.heap.Ns mainGlobals mg) (hmb : s.heap.Ns builtinsNs mb) (hbs : mb "super" = some (.type "super")) (hlim : s.heap.NoLimit) (hx : s.heap.get? x = some (HandSPX.excO C t0)) (hnx : K.lookup x = none)
    (hroom : A.depth < recursionLimit) (hq : ∀ h' tz dx, LongEnd s.heap h' x C dx v → R (.ok (.ret .none)) { s with heap := h', toks := tz }) :
    codeAny (model prog w) A (.call (.ref fI) ⟨[.ref x, v], []⟩) R s := by
  obtain ⟨fI', oc, od, doc, pm, an, ct, osl, cda, cc, ccl, cl, cdd, cld, vs, ccs, csl, file, tf, iC', tI, lkI, hcd, lkc, hvs, hfile, lkcc⟩ := T.fn
  have efI : fI' = fI := by
    rw [iC] at iC'
    have := Option.some.inj (Option.some.inj iC')
    injection this with e
    exact e.symm
  subst efI
  obtain ⟨nm, q, N, bs, sn, sub, ab, col, dd, k0, k1, k2, k3, k5, hC⟩ := T.cls
  have hcl : clsIn K C = some { name := nm, bases := bs, mro := .ref C :: ovTail, ns := N, qualname := q, hasDict := true, slotNames := sn, subclasses := sub, abstract := ab, collection := col, hasDel := false } := by unfold clsIn; rw [hC] <;> rfl
  refine ks_codeAny_call_defAt (fd := ksFn "__init__" "TooLong.__init__" (defArgs s_longI) (defBody s_longI) (defScope s_longI) .none .none doc pm an (.ref cda) ct cc) (body := defBody s_longI) (binds := [("self", .ref x), ("most", v)]) hroom (X _ _ lkI) rfl hlim (PySem.W.codeRec_of X hcd) rfl
    (BindsTo.of_eq (by first | rfl | with_unfolding_all rfl)) longI_cells (fun y hy => ?_) (fun h1 ns1 keep1 => ?_) rfl rfl rfl
  · rcases List.mem_cons.mp hy with rfl | hy
    · exact longI_self
    · rw [List.mem_singleton.mp hy]
      exact longI_most
  have X1 : K.In h1 := X.keeps keep1
  have hx1 := keep1 _ _ hx
  have noC : ∀ c, (HandSPX.excO C t0).data ≠ .cls c := fun c z => by cases z
  have hC1 : h1.get? C = some _ := X1 _ _ hC
  have hxC : x ≠ C := fun z => by
    rw [z, hC] at hnx
    cases hnx
  refine ks_wpAt_execs_cons (ks_wpAt_Expr_any (ks_wpAt_MethodCall (ks_wpAt_super_base (env := ksEnv "TooLong.__init__" (defScope s_longI) s.heap.objs.size fI' (.ref cda) cc) (by rfl) (by rfl) (by decide) rfl (X1 _ _ lkI) rfl rfl rfl (X1 _ _ lkc) rfl hvs hfile T.htop ?_)))
  refine PySem.W.ks_loadName_global rfl (by rfl) (Calls.loadGlobal_builtin (hmg.keeps keep1) (PySem.W.mg_none_of X hmg T.sup) (hmb.keeps keep1) hbs ⟨rfl, ?_⟩)
  refine wpAny_loadName_free rfl (by rfl) rfl ⟨_, X1 _ _ lkcc, rfl⟩ ?_
  refine wpAny_loadName_local rfl (by rfl) ns1 (v := .ref x) (by first | rfl | with_unfolding_all rfl | kernel_rfl) ?_
  refine ks_wpAny_isType_cls hC1 rfl ⟨rfl, ?_⟩
  refine ks_wpAny_call_super hC1 rfl hx1 rfl noC (PySem.W.looks_mroIn X1 T.seC) (fun h2 super2 keep2 => ?_)
  have X2 : K.In h2 := X1.keeps keep2
  have hx2 := keep2 _ _ hx1
  have I2 : InstAt h2 x (HandSPX.excO C t0) C none := ⟨hx2, rfl, rfl, trivial⟩
  refine PySem.W.kxs_getMethod PySem.W.kxs_OverflowError super2 (PySem.W.looks_opaque X2 T.opq) (l₀ := .ref C :: ovTail) (l := ovTail) ((PySem.W.looks_clsIn X2 hcl).andThen .now) (ESX.drop_own C ovTail) X2 (by kernel_rfl) (I2.type.andThen (PySem.W.looks_subIn X2 T.ovC)) hxC (by decide) ?_
  have keep3 : ∀ b o, h2.get? b = some o → (h2.push (kxs_mw "OverflowError.__init__" x)).get? b = some o := fun b o e => Heap.get?_push_of_some _ e
  have bound3 : (h2.push (kxs_mw "OverflowError.__init__" x)).get? h2.objs.size = some (kxs_mw "OverflowError.__init__" x) := Heap.get?_push_size _ rfl
  refine PySem.W.kxs_callWith (i := "OverflowError.__init__") (x := x) (by rfl) (Calls.evalArgs_plain (Calls.spliced_cons (Calls.Constant_str (k := 0) (pos := ⟨32, 25, 32, 35⟩) (Calls.spliced_nil ⟨bound3, ?_⟩))))
  have X3 : K.In (h2.push (kxs_mw "OverflowError.__init__" x)) := X2.keeps keep3
  have hx3 := keep3 _ _ hx2
  refine ov_bound (X3 _ _ hC) hx3 bound3 (by show 1 ≤ sizeLine; decide) fun h4 t1 keep4 hx4 => ?_
  have keep14 : ∀ b o, b ≠ x → h1.get? b = some o → h4.get? b = some o := fun b o hnb e => keep4 b o hnb (keep3 _ _ (keep2 _ _ e))
  have X4 : K.In h4 := kept_but X3 hnx keep4
  have hxL : s.heap.objs.size ≠ x := Nat.ne_of_gt (Heap.lt_size hx)
  have ns4 : h4.Ns s.heap.objs.size (fun y => ([("self", .ref x), ("most", v)] : List (Str × Value)).reverse.lookup y) := ns1.at fun o e => keep14 _ o hxL e
  refine wpAt_of_wpAny (wpAny_execs_cons (plainObj_wpAny_Assign_Attribute ?_))
  refine wpAny_Name (wpAny_loadName_local rfl (by rfl) ns4 (v := v) (by first | rfl | with_unfolding_all rfl | kernel_rfl) ?_)
  refine wpAny_Name (wpAny_loadName_local rfl (by rfl) ns4 (v := .ref x) (by first | rfl | with_unfolding_all rfl | kernel_rfl) ?_)
  refine PySem.W.set_plain X4 (ox := HandSPX.excO C t1) (od := none) ⟨hx4, rfl, rfl, trivial⟩ T.sa ?_
  refine ov_set X4 hx4 hcl rfl rfl T.noN (fun h5 tk5 dx keep5 dn dne hx5 ns5 => ?_)
  refine wpAny_execs_nil ?_
  have lt : s.heap.objs.size < h4.objs.size := ns4.lt
  exact hq h5 tk5 dx ⟨fun b o hnb e => keep5 b o hnb (keep14 b o hnb (keep1 _ _ e)), ⟨t1, hx5⟩, Nat.le_of_lt (Nat.lt_of_lt_of_le lt dn), dne, ns5⟩
end
end K7

set_option Elab.async false
set_option linter.all false
set_option maxRecDepth 100000
set_option maxHeartbeats 4000000
/-! raise TooLong(e); least_later. -/
namespace K7
open PySem PySem.Spec PyProof.Rows L2 Evl
open PySem.W (Frag findIn typeIn keepIn subIn hasDictIn nsIn clsIn codeIn InstAt alongIn Looks)
/-- a TooLong made: at e, its dict at d -/
structure LongMade (h h' : Heap) (e C d : Addr) (v : Value) : Prop where
  keep : ∀ b o, h.get? b = some o → h'.get? b = some o
  new : h.objs.size ≤ e
  obj : ∃ oe vs, h'.get? e = some oe ∧ oe.cls = .ref C ∧ oe.dict = some d ∧ oe.data = .fields vs ∧ vs[1]? = some .none
  dbig : h.objs.size ≤ d
  dne : d ≠ e
  ns : h'.Ns1 d (fun y => if y = "most" then some v else none)
section
variable {prog : Program} {w : World} {A : Around} {R : Result → Shared → Prop} {s : Shared} {K : Frag} {mg mb : Str → Option Value} {C : Addr}
theorem long_made (T : LongT prog K mg C) {v : Value} (X : K.In s.heap) (hmg : s.heap.Ns mainGlobals mg) (hmb : s.heap.Ns builtinsNs mb) (hbs : mb "super" = some (.type "super")) (hlim : s.heap.NoLimit) (hroom : A.depth + 1 < recursionLimit)
    (hq : ∀ h' tk e d, LongMade s.heap h' e C d v → R (.ok (.ret (.ref e))) { s with heap := h', toks := tk }) :
    codeAny (model prog w) A (.call (.ref C) ⟨[v], []⟩) R s := by
  obtain ⟨nm, q, N, bs, sn, sub, ab, col, dd, k0, k1, k2, k3, k5, hC⟩ := T.cls
  obtain ⟨fI, _, _, _, _, _, _, _, _, _, _, _, _, _, _, _, _, _, _, iC, tI, _⟩ := T.fn
  obtain ⟨hp, g, dr, tk, os⟩ := s
  have keep2 : ∀ b o, hp.get? b = some o → ((hp.push (PySem.W.kdv_tup [v])).push (HandSPX.excO C hp.objs.size)).get? b = some o := fun b o e => Heap.get?_push_of_some _ (Heap.get?_push_of_some _ e)
  have here2 : ((hp.push (PySem.W.kdv_tup [v])).push (HandSPX.excO C hp.objs.size)).get? (hp.objs.size + 1) = some (HandSPX.excO C hp.objs.size) := by heap_get
  have notK : K.lookup (hp.objs.size + 1) = none := by
    cases e : K.lookup (hp.objs.size + 1) with
    | none => rfl
    | some o => exact absurd (Nat.lt_of_succ_lt (Heap.lt_size (show hp.get? (hp.objs.size + 1) = some o from X _ _ e))) (Nat.lt_irrefl _)
  refine HandSPX.call_own F.excBase_OverflowError (fun _ => rfl) (X _ _ hC) (PySem.W.looks_findIn X iC) (fun self => PySem.W.bind_fn X self tI) (show 1 ≤ sizeLine by decide) ?_
  refine long_init (s := ⟨(hp.push (PySem.W.kdv_tup [v])).push (HandSPX.excO C hp.objs.size), g, dr, tk, os⟩) T iC (X.keeps keep2) (hmg.keeps keep2) (hmb.keeps keep2) hbs (hlim.keeps keep2) here2 notK ?_ fun h' tk' dx L => ?_
  · show A.depth + 1 < recursionLimit
    exact hroom
  · obtain ⟨keep', ⟨t1, hx⟩, dn, dne, hns⟩ := L
    have old : ∀ b o, hp.get? b = some o → h'.get? b = some o := fun b o e => keep' b o (Nat.ne_of_lt (Nat.lt_succ_of_lt (Heap.lt_size e))) (keep2 b o e)
    have z : hp.objs.size + 1 + 1 ≤ dx := by
      have q := dn
      rw [Heap.size_push, Heap.size_push] at q
      exact q
    exact ⟨rfl, hq h' tk' (hp.objs.size + 1) dx ⟨old, Nat.le_succ _, ⟨_, _, hx, rfl, rfl, rfl, rfl⟩, Nat.le_trans (Nat.le_trans (Nat.le_succ _) (Nat.le_succ _)) z, dne, hns⟩⟩
end
/-- the error's own dict -/
abbrev xdMost (v : V) : HO := .xd [(("most" : Str), v)]
theorem relO_most {v : V} {u : Value} (r : RelV v u) (f : Str) : RelO (List.lookup f [(("most" : Str), v)]) (if f = "most" then some u else none) := by
  by_cases c : f = "most"
  · subst c
    rw [if_pos rfl, show List.lookup ("most" : Str) [(("most" : Str), v)] = some v by simp [List.lookup]]
    exact r
  · have c' : (f == ("most" : Str)) = false := by simpa using c
    rw [if_neg c, show List.lookup f [(("most" : Str), v)] = none by simp [List.lookup, c']]
    exact True.intro
section
variable {X : Cx} {C : Addr}
/-- TooLong(e) -/
def tMkLong (C : Addr) (ta : TA) : L2.St → Hp → XK → Prop := fun σ H Q => ta σ H fun vs H1 => ∃ v, vs = [v] ∧ ∀ d, H1 d = none → Q (.ref C) (some d) (upd H1 d (xdMost v))
theorem pmk_long {a : Expr} {ta : TA} {p pos : Pos} {k : Nat} (T : LongT X.prog X.K X.mg C) (hr : Room k X.A) (ha : PA X [a] ta) (hg : Gl X "TooLong" := by rfl)
    (he : starEach (a :: []) X.env = (false, eval a X.env) :: starEach [] X.env := by rfl) (hpl : (backTo pos (starEach [] X.env)).any (·.1) = false := by rfl) :
    PMk X (.Call (.Name "TooLong" p) [a] [] pos) (tMkLong C ta) := by
  intro pins s σ H Q I h
  refine wpAny_Call_Name_kw (ld_glob I hg T.gC ?_)
  refine PySem.W.callWith_K (h₀ := X.base) I.ok.mod.kin T.kC (thn (ha.run pos pins s σ H _ I h) fun us s1 got => ?_) he hpl
  obtain ⟨vs, H1, I1, r1, v, ev, q1⟩ := got
  subst ev
  refine ⟨I1.kIn, ?_⟩
  cases r1 with
  | cons rv rn =>
    rename_i u us'
    cases rn
    show wpAny _ _ (call (.ref C) [u]) _ _ _
    have limit := I1.nolimit
    obtain ⟨mb, nsB, isB⟩ := I1.mod.blt
    have hB := nsB.keeps I1.bk
    have hG := I1.mod.glob.keeps I1.bk
    obtain ⟨hp, g, dr, tk, os⟩ := s1
    refine wpAny_call (long_made T I1.kIn hG hB ((isB _ (by decide)).trans (by decide +kernel)) limit (by have := hr.dp; omega) fun h' tk' e d M => ?_)
    show MkP X pins σ Q (.ref e) ⟨h', g, dr, tk', os⟩
    obtain ⟨oe, fv, hoe, hcls, hdict, hdat, hnone⟩ := M.obj
    obtain ⟨G, g1, g2⟩ := restrict h' fun b => decide (b ≠ e)
    have gk : ∀ b, b ≠ e → G.get? b = h'.get? b := fun b hb => g1 b (decide_eq_true hb)
    have ge : G.get? e = none := g2 e (by simp)
    have old : ∀ b o, hp.get? b = some o → G.get? b = some o := fun b o z => (gk b (Nat.ne_of_lt (Nat.lt_of_lt_of_le (Heap.lt_size z) M.new))).trans (M.keep b o z)
    have ok : ObjOk X.prog X.w (upd H1 d (xdMost v)) G d (xdMost v) := ⟨_, M.ns.at (fun o z => (gk d M.dne).trans z), fun f => relO_most rv f⟩
    have J : Inv X pins σ (upd H1 d (xdMost v)) ⟨G, g, dr, tk', os⟩ := I1.laid (t' := tk') old M.dbig ok
    refine ⟨e, oe, fv, ⟨G, g, dr, tk', os⟩, _, .ref C, some d, rfl, J, fun b o z => ?_, ge, hoe, ⟨hcls, hdict⟩, hdat, hnone, ?_, rfl, I1.bare, raises_own T.exC T.tyC, q1 d (I1.hok.fresh M.dbig)⟩
    · by_cases hb : b = e
      · have z' : G.get? b = some o := z
        rw [hb, ge] at z'
        cases z'
      · exact (gk b hb).symm.trans z
    · rw [upd_ne (Ne.symm M.dne)]
      exact I1.hok.fresh M.new
/-- raise TooLong(e) -/
def tRaiseLong (C : Addr) (Wx : WX) (ta : TA) : TS := fun _ σ H => tMkLong C ta σ H fun cls d H' => Wx cls d σ H'
theorem ps_raiseLong {a : Expr} {ta : TA} {Wx : WX} {p pos pos2 : Pos} {k : Nat} (hc : X.calm = true) (T : LongT X.prog X.K X.mg C) (hr : Room k X.A) (tk : Takes X Wx) (ha : PA X [a] ta) (hg : Gl X "TooLong" := by rfl)
    (he : starEach (a :: []) X.env = (false, eval a X.env) :: starEach [] X.env := by rfl) (hpl : (backTo pos (starEach [] X.env)).any (·.1) = false := by rfl) :
    PS X (.Raise (some (.Call (.Name "TooLong" p) [a] [] pos)) none pos2) (tRaiseLong C Wx ta) := ps_raise hc tk (pmk_long T hr ha hg he hpl)
end
theorem sum_cast : ∀ l : List Nat, (List.map (fun n : Nat => (n : Int)) l).sum = ((l.sum : Nat) : Int)
  | [] => rfl
  | a :: l => by
    rw [List.map_cons, List.sum_cons, List.sum_cons, sum_cast l]
    omega
section
variable {P : Program} {w : World} {K : Frag} {mg : Str → Option Value} {base : Heap}
def sp_least_later (K : Frag) : Sp := fun vs H Q E => ∃ (a b : Tx) (n : Nat), vs = [tx a, tx b, nt n] ∧ Ok a ∧ Ok b ∧ a.length ≤ 60 ∧ b.length ≤ 60 ∧ 1 ≤ n ∧ n ≤ 6 ∧
  (¬ root n a = root n b → GiveV .non H Q) ∧ (root n a = root n b → (ll n a b).length ≤ 60 → GiveV (tx (ll n a b)) H Q) ∧
  (root n a = root n b → 60 < (ll n a b).length → ∀ d H', Ex H H' → H' d = none → E (.ref (He.ga K "TooLong")) (some d) (upd H' d (xdMost (nt 60))))
theorem ok_least_later (T : TopE K mg) (TL : LongT P K mg (He.ga K "TooLong")) : Has P w K mg base (L2.CX P w) 5 "least_later" ["one", "other", "size"] (sp_least_later K) := by
  have F1 : Has P w K mg base CX0 4 "need_two" ["one", "other", "size"] sp_need_two := (ok_need_two T).mono (by decide)
  have F2 : Has P w K mg base CX0 4 "are_kin_of" ["one", "other", "size"] sp_are_kin_of := ok_are_kin_of T
  have F3 : Has P w K mg base CX0 4 "steps_of" ["text", "size"] sp_steps_of := (ok_steps_of T).mono (by decide)
  have F4 : Has P w K mg base CX0 4 "joined_runs" ["one", "other", "size"] sp_joined_runs := (ok_joined_runs T).mono (by decide)
  have F5 : Has P w K mg base CX0 4 "least_later_of" ["one", "other", "size"] sp_least_later_of := ok_least_later_of T
  refine has_of T 20 20 rfl rfl rfl sc_least_later (fun _ _ _ _ _ _ us hl => match us, hl with | [_, _, _], _ => rfl) (fun vs H Q E h => ?_) (fun cdv f A outer s H vs Q E hr h => ?_)
  · obtain ⟨a, b, n, rfl, _⟩ := h
    rfl
  · obtain ⟨a, b, n, rfl, oa, ob, la, lb, h1, h6, kN, kY, kE⟩ := h
    obtain ⟨t1, gML⟩ := T.c_MOST_LONG
    refine ⟨_, pss_cons (ps_expr (pe_h F1 hr pass0 (pa_cons (pv 0) (pa_cons (pv 1) (pa_cons (pv 2) pa_nil)))))
      (pss_cons (ps_if (pt_not (pt_val (pe_h F2 hr pass0 (pa_cons (pv 0) (pa_cons (pv 1) (pa_cons (pv 2) pa_nil)))))) (pss_one (ps_ret pe_non)) pss_nil)
      (pss_cons (ps_if (PW.pt (pw_and (pt_cmpR op_ge (pe_callB call_len_str (by rfl) T.f_len PySem.boot_len (pa_cons (pv 0) pa_nil)) (pv 2) (nomark _))
          (pw_and1 (pt_cmpR op_gt (pe_op op_add (pe_op op_add (pv 2) (pe_callB call_len_seq (by rfl) T.f_len PySem.boot_len (pa_cons (pe_h F3 hr pass0 (pa_cons (pv 0) (pa_cons (pv 2) pa_nil))) pa_nil)))
            (pe_callB (cr_sum rfl) (by rfl) T.f_sum (by decide +kernel) (pa_cons (pe_h F4 hr pass0 (pa_cons (pv 0) (pa_cons (pv 1) (pa_cons (pv 2) pa_nil)))) pa_nil))) (pe_glob (v := .int 60) (by rfl) gML ⟨_, rfl⟩) (nomark _)))))
        (pss_one (ps_raiseLong rfl TL hr (takes_of rfl rfl rfl rfl) (pa_cons (pe_glob (v := .int 60) (by rfl) gML ⟨_, rfl⟩) pa_nil))) pss_nil)
      (pss_one (ps_ret (pe_h F5 hr pass0 (pa_cons (pv 0) (pa_cons (pv 1) (pa_cons (pv 2) pa_nil)))))))), ?_⟩
    refine q_drop (ev_call (ea_3 (ev_var rfl) (ev_var rfl) (ev_var rfl)) fun H3 e3 Q q E => ⟨a, b, (n : Int), rfl, oa, ob, la, lb, by omega, by omega, q⟩) fun H1 e1 => ?_
    refine q_when (et_not (et_B (ev_call (ea_3 (ev_var rfl) (ev_var rfl) (ev_var rfl)) fun H3 e3 Q q E => ⟨a, b, n, rfl, oa, ob, by omega, by omega, h1, h6, q⟩))) (fun hk H2 e2 => ?_) fun hk H2 e2 => ?_
    · have hk : ¬ root n a = root n b := by simpa using hk
      exact s_ret ev_c fun H3 e3 => kN hk H3 ((e1.trans e2).trans e3)
    have kin : root n a = root n b := by simpa using hk
    refine q_when (b := decide ((n : Int) ≤ ((a.length : Nat) : Int)) && decide ((60 : Int) < (n : Int) + ((steps n a).length : Int) + ((maxs (runsP n a) (runsP n b)).sum : Int))) (et_and (et_test (ev_ge (ev_lenT (ev_var rfl) (by omega)) (ev_var rfl))) fun _ =>
      et_test (ev_gt (ev_add (ev_add (ev_var rfl) (ev_is (ev_lenLN (K := K) (el_call (ea_2 (ev_var rfl) (ev_var rfl)) fun H3 e3 Q q E => ⟨a, n, rfl, oa, by omega, q⟩)) (by rw [nts_len])))
        (ev_is (ev_sumN (K := K) (ns := List.map (fun n : Nat => (n : Int)) (maxs (runsP n a) (runsP n b))) (el_is (el_call (ea_3 (ev_var rfl) (ev_var rfl) (ev_var rfl)) fun H3 e3 Q q E => ⟨a, b, n, rfl, oa, ob, by omega, by omega, q⟩) (by rw [List.map_map]; rfl))) (by rw [sum_cast]))) (ev_c (v := .int 60)))) (fun hb H3 e3 => ?_) fun hb H3 e3 => ?_
    · rw [Bool.and_eq_true, decide_eq_true_eq, decide_eq_true_eq] at hb
      have ha : n ≤ a.length := by omega
      have hbl := kin_len h1 oa ob kin ha
      obtain ⟨l1, l2, l3, l4, l5⟩ := ll_coords h1 oa ob kin ha
      have el := len_of h1 l1 l2
      rw [l4, l5] at el
      rw [show runsP n a = runs n a from if_neg (by omega), show runsP n b = runs n b from if_neg (by omega)] at hb
      exact ⟨_, rfl, fun d nd => kE kin (by omega) d _ ((e1.trans e2).trans e3) nd⟩
    · have hle : (ll n a b).length ≤ 60 := by
        by_cases ha : n ≤ a.length
        · have hbl := kin_len h1 oa ob kin ha
          obtain ⟨l1, l2, l3, l4, l5⟩ := ll_coords h1 oa ob kin ha
          have el := len_of h1 l1 l2
          rw [l4, l5] at el
          rw [show runsP n a = runs n a from if_neg (by omega), show runsP n b = runs n b from if_neg (by omega), Bool.and_eq_false_iff, decide_eq_false_iff_not, decide_eq_false_iff_not] at hb
          omega
        · rw [ll, if_pos (by omega)]
          exact la
      exact s_ret (ev_call (ea_3 (ev_var rfl) (ev_var rfl) (ev_var rfl)) fun H4 e4 Q q E => ⟨a, b, n, rfl, oa, ob, la, lb, h1, h6, kin, q⟩) fun H4 e4 => kY kin hle H4 (((e1.trans e2).trans e3).trans e4)
end
end K7

set_option Elab.async false
set_option linter.all false
set_option maxRecDepth 100000
set_option maxHeartbeats 2000000
/-! repr: promises that ask a clear stack of guards; _law_like. -/
namespace K7
open PySem PySem.Spec PyProof.Rows L2 Evl
/-- a def whose promise is kept where no repr runs -/
structure FnG (P : Program) (w : World) (K : PySem.W.Frag) (mg : Str → Option Value) (base : Heap) (CX : CXT) (k : Nat) (f : Addr) (fd : FuncData) (ps : List Str) (sp : Sp) : Prop where
  len : ∀ vs H Q E, sp vs H Q E → vs.length = ps.length
  run : ∀ (A : Around) (outer : List Env) (s : Shared) (H : Hp) (args : Args) (us : List Value) (vs : List V) (Q : VK) (E : XK), Room k A → A.guards = some [] → Env0 P w K mg base A outer s H → BindsTo s fd args (ps.zip us) → Vals vs us → sp vs H Q E →
    codeAny (model P w) A (.call (.ref f) args) (CR CX outer P w H s Q E) s
structure HasG (P : Program) (w : World) (K : PySem.W.Frag) (mg : Str → Option Value) (base : Heap) (CX : CXT) (k : Nat) (x : Str) (ps : List Str) (sp : Sp) : Prop where
  ex : ∃ fd, FnG P w K mg base CX k (He.ga K x) fd ps sp ∧ Binds K fd ps []
  kp : PySem.W.keepIn K (.ref (He.ga K x)) = true
  gl : mg x = some (.ref (He.ga K x))
section
variable {P : Program} {w : World} {K : PySem.W.Frag} {mg : Str → Option Value} {base : Heap} {CX : CXT} {j k : Nat} {x : Str} {ps : List Str} {sp : Sp}
theorem HasG.mono (h : HasG P w K mg base CX j x ps sp) (hj : j ≤ k) : HasG P w K mg base CX k x ps sp := by
  obtain ⟨⟨fd, F, b⟩, kp, gl⟩ := h
  exact ⟨⟨fd, ⟨F.len, fun A outer s H args us vs Q E hr => F.run A outer s H args us vs Q E (hr.mono hj)⟩, b⟩, kp, gl⟩
theorem has_ofG (T : TopE K mg) {d : He.DefD} {st : Stmt} {N : List Str} (i j : Nat) (hd : fn[i]? = some d) (ed : d = ⟨(x, none), x, x, defArgs st, defBody st, defScope st, [], []⟩) (hj : fa[j]? = some (.glo x)) (S : FnScope N ps (defScope st))
    (hb : ∀ (kV doc pm : Value) (an : Option Addr) (cdv ct : Value) (us : List Value), us.length = ps.length → bindArgs (PySem.W.fnOf x x (defArgs st) (defBody st) (defScope st) .none kV doc pm an cdv ct) ⟨us, []⟩ = pure (ps.zip us))
    (len : ∀ vs H Q E, sp vs H Q E → vs.length = ps.length)
    (hbody : ∀ (cdv : Value) (f : Addr) (A : Around) (outer : List Env) (s : Shared) (H : Hp) (vs : List V) (Q : VK) (E : XK), Room k (A.deeper (envOfC x (defScope st) s.heap.objs.size f cdv)) → A.guards = some [] → sp vs H Q E →
      ∃ t, PSs (cxOf CX P w K mg base N x (defScope st) f cdv A outer s H E) (defBody st) t ∧ t { nx := fun _ H' => Q .non H', rt := Q } (L2.start N vs) H) : HasG P w K mg base CX (k + 1) x ps sp := by
  subst ed
  obtain ⟨fd, F⟩ := T.says.def_ i hd
  have F' : FunD K x x (defArgs st) (defBody st) (defScope st) [] [] (He.ga K x) fd := F
  have kp := F'.kp
  obtain ⟨oc, od, dV, kV, doc, pm, an, cdv, ct, osl, rfl, lk, hcd, hv, _⟩ := F'.ex
  rcases hv with ⟨_, rfl⟩ | ⟨hn, _⟩
  · exact ⟨⟨_, ⟨len, fun A outer s H args us vs Q E hr hg e0 hbd r h => LamX.run_ofS lk hcd S hr e0 hbd r (len _ _ _ _ h) fun hr2 => hbody cdv _ A outer s H vs Q E hr2 hg h⟩, .all (hb kV doc pm an cdv ct)⟩, kp, T.glo j hj⟩
  · exact absurd rfl hn
end
section
variable {X : Cx} {CX : CXT} {k : Nat} {x : Str} {ps : List Str} {sp : Sp} {E : XK} {e : Expr} {es : List Expr} {p pos : Pos} {t : TA}
/-- f(e, ..), f such a def -/
theorem pe_hG (F : HasG X.prog X.w X.K X.mg X.base CX k x ps sp) (hr : Room k X.A) (hgd : X.A.guards = some []) (hx : Passes CX X E) (ha : PA X (e :: es) t) (hg : Gl X x := by rfl) (hdb : (x == ("__debug__" : Str)) = false := by decide)
    (he : starEach (e :: es) X.env = (false, eval e X.env) :: starEach es X.env := by rfl) (hpl : (backTo pos (starEach es X.env)).any (·.1) = false := by rfl) : PE X (.Call (.Name x p) (e :: es) [] pos) (tCall sp [] E t) := by
  obtain ⟨⟨fd, G, b⟩, kp, gl⟩ := F
  refine ⟨fun pins s σ H Q I h => wpAny_Call_Name_kw (ld_glob I hg gl (PySem.W.callWith_K (h₀ := X.base) I.ok.mod.kin kp (thn (ha.run pos pins s σ H _ I h) fun us s1 ⟨vs, H1, I1, r, q⟩ => ⟨I1.kIn, ?_⟩) he hpl) hdb)⟩
  have q0 : sp (vs ++ []) H1 Q E := q
  rw [List.append_nil] at q0
  have many : us.length = ps.length := r.length.symm.trans (G.len _ _ _ _ q0)
  have bnd := b s1 us I1.kIn (by rw [List.append_nil]; exact many)
  rw [List.append_nil] at bnd
  refine wpAny_call (codeAny_mono (G.run X.A X.stack s1 H1 ⟨us, []⟩ us vs Q E hr hgd I1.env0 bnd r q0) fun z s2 hz => ?_)
  cases z with
  | error er => exact hx pins σ H1 s1 er s2 I1 hz
  | ok fl =>
    cases fl with
    | ret u => exact I1.after hz
    | next => exact False.elim hz
    | brk => exact False.elim hz
    | cont => exact False.elim hz
/-- repr(v), v data whose text fits -/
def rRepr (K : PySem.W.Frag) : List V → Hp → VK → Prop := fun vs H Q => ∃ (v : V) (d : PyData), vs = [v] ∧ Dp K H v d ∧ d.showable = true ∧ d.hasDict = false ∧ d.depth ≤ 2 ∧ d.shown.length ≤ sizeLine ∧ (v = .non ∨ (∃ b, v = .bl b) ∨ ∃ a, v = .ref a) ∧ Q (.str d.shown) H
theorem cr_repr (hgd : X.A.guards = some []) (hu : X.A.units + 64 < cLine) : CallR X (.builtin "repr") (rRepr X.K) := by
  intro pins s σ H vs us Q I r h
  obtain ⟨v, d, rfl, hd, hs, hno, hdep, hz, hk, q⟩ := h
  obtain ⟨u, rfl, ru⟩ := vals1 r
  rcases hk with rfl | ⟨b, rfl⟩ | ⟨a, rfl⟩
  · cases hd
    obtain rfl : u = Value.none := ru
    exact PySem.P.repr_of_none ⟨.str "None", H, I.tok _, ⟨_, rfl⟩, q⟩
  · cases hd
    obtain rfl : u = Value.bool b := ru
    exact PySem.P.repr_of_bool ⟨.str (if b then "True" else "False"), H, I.tok _, ⟨_, rfl⟩, q⟩
  · obtain rfl : u = Value.ref a := ru
    obtain ⟨as, rd⟩ := Dp.reads I d (.ref a) (.ref a) hd rfl
    exact repr_of_reads' rd hs (fun z => by rw [hno] at z; cases z) hgd (by omega) (fun _ _ e => e) (fun h' u tk keep => ⟨.str d.shown, H, I.kept keep, ⟨_, rfl⟩, q⟩) hz
end
/-- what _law_like is asked of: twice the same data -/
structure Shows (K : PySem.W.Frag) (H : Hp) (v : V) (d : PyData) : Prop where
  dp : Dp K H v d
  kind : v = .non ∨ (∃ b, v = .bl b) ∨ ∃ a, v = .ref a
structure Small (d : PyData) : Prop where
  show_ : d.showable = true
  noD : d.hasDict = false
  deep : d.depth ≤ 2
  long : d.shown.length ≤ sizeLine
section
variable {P : Program} {w : World} {K : PySem.W.Frag} {mg : Str → Option Value} {base : Heap}
def sp_like (K : PySem.W.Frag) : Sp := fun vs H Q _ => ∃ (v u : V) (d : PyData), vs = [v, u] ∧ Shows K H v d ∧ Shows K H u d ∧ Small d ∧ GiveV (.bl true) H Q
theorem ok_like (T : TopE K mg) : HasG P w K mg base CX0 1 "_law_like" ["_law_got", "_law_due"] (sp_like K) := by
  refine has_ofG T 28 28 rfl rfl rfl sc_l_like (fun _ _ _ _ _ _ us hl => match us, hl with | [_, _], _ => rfl) (fun vs H Q E h => ?_) (fun cdv f A outer s H vs Q E hr hgd h => ?_)
  · obtain ⟨v, u, d, rfl, _⟩ := h
    rfl
  · obtain ⟨v, u, d, rfl, hv, hu, hs, k⟩ := h
    have hg2 : (A.deeper (envOfC "_law_like" (defScope s_l_like) s.heap.objs.size f cdv)).guards = some [] := hgd
    refine ⟨_, PSs.nox (pss_one (ps_ret (pe_cmpR op_eq (pe_callB (cr_repr hg2 hr.units) (by rfl) T.f_repr (by decide +kernel) (pa_cons (pv 0) pa_nil)) (pe_callB (cr_repr hg2 hr.units) (by rfl) T.f_repr (by decide +kernel) (pa_cons (pv 1) pa_nil)) (nomark _)))), ?_⟩
    refine ⟨v, rfl, v, d, rfl, hv.dp, hs.show_, hs.noD, hs.deep, hs.long, hv.kind, u, rfl, u, d, rfl, hu.dp, hs.show_, hs.noD, hs.deep, hs.long, hu.kind, rfl, ?_⟩
    rw [decide_eq_true rfl]
    exact k H (Ex.refl H)
/-! ### the data that are shown -/
theorem textFrom_up : ∀ (ts : List Str) (k : Nat) (acc : Str), (textFrom k acc ts).length ≤ acc.length + (ts.map (·.length)).sum + 2 * ts.length
  | [], k, acc => by
    show acc.length ≤ _
    simp
  | t :: ts, k, acc => by
    have ih := textFrom_up ts (k + 1) (acc ++ (if k > 0 then ", " else "" : String) ++ t)
    have h1 : (acc ++ (if k > 0 then ", " else "" : String) ++ t).length ≤ acc.length + 2 + t.length := by
      rw [Str.length_append, Str.length_append]
      split
      · show acc.length + 2 + t.length ≤ _
        omega
      · show acc.length + 0 + t.length ≤ _
        omega
    show (textFrom (k + 1) (acc ++ (if k > 0 then ", " else "" : String) ++ t) ts).length ≤ _
    rw [List.map_cons, List.sum_cons, List.length_cons]
    omega
theorem listText_up (ts : List Str) : (listText ts).length ≤ 2 + (ts.map (·.length)).sum + 2 * ts.length := by
  have h := textFrom_up ts 0 "["
  unfold listText
  rw [Str.length_append]
  have h1 : ("[" : Str).length = 1 := by decide
  have h2 : ("]" : Str).length = 1 := by decide
  omega
end
end K7

set_option Elab.async false
set_option linter.all false
set_option maxRecDepth 100000
set_option maxHeartbeats 4000000
/-! A caught error that is kept: its class asked, its field read. -/
namespace K7
open PySem PySem.Spec PyProof.Rows L2 Evl
open PySem.W (Frag findIn typeIn keepIn subIn hasDictIn nsIn clsIn codeIn InstAt alongIn Looks mroIn specialIn takesIn findObj KitX)
section
variable {prog : Program} {w : World} {A : Around} {E : Value → Shared → Prop} {st : Shared} {K : Frag} {xe Cl : Addr} {ox : Obj} {od : Option Obj}
theorem find_dataD {C : Addr} {name : Str} {a g : Value} (isC : (clsIn K C).isSome = true) (fAt : findIn K (.ref C) name = some (some a)) (hg : specialIn K a "__get__" = some (some g)) (ht : takesIn K a = some true) : findObj K C od name = some (.bind g a) := by
  obtain ⟨cd, isC⟩ := Option.isSome_iff_exists.mp isC
  unfold findObj
  rw [isC, Option.bind_some, fAt, Option.bind_some]
  simp [hg, ht]
/-- xe.__class__, xe such an error with its dict -/
theorem ask_class {Qq : Option Value → Shared → Prop} (C : ExcC K Cl) (KX : K.In st.heap) (It : InstAt st.heap xe ox Cl od) (hq : Qq (some (.ref Cl)) { st with toks := st.toks + 1 }) : wpAny (model prog w) A (getAttr? (.ref xe) "__class__") Qq E st := by
  have found : findObj K Cl od "__class__" = some (.bind (.builtin "getset_descriptor.__get__") (.builtin "object.__class__")) := find_dataD (by obtain ⟨cd, isC, _⟩ := PySem.W.any_some C.hd; rw [isC]; rfl) C.ha C.hn C.ht
  obtain ⟨hp, g, d, tk0, os⟩ := st
  have La := It.type (M := model prog w)
  have Lb := PySem.W.looks_findIn (M := model prog w) KX C.hg
  have L2 := PySem.W.looks_findIn (M := model prog w) KX C.hk
  have Ld := PySem.W.looks_find (M := model prog w) KX It found
  have sub : Looks (model prog w) hp (isInstance (.ref xe) (.type "BaseException")) true := La.andThen (PySem.W.looks_subIn KX C.hs)
  have no0 : (false && onTheHeap (Value.builtin "BaseException.__getattribute__")) = false := rfl
  have no2 : (Value.builtin "BaseException.__getattribute__" == Value.builtin "object.__getattribute__") = false := by decide +kernel
  have no1 : (onTheHeap (Value.ref Cl) && Value.builtin "BaseException.__getattribute__" == Value.builtin "object.__getattribute__") = false := by rw [no2]; rfl
  unfold getAttr? getAttrBy? getAttrBy
  refine wpAny_bind (wpAny_mkText (wpAny_bind (wpAny_attempt (wpAny_holding (wpAny_bind (La.at (wpAny_bind (Lb.at ?_))))))))
  show wpAny _ _ (if (onTheHeap (Value.ref Cl) && Value.builtin "BaseException.__getattribute__" == Value.builtin "object.__getattribute__") = true then _ else _) _ _ _
  rw [no1, if_neg Bool.false_ne_true]
  unfold getAttrByItsOwn hookBefore
  refine wpAny_bind ?_
  rw [if_pos (show onTheHeap (Value.ref Cl) = true from rfl)]
  refine L2.at (wpAny_bind (wpAny_attempt (wpAny_holding ?_)))
  unfold callGetattribute
  rw [no0, if_neg Bool.false_ne_true]
  unfold boundAndCalled
  rw [PySem.F.excAttr_ValueError.ga.bind (.ref xe)]
  refine wpAny_bind (wpAny_pure ?_)
  show wpAny _ _ (call (.builtin "BaseException.__getattribute__") [.ref xe, .str "__class__" tk0]) _ _ _
  refine wpAny_call (codeAny_call_builtin PySem.F.excAttr_ValueError.ga.plain PySem.F.entry_bexc_ga ?_)
  refine @PySem.W.check_slot (model prog w) _ _ ⟨hp, g, d, tk0 + 1, os⟩ "BaseException.__getattribute__" "BaseException" "__getattribute__" (.ref xe) [.str "__class__" tk0] [] _ (by decide +kernel) (by decide +kernel) sub (PySem.F.args_bexc_ga (.ref xe) (.str "__class__" tk0)) ?_
  unfold Builtin.«object.__getattribute__»
  refine wpAny_bind (wpAny_of_eq (a := ((Value.ref xe : Value), [Value.str "__class__" tk0])) (by first | rfl | (simp only [slotArgs]; rfl)) ?_)
  refine wpAny_bind (wpAny_pure (wpAny_bind (La.at (wpAny_bind (Ld.at ?_)))))
  show wpAny _ _ (holding [Value.builtin "object.__class__"] (call (.builtin "getset_descriptor.__get__") [.builtin "object.__class__", .ref xe, .ref Cl]) >>= ret) _ _ _
  refine wpAny_bind (wpAny_holding (wpAny_call (PySem.W.class_get (s := ⟨hp, g, d, tk0 + 1, os⟩) (ox := ox) (od := od) KX It C.hm ?_)))
  refine wpAny_pure ?_
  show wpAny _ _ (handedOut (.ref Cl)) _ _ _
  rw [PySem.W.handedOut_of (v := .ref Cl) rfl]
  first
    | exact wpAny_pure (wpAny_pure hq)
    | exact wpAny_pure hq
    | exact wpAny_pure (wpAny_bind (wpAny_pure (wpAny_pure hq)))
theorem kitD (C : ExcC K Cl) : KitX K (.ref xe) (.ref Cl) (fun hq => InstAt hq xe ox Cl od) where
  ty := fun _ _ _ It => It.type
  it := fun _ _ KX _ => by
    obtain ⟨cdl, hcD, _⟩ := PySem.W.any_some C.hd
    unfold clsIn at hcD
    split at hcD
    · rename_i c' d' cd' sl' ho
      intro A' Q' E' s' kk qq
      unfold isType loadHead
      exact wpAny_bind (wpAny_loadPart (kk _ _ (KX _ _ ho)) (wpAny_pure qq))
    · cases hcD
  ne := fun hq tpl dd its n sl KX htp => by
    obtain ⟨cdl, hcD, _⟩ := PySem.W.any_some C.hd
    refine Bool.eq_false_iff.mpr fun qq => ?_
    have ee : Cl = tpl := Value.ref.inj (beq_iff_eq.mp qq)
    subst ee
    unfold clsIn at hcD
    split at hcD
    · rename_i c' d' cd' sl' ho
      have zz := (KX _ _ ho).symm.trans htp
      cases zz
    · cases hcD
  ca := fun KX It kk => ask_class C KX It kk
end
/-- the context in which a caught error at a is kept -/
abbrev keepCx (KX : Cx) (a : Addr) (oe : Obj) (pn : List (Addr × Obj)) : Cx := KX.tr ((a, oe) :: pn) KX.xe
section
variable {KX : Cx} {a Cl : Addr} {oe : Obj} {pn : List (Addr × Obj)} {d : Option Addr}
/-- isinstance(ee, c), ee the error that is kept -/
def rIsD (K : Frag) (Cl a : Addr) (d : Option Addr) : List V → Hp → VK → Prop := fun ws Hh Qq => ∃ (c : V) (cv : Value) (b : Bool) (dd : Addr) (fs : List (Str × V)), ws = [.ref a, c] ∧ d = some dd ∧ Hh dd = some (.xd fs) ∧ (∀ u, RelV c u → u = cv) ∧ PySem.W.kitOne K (.ref Cl) cv = some b ∧ Qq (.bl b) Hh
theorem call_isD (C : ExcC KX.K Cl) (hz : Zc (.ref Cl) d oe) (hf : ∃ vs, oe.data = .fields vs) : CallR (keepCx KX a oe pn) (.builtin "isinstance") (rIsD KX.K Cl a d) := by
  intro pins st σ Hh ws uv Qq It r hq
  obtain ⟨c, cv, b, dd, fs, rfl, ed, ea, hcv, ee, qq⟩ := hq
  subst ed
  cases r with
  | cons rx rr =>
    cases rr with
    | cons rt rr =>
      cases rr
      cases rx
      have ec := hcv _ rt
      subst ec
      obtain ⟨here, _⟩ := It.pin (a, oe) (List.mem_append.mpr (.inl List.mem_cons_self))
      obtain ⟨vs, hv⟩ := hf
      have ok : ObjOk KX.prog KX.w Hh st.heap dd (.xd fs) := It.hok dd _ ea
      obtain ⟨mA, hns, _⟩ := ok
      obtain ⟨od, ho, _⟩ := lookIn_ns hns
      have J : InstAt st.heap a oe Cl (some od) := ⟨here, hz.1, by unfold PySem.W.notCls; rw [hv] <;> rfl, by rw [hz.2]; exact ho⟩
      exact PySem.W.kia_one (kitD C) It.kIn J ee (fun zz => nomatch zz) fun tk => ⟨.bl b, Hh, It.kept (t' := tk) fun _ _ zz => zz, rfl, qq⟩
/-- ee.n, ee the error that is kept -/
theorem pe_keptF {cls : Value} {C : Addr} {ee : Expr} {te : TE} {pos : Pos} {n : Str} (T : XfC KX.K C) (hno : findIn KX.K (.ref C) n = some none) (hz : Zc cls d oe) (hf : ∃ vs, oe.data = .fields vs) (he : PE (keepCx KX a oe pn) ee te)
    (hb : attributeBase ee n KX.env (eval ee KX.env) = eval ee KX.env := by rfl) : PE (keepCx KX a oe pn) (.Attribute ee n pos) (tXf a cls d C n te) := by
  refine ⟨fun pins st σ Hh Qq It hq => ?_⟩
  refine attr_of hb (thn (he.run pins st σ Hh _ It hq) fun u s1 got => ?_)
  obtain ⟨xe, H1, I1, rx, rfl, rfl, dd, fs, v, rfl, ea, look, qq⟩ := got
  obtain rfl : u = Value.ref a := rx
  obtain ⟨here, _⟩ := I1.pin (a, oe) (List.mem_append_left _ List.mem_cons_self)
  obtain ⟨vs, hd⟩ := hf
  have ok : ObjOk KX.prog KX.w H1 s1.heap dd (.xd fs) := I1.hok dd _ ea
  obtain ⟨mA, hns, hr⟩ := ok
  obtain ⟨od, ho, look1⟩ := lookIn_ns hns
  obtain ⟨u, atU, relU⟩ := RelO.some_of (v := v) (o := mA n) (by rw [← look]; exact hr n)
  have J : InstAt s1.heap a oe C (some od) := ⟨here, hz.1, by unfold PySem.W.notCls; rw [hd] <;> rfl, by rw [hz.2]; exact ho⟩
  exact HandSPX.exc_get I1.kIn J T.ga T.gg T.exC (PySem.W.findObj_own T.hdC hno rfl (by rw [look1, atU])) (handed_of relU) ⟨v, H1, I1.tok _, relU, qq⟩
end
end K7

set_option Elab.async false
set_option linter.all false
set_option maxRecDepth 100000
set_option maxHeartbeats 4000000
/-! try .. except (A, B, C) as n: the error is kept for what comes behind. -/
namespace K7
open PySem PySem.Spec PyProof.Rows L2 Evl
open PySem.W (Frag exmAny)
theorem fly_push {B h : Heap} {l : List Env} {ae : Addr} {Z : Obj → Prop} {o : Obj} (f : HandSPX.FlyingZ B l ae Z h) : HandSPX.FlyingZ B l ae Z (h.push o) := by
  obtain ⟨k1, k2, k3, oe, vs, Tb, oT, ts, e1, e2, e3, e4, e5, e6, e7, e8, e9⟩ := f
  exact ⟨fun b u e => Heap.get?_push_of_some _ (k1 b u e), k2, Heap.FunFrames.of_keeps (fun b u e _ => ⟨u, Heap.get?_push_of_some _ e, rfl⟩) k3, oe, vs, Tb, oT, ts, Heap.get?_push_of_some _ e1, e2, e3, e4, e5, e6, Heap.get?_push_of_some _ e7, e8, e9⟩
/-- what is wished of an error of the body -/
def wKeep (K : Frag) (cs : List Value) (i : Nat) (ts : Addr → Value → Option Addr → TS) (tr : Addr → Value → Option Addr → TS) (Wout : WX) (D : Ends) : WX := fun cls d σ H => ∃ b, exmAny K cls cs = some b ∧
  (b = true → ∀ ae, H ae = none → ts ae cls d { nx := fun σ' H' => tr ae cls d D (σ'.set i none) H', rt := fun _ _ => False, bk := fun _ _ => False, ct := fun _ _ => False } (σ.set i (some (.ref ae))) H) ∧ (b = false → Wout cls d σ H)
section
variable {X : Cx} {pins : List (Addr × Obj)} {σ : L2.St} {H : Hp} {s : Shared} {ae : Addr} {oe : Obj}
theorem Inv.toKeep {pn : List (Addr × Obj)} (Iv : Inv (X.suite ae ((ae, oe) :: pn)) [] σ H s) (ok : X.Ok) : Inv (keepCx X ae oe pn) [] σ H s :=
  ⟨ok.toTry _ _, Iv.os, Iv.bare, Iv.base, Iv.loc, Iv.cell, Iv.free, Iv.freeC, Iv.pin, Iv.hok, Iv.len⟩
theorem Inv.ofKeep (Iv : Inv (keepCx X ae oe (X.pn ++ pins)) [] σ H s) (ok : X.Ok) : Inv X pins σ H s :=
  ⟨ok, Iv.os, Iv.bare, Iv.base, Iv.loc, Iv.cell, Iv.free, Iv.freeC, fun p hp => Iv.pin p (List.mem_append_left _ (List.mem_cons_of_mem _ hp)), Iv.hok, Iv.len⟩
end
section
variable {X : Cx} {x1 x2 x3 n : Str} {C1 C2 C3 : Addr} {i : Nat} {body suite rest : List Stmt} {b₀ : Stmt} {k : Nat} {p1 p2 p3 tp hp pos : Pos} {tb : WX → TS} {ts tr : Addr → Value → Option Addr → TS} {tn : TS} {Wout : WX}
theorem pss_keep (hs : X.stack = X.env :: X.outer) (hf : X.env.frame = some X.env.locals) (hN : X.N.Nodup) (hi : X.N[i]? = some n) (hln : X.env.kindOf n = some .local)
    (g1 : Gl X x1) (m1 : X.mg x1 = some (.ref C1)) (g2 : Gl X x2) (m2 : X.mg x2 = some (.ref C2)) (g3 : Gl X x3) (m3 : X.mg x3 = some (.ref C3)) (tk : Takes X Wout)
    (hb : ∀ (W : WX) (pn : List (Addr × Obj)) (xe : Value → Shared → Prop), Takes (X.tr pn xe) W → PassesOwn (model X.prog X.w) X.A X.env xe → PSs (X.tr pn xe) body (tb W))
    (hsu : ∀ (ae : Addr) (oe : Obj) (cls : Value) (d : Option Addr) (pn : List (Addr × Obj)), Zc cls d oe → (∃ vs, oe.data = .fields vs) → PSs (X.suite ae ((ae, oe) :: pn)) (b₀ :: suite) (ts ae cls d))
    (hr : ∀ (ae : Addr) (oe : Obj) (cls : Value) (d : Option Addr) (pn : List (Addr × Obj)), Zc cls d oe → (∃ vs, oe.data = .fields vs) → PSs (keepCx X ae oe pn) rest (tr ae cls d)) (hn : PSs X rest tn)
    (d1 : (x1 == ("__debug__" : Str)) = false := by decide) (d2 : (x2 == ("__debug__" : Str)) = false := by decide) (d3 : (x3 == ("__debug__" : Str)) = false := by decide) :
    PSs X (.Try body [.ExceptHandler (some (.Tuple [.Name x1 p1, .Name x2 p2, .Name x3 p3] k tp)) (some n) (b₀ :: suite) hp] [] [] pos :: rest)
      (fun D σ H => tb (wKeep X.K [.ref C1, .ref C2, .ref C3] i ts tr Wout D) { D with nx := tn D } σ H) := by
  refine ⟨fun pins s σ H D Iv h => ?_⟩
  have ok := Iv.ok
  have framesE : X.A.frames = some (X.env :: X.outer) := by rw [ok.frames, hs]
  have inScope : Loc X.env.scope n := .inl hln
  have next : ∀ {σ' : L2.St} {H' : Hp} {s' : Shared}, Inv X pins σ' H' s' → tn D σ' H' → wpAny (model X.prog X.w) X.A (execs rest X.env) (SP X pins D) X.xe s' := fun {σ' H' s'} Jn qq => hn.run pins s' σ' H' D Jn qq
  let QF : Flow → Shared → Prop := fun f s' => match f with
    | .next => wpAny (model X.prog X.w) X.A (execs rest X.env) (SP X pins D) X.xe s'
    | f => SP X pins D f s'
  suffices main : wpAny (model X.prog X.w) X.A (exec (.Try body [.ExceptHandler (some (.Tuple [.Name x1 p1, .Name x2 p2, .Name x3 p3] k tp)) (some n) (b₀ :: suite) hp] [] [] pos) X.env) QF X.xe s by
    exact wpAny_execs_cons (thn main fun f s1 qq => by cases f <;> exact qq)
  refine wpAny_Try_except ?_
  refine wpAny_mono ((hb (wKeep X.K [.ref C1, .ref C2, .ref C3] i ts tr Wout D) (X.pn ++ pins) (fun e s₁ => wpAny (model X.prog X.w) X.A (noteFrame e X.env) (fun _ s₂ => wpAny (model X.prog X.w) X.A (setFlight e none) (fun _ s₃ =>
    wpAny (model X.prog X.w) X.A (handleBy e X.env [.ExceptHandler (some (.Tuple [.Name x1 p1, .Name x2 p2, .Name x3 p3] k tp)) (some n) (b₀ :: suite) hp]) QF X.xe s₃) X.xe s₂) X.xe s₁) (fun u s' xx => ?_) PassesOwn.looking).run [] s σ H { D with nx := tn D } (Iv.toTry _) h) (fun f s1 res => ?_) (fun e s1 eO => eO)
  · obtain ⟨ae, B, sI, pins', σ', H', cls, d, rfl, Jt, nb, up, sky, na, os, ag, b, hb1, hyes, hno⟩ := xx
    have Jn : Inv X pins σ' H' sI := Jt.ofTry ok
    have skyN : Sky B (X.env :: X.outer) ae (Zc cls d) X.env.locals s'.heap := by rw [← hs]; exact sky
    show wpAny (model X.prog X.w) X.A (noteFrame (.ref ae) X.env) _ _ _
    refine Sky.land Zc.steady framesE hf skyN fun hpa fla upa => ?_
    have Ja : Inv X pins σ' H' { s' with heap := hpa } := Jn.landed nb fla.1 (up.trans upa) os ag
    obtain ⟨oea, vsa, hea, hza, hda⟩ := fla.there
    have offAll : ∀ {h : Heap} {o : Obj} {vs : Array Value}, h.FunFrames B (X.env :: X.outer) → h.get? ae = some o → o.data = .fields vs → ae ∉ frs (X.env :: X.outer) := fun {h o vs} ff e dd inn => by
      obtain ⟨_, on, en, nnf⟩ := ff.mem inn
      rw [e] at en
      cases en
      exact nnf _ dd
    have offFr := offAll fla.2.2.1 hea hda
    have offL : ae ≠ X.env.locals := fun z => offFr (List.mem_filterMap.mpr ⟨X.env, List.mem_cons_self, by rw [hf, z]⟩)
    have offF : ae ∉ X.fs := fun inn => by
      obtain ⟨e, eO, qq⟩ := List.mem_filterMap.mp inn
      exact offFr (List.mem_filterMap.mpr ⟨e, List.mem_cons_of_mem _ eO, qq⟩)
    have Sa := Ja.suite hea hda na offL offF
    refine wpAny_handleBy_cons (codeAny_handlers_test ?_) (fun z => by cases z)
    refine wpAny_Tuple_spliced (Calls.spliced_cons (ld_glob (X := X.suite ae ((ae, oea) :: (X.pn ++ pins))) Sa g1 m1 (Calls.spliced_cons (ld_glob (X := X.suite ae ((ae, oea) :: (X.pn ++ pins))) Sa g2 m2 (Calls.spliced_cons (ld_glob (X := X.suite ae ((ae, oea) :: (X.pn ++ pins))) Sa g3 m3 (Calls.spliced_nil ⟨by show 3 ≤ sizeLine; decide, ?_⟩) d3)) d2)) d1))
    let hT := hpa.push { cls := .type "tuple", data := .seq #[Value.ref C1, .ref C2, .ref C3] }
    have flT : HandSPX.FlyingZ B (X.env :: X.outer) ae (Zc cls d) hT := fly_push fla
    have keepT : ∀ b o, hpa.get? b = some o → hT.get? b = some o := fun b o e => Heap.get?_push_of_some _ e
    have upT : hpa.UpToSlots hT := Heap.UpToSlots.of_keeps keepT
    have JT : Inv X pins σ' H' { s' with heap := hT } := Jn.landed nb flT.1 ((up.trans upa).trans upT) os ag
    have LT : PySem.W.Looks (model X.prog X.w) hT (typeOf (.ref ae)) cls := fun A Q E s k qq => wpAny_typeOf_ref (k _ _ (keepT _ _ hea)) (by rw [hza.1]; exact qq)
    have LM := PySem.W.exm_tup3 (M := model X.prog X.w) JT.kIn LT (tp := hpa.objs.size) (c1 := .ref C1) (c2 := .ref C2) (c3 := .ref C3) (Heap.get?_push_size _ rfl) hb1
    refine LM.here ?_
    cases b with
    | true =>
      refine codeAny_handlers_suite_as (HandSPX.lands_againZ flT fun h4 fl4 up4 => ?_)
      have Jb : Inv X pins σ' H' { s' with heap := h4 } := Jn.landed nb fl4.1 (((up.trans upa).trans upT).trans up4) os ag
      obtain ⟨oeb, vsb, heb, hzb, hdb⟩ := fl4.there
      have Sb := Jb.suite heb hdb na offL offF
      refine store_ok (X := X.suite ae ((ae, oeb) :: (X.pn ++ pins))) (v := .ref ae) Sb hN hi inScope rfl (fun sc Sc => ?_) (.inr hln)
      refine wpAny_mono ((hsu ae oeb cls d (X.pn ++ pins) hzb ⟨_, hdb⟩).run [] sc _ H' _ Sc (hyes rfl ae na)) (fun f sd res => ?_) (fun _ _ z => False.elim z)
      cases f with
      | next =>
        obtain ⟨σ6, H6, Sd, qd⟩ := res
        have K6 : Inv (keepCx X ae oeb (X.pn ++ pins)) [] σ6 H6 sd := Inv.toKeep Sd ok
        refine gone_ok (X := keepCx X ae oeb (X.pn ++ pins)) K6 hN hi hln fun s7 K7 => ?_
        show wpAny (model X.prog X.w) X.A (execs rest X.env) (SP X pins D) X.xe s7
        refine wpAny_mono ((hr ae oeb cls d (X.pn ++ pins) hzb ⟨_, hdb⟩).run [] s7 _ H6 D K7 qd) (fun f s8 res => ?_) (fun _ _ z => z)
        cases f with
        | next =>
          obtain ⟨σ8, H8, K8, q8⟩ := res
          exact ⟨σ8, H8, Inv.ofKeep K8 ok, q8⟩
        | brk =>
          obtain ⟨σ8, H8, K8, q8⟩ := res
          exact ⟨σ8, H8, Inv.ofKeep K8 ok, q8⟩
        | cont =>
          obtain ⟨σ8, H8, K8, q8⟩ := res
          exact ⟨σ8, H8, Inv.ofKeep K8 ok, q8⟩
        | ret u =>
          obtain ⟨v8, σ8, H8, K8, r8, q8⟩ := res
          exact ⟨v8, σ8, H8, Inv.ofKeep K8 ok, r8, q8⟩
      | brk =>
        obtain ⟨_, _, _, qd⟩ := res
        exact False.elim qd
      | cont =>
        obtain ⟨_, _, _, qd⟩ := res
        exact False.elim qd
      | ret u =>
        obtain ⟨_, _, _, _, _, qd⟩ := res
        exact False.elim qd
    | false =>
      show wpAny _ X.A (handleBy (.ref ae) X.env []) _ _ _
      refine wpAny_handleBy_nil ?_
      obtain ⟨k1, k2, k3, oe, vs, Tb, oT, ts', eO, hz, dO, xO, hr⟩ := id flT
      unfold PySem.passOn
      refine wpAny_bind (wpAny_field eO dO xO ?_)
      rw [if_neg (show ¬ ((Value.ref Tb == Value.none) = true) from by simp)]
      have fly : wpAny (model X.prog X.w) X.A (setFlight (.ref ae) X.env.frame) (fun _ s4 => wpAny (model X.prog X.w) X.A (throw (.ref ae) : Sem Flow) QF X.xe s4) X.xe { s' with heap := hT } := by
        rw [hf]
        refine HandSPX.setFlight_upZ flT fun h4 hh4 up4 => wpAny_throw (tk _ _ ?_)
        exact ⟨ae, B, sI, pins, σ', H', cls, d, rfl, Jn, nb, ((up.trans upa).trans upT).trans up4, .inr (.inr (by rw [hs]; exact hh4)), na, os, ag, hno rfl⟩
      first
        | exact wpAny_bind (wpAny_pure (wpAny_bind fly))
        | exact wpAny_bind fly
  · cases f with
    | next =>
      obtain ⟨σ', H', Jt, qq⟩ := res
      exact wpAny_execs_nil (next (Jt.ofTry ok) qq)
    | brk =>
      obtain ⟨σ', H', Jt, qq⟩ := res
      exact ⟨σ', H', Jt.ofTry ok, qq⟩
    | cont =>
      obtain ⟨σ', H', Jt, qq⟩ := res
      exact ⟨σ', H', Jt.ofTry ok, qq⟩
    | ret u =>
      obtain ⟨v, σ', H', Jt, r, qq⟩ := res
      exact ⟨v, σ', H', Jt.ofTry ok, r, qq⟩
end
end K7

set_option Elab.async false
set_option linter.all false
set_option maxRecDepth 100000
set_option maxHeartbeats 4000000
/-! _law_told, given a lambda. -/
namespace K7
open PySem PySem.Spec PyProof.Rows L2 Evl
open PySem.W (Frag exmAny kitOne findIn)
theorem takes_len {X : Cx} {W : WX} (t : Takes X W) : Takes X (fun cls d σ H => σ.length = X.N.length → W cls d σ H) := fun u s' ⟨a, B, sI, pns, σ, H, cls, d, e, I, nb, up, sky, na, os, ag, w⟩ =>
  t u s' ⟨a, B, sI, pns, σ, H, cls, d, e, I, nb, up, sky, na, os, ag, w I.len⟩
theorem pe_false {X : Cx} {e : Expr} : PE X e (fun _ _ _ => False) := ⟨fun _ _ _ _ _ _ h => h.elim⟩
theorem pss_false {X : Cx} {st : List Stmt} : PSs X st (fun _ _ _ => False) := ⟨fun _ _ _ _ _ _ h => h.elim⟩
theorem pss_when {X : Cx} {st : List Stmt} {t : TS} {p : Prop} (h : p → PSs X st t) : PSs X st (fun Ds σ H => p ∧ t Ds σ H) := ⟨fun pns s σ H Ds I q => (h q.1).run pns s σ H Ds I q.2⟩
/-- what the written part says of TooLong among the other errors -/
structure ToldT (K : Frag) : Prop where
  exm : exmAny K (.ref (He.ga K "TooLong")) [.ref (He.ga K "TwiceError"), .ref (He.ga K "TooLong"), .ref (He.ga K "TooMany")] = some true
  yes : kitOne K (.ref (He.ga K "TooLong")) (.ref (He.ga K "TooLong")) = some true
  many : kitOne K (.ref (He.ga K "TooLong")) (.ref (He.ga K "TooMany")) = some false
  letters : kitOne K (.ref (He.ga K "TooLong")) (.ref (He.ga K "BadLetters")) = some false
  size : kitOne K (.ref (He.ga K "TooLong")) (.ref (He.ga K "BadSize")) = some false
  place : kitOne K (.ref (He.ga K "TooLong")) (.ref (He.ga K "BadPlace")) = some false
  number : kitOne K (.ref (He.ga K "TooLong")) (.ref (He.ga K "BadNumber")) = some false
  paper : kitOne K (.ref (He.ga K "TooLong")) (.ref (He.ga K "BadPaper")) = some false
  exc : ExcC K (He.ga K "TooLong")
  xf : XfC K (He.ga K "TooLong")
  noN : findIn K (.ref (He.ga K "TooLong")) "most" = some none
/-- what told makes of the lambda's reading -/
def TTol (K : Frag) : (XK → Hp → VK → Prop) → Hp → VK → Prop := fun tl H Q => ∀ H1, Ex H H1 →
  tl (fun cls d H' => cls = .ref (He.ga K "TooLong") ∧ ∃ dd v, d = some dd ∧ H' dd = some (xdMost v) ∧ ∀ H2 t, Ex H' H2 → H2 t = some (.tup [.str "long", v]) → Q (.ref t) H2) H1
    (fun v H' => ∀ H2 l, Ex H' H2 → H2 l = some (.lst [v]) → Q (.ref l) H2)
section
variable {X : Cx} {a : Addr} {oe : Obj} {pn : List (Addr × Obj)} {d : Option Addr} {Ds : Addr}
theorem pt_isD {c : Str} {C : Addr} {i : Nat} {x : Str} {p1 p2 p3 p4 : Pos} (E : ExcC X.K Ds) (hz : Zc (.ref Ds) d oe) (hf : ∃ vs, oe.data = .fields vs) (hm : X.mg "isinstance" = none) (hN : X.N[i]? = some x) (hv : Vis X.env.scope x) (gc : Gl X c) (mc : X.mg c = some (.ref C))
    (hg : Gl X "isinstance") (hd : (x == ("__debug__" : Str)) = false) (hcd : (x == ("__classdict__" : Str)) = false) (dc : (c == ("__debug__" : Str)) = false) :
    PT (keepCx X a oe pn) (.Call (.Name "isinstance" p1) [.Name x p2, .Name c p3] [] p4) (tB (tCB (rIsD X.K Ds a d) (tCons (tVar i) (tCons (tC (.ref C)) tNil)))) :=
  pt_val (pe_callB (X := keepCx X a oe pn) (call_isD E hz hf) hg hm (by decide +kernel) (pa_cons (pe_var hN hv hd hcd) (pa_cons (pe_glob gc mc rfl dc) pa_nil)))
end
section
variable {P : Program} {w : World} {K : Frag} {mg : Str → Option Value} {base : Heap}
theorem g_go {i : Nat} {x : V} {σ : L2.St} {H : Hp} {Q : L2.St → Hp → Prop} (h : Q (σ.set i (some x)) H) : gName i x σ H Q := h
theorem tl_one {te : TE} {σ : L2.St} {H : Hp} {Q : VK} (h : te σ H (fun x H1 => 1 ≤ sizeLine ∧ ∀ p, H1 p = none → Q (.ref p) (upd H1 p (.lst [x])))) : tLst (tCons te tNil) σ H Q := h
theorem et_isD {σ : L2.St} {H : Hp} {Ds a dd C : Addr} {i : Nat} {v : V} {b : Bool} (h : Ev (tVar i) σ H (.ref a)) (hd : H dd = some (xdMost v)) (hk : kitOne K (.ref Ds) (.ref C) = some b) : EvT (tB (tCB (rIsD K Ds a (some dd)) (tCons (tVar i) (tCons (tC (.ref C)) tNil)))) σ H b := fun H1 e Q q =>
  h H1 e _ fun H2 e2 => ⟨.ref C, .ref C, b, dd, _, rfl, rfl, (e.trans e2) _ _ hd, fun _ r => r, hk, b, rfl, q H2 e2⟩
theorem ev_most {σ : L2.St} {H : Hp} {Ds a dd : Addr} {i : Nat} {v : V} (h : Ev (tVar i) σ H (.ref a)) (hd : H dd = some (xdMost v)) : Ev (tXf a (.ref Ds) (some dd) Ds "most" (tVar i)) σ H v := fun H1 e Q q =>
  h H1 e _ fun H2 e2 => ⟨rfl, rfl, dd, _, v, rfl, (e.trans e2) _ _ hd, by simp [List.lookup], q H2 e2⟩
abbrev told2 : List Stmt := match defBody s_l_told with
  | _ :: _ :: r => r
  | _ => []
abbrev toldCx (P : Program) (w : World) (K : Frag) (mg : Str → Option Value) (base : Heap) (g : Addr) (cdg : Value) (A : Around) (outer : List Env) (s : Shared) (H : Hp) : Cx :=
  (cxOf C8.CX0 P w K mg base N_l_told "_law_told" (defScope s_l_told) g cdg A outer s H C8.E0).nox
theorem told_rest (T : TopE K mg) (B : ToldT K) (g : Addr) (cdg : Value) (A : Around) (outer : List Env) (s : Shared) (H0 : Hp) :
    ∃ t : Addr → Option Addr → TS, (∀ (a : Addr) (oe : Obj) (d : Option Addr) (pn : List (Addr × Obj)), Zc (.ref (He.ga K "TooLong")) d oe → (∃ vs, oe.data = .fields vs) → PSs (keepCx (toldCx P w K mg base g cdg A outer s H0) a oe pn) told2 (t a d)) ∧
      ∀ (a dd : Addr) (v : V) (x0 x1 x3 x4 : Option V) (H : Hp) (Ds : Ends), H dd = some (xdMost v) → (∀ H2 t, Ex H H2 → H2 t = some (.tup [.str "long", v]) → Ds.rt (.ref t) H2) → t a (some dd) Ds [x0, x1, some (.ref a), x3, x4] H := by
  refine ⟨?t, ?h, ?k⟩
  case h =>
    intro a oe d pn hz hf
    exact pss_cons (X := keepCx (toldCx P w K mg base g cdg A outer s H0) a oe pn) (ps_if (pt_cmpR op_isN (pv 2) pe_non (nomark _)) pss_false pss_nil)
      (pss_cons (ps_set (i := 4) sc_l_told.nd rfl (Or.inl rfl) (pe_ifExp (pt_isD (x := "_law_caught") (i := 2) (c := "TooLong") B.exc hz hf T.f_isinstance (by rfl) (Or.inl rfl) (by rfl) (T.glo 42 rfl) (by rfl) (by decide) (by decide) (by decide)) (pe_lst (pa_cons (pe_tup (pa_cons pe_str (pa_cons (pe_keptF B.xf B.noN hz hf (pv 2)) pa_nil))) pa_nil)) (pe_lst pa_nil)))
      (pss_cons (ps_set (i := 4) sc_l_told.nd rfl (Or.inl rfl) (pe_ifExp (pt_isD (x := "_law_caught") (i := 2) (c := "TooMany") B.exc hz hf T.f_isinstance (by rfl) (Or.inl rfl) (by rfl) (T.glo 44 rfl) (by rfl) (by decide) (by decide) (by decide)) pe_false (pv 4)))
      (pss_cons (ps_set (i := 4) sc_l_told.nd rfl (Or.inl rfl) (pe_ifExp (pt_isD (x := "_law_caught") (i := 2) (c := "BadLetters") B.exc hz hf T.f_isinstance (by rfl) (Or.inl rfl) (by rfl) (T.glo 45 rfl) (by rfl) (by decide) (by decide) (by decide)) pe_false (pv 4)))
      (pss_cons (ps_set (i := 4) sc_l_told.nd rfl (Or.inl rfl) (pe_ifExp (pt_isD (x := "_law_caught") (i := 2) (c := "BadSize") B.exc hz hf T.f_isinstance (by rfl) (Or.inl rfl) (by rfl) (T.glo 46 rfl) (by rfl) (by decide) (by decide) (by decide)) pe_false (pv 4)))
      (pss_cons (ps_set (i := 4) sc_l_told.nd rfl (Or.inl rfl) (pe_ifExp (pt_isD (x := "_law_caught") (i := 2) (c := "BadPlace") B.exc hz hf T.f_isinstance (by rfl) (Or.inl rfl) (by rfl) (T.glo 47 rfl) (by rfl) (by decide) (by decide) (by decide)) pe_false (pv 4)))
      (pss_cons (ps_set (i := 4) sc_l_told.nd rfl (Or.inl rfl) (pe_ifExp (pt_isD (x := "_law_caught") (i := 2) (c := "BadNumber") B.exc hz hf T.f_isinstance (by rfl) (Or.inl rfl) (by rfl) (T.glo 48 rfl) (by rfl) (by decide) (by decide) (by decide)) pe_false (pv 4)))
      (pss_cons (ps_set (i := 4) sc_l_told.nd rfl (Or.inl rfl) (pe_ifExp (pt_isD (x := "_law_caught") (i := 2) (c := "BadPaper") B.exc hz hf T.f_isinstance (by rfl) (Or.inl rfl) (by rfl) (T.glo 49 rfl) (by rfl) (by decide) (by decide) (by decide)) pe_false (pv 4)))
      (pss_one (ps_ret (pe_ifExp (show PT _ _ (tTest (tOp rEq (tCB (rLenQ K) (tCons (tVar 4) tNil)) (tC (.int 1)))) from pt_cmpR op_eq (pe_callB call_len_seq (by rfl) T.f_len PySem.boot_len (pa_cons (pv 4) pa_nil)) pe_int (nomark _)) (show PE _ _ (tOp (rIxL K) (tVar 4) (tC (.int 0))) from pe_ix ix_list (pv 4) pe_int (fun _ _ => rfl)) pe_false))))))))))
  case k =>
    intro a dd v x0 x1 x3 x4 H Ds hd k
    refine q_when (b := false) (et_is (et_test (ev_isN (ev_var rfl))) (by simp)) (fun h => by cases h) fun _ H1 e1 => ?_
    have hd1 := e1 _ _ hd
    refine et_isD (ev_var rfl) hd1 B.yes H1 (Ex.refl H1) _ fun H2 e2 => ?_
    rw [if_pos rfl]
    refine tl_one ?_
    refine eu_tup (ea_2 (ev_c (v := .str "long")) (ev_most (ev_var rfl) (e2 _ _ hd1))) (by simp) H2 (Ex.refl H2) _ fun t H3 nt e3 ht => ⟨by show 1 ≤ sizeLine; decide, fun l nl => ?_⟩
    generalize hH4 : upd H3 l (.lst [.ref t]) = H4
    have e34 : Ex H3 H4 := by rw [← hH4]; exact Ex.new nl
    have hl4 : H4 l = some (.lst [.ref t]) := by rw [← hH4]; exact upd_same
    have e04 : Ex H H4 := ((e1.trans e2).trans e3).trans e34
    have hd4 := e04 _ _ hd
    refine g_go ?_
    dsimp only
    refine q_asg (v := .ref l) (ev_if (b := false) (et_isD (ev_var (i := 2) rfl) hd4 B.many) (fun h => by cases h) fun _ => ev_var (i := 4) rfl) fun H5 e5 => ?_
    have hd5 := e5 _ _ hd4
    refine q_asg (v := .ref l) (ev_if (b := false) (et_isD (ev_var (i := 2) rfl) hd5 B.letters) (fun h => by cases h) fun _ => ev_var (i := 4) rfl) fun H6 e6 => ?_
    have hd6 := e6 _ _ hd5
    refine q_asg (v := .ref l) (ev_if (b := false) (et_isD (ev_var (i := 2) rfl) hd6 B.size) (fun h => by cases h) fun _ => ev_var (i := 4) rfl) fun H7 e7 => ?_
    have hd7 := e7 _ _ hd6
    refine q_asg (v := .ref l) (ev_if (b := false) (et_isD (ev_var (i := 2) rfl) hd7 B.place) (fun h => by cases h) fun _ => ev_var (i := 4) rfl) fun H8 e8 => ?_
    have hd8 := e8 _ _ hd7
    refine q_asg (v := .ref l) (ev_if (b := false) (et_isD (ev_var (i := 2) rfl) hd8 B.number) (fun h => by cases h) fun _ => ev_var (i := 4) rfl) fun H9 e9 => ?_
    have hd9 := e9 _ _ hd8
    refine q_asg (v := .ref l) (ev_if (b := false) (et_isD (ev_var (i := 2) rfl) hd9 B.paper) (fun h => by cases h) fun _ => ev_var (i := 4) rfl) fun H10 e10 => ?_
    have e410 : Ex H4 H10 := ((((e5.trans e6).trans e7).trans e8).trans e9).trans e10
    have hl := e410 _ _ hl4
    refine s_ret (v := .ref t) (ev_if (b := true) (et_is (et_test (ev_eqI (ev_lenL (K := K) (ev_var rfl) (sq_of hl)) (ev_c (v := .int 1)))) (by simp)) (fun _ => ev_op (ev_var rfl) (ev_c (v := .int 0)) (rv_ixL (K := K) (sq_of hl) (atI_nat (j := 0) rfl))) fun h => by cases h) fun H11 e11 => ?_
    exact k H11 t (e04.trans (e410.trans e11)) ((e34.trans (e410.trans e11)) _ _ ht)
/-- a reading with a weaker wish -/
def tWeak (t : TE) : TE := fun σ H Q => ∃ Q0 : VK, t σ H Q0 ∧ ∀ x H1, Q0 x H1 → Q x H1
theorem pe_monoK {X : Cx} {e : Expr} {t : TE} (h : PE X e t) : PE X e (tWeak t) := ⟨fun pns s σ H Q I ⟨Q0, h0, k⟩ => thn (h.run pns s σ H Q0 I h0) fun u s1 ⟨v, H1, I1, r, q⟩ => ⟨v, H1, I1, r, k v H1 q⟩⟩
theorem len5 {σ : L2.St} (h : σ.length = 5) : ∃ x0 x1 x2 x3 x4, σ = [x0, x1, x2, x3, x4] := by
  match σ, h with
  | [x0, x1, x2, x3, x4], _ => exact ⟨x0, x1, x2, x3, x4, rfl⟩
theorem told_gives (T : TopE K mg) (B : ToldT K) {X : Cx} (eK : X.K = K) (em : X.mg = mg) (g : Addr) (cdg : Value) (q : Str) :
    LamX.GivesTo X N_l_told "_law_told" (defScope s_l_told) g cdg (defBody s_l_told) "_law_call" q (TTol K) := by
  subst eK em
  intro f c' s H Q tl act hc h
  obtain ⟨tr, hr, hk⟩ := told_rest (P := X.prog) (w := X.w) (base := X.base) T B g cdg X.A X.stack s H
  refine ⟨_, pss_cons (X := toldCx X.prog X.w X.K X.mg X.base g cdg X.A X.stack s H) (ps_asg (pe_tup (pa_cons pe_non (pa_cons pe_non pa_nil))) (pg_tup rfl (pgs_cons (pg_name (i := 1) sc_l_told.nd rfl (Or.inl rfl)) (pgs_cons (pg_name (i := 2) sc_l_told.nd rfl (Or.inl rfl)) pgs_nil))))
    (pss_keep (x1 := "TwiceError") (x2 := "TooLong") (x3 := "TooMany") (i := 3) (ts := fun _ _ _ => tAsg (tVar 3) (gName 2)) (tr := fun a cls d => fun Ds σ H => cls = .ref (He.ga X.K "TooLong") ∧ tr a d Ds σ H) (Wout := fun _ _ _ _ => False)
      (tb := fun W Ds σ H => ∃ (Ech : XK) (Q0 : VK), (∀ cls d σ' H', σ'.length = 5 → Ech cls d H' → W cls d σ' H') ∧ σ[0]? = some (some (.ref f)) ∧ H c' = some (LamX.CodeO c' q) ∧ tl Ech H Q0 ∧ ∀ v H1, Q0 v H1 → Ds.nx (σ.set 1 (some v)) H1)
      rfl rfl sc_l_told.nd rfl rfl (by rfl) (T.glo 43 rfl) (by rfl) (T.glo 42 rfl) (by rfl) (T.glo 44 rfl) takes0 (fun W pn xe tk _ => ?_) (fun a oe cls d pn hz hf => pss_one (ps_set (i := 2) sc_l_told.nd rfl (Or.inl rfl) (pv 3)))
      (fun a oe cls d pn hz hf => pss_when fun e => hr a oe d pn (e ▸ hz) hf)
      (pss_cons (ps_if (pt_cmpR op_isN (pv 2) pe_non (nomark _)) (pss_one (ps_ret (pe_lst (pa_cons (pv 1) pa_nil)))) pss_nil) pss_false)), ?_⟩
  · refine ⟨fun pns s' σ H' Ds I z => ?_⟩
    obtain ⟨Ech, Q0, hW, h1, h2, h3, h4⟩ := z
    refine wpAny_execs_cons (wpAny_mono ((ps_set (X := (toldCx X.prog X.w X.K X.mg X.base g cdg X.A X.stack s H).tr pn xe) (i := 1) (x := "_law_found") sc_l_told.nd rfl (Or.inl rfl) (pe_monoK (act (fun cls d σ H => σ.length = 5 → W cls d σ H) pn xe Ech _ _ (takes_len tk) (fun cls d σ' H' e l => hW cls d σ' H' l e)))).run pns s' σ H' Ds I ⟨Q0, ⟨h1, h2, h3⟩, fun v H1 q => h4 v H1 q⟩) (fun f s2 z => ?_) fun _ _ z => z)
    cases f with
    | next => exact wpAny_execs_nil z
    | ret v => exact z
    | brk => exact z
    | cont => exact z
  · refine ⟨by show 2 ≤ sizeLine; decide, fun p np => ⟨p, _, rfl, st_of upd_same, rfl, _, _, rfl, _, _, rfl, rfl, ?_⟩⟩
    have e0 : Ex H (upd H p (.tup [.non, .non])) := Ex.new np
    refine ⟨_, _, fun cls d σ' H' l5 z => ?_, rfl, e0 _ _ hc, h _ e0, fun v H1 q => ?_⟩
    · obtain ⟨x0, x1, x2, x3, x4, rfl⟩ := len5 l5
      obtain ⟨rfl, dd, v, rfl, hd, k⟩ := z
      refine ⟨true, B.exm, fun _ a na => ⟨.ref a, rfl, rfl, ?_⟩, fun z => by cases z⟩
      exact hk a dd v x0 x1 none x4 H' _ hd k
    · dsimp only
      refine q_when (b := true) (et_is (et_test (ev_isN (ev_var (i := 2) (v := .non) rfl))) (by simp)) (fun _ H2 e2 => ?_) fun z => by cases z
      exact s_retL (el_lst (ea_1 (ev_var rfl)) (by simp)) fun l H3 nl e3 hl => q H3 l (e2.trans e3) hl
end
end K7

set_option Elab.async false
set_option linter.all false
set_option maxRecDepth 100000
set_option maxHeartbeats 2000000
/-! What is more, what is less: the lengths of the least later text. -/
namespace K7
open PySem PySem.Spec PyProof.Rows L2 Evl
theorem posS_zip : ∀ (x y : List Nat), x.length = y.length → posS ((y.zip x).map fun p => (p.1 : Int) - (p.2 : Int)) = ((maxs x y).sum : Int) - (x.sum : Int)
  | [], [], _ => rfl
  | [], _ :: _, h => by cases h
  | _ :: _, [], h => by cases h
  | a :: x, b :: y, h => by
    have ih := posS_zip x y (by simpa using h)
    unfold posS at ih ⊢
    show (((((b : Int) - (a : Int)) :: (y.zip x).map fun p => (p.1 : Int) - (p.2 : Int)).filter _).sum : Int) = ((max a b :: maxs x y).sum : Int) - _
    rw [List.filter_cons, List.sum_cons, List.sum_cons]
    by_cases c : a < b
    · rw [if_pos (by rw [decide_eq_true_iff]; omega), List.sum_cons, ih]
      omega
    · rw [if_neg (by rw [decide_eq_true_iff]; omega), ih]
      omega
theorem negS_zip : ∀ (x y : List Nat), x.length = y.length → negS ((y.zip x).map fun p => (p.1 : Int) - (p.2 : Int)) = ((maxs x y).sum : Int) - (y.sum : Int)
  | [], [], _ => rfl
  | [], _ :: _, h => by cases h
  | _ :: _, [], h => by cases h
  | a :: x, b :: y, h => by
    have ih := negS_zip x y (by simpa using h)
    unfold negS at ih ⊢
    show ((((((b : Int) - (a : Int)) :: (y.zip x).map fun p => (p.1 : Int) - (p.2 : Int)).filter _).map _).sum : Int) = ((max a b :: maxs x y).sum : Int) - _
    rw [List.filter_cons, List.sum_cons, List.sum_cons]
    by_cases c : b < a
    · rw [if_pos (by rw [decide_eq_true_iff]; omega), List.map_cons, List.sum_cons, ih]
      omega
    · rw [if_neg (by rw [decide_eq_true_iff]; omega), ih]
      omega
theorem maxs_self : ∀ x : List Nat, maxs x x = x
  | [] => rfl
  | a :: x => by
    show max a a :: maxs x x = a :: x
    rw [maxs_self x, Nat.max_self]
theorem kin_pos {n : Nat} {a b : Tx} (h1 : 1 ≤ n) (oa : Ok a) (ob : Ok b) (kin : root n a = root n b) :
    posS (groP n b a) = ((ll n a b).length : Int) - (a.length : Int) ∧ negS (groP n b a) = ((ll n a b).length : Int) - (b.length : Int) := by
  by_cases hc : a.length < n
  · have e := (root_short h1 (b := b) hc).mp kin
    subst e
    rw [ll, if_pos hc]
    unfold groP
    rw [posS_zip _ _ rfl, negS_zip _ _ rfl, maxs_self]
    omega
  · have ha : n ≤ a.length := by omega
    have hb := kin_len h1 oa ob kin ha
    obtain ⟨l1, l2, l3, l4, l5⟩ := ll_coords h1 oa ob kin ha
    have hr := kin_runs h1 oa ob kin ha
    have e1 := len_of h1 l1 l2
    rw [l4, l5] at e1
    have e2 := len_of h1 ha oa
    have e3 := len_of h1 hb ob
    have r1 := runs_len (w := n) (l := a)
    have r2 := runs_len (w := n) (l := b)
    have hs : (steps n a).length = (steps n b).length := by omega
    have era : runsP n a = runs n a := if_neg hc
    have erb : runsP n b = runs n b := if_neg (by omega)
    unfold groP
    rw [era, erb, posS_zip _ _ hr, negS_zip _ _ hr]
    omega
end K7

set_option Elab.async false
set_option linter.all false
set_option maxRecDepth 100000
set_option maxHeartbeats 2000000
/-! Rules for what _law_like is asked: lists, tuples, single values. -/
namespace K7
open PySem PySem.Spec PyProof.Rows L2 Evl
/-- an item whose text is short -/
def Atom (d : PyData) : Prop := d = .none ∨ (∃ b, d = .bool b) ∨ ∃ l, d = dT l ∧ Ok l ∧ l.length ≤ 60
theorem atom_n : Atom .none := .inl rfl
theorem atom_b {b : Bool} : Atom (.bool b) := .inr (.inl ⟨b, rfl⟩)
theorem atom_t {l : Tx} (o : Ok l) (h : l.length ≤ 60) : Atom (.str (enc l)) := .inr (.inr ⟨l, rfl, o, h⟩)
theorem Atom.props {d : PyData} (h : Atom d) : d.showable = true ∧ d.hasDict = false ∧ d.depth = 0 ∧ d.shown.length ≤ 700 := by
  rcases h with rfl | ⟨b, rfl⟩ | ⟨l, rfl, o, hl⟩
  · exact ⟨by simp only [PyData.showable], by simp only [PyData.hasDict], by simp only [PyData.depth], by simp only [PyData.shown]; decide⟩
  · refine ⟨by simp only [PyData.showable], by simp only [PyData.hasDict], by simp only [PyData.depth], ?_⟩
    simp only [PyData.shown]
    cases b <;> decide
  · refine ⟨by simp only [dT, PyData.showable], by simp only [dT, PyData.hasDict], by simp only [dT, PyData.depth], ?_⟩
    simp only [dT, PyData.shown]
    have := StrLaws.reprText_len (enc l) fun c hc => by
      rw [enc_cps] at hc
      obtain ⟨x, hx, rfl⟩ := List.mem_map.mp hc
      have := o x hx
      omega
    rw [enc_len] at this
    omega
theorem small_atoms : ∀ (ds : List PyData), (∀ d ∈ ds, Atom d) → PyData.showableAll ds = true ∧ PyData.hasDictAll ds = false ∧ PyData.depthAll ds = 0 ∧ ((PyData.shownAll ds).map (·.length)).sum ≤ 700 * ds.length ∧ (PyData.shownAll ds).length = ds.length
  | [], _ => ⟨by simp only [PyData.showableAll], by simp only [PyData.hasDictAll], by simp only [PyData.depthAll], by simp only [PyData.shownAll]; decide, by simp only [PyData.shownAll]; rfl⟩
  | d :: ds, h => by
    obtain ⟨a1, a2, a3, a4⟩ := (h d List.mem_cons_self).props
    obtain ⟨b1, b2, b3, b4, b5⟩ := small_atoms ds fun x hx => h x (List.mem_cons_of_mem _ hx)
    refine ⟨by simp only [PyData.showableAll, a1, b1, Bool.and_self], by simp only [PyData.hasDictAll, a2, b2, Bool.or_self], by simp only [PyData.depthAll, a3, b3, Nat.max_self], ?_, ?_⟩
    · simp only [PyData.shownAll, List.map_cons, List.sum_cons, List.length_cons]
      omega
    · simp only [PyData.shownAll, List.length_cons, b5]
theorem small_list {ds : List PyData} (h : ∀ d ∈ ds, Atom d) (hl : ds.length ≤ 20) : Small (.list ds) := by
  obtain ⟨b1, b2, b3, b4, b5⟩ := small_atoms ds h
  refine ⟨by simp only [PyData.showable, b1], by simp only [PyData.hasDict, b2], by simp only [PyData.depth, b3]; decide, ?_⟩
  simp only [PyData.shown]
  have := listText_up (PyData.shownAll ds)
  exact Nat.le_trans this (Nat.le_trans (show _ ≤ 20000 by omega) (by decide))
theorem small_atom {d : PyData} (h : Atom d) : Small d := by
  obtain ⟨a1, a2, a3, a4⟩ := h.props
  exact ⟨a1, a2, by omega, Nat.le_trans a4 (by decide)⟩
theorem pair_len : ∀ i : Nat, i < 24 → ∀ j : Nat, j < 24 → (PyData.shown (.tuple [.int i, .int j])).length ≤ 200 := by
  simp only [PyData.shown, PyData.shownAll]
  decide +kernel
theorem small_pair {i j : Nat} (hi : i < 24) (hj : j < 24) : Small (.tuple [.int i, .int j]) := by
  have h1 : ∀ i : Nat, i < 24 → (PyData.int (i : Int)).showable = true := by
    intro i hi
    simp only [PyData.showable]
    revert i
    decide +kernel
  exact ⟨by simp only [PyData.showable, PyData.showableAll] at *; simp only [h1 i hi, h1 j hj]; rfl, by simp only [PyData.hasDict, PyData.hasDictAll]; rfl, by simp only [PyData.depth, PyData.depthAll]; decide, Nat.le_trans (pair_len i hi j hj) (by decide)⟩
section
variable {K : PySem.W.Frag} {σ : L2.St} {H H' : Hp} {ta tb te tx' tl th : TE} {t u : TT} {x y z v : V}
theorem et_likeLL {E : XK} {xs : List V} {ds : List PyData} (ha : EvL ta σ H xs) (hb : EvL tb σ H xs) (hd : ∀ H1, Ex H H1 → DpAll K H1 xs ds) (hs : Small (.list ds)) : EvT (tB (tCall (sp_like K) [] E (tCons ta (tCons tb tNil)))) σ H true := fun H1 e Q q =>
  ha H1 e _ fun a H2 na e2 hA => hb H2 (e.trans e2) _ fun b H3 nb e3 hB => ⟨_, _, _, rfl, ⟨.lst (sq_of (e3 _ _ hA)) (hd H3 ((e.trans e2).trans e3)), .inr (.inr ⟨_, rfl⟩)⟩, ⟨.lst (sq_of hB) (hd H3 ((e.trans e2).trans e3)), .inr (.inr ⟨_, rfl⟩)⟩, hs,
    fun H4 e4 => ⟨true, rfl, q H4 ((e2.trans e3).trans e4)⟩⟩
theorem et_likeVV {E : XK} {d : PyData} (ha : Ev ta σ H x) (hb : Ev tb σ H y) (hx : ∀ H1, Ex H H1 → Shows K H1 x d) (hy : ∀ H1, Ex H H1 → Shows K H1 y d) (hs : Small d) : EvT (tB (tCall (sp_like K) [] E (tCons ta (tCons tb tNil)))) σ H true := fun H1 e Q q =>
  ha H1 e _ fun H2 e2 => hb H2 (e.trans e2) _ fun H3 e3 => ⟨_, _, d, rfl, hx H3 ((e.trans e2).trans e3), hy H3 ((e.trans e2).trans e3), hs, fun H4 e4 => ⟨true, rfl, q H4 ((e2.trans e3).trans e4)⟩⟩
theorem et_likeUV {E : XK} {xs : List V} {ds : List PyData} {p : Addr} (ha : EvU ta σ H xs) (hb : Ev tb σ H (.ref p)) (hp : H p = some (.tup xs)) (hd : ∀ H1, DpAll K H1 xs ds) (hs : Small (.tuple ds)) : EvT (tB (tCall (sp_like K) [] E (tCons ta (tCons tb tNil)))) σ H true := fun H1 e Q q =>
  ha H1 e _ fun a H2 na e2 hA => hb H2 (e.trans e2) _ fun H3 e3 => ⟨_, _, _, rfl, ⟨.tup (st_of (e3 _ _ hA)) (hd H3), .inr (.inr ⟨_, rfl⟩)⟩, ⟨.tup (st_of (e3 _ _ (e2 _ _ (e _ _ hp)))) (hd H3), .inr (.inr ⟨_, rfl⟩)⟩, hs,
    fun H4 e4 => ⟨true, rfl, q H4 ((e2.trans e3).trans e4)⟩⟩
theorem shows_n {H1 : Hp} : Shows K H1 .non .none := ⟨.non, .inl rfl⟩
theorem shows_b {b : Bool} {H1 : Hp} : Shows K H1 (.bl b) (.bool b) := ⟨.bl b, .inr (.inl ⟨b, rfl⟩)⟩
theorem ev_isNotN (ha : Ev ta σ H x) : Ev (tOp (fun x y H Q => y = .non ∧ Q (.bl (!decide (x = .non))) H) ta (tC .non)) σ H (.bl (!decide (x = .non))) := ev_op ha ev_c fun H1 _ _ q => ⟨rfl, q H1 (Ex.refl H1)⟩
/-- a call that gives a new tuple -/
theorem eu_call {sp : Sp} {E : XK} {a : TA} {vs xs : List V} (h : EvA a σ H vs) (hs : ∀ H1, Ex H H1 → ∀ (Q : VK) (E : XK), GiveU xs H1 Q → sp vs H1 Q E) : EvU (tCall sp [] E a) σ H xs := fun H1 e Q q =>
  h H1 e _ fun H2 e2 => by
    show sp (vs ++ []) H2 Q E
    rw [List.append_nil]
    exact hs H2 (e.trans e2) Q E fun p H3 np e3 hp => q p H3 (fresh_back e2 np) (e2.trans e3) hp
theorem eu_if {b : Bool} {xs : List V} (h : EvT t σ H b) (hb : b = true) (h1 : EvU ta σ H xs) : EvU (tIf t ta tb) σ H xs := fun H1 e Q q => h H1 e _ fun H2 e2 => by
  subst hb
  exact h1 H2 (e.trans e2) Q fun p H3 np e3 hp => q p H3 (fresh_back e2 np) (e2.trans e3) hp
/-- over a list of texts of which S is known, no text left: == [] and != [] -/
theorem et_noneX {S : List Tx → Prop} (h : EvX te σ H S) (hS : ∀ L, S L → L = []) : EvT (tTest (tOp (rNeD K) te (tLst tNil))) σ H false := fun H1 e Q q =>
  h H1 e _ fun L a H2 sL na e2 ha => by
    have eL := hS L sL
    subst eL
    have := ev_neNilX (K := K) (σ := σ) (H := H2) (ta := tC (.ref a)) (l := []) ev_c (sq_of ha) (fun _ h => by cases h)
    refine this H2 (Ex.refl H2) _ fun H3 e3 => ?_
    exact ⟨_, rfl, q H3 (e2.trans e3)⟩
end
end K7

set_option Elab.async false
set_option linter.all false
set_option maxRecDepth 100000
set_option maxHeartbeats 2000000
/-! A loop over a display of triples; not among the elders. -/
namespace K7
open PySem PySem.Spec PyProof.Rows L2 Evl
section
variable {K : PySem.W.Frag} {σ : L2.St} {H H' : Hp} {ta tb te tx' tl th : TE} {t u : TT} {x y z v : V} {D : Ends} {tu tz : TS}
/-- tuples made one behind the other -/
def EvTs (ta : TA) (σ : L2.St) (H : Hp) (ts : List (List V)) : Prop := ∀ H1, Ex H H1 → ∀ Q : List V → Hp → Prop, (∀ ps H2, Ex H1 H2 → ps.length = ts.length → (∀ (i : Nat) (p : V) (xs : List V), ps[i]? = some p → ts[i]? = some xs → ∃ a, p = V.ref a ∧ H2 a = some (.tup xs)) → Q ps H2) → ta σ H1 Q
theorem ets_nil : EvTs tNil σ H [] := fun H1 e Q q => q [] H1 (Ex.refl H1) rfl fun i p xs hp => by simp at hp
theorem ets_cons {ta : TA} {xs : List V} {ts : List (List V)} (h : EvU te σ H xs) (hr : EvTs ta σ H ts) : EvTs (tCons te ta) σ H (xs :: ts) := fun H1 e Q q =>
  h H1 e _ fun p H2 np e2 hp => hr H2 (e.trans e2) _ fun ps H3 e3 hl hall => q (.ref p :: ps) H3 (e2.trans e3) (by simp [hl]) fun i a ys ha hy => by
    cases i with
    | zero =>
      have ea : V.ref p = a := Option.some.inj ha
      have ey : xs = ys := Option.some.inj hy
      subst ea ey
      exact ⟨p, rfl, e3 _ _ hp⟩
    | succ i => exact hall i a ys ha hy
theorem q_for3 {ta : TA} {i j k : Nat} (ts : List (V × V × V)) (h : EvTs ta σ H (ts.map fun t => [t.1, t.2.1, t.2.2])) (hl : ts.length ≤ 100) (Pv : L2.St → Prop) (h0 : Pv σ)
    (hs : ∀ (t : V × V × V) σ' H', t ∈ ts → Pv σ' → Ex H H' → ∀ N : L2.St → Hp → Prop, (∀ σ2 H2, Pv σ2 → Ex H' H2 → N σ2 H2) → tu { D with nx := N, ct := N, bk := tz D } (((σ'.set i (some t.1)).set j (some t.2.1)).set k (some t.2.2)) H')
    (hd : ∀ σ' H', Pv σ' → Ex H H' → tz D σ' H') : tSeq (tFor (iTup K (tTup ta)) (gTup K 3 (gCons (gName i) (gCons (gName j) (gCons (gName k) gNil)))) tu) tz D σ H :=
  h H (Ex.refl H) _ fun ps H2 e2 hlen hall => ⟨by
    rw [hlen, List.length_map]
    exact Nat.le_trans hl (by decide), fun p np => ⟨p, rfl, ⟨ps, st_of upd_same⟩, for_tup (K := K) (a := p) (xs := ps) (D := { D with nx := tz D }) (fun _ σ' H' => Pv σ' ∧ Ex (upd H2 p (.tup ps)) H') ⟨h0, Ex.refl _⟩ (fun _ σ' H' _ q => ex_t q.2 (st_of upd_same))
      (fun m x σ' H' hx q => by
        have hm : m < ts.length := by
          have := (List.getElem?_eq_some_iff.mp hx).1
          rw [hlen, List.length_map] at this
          exact this
        obtain ⟨a, rfl, ha⟩ := hall m x _ hx (by rw [List.getElem?_map, List.getElem?_eq_getElem hm]; rfl)
        have e3 : Ex H2 H' := (Ex.new np).trans q.2
        refine ⟨a, _, rfl, st_of (e3 _ _ ha), rfl, _, _, rfl, _, _, rfl, _, _, rfl, rfl, ?_⟩
        exact hs ts[m] σ' H' (List.getElem_mem hm) q.1 (e2.trans e3) _ fun σ2 H4 p4 e4 => ⟨p4, q.2.trans e4⟩) fun σ' H' q => hd σ' H' q.1 (e2.trans ((Ex.new np).trans q.2))⟩⟩
theorem ev_notInElders {E : XK} {l x : Tx} {n : Nat} (hx : Ev ta σ H (tx x)) (hl : Ev tb σ H (tx l)) (hn : Ev te σ H (nt n)) (ol : Ok l) (ox : Ok x) (h11 : l.length ≤ 11) (h1 : 1 ≤ n) (h6 : n ≤ 6) :
    Ev (tOp (rIn K true) ta (tCall sp_elders [] E (tCons tb (tCons te tNil)))) σ H (.bl (!dcB n l x)) := fun H1 e Q q =>
  hx H1 e _ fun H2 e2 => ex_call (S := ElS n l) (ea_2 hl hn) (fun H3 e3 Q E q => ⟨l, n, rfl, ol, h11, h1, h6, q⟩) H2 (e.trans e2) _ fun L p H3 hL np e3 hp => ⟨p, _, rfl, .inl (sq_of hp), rfl, flat_txs L, by
    have : dcB n l x = inV (tx x) (L.map tx) := by
      rw [inV_tx]
      exact bool_dec ((dcB_iff h1 ol ox).trans (hL.2.1 x).symm)
    rw [← this]
    exact q H3 (e2.trans e3)⟩
end
end K7

set_option Elab.async false
set_option linter.all false
set_option maxRecDepth 100000
set_option maxHeartbeats 4000000
/-! _law_right. -/
namespace K7
open PySem PySem.Spec PyProof.Rows L2 Evl
theorem q_whenM {t : TT} {tu tz : TS} {D : Ends} {σ : L2.St} {H : Hp} {b : Bool} (M : L2.St → Hp → Prop) (h : EvT t σ H b) (h1 : b = true → ∀ H1, Ex H H1 → (∀ σ' H', M σ' H' → tz D σ' H') → tu { D with nx := tz D } σ H1) (h2 : b = false → ∀ H1, Ex H H1 → M σ H1) (k : ∀ σ' H', M σ' H' → tz D σ' H') : tSeq (tIfS t tu tNext) tz D σ H :=
  q_when h (fun hb H1 e1 => h1 hb H1 e1 k) fun hb H1 e1 => k σ H1 (h2 hb H1 e1)
section
variable {P : Program} {w : World} {K : PySem.W.Frag} {mg : Str → Option Value} {base : Heap}
theorem ll_go {H : Hp} {Q : VK} {E : XK} {a b : Tx} {n : Nat} {z : V} (oa : Ok a) (ob : Ok b) (la : a.length ≤ 60) (lb : b.length ≤ 60) (h1 : 1 ≤ n) (h6 : n ≤ 6) (hz : z = if root n a = root n b then tx (ll n a b) else .non) (hl : root n a = root n b → (ll n a b).length ≤ 60) (q : GiveV z H Q) : sp_least_later K [tx a, tx b, nt n] H Q E := by
  subst hz
  refine ⟨a, b, n, rfl, oa, ob, la, lb, h1, h6, fun nk => ?_, fun kin _ => ?_, fun kin h => ?_⟩
  · rwa [if_neg nk] at q
  · rwa [if_pos kin] at q
  · have := hl kin
    omega
def sp_right : Sp := fun vs H Q _ => ∃ (a b : Tx) (n : Nat), vs = [tx a, tx b, nt n] ∧ Ok a ∧ Ok b ∧ a.length ≤ 11 ∧ b.length ≤ 11 ∧ 1 ≤ n ∧ n ≤ 6 ∧ GiveV (.bl true) H Q
theorem ok_right (T : TopE K mg) (TL : LongT P K mg (He.ga K "TooLong")) : HasG P w K mg base CX0 7 "_law_right" ["_law_one", "_law_other", "_law_wide"] sp_right := by
  have F1 : Has P w K mg base CX0 6 "_law_bare" ["_law_text", "_law_wide"] sp_bare := (ok_bare T).mono (by decide)
  have F2 : Has P w K mg base CX0 6 "are_kin" ["one", "other", "size"] sp_are_kin := (ok_are_kin T).mono (by decide)
  have F3 : Has P w K mg base CX0 6 "greatest_elder" ["one", "other", "size"] sp_greatest_elder := (ok_greatest_elder T).mono (by decide)
  have F4 : Has P w K mg base CX0 6 "_law_meet" ["_law_one", "_law_other", "_law_wide"] sp_meet := (ok_meet T).mono (by decide)
  have F5 : HasG P w K mg base CX0 6 "_law_like" ["_law_got", "_law_due"] (sp_like K) := (ok_like T).mono (by decide)
  have F6 : Has P w K mg base CX0 6 "_law_join" ["_law_one", "_law_other", "_law_wide"] sp_join := (ok_join T).mono (by decide)
  have F7 : Has P w K mg base (L2.CX P w) 6 "least_later" ["one", "other", "size"] (sp_least_later K) := (ok_least_later T TL).mono (by decide)
  have F8 : Has P w K mg base CX0 6 "copies_apart" ["one", "other", "size"] sp_copies_apart := (ok_copies_apart T).mono (by decide)
  have F9 : Has P w K mg base CX0 6 "_law_after" ["_law_text", "_law_wide", "_law_times"] sp_after := (ok_after T).mono (by decide)
  have F10 : Has P w K mg base CX0 6 "_law_does_come" ["_law_late", "_law_early", "_law_wide"] sp_ldc := (ok_ldc T).mono (by decide)
  have F11 : Has P w K mg base CX0 6 "_law_elders" ["_law_text", "_law_wide"] sp_elders := (ok_elders T).mono (by decide)
  have F12 : Has P w K mg base CX0 6 "stands_between" ["text", "later", "elder", "size"] sp_stands_between := ok_stands_between T
  refine has_ofG T 40 40 rfl rfl rfl sc_l_right (fun _ _ _ _ _ _ us hl => match us, hl with | [_, _, _], _ => rfl) (fun vs H Q E h => ?_) (fun cdv f A outer s H vs Q E hr hgd h => ?_)
  · obtain ⟨a, b, n, rfl, _⟩ := h
    rfl
  · obtain ⟨a, b, n, rfl, oa, ob, la, lb, h1, h6, k⟩ := h
    have hg2 : (A.deeper (envOfC "_law_right" (defScope s_l_right) s.heap.objs.size f cdv)).guards = some [] := hgd
    refine ⟨_, PSs.nox (pss_cons (ps_set (i := 3) sc_l_right.nd rfl (Or.inl rfl) (pe_cmpR op_eq (pe_h F1 hr pass0 (pa_cons (pv 0) (pa_cons (pv 2) pa_nil))) (pe_h F1 hr pass0 (pa_cons (pv 1) (pa_cons (pv 2) pa_nil))) (nomark _)))
      (pss_cons (ps_set (i := 4) sc_l_right.nd rfl (Or.inl rfl) (pe_lst (pa_cons (pe_h F2 hr pass0 (pa_cons (pv 0) (pa_cons (pv 1) (pa_cons (pv 2) pa_nil)))) (pa_cons (pe_h F2 hr pass0 (pa_cons (pv 1) (pa_cons (pv 0) (pa_cons (pv 2) pa_nil)))) (pa_cons (pe_h F3 hr pass0 (pa_cons (pv 0) (pa_cons (pv 1) (pa_cons (pv 2) pa_nil)))) pa_nil)))))
      (pss_cons (ps_set (i := 5) sc_l_right.nd rfl (Or.inr rfl) (pe_h F4 hr pass0 (pa_cons (pv 0) (pa_cons (pv 1) (pa_cons (pv 2) pa_nil)))))
      (pss_cons (ps_if (pt_not (pt_val (pe_hG F5 hr hg2 pass0 (pa_cons (pe_op op_cat (pv 4) (pe_lst (pa_cons (pe_h F3 hr pass0 (pa_cons (pv 0) (pa_cons (pv 1) (pa_cons (pv 2) pa_nil)))) pa_nil))) (pa_cons (pe_lst (pa_cons (pv 3) (pa_cons (pv 3) (pa_cons (pv 5) (pa_cons (pv 5) pa_nil))))) pa_nil))))) (pss_one (ps_ret pe_false)) pss_nil)
      (pss_cons (ps_if (pt_cmpR op_ne (pv 3) (pe_cmpR op_notN (pv 5) pe_non (nomark _)) (nomark _)) (pss_one (ps_ret pe_false)) pss_nil)
      (pss_cons (ps_set (i := 6) sc_l_right.nd rfl (Or.inr rfl) (pe_h F6 hr pass0 (pa_cons (pv 0) (pa_cons (pv 1) (pa_cons (pv 2) pa_nil)))))
      (pss_cons (ps_if (pt_not (pt_val (pe_hG F5 hr hg2 pass0 (pa_cons (pe_lst (pa_cons (pe_h F7 hr passL (pa_cons (pv 0) (pa_cons (pv 1) (pa_cons (pv 2) pa_nil)))) (pa_cons (pe_h F7 hr passL (pa_cons (pv 0) (pa_cons (pv 1) (pa_cons (pv 2) pa_nil)))) pa_nil))) (pa_cons (pe_lst (pa_cons (pv 6) (pa_cons (pv 6) pa_nil))) pa_nil))))) (pss_one (ps_ret pe_false)) pss_nil)
      (pss_cons (ps_set (i := 7) sc_l_right.nd rfl (Or.inl rfl) (pe_ifExp (pt_val (pv 3))
          (pe_tup (pa_cons (pe_op op_fdiv (pe_op op_sub (pe_callB call_len_str (by rfl) T.f_len PySem.boot_len (pa_cons (pv 6) pa_nil)) (pe_callB call_len_str (by rfl) T.f_len PySem.boot_len (pa_cons (pv 0) pa_nil))) (pv 2))
            (pa_cons (pe_op op_fdiv (pe_op op_sub (pe_callB call_len_str (by rfl) T.f_len PySem.boot_len (pa_cons (pv 6) pa_nil)) (pe_callB call_len_str (by rfl) T.f_len PySem.boot_len (pa_cons (pv 1) pa_nil))) (pv 2)) pa_nil))) pe_non))
      (pss_cons (ps_if (pt_not (pt_val (pe_hG F5 hr hg2 pass0 (pa_cons (pe_h F8 hr pass0 (pa_cons (pv 0) (pa_cons (pv 1) (pa_cons (pv 2) pa_nil)))) (pa_cons (pv 7) pa_nil))))) (pss_one (ps_ret pe_false)) pss_nil)
      (pss_cons (ps_if (PW.pt (pw_and (pt_val (pv 3)) (pw_and1 (pt_cmpR op_lt (pe_callB call_len_str (by rfl) T.f_len PySem.boot_len (pa_cons (pv 6) pa_nil)) pe_int (nomark _)))))
        (pss_cons (ps_set (i := 8) sc_l_right.nd rfl (Or.inl rfl) (pe_h F9 hr pass0 (pa_cons (pv 0) (pa_cons (pv 2) (pa_cons (pe_op op_add (pe_op op_fdiv (pe_op op_sub (pe_callB call_len_str (by rfl) T.f_len PySem.boot_len (pa_cons (pv 6) pa_nil)) (pe_callB call_len_str (by rfl) T.f_len PySem.boot_len (pa_cons (pv 0) pa_nil))) (pv 2)) pe_int) pa_nil)))))
        (pss_cons (ps_setLc (i := 8) (own := [("_law_text", 9)]) (g := gName 9) rfl sc_l_right.nd rfl rfl (sw_true rfl rfl rfl (by decide +kernel)) (pi_list (pv 8)) (blkOk_by (N := N_l_right) (sc := defScope s_l_right) (by decide +kernel)) (fun _ _ _ _ _ => pg_name (i := 9) sc_l_right.nd rfl (Or.inl rfl))
          (fun _ _ _ _ _ => pts_one (pt_val (pe_h F10 hr pass0 (pa_cons (pv 9) (pa_cons (pv 1) (pa_cons (pv 2) pa_nil)))))) (fun _ _ _ _ _ => pv 9))
        (pss_one (ps_if (pt_cmpR (op_neD hr.units) (pe_lc (own := [("_law_text", 9)]) (g := gName 9) rfl sc_l_right.nd (pi_list (pv 8)) (blkOk_by (N := N_l_right) (sc := defScope s_l_right) (by decide +kernel)) (fun _ _ _ _ _ => pg_name (i := 9) sc_l_right.nd rfl (Or.inl rfl))
          (fun _ _ _ _ _ => pts_one (pt_not (pt_val (pe_h F10 hr pass0 (pa_cons (pv 9) (pa_cons (pv 6) (pa_cons (pv 2) pa_nil))))))) (fun _ _ _ _ _ => pv 9)) (pe_lst pa_nil) (nomark _)) (pss_one (ps_ret pe_false)) pss_nil)))) pss_nil)
      (pss_cons (ps_setLc (i := 10) (own := [("_law_some", 14)]) (g := gName 14) rfl sc_l_right.nd rfl rfl (sw_true rfl rfl rfl (by decide +kernel)) (pi_list (pe_h F11 hr pass0 (pa_cons (pv 0) (pa_cons (pv 2) pa_nil)))) (blkOk_by (N := N_l_right) (sc := defScope s_l_right) (by decide +kernel)) (fun _ _ _ _ _ => pg_name (i := 14) sc_l_right.nd rfl (Or.inl rfl))
          (fun _ _ _ _ _ => pts_one (show PT _ _ (tTest (tOp (rIn K false) (tVar 14) (tCall sp_elders [] _ (tCons (tVar 1) (tCons (tVar 2) tNil))))) from pt_cmpR op_in_seq (pv 14) (pe_h F11 hr pass0 (pa_cons (pv 1) (pa_cons (pv 2) pa_nil))) (by rfl))) (fun _ _ _ _ _ => pv 14))
      (pss_cons (ps_if (PW.pt (pw_and (pt_cmpR op_notN (pv 5) pe_non (nomark _)) (pw_and1 (pt_cmpR (op_neD hr.units) (pe_lc (own := [("_law_some", 14)]) (g := gName 14) rfl sc_l_right.nd (pi_list (pv 10)) (blkOk_by (N := N_l_right) (sc := defScope s_l_right) (by decide +kernel)) (fun _ _ _ _ _ => pg_name (i := 14) sc_l_right.nd rfl (Or.inl rfl))
          (fun _ _ _ _ _ => pts_one (show PT _ _ (tTest (tOp (rIn K true) (tVar 14) (tCall sp_elders [] _ (tCons (tVar 5) (tCons (tVar 2) tNil))))) from pt_cmpR op_notIn_seq (pv 14) (pe_h F11 hr pass0 (pa_cons (pv 5) (pa_cons (pv 2) pa_nil))) (by rfl))) (fun _ _ _ _ _ => pv 14)) (pe_lst pa_nil) (nomark _))))) (pss_one (ps_ret pe_false)) pss_nil)
      (pss_cons (ps_for PassesOwn.never rfl (pi_tup (pe_tup (pa_cons (pe_tup (pa_cons (pv 6) (pa_cons (pv 0) (pa_cons (pv 5) pa_nil)))) (pa_cons (pe_tup (pa_cons (pv 0) (pa_cons (pv 5) (pa_cons (pv 6) pa_nil)))) (pa_cons (pe_tup (pa_cons (pv 0) (pa_cons (pv 0) (pa_cons (pv 0) pa_nil)))) (pa_cons (pe_tup (pa_cons (pv 0) (pa_cons (pv 1) (pa_cons (pv 5) pa_nil)))) pa_nil))))))
          (pg_tup rfl (pgs_cons (pg_name (i := 11) sc_l_right.nd rfl (Or.inl rfl)) (pgs_cons (pg_name (i := 9) sc_l_right.nd rfl (Or.inl rfl)) (pgs_cons (pg_name (i := 12) sc_l_right.nd rfl (Or.inl rfl)) pgs_nil))))
          (pss_one (ps_if (pt_val (pv 3)) (pss_cons (ps_set (i := 13) sc_l_right.nd rfl (Or.inl rfl) (pe_and (pe_h F10 hr pass0 (pa_cons (pv 11) (pa_cons (pv 9) (pa_cons (pv 2) pa_nil)))) (pe_one (pe_h F10 hr pass0 (pa_cons (pv 9) (pa_cons (pv 12) (pa_cons (pv 2) pa_nil)))))))
            (pss_one (ps_if (pt_not (pt_val (pe_hG F5 hr hg2 pass0 (pa_cons (pe_h F12 hr pass0 (pa_cons (pv 9) (pa_cons (pv 11) (pa_cons (pv 12) (pa_cons (pv 2) pa_nil))))) (pa_cons (pv 13) pa_nil))))) (pss_one (ps_ret pe_false)) pss_nil))) pss_nil)))
      (pss_one (ps_ret pe_bl))))))))))))))), ?_⟩
    obtain ⟨gV, eg⟩ : ∃ g : V, g = if root n a = root n b then tx (ge n a b) else .non := ⟨_, rfl⟩
    obtain ⟨hV, eh⟩ : ∃ g : V, g = if root n a = root n b then tx (ll n a b) else .non := ⟨_, rfl⟩
    obtain ⟨kb, ek⟩ : ∃ g : Bool, g = decide (root n a = root n b) := ⟨_, rfl⟩
    have ek2 : kb = decide (root n b = root n a) := ek.trans (decide_eq_decide.mpr eq_comm)
    have hll : root n a = root n b → (ll n a b).length ≤ 21 := fun kin => ll_len h1 oa ob kin la lb
    have hge : root n a = root n b → (ge n a b).length ≤ 11 := fun kin => Nat.le_trans (ge_left h1 oa ob kin).le la
    have dg : ∃ d, (∀ H, Dp K H gV d) ∧ Atom d := by
      by_cases kin : root n a = root n b
      · rw [if_pos kin] at eg
        subst eg
        exact ⟨_, fun H => .str _, atom_t (ge_ok h1 oa ob kin) (by have := hge kin; omega)⟩
      · rw [if_neg kin] at eg
        subst eg
        exact ⟨_, fun H => .non, atom_n⟩
    obtain ⟨gD, dgD, agD⟩ := dg
    have dh : ∃ d, (∀ H, Dp K H hV d) ∧ Atom d := by
      by_cases kin : root n a = root n b
      · rw [if_pos kin] at eh
        subst eh
        exact ⟨_, fun H => .str _, atom_t (ll_ok h1 oa ob kin) (by have := hll kin; omega)⟩
      · rw [if_neg kin] at eh
        subst eh
        exact ⟨_, fun H => .non, atom_n⟩
    obtain ⟨hD, dhD, ahD⟩ := dh
    refine q_asg (v := .bl kb) (ev_is (ev_eqT (ev_call (ea_2 (ev_var rfl) (ev_var rfl)) fun H3 e3 Q q E => ⟨a, n, rfl, oa, by omega, h1, h6, q⟩) (ev_call (ea_2 (ev_var rfl) (ev_var rfl)) fun H3 e3 Q q E => ⟨b, n, rfl, ob, by omega, h1, h6, q⟩)) (by rw [ek])) fun H1 e1 => ?_
    refine q_asgL (xs := [.bl kb, .bl kb, gV]) (el_lst (ea_3 (ev_call (ea_3 (ev_var rfl) (ev_var rfl) (ev_var rfl)) fun H3 e3 Q q E => ⟨a, b, n, rfl, oa, ob, by omega, by omega, h1, h6, by rw [← ek]; exact q⟩)
      (ev_call (ea_3 (ev_var rfl) (ev_var rfl) (ev_var rfl)) fun H3 e3 Q q E => ⟨b, a, n, rfl, ob, oa, by omega, by omega, h1, h6, by rw [← ek2]; exact q⟩)
      (ev_call (ea_3 (ev_var rfl) (ev_var rfl) (ev_var rfl)) fun H3 e3 Q q E => ⟨a, b, n, rfl, oa, ob, by omega, by omega, h1, h6, by rw [← eg]; exact q⟩)) (by simp)) fun S H2 nS e2 hS => ?_
    refine q_asg (v := gV) (ev_call (ea_3 (ev_var rfl) (ev_var rfl) (ev_var rfl)) fun H3 e3 Q q E => ⟨a, b, n, rfl, oa, ob, la, lb, h1, h6, by rw [← eg]; exact q⟩) fun H3 e3 => ?_
    refine q_when (b := false) (et_not (et_likeLL (K := K) (xs := [.bl kb, .bl kb, gV, gV]) (ds := [.bool kb, .bool kb, gD, gD]) (el_cat (ev_var rfl) (e3 _ _ hS) (el_lst (ea_1 (ev_call (ea_3 (ev_var rfl) (ev_var rfl) (ev_var rfl)) fun H3 e3 Q q E => ⟨a, b, n, rfl, oa, ob, by omega, by omega, h1, h6, by rw [← eg]; exact q⟩)) (by simp)) (show 4 ≤ sizeLine by decide))
      (el_lst (ea_cons (ev_var rfl) (ea_3 (ev_var rfl) (ev_var rfl) (ev_var rfl))) (by simp)) (fun H4 e4 => .cons (.bl _) (.cons (.bl _) (.cons (dgD _) (.cons (dgD _) .nil)))) (small_list (fun d hd => by
        simp only [List.mem_cons, List.not_mem_nil, or_false] at hd
        rcases hd with rfl | rfl | rfl | rfl
        · exact atom_b
        · exact atom_b
        · exact agD
        · exact agD) (by simp)))) (fun hb => by cases hb) fun _ H4 e4 => ?_
    have hkg : kb = !decide (gV = .non) := by
      by_cases kin : root n a = root n b
      · rw [eg, ek, if_pos kin, decide_eq_true kin]
        rfl
      · rw [eg, ek, if_neg kin, decide_eq_false kin]
        rfl
    refine q_when (b := false) (et_test (ev_is (ev_ne (ev_var rfl) (ev_isNotN (ev_var rfl)) rfl) (by rw [← hkg, decide_eq_true rfl]; rfl))) (fun hb => by cases hb) fun _ H5 e5 => ?_
    refine q_asg (v := hV) (ev_call (ea_3 (ev_var rfl) (ev_var rfl) (ev_var rfl)) fun H3 e3 Q q E => ⟨a, b, n, rfl, oa, ob, la, lb, h1, h6, by rw [← eh]; exact q⟩) fun H6 e6 => ?_
    have hl60 : root n a = root n b → (ll n a b).length ≤ 60 := fun kin => Nat.le_trans (hll kin) (by decide)
    refine q_when (b := false) (et_not (et_likeLL (K := K) (xs := [hV, hV]) (ds := [hD, hD]) (el_lst (ea_2 (ev_call (ea_3 (ev_var rfl) (ev_var rfl) (ev_var rfl)) fun H3 e3 Q q E => ll_go oa ob (by omega) (by omega) h1 h6 eh hl60 q) (ev_call (ea_3 (ev_var rfl) (ev_var rfl) (ev_var rfl)) fun H3 e3 Q q E => ll_go oa ob (by omega) (by omega) h1 h6 eh hl60 q)) (by simp))
      (el_lst (ea_2 (ev_var rfl) (ev_var rfl)) (by simp)) (fun H4 e4 => .cons (dhD _) (.cons (dhD _) .nil)) (small_list (fun d hd => by
        simp only [List.mem_cons, List.not_mem_nil, or_false] at hd
        rcases hd with rfl | rfl
        · exact ahD
        · exact ahD) (by simp)))) (fun hb => by cases hb) fun _ H7 e7 => ?_
    have eS : Ex H2 H7 := ((((e3.trans e4).trans e5).trans e6).trans e7)
    have e07 : Ex H H7 := (e1.trans e2).trans eS
    have hbt : ∀ x, Rc n x a → Ok x := fun x hx => hx.ok' oa
    by_cases kin : root n a = root n b
    · rw [decide_eq_true kin] at ek
      rw [if_pos kin] at eg eh
      subst ek eg eh
      obtain ⟨t, ht⟩ := ll_left h1 oa ob kin
      obtain ⟨u, hu⟩ := ll_right h1 oa ob kin
      have htl := ht.len
      have hul := hu.len
      have hl := hll kin
      have hg := hge kin
      have ol := ll_ok h1 oa ob kin
      have og := ge_ok h1 oa ob kin
      have t1 : (((ll n a b).length : Nat) : Int) - ((a.length : Nat) : Int) = (t : Int) * (n : Int) := by
        rw [htl]
        push_cast
        omega
      have u1 : (((ll n a b).length : Nat) : Int) - ((b.length : Nat) : Int) = (u : Int) * (n : Int) := by
        rw [hul]
        push_cast
        omega
      have t2 : ((((ll n a b).length : Nat) : Int) - ((a.length : Nat) : Int)) / (n : Int) = (t : Int) := by
        rw [t1, Int.mul_ediv_cancel _ (by omega)]
      have u2 : ((((ll n a b).length : Nat) : Int) - ((b.length : Nat) : Int)) / (n : Int) = (u : Int) := by
        rw [u1, Int.mul_ediv_cancel _ (by omega)]
      have htn : t ≤ t * n := Nat.le_mul_of_pos_right t h1
      have hun : u ≤ u * n := Nat.le_mul_of_pos_right u h1
      obtain ⟨kp1, kp2⟩ := kin_pos h1 oa ob kin
      refine q_asgU (xs := [nt t, nt u]) (eu_if (et_B (ev_var rfl)) rfl (eu_tup (ea_2 (ev_is (ev_fdiv (ev_sub (ev_lenT (ev_var rfl) (by omega)) (ev_lenT (ev_var rfl) (by omega))) (ev_var rfl) (by omega)) (by rw [t2]))
        (ev_is (ev_fdiv (ev_sub (ev_lenT (ev_var rfl) (by omega)) (ev_lenT (ev_var rfl) (by omega))) (ev_var rfl) (by omega)) (by rw [u2]))) (by simp))) fun p7 H8 n7 e8 hp7 => ?_
      refine q_when (b := false) (et_not (et_likeUV (K := K) (xs := [nt t, nt u]) (ds := [.int t, .int u]) (eu_call (ea_3 (ev_var rfl) (ev_var rfl) (ev_var rfl)) fun H1 e1 Q E q => ⟨a, b, n, rfl, oa, ob, by omega, by omega, h1, h6, fun _ => by rw [kp1, kp2, t2, u2]; exact q, fun k => absurd kin k⟩) (ev_var rfl) hp7
        (fun H1 => .cons (.int _) (.cons (.int _) .nil)) (small_pair (by omega) (by omega)))) (fun hb => by cases hb) fun _ H9 e9 => ?_
      refine q_whenM (fun σ' H' => ∃ y8, σ' = [some (tx a), some (tx b), some (nt n), some (.bl true), some (.ref S), some (tx (ge n a b)), some (tx (ll n a b)), some (.ref p7), y8, none, none, none, none, none, none] ∧ Ex H9 H')
        (et_and (et_B (ev_var rfl)) fun _ => et_test (ev_lt (ev_lenT (ev_var rfl) (by omega)) (ev_c (v := .int 13)))) (fun hb H10 e10 kM => ?_) (fun hb H10 e10 => ⟨_, rfl, e10⟩) ?_
      · have h13 : (ll n a b).length < 13 := by
          have : ((ll n a b).length : Int) < 13 := by simpa using hb
          omega
        have hs : (t + 1) * n = t * n + n := Nat.succ_mul t n
        refine q_asgX (S := fun L => L.Nodup ∧ ∀ x, x ∈ L ↔ R n (t + 1) a x) (ex_call (vs := [tx a, nt n, nt (t + 1)]) (ea_3 (ev_var rfl) (ev_var rfl) (ev_is (ev_add (ev_fdiv (ev_sub (ev_lenT (ev_var rfl) (by omega)) (ev_lenT (ev_var rfl) (by omega))) (ev_var rfl) (by omega)) (ev_c (v := .int 1))) (by rw [t2]; rfl))) fun H5 e5 Q E q => ⟨a, n, t + 1, rfl, oa, by omega, h1, h6, q⟩) fun L p H11 sL np e11 hp => ?_
        have hsz := fam_up h1 oa sL.1 (fun x hx => (sL.2 x).mp hx) (by omega)
        refine q_asgL (xs := (L.filter fun x => dcB n x b).map tx) (el_compL (K := K) L tx (fun x => dcB n x b) tx (by omega) (ev_var rfl) (sq_of hp) (fun x => rfl) fun x i H3 hx e3 => by
          have r := (sL.2 x).mp (List.mem_of_getElem? hx)
          have rl := r.len
          exact ⟨et_B (ev_call (ea_3 (ev_var rfl) (ev_var rfl) (ev_var rfl)) fun H3 e3 Q q E => ⟨x, b, n, rfl, r.ok oa, ob, by omega, by omega, h1, h6, q⟩), fun _ => ev_var rfl⟩) fun p2 H12 np2 e12 hp2 => ?_
        refine s_when (b := false) (et_is (et_test (ev_neNilXN (K := K) (l := (L.filter fun x => dcB n x b).filter fun x => !dcB n x (ll n a b)) (el_compL (K := K) (L.filter fun x => dcB n x b) tx (fun x => !dcB n x (ll n a b)) tx (Nat.le_trans (List.length_filter_le _ _) (by omega)) (ev_var rfl) (sq_of hp2) (fun x => rfl) fun x i H3 hx e3 => by
          have hm := List.mem_filter.mp (List.mem_of_getElem? hx)
          have r := (sL.2 x).mp hm.1
          have rl := r.len
          exact ⟨et_not (et_B (ev_call (ea_3 (ev_var rfl) (ev_var rfl) (ev_var rfl)) fun H3 e3 Q q E => ⟨x, ll n a b, n, rfl, r.ok oa, ol, by omega, by omega, h1, h6, q⟩)), fun _ => ev_var rfl⟩)
          fun x hx => by
            have r := (sL.2 x).mp (List.mem_filter.mp (List.mem_filter.mp hx).1).1
            exact r.ok oa)) ?_) (fun hb => by cases hb) fun _ H13 e13 => kM _ H13 ⟨_, rfl, ((e10.trans e11).trans e12).trans e13⟩
        have hnil : ((L.filter fun x => dcB n x b).filter fun x => !dcB n x (ll n a b)) = [] := by
          rw [List.filter_eq_nil_iff]
          intro x hx
          have hm := List.mem_filter.mp hx
          have r := (sL.2 x).mp hm.1
          have := (dcB_iff h1 (r.ok oa) ol).mpr (ll_least h1 oa ob kin ⟨_, r⟩ ((dcB_iff h1 (r.ok oa) ob).mp hm.2))
          rw [this]
          decide
        rw [hnil]
        rfl
      · rintro σ' H10 ⟨y8, rfl, e10⟩
        refine q_asgX (S := fun M => ∃ L, ElS n a L ∧ M = L.filter fun x => dcB n b x) (ex_comp (fun x => dcB n b x) (fun L hL => hL.2.2) (ex_call (ea_2 (ev_var rfl) (ev_var rfl)) fun H1 e1 Q E q => ⟨a, n, rfl, oa, la, h1, h6, q⟩) (fun x => rfl)
          fun L hL x H1 hx e1 => ⟨et_test (ev_inElders (ev_var rfl) (ev_var rfl) (ev_var rfl) ob (hbt x ((hL.2.1 x).mp hx)) lb h1 h6), fun _ => ev_var rfl⟩) fun B p H11 hB np e11 hp => ?_
        obtain ⟨L, hL, rfl⟩ := hB
        have hmB : ∀ x, x ∈ L.filter (fun x => dcB n b x) → Rc n x a ∧ Rc n x b := fun x hx => by
          rw [List.mem_filter, hL.2.1 x] at hx
          exact ⟨hx.1, (dcB_iff h1 ob (hbt x hx.1)).mp hx.2⟩
        have hnil : ((L.filter fun x => dcB n b x).filter fun x => !dcB n (ge n a b) x) = [] := by
          rw [List.filter_eq_nil_iff]
          intro x hx
          obtain ⟨r1, r2⟩ := hmB x hx
          have := (dcB_iff h1 og (hbt x r1)).mpr (ge_most h1 oa ob kin r1 r2)
          rw [this]
          decide
        refine q_when (b := false) (et_is (et_and (et_test (ev_isNotN (ev_var rfl))) fun _ => et_test (ev_neNilXN (K := K) (l := (L.filter fun x => dcB n b x).filter fun x => !dcB n (ge n a b) x) (el_compL (K := K) (L.filter fun x => dcB n b x) tx (fun x => !dcB n (ge n a b) x) tx (Nat.le_trans (List.length_filter_le _ _) hL.2.2) (ev_var rfl) (sq_of hp) (fun x => rfl) fun x i H3 hx e3 => by
          have hm := hmB x (List.mem_of_getElem? hx)
          exact ⟨et_test (ev_notInElders (ev_var rfl) (ev_var rfl) (ev_var rfl) og (hbt x hm.1) hg h1 h6), fun _ => ev_var rfl⟩)
          fun x hx => hbt x (hmB x (List.mem_filter.mp hx).1).1)) (by rw [hnil]; rfl)) (fun hb => by cases hb) fun _ H12 e12 => ?_
        refine q_for3 (K := K) [(tx (ll n a b), tx a, tx (ge n a b)), (tx a, tx (ge n a b), tx (ll n a b)), (tx a, tx a, tx a), (tx a, tx b, tx (ge n a b))] (ets_cons (eu_tup (ea_3 (ev_var rfl) (ev_var rfl) (ev_var rfl)) (by simp)) (ets_cons (eu_tup (ea_3 (ev_var rfl) (ev_var rfl) (ev_var rfl)) (by simp)) (ets_cons (eu_tup (ea_3 (ev_var rfl) (ev_var rfl) (ev_var rfl)) (by simp)) (ets_cons (eu_tup (ea_3 (ev_var rfl) (ev_var rfl) (ev_var rfl)) (by simp)) ets_nil)))) (by simp)
          (fun σ' => ∃ y9 y11 y12 y13, σ' = [some (tx a), some (tx b), some (nt n), some (.bl true), some (.ref S), some (tx (ge n a b)), some (tx (ll n a b)), some (.ref p7), y8, y9, some (.ref p), y11, y12, y13, none]) ⟨_, _, _, _, rfl⟩ (fun r σ' H' hr hP e13 N hN => ?_) fun σ' H' hP e13 => ?_
        · obtain ⟨y9, y11, y12, y13, rfl⟩ := hP
          have hr : ∃ x y z : Tx, r = (tx x, tx y, tx z) ∧ Ok x ∧ Ok y ∧ Ok z ∧ x.length ≤ 22 ∧ y.length ≤ 22 ∧ z.length ≤ 22 := by
            simp only [List.mem_cons, List.not_mem_nil, or_false] at hr
            rcases hr with rfl | rfl | rfl | rfl
            · exact ⟨_, _, _, rfl, ol, oa, og, by omega, by omega, by omega⟩
            · exact ⟨_, _, _, rfl, oa, og, ol, by omega, by omega, by omega⟩
            · exact ⟨_, _, _, rfl, oa, oa, oa, by omega, by omega, by omega⟩
            · exact ⟨_, _, _, rfl, oa, ob, og, by omega, by omega, by omega⟩
          obtain ⟨x, y, z, rfl, ox, oy, oz, lx, ly, lz⟩ := hr
          refine s_when (b := true) (et_B (ev_var rfl)) (fun _ H14 e14 => ?_) (fun hb => by cases hb)
          refine q_asg (ev_andV (ev_call (ea_3 (ev_var rfl) (ev_var rfl) (ev_var rfl)) fun H3 e3 Q q E => ⟨x, y, n, rfl, ox, oy, lx, ly, h1, h6, q⟩) fun _ => ev_call (ea_3 (ev_var rfl) (ev_var rfl) (ev_var rfl)) fun H3 e3 Q q E => ⟨y, z, n, rfl, oy, oz, ly, lz, h1, h6, q⟩) fun H15 e15 => ?_
          refine s_when (b := false) (et_not (et_likeVV (K := K) (ev_is (ev_call (ea_cons (ev_var rfl) (ea_3 (ev_var rfl) (ev_var rfl) (ev_var rfl))) fun H3 e3 Q q E => ⟨y, x, z, n, rfl, oy, ox, oz, by omega, by omega, by omega, h1, h6, q⟩) (by rw [Bool.and_comm])) (ev_var rfl) (fun _ _ => shows_b) (fun _ _ => shows_b) (small_atom atom_b))) (fun hb => by cases hb)
            fun _ H16 e16 => hN _ _ ⟨_, _, _, _, rfl⟩ ((e14.trans e15).trans e16)
        · exact s_ret (ev_c (v := .bl true)) fun H14 e14 => k H14 ((((((((e07.trans e8).trans e9).trans e10).trans e11).trans e12).trans e13).trans e14))
    · rw [decide_eq_false kin] at ek
      rw [if_neg kin] at eg eh
      subst ek eg eh
      refine q_asg (v := .non) (ev_if (et_B (ev_var rfl)) (fun h => by cases h) fun _ => ev_c) fun H8 e8 => ?_
      refine q_when (b := false) (et_not (et_likeVV (K := K) (ev_call (ea_3 (ev_var rfl) (ev_var rfl) (ev_var rfl)) fun H3 e3 Q q E => ⟨a, b, n, rfl, oa, ob, by omega, by omega, h1, h6, fun k => absurd k kin, fun _ => q⟩) (ev_var rfl) (fun _ _ => shows_n) (fun _ _ => shows_n) (small_atom atom_n))) (fun hb => by cases hb) fun _ H9 e9 => ?_
      refine q_when (b := false) (et_and (a := false) (b := true) (et_B (ev_var rfl)) fun h => by cases h) (fun hb => by cases hb) fun _ H10 e10 => ?_
      refine q_asgX (S := fun M => ∃ L, ElS n a L ∧ M = L.filter fun x => dcB n b x) (ex_comp (fun x => dcB n b x) (fun L hL => hL.2.2) (ex_call (ea_2 (ev_var rfl) (ev_var rfl)) fun H1 e1 Q E q => ⟨a, n, rfl, oa, la, h1, h6, q⟩) (fun x => rfl)
        fun L hL x H1 hx e1 => ⟨et_test (ev_inElders (ev_var rfl) (ev_var rfl) (ev_var rfl) ob (hbt x ((hL.2.1 x).mp hx)) lb h1 h6), fun _ => ev_var rfl⟩) fun B p H11 hB np e11 hp => ?_
      refine q_when (b := false) (et_and (b := true) (et_is (b := false) (et_test (ev_isNotN (ev_var rfl))) (by rfl)) fun h => by cases h) (fun hb => by cases hb) fun _ H12 e12 => ?_
      refine q_for3 (K := K) [(.non, tx a, .non), (tx a, .non, .non), (tx a, tx a, tx a), (tx a, tx b, .non)] (ets_cons (eu_tup (ea_3 (ev_var rfl) (ev_var rfl) (ev_var rfl)) (by simp)) (ets_cons (eu_tup (ea_3 (ev_var rfl) (ev_var rfl) (ev_var rfl)) (by simp)) (ets_cons (eu_tup (ea_3 (ev_var rfl) (ev_var rfl) (ev_var rfl)) (by simp)) (ets_cons (eu_tup (ea_3 (ev_var rfl) (ev_var rfl) (ev_var rfl)) (by simp)) ets_nil)))) (by simp)
        (fun σ' => ∃ y9 y11 y12, σ' = [some (tx a), some (tx b), some (nt n), some (.bl false), some (.ref S), some .non, some .non, some .non, none, y9, some (.ref p), y11, y12, none, none]) ⟨_, _, _, rfl⟩ (fun t σ' H' ht hP e13 N hN => ?_) fun σ' H' hP e13 => ?_
      · obtain ⟨y9, y11, y12, rfl⟩ := hP
        exact s_when (b := false) (et_B (ev_var rfl)) (fun hb => by cases hb) fun _ H14 e14 => hN _ _ ⟨_, _, _, rfl⟩ e14
      · exact s_ret (ev_c (v := .bl true)) fun H14 e14 => k H14 ((((((((e07.trans e8).trans e9).trans e10).trans e11).trans e12).trans e13).trans e14))
end
end K7

set_option Elab.async false
set_option linter.all false
set_option maxRecDepth 100000
set_option maxHeartbeats 2000000
/-! A lambda whose one parameter has a default: its making. -/
namespace K7
open PySem PySem.Spec PyProof.Rows L2 Evl LamX
/-- the record of such a lambda, dV its defaults -/
abbrev lfd (q : Str) (ps : Arguments) (b : Expr) (sc : Scope) (cl : List (Str × Addr)) (dV pm cdv ct : Value) : FuncData := { PySem.W.kla_fn "<lambda>" q ps b sc cl pm cdv ct with defaults := dV }
abbrev lob (q : Str) (ps : Arguments) (b : Expr) (sc : Scope) (cl : List (Str × Addr)) (dV pm : Value) (c' : Addr) (ct : Value) : Obj := { cls := .type "function", data := .func (lfd q ps b sc cl dV pm (.ref c') ct) }
section
variable {M : Model} {A : Around} {E : Value → Shared → Prop} {s : Shared} {q : Str} {pr : Arguments} {bd : Expr} {sc : Scope} {en : Env} {c P : Addr} {tb : Array Value} {pos : Pos} {fl : Nat} {mg : Str → Option Value} {cl : List (Str × Addr)} {dV : Value} {Q : Value → Shared → Prop}
theorem mk_tail (cOk : closureFor sc en = pure cl) (eg : en.globals = mainGlobals) (g0 : s.heap.Ns mainGlobals mg) (ec : en.code = .ref c) (C : PySem.W.CodeHd s.heap c P) (hP : s.heap.get? P = some { cls := .none, data := .fields tb }) (ht : TriplesOk tb.toList) (gP : mainGlobals ≠ P) (hb : s.heap.BuiltinsAt mg P)
    (new : codeAmong pos tb.toList = none → ∀ (c' : Addr) (ct : Value) (h' : Heap) (k : Nat), Heap.ExtBut P s.heap h' → s.heap.objs.size ≤ c' → c' < h'.objs.size → h'.CodeRec (.ref c') q → h'.get? P = some { cls := .none, data := .fields (tb ++ #[rawInt pos.line, rawInt pos.col, .ref c']) } →
      Q (.ref h'.objs.size) { s with heap := h'.push (lob q pr bd sc cl dV ((mg "__name__").getD .none) c' ct), toks := k })
    (old : ∀ cv, codeAmong pos tb.toList = some cv → ∀ (ct : Value) (h' : Heap) (k : Nat), (∀ b o, s.heap.get? b = some o → h'.get? b = some o) → s.heap.objs.size ≤ h'.objs.size →
      Q (.ref h'.objs.size) { s with heap := h'.push { cls := .type "function", data := .func (lfd q pr bd sc cl dV ((mg "__name__").getD .none) cv ct) }, toks := k }) :
    wpAny M A (makeTail "<lambda>" q pr (.expr bd) sc en dV .none none pos fl) Q E s := by
  obtain ⟨bm, ob, b1, b2, b3, b4, b5, b6, b7, b8⟩ := hb
  have rest : ∀ (ct : Value) (h1 : Heap), (∀ b o, s.heap.get? b = some o → h1.get? b = some o) → s.heap.objs.size ≤ h1.objs.size → ∀ {m : Sem Value},
      m = (functionCode en pos fl "<lambda>" q pr sc (.expr bd) >>= fun cd => builtinsFor en.globals en.builtins >>= fun bi => nsGet en.globals "__name__" >>= fun nm => (pure Value.none : Sem Value) >>= fun dc =>
        newObj (.type "function") (.func { name := "<lambda>", qualname := q, params := pr, body := .expr bd, scope := sc, globals := en.globals, closure := cl, closureTuple := ct, code := cd, builtins := bi, defaults := dV, kwdefaults := .none, annotations := none, pyModule := nm.getD .none, doc := dc })) →
      wpAny M A m Q E { s with heap := h1 } := by
    intro ct h1 kp sz m em
    rw [em, eg]
    have C1 := C.keeps kp
    have P1 := kp _ _ hP
    have fin : ∀ {cv : Value} {h2 : Heap} {k : Nat}, h2.Ns mainGlobals mg → h2.get? bm = some ob → Q (.ref h2.objs.size) { s with heap := h2.push { cls := .type "function", data := .func (lfd q pr bd sc cl dV ((mg "__name__").getD .none) cv ct) }, toks := k } →
        wpAny M A (builtinsFor mainGlobals en.builtins >>= fun bi => nsGet mainGlobals "__name__" >>= fun nm => (pure Value.none : Sem Value) >>= fun dc =>
          newObj (.type "function") (.func { name := "<lambda>", qualname := q, params := pr, body := .expr bd, scope := sc, globals := mainGlobals, closure := cl, closureTuple := ct, code := cv, builtins := bi, defaults := dV, kwdefaults := .none, annotations := none, pyModule := nm.getD .none, doc := dc })) Q E { s with heap := h2, toks := k } :=
      fun g2 o2 hq => wpAny_bind (wpAny_builtinsFor g2 b1 b2 o2 b6 b7 b8 (wpAny_bind (wpAny_nsGet g2 (wpAny_bind (wpAny_pure (wpAny_newObj_type hq (by size_fits)))))))
    cases e : codeAmong pos tb.toList with
    | none => exact wpAny_bind (wpAny_functionCodeX ec (C1.code P1 ht) (C1.tab P1) e fun c' h' k x1 x2 x3 _ x4 x5 _ =>
        fin ((g0.keeps kp).extBut x1 gP) (x1 _ _ b4 (kp _ _ b5)) (new e c' ct h' k (fun b o n z => x1 b o n (kp b o z)) (Nat.le_trans sz x2) x3 x4 x5.2))
    | some cv => exact wpAny_bind (wpAny_functionCode_hit ec (C1.code P1 ht) e (fin (g0.keeps kp) (kp _ _ b5) (old cv e ct h1 s.toks kp sz)))
  unfold makeTail
  rw [cOk]
  refine wpAny_bind (wpAny_pure ?_)
  by_cases n : cl.isEmpty = true
  · rw [if_pos n]
    exact wpAny_bind (wpAny_pure (rest .none s.heap (fun _ _ z => z) (Nat.le_refl _) rfl))
  · rw [if_neg n]
    exact wpAny_bind (wpAny_newTextTuple (rest _ _ (fun b o z => Heap.get?_push_of_some _ z) (by rw [Heap.size_push]; omega) rfl))
end
end K7

set_option Elab.async false
set_option linter.all false
set_option maxRecDepth 100000
set_option maxHeartbeats 2000000
/-! The making of such a lambda in a def that keeps its table. -/
namespace K7
open PySem PySem.Spec PyProof.Rows L2 Evl LamX
section
variable {X : Cx} {pins : List (Addr × Obj)} {σ : L2.St} {H : Hp} {s : Shared}
theorem mk_lamD {T : List (Addr × Str)} {c P : Addr} {pr : Arguments} {bd : Expr} {sc : Scope} {pos dp : Pos} {z : Int} {dj : Nat} {E : Value → Shared → Prop} {Q : Value → Shared → Prop} (I : Inv X pins σ H s) (TB : TabB X.base X.mg c P) (ec : X.env.code = .ref c)
    (hm : (P, X.env.qual ++ "<lambda>") ∈ T) (hu : ∀ p ∈ T, p.1 = P → p.2 = X.env.qual ++ "<lambda>") (hT : Tabs T H) (hdef : defaultsOf pr X.env = ([eval (.Constant (.int z) dj dp) X.env], [])) (hfree : ∀ y ∈ sc.names, y.2 = .free → ∃ c, X.env.cells.lookup y.1 = some c)
    (h : ∀ (f c' D : Addr) (pm ct : Value) (t : Tok) (H1 : Hp) (s' : Shared), Inv X pins σ H1 s' → ExtN H H1 → Tabs T H1 → s'.heap.get? f = some (lob (X.env.qual ++ "<lambda>") pr bd sc (cloFrom X.env.cells sc.names []) (.ref D) pm c' ct) →
      s'.heap.get? D = some { cls := .type "tuple", data := .seq #[.int z t] } → H1 f = none ∧ f ∉ frs X.stack → H1 D = none ∧ D ∉ frs X.stack → H1 c' = some (CodeO c' (X.env.qual ++ "<lambda>")) → Q (.ref f) s') :
    wpAny (model X.prog X.w) X.A (eval (.Lambda pr bd sc pos) X.env) Q E s := by
  obtain ⟨tb, hP, ht, ha⟩ := hT _ hm
  rw [arm_eval_Lambda, hdef]
  show wpAny _ X.A (do let dv ← evalAll [eval (.Constant (.int z) dj dp) X.env]; let kdv ← holding dv (evalAllOpt []); makeFunction "<lambda>" (X.env.qual ++ "<lambda>") pr (.expr bd) sc X.env dv kdv [] pos pos.line) Q E s
  refine wpAny_bind (wpAny_evalAll_cons (wpAny_Constant_int (wpAny_evalAll_nil (wpAny_bind (wpAny_holding (wpAny_pure ?_))))))
  rw [makeFunction_eq]
  simp only [List.zip_nil_right, List.filterMap_nil, List.isEmpty_nil, List.isEmpty_cons, Bool.false_eq_true, if_true, if_false, pure_bind]
  refine wpAny_bind (wpAny_newTextTuple ?_)
  have I0 : Inv X pins σ H { s with toks := s.toks + 1, heap := s.heap.push { cls := .type "tuple", data := .seq [Value.int z s.toks].toArray } } := I.kept (t' := s.toks + 1) fun b o e => Heap.get?_push_of_some _ e
  have hP0 := I0.hok P _ hP
  have nofr : ∀ b, s.heap.objs.size ≤ b → b ∉ frs X.stack := fun b hb q => (List.mem_cons.mp (I.stkSub _ q)).elim (fun e => Nat.lt_irrefl _ (Nat.lt_of_lt_of_le (e ▸ I.lt) hb)) fun e => I.nofs hb e
  have szU : (s.heap.push { cls := .type "tuple", data := .seq [Value.int z s.toks].toArray }).objs.size = s.heap.objs.size + 1 := Heap.size_push ..
  have gD : (s.heap.push { cls := .type "tuple", data := .seq [Value.int z s.toks].toArray }).get? s.heap.objs.size = some { cls := .type "tuple", data := .seq #[Value.int z s.toks] } := Heap.get?_push_size _ rfl
  have nD : H s.heap.objs.size = none := I.hok.fresh (Nat.le_refl _)
  have lP : s.heap.objs.size > P := Heap.lt_size (I.hok P _ hP)
  have gt : ∀ {a b : Nat}, b < a → a ≠ b := fun h => Nat.ne_of_gt h
  have lt : ∀ {a b : Nat}, a < b → a ≠ b := fun h => Nat.ne_of_lt h
  refine mk_tail (mg := X.mg) (closure_ok hfree) I.ok.glob (I0.mod.glob.keeps I0.bk) ec (TB.code.keeps I0.bk) hP0 ht TB.gP (TB.bm.keeps I0.bk) (fun hn c' ct h' k x1 x2 x3 x4 x5 => ?_) fun cv hc ct h' k kp sz => ?_
  · obtain ⟨c2, oc, vs, t, e2, o1, o2, o3⟩ := x4
    cases e2
    have x2 : s.heap.objs.size + 1 ≤ c' := by rw [← szU]; exact x2
    have x3 : c' < h'.objs.size := x3
    have szh : s.heap.objs.size ≤ h'.objs.size := Nat.le_trans (Nat.le_of_lt x2) (Nat.le_of_lt x3)
    have nC : H c' = none := I.hok.fresh (by omega)
    let obj := lob (X.env.qual ++ "<lambda>") pr bd sc (cloFrom X.env.cells sc.names []) (.ref s.heap.objs.size) ((X.mg "__name__").getD .none) c' ct
    have I1 := inv_table (t' := k) (more := #[rawInt pos.line, rawInt pos.col, .ref c']) (h' := h'.push obj) I0 hP (fun b o hb e => Heap.get?_push_of_some _ (x1 b o hb e)) (Heap.get?_push_of_some _ x5) (by rw [szU]; exact x2) ⟨oc, vs, t, Heap.get?_push_of_some _ o1, o2, o3⟩
    have eN : ExtN H (upd (upd H P (.tbl (tb ++ #[rawInt pos.line, rawInt pos.col, .ref c']))) c' (CodeO c' (X.env.qual ++ "<lambda>"))) := fun b o e n => by
      rw [upd_ne (ne_of_none e nC), upd_ne]
      · exact e
      · intro q
        subst q
        rw [hP] at e
        exact n tb (Option.some.inj e).symm
    have own : ∀ b, s.heap.objs.size ≤ b → b ≠ c' → upd (upd H P (.tbl (tb ++ #[rawInt pos.line, rawInt pos.col, .ref c']))) c' (CodeO c' (X.env.qual ++ "<lambda>")) b = none := fun b hb n => by
      rw [upd_ne n, upd_ne (gt (Nat.lt_of_lt_of_le lP hb))]
      exact I.hok.fresh hb
    refine h h'.objs.size c' s.heap.objs.size _ ct s.toks _ _ I1 eN (fun p hp => ?_) (Heap.get?_push_size _ rfl) (Heap.get?_push_of_some _ (x1 _ _ (gt lP) gD)) ⟨own _ szh (gt x3), nofr _ szh⟩ ⟨own _ (Nat.le_refl _) (lt x2), nofr _ (Nat.le_refl _)⟩ upd_same
    obtain ⟨tb', a1, a2, a3⟩ := hT p hp
    by_cases hb : p.1 = P
    · rw [hb] at a1
      cases hP.symm.trans a1
      rw [hu p hp hb] at a3 ⊢
      rw [hb]
      have el : (tb ++ #[rawInt pos.line, rawInt pos.col, .ref c']).toList = tb.toList ++ [rawInt pos.line, rawInt pos.col, .ref c'] := by rw [Array.toList_append]
      refine ⟨_, by rw [upd_ne (lt (Nat.lt_trans lP x2)), upd_same], el ▸ PySem.TriplesOk_snoc _ _ _ _ a2, fun p' cv hcv => ?_⟩
      rw [el] at hcv
      rcases among_app _ a2 hcv with q | q
      · obtain ⟨c0, e1, e2⟩ := a3 p' cv q
        exact ⟨c0, e1, eN _ _ e2 codeO_ne⟩
      · exact ⟨c', q, upd_same⟩
    · refine ⟨tb', by rw [upd_ne (ne_of_none a1 nC), upd_ne hb]; exact a1, a2, fun p' cv hcv => ?_⟩
      obtain ⟨c0, e1, e2⟩ := a3 p' cv hcv
      exact ⟨c0, e1, eN _ _ e2 codeO_ne⟩
  · obtain ⟨c', e, hco⟩ := ha pos cv hc
    subst e
    have I1 : Inv X pins σ H { s with heap := h'.push (lob (X.env.qual ++ "<lambda>") pr bd sc (cloFrom X.env.cells sc.names []) (.ref s.heap.objs.size) ((X.mg "__name__").getD .none) c' ct), toks := k } := I0.kept fun b o e => Heap.get?_push_of_some _ (kp b o e)
    have sz : s.heap.objs.size + 1 ≤ h'.objs.size := by rw [← szU]; exact sz
    exact h h'.objs.size c' s.heap.objs.size _ ct s.toks H _ I1 (ExtN.refl H) hT (Heap.get?_push_size _ rfl) (Heap.get?_push_of_some _ (kp _ _ gD)) ⟨I.hok.fresh (by omega), nofr _ (by omega)⟩ ⟨nD, nofr _ (Nat.le_refl _)⟩ hco
end
end K7

set_option Elab.async false
set_option linter.all false
set_option maxRecDepth 100000
set_option maxHeartbeats 2000000
/-! .. its call, and the call of a def that gets it. -/
namespace K7
open PySem PySem.Spec PyProof.Rows L2 Evl LamX
/-- the lambda's names: y its own, which the maker has not; else captured ones and globals -/
structure LamD (ms sc : Scope) (N : List Str) (y : Str) : Prop where
  kind : sc.kind = .function
  co : sc.isCoroutine = false
  gen : sc.isGenerator = false
  cell : ∀ p ∈ sc.names, p.2 ≠ .cell
  loc : ∀ p ∈ sc.names, p.2 = .local → p.1 ∉ N
  par : sc.names.lookup y = some .local
  free : ∀ p ∈ sc.names, p.2 = .free → ms.names.lookup p.1 = some .cell ∨ ms.names.lookup p.1 = some .free
def lamDB (ms sc : Scope) (N : List Str) (y : Str) : Bool :=
  decide (sc.kind = .function) && !sc.isCoroutine && !sc.isGenerator && decide (sc.names.lookup y = some .local) && sc.names.all fun p => !decide (p.2 = .cell) && (!decide (p.2 = .local) || !N.contains p.1) && (!decide (p.2 = .free) || decide (ms.names.lookup p.1 = some .cell) || decide (ms.names.lookup p.1 = some .free))
theorem lamD_by {ms sc : Scope} {N : List Str} {y : Str} (h : lamDB ms sc N y = true) : LamD ms sc N y := by
  unfold lamDB at h
  simp only [Bool.and_eq_true, Bool.or_eq_true, Bool.not_eq_true', decide_eq_true_eq, decide_eq_false_iff_not, List.all_eq_true, List.contains_eq_mem] at h
  obtain ⟨⟨⟨⟨k1, k2⟩, k3⟩, k4⟩, k5⟩ := h
  exact ⟨k1, k2, k3, fun p m => (k5 p m).1.1, fun p m e => (k5 p m).1.2.resolve_left (absurd e), k4, fun p m e => by
    rcases (k5 p m).2 with (q | q) | q
    · exact absurd e q
    · exact .inl q
    · exact .inr q⟩
section
variable {X : Cx} {pins : List (Addr × Obj)} {σ : L2.St} {H Hz : Hp} {s sn : Shared}
theorem LamD.caught {sc : Scope} {y : Str} (L : LamD X.env.scope sc X.N y) (ok : X.Ok) : ∀ p ∈ sc.names, p.2 = .free → ∃ c, X.env.cells.lookup p.1 = some c := fun p m e => ok.has _ (L.free p m e)
theorem start_D {A : Around} {outer : List Env} {E : XK} {sc : Scope} {y : Str} {f c' : Addr} {h1 : Heap} {tk : Nat} {mm : Str → Option Value} (I : Inv X pins σ H s) (L : LamD X.env.scope sc X.N y) (e0 : Env0 X.prog X.w X.K X.mg X.base A outer sn Hz) (nodb : A.handled = none)
    (un : Un (frs X.stack) [] H Hz s.heap sn.heap) (hns : h1.Ns sn.heap.objs.size mm) (kp : ∀ b o, sn.heap.get? b = some o → h1.get? b = some o) : Inv (lamCx X A outer sn Hz E sc f c') [] σ Hz { sn with heap := h1, toks := tk } := by
  have cap := L.caught I.ok
  have back : ∀ {x c}, (cloFrom X.env.cells sc.names []).lookup x = some c → X.env.cells.lookup x = some c := fun {x c} e => by
    rcases cloFrom_mem (PySem.mem_of_lookup e) with q | ⟨q1, q2⟩
    · exact absurd q (by simp)
    · obtain ⟨c1, q3⟩ := cap _ q1 rfl
      have q3 : X.env.cells.lookup x = some c1 := q3
      have q4 : c = c1 := by
        rw [q2, q3] <;> rfl
      exact q4 ▸ q3
  have forth : ∀ {x}, sc.names.lookup x = some .free → ∃ c, (cloFrom X.env.cells sc.names []).lookup x = some c := fun {x} e => mem_lookup (cloFrom_has (cells := X.env.cells) (acc := []) (PySem.mem_of_lookup e))
  have cellAt : ∀ {a : Addr} {v : Option Value}, H a = none → s.heap.IsCell a v → h1.IsCell a v := fun {a v} n ⟨o, q1, q2⟩ => by
    obtain ⟨sl, q3⟩ := un.any q1 n (by simp)
    exact ⟨_, kp _ _ q3, q2⟩
  have none_ : ∀ b : Addr, b ∉ (lamCx X A outer sn Hz E sc f c').ex := fun b q => absurd (show b ∈ ([] : List Addr) from q) (by simp)
  refine ⟨⟨e0.mod, L.kind, rfl, rfl, Nat.le_refl _, fun x q c e1 e2 => I.ok.inj x q c (back e1) (back e2), fun x hx => ?_, fun x c q _ => absurd (show false = true from q) (by decide), fun _ => nodb, Around.frames_deeper e0.frames, .inr ⟨rfl, rfl⟩, fun b q => absurd q (none_ b), e0.bs, e0.bsz, fun b _ _ => none_ b,
      fun b q => absurd q (none_ b), e0.funs, e0.frf⟩,
    rfl, e0.bare, Un.kept kp, ⟨mm, hns, fun i x v e1 e2 e3 => ?_⟩, fun x c e => ?_, e0.hok.fresh (Nat.le_refl _), fun x c e => ?_, fun q hq => absurd (show q ∈ ([] : List (Addr × Obj)) ++ [] from hq) (by simp), e0.hok.kept kp, I.len⟩
  · rcases (show sc.names.lookup x = some .cell ∨ sc.names.lookup x = some .free from hx) with q | q
    · exact absurd rfl (L.cell _ (PySem.mem_of_lookup q))
    · exact forth q
  · rcases (show Vis sc x from e3) with q | q | q
    · exact absurd (List.mem_of_getElem? e1) (L.loc _ (PySem.mem_of_lookup q) rfl)
    · exact absurd rfl (L.cell _ (PySem.mem_of_lookup q))
    · have fr := L.free _ (PySem.mem_of_lookup q) rfl
      obtain ⟨m, _, hl⟩ := I.loc
      obtain ⟨u, r, w⟩ := hl i x v e1 e2 (.inr fr)
      obtain ⟨c2, q2⟩ := forth q
      refine ⟨u, r, .inr ⟨.inr q, c2, q2, ?_⟩⟩
      have c1 := back q2
      rcases w with ⟨w, _⟩ | ⟨_, c3, w1, w2⟩
      · have w : X.env.scope.names.lookup x = some .local := w
        rcases fr with q3 | q3 <;> cases (show X.env.scope.names.lookup x = _ from q3).symm.trans w
      · cases c1.symm.trans w1
        exact cellAt (I.freeC x _ c1) w2
  · obtain ⟨u, q⟩ := I.cell x c (back e)
    exact ⟨u, cellAt (I.freeC x c (back e)) q⟩
  · obtain ⟨u, o, q1, q2⟩ := I.cell x c (back e)
    exact un.free c o q1 (I.freeC x c (back e)) (by simp)
/-- a call without arguments, in the def that got it; z: what y stands for -/
theorem act_D {CXg : CXT} {Eg : XK} {Ng : List Str} {qg : Str} {sg : Scope} {g f c' D : Addr} {cdq pm ct : Value} {pr : Arguments} {bd : Expr} {sc : Scope} {k i : Nat} {a y : Str} {z : Int} {t : Tok} {pnz : List (Addr × Obj)} {xh : Value → Shared → Prop} {Wz : WX} {E : XK} {tb : TE} {p1 p2 : Pos}
    (I : Inv X pins σ H s) (L : LamD X.env.scope sc X.N y) (hf : s.heap.get? f = some (lob (X.env.qual ++ "<lambda>") pr bd sc (cloFrom X.env.cells sc.names []) (.ref D) pm c' ct)) (hD : s.heap.get? D = some { cls := .type "tuple", data := .seq #[.int z t] }) (nf : H f = none ∧ f ∉ frs X.stack) (nD : H D = none ∧ D ∉ frs X.stack)
    (hbind : ∀ cl pm cv ct, ∃ k, bindArgs (lfd (X.env.qual ++ "<lambda>") pr bd sc cl (.ref D) pm cv ct) ⟨[], []⟩ = seqItems? (.ref D) >>= k ∧ k (some #[.int z t]) = pure [(y, .int z t)])
    (tk : Takes ((cxOf CXg X.prog X.w X.K X.mg X.base Ng qg sg g cdq X.A X.stack s H Eg).tr pnz xh) Wz) (hW : ∀ cls d σ' H', E cls d H' → Wz cls d σ' H') (hr : Room (k + 1) (X.A.deeper (envOfC qg sg s.heap.objs.size g cdq)))
    (hbody : ∀ (A : Around) (outer : List Env) (s : Shared) (H : Hp), Room k (A.deeper (lamEnv X sc s.heap.objs.size f c')) → PE (lamCx X A outer s H E sc f c') bd tb)
    (atN : Ng[i]? = some a) (vis : Vis sg a) (nodb : (a == ("__debug__" : Str)) = false := by decide) (nocd : (a == ("__classdict__" : Str)) = false := by decide) :
    PE ((cxOf CXg X.prog X.w X.K X.mg X.base Ng qg sg g cdq X.A X.stack s H Eg).tr pnz xh) (.Call (.Name a p1) [] [] p2) (fun σZ Hz Q => σZ[i]? = some (some (.ref f)) ∧ Hz c' = some (CodeO c' (X.env.qual ++ "<lambda>")) ∧ tb σ Hz Q) := by
  refine ⟨fun pinsZ sZ σZ Hz Q IZ ⟨hs, hc, ht⟩ => ?_⟩
  refine wpAny_Call_Name_kw (thn ((pe_var (pos := p1) (i := i) atN vis nodb nocd).run pinsZ sZ σZ Hz (fun v H1 => v = .ref f ∧ H1 = Hz) IZ ⟨.ref f, hs, rfl, rfl⟩) fun u sn ⟨v, H1, I1, ra, ev, eH⟩ => ?_)
  rw [eH] at I1
  rw [ev] at ra
  obtain rfl : u = Value.ref f := ra
  have un : Un (frs X.stack) [] H Hz s.heap sn.heap := I1.base
  have f1 := un.keep f _ hf nf.1 nf.2 (by simp)
  have D1 := un.keep D _ hD nD.1 nD.2 (by simp)
  refine PySem.W.callWith_F0 ⟨_, _, _, _, f1⟩ ?_
  obtain ⟨⟨oc, vs, tc, q1, q2, q3⟩, _, _⟩ := I1.hok c' _ hc
  obtain ⟨kb, hb1, hb2⟩ := hbind (cloFrom X.env.cells sc.names []) pm (.ref c') ct
  have bnd : BindsTo sn (lfd (X.env.qual ++ "<lambda>") pr bd sc (cloFrom X.env.cells sc.names []) (.ref D) pm (.ref c') ct) ⟨[], []⟩ [(y, .int z t)] := BindsTo.of_defaults rfl D1 rfl hb1 hb2
  have run : codeAny (model X.prog X.w) (X.A.deeper (envOfC qg sg s.heap.objs.size g cdq)) (.call (.ref f) ⟨[], []⟩) (CR (L2.CX X.prog X.w) (envOfC qg sg s.heap.objs.size g cdq :: X.stack) X.prog X.w Hz sn Q E) sn := by
    refine PySem.W.kla_callFunE hr.depth f1 rfl L.co L.gen rfl ⟨c', oc, vs, tc, rfl, q1, q2, q3⟩ (bnd _ _ _ _ (wpAny_newFunctionEnv (fun p m => L.cell p m) (fun p m => ?_) (fun h1 hns hsb => ⟨I1.nolimit.fresh _ hsb, ?_⟩) L.kind))
    · rw [List.mem_singleton.mp m]
      exact L.par
    · have kp : ∀ b o, sn.heap.get? b = some o → h1.get? b = some o := fun b o e => hsb.extBut b o (Nat.ne_of_lt (Heap.lt_size e)) (Heap.get?_push_of_some _ e)
      have Jn := start_D (E := E) (f := f) (c' := c') (tk := sn.toks + [(y, Value.int z t)].length) I L I1.env0 hr.hd un hns kp
      refine PySem.W.kla_codeExpr (wpAny_mono ((hbody _ _ sn Hz (hr.deeper _)).run [] _ _ Hz Q Jn ht) (fun v s' q => ?_) fun e s' q => q)
      obtain ⟨w', H', Jt, rv, q⟩ := q
      exact ⟨w', H', Jt.os, Jt.bare, Jt.base, Jt.hok, rv, q⟩
  refine wpAny_call (codeAny_mono run fun r s' q => ?_)
  cases r with
  | error e => exact (passes_call tk hW) pinsZ σZ Hz sn e s' I1 q
  | ok fl =>
    cases fl with
    | ret u => exact I1.after q
    | next => exact False.elim q
    | brk => exact False.elim q
    | cont => exact False.elim q
end
end K7

set_option Elab.async false
set_option linter.all false
set_option maxRecDepth 100000
set_option maxHeartbeats 2000000
/-! x(lambda y=z: ..). -/
namespace K7
open PySem PySem.Spec PyProof.Rows L2 Evl LamX
section
variable {X : Cx}
theorem pe_lamD {T : List (Addr × Str)} {TT : (XK → Hp → VK → Prop) → Hp → VK → Prop} {x a y : Str} {g c P : Addr} {k dj : Nat} {z : Int} {pg pr : Arguments} {bg : List Stmt} {sg sc : Scope} {dV kV doc pm cdv ct oc : Value} {an od : Option Addr} {osl : Array (Option Value)} {Ng : List Str} {bd : Expr} {t : XK → TE} {p lpos pos dp : Pos}
    (gl : Gl X x) (em : X.mg x = some (.ref g)) (kp : PySem.W.keepIn X.K (.ref g) = true) (lk : X.K.lookup g = some ⟨oc, od, .func (PySem.W.fnOf x x pg bg sg dV kV doc pm an cdv ct), osl⟩) (cIn : PySem.W.codeIn X.K cdv x = true) (bi : L2.Binds X.K (PySem.W.fnOf x x pg bg sg dV kV doc pm an cdv ct) [a] [])
    (Sg : FnScope Ng [a] sg) (eN : Ng[0]? = some a) (va : Vis sg a) (G : GivesTo X Ng x sg g cdv bg a (X.env.qual ++ "<lambda>") TT) (TB : TabB X.base X.mg c P) (ec : X.env.code = .ref c) (mT : (P, X.env.qual ++ "<lambda>") ∈ T) (uT : ∀ p ∈ T, p.1 = P → p.2 = X.env.qual ++ "<lambda>") (hr : Room (k + 2) X.A)
    (L : LamD X.env.scope sc X.N y) (df : defaultsOf pr X.env = ([eval (.Constant (.int z) dj dp) X.env], []))
    (bl : ∀ (q : Str) (cl : List (Str × Addr)) (D : Addr) (pm cv ct : Value) (t : Tok), ∃ k, bindArgs (lfd q pr bd sc cl (.ref D) pm cv ct) ⟨[], []⟩ = seqItems? (.ref D) >>= k ∧ k (some #[.int z t]) = pure [(y, .int z t)])
    (hb : ∀ (A : Around) (outer : List Env) (s : Shared) (H : Hp) (E : XK) (f c' : Addr), Room k (A.deeper (lamEnv X sc s.heap.objs.size f c')) → PE (lamCx X A outer s H E sc f c') bd (t E))
    (d1 : (x == ("__debug__" : Str)) = false := by decide) (d2 : (a == ("__debug__" : Str)) = false := by decide) (d3 : (a == ("__classdict__" : Str)) = false := by decide) : PE X (.Call (.Name x p) [.Lambda pr bd sc lpos] [] pos) (tLam T TT t) := by
  refine ⟨fun pins s σ H Q I ⟨hT, h⟩ => wpAny_Call_Name_kw (ld_glob I gl em (PySem.W.callWith_K (h₀ := X.base) I.ok.mod.kin kp ?_ (by rfl) (by rfl)) d1)⟩
  show wpAny _ _ (spliced ((false, eval (.Lambda pr bd sc lpos) X.env) :: backTo pos (starEach [] X.env))) _ _ s
  refine Calls.spliced_cons (mk_lamD I TB ec mT uT hT df (L.caught I.ok) fun f c' D pm' ct' tk H1 s' I1 e1 T1 hf hD nf nD hco => Calls.spliced_nil ⟨I1.kIn, ?_⟩)
  have run : codeAny (model X.prog X.w) X.A (.call (.ref g) ⟨[.ref f], []⟩) (CR C8.CX0 X.stack X.prog X.w H1 s' Q C8.E0) s' := run_ofS (N := Ng) (ps := [a]) (us := [.ref f]) (vs := [.ref f]) lk cIn Sg hr I1.env0 (bi s' [.ref f] I1.kIn rfl) (.cons rfl .nil) rfl fun hr' => by
    obtain ⟨t', q1, q2⟩ := G f c' s' H1 Q (fun E H' Q' => t E σ H' Q') (fun W pn xe E p1 p2 tk' hW => act_D (i := 0) I1 L hf hD nf nD (fun cl pm cv ct => bl _ cl D pm cv ct tk) tk' hW hr' (fun A outer s H hr2 => hb A outer s H E f c' hr2) eN va d2 d3) hco (h H1 e1 T1)
    exact ⟨t', q1.nox, q2⟩
  refine wpAny_call (codeAny_mono run fun r s2 q => ?_)
  cases r with
  | error e => exact (show False from q).elim
  | ok fl =>
    cases fl with
    | ret u => exact I1.after q
    | next => exact False.elim q
    | brk => exact False.elim q
    | cont => exact False.elim q
end
end K7

set_option Elab.async false
set_option linter.all false
set_option maxRecDepth 100000
set_option maxHeartbeats 2000000
/-! Rules for law: a text so many times, data of any depth compared, tables that stay. -/
namespace K7
open PySem PySem.Spec PyProof.Rows L2 Evl LamX
section
variable {X : Cx}
def rMulS : R2 := fun x y H Q => ∃ (z : Str) (n : Int), x = .str z ∧ y = .int n ∧ MulOk z n ∧ Q (.str (Txt.mul z n)) H
theorem op_mulS : OpR X (binaryOp .Mult) rMulS := by
  intro pins s σ H x y v u Q I rx ry h
  obtain ⟨z, n, rfl, rfl, hok, q⟩ := h
  obtain ⟨t, rfl⟩ := rx
  obtain ⟨t', rfl⟩ := ry
  exact SB.mul hok fun t2 k => ⟨.str (Txt.mul z n), H, I.tok _, ⟨_, rfl⟩, q⟩
end
abbrev aN (n : Nat) : Tx := List.replicate n 0
abbrev bN (n : Nat) : Tx := List.replicate n 1
theorem root_le {n : Nat} {l : Tx} (h1 : 1 ≤ n) (o : Ok l) : (root n l).length ≤ l.length := by
  by_cases h : l.length < n
  · rw [root, if_pos h]
    exact Nat.le_refl _
  · have hl : n ≤ l.length := by omega
    have ht := take_len h1 hl
    rw [root_long h1 hl, mk_len (by rw [List.length_map, runs_len]), ht]
    have := len_of h1 hl o
    have := sum_mod_le n (runs n l)
    omega
section
variable {K : PySem.W.Frag} {σ : L2.St} {H H' : Hp} {ta tb te : TE} {tr : TA} {x y z v : V} {D : Ends} {tz : TS}
theorem ev_mulS {s : Str} {n : Int} {l : Tx} (ha : Ev ta σ H (.str s)) (hb : Ev tb σ H (.int n)) (hm : MulOk s n) (e : Txt.mul s n = enc l) : Ev (tOp rMulS ta tb) σ H (tx l) := ev_op ha hb fun H1 _ _ q => ⟨s, n, rfl, rfl, hm, by rw [e]; exact q H1 (Ex.refl H1)⟩
theorem ev_lit {s : Str} {l : Tx} (e : s = enc l) : Ev (tC (.str s)) σ H (tx l) := e ▸ ev_c
theorem q_asg2 {i j : Nat} (ha : Ev ta σ H x) (hb : Ev tb σ H y) (k : ∀ H1, Ex H H1 → tz D ((σ.set i (some x)).set j (some y)) H1) : tSeq (tAsg (tTup (tCons ta (tCons tb tNil))) (gTup K 2 (gCons (gName i) (gCons (gName j) gNil)))) tz D σ H :=
  ha H (Ex.refl H) _ fun H1 e1 => hb H1 e1 _ fun H2 e2 => ⟨by show 2 ≤ sizeLine; decide, fun p np => ⟨p, _, rfl, st_of upd_same, rfl, _, _, rfl, _, _, rfl, rfl, k _ ((e1.trans e2).trans (Ex.new np))⟩⟩
/-! ### data of any depth -/
def EvD (K : PySem.W.Frag) (te : TE) (σ : L2.St) (H : Hp) (d : PyData) : Prop := ∀ H1, Ex H H1 → ∀ Q : VK, (∀ v H2, Ex H1 H2 → (∀ H3, Ex H2 H3 → Dp K H3 v d) → Q v H2) → te σ H1 Q
def EvDs (K : PySem.W.Frag) (ta : TA) (σ : L2.St) (H : Hp) (ds : List PyData) : Prop := ∀ H1, Ex H H1 → ∀ Q : List V → Hp → Prop, (∀ vs H2, Ex H1 H2 → vs.length = ds.length → (∀ H3, Ex H2 H3 → DpAll K H3 vs ds) → Q vs H2) → ta σ H1 Q
theorem ed_of {d : PyData} (h : Ev te σ H v) (hd : ∀ H3, Ex H H3 → Dp K H3 v d) : EvD K te σ H d := fun H1 e Q q => h H1 e Q fun H2 e2 => q v H2 e2 fun H3 e3 => hd H3 ((e.trans e2).trans e3)
theorem ed_int {i : Int} : EvD K (tC (.int i)) σ H (.int i) := ed_of ev_c fun _ _ => .int i
theorem ed_str {s : Str} : EvD K (tC (.str s)) σ H (.str s) := ed_of ev_c fun _ _ => .str s
theorem ed_bl {b : Bool} : EvD K (tC (.bl b)) σ H (.bool b) := ed_of ev_c fun _ _ => .bl b
theorem eds_nil : EvDs K tNil σ H [] := fun H1 e Q q => q [] H1 (Ex.refl H1) rfl fun _ _ => .nil
theorem eds_cons {d : PyData} {ds : List PyData} (h : EvD K te σ H d) (hr : EvDs K tr σ H ds) : EvDs K (tCons te tr) σ H (d :: ds) := fun H1 e Q q =>
  h H1 e _ fun v H2 e2 hv => hr H2 (e.trans e2) _ fun vs H3 e3 hl hvs => q (v :: vs) H3 (e2.trans e3) (by simp [hl]) fun H4 e4 => .cons (hv H4 (e3.trans e4)) (hvs H4 e4)
theorem ed_tup {ds : List PyData} (h : EvDs K tr σ H ds) (hz : ds.length ≤ 1000) : EvD K (tTup tr) σ H (.tuple ds) := fun H1 e Q q =>
  h H1 e _ fun vs H2 e2 hl hvs => ⟨by rw [hl]; exact Nat.le_trans hz (by decide), fun p np => q _ _ (e2.trans (Ex.new np)) fun H3 e3 => .tup (st_of (e3 _ _ upd_same)) (hvs H3 ((Ex.new np).trans e3))⟩
theorem ed_lst {ds : List PyData} (h : EvDs K tr σ H ds) (hz : ds.length ≤ 1000) : EvD K (tLst tr) σ H (.list ds) := fun H1 e Q q =>
  h H1 e _ fun vs H2 e2 hl hvs => ⟨by rw [hl]; exact Nat.le_trans hz (by decide), fun p np => q _ _ (e2.trans (Ex.new np)) fun H3 e3 => .lst (sq_of (e3 _ _ upd_same)) (hvs H3 ((Ex.new np).trans e3))⟩
theorem et_neD {d e : PyData} {b : Bool} (ha : EvD K ta σ H d) (hb : EvD K tb σ H e) (h1 : SeqAt.shaped d = true) (h2 : SeqAt.shaped e = true) (h3 : PyData.eqv d e = b) : EvT (tTest (tOp (rNeD K) ta tb)) σ H (!b) := fun H1 e1 Q q =>
  ha H1 e1 _ fun v H2 e2 hv => hb H2 (e1.trans e2) _ fun u H3 e3 hu => ⟨d, e, hv H3 e3, hu H3 (Ex.refl H3), h1, h2, _, rfl, by rw [h3]; exact q H3 (e2.trans e3)⟩
/-! ### tables stay -/
theorem tabS_fr {M G P : Addr} {q : Str} {C : Addr} {n : Nat} (t : TabS H P q) (d : Dr M C G n H) (f : Fr M G H H') : TabS H' P q := by
  obtain ⟨ps, h1, h2, h3⟩ := t
  have nt : ∀ {b : Addr} {o : HO}, H b = some o → (∀ kvs, o ≠ .dK kvs) → (∀ xs, o ≠ .lst xs) → H' b = some o := fun {b o} e n1 n2 => by
    refine f b o (fun z => ?_) (fun z => ?_) e
    · rw [z, d.m] at e
      exact n1 _ (Option.some.inj e).symm
    · obtain ⟨gs, _, g2⟩ := d.g
      rw [z, g2] at e
      exact n2 _ (Option.some.inj e).symm
  refine ⟨ps, nt h1 (fun _ z => by cases z) (fun _ z => by cases z), h2, fun pos cv hc => ?_⟩
  obtain ⟨c, e1, e2⟩ := h3 pos cv hc
  exact ⟨c, e1, nt e2 (fun _ z => by unfold CodeO at z; cases z) (fun _ z => by unfold CodeO at z; cases z)⟩
theorem tabs_fr {M G C : Addr} {n : Nat} {T : List (Addr × Str)} (t : Tabs T H) (d : Dr M C G n H) (f : Fr M G H H') : Tabs T H' := fun p hp => tabS_fr (t p hp) d f
theorem tabs_up {T : List (Addr × Str)} (t : Tabs T H) (e : Ex H H') : Tabs T H' := t.ext e
end
theorem lits : (∀ n ∈ [40, 30, 12, 18, 17, 11, 21], MulOk "a" ((n : Nat) : Int) ∧ Txt.mul "a" ((n : Nat) : Int) = enc (aN n)) ∧ ∀ n ∈ [40, 30], MulOk "b" ((n : Nat) : Int) ∧ Txt.mul "b" ((n : Nat) : Int) = enc (bN n) := by
  unfold MulOk
  decide +kernel
end K7

set_option Elab.async false
set_option linter.all false
set_option maxRecDepth 100000
/-! The numbers of law's last lines. -/
namespace K7
open PySem PySem.Spec PyProof.Rows L2 Evl
abbrev tA : Tx := aN 40 ++ [1]
abbrev tB1 : Tx := [0] ++ bN 40
theorem ok_aN (n : Nat) : Ok (aN n) := fun x h => by rw [(List.mem_replicate.mp h).2]; decide
theorem ok_bN (n : Nat) : Ok (bN n) := fun x h => by rw [(List.mem_replicate.mp h).2]; decide
theorem ok_l0 : Ok [0] := by unfold Ok; decide
theorem ok_l1 : Ok [1] := by unfold Ok; decide
theorem ok_tA : Ok tA := (ok_aN 40).app ok_l1
theorem ok_tB : Ok tB1 := ok_l0.app (ok_bN 40)
theorem num1 : root 1 tA = root 1 tB1 ∧ 60 < (ll 1 tA tB1).length ∧ ge 1 tA tB1 = [0, 1] ∧ posS (groP 1 tB1 tA) / (1 : Nat) = 39 ∧ negS (groP 1 tB1 tA) / (1 : Nat) = 39 := by decide +kernel
theorem num2 : (dcB 1 [0] [0] && dcB 1 [1] [0]) = false ∧ (dcB 1 [0, 1] [1] && dcB 1 [0, 0, 1] [0, 1]) = false ∧ (dcB 1 [0, 0, 1] [0, 1] && dcB 1 [0, 0, 1, 1] [0, 0, 1]) = true := by decide +kernel
theorem num3 : root 1 (aN 30 ++ [1]) = root 1 ([0] ++ bN 30) ∧ ll 1 (aN 30 ++ [1]) ([0] ++ bN 30) = aN 30 ++ bN 30 := by decide +kernel
theorem num4 : root 6 (aN 12) = root 6 (aN 18) ∧ ll 6 (aN 12) (aN 18) = aN 18 ∧ ge 6 (aN 12) (aN 18) = aN 12 ∧ posS (groP 6 (aN 18) (aN 12)) / (6 : Nat) = 1 ∧ negS (groP 6 (aN 18) (aN 12)) / (6 : Nat) = 0 := by decide +kernel
theorem num5 : ¬ root 6 (aN 12) = root 6 (aN 17) ∧ root 5 (aN 11) = root 5 (aN 21) := by decide +kernel
theorem num6 : root 1 [0, 0, 1] = root 1 [0, 1, 1] ∧ ll 1 [0, 0, 1] [0, 1, 1] = [0, 0, 1, 1] ∧ ge 1 [0, 0, 1] [0, 1, 1] = [0, 1] := by decide +kernel
theorem str1 : ("a" : Str) = enc [0] ∧ ("b" : Str) = enc [1] ∧ ("ab" : Str) = enc [0, 1] ∧ ("aab" : Str) = enc [0, 0, 1] ∧ ("aabb" : Str) = enc [0, 0, 1, 1] ∧ ("abb" : Str) = enc [0, 1, 1] := by decide +kernel
abbrev dL1 : PyData := .list [.tuple [.str "long", .int 60], .list [.tuple [.int 39, .int 39]]]
abbrev dL2 : PyData := .list [.bool false, .bool false, .bool true]
abbrev dL3 : PyData := .list [.str (enc (aN 18)), .str (enc (aN 12)), .tuple [.int 1, .int 0]]
theorem shp : SeqAt.shaped dL1 = true ∧ SeqAt.shaped dL2 = true ∧ SeqAt.shaped dL3 = true := by decide +kernel
theorem same_data : PyData.eqv dL1 dL1 = true ∧ PyData.eqv dL2 dL2 = true ∧ PyData.eqv dL3 dL3 = true := by decide +kernel
end K7

set_option Elab.async false
set_option linter.all false
set_option maxRecDepth 100000
set_option maxHeartbeats 4000000
/-! law. -/
namespace K7
open PySem PySem.Spec PyProof.Rows L2 Evl LamX
section
variable {P : Program} {w : World} {K : PySem.W.Frag} {mg : Str → Option Value} {base : Heap}
def sp_law (K : PySem.W.Frag) (Pt : Addr) : Sp := fun vs H Q _ => ∃ (S : Addr) (ns : List Int), vs = [.ref S] ∧ SqL K H S (ns.map V.int) ∧ ns.length ≤ 63 ∧ H Pt = some (.tbl #[]) ∧ ∀ H', Q (.bl true) H'
theorem ok_law (T : TopE K mg) (TL : LongT P K mg (He.ga K "TooLong")) (B : ToldT K) (TB0 : TabB base mg (He.cT K ("law", none)).1 (He.cT K ("law", none)).2) {fd : FuncData} (F : FunD K "law" "law" (defArgs s_law) (defBody s_law) (defScope s_law) [] [] (He.ga K "law") fd) :
    FnG P w K mg base CX0 9 (He.ga K "law") fd ["_law_script"] (sp_law K (He.cT K ("law", none)).2) := by
  have Fbegun : Has P w K mg base CX0 8 "_law_begun" ["_law_script"] (sp_begun K) := (ok_begun T).mono (by decide)
  have Fdraw : Has P w K mg base CX0 8 "_law_draw" ["_law_m", "_law_limit"] sp_draw := (ok_draw T).mono (by decide)
  have Fbare : Has P w K mg base CX0 8 "_law_bare" ["_law_text", "_law_wide"] sp_bare := (ok_bare T).mono (by decide)
  have Ftext : Has P w K mg base CX0 8 "_law_text_of" ["_law_m", "_law_many", "_law_long"] sp_text_of := (ok_text_of T).mono (by decide)
  have Fgrown : Has P w K mg base CX0 8 "_law_grown" ["_law_m", "_law_text", "_law_wide", "_law_most"] sp_grown := (ok_grown T).mono (by decide)
  have Fright : HasG P w K mg base CX0 8 "_law_right" ["_law_one", "_law_other", "_law_wide"] sp_right := (ok_right T TL).mono (by decide)
  have F7 : Has P w K mg base (L2.CX P w) 6 "least_later" ["one", "other", "size"] (sp_least_later K) := (ok_least_later T TL).mono (by decide)
  have F7b : Has P w K mg base (L2.CX P w) 8 "least_later" ["one", "other", "size"] (sp_least_later K) := (ok_least_later T TL).mono (by decide)
  have F8 : Has P w K mg base CX0 6 "copies_apart" ["one", "other", "size"] sp_copies_apart := (ok_copies_apart T).mono (by decide)
  have F8b : Has P w K mg base CX0 8 "copies_apart" ["one", "other", "size"] sp_copies_apart := (ok_copies_apart T).mono (by decide)
  have Fge : Has P w K mg base CX0 8 "greatest_elder" ["one", "other", "size"] sp_greatest_elder := (ok_greatest_elder T).mono (by decide)
  have Fsb : Has P w K mg base CX0 8 "stands_between" ["text", "later", "elder", "size"] sp_stands_between := (ok_stands_between T).mono (by decide)
  have Fkin : Has P w K mg base CX0 8 "are_kin" ["one", "other", "size"] sp_are_kin := (ok_are_kin T).mono (by decide)
  have gT : mg "_law_told" = some (.ref (He.ga K "_law_told")) := T.glo 36 rfl
  obtain ⟨fdT, FT0⟩ := T.says.def_ 36 (d := d_l_told) rfl
  have FT : FunD K "_law_told" "_law_told" (defArgs s_l_told) (defBody s_l_told) (defScope s_l_told) [] [] (He.ga K "_law_told") fdT := FT0
  have kpT := FT.kp
  obtain ⟨ocT, odT, dVT, kVT, docT, pmT, anT, cdT, ctT, oslT, rfl, lkT, hcT, hvT, _⟩ := FT.ex
  rcases hvT with ⟨_, rfl⟩ | ⟨hn, _⟩
  rotate_left
  · exact absurd rfl hn
  have bT : L2.Binds K (PySem.W.fnOf "_law_told" "_law_told" (defArgs s_l_told) (defBody s_l_told) (defScope s_l_told) .none kVT docT pmT anT cdT ctT) ["_law_call"] [] := .all fun us hl => match us, hl with | [_], _ => rfl
  obtain ⟨oc, od, dV, kV, doc, pm, an, cdv, ct, osl, rfl, lk, hcd, hv, _⟩ := F.ex
  rcases hv with ⟨_, rfl⟩ | ⟨hn, _⟩
  rotate_left
  · exact absurd rfl hn
  obtain ⟨c, rfl⟩ := He.codeIn_ref hcd
  have ec : He.codeOf K ("law", none) = c := He.codeOf_eq lk rfl
  refine ⟨fun vs H Q E h => ?_, fun A outer s H args us vs Q E hr hgd e0 hbd r h => LamX.run_ofS lk hcd sc_law hr e0 hbd r ?_ fun hr => ?_⟩
  · obtain ⟨S, ns, rfl, _⟩ := h
    rfl
  · obtain ⟨S, ns, rfl, _⟩ := h
    rfl
  obtain ⟨S, ns, rfl, hS, hn, hP, k⟩ := h
  have TB : TabB base mg c (He.cT K ("law", none)).2 := by
    have := TB0
    rwa [show (He.cT K ("law", none)).1 = c from ec] at this
  clear TB0
  generalize (He.cT K ("law", none)).2 = Pt at TB hP
  have mT : (Pt, ("law.<locals>.<lambda>" : Str)) ∈ [(Pt, ("law.<locals>.<lambda>" : Str))] := List.mem_singleton.mpr rfl
  have uT : ∀ p ∈ [(Pt, ("law.<locals>.<lambda>" : Str))], p.1 = Pt → p.2 = ("law.<locals>.<lambda>" : Str) := fun p hp _ => by rw [List.mem_singleton.mp hp]
  have hg2 : (A.deeper (envOfC "law" (defScope s_law) s.heap.objs.size (He.ga K "law") (.ref c))).guards = some [] := hgd
  refine ⟨_, PSs.nox (pss_cons (ps_set (i := 1) sc_law.nd rfl (Or.inl rfl) (pe_h Fbegun hr pass0 (pa_cons (pv 0) pa_nil)))
      (pss_cons (ps_for PassesOwn.never rfl (pi_range1 (by rfl) T.f_range (pa_cons pe_int pa_nil)) (pg_name (i := 2) sc_law.nd rfl (Or.inl rfl))
      (pss_cons (ps_set (i := 3) sc_law.nd rfl (Or.inl rfl) (pe_op op_add pe_int (pe_h Fdraw hr pass0 (pa_cons (pv 1) (pa_cons pe_int pa_nil)))))
      (pss_cons (ps_set (i := 4) sc_law.nd rfl (Or.inl rfl) (pe_h Fbare hr pass0 (pa_cons (pe_h Ftext hr pass0 (pa_cons (pv 1) (pa_cons (pe_op op_add pe_int (pe_h Fdraw hr pass0 (pa_cons (pv 1) (pa_cons pe_int pa_nil)))) (pa_cons pe_int pa_nil)))) (pa_cons (pv 3) pa_nil))))
      (pss_cons (ps_asg (pe_tup (pa_cons (pe_h Fgrown hr pass0 (pa_cons (pv 1) (pa_cons (pv 4) (pa_cons (pv 3) (pa_cons pe_int pa_nil))))) (pa_cons (pe_h Fgrown hr pass0 (pa_cons (pv 1) (pa_cons (pv 4) (pa_cons (pv 3) (pa_cons pe_int pa_nil))))) pa_nil))) (pg_tup rfl (pgs_cons (pg_name (i := 6) sc_law.nd rfl (Or.inr rfl)) (pgs_cons (pg_name (i := 7) sc_law.nd rfl (Or.inr rfl)) pgs_nil))))
      (pss_cons (ps_if (pt_cmpR op_eq (pe_h Fdraw hr pass0 (pa_cons (pv 1) (pa_cons pe_int pa_nil))) pe_int (nomark _)) (pss_one (ps_set (i := 7) sc_law.nd rfl (Or.inr rfl) (pe_h Ftext hr pass0 (pa_cons (pv 1) (pa_cons pe_int (pa_cons pe_int pa_nil)))))) pss_nil)
      (pss_one (ps_if (PW.pt (pw_or (pt_not (pt_val (pe_hG Fright hr hg2 pass0 (pa_cons (pv 6) (pa_cons (pv 7) (pa_cons (pv 3) pa_nil)))))) (pw_or1 (pt_not (pt_val (pe_hG Fright hr hg2 pass0 (pa_cons (pv 7) (pa_cons (pv 6) (pa_cons (pv 3) pa_nil))))))))) (pss_one (ps_ret pe_bl)) pss_nil)))))))
      (pss_cons (ps_asg (pe_tup (pa_cons (pe_op op_add_str (pe_op op_mulS pe_str pe_int) pe_str) (pa_cons (pe_op op_add_str pe_str (pe_op op_mulS pe_str pe_int)) pa_nil))) (pg_tup rfl (pgs_cons (pg_name (i := 6) sc_law.nd rfl (Or.inr rfl)) (pgs_cons (pg_name (i := 7) sc_law.nd rfl (Or.inr rfl)) pgs_nil))))
      (pss_cons (ps_set (i := 5) sc_law.nd rfl (Or.inl rfl) (pe_lst (pa_cons (LamX.pe_lamcall (T := [(Pt, ("law.<locals>.<lambda>" : Str))]) (TT := TTol K) (k := 6) (Ng := N_l_told) (t := fun E => tCall (sp_least_later K) [] E (tCons (tVar 6) (tCons (tVar 7) (tCons (tC (.int 1)) tNil)))) rfl gT kpT lkT hcT bT sc_l_told rfl (Or.inl rfl) (told_gives T B rfl rfl _ _ _)
        TB rfl mT uT (hr.mono (by decide)) (LamX.lamS_by (show LamX.lamSB (defScope s_law) _ = true from by decide +kernel)) rfl (fun _ _ _ _ _ => rfl) (fun A outer s H E f c' hr2 => pe_h F7 hr2 (passes_call (takes_of rfl rfl rfl rfl) fun _ _ _ _ h => h) (pa_cons (pv 6) (pa_cons (pv 7) (pa_cons pe_int pa_nil))))) (pa_cons (pe_lamD (T := [(Pt, ("law.<locals>.<lambda>" : Str))]) (TT := TTol K) (k := 6) (y := "_law_y") (z := 0) (Ng := N_l_told) (t := fun E => tCall sp_copies_apart [] E (tCons (tVar 6) (tCons (tVar 7) (tCons (tC (.int 1)) tNil)))) rfl gT kpT lkT hcT bT sc_l_told rfl (Or.inl rfl) (told_gives T B rfl rfl _ _ _)
        TB rfl mT uT (hr.mono (by decide)) (lamD_by (show lamDB (defScope s_law) _ N_law "_law_y" = true from by decide +kernel)) rfl (fun _ _ _ _ _ _ _ => ⟨_, rfl, rfl⟩) (fun A outer s H E f c' hr2 => pe_h F8 hr2 pass0 (pa_cons (pv 6) (pa_cons (pv 7) (pa_cons pe_int pa_nil))))) pa_nil))))
      (pss_cons (ps_if (PW.pt (pw_or (pt_cmpR (op_neD hr.units) (pv 5) (pe_lst (pa_cons (pe_tup (pa_cons pe_str (pa_cons pe_int pa_nil))) (pa_cons (pe_lst (pa_cons (pe_tup (pa_cons pe_int (pa_cons pe_int pa_nil))) pa_nil)) pa_nil))) (nomark _)) (pw_or1 (pt_cmpR op_ne (pe_h Fge hr pass0 (pa_cons (pv 6) (pa_cons (pv 7) (pa_cons pe_int pa_nil)))) pe_str (nomark _))))) (pss_one (ps_ret pe_bl)) pss_nil)
      (pss_cons (ps_set (i := 5) sc_law.nd rfl (Or.inl rfl) (pe_lst (pa_cons (pe_h Fsb hr pass0 (pa_cons pe_str (pa_cons pe_str (pa_cons pe_str (pa_cons pe_int pa_nil))))) (pa_cons (pe_h Fsb hr pass0 (pa_cons pe_str (pa_cons pe_str (pa_cons pe_str (pa_cons pe_int pa_nil))))) pa_nil))))
      (pss_cons (ps_expr (pe_bm PySem.F.plainAttrs_list PySem.F.slot_list_append PySem.F.type_list_append mt_append (pv 5) (pa_cons (pe_h Fsb hr pass0 (pa_cons pe_str (pa_cons pe_str (pa_cons pe_str (pa_cons pe_int pa_nil))))) pa_nil)))
      (pss_cons (ps_if (PW.pt (pw_or (pt_cmpR (op_neD hr.units) (pv 5) (pe_lst (pa_cons pe_bl (pa_cons pe_bl (pa_cons pe_bl pa_nil)))) (nomark _)) (pw_or1 (pt_cmpR op_ne (pe_h F7b hr passL (pa_cons (pe_op op_add_str (pe_op op_mulS pe_str pe_int) pe_str) (pa_cons (pe_op op_add_str pe_str (pe_op op_mulS pe_str pe_int)) (pa_cons pe_int pa_nil)))) (pe_op op_add_str (pe_op op_mulS pe_str pe_int) (pe_op op_mulS pe_str pe_int)) (nomark _))))) (pss_one (ps_ret pe_bl)) pss_nil)
      (pss_cons (ps_set (i := 5) sc_law.nd rfl (Or.inl rfl) (pe_lst (pa_cons (pe_h F7b hr passL (pa_cons (pe_op op_mulS pe_str pe_int) (pa_cons (pe_op op_mulS pe_str pe_int) (pa_cons pe_int pa_nil)))) (pa_cons (pe_h Fge hr pass0 (pa_cons (pe_op op_mulS pe_str pe_int) (pa_cons (pe_op op_mulS pe_str pe_int) (pa_cons pe_int pa_nil)))) pa_nil))))
      (pss_cons (ps_expr (pe_bm PySem.F.plainAttrs_list PySem.F.slot_list_append PySem.F.type_list_append mt_append (pv 5) (pa_cons (pe_h F8b hr pass0 (pa_cons (pe_op op_mulS pe_str pe_int) (pa_cons (pe_op op_mulS pe_str pe_int) (pa_cons pe_int pa_nil)))) pa_nil)))
      (pss_cons (ps_if (PW.pt (pw_or (pt_cmpR (op_neD hr.units) (pv 5) (pe_lst (pa_cons (pe_op op_mulS pe_str pe_int) (pa_cons (pe_op op_mulS pe_str pe_int) (pa_cons (pe_tup (pa_cons pe_int (pa_cons pe_int pa_nil))) pa_nil)))) (nomark _)) (pw_or (pt_val (pe_h Fkin hr pass0 (pa_cons (pe_op op_mulS pe_str pe_int) (pa_cons (pe_op op_mulS pe_str pe_int) (pa_cons pe_int pa_nil))))) (pw_or1 (pt_not (pt_val (pe_h Fkin hr pass0 (pa_cons (pe_op op_mulS pe_str pe_int) (pa_cons (pe_op op_mulS pe_str pe_int) (pa_cons pe_int pa_nil)))))))))) (pss_one (ps_ret pe_bl)) pss_nil)
      (pss_one (ps_ret (pe_and (pe_cmpR op_eq (pe_h F7b hr passL (pa_cons pe_str (pa_cons pe_str (pa_cons pe_int pa_nil)))) pe_str (nomark _)) (pe_one (pe_cmpR op_eq (pe_h Fge hr pass0 (pa_cons pe_str (pa_cons pe_str (pa_cons pe_int pa_nil)))) pe_str (nomark _))))))))))))))))), ?_⟩
  refine ⟨.ref S, rfl, S, ns, rfl, hS, by omega, fun M C G H0 e0 d0 => ?_⟩
  have t0 : Tabs [(Pt, ("law.<locals>.<lambda>" : Str))] H0 := fun p hp => by
    rw [List.mem_singleton.mp hp]
    exact (TabS.nil hP).ext e0
  dsimp only
  refine q_forR1 (n := 5) (ea_1 (ev_c (v := .int 5))) (by decide) (fun i σ' H' => ∃ y2 y3 y4 y6 y7 n', σ' = [some (.ref S), some (.ref M), y2, y3, y4, none, y6, y7] ∧ n' ≤ 300 * i ∧ Dr M C G n' H' ∧ Tabs [(Pt, ("law.<locals>.<lambda>" : Str))] H')
    (fun H1 e1 => ⟨_, _, _, _, _, 0, rfl, by omega, d0.ex e1, t0.ext e1⟩) (fun i σ' H1 hi h => ?_) fun σ' H1 h => ?_
  · obtain ⟨y2, y3, y4, y6, y7, n, rfl, hn', d1, t1⟩ := h
    have hi : i < 5 := by omega
    refine td_draw (L := 4) d1 (by omega) rfl (ev_c (v := .int 4)) (by decide) (by decide) fun r H2 hr4 f2 d2 => ⟨1, (r : Int), rfl, rfl, ?_⟩
    have t2 := tabs_fr t1 d1 f2
    obtain ⟨wd, ew⟩ : ∃ wd : Nat, wd = 1 + r := ⟨_, rfl⟩
    dsimp only
    rw [show (1 : Int) + (r : Int) = (wd : Int) by omega]
    refine ⟨.ref M, rfl, td_draw (L := 3) d2 (by omega) rfl (ev_c (v := .int 3)) (by decide) (by decide) fun r2 H3 hr3 f3 d3 => ⟨1, (r2 : Int), rfl, rfl, ?_⟩⟩
    have t3 := tabs_fr t2 d2 f3
    refine ⟨M, C, G, n + 1 + 1, 1 + r2, 6, by dsimp only; rw [show (1 : Int) + (r2 : Int) = ((1 + r2 : Nat) : Int) by omega]; rfl, d3, by omega, by omega, by omega, by omega, fun l n4 H4 ol hl hn4 f4 d4 => ?_⟩
    have t4 := tabs_fr t3 d3 f4
    refine ⟨nt wd, rfl, l, wd, rfl, ol, by omega, by omega, by omega, fun H5 e5 => ?_⟩
    have t5 := t4.ext e5
    have d5 := d4.ex e5
    have hrl := root_le (n := wd) (by omega) ol
    have orl := root_ok (w := wd) ol
    refine ⟨.ref M, rfl, tx (root wd l), rfl, nt wd, rfl, M, C, G, n4, root wd l, wd, 11, rfl, d5, by omega, orl, by omega, by omega, fun a n6 H6 oa la hn6 f6 d6 => ?_⟩
    have t6 := tabs_fr t5 d5 f6
    refine ⟨.ref M, rfl, tx (root wd l), rfl, nt wd, rfl, M, C, G, n6, root wd l, wd, 11, rfl, d6, by omega, orl, by omega, by omega, fun b n7 H7 ob lb hn7 f7 d7 => ?_⟩
    have t7 := tabs_fr t6 d6 f7
    refine ⟨by show 2 ≤ sizeLine; decide, fun p np => ⟨p, _, rfl, st_of upd_same, rfl, _, _, rfl, _, _, rfl, rfl, ?_⟩⟩
    have e8 : Ex H7 (upd H7 p (.tup [tx a, tx b])) := Ex.new np
    have t8 := t7.ext e8
    have d8 := d7.ex e8
    generalize upd H7 p (.tup [tx a, tx b]) = H8 at t8 d8
    refine td_draw (L := 4) d8 (by omega) rfl (ev_c (v := .int 4)) (by decide) (by decide) fun r9 H9 hr9 f9 d9 => ⟨rfl, _, rfl, ?_⟩
    have t9 := tabs_fr t8 d8 f9
    have last : ∀ (a b : Tx) (n : Nat) (H : Hp), Ok a → Ok b → a.length ≤ 11 → b.length ≤ 11 → n ≤ 300 * (i + 1) → Dr M C G n H → Tabs [(Pt, ("law.<locals>.<lambda>" : Str))] H → ∀ E1 E2 D, D.nx = (fun σ' H' => ∃ y2 y3 y4 y6 y7 n', σ' = [some (.ref S), some (.ref M), y2, y3, y4, none, y6, y7] ∧ n' ≤ 300 * (i + 1) ∧ Dr M C G n' H' ∧ Tabs [(Pt, ("law.<locals>.<lambda>" : Str))] H') →
        tIfS (tOr (tNot (tB (tCall sp_right [] E1 (tCons (tVar 6) (tCons (tVar 7) (tCons (tVar 3) tNil)))))) (tNot (tB (tCall sp_right [] E2 (tCons (tVar 7) (tCons (tVar 6) (tCons (tVar 3) tNil))))))) (tRet (tC (.bl false))) tNext D [some (.ref S), some (.ref M), some (.int i), some (nt wd), some (tx (root wd l)), none, some (tx a), some (tx b)] H := fun a b n H oa ob la lb hn d t E1 E2 D eD =>
      s_when (b := false) (et_or (a := false) (b := false) (et_not (a := true) (et_B (ev_call (ea_3 (ev_var rfl) (ev_var rfl) (ev_var rfl)) fun H3 e3 Q q E => ⟨a, b, wd, rfl, oa, ob, la, lb, by omega, by omega, q⟩))) fun _ => et_not (a := true) (et_B (ev_call (ea_3 (ev_var rfl) (ev_var rfl) (ev_var rfl)) fun H3 e3 Q q E => ⟨b, a, wd, rfl, ob, oa, lb, la, by omega, by omega, q⟩))) (fun hb => by cases hb)
        fun _ H3 e3 => eD ▸ ⟨_, _, _, _, _, n, rfl, hn, d.ex e3, t.ext e3⟩
    by_cases c0 : r9 = 0
    · rw [show decide (V.int (r9 : Int) = V.int 0) = true by rw [c0]; rfl]
      refine iteT ⟨.ref M, rfl, M, C, G, n7 + 1, 2, 8, rfl, d9, by omega, by decide, by decide, by decide, fun b2 n10 H10 ob2 lb2 hn10 f10 d10 => ?_⟩
      exact last a b2 n10 H10 oa ob2 la (by omega) (by omega) d10 (tabs_fr t9 d9 f10) _ _ _ rfl
    · rw [show decide (V.int (r9 : Int) = V.int 0) = false by rw [decide_eq_false_iff_not]; intro z; injection z with z; omega]
      refine iteF ?_
      exact last a b (n7 + 1) H9 oa ob la lb (by omega) d9 t9 _ _ _ rfl
  · obtain ⟨y2, y3, y4, y6, y7, n, rfl, hn', d1, t1⟩ := h
    clear hn' d1 d0 e0 t0 hS hP
    refine q_asg2 (x := tx tA) (y := tx tB1) (ev_catT (ev_mulS (ev_c (v := .str "a")) (ev_c (v := .int 40)) (lits.1 40 (by simp)).1 (lits.1 40 (by simp)).2) (ev_lit str1.2.1) (by decide))
      (ev_catT (ev_lit str1.1) (ev_mulS (ev_c (v := .str "b")) (ev_c (v := .int 40)) (lits.2 40 (by simp)).1 (lits.2 40 (by simp)).2) (by decide)) fun H2 e2 => ?_
    have t2 := t1.ext e2
    clear t1 e2 H1
    refine ⟨t2, fun H3 n3 t3 H4 e4 => ?_⟩
    refine ⟨tx tA, rfl, tx tB1, rfl, tA, tB1, 1, rfl, ok_tA, ok_tB, by decide, by decide, by decide, by decide, fun nk => absurd num1.1 nk, fun _ h => absurd num1.2.1 (by omega), fun _ _ d H5 e5 nd => ⟨rfl, d, nt 60, rfl, upd_same, fun H6 t e6 ht => ?_⟩⟩
    have t6 := t3.ext ((e4.trans e5).trans ((Ex.new nd).trans e6))
    refine ⟨t6, fun H7 n7 t7 H8 e8 => ?_⟩
    have ht8 := e8 _ _ (n7 _ _ ht (fun _ z => by cases z))
    refine ⟨tx tA, rfl, tx tB1, rfl, tA, tB1, 1, rfl, ok_tA, ok_tB, by decide, by decide, by decide, by decide, fun _ p H9 np e9 hp H10 l e10 hl => ?_, fun nk => absurd num1.1 nk⟩
    rw [num1.2.2.2.1, num1.2.2.2.2] at hp
    refine ⟨by show 2 ≤ sizeLine; decide, fun q nq => ?_⟩
    generalize hH : upd H10 q (.lst [.ref t, .ref l]) = H11
    have h11 : H11 q = some (.lst [.ref t, .ref l]) := by rw [← hH]; exact upd_same
    have e11 : Ex H10 H11 := hH ▸ Ex.new nq
    have hDt : ∀ H3, Ex H11 H3 → Dp K H3 (.ref q) dL1 := fun H3 e => by
      have u := e11.trans e
      have ht3 := u _ _ (e10 _ _ (e9 _ _ ht8))
      have hp3 := u _ _ (e10 _ _ hp)
      exact .lst (sq_of (e _ _ h11)) (.cons (.tup (st_of ht3) (.cons (.str _) (.cons (.int 60) .nil))) (.cons (.lst (sq_of (u _ _ hl)) (.cons (.tup (st_of hp3) (.cons (.int 39) (.cons (.int 39) .nil))) .nil)) .nil))
    clear hH h11 e11 hl hp ht8 ht t6 t7 t3 t2 n3 n7
    refine g_go ?_
    dsimp only
    refine q_when (b := false) (et_or (a := false) (b := false) (et_neD (K := K) (b := true) (ed_of (ev_var rfl) hDt) (ed_lst (eds_cons (ed_tup (eds_cons ed_str (eds_cons ed_int eds_nil)) (by decide)) (eds_cons (ed_lst (eds_cons (ed_tup (eds_cons ed_int (eds_cons ed_int eds_nil)) (by decide)) eds_nil) (by decide)) eds_nil)) (by decide)) shp.1 shp.1 same_data.1) fun _ =>
      et_test (ev_is (ev_neT (a := [0, 1]) (b := [0, 1]) (ev_call (ea_3 (ev_var rfl) (ev_var rfl) (ev_c (v := .int 1))) fun H3 e3 Q q E => ⟨tA, tB1, 1, rfl, ok_tA, ok_tB, by decide, by decide, by decide, by decide, by rw [if_pos num1.1, num1.2.2.1]; exact q⟩) (ev_lit str1.2.2.1)) (by decide))) (fun hb => by cases hb) fun _ H12 e12 => ?_
    clear hDt
    refine q_asgL (xs := [.bl false, .bl false]) (el_lst (ea_2 (ev_is (ev_call (ea_cons (ev_lit str1.1) (ea_3 (ev_lit str1.2.1) (ev_lit str1.1) (ev_c (v := .int 1)))) fun H3 e3 Q q E => ⟨[0], [1], [0], 1, rfl, by unfold Ok; decide, by unfold Ok; decide, by unfold Ok; decide, by decide, by decide, by decide, by decide, by decide, q⟩) (by rw [num2.1]))
      (ev_is (ev_call (ea_cons (ev_lit str1.2.2.1) (ea_3 (ev_lit str1.2.2.2.1) (ev_lit str1.2.1) (ev_c (v := .int 1)))) fun H3 e3 Q q E => ⟨[0, 1], [0, 0, 1], [1], 1, rfl, by unfold Ok; decide, by unfold Ok; decide, by unfold Ok; decide, by decide, by decide, by decide, by decide, by decide, q⟩) (by rw [num2.2.1]))) (by decide)) fun l2 H13 nl2 e13 hl2 => ?_
    refine q_app hl2 (ev_var rfl) (ev_is (ev_call (ea_cons (ev_lit str1.2.2.2.1) (ea_3 (ev_lit str1.2.2.2.2.1) (ev_lit str1.2.2.1) (ev_c (v := .int 1)))) fun H3 e3 Q q E => ⟨[0, 0, 1], [0, 0, 1, 1], [0, 1], 1, rfl, by unfold Ok; decide, by unfold Ok; decide, by unfold Ok; decide, by decide, by decide, by decide, by decide, by decide, q⟩) (by rw [num2.2.2])) (by decide) fun H14 e14 => ?_
    generalize hH : upd H14 l2 (.lst ([.bl false, .bl false] ++ [.bl true])) = H15
    have h15 : H15 l2 = some (.lst ([.bl false, .bl false] ++ [.bl true])) := by rw [← hH]; exact upd_same
    refine q_when (b := false) (et_or (a := false) (b := false) (et_neD (K := K) (b := true) (ed_of (d := dL2) (ev_var rfl) fun H3 e => .lst (sq_of (e _ _ h15)) (.cons (.bl _) (.cons (.bl _) (.cons (.bl _) .nil)))) (ed_lst (eds_cons ed_bl (eds_cons ed_bl (eds_cons ed_bl eds_nil))) (by decide)) shp.2.1 shp.2.1 same_data.2.1) fun _ =>
      et_test (ev_is (ev_neT (a := aN 30 ++ bN 30) (b := aN 30 ++ bN 30) (ev_call (z := tx (aN 30 ++ bN 30)) (ea_3 (ev_catT (ev_mulS (ev_c (v := .str "a")) (ev_c (v := .int 30)) (lits.1 30 (by simp)).1 (lits.1 30 (by simp)).2) (ev_lit str1.2.1) (by decide)) (ev_catT (ev_lit str1.1) (ev_mulS (ev_c (v := .str "b")) (ev_c (v := .int 30)) (lits.2 30 (by simp)).1 (lits.2 30 (by simp)).2) (by decide)) (ev_c (v := .int 1))) fun H3 e3 Q q E => ll_go (n := 1) ((ok_aN 30).app ok_l1) (ok_l0.app (ok_bN 30)) (by decide) (by decide) (by decide) (by decide) (by rw [if_pos num3.1, num3.2]) (fun _ => by rw [num3.2]; decide) q)
      (ev_catT (ev_mulS (ev_c (v := .str "a")) (ev_c (v := .int 30)) (lits.1 30 (by simp)).1 (lits.1 30 (by simp)).2) (ev_mulS (ev_c (v := .str "b")) (ev_c (v := .int 30)) (lits.2 30 (by simp)).1 (lits.2 30 (by simp)).2) (by decide))) (by decide))) (fun hb => by cases hb) fun _ H16 e16 => ?_
    refine q_asgL (xs := [tx (aN 18), tx (aN 12)]) (el_lst (ea_2 (ev_call (z := tx (aN 18)) (ea_3 (ev_mulS (ev_c (v := .str "a")) (ev_c (v := .int 12)) (lits.1 12 (by simp)).1 (lits.1 12 (by simp)).2) (ev_mulS (ev_c (v := .str "a")) (ev_c (v := .int 18)) (lits.1 18 (by simp)).1 (lits.1 18 (by simp)).2) (ev_c (v := .int 6))) fun H3 e3 Q q E => ll_go (n := 6) (ok_aN 12) (ok_aN 18) (by decide) (by decide) (by decide) (by decide) (by rw [if_pos num4.1, num4.2.1]) (fun _ => by rw [num4.2.1]; decide) q)
      (ev_call (ea_3 (ev_mulS (ev_c (v := .str "a")) (ev_c (v := .int 12)) (lits.1 12 (by simp)).1 (lits.1 12 (by simp)).2) (ev_mulS (ev_c (v := .str "a")) (ev_c (v := .int 18)) (lits.1 18 (by simp)).1 (lits.1 18 (by simp)).2) (ev_c (v := .int 6))) fun H3 e3 Q q E => ⟨aN 12, aN 18, 6, rfl, ok_aN 12, ok_aN 18, by decide, by decide, by decide, by decide, by rw [if_pos num4.1, num4.2.2.1]; exact q⟩)) (by simp)) fun l3 H17 nl3 e17 hl3 => ?_
    refine q_appU hl3 (ev_var rfl) (eu_call (xs := [.int 1, .int 0]) (ea_3 (ev_mulS (ev_c (v := .str "a")) (ev_c (v := .int 12)) (lits.1 12 (by simp)).1 (lits.1 12 (by simp)).2) (ev_mulS (ev_c (v := .str "a")) (ev_c (v := .int 18)) (lits.1 18 (by simp)).1 (lits.1 18 (by simp)).2) (ev_c (v := .int 6))) fun H3 e3 Q E q => ⟨aN 12, aN 18, 6, rfl, ok_aN 12, ok_aN 18, by decide, by decide, by decide, by decide, fun _ => by rw [num4.2.2.2.1, num4.2.2.2.2]; exact q, fun nk => absurd num4.1 nk⟩) (by simp) fun p3 H18 np3 e18 hp3 => ?_
    generalize hH2 : upd H18 l3 (.lst ([tx (aN 18), tx (aN 12)] ++ [.ref p3])) = H19
    have h19 : H19 l3 = some (.lst ([tx (aN 18), tx (aN 12)] ++ [.ref p3])) := by rw [← hH2]; exact upd_same
    have h20 : H19 p3 = some (.tup [.int 1, .int 0]) := by
      rw [← hH2, upd_ne (fun z => by rw [z, hl3] at np3; cases np3)]
      exact hp3
    refine q_when (b := false) (et_or (a := false) (b := false) (et_neD (K := K) (b := true) (ed_of (d := dL3) (ev_var rfl) fun H3 e => .lst (sq_of (e _ _ h19)) (.cons (.str _) (.cons (.str _) (.cons (.tup (st_of (e _ _ h20)) (.cons (.int 1) (.cons (.int 0) .nil))) .nil))))
      (ed_lst (eds_cons (ed_of (ev_mulS (ev_c (v := .str "a")) (ev_c (v := .int 18)) (lits.1 18 (by simp)).1 (lits.1 18 (by simp)).2) fun _ _ => .str _) (eds_cons (ed_of (ev_mulS (ev_c (v := .str "a")) (ev_c (v := .int 12)) (lits.1 12 (by simp)).1 (lits.1 12 (by simp)).2) fun _ _ => .str _) (eds_cons (ed_tup (eds_cons ed_int (eds_cons ed_int eds_nil)) (by decide)) eds_nil))) (by simp)) shp.2.2 shp.2.2 same_data.2.2) fun _ =>
      et_or (a := false) (b := false) (et_B (ev_is (ev_call (ea_3 (ev_mulS (ev_c (v := .str "a")) (ev_c (v := .int 12)) (lits.1 12 (by simp)).1 (lits.1 12 (by simp)).2) (ev_mulS (ev_c (v := .str "a")) (ev_c (v := .int 17)) (lits.1 17 (by simp)).1 (lits.1 17 (by simp)).2) (ev_c (v := .int 6))) fun H3 e3 Q q E => ⟨aN 12, aN 17, 6, rfl, ok_aN 12, ok_aN 17, by decide, by decide, by decide, by decide, q⟩) (by rw [decide_eq_false num5.1]))) fun _ =>
        et_not (a := true) (et_B (ev_is (ev_call (ea_3 (ev_mulS (ev_c (v := .str "a")) (ev_c (v := .int 11)) (lits.1 11 (by simp)).1 (lits.1 11 (by simp)).2) (ev_mulS (ev_c (v := .str "a")) (ev_c (v := .int 21)) (lits.1 21 (by simp)).1 (lits.1 21 (by simp)).2) (ev_c (v := .int 5))) fun H3 e3 Q q E => ⟨aN 11, aN 21, 5, rfl, ok_aN 11, ok_aN 21, by decide, by decide, by decide, by decide, q⟩) (by rw [decide_eq_true num5.2])))) (fun hb => by cases hb) fun _ H20 e20 => ?_
    refine s_ret (v := .bl true) (ev_is (ev_andV (ev_eqT (a := [0, 0, 1, 1]) (b := [0, 0, 1, 1]) (ev_call (z := tx ([0, 0, 1, 1])) (ea_3 (ev_lit str1.2.2.2.1) (ev_lit str1.2.2.2.2.2) (ev_c (v := .int 1))) fun H3 e3 Q q E => ll_go (n := 1) (by unfold Ok; decide) (by unfold Ok; decide) (by decide) (by decide) (by decide) (by decide) (by rw [if_pos num6.1, num6.2.1]) (fun _ => by rw [num6.2.1]; decide) q) (ev_lit str1.2.2.2.2.1)) fun _ =>
      ev_eqT (a := [0, 1]) (b := [0, 1]) (ev_call (ea_3 (ev_lit str1.2.2.2.1) (ev_lit str1.2.2.2.2.2) (ev_c (v := .int 1))) fun H3 e3 Q q E => ⟨[0, 0, 1], [0, 1, 1], 1, rfl, by unfold Ok; decide, by unfold Ok; decide, by decide, by decide, by decide, by decide, by rw [if_pos num6.1, num6.2.2]; exact q⟩) (ev_lit str1.2.2.1)) (by decide)) fun H21 e21 => k H21
end
end K7

set_option Elab.async false
set_option linter.all false
set_option maxRecDepth 100000
set_option maxHeartbeats 2000000
/-! What the top's run is asked: the defs, TooLong and its __init__, the table of law's code. -/
namespace K7
open PySem PySem.Spec PyProof.Rows L2
open PySem.W (Frag)
abbrev fileK : Str := PySem.Challenge.pw_twicewritten_k07_whole_common.main.file
def optB (a b : Option Bool) : Bool := decide (a = b)
theorem optB_ok {a b : Option Bool} (h : optB a b = true) : a = b := of_decide_eq_true h
def isNone : Value → Bool
  | .none => true
  | _ => false
theorem isNone_ok {v : Value} (h : isNone v = true) : v = .none := by
  cases v with
  | none => rfl
  | _ => cases h
/-- the class's object -/
def clsB (K : Frag) (C : Addr) : Bool := match K.lookup C with
  | some ⟨.type t, _, .cls cd, sl⟩ => decide (t = "type") && (!cd.hasDel && (cd.hasDict && (decide (cd.mro = .ref C :: ovTail) && (match sl.toList with
    | [_, _, _, _, some (.builtin n), _] => decide (n = "OverflowError.__new__")
    | _ => false))))
  | _ => false
theorem clsB_ok {K : Frag} {C : Addr} (h : clsB K C = true) : ∃ nm q N bs sn sub ab col dd k0 k1 k2 k3 k5, K.lookup C = some (excClassObj nm q C N bs ovTail true sn sub ab col dd k0 k1 k2 k3 k5 "OverflowError.__new__") := by
  unfold clsB at h
  split at h
  · rename_i t dd cd sl e
    obtain ⟨h1, u1⟩ := He.ba h
    obtain ⟨h2, u2⟩ := He.ba u1
    obtain ⟨h3, u3⟩ := He.ba u2
    obtain ⟨h4, u4⟩ := He.ba u3
    clear h u1 u2 u3
    obtain ⟨nm, bs, mro, ns, qn, hd, sn, sub, ab, col, del⟩ := cd
    have g1 : t = "type" := of_decide_eq_true h1
    have g4 : mro = .ref C :: ovTail := of_decide_eq_true h4
    have g2 : del = false := by simpa using h2
    have g3 : hd = true := h3
    clear h1 h2 h3 h4
    subst g1 g2 g3 g4
    obtain ⟨l⟩ := sl
    dsimp only at u4
    split at u4
    · rename_i k0 k1 k2 k3 n k5
      have g := of_decide_eq_true u4
      subst g
      exact ⟨nm, qn, ns, bs, sn, sub, ab, col, dd, k0, k1, k2, k3, k5, e⟩
    · cases u4
  · cases h
def cellB (K : Frag) (cc C : Addr) : Bool := match K.lookup cc with
  | some ⟨_, _, .cell (some (.ref D)), _⟩ => decide (D = C)
  | _ => false
def fileB (K : Frag) (c : Addr) : Bool := match K.lookup c with
  | some ⟨_, _, .fields vs, _⟩ => (match (vs[2]? : Option Value) with
    | some (.str f _) => (fileK : Str) == f
    | _ => false)
  | _ => false
/-- the parts of TooLong.__init__'s record that can be weighed -/
def partsB (K : Frag) (C : Addr) (fd : FuncData) : Bool := isNone fd.defaults && (isNone fd.kwdefaults && ((match fd.closure with
  | [(y, cc)] => decide (y = "__class__") && cellB K cc C
  | _ => false) && (match fd.code with
  | .ref c => PySem.W.codeIn K (.ref c) "TooLong.__init__" && fileB K c
  | _ => false)))
abbrev fIn (K : Frag) : Addr := He.fAd K ("TooLong", some "__init__")
def initB (K : Frag) (C : Addr) : Bool := match K.lookup (fIn K) with
  | some ⟨_, _, .func fd, _⟩ => partsB K C fd
  | _ => false
/-- .. and those that cannot -/
abbrev LongV : Type := Option (Str × Str × Arguments × FuncBody × Scope × Addr × Addr)
def longW (K : Frag) : LongV := match K.lookup (fIn K) with
  | some ⟨_, _, .func fd, _⟩ => some (fd.name, fd.qualname, fd.params, fd.body, fd.scope, fd.globals, fd.builtins)
  | _ => none
def longV : LongV := some ("__init__", "TooLong.__init__", defArgs s_longI, .stmts (defBody s_longI), defScope s_longI, mainGlobals, builtinsNs)
theorem init_ok {K : Frag} {C : Addr} (h : initB K C = true) (e : longW K = longV) : ∃ (oc : Value) (od : Option Addr) (doc pm : Value) (an : Option Addr) (ct : Value) (osl : Array (Option Value)) (cda cc : Addr) (ccl cl : Value) (cdd cld : Option Addr) (vs : Array Value) (ccs csl : Array (Option Value)) (file : Str) (tf : Tok),
    K.lookup (fIn K) = some ⟨oc, od, .func (PySem.W.ksFn "__init__" "TooLong.__init__" (defArgs s_longI) (defBody s_longI) (defScope s_longI) .none .none doc pm an (.ref cda) ct cc), osl⟩ ∧ PySem.W.codeIn K (.ref cda) "TooLong.__init__" = true ∧
    K.lookup cda = some ⟨ccl, cdd, .fields vs, ccs⟩ ∧ vs[2]? = some (.str file tf) ∧ ((fileK : Str) == file) = true ∧ K.lookup cc = some ⟨cl, cld, .cell (some (.ref C)), csl⟩ := by
  unfold initB at h
  unfold longW at e
  split at h
  · rename_i oc od fd osl lk
    rw [lk] at e
    dsimp only at e
    obtain ⟨n1, n2, n3, n4, n5, n6, n7, n8, n9, n10, n11, n12, n13, n14, n15⟩ := fd
    unfold longV at e
    simp only [Option.some.injEq, Prod.mk.injEq] at e
    obtain ⟨e1, e2, e3, e4, e5, e6, e7⟩ := e
    subst e1 e2 e3 e4 e5 e6 e7
    unfold partsB at h
    obtain ⟨h1, u1⟩ := He.ba h
    obtain ⟨h2, u2⟩ := He.ba u1
    obtain ⟨h3, h4⟩ := He.ba u2
    clear h u1 u2
    have g1 : n8 = .none := isNone_ok h1
    have g2 : n9 = .none := isNone_ok h2
    dsimp only at h3 h4
    clear h1 h2
    subst g1 g2
    split at h3
    · rename_i y cc
      obtain ⟨h5, h6⟩ := He.ba h3
      have g5 := of_decide_eq_true h5
      clear h5 h3
      subst g5
      split at h4
      · rename_i c
        obtain ⟨h7, h8⟩ := He.ba h4
        unfold cellB at h6
        unfold fileB at h8
        split at h6
        · rename_i cl cld D csl lc
          have g6 := of_decide_eq_true h6
          clear h6
          subst g6
          split at h8
          · rename_i ccl cdd vs ccs lf
            split at h8
            · rename_i f tf lv
              exact ⟨oc, od, _, _, _, _, osl, c, cc, ccl, cl, cdd, cld, vs, ccs, csl, f, tf, lk, h7, lf, lv, h8, lc⟩
            · cases h8
          · cases h8
        · cases h6
      · cases h4
    · cases h3
  · cases h
end K7

set_option Elab.async false
set_option linter.all false
set_option maxRecDepth 100000
set_option maxHeartbeats 2000000
/-! The Hook, and what it gives. -/
namespace K7
open PySem PySem.Spec PyProof.Rows L2
open PySem.W (Frag findIn typeIn keepIn subIn hasDictIn nsIn mroIn exmAny kitOne)
abbrev FactsA (K : Frag) (C f : Addr) : Prop := clsB K C = true ∧ initB K C = true ∧ findIn K (.ref C) "__init__" = some (some (.ref f)) ∧ typeIn K (.ref f) = some (.type "function") ∧ findIn K (.ref C) "__setattr__" = some (some (.builtin "object.__setattr__")) ∧
  findIn K (.ref C) "__getattribute__" = some (some (.builtin "BaseException.__getattribute__")) ∧ findIn K (.ref C) "__getattr__" = some none ∧ findIn K (.ref C) "most" = some none ∧ keepIn K (.ref C) = true ∧ subIn K (.ref C) (.type "BaseException") = some true ∧
  subIn K (.ref C) (.type "OverflowError") = some true ∧ mroIn K C (.ref C) = some true ∧ typeIn K (.ref C) = some (.type "type") ∧ hasDictIn K C = true ∧ nsIn K cStatics "thirdparty.any" = some none ∧ nsIn K mainGlobals "super" = some none
abbrev FactsB (K : Frag) (C : Addr) : Prop := exmAny K (.ref C) [.ref (He.ga K "TwiceError"), .ref C, .ref (He.ga K "TooMany")] = some true ∧ kitOne K (.ref C) (.ref C) = some true ∧ kitOne K (.ref C) (.ref (He.ga K "TooMany")) = some false ∧ kitOne K (.ref C) (.ref (He.ga K "BadLetters")) = some false ∧
  kitOne K (.ref C) (.ref (He.ga K "BadSize")) = some false ∧ kitOne K (.ref C) (.ref (He.ga K "BadPlace")) = some false ∧ kitOne K (.ref C) (.ref (He.ga K "BadNumber")) = some false ∧ kitOne K (.ref C) (.ref (He.ga K "BadPaper")) = some false ∧
  findIn K (.ref C) "__class__" = some (some (.builtin "object.__class__")) ∧ PySem.W.specialIn K (.builtin "object.__class__") "__get__" = some (some (.builtin "getset_descriptor.__get__")) ∧ PySem.W.takesIn K (.builtin "object.__class__") = some true ∧ mroIn K C (.type "object") = some true
def factsB (K : Frag) : Bool := decide (FactsA K (He.ga K "TooLong") (fIn K)) && decide (FactsB K (He.ga K "TooLong"))
theorem told0 {K : Frag} (h : factsB K = true) : ToldT K := by
  obtain ⟨hA, hB⟩ := He.ba h
  obtain ⟨a1, a2, a3, a4, a5, a6, a7, a8, a9, a10, a11, a12, a13, a14, a15, a16⟩ := of_decide_eq_true hA
  obtain ⟨b1, b2, b3, b4, b5, b6, b7, b8, b9, b10, b11, b12⟩ := of_decide_eq_true hB
  exact ⟨b1, b2, b3, b4, b5, b6, b7, b8, ⟨a6, a7, a10, a14, b9, b10, b11, b12⟩, ⟨a6, a7, a10, a14⟩, a8⟩
theorem long0 {K : Frag} {mg : Str → Option Value} {prog : Program} (h : factsB K = true) (e : longW K = longV) (g : mg "TooLong" = some (.ref (He.ga K "TooLong"))) (hf : prog.main.file = fileK) (ht : (prog.main.scope.names.lookup ("super" : Str)).isSome = false) : LongT prog K mg (He.ga K "TooLong") := by
  obtain ⟨hA, _⟩ := He.ba h
  obtain ⟨a1, a2, a3, a4, a5, a6, a7, a8, a9, a10, a11, a12, a13, a14, a15, a16⟩ := of_decide_eq_true hA
  obtain ⟨oc, od, doc, pm, an, ct, osl, cda, cc, ccl, cl, cdd, cld, vs, ccs, csl, file, tf, l1, l2, l3, l4, l5, l6⟩ := init_ok a2 e
  exact ⟨g, clsB_ok a1, a5, a6, a7, a8, a9, a10, a11, a12, a13, a14, a15, a16, ⟨fIn K, oc, od, doc, pm, an, ct, osl, cda, cc, ccl, cl, cdd, cld, vs, ccs, csl, file, tf, a3, a4, l1, l2, l3, l4, by rw [hf]; exact l5, l6⟩, ht⟩
/-! ### the Hook -/
abbrev tabL : List He.Defn := [("law", none)]
def adK (g : Addr → Option Obj) : List Addr := He.asD g 5 ++ [cStatics]
def frK (g : Addr → Option Obj) : Frag := He.frT g (adK g)
abbrev AlK : Type := (He.AlT × Bool) × LongV
def obK (g : Addr → Option Obj) : AlK := ((He.obsT fa fn [] (frK g), factsB (frK g) && He.tabsB g tabL (frK g)), longW (frK g))
def vlK (w : World) : AlK := ((He.valT fn [] w, true), longV)
/-- what is told of the heap h -/
structure SaysK (w : World) (h : Heap) (K : Frag) : Prop where
  defs : He.SaysT fa fn [] w K
  facts : factsB K = true
  long : longW K = longV
  code : PySem.W.codeHdIn K (He.cT K ("law", none)).1 (He.cT K ("law", none)).2 = true
  tab : h.get? (He.cT K ("law", none)).2 = some { cls := .none, data := .fields #[] }
  out : K.lookup (He.cT K ("law", none)).2 = none
theorem saysK_of {w : World} {h : Heap} (e : obK h.get? = vlK w) : SaysK w h (frK h.get?) := by
  unfold obK vlK at e
  simp only [Prod.mk.injEq] at e
  obtain ⟨⟨e1, e2⟩, e3⟩ := e
  obtain ⟨f1, f2⟩ := He.ba e2
  obtain ⟨q1, q2⟩ := He.ba (List.all_eq_true.mp f2 ("law", none) (List.mem_singleton.mpr rfl))
  split at q2
  · rename_i o eo
    have eo2 := eo
    rw [He.emptyTab_eq q2] at eo2
    exact ⟨e1, f1, e3, q1, eo2, He.frT_none eo q2⟩
  · cases q2
abbrev hkK : PySem.W.Hook where
  α := AlK
  obs := fun s => obK s.heap.get?
  val := vlK
  says := fun w h => ∃ K : Frag, K.In h ∧ SaysK w h K
  of := fun _ _ e => ⟨_, He.frT_in, saysK_of e⟩
  keeps := fun _ _ _ ⟨K, x, c⟩ k => ⟨K, PySem.W.Frag.In.keeps x k, ⟨c.defs, c.facts, c.long, c.code, k _ _ c.tab, c.out⟩⟩
def sawK (s : PySem.W.SharedT) : AlK := obK (HandSHeadRun.getT s)
theorem sawK_eq (s : PySem.W.SharedT) : sawK s = hkK.obs s.abs := by
  have e : HandSHeadRun.getT s = s.abs.heap.get? := funext (HandSHeadRun.getT_eq s)
  unfold sawK
  rw [e]
end K7

set_option Elab.async false
set_option linter.all false
set_option maxRecDepth 100000
set_option maxHeartbeats 0
/-! The top's run. -/
namespace K7
open PySem PySem.Spec PyProof.Rows L2
theorem run_top (w : World) : HandSHeadRun.RunEq HR (PySem.W.view HR.prog [61]) hkK sawK 4000 loose w := by
  intro os
  kernel_rfl
end K7

set_option Elab.async false
set_option linter.all false
set_option maxRecDepth 100000
set_option maxHeartbeats 2000000
/-! The law is called from nothing: its script, the one table of its code. -/
namespace K7
open PySem PySem.Spec PyProof.Rows L2 Evl LamX
/-- what is known of the heap from the start: the table at t, the script at a unless the top holds it -/
def firstH (K : PySem.W.Frag) (t a : Addr) (o : Obj) (xs : List V) : Hp := fun b => if b = t then some (.tbl #[]) else if b = a then (match K.lookup a with
  | none => some (.frz o (.lst xs))
  | some _ => none) else none
section
variable {K : PySem.W.Frag} {t a : Addr} {o : Obj} {xs : List V}
theorem first_t : firstH K t a o xs t = some (.tbl #[]) := if_pos rfl
theorem first_a (h : a ≠ t) (n : K.lookup a = none) : firstH K t a o xs a = some (.frz o (.lst xs)) := by
  unfold firstH
  rw [if_neg h, if_pos rfl, n]
theorem first_of {b : Addr} {u : HO} (h : firstH K t a o xs b = some u) : (b = t ∧ u = .tbl #[]) ∨ (b = a ∧ b ≠ t ∧ K.lookup a = none ∧ u = .frz o (.lst xs)) := by
  unfold firstH at h
  split at h
  · exact .inl ⟨‹_›, (Option.some.inj h).symm⟩
  · split at h
    · split at h
      · exact .inr ⟨‹_›, ‹_›, ‹_›, (Option.some.inj h).symm⟩
      · cases h
    · cases h
theorem first_no {b : Addr} (h1 : b ≠ t) (h2 : b = a → K.lookup a ≠ none) : firstH K t a o xs b = none := by
  cases e : firstH K t a o xs b with
  | none => rfl
  | some u =>
    rcases first_of e with ⟨z, _⟩ | ⟨z, _, n, _⟩
    · exact absurd z h1
    · exact absurd n (h2 z)
end
theorem end_call {P : Program} {w : World} {K : PySem.W.Frag} {mg mb : Str → Option Value} {k : Nat} {fa a c t : Addr} {fd : FuncData} {x : Str} {sp : Sp} {s : Shared} {us : List Value} {ns : List Int} (KX : K.In s.heap) (gn : s.heap.Ns mainGlobals mg) (bn : s.heap.Ns builtinsNs mb) (bb : ∀ y : Str, y ≠ "__name__" → mb y = bootBuiltins y) (nl : s.heap.NoLimit) (g0 : s.gens = #[])
    (ht : s.heap.get? t = some { cls := .none, data := .fields #[] }) (nt : K.lookup t = none) (hc : PySem.W.CodeHd s.heap c t) (bm : ∃ (m : Addr) (ob : Obj), mg "__builtins__" = some (.ref m) ∧ m ≠ builtinsNs ∧ s.heap.get? m = some ob ∧ ob.cls = .type "module" ∧ ob.dict = some builtinsNs ∧ ob.data = .plain)
    (ha : s.heap.get? a = some { cls := .type "list", data := .seq us.toArray }) (hi : IntsAre us ns) (hl : ns.length ≤ sizeLine) (room : Room k callerA) (F : ∀ base : Heap, K.In base → base.Ns mainGlobals mg → TabB base mg c t → FnG P w K mg base CX0 k fa fd [x] sp)
    (bnd : ∀ (s : Shared) (u : Value), BindsTo s fd ⟨[u], []⟩ [(x, u)]) (hsp : ∀ H : Hp, H t = some (.tbl #[]) → SqL K H a (ns.map V.int) → sp [.ref a] H (fun v _ => v = .bl true) fun _ _ _ => False) :
    codeAny (model P w) callerA (.call (.ref fa) ⟨[.ref a], []⟩) (fun r s' => r = .ok (.ret (.bool true)) ∧ OldK s.heap s'.heap ∧ s'.os = s.os ∧ AllBare s'.gens) s := by
  have rel := vals_ints hi
  have at_ : a ≠ t := fun z => by
    rw [z, ht] at ha
    cases ha
  generalize eH : firstH K t a { cls := .type "list", data := .seq us.toArray } (ns.map V.int) = H
  have Ht : H t = some (.tbl #[]) := by rw [← eH]; exact first_t
  have Hof : ∀ {b : Addr} {u : HO}, H b = some u → (b = t ∧ u = .tbl #[]) ∨ (b = a ∧ b ≠ t ∧ K.lookup a = none ∧ u = .frz { cls := .type "list", data := .seq us.toArray } (.lst (ns.map V.int))) := fun {b u} h => first_of (by rw [eH]; exact h)
  have Hno : ∀ {b : Addr}, b ≠ t → (b = a → K.lookup a ≠ none) → H b = none := fun {b} h1 h2 => by rw [← eH]; exact first_no h1 h2
  have sq : SqL K H a (ns.map V.int) := by
    cases e : K.lookup a with
    | none => exact .inl (.inr ⟨_, by rw [← eH]; exact first_a at_ e⟩)
    | some o =>
      have z := KX a o e
      rw [ha] at z
      cases z
      exact .inr ⟨_, us.toArray, _, e, rfl, rfl, rfl, by rw [List.size_toArray, hi.length]; exact hl, by simpa using rel⟩
  have hok : HOk P w H s.heap := fun b u h => by
    rcases Hof h with ⟨rfl, rfl⟩ | ⟨rfl, _, _, rfl⟩
    · exact ht
    · exact ⟨ha, by rw [List.length_map]; exact hl, us, _, rel, ha⟩
  clear eH
  -- objects that are neither a list nor an empty table stay in what is hidden from nobody
  have plain : ∀ {b : Addr} {o : Obj}, s.heap.get? b = some o → (∀ vs n, o.data ≠ .seq vs n) → o.data ≠ .fields #[] → (hidT s.heap H).get? b = some o := fun {b o} e n1 n2 => hidT_get e (by
    cases q : H b with
    | none => rfl
    | some u =>
      rcases Hof q with ⟨z, _⟩ | ⟨z, _⟩
      · rw [z, ht] at e
        exact absurd (congrArg Obj.data (Option.some.inj e)).symm n2
      · rw [z, ha] at e
        exact absurd (congrArg Obj.data (Option.some.inj e)).symm (n1 _ _))
  have names : ∀ {b : Addr} {m : Str → Option Value}, s.heap.Ns b m → (hidT s.heap H).Ns b m := fun {b m} ⟨o, es, ep, e, d, r⟩ => ⟨o, es, ep, plain e (fun vs n z => by rw [d] at z; cases z) (fun z => by rw [d] at z; cases z), d, r⟩
  have KB : K.In (hidT s.heap H) := fun b o e => hidT_get (KX b o e) (Hno (fun z => by rw [z, nt] at e; cases e) fun z n => by rw [z, n] at e; cases e)
  have MB : L2.Mod K mg (hidT s.heap H) := ⟨KB, names gn, ⟨mb, names bn, bb⟩, by
    obtain ⟨mc, q1, q2⟩ := nl
    exact ⟨mc, names q1, q2⟩⟩
  have notG : ∀ {b : Addr} {o : Obj}, s.heap.get? b = some o → (∀ es ep, o.data ≠ .dict es ep) → mainGlobals ≠ b := fun {b o} e n z => by
    obtain ⟨o2, es, ep, q1, q2, _⟩ := gn
    rw [z, e] at q1
    cases q1
    exact n _ _ q2
  have TB : TabB (hidT s.heap H) mg c t := by
    obtain ⟨m, ob, b1, b2, b3, b4, b5, b6⟩ := bm
    obtain ⟨o, vs, file, tf, flags, tg, inF, text, tt, q1, q2, q3, q4, q5, q6, q7, q8, q9, q10⟩ := hc
    refine ⟨⟨o, vs, file, tf, flags, tg, inF, text, tt, plain q1 (fun _ _ z => by rw [q3] at z; cases z) (fun z => by rw [q3] at z; cases z; simp at q4), q2, q3, q4, q5, q6, q7, q8, q9, q10⟩, ⟨m, ob, b1, b2, (notG b3 fun _ _ z => by rw [b6] at z; cases z).symm, fun z => ?_, plain b3 (fun _ _ z => by rw [b6] at z; cases z) (fun z => by rw [b6] at z; cases z), b4, b5, b6⟩, notG ht fun _ _ z => by cases z⟩
    rw [z, ht] at b3
    cases b3
    cases b6
  have env : Env0 P w K mg (hidT s.heap H) callerA [] s H := ⟨rfl, MB, fun b o e => of_hidT e, Nat.le_of_eq (hidT_size _ _), trivial, fun b hb => absurd (show b ∈ ([] : List Addr) from hb) (by simp), hok, .of_eq g0⟩
  refine codeAny_mono ((F _ KB (names gn) TB).run callerA [] s H ⟨[.ref a], []⟩ [.ref a] [.ref a] _ _ room rfl env (bnd s (.ref a)) (.cons rfl .nil) (hsp H Ht sq)) fun r s' q => ?_
  cases r with
  | error e => exact False.elim q
  | ok fl =>
    cases fl with
    | next => exact False.elim q
    | brk => exact False.elim q
    | cont => exact False.elim q
    | ret u =>
      obtain ⟨v, H', os, bare, un, hok', ru, qv⟩ := q
      cases (show v = .bl true from qv)
      obtain rfl : u = Value.bool true := ru
      have stay : ∀ b o, b ≠ t → s.heap.get? b = some o → s'.heap.get? b = some o := fun b o nb e => by
        cases q : H b with
        | none => exact un.keep b o e q (fun z => absurd (show b ∈ ([] : List Addr) from z) (by simp)) (by simp)
        | some u =>
          rcases Hof q with ⟨z, _⟩ | ⟨_, _, _, rfl⟩
          · exact absurd z nb
          · obtain ⟨e1, _⟩ := hok b _ q
            obtain ⟨e2, _⟩ := hok' b _ (un.frzs b _ _ q)
            rw [e] at e1
            cases e1
            exact e2
      obtain ⟨more, z⟩ := un.tbls t #[] Ht
      have now : s'.heap.get? t = some { cls := .none, data := .fields (#[] ++ more) } := hok' t _ z
      refine ⟨rfl, ⟨fun b o e => ?_, fun b o e => ?_⟩, os, bare⟩
      · by_cases nb : b = t
        · subst nb
          rw [ht] at e
          cases e
          exact .inr (.inl ⟨(hc.tab ht).isCodeTable, rfl, #[], more, rfl, now⟩)
        · exact .inl (stay b o nb e)
      · by_cases nb : b = t
        · exact ⟨_, by rw [nb]; exact now⟩
        · exact ⟨o, stay b o nb e⟩
end K7

set_option Elab.async false
set_option linter.all false
set_option maxRecDepth 100000
set_option maxHeartbeats 0
/-! The end. -/
namespace K7
open PySem PySem.Spec PyProof.Rows L2 Evl LamX
abbrev LAW : PySem.W.OpenLaw := PySem.Challenge.rw_twicewritten_k07_whole_common
theorem file_ok : LAW.prog.main.file = fileK := by kernel_rfl
theorem super_ok : (LAW.prog.main.scope.names.lookup ("super" : Str)).isSome = false := by kernel_rfl
theorem top_of {K : PySem.W.Frag} {h : Heap} {mg : Str → Option Value} {w : World} (X : K.In h) (G : h.Ns mainGlobals mg) (c : He.SaysT fa fn [] w K) : TopE K mg := ⟨He.SaysT.d c, fun f hf => by
  have e := He.SaysD.facts (He.SaysT.d c) hf
  cases f with
  | glo x => exact He.glo_ok X G e
  | free x => exact He.free_ok X G e
  | int x i => exact He.int_ok X G e
  | str x z => exact He.str_ok X G e
  | _ => trivial⟩
theorem law_kept {w : World} {s : Shared} {K : PySem.W.Frag} {mg mb : Str → Option Value} {f a : Addr} {us : List Value} {ns : List Int} (KX : K.In s.heap) (c : SaysK w s.heap K) (gn : s.heap.Ns mainGlobals mg) (bn : s.heap.Ns builtinsNs mb) (bb : ∀ y : Str, y ≠ "__name__" → mb y = bootBuiltins y) (nl : s.heap.NoLimit) (g0 : s.gens = #[])
    (bm : ∃ (m : Addr) (ob : Obj), mg "__builtins__" = some (.ref m) ∧ m ≠ builtinsNs ∧ s.heap.get? m = some ob ∧ ob.cls = .type "module" ∧ ob.dict = some builtinsNs ∧ ob.data = .plain) (hf : mg "law" = some (.ref f)) (ha : s.heap.get? a = some { cls := .type "list", data := .seq us.toArray }) (hi : IntsAre us ns) (hl : ns.length ≤ 63) :
    codeAny (model LAW.prog w) callerA (.call (.ref f) ⟨[.ref a], []⟩) (fun r s' => r = .ok (.ret (.bool true)) ∧ OldK s.heap s'.heap ∧ s'.os = s.os ∧ AllBare s'.gens) s := by
  have T : TopE K mg := top_of KX gn c.defs
  have TL : LongT LAW.prog K mg (He.ga K "TooLong") := long0 c.facts c.long (T.glo 42 rfl) file_ok super_ok
  have B : ToldT K := told0 c.facts
  obtain ⟨fd, F0⟩ := T.says.def_ 41 (d := d_law) rfl
  have F : FunD K "law" "law" (defArgs s_law) (defBody s_law) (defScope s_law) [] [] (He.ga K "law") fd := F0
  have b := FunD.bindsA (ps := ["_law_script"]) F fun _ _ _ _ _ _ us hl => match us, hl with | [_], _ => rfl
  cases hf.symm.trans (T.glo (x := "law") 41 rfl)
  exact end_call (k := 9) KX gn bn bb nl g0 c.tab c.out (PySem.W.codeHd_of_K KX c.code) bm ha hi (Nat.le_trans hl (by decide)) ⟨rfl, by decide, by decide⟩ (fun base _ _ TB => ok_law T TL B TB F) (fun s u => b s [u] rfl) fun H hH hS => ⟨a, ns, rfl, hS, hl, hH, fun _ => rfl⟩
end K7
open PySem PySem.W PySem.Calls PyProof.Rows
theorem PySem.Challenge.cw_twicewritten_k07_whole_common_holds : PySem.Challenge.rw_twicewritten_k07_whole_common.Holds := by
  w_on; o_law
  refine HandSHeadRun.head_any (r := OpenLaw.row PySem.Challenge.rw_twicewritten_k07_whole_common) (q := view (OpenLaw.row PySem.Challenge.rw_twicewritten_k07_whole_common).prog [61]) (H := K7.hkK) (ob := K7.sawK) (M := 4000) (loose := K7.loose) (d := HandSHeadRun.topDef (OpenLaw.row PySem.Challenge.rw_twicewritten_k07_whole_common).prog 61) (kwd := []) K7.sawK_eq
    (by kernel_rfl) (fun s => by kernel_rfl) K7.run_top (by kernel_rfl) (by kernel_rfl) (by kernel_rfl) (by rfl) (by first | assumption | decide +kernel) (by decide +kernel) ⟨rfl, rfl, rfl, rfl, rfl, by decide +kernel⟩ ?hw ?hc
  case hw => w_witness2
  case hc =>
    refine Att.attach_callB (l := PySem.Challenge.rw_twicewritten_k07_whole_common) (n := 63) rfl (by kernel_rfl) fun w s₀ s₁ mg mb fa o pm cd doc a vs ns G Y ho hd hcd hmg hobj hints hlen hbits hg => ?_
    obtain ⟨K, KX, c⟩ := Y
    have e : (HandSHeadRun.topDef (OpenLaw.row PySem.Challenge.rw_twicewritten_k07_whole_common).prog 61).name = ("law" : PySem.Str) := by kernel_rfl
    rw [e] at hmg
    exact K7.law_kept KX c G.T.g G.T.b G.T.builtins G.T.nolimit hg G.T.bmain hmg hobj hints hlen
