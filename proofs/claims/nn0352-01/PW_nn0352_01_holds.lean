import PyProof.Rows.All
import Wide.All
import OpenK.AllK
import Wide.FinOn
import PySem.Challenge.RW_nn0352_01
set_option Elab.async false
set_option compiler.extract_closed false
set_option linter.unusedVariables false
set_option linter.unusedSimpArgs false
namespace N352
/-! plain lists -/
def Bs (a b : Nat) : Prop := ∀ i, a.testBit i = true → b.testBit i = true
theorem Bs.rfl' {a : Nat} : Bs a a := fun _ h => h
theorem Bs.tr {a b c : Nat} (x : Bs a b) (y : Bs b c) : Bs a c := fun i h => y i (x i h)
theorem Bs.left {a b : Nat} : Bs a (a ||| b) := fun i h => by simp [h]
theorem Bs.right {a b : Nat} : Bs b (a ||| b) := fun i h => by simp [h]
theorem gset {α : Type} {l : List α} {i j : Nat} {a d : α} : (l.set i a).getD j d = if i = j ∧ i < l.length then a else l.getD j d := by
  simp only [List.getD_eq_getElem?_getD, List.getElem?_set]
  by_cases e : i = j
  · subst e
    by_cases h : i < l.length
    · simp [h]
    · simp [h]
  · simp [e]
theorem gset_ne {α : Type} {l : List α} {i j : Nat} {a d : α} (h : i ≠ j) : (l.set i a).getD j d = l.getD j d := by rw [gset, if_neg (fun q => h q.1)]
theorem gset_eq {α : Type} {l : List α} {i : Nat} {a d : α} (h : i < l.length) : (l.set i a).getD i d = a := by rw [gset, if_pos ⟨rfl, h⟩]
theorem gapp {α : Type} {l m : List α} {p : Nat} {d : α} (h : p < l.length) : (l ++ m).getD p d = l.getD p d := by
  simp only [List.getD_eq_getElem?_getD, List.getElem?_append_left h]
theorem glast {α : Type} {l : List α} {a d : α} : (l ++ [a]).getD l.length d = a := by
  simp [List.getD_eq_getElem?_getD]
theorem gmem {α : Type} {l : List α} {p : Nat} {d : α} (h : p < l.length) : l.getD p d ∈ l := by
  rw [List.getD_eq_getElem?_getD, List.getElem?_eq_getElem h]; exact List.getElem_mem h
theorem gpos {α : Type} {l : List α} {d y : α} (h : y ∈ l) : ∃ p, p < l.length ∧ l.getD p d = y := by
  obtain ⟨p, hp, e⟩ := List.mem_iff_getElem.mp h
  exact ⟨p, hp, by rw [List.getD_eq_getElem?_getD, List.getElem?_eq_getElem hp]; exact e⟩
theorem ginj {α : Type} {l : List α} {p q : Nat} {d : α} (hn : l.Nodup) (hp : p < l.length) (hq : q < l.length) (e : l.getD p d = l.getD q d) : p = q := by
  rw [List.getD_eq_getElem?_getD, List.getElem?_eq_getElem hp, List.getD_eq_getElem?_getD, List.getElem?_eq_getElem hq] at e
  exact (List.getElem_inj hn).mp e
theorem gtake {α : Type} {l : List α} {p k : Nat} {d : α} (h : p < k) : (l.take k).getD p d = l.getD p d := by
  simp only [List.getD_eq_getElem?_getD, List.getElem?_take, if_pos h]
theorem gdef {α : Type} {l : List α} {p : Nat} {d : α} (h : l.length ≤ p) : l.getD p d = d := by
  rw [List.getD_eq_getElem?_getD, List.getElem?_eq_none h]; rfl
theorem nodup_len {n : Nat} : ∀ {l : List Nat}, l.Nodup → (∀ y ∈ l, y < n) → l.length ≤ n := by
  induction n with
  | zero =>
    intro l _ h
    cases l with
    | nil => simp
    | cons a _ => exact absurd (h a (.head _)) (Nat.not_lt_zero _)
  | succ n ih =>
    intro l hn h
    have h1 := ih (l := l.erase n) (hn.erase n) (fun y hy => by
      have := h y (List.mem_of_mem_erase hy)
      have hne : y ≠ n := fun e => by subst e; exact (hn.not_mem_erase) hy
      omega)
    have := List.length_erase (a := n) (l := l)
    split at this <;> omega
theorem pairwise_len {fr : List (Nat × Nat × Nat)} {m : Nat} (h : fr.Pairwise fun f f' => f'.2.1 < f.2.1) (hb : ∀ f ∈ fr, 0 < f.2.1 ∧ f.2.1 ≤ m) : fr.length ≤ m := by
  induction fr generalizing m with
  | nil => simp
  | cons f r ih =>
    rw [List.pairwise_cons] at h
    have h0 := hb f (.head _)
    have := ih (m := f.2.1 - 1) h.2 fun f' hf' => ⟨(hb f' (.tail _ hf')).1, by have := h.1 f' hf'; omega⟩
    simp only [List.length_cons]; omega
/-- set all of these -/
def setAll (c : Nat) (ys : List Nat) (l : List Nat) : List Nat := ys.foldl (fun l y => l.set y c) l
theorem setAll_len {c : Nat} {ys l : List Nat} : (setAll c ys l).length = l.length := by
  induction ys generalizing l with
  | nil => rfl
  | cons y ys ih => show (setAll c ys (l.set y c)).length = _; rw [ih, List.length_set]
theorem setAll_get {c : Nat} {ys l : List Nat} {v : Nat} (hv : v < l.length) : (setAll c ys l).getD v 0 = if v ∈ ys then c else l.getD v 0 := by
  induction ys generalizing l with
  | nil => simp [setAll]
  | cons y ys ih =>
    show (setAll c ys (l.set y c)).getD v 0 = _
    rw [ih (by rw [List.length_set]; exact hv), gset]
    by_cases h1 : v ∈ ys
    · simp [h1]
    · by_cases h2 : y = v
      · subst h2; simp [hv]
      · simp [h1, h2, Ne.symm h2]
/-- a sum over the first n, one place changed -/
theorem sum_change {f g : Nat → Nat} {n x : Nat} (hx : x < n) (h : ∀ v, v ≠ x → g v = f v) : ((List.range n).map f).sum + g x = ((List.range n).map g).sum + f x := by
  induction n with
  | zero => omega
  | succ n ih =>
    rw [List.range_succ, List.map_append, List.map_append, List.sum_append, List.sum_append]
    simp only [List.map_cons, List.map_nil, List.sum_cons, List.sum_nil, Nat.add_zero]
    by_cases e : x = n
    · subst e
      have : (List.range x).map g = (List.range x).map f := List.map_congr_left fun v hv => h v (by rw [List.mem_range] at hv; omega)
      rw [this]; omega
    · have := ih (by omega)
      have := h n (fun q => e q.symm)
      omega
theorem sum_same {f g : Nat → Nat} {n : Nat} (h : ∀ v, v < n → g v = f v) : ((List.range n).map f).sum = ((List.range n).map g).sum := by
  rw [List.map_congr_left fun v hv => h v (List.mem_range.mp hv)]
/-! the plain law of digraph: no program in sight -/

structure TS where
  res : List Nat
  hts : List Nat
  pile : List Nat
  fr : List (Nat × Nat × Nat)

def popR (x d r : Nat) : List Nat → List Nat → List Nat → List Nat × List Nat × List Nat
  | [], hts, res => ([], hts, res)
  | y :: ys, hts, res => if y = x then (ys, hts.set y d, res.set y r) else popR x d r ys (hts.set y d) (res.set y r)

def tstep (rel : List (List Nat)) (n : Nat) (s : TS) : TS :=
  match s.fr with
  | [] => s
  | (x, h, i) :: rest =>
    if i < (rel.getD x []).length then
      if s.hts.getD ((rel.getD x []).getD i 0) 0 = 0 then
        { res := s.res, hts := s.hts.set ((rel.getD x []).getD i 0) (s.pile.length + 1), pile := s.pile ++ [(rel.getD x []).getD i 0], fr := ((rel.getD x []).getD i 0, s.pile.length + 1, 0) :: (x, h, i) :: rest }
      else
        { res := s.res.set x (s.res.getD x 0 ||| s.res.getD ((rel.getD x []).getD i 0) 0)
          hts := if s.hts.getD ((rel.getD x []).getD i 0) 0 < s.hts.getD x 0 then s.hts.set x (s.hts.getD ((rel.getD x []).getD i 0) 0) else s.hts
          pile := s.pile, fr := (x, h, i + 1) :: rest }
    else if s.hts.getD x 0 = h then
      { res := (popR x (n + 1) (s.res.getD x 0) s.pile.reverse s.hts s.res).2.2, hts := (popR x (n + 1) (s.res.getD x 0) s.pile.reverse s.hts s.res).2.1,
        pile := (popR x (n + 1) (s.res.getD x 0) s.pile.reverse s.hts s.res).1.reverse, fr := rest }
    else { res := s.res, hts := s.hts, pile := s.pile, fr := rest }

def tpush (s : TS) (x : Nat) : TS := { res := s.res, hts := s.hts.set x (s.pile.length + 1), pile := s.pile ++ [x], fr := [(x, s.pile.length + 1, 0)] }
def tstart (msk : List Nat) (n : Nat) : TS := { res := msk, hts := List.replicate n 0, pile := [], fr := [] }

structure RelOk (rel : List (List Nat)) (n : Nat) : Prop where
  len : rel.length = n
  small : n ≤ 1000
  rows : ∀ x, (rel.getD x []).length ≤ 1000
  ent : ∀ x i, i < (rel.getD x []).length → (rel.getD x []).getD i 0 < n

structure WF (n : Nat) (s : TS) : Prop where
  res : s.res.length = n
  hts : s.hts.length = n
  pile : s.pile.length ≤ n
  fr : s.fr.length ≤ n
  frx : ∀ f ∈ s.fr, f.1 < n ∧ f.1 ∈ s.pile
  pl : ∀ y ∈ s.pile, y < n

inductive Reach (rel : List (List Nat)) : Nat → Nat → Prop
  | refl (x : Nat) : Reach rel x x
  | step {x y z : Nat} : y ∈ rel.getD x [] → Reach rel y z → Reach rel x z
theorem Reach.tr {rel : List (List Nat)} {x y z : Nat} (a : Reach rel x y) (b : Reach rel y z) : Reach rel x z := by
  induction a with
  | refl => exact b
  | step h _ ih => exact .step h (ih b)
theorem Reach.one {rel : List (List Nat)} {x y : Nat} (h : y ∈ rel.getD x []) : Reach rel x y := .step h (.refl _)

/-! the state by functions: heights H, results R, the pile at p -/
section
variable (rel : List (List Nat)) (msk : List Nat) (n : Nat)
abbrev ou (x j : Nat) : Nat := (rel.getD x []).getD j 0
abbrev on (x : Nat) : Nat := (rel.getD x []).length
def EOk (H R : List Nat) (pile : List Nat) (fr : List (Nat × Nat × Nat)) (p y : Nat) : Prop :=
  (H.getD y 0 = n + 1 ∧ Bs (R.getD y 0) (R.getD (pile.getD p 0) 0)) ∨ (∃ q, q < pile.length ∧ pile.getD q 0 = y ∧ H.getD (pile.getD p 0) 0 ≤ q + 1 ∧ ∀ f ∈ fr, p + 1 < f.2.1 → q + 1 < f.2.1)
def Ab (H R : List Nat) (v z : Nat) : Prop := H.getD z 0 ≤ H.getD v 0 ∧ Bs (R.getD v 0) (R.getD z 0)
def Chn : List (Nat × Nat × Nat) → Prop
  | f :: f' :: r => (f'.2.2 < on rel f'.1 ∧ ou rel f'.1 f'.2.2 = f.1) ∧ Chn (f' :: r)
  | _ => True
structure TJ (H R pile : List Nat) (fr : List (Nat × Nat × Nat)) : Prop where
  lres : R.length = n
  lhts : H.length = n
  lmsk : msk.length = n
  pnd : pile.Nodup
  plt : ∀ y ∈ pile, y < n
  pin : ∀ v, v < n → (v ∈ pile ↔ (H.getD v 0 ≠ 0 ∧ H.getD v 0 ≠ n + 1))
  low : ∀ p, p < pile.length → H.getD (pile.getD p 0) 0 ≤ p + 1 ∧ Reach rel (pile.getD p 0) (pile.getD (H.getD (pile.getD p 0) 0 - 1) 0) ∧ ((∀ f ∈ fr, f.2.1 ≠ p + 1) → H.getD (pile.getD p 0) 0 < p + 1)
  frs : fr.Pairwise fun f f' => f'.2.1 < f.2.1
  frp : ∀ f ∈ fr, 0 < f.2.1 ∧ f.2.1 ≤ pile.length ∧ pile.getD (f.2.1 - 1) 0 = f.1 ∧ f.2.2 ≤ on rel f.1
  bot : fr = [] → pile = []
  bot1 : fr ≠ [] → ∃ f ∈ fr, f.2.1 = 1
  chn : Chn rel fr
  up : ∀ f ∈ fr, ∀ p, f.2.1 ≤ p + 1 → p < pile.length → Reach rel f.1 (pile.getD p 0)
  edg : ∀ p, p < pile.length → ∀ j, j < on rel (pile.getD p 0) → (∀ f ∈ fr, f.2.1 = p + 1 → j < f.2.2) → EOk n H R pile fr p (ou rel (pile.getD p 0) j)
  abs : ∀ p, p < pile.length → (∀ f ∈ fr, f.2.1 ≠ p + 1) → ∀ f ∈ fr, f.2.1 ≤ p → (∀ f' ∈ fr, f'.2.1 ≤ p → f'.2.1 ≤ f.2.1) →
    Ab H R (pile.getD p 0) f.1 ∨ (fr.head? = some f ∧ f.2.2 < on rel f.1 ∧ H.getD (ou rel f.1 f.2.2) 0 ≠ 0 ∧ Ab H R (pile.getD p 0) (ou rel f.1 f.2.2))
  dn : ∀ v, v < n → H.getD v 0 = n + 1 → ∀ j, j < on rel v → H.getD (ou rel v j) 0 = n + 1 ∧ Bs (R.getD (ou rel v j) 0) (R.getD v 0)
  msb : ∀ v, v < n → Bs (msk.getD v 0) (R.getD v 0)
  snd : ∀ v, v < n → ∀ b, (R.getD v 0).testBit b = true → ∃ y, Reach rel v y ∧ (msk.getD y 0).testBit b = true
end
def TInv (rel : List (List Nat)) (msk : List Nat) (n : Nat) (s : TS) : Prop := TJ rel msk n s.hts s.res s.pile s.fr
def tw (rel : List (List Nat)) (H : List Nat) (v : Nat) : Nat := if H.getD v 0 = 0 then on rel v + 2 else 0
def tf (rel : List (List Nat)) (fr : List (Nat × Nat × Nat)) : Nat := (fr.map fun f => on rel f.1 - f.2.2 + 1).sum
def tmu (rel : List (List Nat)) (n : Nat) (s : TS) : Nat := ((List.range n).map (tw rel s.hts)).sum + tf rel s.fr
def TFin (rel : List (List Nat)) (msk res : List Nat) (n : Nat) : Prop := res.length = n ∧ ∀ x, x < n → ∀ b, (res.getD x 0).testBit b = true ↔ ∃ y, Reach rel x y ∧ (msk.getD y 0).testBit b = true

theorem popR_eq (x d r : Nat) (post : List Nat) : ∀ (pre hts res : List Nat), x ∉ pre → popR x d r (pre ++ x :: post) hts res = (post, setAll d (pre ++ [x]) hts, setAll r (pre ++ [x]) res)
  | [], hts, res, _ => by simp [popR, setAll]
  | y :: pre, hts, res, h => by
    have h1 : y ≠ x := fun e => h (e ▸ .head _)
    rw [List.cons_append, popR, if_neg h1, popR_eq x d r post pre _ _ fun q => h (.tail _ q)]
    rfl
theorem pop_pos {pile hts res : List Nat} {x h d r : Nat} (hnd : pile.Nodup) (h0 : 0 < h) (h1 : h ≤ pile.length) (hx : pile.getD (h - 1) 0 = x) :
    ∃ seg : List Nat, popR x d r pile.reverse hts res = ((pile.take (h - 1)).reverse, setAll d seg hts, setAll r seg res) ∧ ∀ v, v ∈ seg ↔ ∃ q, h ≤ q + 1 ∧ q < pile.length ∧ pile.getD q 0 = v := by
  have hlt : h - 1 < pile.length := by omega
  have hxe : pile[h - 1] = x := by rw [← hx, List.getD_eq_getElem?_getD, List.getElem?_eq_getElem hlt]; rfl
  have e : pile = pile.take (h - 1) ++ x :: pile.drop (h - 1 + 1) := by
    rw [← hxe, ← List.drop_eq_getElem_cons hlt, List.take_append_drop]
  have hn2 := hnd
  rw [e, List.nodup_append, List.nodup_cons] at hn2
  have er : pile.reverse = (pile.drop (h - 1 + 1)).reverse ++ x :: (pile.take (h - 1)).reverse := by
    conv => lhs; rw [e]
    simp
  refine ⟨(pile.drop (h - 1 + 1)).reverse ++ [x], ?_, fun v => ?_⟩
  · rw [er]
    exact popR_eq x d r _ _ _ _ (by rw [List.mem_reverse]; exact hn2.2.1.1)
  · rw [List.mem_append, List.mem_reverse, List.mem_singleton]
    constructor
    · rintro (h2 | h2)
      · obtain ⟨k, hk, e2⟩ := List.mem_iff_getElem.mp h2
        rw [List.length_drop] at hk
        refine ⟨h - 1 + 1 + k, by omega, by omega, ?_⟩
        rw [List.getElem_drop] at e2
        rw [List.getD_eq_getElem?_getD, List.getElem?_eq_getElem (by omega)]; exact e2
      · exact ⟨h - 1, by omega, hlt, hx.trans h2.symm⟩
    · rintro ⟨q, q1, q2, q3⟩
      by_cases hq : q = h - 1
      · exact .inr (by rw [← q3, hq, hx])
      · refine .inl (List.mem_iff_getElem.mpr ⟨q - (h - 1 + 1), by rw [List.length_drop]; omega, ?_⟩)
        rw [List.getElem_drop]
        have e3 : h - 1 + 1 + (q - (h - 1 + 1)) = q := by omega
        simp only [e3]
        rw [List.getD_eq_getElem?_getD, List.getElem?_eq_getElem q2] at q3
        exact q3

section
variable {rel : List (List Nat)} {msk : List Nat} {n : Nat} {H R pile : List Nat} {fr rest : List (Nat × Nat × Nat)} {x h i : Nat}
theorem ou_mem {x j : Nat} (hj : j < on rel x) : ou rel x j ∈ rel.getD x [] := gmem hj
theorem TJ.frlt (T : TJ rel msk n H R pile ((x, h, i) :: rest)) : ∀ f ∈ rest, f.2.1 < h := fun f hf => (List.pairwise_cons.mp T.frs).1 f hf
theorem TJ.x_pos (T : TJ rel msk n H R pile ((x, h, i) :: rest)) : 0 < h ∧ h ≤ pile.length ∧ pile.getD (h - 1) 0 = x ∧ i ≤ on rel x := T.frp _ (.head _)
theorem TJ.x_mem (T : TJ rel msk n H R pile ((x, h, i) :: rest)) : x ∈ pile := by
  obtain ⟨a, b, c, _⟩ := T.x_pos
  rw [← c]; exact gmem (by omega)
theorem TJ.Hx (T : TJ rel msk n H R pile ((x, h, i) :: rest)) : x < n ∧ H.getD x 0 ≠ 0 ∧ H.getD x 0 ≠ n + 1 := ⟨T.plt _ T.x_mem, (T.pin _ (T.plt _ T.x_mem)).mp T.x_mem⟩
theorem TJ.pos_ne (T : TJ rel msk n H R pile ((x, h, i) :: rest)) {p : Nat} (hp : p < pile.length) (hne : p + 1 ≠ h) : pile.getD p 0 ≠ x := fun e => by
  obtain ⟨a, b, c, _⟩ := T.x_pos
  have := ginj (d := 0) T.pnd hp (show h - 1 < pile.length by omega) (e.trans c.symm)
  omega
theorem TJ.pos_x (T : TJ rel msk n H R pile ((x, h, i) :: rest)) {p : Nat} (hp : p < pile.length) (e : pile.getD p 0 = x) : p + 1 = h := by
  by_cases q : p + 1 = h
  · exact q
  · exact absurd e (T.pos_ne hp q)
/-- every one of the pile reaches the top frame -/
theorem TJ.all_reach (T : TJ rel msk n H R pile ((x, h, i) :: rest)) : ∀ p, p < pile.length → Reach rel (pile.getD p 0) x := by
  intro p
  induction p using Nat.strongRecOn with
  | _ p ih =>
    intro hp
    by_cases hf : ∃ f ∈ (x, h, i) :: rest, f.2.1 = p + 1
    · obtain ⟨f, hf, e⟩ := hf
      have h1 := T.frp f hf
      have h2 := T.up f hf (h - 1)
      obtain ⟨a, b, c, _⟩ := T.x_pos
      have hle : f.2.1 ≤ h := by
        rcases List.mem_cons.mp hf with rfl | hf
        · exact Nat.le_refl _
        · exact Nat.le_of_lt (T.frlt f hf)
      have h3 := h2 (by omega) (by omega)
      rw [c] at h3
      have : f.2.1 - 1 = p := by omega
      rw [this] at h1
      rw [h1.2.2.1]; exact h3
    · have hf' : ∀ f ∈ (x, h, i) :: rest, f.2.1 ≠ p + 1 := fun f a b => hf ⟨f, a, b⟩
      obtain ⟨l1, l2, l3⟩ := T.low p hp
      have l4 := l3 hf'
      have hm := (T.pin _ (T.plt _ (gmem hp))).mp (gmem (d := 0) hp)
      exact l2.tr (ih _ (by omega) (by omega))
theorem TJ.off_ne (T : TJ rel msk n H R pile ((x, h, i) :: rest)) {v : Nat} (hv : v < n) (h0 : H.getD v 0 = 0) : v ∉ pile := fun m => ((T.pin v hv).mp m).1 h0

/-- a new one is met -/
theorem ti_visit (hr : RelOk rel n) (T : TJ rel msk n H R pile ((x, h, i) :: rest)) (hi : i < on rel x) (h0 : H.getD (ou rel x i) 0 = 0) :
    TJ rel msk n (H.set (ou rel x i) (pile.length + 1)) R (pile ++ [ou rel x i]) ((ou rel x i, pile.length + 1, 0) :: (x, h, i) :: rest) := by
  have hyn : ou rel x i < n := hr.ent x i hi
  have hyp : ou rel x i ∉ pile := T.off_ne hyn h0
  have hxm := T.x_mem
  have hxy : Reach rel x (ou rel x i) := .one (ou_mem hi)
  have hlt := T.frlt
  have hxp := T.x_pos
  have hn := T.lhts
  generalize hy : ou rel x i = y at *
  have hyH : y < H.length := by omega
  have hpl : pile.length < n := by
    have := nodup_len (n := n) (l := pile ++ [y]) (by rw [List.nodup_append]; exact ⟨T.pnd, by simp, fun a ha b hb e => by rw [List.mem_singleton] at hb; subst hb; subst e; exact hyp ha⟩)
      (fun z hz => by rcases List.mem_append.mp hz with hz | hz; exact T.plt z hz; rw [List.mem_singleton] at hz; subst hz; exact hyn)
    rw [List.length_append] at this; exact this
  have pe : ∀ {p}, p < pile.length → (pile ++ [y]).getD p 0 = pile.getD p 0 := fun hp => gapp hp
  have ne : ∀ {p}, p < pile.length → y ≠ pile.getD p 0 := fun hp e => hyp (e ▸ gmem hp)
  have He : ∀ {v}, y ≠ v → (H.set y (pile.length + 1)).getD v 0 = H.getD v 0 := fun h => gset_ne h
  have Hy : (H.set y (pile.length + 1)).getD y 0 = pile.length + 1 := gset_eq hyH
  have plen : (pile ++ [y]).length = pile.length + 1 := by simp
  have frle : ∀ f ∈ (x, h, i) :: rest, f.2.1 ≤ pile.length := fun f hf => (T.frp f hf).2.1
  refine ⟨T.lres, by rw [List.length_set]; exact hn, T.lmsk, ?_, ?_, ?_, ?_, ?_, ?_, by simp, fun _ => ?_, ?_, ?_, ?_, ?_, ?_, T.msb, T.snd⟩
  · rw [List.nodup_append]; exact ⟨T.pnd, by simp, fun a ha b hb e => by rw [List.mem_singleton] at hb; subst hb; subst e; exact hyp ha⟩
  · intro z hz
    rcases List.mem_append.mp hz with hz | hz
    · exact T.plt z hz
    · rw [List.mem_singleton] at hz; subst hz; exact hyn
  · intro v hv
    rw [List.mem_append, List.mem_singleton]
    by_cases e : y = v
    · subst e; rw [Hy]; simp; omega
    · rw [He e, ← T.pin v hv]
      exact ⟨fun q => q.elim id fun q => absurd q.symm e, .inl⟩
  · intro p hp
    rw [plen] at hp
    by_cases e : p = pile.length
    · subst e
      rw [glast, Hy]
      refine ⟨Nat.le_refl _, ?_, fun q => absurd rfl (q _ (.head _))⟩
      rw [Nat.add_sub_cancel, glast]; exact .refl _
    · have hp' : p < pile.length := by omega
      rw [pe hp', He (ne hp')]
      obtain ⟨l1, l2, l3⟩ := T.low p hp'
      refine ⟨l1, ?_, fun q => l3 fun f hf => q f (.tail _ hf)⟩
      rw [pe (by omega)]; exact l2
  · exact List.pairwise_cons.mpr ⟨fun f hf => by have := frle f hf; show f.2.1 < pile.length + 1; omega, T.frs⟩
  · intro f hf
    rcases List.mem_cons.mp hf with rfl | hf
    · refine ⟨by simp, by simp, ?_, Nat.zero_le _⟩
      show (pile ++ [y]).getD (pile.length + 1 - 1) 0 = y
      rw [Nat.add_sub_cancel, glast]
    · obtain ⟨a, b, c, d⟩ := T.frp f hf
      exact ⟨a, by omega, by rw [pe (by omega)]; exact c, d⟩
  · obtain ⟨f, hf, e⟩ := T.bot1 (by simp)
    exact ⟨f, .tail _ hf, e⟩
  · exact ⟨⟨hi, hy⟩, T.chn⟩
  · intro f hf p hp hpl'
    rw [plen] at hpl'
    by_cases e : p = pile.length
    · subst e
      rw [glast]
      rcases List.mem_cons.mp hf with rfl | hf
      · exact .refl _
      · have := T.up f hf (h - 1) (by
          have : f.2.1 ≤ h := by
            rcases List.mem_cons.mp hf with rfl | hf
            · exact Nat.le_refl _
            · exact Nat.le_of_lt (hlt f hf)
          omega) (by omega)
        rw [hxp.2.2.1] at this
        exact this.tr hxy
    · have hp' : p < pile.length := by omega
      rw [pe hp']
      rcases List.mem_cons.mp hf with rfl | hf
      · exact absurd hp (by show ¬ pile.length + 1 ≤ p + 1; omega)
      · exact T.up f hf p hp hp'
  · intro p hp j hj hfj
    rw [plen] at hp
    by_cases e : p = pile.length
    · subst e
      exact absurd (hfj _ (.head _) rfl) (Nat.not_lt_zero _)
    · have hp' : p < pile.length := by omega
      rw [pe hp'] at hj ⊢
      have := T.edg p hp' j hj fun f hf => hfj f (.tail _ hf)
      unfold EOk at *
      rw [pe hp', He (ne hp')]
      rcases this with ⟨a, b⟩ | ⟨q, q1, q2, q3, q4⟩
      · refine .inl ⟨?_, b⟩
        rw [He (fun e => by rw [← e, h0] at a; omega)]; exact a
      · refine .inr ⟨q, by omega, by rw [pe q1]; exact q2, q3, fun f hf hpf => ?_⟩
        rcases List.mem_cons.mp hf with rfl | hf
        · show q + 1 < pile.length + 1; omega
        · exact q4 f hf hpf
  · intro p hp hnf f hf hfp hmax
    rw [plen] at hp
    by_cases e : p = pile.length
    · subst e; exact absurd rfl (hnf _ (.head _))
    · have hp' : p < pile.length := by omega
      rcases List.mem_cons.mp hf with rfl | hf
      · exact absurd hfp (by show ¬ pile.length + 1 ≤ p; omega)
      · have hfx := (T.frp f hf)
        have hfy : y ≠ f.1 := by rw [← hfx.2.2.1]; exact ne (by omega)
        rw [pe hp']
        have := T.abs p hp' (fun f hf => hnf f (.tail _ hf)) f hf hfp (fun f' hf' => hmax f' (.tail _ hf'))
        unfold Ab at *
        rw [He (ne hp'), He hfy]
        rcases this with a | ⟨a, b, c, d⟩
        · exact .inl a
        · simp only [List.head?_cons, Option.some.injEq] at a
          subst a
          exact absurd (by rw [hy]; exact h0) c
  · intro v hv hd j hj
    have hne : y ≠ v := fun e => by subst e; rw [Hy] at hd; omega
    rw [He hne] at hd
    obtain ⟨a, b⟩ := T.dn v hv hd j hj
    refine ⟨?_, b⟩
    rw [He (fun e => by rw [← e, h0] at a; omega)]; exact a

theorem TJ.Hle (T : TJ rel msk n H R pile ((x, h, i) :: rest)) : H.getD x 0 ≤ h := by
  obtain ⟨a, b, c, _⟩ := T.x_pos
  have := (T.low (h - 1) (by omega)).1
  rw [c] at this; omega
theorem TJ.plen (T : TJ rel msk n H R pile fr) : pile.length ≤ n := nodup_len T.pnd T.plt
theorem hts_same (f' : Nat × Nat × Nat → Prop) : True := trivial
/-- the edge is gone along -/
theorem ti_merge {H' R' : List Nat} (hr : RelOk rel n) (T : TJ rel msk n H R pile ((x, h, i) :: rest)) (hi : i < on rel x) (h0 : H.getD (ou rel x i) 0 ≠ 0)
    (hl : H'.length = n) (rl : R'.length = n) (hne : ∀ v, v ≠ x → H'.getD v 0 = H.getD v 0) (rne : ∀ v, v ≠ x → R'.getD v 0 = R.getD v 0)
    (hx : H'.getD x 0 = min (H.getD x 0) (H.getD (ou rel x i) 0)) (rx : R'.getD x 0 = R.getD x 0 ||| R.getD (ou rel x i) 0) :
    TJ rel msk n H' R' pile ((x, h, i + 1) :: rest) := by
  have hyn : ou rel x i < n := hr.ent x i hi
  have hxy : Reach rel x (ou rel x i) := .one (ou_mem hi)
  have hlt := T.frlt
  obtain ⟨xp0, xp1, xp2, xp3⟩ := T.x_pos
  have hxf := T.Hx
  have hHle := T.Hle
  have hpl := T.plen
  have fr1 : ∀ {P : Nat → Prop}, (∀ f ∈ (x, h, i + 1) :: rest, P f.2.1) → ∀ f ∈ (x, h, i) :: rest, P f.2.1 := fun {P} q f hf => by
    rcases List.mem_cons.mp hf with rfl | hf
    · exact q (x, h, i + 1) (.head _)
    · exact q f (.tail _ hf)
  have ypos : ∀ _ : Unit, H.getD (ou rel x i) 0 ≠ n + 1 → ∃ q, q < pile.length ∧ pile.getD q 0 = ou rel x i := fun _ q => gpos ((T.pin _ hyn).mpr ⟨h0, q⟩)
  have dne : ∀ v, H.getD v 0 = n + 1 → v ≠ x := fun v hv e => hxf.2.2 (e ▸ hv)
  have Rsub : ∀ v, Bs (R.getD v 0) (R'.getD v 0) := fun v => by
    by_cases e : v = x
    · subst e; rw [rx]; exact Bs.left
    · rw [rne v e]; exact Bs.rfl'
  refine ⟨rl, hl, T.lmsk, T.pnd, T.plt, ?_, ?_, ?_, ?_, by simp, fun _ => ?_, ?_, ?_, ?_, ?_, ?_, ?_, ?_⟩
  · intro v hv
    by_cases e : v = x
    · subst e
      rw [hx, T.pin v hv]
      constructor <;> rintro ⟨a, b⟩ <;> constructor <;> omega
    · rw [hne v e]; exact T.pin v hv
  · intro p hp
    obtain ⟨l1, l2, l3⟩ := T.low p hp
    by_cases e : pile.getD p 0 = x
    · have hph := T.pos_x hp e
      rw [e] at l1 l2 l3 ⊢
      refine ⟨by rw [hx]; omega, ?_, fun q => absurd hph.symm (q _ (.head _))⟩
      by_cases hc : H.getD (ou rel x i) 0 < H.getD x 0
      · obtain ⟨q, q1, q2⟩ := ypos () (by omega)
        have := (T.low q q1).2.1
        rw [q2] at this
        rw [hx, Nat.min_eq_right (by omega)]
        exact hxy.tr this
      · rw [hx, Nat.min_eq_left (by omega)]; exact l2
    · rw [hne _ e]
      exact ⟨l1, l2, fun q => l3 (fr1 (P := fun k => k ≠ p + 1) q)⟩
  · exact List.pairwise_cons.mpr (List.pairwise_cons.mp T.frs)
  · intro f hf
    rcases List.mem_cons.mp hf with rfl | hf
    · exact ⟨xp0, xp1, xp2, hi⟩
    · exact T.frp f (.tail _ hf)
  · obtain ⟨f, hf, e⟩ := T.bot1 (by simp)
    rcases List.mem_cons.mp hf with rfl | hf
    · exact ⟨_, .head _, e⟩
    · exact ⟨f, .tail _ hf, e⟩
  · have := T.chn
    cases rest with
    | nil => trivial
    | cons f r => exact this
  · intro f hf
    rcases List.mem_cons.mp hf with rfl | hf
    · exact T.up (x, h, i) (.head _)
    · exact T.up f (.tail _ hf)
  · intro p hp j hj hfj
    by_cases e : pile.getD p 0 = x
    · have hph := T.pos_x hp e
      have hji : j < i + 1 := hfj _ (.head _) hph.symm
      rw [e] at hj ⊢
      by_cases hjj : j = i
      · subst hjj
        unfold EOk
        rw [e]
        by_cases hd : H.getD (ou rel x j) 0 = n + 1
        · refine .inl ⟨by rw [hne _ (dne _ hd)]; exact hd, ?_⟩
          rw [rne _ (dne _ hd), rx]; exact Bs.right
        · obtain ⟨q, q1, q2⟩ := ypos () hd
          refine .inr ⟨q, q1, q2, ?_, fun f hf hpf => ?_⟩
          · have := (T.low q q1).1
            rw [q2] at this
            rw [hx]; omega
          · rcases List.mem_cons.mp hf with rfl | hf
            · exact absurd hpf (by show ¬ p + 1 < h; omega)
            · have := hlt f hf; omega
      · have := T.edg p hp j (by rw [e]; exact hj) fun f hf hfp => by
          rcases List.mem_cons.mp hf with rfl | hf
          · show j < i; omega
          · have := hlt f hf; omega
        unfold EOk at *
        rw [e] at this ⊢
        rcases this with ⟨a, b⟩ | ⟨q, q1, q2, q3, q4⟩
        · exact .inl ⟨by rw [hne _ (dne _ a)]; exact a, by rw [rne _ (dne _ a)]; exact b.tr (Rsub x)⟩
        · exact .inr ⟨q, q1, q2, by rw [hx]; omega, fun f hf hpf => by
            rcases List.mem_cons.mp hf with rfl | hf
            · exact absurd hpf (by show ¬ p + 1 < h; omega)
            · have := hlt f hf; omega⟩
    · have := T.edg p hp j hj fun f hf hfp => by
        rcases List.mem_cons.mp hf with rfl | hf
        · exact absurd (by rw [← xp2]; congr 1; have : h = p + 1 := hfp; omega) e
        · exact hfj f (.tail _ hf) hfp
      unfold EOk at *
      rw [hne _ e, rne _ e]
      rcases this with ⟨a, b⟩ | ⟨q, q1, q2, q3, q4⟩
      · exact .inl ⟨by rw [hne _ (dne _ a)]; exact a, by rw [rne _ (dne _ a)]; exact b⟩
      · refine .inr ⟨q, q1, q2, q3, fun f hf hpf => ?_⟩
        rcases List.mem_cons.mp hf with rfl | hf
        · exact q4 (x, h, i) (.head _) hpf
        · exact q4 f (.tail _ hf) hpf
  · intro p hp hnf f hf hfp hmax
    have hvx : pile.getD p 0 ≠ x := T.pos_ne hp (fun q => hnf (x, h, i + 1) (.head _) q.symm)
    have hmax' := fr1 (P := fun k => k ≤ p → k ≤ f.2.1) hmax
    have hnf' := fr1 (P := fun k => k ≠ p + 1) hnf
    rcases List.mem_cons.mp hf with rfl | hf
    · refine .inl ?_
      have := T.abs p hp hnf' (x, h, i) (.head _) hfp hmax'
      unfold Ab at *
      show H'.getD x 0 ≤ _ ∧ Bs _ (R'.getD x 0)
      rw [hne _ hvx, rne _ hvx, hx, rx]
      rcases this with ⟨a, b⟩ | ⟨_, _, _, a, b⟩
      · exact ⟨by dsimp only at a; omega, b.tr Bs.left⟩
      · exact ⟨by dsimp only at a; omega, b.tr Bs.right⟩
    · have h1 := hlt f hf
      have h2 := (T.frp f (.tail _ hf)).1
      have hfx : f.1 ≠ x := by
        rw [← (T.frp f (.tail _ hf)).2.2.1]
        exact T.pos_ne (by omega) (by omega)
      have := T.abs p hp hnf' f (.tail _ hf) hfp hmax'
      unfold Ab at *
      rw [hne _ hvx, rne _ hvx, hne _ hfx, rne _ hfx]
      rcases this with a | ⟨a, _⟩
      · exact .inl a
      · simp only [List.head?_cons, Option.some.injEq] at a
        subst a; exact absurd h1 (Nat.lt_irrefl _)
  · intro v hv hd j hj
    by_cases e : v = x
    · subst e; rw [hx] at hd; omega
    · rw [hne v e] at hd
      obtain ⟨a, b⟩ := T.dn v hv hd j hj
      rw [hne _ (dne _ a), rne _ (dne _ a), rne v e]
      exact ⟨a, b⟩
  · exact fun v hv => (T.msb v hv).tr (Rsub v)
  · intro v hv b hb
    by_cases e : v = x
    · subst e
      rw [rx, Nat.testBit_or, Bool.or_eq_true] at hb
      rcases hb with hb | hb
      · exact T.snd v hv b hb
      · obtain ⟨y, h1, h2⟩ := T.snd _ hyn b hb
        exact ⟨y, hxy.tr h1, h2⟩
    · rw [rne v e] at hb; exact T.snd v hv b hb

theorem TJ.root_of (T : TJ rel msk n H R pile [(x, h, i)]) : H.getD x 0 = h := by
  obtain ⟨f, hf, e⟩ := T.bot1 (by simp)
  rw [List.mem_singleton] at hf
  subst hf
  have h1 := T.Hle
  have h2 := T.Hx.2.1
  have : h = 1 := e
  omega
theorem owner_head {f : Nat × Nat × Nat} {rest : List (Nat × Nat × Nat)} {f₁ : Nat × Nat × Nat} (hs : (f₁ :: rest).Pairwise fun f f' => f'.2.1 < f.2.1) (hf : f ∈ f₁ :: rest) (hle : f₁.2.1 ≤ f.2.1) : f = f₁ := by
  rcases List.mem_cons.mp hf with e | hf
  · exact e
  · have := (List.pairwise_cons.mp hs).1 f hf; omega
/-- its frame is gone, and it stays in the pile -/
theorem ti_popN (T : TJ rel msk n H R pile ((x, h, i) :: rest)) (hi : ¬ i < on rel x) (hne : H.getD x 0 ≠ h) : TJ rel msk n H R pile rest := by
  have hlt := T.frlt
  obtain ⟨xp0, xp1, xp2, xp3⟩ := T.x_pos
  have hxf := T.Hx
  have hHle := T.Hle
  have hfs := (List.pairwise_cons.mp T.frs).2
  cases rest with
  | nil => exact absurd T.root_of hne
  | cons f₁ r =>
  have hch := T.chn
  have hh1 : h ≠ 1 := fun e => by have := hlt f₁ (.head _); have := (T.frp f₁ (.tail _ (.head _))).1; omega
  refine ⟨T.lres, T.lhts, T.lmsk, T.pnd, T.plt, T.pin, ?_, hfs, fun f hf => T.frp f (.tail _ hf), by simp, fun _ => ?_, hch.2, fun f hf => T.up f (.tail _ hf), ?_, ?_, T.dn, T.msb, T.snd⟩
  · intro p hp
    obtain ⟨l1, l2, l3⟩ := T.low p hp
    refine ⟨l1, l2, fun q => ?_⟩
    by_cases e : p + 1 = h
    · have : p = h - 1 := by omega
      rw [this, xp2]; omega
    · exact l3 fun f hf => by
        rcases List.mem_cons.mp hf with rfl | hf
        · exact fun q => e q.symm
        · exact q f hf
  · obtain ⟨f, hf, e⟩ := T.bot1 (by simp)
    rcases List.mem_cons.mp hf with rfl | hf
    · exact absurd e hh1
    · exact ⟨f, hf, e⟩
  · intro p hp j hj hfj
    have : EOk n H R pile ((x, h, i) :: f₁ :: r) p (ou rel (pile.getD p 0) j) := T.edg p hp j hj fun f hf hfp => by
      rcases List.mem_cons.mp hf with rfl | hf
      · have : p = h - 1 := by dsimp only at hfp; omega
        rw [this, xp2] at hj
        show j < i; omega
      · exact hfj f hf hfp
    rcases this with a | ⟨q, q1, q2, q3, q4⟩
    · exact .inl a
    · exact .inr ⟨q, q1, q2, q3, fun f hf => q4 f (.tail _ hf)⟩
  · intro p hp hnf f hf hfp hmax
    by_cases hph : p + 1 < h
    · have := T.abs p hp (fun f' hf' => by
          rcases List.mem_cons.mp hf' with rfl | hf'
          · show h ≠ p + 1; omega
          · exact hnf f' hf') f (.tail _ hf) hfp (fun f' hf' hle => by
          rcases List.mem_cons.mp hf' with rfl | hf'
          · exact absurd hle (by show ¬ h ≤ p; omega)
          · exact hmax f' hf' hle)
      rcases this with a | ⟨a, _⟩
      · exact .inl a
      · simp only [List.head?_cons, Option.some.injEq] at a
        subst a; exact absurd (hlt _ hf) (Nat.lt_irrefl _)
    · have hf1 : f = f₁ := owner_head hfs hf (hmax f₁ (.head _) (by have := hlt f₁ (.head _); omega))
      subst hf1
      refine .inr ⟨rfl, hch.1.1, by rw [hch.1.2]; exact hxf.2.1, ?_⟩
      rw [hch.1.2]
      by_cases e : p + 1 = h
      · have : p = h - 1 := by omega
        rw [this, xp2]; exact ⟨Nat.le_refl _, Bs.rfl'⟩
      · have := T.abs p hp (fun f' hf' => by
          rcases List.mem_cons.mp hf' with rfl | hf'
          · exact fun q => e q.symm
          · exact hnf f' hf') (x, h, i) (.head _) (by show h ≤ p; omega) (fun f' hf' hle => by
          rcases List.mem_cons.mp hf' with rfl | hf'
          · exact Nat.le_refl _
          · exact Nat.le_of_lt (hlt f' hf'))
        rcases this with a | ⟨_, a, _⟩
        · exact a
        · exact absurd a hi

/-- a ring is closed -/
theorem ti_popR {H' R' seg : List Nat} (hr : RelOk rel n) (T : TJ rel msk n H R pile ((x, h, i) :: rest)) (hi : ¬ i < on rel x) (he : H.getD x 0 = h)
    (hl : H'.length = n) (rl : R'.length = n) (hH : ∀ v, v < n → H'.getD v 0 = if v ∈ seg then n + 1 else H.getD v 0) (hR : ∀ v, v < n → R'.getD v 0 = if v ∈ seg then R.getD x 0 else R.getD v 0)
    (hseg : ∀ v, v ∈ seg ↔ ∃ q, h ≤ q + 1 ∧ q < pile.length ∧ pile.getD q 0 = v) : TJ rel msk n H' R' (pile.take (h - 1)) rest := by
  have hlt := T.frlt
  obtain ⟨xp0, xp1, xp2, xp3⟩ := T.x_pos
  have hxf := T.Hx
  have hfs := (List.pairwise_cons.mp T.frs).2
  have tl : (pile.take (h - 1)).length = h - 1 := by rw [List.length_take]; omega
  have pe : ∀ {p}, p < h - 1 → (pile.take (h - 1)).getD p 0 = pile.getD p 0 := fun hp => gtake hp
  have out : ∀ {p}, p < h - 1 → pile.getD p 0 ∉ seg := fun {p} hp hm => by
    obtain ⟨q, q1, q2, q3⟩ := (hseg _).mp hm
    have := ginj (d := 0) T.pnd q2 (by omega) q3
    omega
  have dout : ∀ {v}, v < n → H.getD v 0 = n + 1 → v ∉ seg := fun {v} hv hd hm => by
    obtain ⟨q, q1, q2, q3⟩ := (hseg _).mp hm
    exact ((T.pin v hv).mp (q3 ▸ gmem q2)).2 hd
  have pn : ∀ {p}, p < h - 1 → pile.getD p 0 < n := fun hp => T.plt _ (gmem (by omega))
  have Hp : ∀ {p}, p < h - 1 → H'.getD (pile.getD p 0) 0 = H.getD (pile.getD p 0) 0 := fun hp => by rw [hH _ (pn hp), if_neg (out hp)]
  have Rp : ∀ {p}, p < h - 1 → R'.getD (pile.getD p 0) 0 = R.getD (pile.getD p 0) 0 := fun hp => by rw [hR _ (pn hp), if_neg (out hp)]
  have ab : ∀ q, h ≤ q + 1 → q < pile.length → Ab H R (pile.getD q 0) x := fun q q1 q2 => by
    by_cases e : q + 1 = h
    · have : q = h - 1 := by omega
      rw [this, xp2]; exact ⟨Nat.le_refl _, Bs.rfl'⟩
    · have := T.abs q q2 (fun f' hf' => by
          rcases List.mem_cons.mp hf' with rfl | hf'
          · exact fun q => e q.symm
          · have := hlt f' hf'; omega) (x, h, i) (.head _) (by show h ≤ q; omega) (fun f' hf' hle => by
          rcases List.mem_cons.mp hf' with rfl | hf'
          · exact Nat.le_refl _
          · exact Nat.le_of_lt (hlt f' hf'))
      rcases this with a | ⟨_, a, _⟩
      · exact a
      · exact absurd a hi
  have old : ∀ (P : Nat → Prop), (∀ f ∈ rest, P f.2.1) → P h → ∀ f ∈ (x, h, i) :: rest, P f.2.1 := fun P a b f hf => by
    rcases List.mem_cons.mp hf with rfl | hf
    · exact b
    · exact a f hf
  refine ⟨rl, hl, T.lmsk, T.pnd.sublist (List.take_sublist _ _), fun y hy => T.plt y (List.mem_of_mem_take hy), ?_, ?_, hfs, ?_, ?_, ?_, ?_, ?_, ?_, ?_, ?_, ?_, ?_⟩
  · intro v hv
    rw [hH v hv]
    by_cases hm : v ∈ seg
    · rw [if_pos hm]
      refine ⟨fun hp => ?_, fun q => absurd rfl q.2⟩
      obtain ⟨p, p1, p2⟩ := gpos (d := 0) hp
      rw [tl] at p1
      rw [pe p1] at p2
      exact absurd (p2 ▸ hm) (out p1)
    · rw [if_neg hm, ← T.pin v hv]
      refine ⟨List.mem_of_mem_take, fun hp => ?_⟩
      obtain ⟨p, p1, p2⟩ := gpos (d := 0) hp
      by_cases hlt' : p < h - 1
      · rw [← p2, ← pe hlt']; exact gmem (by omega)
      · exact absurd ((hseg v).mpr ⟨p, by omega, p1, p2⟩) hm
  · intro p hp
    rw [tl] at hp
    rw [pe hp, Hp hp]
    obtain ⟨l1, l2, l3⟩ := T.low p (by omega)
    refine ⟨l1, by rw [pe (by omega)]; exact l2, fun q => l3 (old (fun k => k ≠ p + 1) q (by omega))⟩
  · intro f hf
    obtain ⟨a, b, c, d⟩ := T.frp f (.tail _ hf)
    have := hlt f hf
    exact ⟨a, by rw [tl]; omega, by rw [pe (by omega)]; exact c, d⟩
  · intro hr0
    subst hr0
    have := T.root_of
    obtain ⟨f, hf, e⟩ := T.bot1 (by simp)
    rw [List.mem_singleton] at hf
    subst hf
    have : h = 1 := e
    subst this; simp
  · intro hr0
    obtain ⟨f, hf, e⟩ := T.bot1 (by simp)
    rcases List.mem_cons.mp hf with rfl | hf
    · obtain ⟨f₁, r, rfl⟩ := List.exists_cons_of_ne_nil hr0
      have h1 := hlt f₁ (.head _)
      have h2 := (T.frp f₁ (.tail _ (.head _))).1
      have : h = 1 := e
      omega
    · exact ⟨f, hf, e⟩
  · have := T.chn
    cases rest with
    | nil => trivial
    | cons f r => exact this.2
  · intro f hf p hp hpl
    rw [tl] at hpl
    rw [pe hpl]
    exact T.up f (.tail _ hf) p hp (by omega)
  · intro p hp j hj hfj
    rw [tl] at hp
    rw [pe hp] at hj ⊢
    have := T.edg p (by omega) j hj fun f hf hfp => by
      rcases List.mem_cons.mp hf with rfl | hf
      · exact absurd hfp (by show ¬ h = p + 1; omega)
      · exact hfj f hf hfp
    have hyn := hr.ent _ _ hj
    unfold EOk at *
    rw [pe hp, Hp hp, Rp hp]
    rcases this with ⟨a, b⟩ | ⟨q, q1, q2, q3, q4⟩
    · have := dout hyn a
      refine .inl ⟨?_, ?_⟩
      · rw [hH _ hyn, if_neg this]; exact a
      · rw [hR _ hyn, if_neg this]; exact b
    · have hq := q4 (x, h, i) (.head _) (by show p + 1 < h; omega)
      have hq' : q < h - 1 := by dsimp only at hq; omega
      exact .inr ⟨q, by rw [tl]; exact hq', by rw [pe hq']; exact q2, q3, fun f hf => q4 f (.tail _ hf)⟩
  · intro p hp hnf f hf hfp hmax
    rw [tl] at hp
    have := T.abs p (by omega) (old (fun k => k ≠ p + 1) hnf (by omega)) f (.tail _ hf) hfp (old (fun k => k ≤ p → k ≤ f.2.1) hmax (by omega))
    have hfl := hlt f hf
    have hfx := (T.frp f (.tail _ hf))
    have hf0 : f.2.1 - 1 < h - 1 := by omega
    rcases this with a | ⟨a, _⟩
    · refine .inl ?_
      unfold Ab at *
      rw [pe hp, Hp hp, Rp hp]
      rw [← hfx.2.2.1] at a ⊢
      rw [Hp hf0, Rp hf0]; exact a
    · simp only [List.head?_cons, Option.some.injEq] at a
      subst a; exact absurd hfl (Nat.lt_irrefl _)
  · intro v hv hd j hj
    have hyn := hr.ent _ _ hj
    by_cases hm : v ∈ seg
    · obtain ⟨q, q1, q2, q3⟩ := (hseg v).mp hm
      rw [hR v hv, if_pos hm]
      have hA := ab q q1 q2
      have := T.edg q q2 j (by rw [q3]; exact hj) fun f hf hfp => by
        rcases List.mem_cons.mp hf with rfl | hf
        · have : q = h - 1 := by dsimp only at hfp; omega
          rw [this, xp2] at q3
          subst q3
          show j < i; omega
        · have := hlt f hf; omega
      unfold EOk at this
      unfold Ab at hA
      rw [q3] at this hA
      rcases this with ⟨a, b⟩ | ⟨q', a, b, c, d⟩
      · have := dout hyn a
        rw [hH _ hyn, if_neg this, hR _ hyn, if_neg this]
        exact ⟨a, b.tr hA.2⟩
      · have : ou rel v j ∈ seg := (hseg _).mpr ⟨q', by omega, a, b⟩
        rw [hH _ hyn, if_pos this, hR _ hyn, if_pos this]
        exact ⟨rfl, Bs.rfl'⟩
    · rw [hH v hv, if_neg hm] at hd
      obtain ⟨a, b⟩ := T.dn v hv hd j hj
      have := dout hyn a
      rw [hH _ hyn, if_neg this, hR _ hyn, if_neg this, hR v hv, if_neg hm]
      exact ⟨a, b⟩
  · intro v hv
    rw [hR v hv]
    by_cases hm : v ∈ seg
    · rw [if_pos hm]
      obtain ⟨q, q1, q2, q3⟩ := (hseg v).mp hm
      have := (ab q q1 q2).2
      rw [q3] at this
      exact (T.msb v hv).tr this
    · rw [if_neg hm]; exact T.msb v hv
  · intro v hv b hb
    rw [hR v hv] at hb
    by_cases hm : v ∈ seg
    · rw [if_pos hm] at hb
      obtain ⟨q, q1, q2, q3⟩ := (hseg v).mp hm
      have := T.all_reach q q2
      rw [q3] at this
      obtain ⟨y, h1, h2⟩ := T.snd x hxf.1 b hb
      exact ⟨y, this.tr h1, h2⟩
    · rw [if_neg hm] at hb; exact T.snd v hv b hb
end

section
variable {rel : List (List Nat)} {msk : List Nat} {n : Nat} {s : TS}
theorem tinv_wf (h : TInv rel msk n s) : WF n s where
  res := TJ.lres h
  hts := TJ.lhts h
  pile := TJ.plen h
  fr := pairwise_len (TJ.frs h) fun f hf => ⟨(TJ.frp h f hf).1, Nat.le_trans (TJ.frp h f hf).2.1 (TJ.plen h)⟩
  frx := fun f hf => by
    obtain ⟨a, b, c, _⟩ := TJ.frp h f hf
    have : f.1 ∈ s.pile := by rw [← c]; exact gmem (by omega)
    exact ⟨TJ.plt h _ this, this⟩
  pl := TJ.plt h
theorem rep0 {n v : Nat} : (List.replicate n 0).getD v 0 = 0 := by
  rw [List.getD_eq_getElem?_getD, List.getElem?_replicate]
  split <;> rfl
theorem tinv_start (hr : RelOk rel n) (hm : msk.length = n) : TInv rel msk n (tstart msk n) where
  lres := hm
  lhts := List.length_replicate
  lmsk := hm
  pnd := .nil
  plt := fun y hy => nomatch hy
  pin := fun v hv => by simp only [tstart]; rw [rep0]; simp
  low := fun p hp => absurd hp (Nat.not_lt_zero _)
  frs := .nil
  frp := fun f hf => nomatch hf
  bot := fun _ => rfl
  bot1 := fun q => absurd rfl q
  chn := trivial
  up := fun f hf => nomatch hf
  edg := fun p hp => absurd hp (Nat.not_lt_zero _)
  abs := fun p hp => absurd hp (Nat.not_lt_zero _)
  dn := fun v hv hd => by simp only [tstart] at hd; rw [rep0] at hd; omega
  msb := fun v hv => Bs.rfl'
  snd := fun v hv b hb => ⟨v, .refl _, hb⟩
theorem tinv_push (hr : RelOk rel n) (h : TInv rel msk n s) (hf : s.fr = []) {x : Nat} (hx : x < n) (h0 : s.hts.getD x 0 = 0) : TInv rel msk n (tpush s x) := by
  obtain ⟨R, H, pile, fr⟩ := s
  have T : TJ rel msk n H R pile fr := h
  have hf : fr = [] := hf
  have h0 : H.getD x 0 = 0 := h0
  subst hf
  have hp := T.bot rfl
  subst hp
  have hxl : x < H.length := by rw [T.lhts]; exact hx
  show TJ rel msk n (H.set x 1) R [x] [(x, 1, 0)]
  have He : ∀ {v}, x ≠ v → (H.set x 1).getD v 0 = H.getD v 0 := fun h => gset_ne h
  have p0 : ∀ {p}, p < [x].length → p = 0 := fun hp => by simp at hp; exact hp
  refine ⟨T.lres, by rw [List.length_set]; exact T.lhts, T.lmsk, by simp, fun y hy => by rw [List.mem_singleton] at hy; omega, fun v hv => ?_, fun p hp => ?_, by simp, fun f hf => ?_, by simp, fun _ => ⟨_, .head _, rfl⟩, trivial, fun f hf p hp hpl => ?_, fun p hp j hj hfj => ?_, fun p hp hnf => ?_, fun v hv hd j hj => ?_, T.msb, T.snd⟩
  · by_cases e : x = v
    · subst e; rw [gset_eq hxl]; simp; omega
    · rw [He e, ← T.pin v hv]
      simp [Ne.symm e]
  · obtain rfl := p0 hp
    show (H.set x 1).getD x 0 ≤ 1 ∧ Reach rel x ([x].getD ((H.set x 1).getD x 0 - 1) 0) ∧ _
    rw [gset_eq hxl]
    exact ⟨Nat.le_refl _, .refl _, fun q => absurd rfl (q _ (.head _))⟩
  · rw [List.mem_singleton] at hf; subst hf
    exact ⟨Nat.one_pos, Nat.le_refl _, rfl, Nat.zero_le _⟩
  · rw [List.mem_singleton] at hf; subst hf
    obtain rfl := p0 hpl
    exact .refl _
  · obtain rfl := p0 hp
    exact absurd (hfj _ (.head _) rfl) (Nat.not_lt_zero _)
  · obtain rfl := p0 hp
    exact absurd rfl (hnf _ (.head _))
  · have hne : x ≠ v := fun e => by
      subst e; rw [gset_eq hxl] at hd
      have : n = 0 := by omega
      omega
    rw [He hne] at hd
    obtain ⟨a, b⟩ := T.dn v hv hd j hj
    refine ⟨?_, b⟩
    rw [He (fun e => by rw [← e, h0] at a; omega)]; exact a
theorem tw_set {H : List Nat} {y c v : Nat} (hc : c ≠ 0) (hy : y < H.length) : tw rel (H.set y c) v = if v = y then 0 else tw rel H v := by
  unfold tw
  rw [gset]
  by_cases e : y = v
  · subst e; simp [hy, hc]
  · simp [e, Ne.symm e]
theorem tinv_step (hr : RelOk rel n) (h : TInv rel msk n s) (hf : s.fr ≠ []) : TInv rel msk n (tstep rel n s) ∧ tmu rel n (tstep rel n s) < tmu rel n s := by
  obtain ⟨R, H, pile, fr⟩ := s
  have T : TJ rel msk n H R pile fr := h
  cases fr with
  | nil => exact absurd rfl hf
  | cons f rest =>
  obtain ⟨x, k, i⟩ := f
  have hxf := T.Hx
  have hxl : x < H.length := by rw [T.lhts]; exact hxf.1
  have hxr : x < R.length := by rw [T.lres]; exact hxf.1
  unfold tstep
  dsimp only
  split
  · rename_i hi
    have hyn : ou rel x i < n := hr.ent x i hi
    split
    · rename_i h0
      refine ⟨ti_visit hr T hi h0, ?_⟩
      show ((List.range n).map (tw rel (H.set (ou rel x i) (pile.length + 1)))).sum + (on rel (ou rel x i) - 0 + 1 + tf rel ((x, k, i) :: rest)) < ((List.range n).map (tw rel H)).sum + tf rel ((x, k, i) :: rest)
      have := sum_change (f := tw rel H) (g := tw rel (H.set (ou rel x i) (pile.length + 1))) hyn (fun v hv => by rw [tw_set (by omega) (by rw [T.lhts]; exact hyn), if_neg hv])
      rw [tw_set (by omega) (by rw [T.lhts]; exact hyn), if_pos rfl] at this
      have e : tw rel H (ou rel x i) = on rel (ou rel x i) + 2 := if_pos h0
      omega
    · rename_i h0
      have hT := ti_merge (H' := if H.getD (ou rel x i) 0 < H.getD x 0 then H.set x (H.getD (ou rel x i) 0) else H) (R' := R.set x (R.getD x 0 ||| R.getD (ou rel x i) 0)) hr T hi h0
        (by split <;> simp [T.lhts]) (by simp [T.lres]) (fun v hv => by split; exact gset_ne (Ne.symm hv); rfl) (fun v hv => gset_ne (Ne.symm hv))
        (by split; rw [gset_eq hxl]; omega; omega) (gset_eq hxr)
      refine ⟨hT, ?_⟩
      have e1 : ((List.range n).map (tw rel (if H.getD (ou rel x i) 0 < H.getD x 0 then H.set x (H.getD (ou rel x i) 0) else H))).sum = ((List.range n).map (tw rel H)).sum := by
        refine sum_same fun v hv => ?_
        split
        · rw [tw_set h0 hxl]
          split
          · rename_i e; subst e
            exact if_neg hxf.2.1
          · rfl
        · rfl
      show ((List.range n).map (tw rel (if H.getD (ou rel x i) 0 < H.getD x 0 then H.set x (H.getD (ou rel x i) 0) else H))).sum + (on rel x - (i + 1) + 1 + tf rel rest) < ((List.range n).map (tw rel H)).sum + (on rel x - i + 1 + tf rel rest)
      have : i < on rel x := hi
      omega
  · rename_i hi
    split
    · rename_i he
      obtain ⟨a, b, c, _⟩ := T.x_pos
      obtain ⟨seg, e1, e2⟩ := pop_pos (hts := H) (res := R) (d := n + 1) (r := R.getD x 0) T.pnd a b c
      have segn : ∀ v ∈ seg, v < n ∧ H.getD v 0 ≠ 0 := fun v hv => by
        obtain ⟨q, q1, q2, q3⟩ := (e2 v).mp hv
        have := gmem (d := 0) q2
        rw [q3] at this
        exact ⟨T.plt v this, ((T.pin v (T.plt v this)).mp this).1⟩
      have hT := ti_popR (H' := setAll (n + 1) seg H) (R' := setAll (R.getD x 0) seg R) (seg := seg) hr T hi he (by rw [setAll_len, T.lhts]) (by rw [setAll_len, T.lres])
        (fun v hv => setAll_get (by rw [T.lhts]; exact hv)) (fun v hv => setAll_get (by rw [T.lres]; exact hv)) e2
      rw [e1]
      dsimp only
      rw [List.reverse_reverse]
      refine ⟨hT, ?_⟩
      have e3 : ((List.range n).map (tw rel (setAll (n + 1) seg H))).sum = ((List.range n).map (tw rel H)).sum := by
        refine sum_same fun v hv => ?_
        unfold tw
        rw [setAll_get (by rw [T.lhts]; exact hv)]
        by_cases hm : v ∈ seg
        · rw [if_pos hm, if_neg (segn v hm).2]; exact (if_neg (Nat.succ_ne_zero n)).symm
        · rw [if_neg hm]
      show ((List.range n).map (tw rel (setAll (n + 1) seg H))).sum + tf rel rest < ((List.range n).map (tw rel H)).sum + (on rel x - i + 1 + tf rel rest)
      omega
    · rename_i he
      refine ⟨ti_popN T hi he, ?_⟩
      show ((List.range n).map (tw rel H)).sum + tf rel rest < ((List.range n).map (tw rel H)).sum + (on rel x - i + 1 + tf rel rest)
      omega
theorem tstep_vis (hr : RelOk rel n) (h : TInv rel msk n s) {y : Nat} (hy : s.hts.getD y 0 ≠ 0) : (tstep rel n s).hts.getD y 0 ≠ 0 := by
  obtain ⟨R, H, pile, fr⟩ := s
  have T : TJ rel msk n H R pile fr := h
  have hy : H.getD y 0 ≠ 0 := hy
  have hyn : y < H.length := by
    by_cases q : y < H.length
    · exact q
    · exact absurd (gdef (by omega)) hy
  cases fr with
  | nil => exact hy
  | cons f rest =>
  obtain ⟨x, k, i⟩ := f
  unfold tstep
  dsimp only
  split
  · split
    · dsimp only
      rw [gset]; split <;> omega
    · dsimp only
      split
      · rw [gset]; split <;> omega
      · exact hy
  · split
    · obtain ⟨a, b, c, _⟩ := T.x_pos
      obtain ⟨seg, e1, e2⟩ := pop_pos (hts := H) (res := R) (d := n + 1) (r := R.getD x 0) T.pnd a b c
      rw [e1]
      dsimp only
      rw [setAll_get hyn]
      split <;> omega
    · exact hy
theorem tinv_end (hr : RelOk rel n) (h : TInv rel msk n s) (hf : s.fr = []) (hv : ∀ y, y < n → s.hts.getD y 0 ≠ 0) : TFin rel msk s.res n := by
  obtain ⟨R, H, pile, fr⟩ := s
  have T : TJ rel msk n H R pile fr := h
  have hf : fr = [] := hf
  have hv : ∀ y, y < n → H.getD y 0 ≠ 0 := hv
  subst hf
  have hp := T.bot rfl
  subst hp
  have hd : ∀ v, v < n → H.getD v 0 = n + 1 := fun v hvn => by
    have := T.pin v hvn
    by_cases q : H.getD v 0 = n + 1
    · exact q
    · exact absurd (this.mpr ⟨hv v hvn, q⟩) (by simp)
  refine ⟨T.lres, fun x hx b => ⟨T.snd x hx b, fun ⟨y, hy, hb⟩ => ?_⟩⟩
  have key : ∀ {x y}, Reach rel x y → x < n → y < n ∧ Bs (R.getD y 0) (R.getD x 0) := fun {x y} q => by
    induction q with
    | refl => exact fun q => ⟨q, Bs.rfl'⟩
    | @step x z y hz _ ih =>
      intro hx
      obtain ⟨j, j1, j2⟩ := gpos (d := 0) hz
      have := hr.ent x j j1
      rw [j2] at this
      have h2 := (T.dn x hx (hd x hx) j j1).2
      have j2' : ou rel x j = z := j2
      rw [j2'] at h2
      obtain ⟨a, b⟩ := ih this
      exact ⟨a, b.tr h2⟩
  obtain ⟨k1, k2⟩ := key hy hx
  exact k2 b (T.msb y k1 b hb)
end
/-! the plain law of levels and of chains -/
/-- x is reached from one of B by a way of k edges -/
inductive RD (rel : List (List Nat)) (B : List Nat) : Nat → Nat → Prop
  | base {x : Nat} : x ∈ B → RD rel B 0 x
  | step {k z y : Nat} : RD rel B k z → y ∈ rel.getD z [] → RD rel B (k + 1) y
theorem RD.zero {rel : List (List Nat)} {B : List Nat} {x : Nat} (h : RD rel B 0 x) : x ∈ B := by cases h; assumption
theorem RD.succ {rel : List (List Nat)} {B : List Nat} {k y : Nat} (h : RD rel B (k + 1) y) : ∃ z, RD rel B k z ∧ y ∈ rel.getD z [] := by
  cases h with
  | step a b => exact ⟨_, a, b⟩
theorem RelOk.mem {rel : List (List Nat)} {n x y : Nat} (hr : RelOk rel n) (h : y ∈ rel.getD x []) : y < n := by
  obtain ⟨k, hk, e⟩ := gpos (d := 0) h
  have := hr.ent x k hk
  rw [e] at this
  exact this
theorem RD.lt {rel : List (List Nat)} {B : List Nat} {k y n : Nat} (hr : RelOk rel n) (hB : ∀ x ∈ B, x < n) (h : RD rel B k y) : y < n := by
  cases h with
  | base h => exact hB _ h
  | step _ h => exact hr.mem h
theorem Reach.end_ {rel : List (List Nat)} {x y z : Nat} (a : Reach rel x y) (h : z ∈ rel.getD y []) : Reach rel x z := a.tr (.one h)
theorem RD.reach {rel : List (List Nat)} {B : List Nat} {k y : Nat} (h : RD rel B k y) : ∃ b ∈ B, Reach rel b y := by
  induction h with
  | base h => exact ⟨_, h, .refl _⟩
  | step _ h ih =>
    obtain ⟨b, h1, h2⟩ := ih
    exact ⟨b, h1, h2.end_ h⟩
theorem Reach.rd {rel : List (List Nat)} {B : List Nat} {x y : Nat} (h : Reach rel x y) : ∀ {k}, RD rel B k x → ∃ k', RD rel B k' y := by
  induction h with
  | refl => exact fun q => ⟨_, q⟩
  | step h _ ih => exact fun q => ih (q.step h)
theorem rd_iff {rel : List (List Nat)} {B : List Nat} {y : Nat} : (∃ k, RD rel B k y) ↔ ∃ b ∈ B, Reach rel b y :=
  ⟨fun ⟨k, h⟩ => h.reach, fun ⟨b, h1, h2⟩ => h2.rd (.base h1)⟩

/-! levels -/
abbrev ks (f : List (Nat × Nat)) : List Nat := f.map (·.1)
structure LevInv (rel : List (List Nat)) (B : List Nat) (n : Nat) (f : List (Nat × Nat)) (lev : List Nat) (st : Nat) : Prop where
  nd : (ks f).Nodup
  lt : ∀ x ∈ ks f, x < n
  ds : ∀ p ∈ f, p.2 < st ∧ RD rel B p.2 p.1 ∧ ∀ k, RD rel B k p.1 → p.2 ≤ k
  all : ∀ x k, RD rel B k x → k < st → x ∈ ks f
  lvl : ∀ y ∈ lev, RD rel B st y
  now : ∀ y, RD rel B st y → y ∈ lev ∨ y ∈ ks f
structure LIn (rel : List (List Nat)) (n st : Nat) (f : List (Nat × Nat)) (pre : List Nat) (f' : List (Nat × Nat)) (lt : List Nat) : Prop where
  new : ∃ nw, f' = f ++ nw ∧ (∀ p ∈ nw, p.2 = st ∧ p.1 ∈ pre) ∧ (∀ y ∈ lt, ∃ p ∈ nw, y ∈ rel.getD p.1 []) ∧ (∀ p ∈ nw, ∀ y ∈ rel.getD p.1 [], y ∈ lt) ∧ lt.length ≤ 1000 * nw.length
  nd : (ks f').Nodup
  lt : ∀ x ∈ ks f', x < n
  pre : ∀ x ∈ pre, x ∈ ks f'
section
variable {rel : List (List Nat)} {B : List Nat} {n st : Nat} {f f' : List (Nat × Nat)} {lev pre lt : List Nat}
theorem LevInv.init (hB : ∀ x ∈ B, x < n) : LevInv rel B n [] B 0 := ⟨.nil, fun x h => (nomatch h), fun p h => (nomatch h), fun x k _ h => absurd h (Nat.not_lt_zero _), fun y h => .base h, fun y h => .inl h.zero⟩
theorem LIn.init (h : LevInv rel B n f lev st) : LIn rel n st f [] f [] :=
  ⟨⟨[], by simp, fun p h => (nomatch h), fun y h => (nomatch h), fun p h => (nomatch h), Nat.zero_le _⟩, h.nd, h.lt, fun x h => (nomatch h)⟩
theorem LIn.len (h : LIn rel n st f pre f' lt) : f'.length ≤ n := by
  have := nodup_len h.nd h.lt
  simpa using this
theorem LIn.skip {x : Nat} (h : LIn rel n st f pre f' lt) (hx : x ∈ ks f') : LIn rel n st f (pre ++ [x]) f' lt := by
  obtain ⟨nw, h1, h2, h3, h4, h5⟩ := h.new
  refine ⟨⟨nw, h1, fun p hp => ⟨(h2 p hp).1, List.mem_append_left _ (h2 p hp).2⟩, h3, h4, h5⟩, h.nd, h.lt, fun y hy => ?_⟩
  rcases List.mem_append.mp hy with hy | hy
  · exact h.pre y hy
  · rw [List.mem_singleton] at hy; subst hy; exact hx
theorem LIn.add {x : Nat} (hr : RelOk rel n) (h : LIn rel n st f pre f' lt) (hx : x ∉ ks f') (hn : x < n) : LIn rel n st f (pre ++ [x]) (f' ++ [(x, st)]) (lt ++ rel.getD x []) := by
  obtain ⟨nw, h1, h2, h3, h4, h5⟩ := h.new
  refine ⟨⟨nw ++ [(x, st)], by rw [h1, List.append_assoc], fun p hp => ?_, fun y hy => ?_, fun p hp y hy => ?_, ?_⟩, ?_, fun y hy => ?_, fun y hy => ?_⟩
  · rcases List.mem_append.mp hp with hp | hp
    · exact ⟨(h2 p hp).1, List.mem_append_left _ (h2 p hp).2⟩
    · rw [List.mem_singleton] at hp; subst hp; exact ⟨rfl, by simp⟩
  · rcases List.mem_append.mp hy with hy | hy
    · obtain ⟨p, a, b⟩ := h3 y hy
      exact ⟨p, List.mem_append_left _ a, b⟩
    · exact ⟨(x, st), by simp, hy⟩
  · rcases List.mem_append.mp hp with hp | hp
    · exact List.mem_append_left _ (h4 p hp y hy)
    · rw [List.mem_singleton] at hp; subst hp; exact List.mem_append_right _ hy
  · have := hr.rows x
    rw [List.length_append, List.length_append, List.length_singleton]
    omega
  · rw [ks, List.map_append, List.nodup_append]
    refine ⟨h.nd, by simp, fun a ha b hb e => ?_⟩
    simp only [List.map_cons, List.map_nil, List.mem_singleton] at hb
    subst hb; subst e; exact hx ha
  · rw [ks, List.map_append] at hy
    rcases List.mem_append.mp hy with hy | hy
    · exact h.lt y hy
    · simp only [List.map_cons, List.map_nil, List.mem_singleton] at hy; omega
  · rw [ks, List.map_append]
    rcases List.mem_append.mp hy with hy | hy
    · exact List.mem_append_left _ (h.pre y hy)
    · rw [List.mem_singleton] at hy; subst hy; exact List.mem_append_right _ (by simp)
theorem LIn.room {x : Nat} (h : LIn rel n st f pre f' lt) (hx : x ∉ ks f') (hn : x < n) : f'.length + 1 ≤ n ∧ lt.length ≤ 1000 * f'.length := by
  have h1 : (ks f' ++ [x]).Nodup := by
    rw [List.nodup_append]
    exact ⟨h.nd, by simp, fun a ha b hb e => by rw [List.mem_singleton] at hb; subst hb; subst e; exact hx ha⟩
  have h2 := nodup_len h1 (n := n) (fun y hy => by
    rcases List.mem_append.mp hy with hy | hy
    · exact h.lt y hy
    · rw [List.mem_singleton] at hy; omega)
  obtain ⟨nw, h3, _, _, _, h5⟩ := h.new
  rw [h3]
  rw [h3] at h2
  simp only [ks, List.length_append, List.length_map, List.length_singleton] at h2 ⊢
  omega
theorem mem_ks {x : Nat} (h : x ∈ ks f) : ∃ d, (x, d) ∈ f := by
  obtain ⟨p, hp, e⟩ := List.mem_map.mp h
  exact ⟨p.2, by subst e; exact hp⟩
theorem LIn.next (h : LevInv rel B n f lev st) (hi : LIn rel n st f lev f' lt) : LevInv rel B n f' lt (st + 1) ∧ (lt ≠ [] → f.length < f'.length) ∧ f.length ≤ f'.length := by
  obtain ⟨nw, h1, h2, h3, h4, h5⟩ := hi.new
  have sub : ∀ {x}, x ∈ ks f → x ∈ ks f' := fun hx => by rw [h1, ks, List.map_append]; exact List.mem_append_left _ hx
  have hall : ∀ x k, RD rel B k x → k < st + 1 → x ∈ ks f' := fun x k hk hlt => by
    by_cases e : k = st
    · subst e
      rcases h.now x hk with q | q
      · exact hi.pre x q
      · exact sub q
    · exact sub (h.all x k hk (by omega))
  have hdisj : ∀ p ∈ nw, p.1 ∉ ks f := fun p hp hm => by
    have := hi.nd
    rw [h1, ks, List.map_append, List.nodup_append] at this
    exact this.2.2 _ hm _ (List.mem_map_of_mem (f := (·.1)) hp) rfl
  refine ⟨⟨hi.nd, hi.lt, fun p hp => ?_, hall, fun y hy => ?_, fun y hy => ?_⟩, fun hne => ?_, by rw [h1, List.length_append]; omega⟩
  · rw [h1] at hp
    rcases List.mem_append.mp hp with hp | hp
    · obtain ⟨a, b, c⟩ := h.ds p hp
      exact ⟨by omega, b, c⟩
    · obtain ⟨a, b⟩ := h2 p hp
      refine ⟨by omega, by rw [a]; exact h.lvl _ b, fun k hk => ?_⟩
      rw [a]
      by_cases q : k < st
      · exact absurd (h.all _ k hk q) (hdisj p hp)
      · omega
  · obtain ⟨p, hp, hy'⟩ := h3 y hy
    exact (h.lvl _ (h2 p hp).2).step hy'
  · obtain ⟨z, hz, hzy⟩ := hy.succ
    by_cases hf : z ∈ ks f
    · obtain ⟨d, hd⟩ := mem_ks hf
      obtain ⟨a, b, _⟩ := h.ds _ hd
      exact .inr (hall y (d + 1) (b.step hzy) (by dsimp only at a; omega))
    · rcases h.now z hz with q | q
      · have := hi.pre z q
        rw [h1, ks, List.map_append] at this
        rcases List.mem_append.mp this with r | r
        · exact absurd r hf
        · obtain ⟨p, hp, e⟩ := List.mem_map.mp r
          subst e
          exact .inl (h4 p hp y hzy)
      · exact absurd q hf
  · have : nw ≠ [] := fun e => by
      subst e
      simp only [List.length_nil, Nat.mul_zero, Nat.le_zero_eq] at h5
      exact hne (List.length_eq_zero_iff.mp h5)
    have := List.length_pos_iff.mpr this
    rw [h1, List.length_append]; omega
structure LevFin (rel : List (List Nat)) (B : List Nat) (n : Nat) (f : List (Nat × Nat)) : Prop where
  nd : (ks f).Nodup
  lt : ∀ x ∈ ks f, x < n
  ds : ∀ p ∈ f, RD rel B p.2 p.1 ∧ ∀ k, RD rel B k p.1 → p.2 ≤ k
  all : ∀ x k, RD rel B k x → x ∈ ks f
theorem LevInv.fin (h : LevInv rel B n f [] st) : LevFin rel B n f := by
  refine ⟨h.nd, h.lt, fun p hp => (h.ds p hp).2, fun x k hk => ?_⟩
  have one : ∀ x k, RD rel B k x → k ≤ st → x ∈ ks f := fun x k hk hle => by
    by_cases e : k = st
    · subst e
      rcases h.now x hk with q | q
      · cases q
      · exact q
    · exact h.all x k hk (by omega)
  induction hk with
  | base hb => exact one _ 0 (.base hb) (Nat.zero_le _)
  | @step k z y _ hz ih =>
    obtain ⟨d, hd⟩ := mem_ks ih
    obtain ⟨a, b, _⟩ := h.ds _ hd
    exact one y (d + 1) (b.step hz) (by dsimp only at a; omega)
theorem LevFin.mem_iff (h : LevFin rel B n f) {y : Nat} : y ∈ ks f ↔ ∃ b ∈ B, Reach rel b y := by
  rw [← rd_iff]
  refine ⟨fun hy => ?_, fun ⟨k, hk⟩ => h.all y k hk⟩
  obtain ⟨d, hd⟩ := mem_ks hy
  exact ⟨d, (h.ds _ hd).1⟩
end
/-! the plain law of the shortest chain -/
abbrev Ent := Nat × Int × Nat
abbrev e0 : Ent := (0, 0, 0)
abbrev nq (q : List Ent) (i : Nat) : Nat := (q.getD i e0).1
abbrev pq (q : List Ent) (i : Nat) : Int := (q.getD i e0).2.1
abbrev lq (q : List Ent) (i : Nat) : Nat := (q.getD i e0).2.2
abbrev nodes (q : List Ent) : List Nat := q.map (·.1)
theorem nodes_get {q : List Ent} {i : Nat} (h : i < q.length) : (nodes q).getD i 0 = nq q i := by
  simp only [nodes, nq, List.getD_eq_getElem?_getD, List.getElem?_map, List.getElem?_eq_getElem h, Option.map_some, Option.getD_some]
theorem nodes_pos {q : List Ent} {y : Nat} (h : y ∈ nodes q) : ∃ i, i < q.length ∧ nq q i = y := by
  obtain ⟨p, hp, e⟩ := gpos (d := 0) h
  have hp' : p < q.length := by simpa using hp
  exact ⟨p, hp', by rw [← nodes_get hp']; exact e⟩
theorem nodes_mem {q : List Ent} {i : Nat} (h : i < q.length) : nq q i ∈ nodes q := List.mem_map_of_mem (f := (·.1)) (gmem (d := e0) h)
abbrev bt (msk : List Nat) (bit x : Nat) : Prop := msk.getD x 0 / 2 ^ bit % 2 = 1
structure CI (rel : List (List Nat)) (B : List Nat) (n : Nat) (msk : List Nat) (bit : Nat) (q : List Ent) (at' d : Nat) (pre : List Nat) : Prop where
  nd : (nodes q).Nodup
  lt : ∀ x ∈ nodes q, x < n
  rd : ∀ i, i < q.length → RD rel B (lq q i) (nq q i)
  par : ∀ i, i < q.length → (pq q i = -1 ∧ lq q i = 0 ∧ nq q i ∈ B) ∨ ∃ j, j < i ∧ pq q i = (nq q j : Nat) ∧ lq q i = lq q j + 1 ∧ nq q i ∈ rel.getD (nq q j) []
  srt : ∀ i j, i ≤ j → j < q.length → lq q i ≤ lq q j
  gap : ∀ i j, i < q.length → j < q.length → at' ≤ i + 1 → lq q j ≤ lq q i + 1
  beg : ∀ b ∈ B, ∃ i, i < q.length ∧ nq q i = b ∧ lq q i = 0
  done : ∀ i, i < d → ∀ y ∈ rel.getD (nq q i) [], ∃ j, j < q.length ∧ nq q j = y ∧ lq q j ≤ lq q i + 1
  cur : ∀ y ∈ pre, ∃ j, j < q.length ∧ nq q j = y ∧ lq q j ≤ lq q d + 1
  nob : ∀ i, i < at' → ¬ bt msk bit (nq q i)
  dle : d ≤ q.length
/-- the begins -/
structure BI (B : List Nat) (n : Nat) (q : List Ent) (pre : List Nat) : Prop where
  nd : (nodes q).Nodup
  lt : ∀ x ∈ nodes q, x < n
  all : ∀ e ∈ q, e.2.1 = -1 ∧ e.2.2 = 0 ∧ e.1 ∈ B
  pre : ∀ b ∈ pre, b ∈ nodes q
section
variable {rel : List (List Nat)} {B : List Nat} {n : Nat} {msk : List Nat} {bit : Nat} {q : List Ent} {a d : Nat} {pre : List Nat}
theorem BI.init : BI B n [] [] := ⟨.nil, fun x h => (nomatch h), fun x h => (nomatch h), fun x h => (nomatch h)⟩
theorem nodup_snoc {l : List Nat} {x : Nat} (h : l.Nodup) (hx : x ∉ l) : (l ++ [x]).Nodup := by
  rw [List.nodup_append]
  exact ⟨h, by simp, fun a ha b hb e => by rw [List.mem_singleton] at hb; subst hb; subst e; exact hx ha⟩
theorem BI.skip {x : Nat} (h : BI B n q pre) (hx : x ∈ nodes q) : BI B n q (pre ++ [x]) := ⟨h.nd, h.lt, h.all, fun b hb => by
  rcases List.mem_append.mp hb with hb | hb
  · exact h.pre b hb
  · rw [List.mem_singleton] at hb; subst hb; exact hx⟩
theorem BI.add {x : Nat} (h : BI B n q pre) (hx : x ∉ nodes q) (hB : x ∈ B) (hn : x < n) : BI B n (q ++ [(x, -1, 0)]) (pre ++ [x]) := by
  have e : nodes (q ++ [(x, -1, 0)]) = nodes q ++ [x] := by simp [nodes]
  refine ⟨by rw [e]; exact nodup_snoc h.nd hx, fun y hy => ?_, fun y hy => ?_, fun y hy => ?_⟩
  · rw [e] at hy
    rcases List.mem_append.mp hy with hy | hy
    · exact h.lt y hy
    · rw [List.mem_singleton] at hy; omega
  · rcases List.mem_append.mp hy with hy | hy
    · exact h.all y hy
    · rw [List.mem_singleton] at hy; subst hy; exact ⟨rfl, rfl, hB⟩
  · rw [e]
    rcases List.mem_append.mp hy with hy | hy
    · exact List.mem_append_left _ (h.pre y hy)
    · exact List.mem_append_right _ hy
theorem BI.ci (h : BI B n q B) : CI rel B n msk bit q 0 0 [] := by
  have hA : ∀ i, i < q.length → pq q i = -1 ∧ lq q i = 0 ∧ nq q i ∈ B := fun i hi => h.all _ (gmem hi)
  have h0 : ∀ i, lq q i = 0 := fun i => by
    by_cases hi : i < q.length
    · exact (hA i hi).2.1
    · show (q.getD i e0).2.2 = 0
      rw [gdef (by omega)]
  refine ⟨h.nd, h.lt, fun i hi => by rw [h0]; exact .base (hA i hi).2.2, fun i hi => .inl (hA i hi), fun i j _ _ => by rw [h0, h0]; exact Nat.le_refl _, fun i j _ _ _ => by rw [h0, h0]; omega, fun b hb => ?_, fun i hi => absurd hi (Nat.not_lt_zero _), fun y hy => (nomatch hy), fun i hi => absurd hi (Nat.not_lt_zero _), Nat.zero_le _⟩
  obtain ⟨i, hi, e⟩ := nodes_pos (h.pre b hb)
  exact ⟨i, hi, e, h0 i⟩
theorem len_le (h1 : (nodes q).Nodup) (h2 : ∀ x ∈ nodes q, x < n) : q.length ≤ n := by
  have := nodup_len h1 h2
  simpa using this
theorem len_lt {x : Nat} (h1 : (nodes q).Nodup) (h2 : ∀ x ∈ nodes q, x < n) (hx : x ∉ nodes q) (hn : x < n) : q.length < n := by
  have := nodup_len (nodup_snoc h1 hx) (n := n) (fun y hy => by
    rcases List.mem_append.mp hy with hy | hy
    · exact h2 y hy
    · rw [List.mem_singleton] at hy; omega)
  rw [List.length_append, List.length_map] at this; exact this
/-- the one at the head is looked at, and has not the bit -/
theorem CI.look (h : CI rel B n msk bit q a a []) (ha : a < q.length) (hb : ¬ bt msk bit (nq q a)) : CI rel B n msk bit q (a + 1) a [] :=
  ⟨h.nd, h.lt, h.rd, h.par, h.srt, fun i j hi hj hle => h.gap i j hi hj (by omega), h.beg, h.done, h.cur, fun i hi => by
    by_cases e : i = a
    · subst e; exact hb
    · exact h.nob i (by omega), h.dle⟩
theorem CI.skip {x : Nat} (h : CI rel B n msk bit q (d + 1) d pre) (hd : d < q.length) (hx : x ∈ nodes q) : CI rel B n msk bit q (d + 1) d (pre ++ [x]) :=
  ⟨h.nd, h.lt, h.rd, h.par, h.srt, h.gap, h.beg, h.done, fun y hy => by
    rcases List.mem_append.mp hy with hy | hy
    · exact h.cur y hy
    · rw [List.mem_singleton] at hy; subst hy
      obtain ⟨j, hj, e⟩ := nodes_pos hx
      exact ⟨j, hj, e, h.gap d j hd hj (Nat.le_refl _)⟩, h.nob, h.dle⟩
theorem CI.add {x : Nat} (h : CI rel B n msk bit q (d + 1) d pre) (hd : d < q.length) (hx : x ∉ nodes q) (hn : x < n) (hr : x ∈ rel.getD (nq q d) []) :
    CI rel B n msk bit (q ++ [(x, ((nq q d : Nat) : Int), lq q d + 1)]) (d + 1) d (pre ++ [x]) := by
  have e : nodes (q ++ [(x, ((nq q d : Nat) : Int), lq q d + 1)]) = nodes q ++ [x] := by simp [nodes]
  generalize hq : q ++ [(x, ((nq q d : Nat) : Int), lq q d + 1)] = q' at *
  have hl : q'.length = q.length + 1 := by rw [← hq]; simp
  have lo : ∀ {i}, i < q.length → q'.getD i e0 = q.getD i e0 := fun hi => by rw [← hq]; exact gapp hi
  have hi' : q'.getD q.length e0 = (x, ((nq q d : Nat) : Int), lq q d + 1) := by rw [← hq]; exact glast
  have gd : ∀ i j, d ≤ i → i < q.length → j < q.length → lq q j ≤ lq q i + 1 := fun i j a b c => h.gap i j b c (by omega)
  refine ⟨by rw [e]; exact nodup_snoc h.nd hx, fun y hy => ?_, fun i hi => ?_, fun i hi => ?_, fun i j hij hj => ?_, fun i j hi hj hle => ?_, fun b hb => ?_, fun i hi y hy => ?_, fun y hy => ?_, fun i hi => ?_, by rw [hl]; omega⟩
  · rw [e] at hy
    rcases List.mem_append.mp hy with hy | hy
    · exact h.lt y hy
    · rw [List.mem_singleton] at hy; omega
  · by_cases q1 : i < q.length
    · simp only [lq, nq, lo q1]; exact h.rd i q1
    · have : i = q.length := by omega
      subst this
      simp only [lq, nq, hi']
      exact (h.rd d hd).step hr
  · by_cases q1 : i < q.length
    · rcases h.par i q1 with p | ⟨j, j1, j2, j3, j4⟩
      · simp only [lq, nq, pq, lo q1]; exact .inl p
      · refine .inr ⟨j, j1, ?_⟩
        simp only [lq, nq, pq, lo q1, lo (show j < q.length by omega)]
        exact ⟨j2, j3, j4⟩
    · have : i = q.length := by omega
      subst this
      refine .inr ⟨d, hd, by simp only [nq, pq, hi', lo hd], by simp only [lq, hi', lo hd], ?_⟩
      simp only [nq, hi', lo hd]
      exact hr
  · by_cases q2 : j < q.length
    · simp only [lq, lo q2, lo (show i < q.length by omega)]; exact h.srt i j hij q2
    · have : j = q.length := by omega
      subst this
      by_cases q1 : i < q.length
      · simp only [lq, hi', lo q1]; exact gd d i (Nat.le_refl _) hd q1
      · have : i = q.length := by omega
        subst this; exact Nat.le_refl _
  · by_cases q1 : i < q.length
    · by_cases q2 : j < q.length
      · simp only [lq, lo q1, lo q2]; exact h.gap i j q1 q2 hle
      · have : j = q.length := by omega
        subst this
        simp only [lq, lo q1, hi']
        have := h.srt d i (by omega) q1
        simp only [lq] at this
        omega
    · have : i = q.length := by omega
      subst this
      by_cases q2 : j < q.length
      · simp only [lq, lo q2, hi']
        have := gd d j (Nat.le_refl _) hd q2
        simp only [lq] at this
        omega
      · have : j = q.length := by omega
        subst this; omega
  · obtain ⟨i, h1, h2, h3⟩ := h.beg b hb
    exact ⟨i, by omega, by simp only [nq, lo h1]; exact h2, by simp only [lq, lo h1]; exact h3⟩
  · simp only [nq, lo (show i < q.length by omega)] at hy
    obtain ⟨j, h1, h2, h3⟩ := h.done i hi y hy
    exact ⟨j, by omega, by simp only [nq, lo h1]; exact h2, by simp only [lq, lo h1, lo (show i < q.length by omega)]; exact h3⟩
  · rcases List.mem_append.mp hy with hy | hy
    · obtain ⟨j, h1, h2, h3⟩ := h.cur y hy
      exact ⟨j, by omega, by simp only [nq, lo h1]; exact h2, by simp only [lq, lo h1, lo hd]; exact h3⟩
    · rw [List.mem_singleton] at hy; subst hy
      exact ⟨q.length, by omega, by simp only [nq, hi'], by simp only [lq, hi', lo hd]; exact Nat.le_refl _⟩
  · simp only [nq, lo (show i < q.length by omega)]
    exact h.nob i hi
theorem CI.next (h : CI rel B n msk bit q (d + 1) d (rel.getD (nq q d) [])) (hd : d < q.length) : CI rel B n msk bit q (d + 1) (d + 1) [] :=
  ⟨h.nd, h.lt, h.rd, h.par, h.srt, h.gap, h.beg, fun i hi y hy => by
    by_cases e : i = d
    · subst e; exact h.cur y hy
    · exact h.done i (by omega) y hy, fun y hy => (nomatch hy), h.nob, hd⟩
/-- whoever is reached by a shorter way stands ahead -/
theorem CI.key (h : CI rel B n msk bit q a a []) {y k : Nat} (hy : RD rel B k y) : (∃ j, j < a ∧ nq q j = y ∧ lq q j ≤ k) ∨ (a < q.length ∧ lq q a ≤ k) := by
  have fin : ∀ {i k}, i < q.length → lq q i ≤ k → (∃ j, j < a ∧ nq q j = nq q i ∧ lq q j ≤ k) ∨ (a < q.length ∧ lq q a ≤ k) := fun {i k} hi hk => by
    by_cases q1 : i < a
    · exact .inl ⟨i, q1, rfl, hk⟩
    · exact .inr ⟨by omega, Nat.le_trans (h.srt a i (by omega) hi) hk⟩
  induction hy with
  | base hb =>
    obtain ⟨i, h1, h2, h3⟩ := h.beg _ hb
    have := fin h1 (Nat.le_of_eq h3)
    rw [h2] at this
    exact this
  | @step k z y _ hz ih =>
    rcases ih with ⟨j, j1, j2, j3⟩ | ⟨j1, j2⟩
    · subst j2
      obtain ⟨i, i1, i2, i3⟩ := h.done j j1 y hz
      subst i2
      exact fin i1 (by omega)
    · exact .inr ⟨j1, by omega⟩
theorem CI.lab (h : CI rel B n msk bit q a d pre) : ∀ i, i < q.length → lq q i ≤ i := by
  intro i
  induction i using Nat.strongRecOn with
  | _ i ih =>
    intro hi
    rcases h.par i hi with ⟨_, e, _⟩ | ⟨j, j1, _, j3, _⟩
    · omega
    · have := ih j j1 (by omega)
      omega
theorem CI.none (h : CI rel B n msk bit q a a []) (ha : ¬ a < q.length) {y k : Nat} (hy : RD rel B k y) : ¬ bt msk bit y := by
  rcases h.key hy with ⟨j, j1, j2, _⟩ | ⟨j1, _⟩
  · subst j2; exact h.nob j j1
  · exact absurd j1 ha
theorem CI.least (h : CI rel B n msk bit q a a []) {y k : Nat} (hy : RD rel B k y) (hb : bt msk bit y) : lq q a ≤ k := by
  rcases h.key hy with ⟨j, j1, j2, _⟩ | ⟨_, j2⟩
  · subst j2; exact absurd hb (h.nob j j1)
  · exact j2
/-- the way back -/
structure WB (rel : List (List Nat)) (q : List Ent) (a : Nat) (ch : List Nat) (i : Nat) : Prop where
  ne : 0 < ch.length
  fst : ch.getD 0 0 = nq q a
  lst : ch.getD (ch.length - 1) 0 = nq q i
  il : i < q.length
  len : ch.length + lq q i = lq q a + 1
  edge : ∀ k, k + 1 < ch.length → ch.getD k 0 ∈ rel.getD (ch.getD (k + 1) 0) []
theorem WB.init (ha : a < q.length) : WB rel q a [nq q a] a := ⟨by simp, rfl, rfl, ha, by simp; omega, fun k hk => by simp at hk⟩
theorem WB.step {ch : List Nat} {i j : Nat} (h : WB rel q a ch i) (hj : j < q.length) (hl : lq q i = lq q j + 1) (he : nq q i ∈ rel.getD (nq q j) []) : WB rel q a (ch ++ [nq q j]) j := by
  have h0 := h.ne
  have hl2 : (ch ++ [nq q j]).length = ch.length + 1 := by simp
  refine ⟨by omega, by rw [gapp h0]; exact h.fst, by rw [hl2, Nat.add_sub_cancel, glast], hj, by have := h.len; omega, fun k hk => ?_⟩
  rw [hl2] at hk
  by_cases e : k + 1 < ch.length
  · rw [gapp e, gapp (by omega)]; exact h.edge k e
  · have : k + 1 = ch.length := by omega
    rw [this, glast, gapp (by omega)]
    have : k = ch.length - 1 := by omega
    rw [this, h.lst]; exact he
structure ChFin (rel : List (List Nat)) (B msk : List Nat) (bit : Nat) (ch : List Nat) : Prop where
  ne : 0 < ch.length
  fst : ch.getD 0 0 ∈ B
  lst : bt msk bit (ch.getD (ch.length - 1) 0)
  edge : ∀ k, k + 1 < ch.length → ch.getD (k + 1) 0 ∈ rel.getD (ch.getD k 0) []
  rd : RD rel B (ch.length - 1) (ch.getD (ch.length - 1) 0)
  least : ∀ y k, RD rel B k y → bt msk bit y → ch.length - 1 ≤ k
theorem grev {l : List Nat} {k : Nat} (h : k < l.length) : l.reverse.getD k 0 = l.getD (l.length - 1 - k) 0 := by
  rw [List.getD_eq_getElem?_getD, List.getElem?_reverse h, ← List.getD_eq_getElem?_getD]
theorem WB.fin {ch : List Nat} {i : Nat} (h : WB rel q a ch i) (C : CI rel B n msk bit q a a []) (ha : a < q.length) (hb : bt msk bit (nq q a)) (hp : pq q i = -1) : ChFin rel B msk bit ch.reverse := by
  have h0 := h.ne
  have hi : lq q i = 0 ∧ nq q i ∈ B := by
    rcases C.par i h.il with ⟨_, a, b⟩ | ⟨j, _, e, _⟩
    · exact ⟨a, b⟩
    · rw [hp] at e; omega
  have hlen := h.len
  have e : ch.reverse.getD (ch.reverse.length - 1) 0 = nq q a := by
    rw [grev (by rw [List.length_reverse]; omega), List.length_reverse, ← h.fst]
    congr 1; omega
  refine ⟨by rw [List.length_reverse]; exact h0, ?_, by rw [e]; exact hb, fun k hk => ?_, ?_, fun y k hy hby => ?_⟩
  · rw [grev h0, Nat.sub_zero, h.lst]; exact hi.2
  · rw [List.length_reverse] at hk
    rw [grev (by omega), grev (by omega)]
    have := h.edge (ch.length - 1 - (k + 1)) (by omega)
    rw [show ch.length - 1 - (k + 1) + 1 = ch.length - 1 - k by omega] at this
    exact this
  · rw [e, List.length_reverse]
    have := C.rd a ha
    rw [show lq q a = ch.length - 1 by omega] at this
    exact this
  · have := C.least hy hby
    rw [List.length_reverse]; omega
end
end N352
open PySem PySem.W PyProof.Rows PySem.Calls
set_option maxRecDepth 100000
set_option maxHeartbeats 8000000
namespace N352
open_top hd for PySem.Challenge.rw_nn0352_01
/-! ## the ledger -/
abbrev Pd := Obj → Prop
abbrev Led := List (Addr × Pd)
abbrev Vp := Value → Prop
def Sub (g g' : Heap) : Prop := ∀ b o, g.get? b = some o → g'.get? b = some o
theorem Sub.rfl' {g : Heap} : Sub g g := fun _ _ e => e
theorem Sub.tr {g g' g'' : Heap} (x : Sub g g') (y : Sub g' g'') : Sub g g'' := fun b o e => y b o (x b o e)
def At (h : Heap) (a : Addr) (P : Pd) : Prop := ∃ o, h.get? a = some o ∧ P o
theorem At.mono {h h' : Heap} {a : Addr} {P : Pd} (x : At h a P) (k : Sub h h') : At h' a P := let ⟨o, e, p⟩ := x; ⟨o, k _ _ e, p⟩
theorem At.imp {h : Heap} {a : Addr} {P P' : Pd} (x : At h a P) (k : ∀ o, P o → P' o) : At h a P' := let ⟨o, e, p⟩ := x; ⟨o, e, k _ p⟩
theorem At.lt {h : Heap} {a : Addr} {P : Pd} (x : At h a P) : a < h.objs.size := let ⟨_, e, _⟩ := x; Heap.lt_size e

structure St (s₀ : Shared) (g : Heap) (s : Shared) (σ : Led) : Prop where
  same : ∃ h tk, s = { s₀ with heap := h, toks := tk }
  keep : Sub g s.heap
  has : ∀ p ∈ σ, At s.heap p.1 p.2
  nd : (σ.map (·.1)).Nodup
  fresh : ∀ p ∈ σ, g.get? p.1 = none

inductive Up (a : Addr) (P P' : Pd) : Led → Led → Prop
  | here {r : Led} : Up a P P' ((a, P) :: r) ((a, P') :: r)
  | there {x : Addr × Pd} {r r' : Led} : Up a P P' r r' → Up a P P' (x :: r) (x :: r')

theorem Up.keys {a : Addr} {P P' : Pd} {r r' : Led} (u : Up a P P' r r') : r'.map (·.1) = r.map (·.1) := by
  induction u with
  | here => rfl
  | there _ ih => simp only [List.map_cons, ih]
theorem Up.mem {a : Addr} {P P' : Pd} {r r' : Led} (u : Up a P P' r r') : (a, P) ∈ r := by
  induction u with
  | here => exact .head _
  | there _ ih => exact .tail _ ih
theorem Up.back {a : Addr} {P P' : Pd} {r r' : Led} (u : Up a P P' r r') (nd : (r.map (·.1)).Nodup) : ∀ p ∈ r', p = (a, P') ∨ (p ∈ r ∧ p.1 ≠ a) := by
  induction u with
  | @here r =>
    intro p hp
    rcases List.mem_cons.mp hp with rfl | hp
    · exact .inl rfl
    · refine .inr ⟨.tail _ hp, fun e => ?_⟩
      simp only [List.map_cons, List.nodup_cons] at nd
      exact nd.1 (e ▸ List.mem_map_of_mem hp)
  | @there x r r' u ih =>
    intro p hp
    simp only [List.map_cons, List.nodup_cons] at nd
    rcases List.mem_cons.mp hp with rfl | hp
    · refine .inr ⟨.head _, fun e => nd.1 ?_⟩
      exact e ▸ List.mem_map_of_mem (f := (·.1)) u.mem
    · rcases ih nd.2 p hp with h | ⟨h1, h2⟩
      · exact .inl h
      · exact .inr ⟨.tail _ h1, h2⟩

section
variable {s₀ s : Shared} {g g' : Heap} {σ σ' : Led}

theorem St.get {a : Addr} {P : Pd} (S : St s₀ g s σ) (m : (a, P) ∈ σ) : At s.heap a P := S.has _ m
theorem St.tok (S : St s₀ g s σ) (t : Nat) : St s₀ g { s with toks := t } σ :=
  ⟨let ⟨h, _, e⟩ := S.same; ⟨h, t, by rw [e]⟩, S.keep, S.has, S.nd, S.fresh⟩
theorem St.upd {a : Addr} {P P' : Pd} {h' : Heap} {o' : Obj} {tk : Nat} (S : St s₀ g s σ) (u : Up a P P' σ σ') (hs : Heap.SameBut a s.heap h') (ho : h'.get? a = some o') (hp : P' o') :
    St s₀ g { s with heap := h', toks := tk } σ' where
  same := let ⟨_, _, e⟩ := S.same; ⟨h', tk, by rw [e]⟩
  keep := fun b o e => by
    refine (hs.2 b fun q => ?_).trans (S.keep b o e)
    have : g.get? a = none := S.fresh (a, P) u.mem
    rw [q] at e; rw [e] at this; cases this
  has := fun p hp' => by
    rcases u.back S.nd p hp' with rfl | ⟨h1, h2⟩
    · exact ⟨o', ho, hp⟩
    · obtain ⟨o, e, q⟩ := S.has p h1
      exact ⟨o, (hs.2 _ h2).trans e, q⟩
  nd := u.keys ▸ S.nd
  fresh := fun p hp' => by
    rcases u.back S.nd p hp' with rfl | ⟨h1, _⟩
    · exact show g.get? a = none from S.fresh (a, P) u.mem
    · exact S.fresh p h1
/-- a new object, by any heap that holds the old and has it at the old end -/
theorem St.new {P : Pd} {h' : Heap} {o' : Obj} {tk : Nat} {a : Addr} (S : St s₀ g s σ) (hk : Sub s.heap h') (ha : s.heap.get? a = none) (ho : h'.get? a = some o') (hp : P o') :
    St s₀ g { s with heap := h', toks := tk } ((a, P) :: σ) where
  same := let ⟨_, _, e⟩ := S.same; ⟨h', tk, by rw [e]⟩
  keep := S.keep.tr hk
  has := fun p hp' => by
    rcases List.mem_cons.mp hp' with rfl | hp'
    · exact ⟨o', ho, hp⟩
    · exact (S.has p hp').mono hk
  nd := by
    simp only [List.map_cons, List.nodup_cons]
    refine ⟨fun q => ?_, S.nd⟩
    obtain ⟨p, hp, e⟩ := List.mem_map.mp q
    obtain ⟨o, e', _⟩ := S.has p hp
    rw [e, ha] at e'; cases e'
  fresh := fun p hp' => by
    rcases List.mem_cons.mp hp' with rfl | hp'
    · cases q : g.get? a with
      | none => rfl
      | some o => have := S.keep _ _ q; rw [ha] at this; cases this
    · exact S.fresh p hp'
theorem St.keepH {h' : Heap} {tk : Nat} (S : St s₀ g s σ) (hk : Sub s.heap h') : St s₀ g { s with heap := h', toks := tk } σ where
  same := let ⟨_, _, e⟩ := S.same; ⟨h', tk, by rw [e]⟩
  keep := S.keep.tr hk
  has := fun p hp => (S.has p hp).mono hk
  nd := S.nd
  fresh := S.fresh
theorem get_size_none (h : Heap) : h.get? h.objs.size = none := by
  cases q : h.get? h.objs.size with
  | none => rfl
  | some o => exact absurd (Heap.lt_size q) (Nat.lt_irrefl _)
theorem sub_push (h : Heap) (o : Obj) : Sub h (h.push o) := fun _ _ e => Heap.get?_push_of_some o e
theorem St.push {P : Pd} {o : Obj} {tk : Nat} (S : St s₀ g s σ) (hp : P o) (hf : o.isFreed = false) : St s₀ g { s with heap := s.heap.push o, toks := tk } ((s.heap.objs.size, P) :: σ) :=
  S.new (sub_push _ _) (get_size_none _) (Heap.get?_push_size _ hf) hp
theorem St.swap {x y : Addr × Pd} (S : St s₀ g s (x :: y :: σ)) : St s₀ g s (y :: x :: σ) where
  same := S.same
  keep := S.keep
  has := fun p hp => S.has p (by rcases List.mem_cons.mp hp with rfl | hp; exact .tail _ (.head _); rcases List.mem_cons.mp hp with rfl | hp; exact .head _; exact .tail _ (.tail _ hp))
  nd := by
    have := S.nd
    simp only [List.map_cons, List.nodup_cons, List.mem_cons, not_or] at this ⊢
    exact ⟨⟨Ne.symm this.1.1, this.2.1⟩, this.1.2, this.2.2⟩
  fresh := fun p hp => S.fresh p (by rcases List.mem_cons.mp hp with rfl | hp; exact .tail _ (.head _); rcases List.mem_cons.mp hp with rfl | hp; exact .head _; exact .tail _ (.tail _ hp))
/-- forget, or reorder: any list with its keys a sublist -/
theorem St.sub (S : St s₀ g s σ) (h : σ'.Sublist σ) : St s₀ g s σ' where
  same := S.same
  keep := S.keep
  has := fun p hp => S.has p (h.subset hp)
  nd := List.Nodup.sublist (h.map _) S.nd
  fresh := fun p hp => S.fresh p (h.subset hp)
theorem St.perm (S : St s₀ g s σ) (h : σ'.Perm σ) : St s₀ g s σ' where
  same := S.same
  keep := S.keep
  has := fun p hp => S.has p (h.mem_iff.mp hp)
  nd := ((h.map _).nodup_iff).mpr S.nd
  fresh := fun p hp => S.fresh p (h.mem_iff.mp hp)
theorem St.imp (S : St s₀ g s σ) (hk : σ'.map (·.1) = σ.map (·.1)) (h : ∀ p ∈ σ', At s.heap p.1 p.2) : St s₀ g s σ' where
  same := S.same
  keep := S.keep
  has := h
  nd := hk ▸ S.nd
  fresh := fun p hp => by
    have : p.1 ∈ σ.map (·.1) := hk ▸ List.mem_map_of_mem hp
    obtain ⟨q, hq, e⟩ := List.mem_map.mp this
    rw [← e]; exact S.fresh q hq
/-- a smaller base -/
theorem St.base (S : St s₀ g' s σ) (k : Sub g g') : St s₀ g s σ where
  same := S.same
  keep := k.tr S.keep
  has := S.has
  nd := S.nd
  fresh := fun p hp => by
    cases q : g.get? p.1 with
    | none => rfl
    | some o => have := k _ _ q; rw [S.fresh p hp] at this; cases this

theorem hide_sub {h : Heap} {as : List Addr} : Sub (hideAll h as) h := fun _ _ e => of_hideAll as e
/-- what is not in σ₁ goes into the base -/
theorem St.freeze {σ₁ σ₂ : Led} (S : St s₀ g s (σ₁ ++ σ₂)) : ∃ g', Sub g g' ∧ St s₀ g' s σ₁ ∧ (∀ p ∈ σ₂, At g' p.1 p.2) ∧ (∀ b o, s.heap.get? b = some o → b ∉ σ₁.map (·.1) → g'.get? b = some o) := by
  refine ⟨hideAll s.heap (σ₁.map (·.1)), fun b o e => hideAll_get _ (S.keep b o e) fun q => ?_, ⟨S.same, hide_sub, fun p hp => S.has p (List.mem_append_left _ hp), ?_, fun p hp => hideAll_none _ (List.mem_map_of_mem hp)⟩, fun p hp => ?_, fun b o e n => hideAll_get _ e n⟩
  · obtain ⟨p, hp, rfl⟩ := List.mem_map.mp q
    have := S.fresh p (List.mem_append_left _ hp)
    rw [e] at this; cases this
  · have := S.nd
    rw [List.map_append, List.nodup_append] at this
    exact this.1
  · obtain ⟨o, e, q⟩ := S.has p (List.mem_append_right _ hp)
    refine ⟨o, hideAll_get _ e fun r => ?_, q⟩
    have := S.nd
    rw [List.map_append, List.nodup_append] at this
    exact this.2.2 _ r _ (List.mem_map_of_mem hp) rfl
/-- and comes back from it -/
theorem St.thaw {σ₁ σ₂ : Led} (S : St s₀ g' s σ₁) (k : Sub g g') (h : ∀ p ∈ σ₂, At g' p.1 p.2) (hn : (σ₂.map (·.1)).Nodup) (hf : ∀ p ∈ σ₂, g.get? p.1 = none) : St s₀ g s (σ₁ ++ σ₂) where
  same := S.same
  keep := k.tr S.keep
  has := fun p hp => (List.mem_append.mp hp).elim (S.has p) fun hp => (h p hp).mono S.keep
  nd := by
    rw [List.map_append, List.nodup_append]
    refine ⟨S.nd, hn, fun a ha b hb e => ?_⟩
    obtain ⟨p, hp, rfl⟩ := List.mem_map.mp ha
    obtain ⟨q, hq, rfl⟩ := List.mem_map.mp hb
    obtain ⟨o, e', _⟩ := h q hq
    have := S.fresh p hp
    rw [e, e'] at this; cases this
  fresh := fun p hp => (List.mem_append.mp hp).elim (fun hp => (S.base k).fresh p hp) (hf p)
end

/-! ## kinds of objects -/
def IsNs (ms : List (Str × Vp)) : Pd := fun o => ∃ es ep, o.data = .dict es ep ∧ StrKeys es ∧ (ms.map (·.1)).Nodup ∧ ∀ p ∈ ms, ∃ v, nsFind es p.1 = some v ∧ p.2 v
def IsCl (P : Vp) : Pd := fun o => ∃ v, o.data = .cell (some v) ∧ P v
def IsClE : Pd := fun o => ∃ v, o.data = .cell v
def IsLst (P : List Value → Prop) : Pd := fun o => ∃ vs n, P vs ∧ o = listOf vs.toArray n
def IsTpl (P : List Value → Prop) : Pd := fun o => ∃ vs n, P vs ∧ o = { cls := .type "tuple", data := .seq vs.toArray n }
def vI (n : Int) : Vp := fun v => ∃ t, v = .int n t
def vR (a : Addr) : Vp := fun v => v = .ref a
def vN : Vp := fun v => v = .none
abbrev LI (ns : List Int) : Pd := IsLst fun vs => IntsAre vs ns
abbrev LR (as : List Addr) : Pd := IsLst fun vs => vs = as.map .ref
abbrev TR (as : List Addr) : Pd := IsTpl fun vs => vs = as.map .ref
abbrev TI (ns : List Int) : Pd := IsTpl fun vs => IntsAre vs ns

inductive SetL (x : Str) (P : Vp) : List (Str × Vp) → List (Str × Vp) → Prop
  | new : SetL x P [] [(x, P)]
  | here {P₀ : Vp} {r : List (Str × Vp)} : SetL x P ((x, P₀) :: r) ((x, P) :: r)
  | there {y : Str} {P₀ : Vp} {r r' : List (Str × Vp)} (h : y ≠ x) : SetL x P r r' → SetL x P ((y, P₀) :: r) ((y, P₀) :: r')
theorem SetL.keys {x : Str} {P : Vp} {r r' : List (Str × Vp)} (u : SetL x P r r') : ∀ y, y ∈ r'.map (·.1) → y = x ∨ y ∈ r.map (·.1) := by
  induction u with
  | new => intro y h; simp at h; exact .inl h
  | here => intro y h; exact .inr h
  | there _ _ ih =>
    intro y h
    rcases List.mem_cons.mp h with h | h
    · exact .inr (h ▸ .head _)
    · exact (ih y h).imp id (.tail _)
theorem SetL.nodup {x : Str} {P : Vp} {r r' : List (Str × Vp)} (u : SetL x P r r') (h : (r.map (·.1)).Nodup) : (r'.map (·.1)).Nodup := by
  induction u with
  | new => simp
  | here => exact h
  | there hn u ih =>
    simp only [List.map_cons, List.nodup_cons] at h ⊢
    exact ⟨fun q => (u.keys _ q).elim hn h.1, ih h.2⟩
theorem SetL.mem {x : Str} {P : Vp} {r r' : List (Str × Vp)} (u : SetL x P r r') (h : (r.map (·.1)).Nodup) : ∀ p ∈ r', p = (x, P) ∨ (p.1 ≠ x ∧ p ∈ r) := by
  induction u with
  | new => intro p h; simp at h; exact .inl h
  | @here P₀ r =>
    intro p hp
    simp only [List.map_cons, List.nodup_cons] at h
    rcases List.mem_cons.mp hp with rfl | hp
    · exact .inl rfl
    · exact .inr ⟨fun e => h.1 (e ▸ List.mem_map_of_mem hp), .tail _ hp⟩
  | there hn u ih =>
    intro p hp
    simp only [List.map_cons, List.nodup_cons] at h
    rcases List.mem_cons.mp hp with rfl | hp
    · exact .inr ⟨hn, .head _⟩
    · exact (ih h.2 p hp).imp id fun q => ⟨q.1, .tail _ q.2⟩
theorem IsNs.set {ms ms' : List (Str × Vp)} {o : Obj} {x : Str} {P : Vp} {v : Value} {h' : Heap} {L : Addr} (I : IsNs ms o) (u : SetL x P ms ms') (hv : P v) (es ep) (hd : o.data = .dict es ep)
    (hn : h'.Ns L (fun y => if y = x then some v else nsFind es y)) : ∃ o', h'.get? L = some o' ∧ IsNs ms' o' := by
  obtain ⟨es₀, ep₀, hd₀, hk, hnd, hm⟩ := I
  rw [hd] at hd₀; cases hd₀
  obtain ⟨o', es', ep', ho', hd', hk', hf'⟩ := hn
  refine ⟨o', ho', es', ep', hd', hk', u.nodup hnd, fun p hp => ?_⟩
  rcases u.mem hnd p hp with rfl | ⟨h1, h2⟩
  · exact ⟨v, by rw [hf']; simp, hv⟩
  · obtain ⟨w, e, q⟩ := hm p h2
    exact ⟨w, by rw [hf']; show (if p.1 = x then some v else nsFind es p.1) = _; rw [if_neg h1]; exact e, q⟩
theorem IsNs.sub {ms ms' : List (Str × Vp)} {o : Obj} (I : IsNs ms o) (h : ms'.Sublist ms) : IsNs ms' o :=
  let ⟨es, ep, a, b, c, d⟩ := I; ⟨es, ep, a, b, List.Nodup.sublist (h.map _) c, fun p hp => d p (h.subset hp)⟩
theorem IsNs.imp {ms ms' : List (Str × Vp)} {o : Obj} (I : IsNs ms o) (hk : ms'.map (·.1) = ms.map (·.1)) (h : ∀ es : Array DictEntry, (∀ p ∈ ms, ∃ v, nsFind es p.1 = some v ∧ p.2 v) → ∀ p ∈ ms', ∃ v, nsFind es p.1 = some v ∧ p.2 v) : IsNs ms' o :=
  let ⟨es, ep, a, b, c, d⟩ := I; ⟨es, ep, a, b, hk ▸ c, h es d⟩
/-! ## steps -/
section
variable {prog : Program} {w : World} {A : Around} {E : Value → Shared → Prop} {s₀ s : Shared} {g : Heap} {σ σ' : Led} {env : Env} {L : Addr} {ms ms' : List (Str × Vp)} {x : Str} {pos : Pos}

theorem St.ns (S : St s₀ g s ((L, IsNs ms) :: σ)) (h : ms'.Sublist ms) : St s₀ g s ((L, IsNs ms') :: σ) :=
  S.imp rfl fun p hp => by
    rcases List.mem_cons.mp hp with rfl | hp
    · exact (S.get (.head _)).imp fun o I => I.sub h
    · exact S.has p (.tail _ hp)
theorem nmL {P : Vp} {Q : Value → Shared → Prop} (S : St s₀ g s ((L, IsNs ms) :: σ)) (hm : (x, P) ∈ ms) (h : ∀ v, P v → Q v s)
    (hL : env.locals = L := by rfl) (hk : env.scope.kind = .function := by rfl) (hx : env.kindOf x = some .local := by rfl) (hd : (x == ("__debug__" : Str)) = false := by decide) :
    wpAny (model prog w) A (eval (.Name x pos) env) Q E s := by
  obtain ⟨o, ho, es, ep, hdt, hks, hnd, hms⟩ := S.get (.head _)
  obtain ⟨v, hv, hp⟩ := hms _ hm
  have hn : s.heap.Ns env.locals (nsFind es) := ⟨o, es, ep, hL ▸ ho, hdt, hks, fun _ => rfl⟩
  exact wpAny_Name (wpAny_loadName_local hk hx hn hv (h v hp)) hd
theorem nmI {n : Int} {Q : Value → Shared → Prop} (S : St s₀ g s ((L, IsNs ms) :: σ)) (hm : (x, vI n) ∈ ms) (h : ∀ t, Q (.int n t) s)
    (hL : env.locals = L := by rfl) (hk : env.scope.kind = .function := by rfl) (hx : env.kindOf x = some .local := by rfl) (hd : (x == ("__debug__" : Str)) = false := by decide) :
    wpAny (model prog w) A (eval (.Name x pos) env) Q E s := nmL S hm (fun v ⟨t, e⟩ => e ▸ h t) hL hk hx hd
theorem nmR {a : Addr} {Q : Value → Shared → Prop} (S : St s₀ g s ((L, IsNs ms) :: σ)) (hm : (x, vR a) ∈ ms) (h : Q (.ref a) s)
    (hL : env.locals = L := by rfl) (hk : env.scope.kind = .function := by rfl) (hx : env.kindOf x = some .local := by rfl) (hd : (x == ("__debug__" : Str)) = false := by decide) :
    wpAny (model prog w) A (eval (.Name x pos) env) Q E s := nmL S hm (fun v e => (show v = .ref a from e) ▸ h) hL hk hx hd
theorem nmN {Q : Value → Shared → Prop} (S : St s₀ g s ((L, IsNs ms) :: σ)) (hm : (x, vN) ∈ ms) (h : Q .none s)
    (hL : env.locals = L := by rfl) (hk : env.scope.kind = .function := by rfl) (hx : env.kindOf x = some .local := by rfl) (hd : (x == ("__debug__" : Str)) = false := by decide) :
    wpAny (model prog w) A (eval (.Name x pos) env) Q E s := nmL S hm (fun v e => (show v = .none from e) ▸ h) hL hk hx hd
/-- a cell's name -/
theorem nmC {c : Addr} {P : Vp} {Q : Value → Shared → Prop} (hc : env.cells.lookup x = some c) (C : At s.heap c (IsCl P)) (h : ∀ v, P v → Q v s)
    (hk : env.scope.kind = .function := by rfl) (hx : env.kindOf x = some .cell := by rfl) (hd : (x == ("__debug__" : Str)) = false := by decide) :
    wpAny (model prog w) A (eval (.Name x pos) env) Q E s := by
  obtain ⟨o, ho, v, hdt, hp⟩ := C
  exact wpAny_Name (wpAny_loadName_cell hk hx hc ⟨o, ho, hdt⟩ (h v hp)) hd
theorem stL {P : Vp} {v : Value} {Q : Unit → Shared → Prop} (S : St s₀ g s ((L, IsNs ms) :: σ)) (u : SetL x P ms ms') (hv : P v) (h : ∀ s', St s₀ g s' ((L, IsNs ms') :: σ) → Q () s')
    (hL : env.locals = L := by rfl) (hk : env.scope.kind = .function := by rfl) (hx : env.kindOf x = some .local := by rfl) :
    wpAny (model prog w) A (storeName env x v) Q E s := by
  obtain ⟨o, ho, I⟩ := S.get (.head _)
  obtain ⟨es, ep, hdt, hks, hnd, hms⟩ := id I
  have hn : s.heap.Ns env.locals (nsFind es) := ⟨o, es, ep, hL ▸ ho, hdt, hks, fun _ => rfl⟩
  refine wpAny_storeName_local hx hn (fun h' hn' hs => ?_) (by rw [hk]; rfl)
  rw [hL] at hn' hs
  obtain ⟨o', ho', I'⟩ := I.set u hv es ep hdt hn'
  exact h _ (S.upd .here hs ho' I')
theorem stI {n : Int} {t : Tok} {Q : Unit → Shared → Prop} (S : St s₀ g s ((L, IsNs ms) :: σ)) (u : SetL x (vI n) ms ms') (h : ∀ s', St s₀ g s' ((L, IsNs ms') :: σ) → Q () s')
    (hL : env.locals = L := by rfl) (hk : env.scope.kind = .function := by rfl) (hx : env.kindOf x = some .local := by rfl) :
    wpAny (model prog w) A (storeName env x (.int n t)) Q E s := stL S u ⟨t, rfl⟩ h hL hk hx
theorem stR {a : Addr} {Q : Unit → Shared → Prop} (S : St s₀ g s ((L, IsNs ms) :: σ)) (u : SetL x (vR a) ms ms') (h : ∀ s', St s₀ g s' ((L, IsNs ms') :: σ) → Q () s')
    (hL : env.locals = L := by rfl) (hk : env.scope.kind = .function := by rfl) (hx : env.kindOf x = some .local := by rfl) :
    wpAny (model prog w) A (storeName env x (.ref a)) Q E s := stL S u rfl h hL hk hx
theorem stC {c : Addr} {P : Vp} {P₀ : Pd} {v : Value} {Q : Unit → Shared → Prop} (S : St s₀ g s σ) (hc : env.cells.lookup x = some c) (u : Up c P₀ (IsCl P) σ σ') (h₀ : ∀ o, P₀ o → IsClE o) (hv : P v) (h : ∀ s', St s₀ g s' σ' → Q () s')
    (hk : env.scope.kind = .function := by rfl) (hx : env.kindOf x = some .cell := by rfl) :
    wpAny (model prog w) A (storeName env x v) Q E s := by
  obtain ⟨o, ho, hP⟩ := S.get u.mem
  obtain ⟨v₀, hd⟩ := h₀ o hP
  refine wpAny_storeName_cell hk hx hc ⟨o, ho, hd⟩ fun h' hn hs => ?_
  obtain ⟨o', ho', hd'⟩ := hn
  exact h _ (S.upd u hs ho' ⟨v, hd', hv⟩)
theorem IsCl.any {P : Vp} : ∀ o, IsCl P o → IsClE o := fun _ ⟨v, h, _⟩ => ⟨some v, h⟩
theorem IsClE.any : ∀ o, IsClE o → IsClE o := fun _ h => h

theorem kI {i : Int} {k : Nat} {Q : Value → Shared → Prop} (S : St s₀ g s σ) (h : ∀ s' t, St s₀ g s' σ → Q (.int i t) s') : wpAny (model prog w) A (eval (.Constant (.int i) k pos) env) Q E s :=
  wpAny_Constant_int (h _ _ (S.tok _))
theorem kN {k : Nat} {Q : Value → Shared → Prop} (h : Q .none s) : wpAny (model prog w) A (eval (.Constant .none k pos) env) Q E s := wpAny_Constant_none h

section
variable {a b : Int} {t u : Tok} {Q : Value → Shared → Prop}
theorem oAdd (S : St s₀ g s σ) (h : ∀ s' t', St s₀ g s' σ → Q (.int (a + b) t') s') : wpAny (model prog w) A (binaryOp .Add (.int a t) (.int b u)) Q E s := add_int (h _ _ (S.tok _))
theorem oSub (S : St s₀ g s σ) (h : ∀ s' t', St s₀ g s' σ → Q (.int (a - b) t') s') : wpAny (model prog w) A (binaryOp .Sub (.int a t) (.int b u)) Q E s := sub_int (h _ _ (S.tok _))
theorem oMul (S : St s₀ g s σ) (hm : IntMulOk a b) (h : ∀ s' t', St s₀ g s' σ → Q (.int (a * b) t') s') : wpAny (model prog w) A (binaryOp .Mult (.int a t) (.int b u)) Q E s := mul_int (h _ _ (S.tok _)) hm
theorem oMod (S : St s₀ g s σ) (hb : b ≠ 0) (h : ∀ s' t', St s₀ g s' σ → Q (.int (a.fmod b) t') s') : wpAny (model prog w) A (binaryOp .Mod (.int a t) (.int b u)) Q E s := mod_int hb (h _ _ (S.tok _))
theorem oDiv (S : St s₀ g s σ) (hb : b ≠ 0) (hs : b.natAbs < 2 ^ 64) (h : ∀ s' t', St s₀ g s' σ → Q (.int (a.fdiv b) t') s') : wpAny (model prog w) A (binaryOp .FloorDiv (.int a t) (.int b u)) Q E s :=
  floordiv_int hb (h _ _ (S.tok _)) (.inl (by
    unfold Builtin.divisionGoesByPylong
    have hl : b.natAbs.log2 < 64 := by
      by_cases h0 : b.natAbs = 0
      · rw [h0]; decide
      · exact (Nat.log2_lt h0).mpr hs
    have hz : (if (b == 0) = true then 0 else b.natAbs.log2 / 30 + 1) ≤ 300 := by split <;> omega
    simp only [Bool.and_eq_false_iff, decide_eq_false_iff_not]
    exact .inl (by omega)))
theorem oOr (S : St s₀ g s σ) (h : ∀ s' t', St s₀ g s' σ → Q (.int (Builtin.bitOr a b) t') s') : wpAny (model prog w) A (binaryOp .BitOr (.int a t) (.int b u)) Q E s := or_int (h _ _ (S.tok _))
theorem oAnd (S : St s₀ g s σ) (h : ∀ s' t', St s₀ g s' σ → Q (.int (Builtin.bitAnd a b) t') s') : wpAny (model prog w) A (binaryOp .BitAnd (.int a t) (.int b u)) Q E s := and_int (h _ _ (S.tok _))
theorem oShl (S : St s₀ g s σ) (hb : 0 ≤ b) (hb2 : b ≤ 1000000) (ha : a.natAbs < 2 ^ 64) (h : ∀ s' t', St s₀ g s' σ → Q (.int (a * 2 ^ b.toNat) t') s') : wpAny (model prog w) A (binaryOp .LShift (.int a t) (.int b u)) Q E s := lshift_int_small hb hb2 ha (h _ _ (S.tok _))
theorem oShr (S : St s₀ g s σ) (hb : 0 ≤ b) (h : ∀ s' t', St s₀ g s' σ → Q (.int (a.fdiv (2 ^ b.toNat)) t') s') : wpAny (model prog w) A (binaryOp .RShift (.int a t) (.int b u)) Q E s := rshift_int hb (h _ _ (S.tok _))
theorem oNeg (S : St s₀ g s σ) (h : ∀ s' t', St s₀ g s' σ → Q (.int (-a) t') s') : wpAny (model prog w) A (unaryOp .USub (.int a t)) Q E s := neg_int (h _ _ (S.tok _))
end

/-! items -/
section
variable {value slice : Expr} {a : Addr} {ns : List Int} {as : List Addr} {k : Int} {u : Tok} {Q : Value → Shared → Prop}
theorem isL_of {P : List Value → Prop} {h : Heap} (X : At h a (IsLst P)) : ∃ vs n, P vs ∧ h.get? a = some (listOf vs.toArray n) := by
  obtain ⟨_, ho, vs, n, hp, rfl⟩ := X; exact ⟨vs, n, hp, ho⟩
theorem itI (X : At s.heap a (LI ns)) (h0 : 0 ≤ k) (h1 : k < ns.length) (hf : k < 2 ^ 63) (h : ∀ t, Q (.int (ns.getD k.toNat 0) t) s)
    (hs : subscripted slice false (.ref a) (.int k u) = operate [.ref a, .int k u] (getItem (.ref a) (.int k u)) := by with_unfolding_all rfl) :
    wpAny (model prog w) A (subscriptTail value slice (.ref a) (.int k u)) Q E s := by
  obtain ⟨vs, n, hi, ho⟩ := isL_of X
  exact item_anyK (PySem.IsL.isList (n := n) ho) hi h0 h1 hf h hs
theorem itV {P : List Value → Prop} {v : Value} (X : At s.heap a (IsLst P)) (h0 : 0 ≤ k) (hf : k < 2 ^ 63) (hv : ∀ vs, P vs → vs[k.toNat]? = some v) (h : Q v s)
    (hs : subscripted slice false (.ref a) (.int k u) = operate [.ref a, .int k u] (getItem (.ref a) (.int k u)) := by with_unfolding_all rfl) :
    wpAny (model prog w) A (subscriptTail value slice (.ref a) (.int k u)) Q E s := by
  obtain ⟨vs, n, hi, ho⟩ := isL_of X
  have hl := PySem.IsL.isList (n := n) ho
  exact tail_any hl.typeIs slot_list_getitem.lookup (wpAny_getItem_list hl h0 hf (by simpa using hv vs hi) h) hs
theorem itR (X : At s.heap a (LR as)) (h0 : 0 ≤ k) (h1 : k < as.length) (hf : k < 2 ^ 63) (h : Q (.ref (as.getD k.toNat 0)) s)
    (hs : subscripted slice false (.ref a) (.int k u) = operate [.ref a, .int k u] (getItem (.ref a) (.int k u)) := by with_unfolding_all rfl) :
    wpAny (model prog w) A (subscriptTail value slice (.ref a) (.int k u)) Q E s := by
  refine itV X h0 hf (fun vs e => ?_) h hs
  subst e
  have : k.toNat < as.length := by omega
  simp [List.getD, this]
theorem itV_neg {P : List Value → Prop} {v : Value} (X : At s.heap a (IsLst P)) (hv : ∀ vs, P vs → k < 0 ∧ -(vs.length : Int) ≤ k ∧ -2 ^ 63 ≤ k ∧ vs[(k + vs.length).toNat]? = some v) (h : Q v s)
    (hs : subscripted slice false (.ref a) (.int k u) = operate [.ref a, .int k u] (getItem (.ref a) (.int k u)) := by with_unfolding_all rfl) :
    wpAny (model prog w) A (subscriptTail value slice (.ref a) (.int k u)) Q E s := by
  obtain ⟨vs, n, hi, ho⟩ := isL_of X
  have hl := PySem.IsL.isList (n := n) ho
  obtain ⟨h1, h2, h3, h4⟩ := hv vs hi
  exact tail_any hl.typeIs slot_list_getitem.lookup (wpAny_getItem_list_neg hl h1 (by simpa using h2) h3 (by simpa using h4) h) hs
theorem setV {P P' : List Value → Prop} {v : Value} {Q : Unit → Shared → Prop} (S : St s₀ g s σ) (U : Up a (IsLst P) (IsLst P') σ σ') (h0 : 0 ≤ k) (hf : k < 2 ^ 63) (hP : ∀ vs, P vs → k < vs.length ∧ P' (vs.set k.toNat v))
    (h : ∀ s', St s₀ g s' σ' → Q () s') : wpAny (model prog w) A (setItem (.ref a) (.int k u) v) Q E s := by
  obtain ⟨vs, n, hi, ho⟩ := isL_of (S.get U.mem)
  obtain ⟨h1, h2⟩ := hP vs hi
  refine ki_setAt ho h0 hf (by simpa using h1) (h _ (S.upd (o' := listOf (vs.set k.toNat v).toArray n) U (Heap.SameBut.update ..) ?_ ⟨_, n, h2, rfl⟩))
  have q := PySem.IsL.update ho (·.setIfInBounds k.toNat v)
  simpa using q
theorem ints_set' {x : Int} {u : Tok} {vs : List Value} {ns : List Int} (h : IntsAre vs ns) (j : Nat) : IntsAre (vs.set j (.int x u)) (ns.set j x) := ints_set h j
theorem setI {x : Int} {t : Tok} {Q : Unit → Shared → Prop} (S : St s₀ g s σ) (U : Up a (LI ns) (LI (ns.set k.toNat x)) σ σ') (h0 : 0 ≤ k) (h1 : k < ns.length) (hf : k < 2 ^ 63)
    (h : ∀ s', St s₀ g s' σ' → Q () s') : wpAny (model prog w) A (setItem (.ref a) (.int k u) (.int x t)) Q E s :=
  setV S U h0 hf (fun vs hv => ⟨by rw [hv.length]; exact h1, ints_set hv _⟩) h
theorem setR {b : Addr} {Q : Unit → Shared → Prop} (S : St s₀ g s σ) (U : Up a (LR as) (LR (as.set k.toNat b)) σ σ') (h0 : 0 ≤ k) (h1 : k < as.length) (hf : k < 2 ^ 63)
    (h : ∀ s', St s₀ g s' σ' → Q () s') : wpAny (model prog w) A (setItem (.ref a) (.int k u) (.ref b)) Q E s :=
  setV S U h0 hf (fun vs hv => by subst hv; exact ⟨by simpa using h1, by simp⟩) h
end

/-! making -/
theorem mkL {P : List Value → Prop} {vs : List Value} {Q : Value → Shared → Prop} (S : St s₀ g s ((L, IsNs ms) :: σ)) (hp : P vs) (hz : vs.length ≤ sizeLine) (h : ∀ s' a, St s₀ g s' ((L, IsNs ms) :: (a, IsLst P) :: σ) → Q (.ref a) s') : wpAny (model prog w) A (newList vs) Q E s :=
  wpAny_newObj_type (h _ _ (S.push (P := IsLst P) (tk := s.toks) ⟨vs, 0, hp, rfl⟩ rfl).swap) (by show vs.toArray.size ≤ sizeLine; rw [List.size_toArray]; exact hz)
theorem mkT {P : List Value → Prop} {vs : List Value} {Q : Value → Shared → Prop} (S : St s₀ g s ((L, IsNs ms) :: σ)) (hp : P vs) (hz : vs.length ≤ sizeLine) (h : ∀ s' a, St s₀ g s' ((L, IsNs ms) :: (a, IsTpl P) :: σ) → Q (.ref a) s') : wpAny (model prog w) A (newTuple vs) Q E s :=
  wpAny_newObj_type (h _ _ (S.push (P := IsTpl P) (tk := s.toks) ⟨vs, 0, hp, rfl⟩ rfl).swap) (by show vs.toArray.size ≤ sizeLine; rw [List.size_toArray]; exact hz)

/-! calls of built-ins -/
theorem cLen {P : List Value → Prop} {a : Addr} {n : Nat} {Q : Value → Shared → Prop} (S : St s₀ g s σ) (X : At s.heap a (IsLst P)) (hn : ∀ vs, P vs → vs.length = n) (hf : (n : Int) < 2 ^ 63) (h : ∀ s' t, St s₀ g s' σ → Q (.int n t) s') :
    wpAny (model prog w) A (call (.builtin "len") [.ref a]) Q E s := by
  obtain ⟨vs, k, hi, ho⟩ := isL_of X
  have e : vs.toArray.size = n := by rw [List.size_toArray]; exact hn vs hi
  refine len_list (PySem.IsL.isList (n := k) ho) (by rw [e]; exact hf) ?_
  rw [e]; exact h _ _ (S.tok _)
theorem cAppend {P P' : List Value → Prop} {a : Addr} {v : Value} {Q : Value → Shared → Prop} (S : St s₀ g s σ) (U : Up a (IsLst P) (IsLst P') σ σ') (hP : ∀ vs, P vs → P' (vs ++ [v]) ∧ vs.length ≤ sizeLine) (h : ∀ s', St s₀ g s' σ' → Q .none s') :
    wpAny (model prog w) A (call (.builtin "list.append") [.ref a, v]) Q E s := by
  obtain ⟨vs, n, hi, ho⟩ := isL_of (S.get U.mem)
  refine append_at ho (fun h' hs ho' => h _ (S.upd U hs ho' ⟨_, n + 1, (hP vs hi).1, by simp⟩)) (by rw [List.size_toArray]; exact (hP vs hi).2)
theorem cPop {P P' : List Value → Prop} {V : Vp} {a : Addr} {Q : Value → Shared → Prop} (S : St s₀ g s σ) (U : Up a (IsLst P) (IsLst P') σ σ') (hP : ∀ vs, P vs → ∃ vs' v, vs = vs' ++ [v] ∧ P' vs' ∧ V v ∧ vs.length ≤ sizeLine) (h : ∀ s' v, V v → St s₀ g s' σ' → Q v s') :
    wpAny (model prog w) A (call (.builtin "list.pop") [.ref a]) Q E s := by
  obtain ⟨vs, n, hi, ho⟩ := isL_of (S.get U.mem)
  obtain ⟨p, v, rfl, hp, hv, hz⟩ := hP vs hi
  have hz' : (p ++ [v]).toArray.size ≤ sizeLine := by rw [List.size_toArray]; exact hz
  have hk : (p ++ [v]).toArray.size - 1 = p.length := by rw [List.size_toArray, List.length_append]; rfl
  have hy : (p ++ [v]).toArray[(p ++ [v]).toArray.size - 1]? = some v := by rw [hk]; simp
  refine call_meets PySem.F.slot_list_pop ⟨_, ho, rfl⟩ PySem.F.entry_list_pop (PySem.F.args_list_pop_1 _) (PySem.MeetsSeq.list_pop_last a _ n v hy hz') ⟨ho, h _ _ hv (S.upd (o' := listOf p.toArray (n + 1)) U (Heap.SameBut.update ..) ?_ ⟨p, n + 1, hp, rfl⟩)⟩
  have q := PySem.IsL.update ho (fun xs => xs.eraseIdxIfInBounds ((p ++ [v]).toArray.size - 1))
  have e : (p ++ [v]).toArray.eraseIdxIfInBounds ((p ++ [v]).toArray.size - 1) = p.toArray := by rw [hk, kl_erase, List.append_nil]
  rw [e, if_neg (by simp)] at q
  exact q
theorem cPop0 {P P' : List Value → Prop} {V : Vp} {a : Addr} {u : Tok} {Q : Value → Shared → Prop} (S : St s₀ g s σ) (U : Up a (IsLst P) (IsLst P') σ σ') (hP : ∀ vs, P vs → ∃ v vs', vs = v :: vs' ∧ P' vs' ∧ V v ∧ vs.length ≤ sizeLine) (h : ∀ s' v, V v → St s₀ g s' σ' → Q v s') :
    wpAny (model prog w) A (call (.builtin "list.pop") [.ref a, .int 0 u]) Q E s := by
  obtain ⟨vs, n, hi, ho⟩ := isL_of (S.get U.mem)
  obtain ⟨v, p, rfl, hp, hv, hz⟩ := hP vs hi
  have hz' : (v :: p).toArray.size ≤ sizeLine := by rw [List.size_toArray]; exact hz
  have hk : seqIndex? 0 (v :: p).toArray.size = some 0 := by rw [List.size_toArray, List.length_cons]; simp [seqIndex?]
  refine call_meets PySem.F.slot_list_pop ⟨_, ho, rfl⟩ PySem.F.entry_list_pop (PySem.F.args_list_pop_2 _ _) (PySem.MeetsSeq.list_pop_at a _ n 0 u 0 v rfl hk (by simp) hz') ⟨ho, h _ _ hv (S.upd (o' := listOf p.toArray (n + 1)) U (Heap.SameBut.update ..) ?_ ⟨p, n + 1, hp, rfl⟩)⟩
  have q := PySem.IsL.update ho (fun xs => xs.eraseIdxIfInBounds 0)
  have e : (v :: p).toArray.eraseIdxIfInBounds 0 = p.toArray := kl_erase [] p v
  rw [e, if_neg (by simp)] at q
  exact q
theorem gMeth {P : List Value → Prop} {a : Addr} {name : Str} {id : String} {pl : Sem Bool} {Q : Value × List Value → Shared → Prop} (X : At s.heap a (IsLst P)) (slot : Slot "list" name id) (hty : typeOf (.builtin id) = pure (.type "method_descriptor"))
    (h : Q (.builtin id, [.ref a]) s) : wpAny (model prog w) A (getMethod (.ref a) name pl) Q E s := by
  obtain ⟨vs, n, hi, ho⟩ := isL_of X
  exact getMethod_builtin ⟨_, ho, rfl⟩ PySem.F.plainAttrs_list slot hty (fun a e => by cases e; exact ⟨_, ho, rfl⟩) h
theorem cList {P : List Value → Prop} {a : Addr} {Q : Value → Shared → Prop} (S : St s₀ g s ((L, IsNs ms) :: σ)) (X : At s.heap a (IsLst P)) (hz : ∀ vs, P vs → vs.length ≤ sizeLine) (h : ∀ s' b, St s₀ g s' ((L, IsNs ms) :: (b, IsLst P) :: σ) → Q (.ref b) s') :
    wpAny (model prog w) A (call (.type "list") [.ref a]) Q E s := by
  obtain ⟨vs, n, hi, ho⟩ := isL_of X
  exact call_list_seq (hsz := by rw [List.size_toArray]; exact hz vs hi) a (.inl rfl) ho rfl rfl fun h' c' hk hD => h _ _ (S.new (P := IsLst P) (tk := s.toks) hk (get_size_none _) hD ⟨vs, c', hi, rfl⟩).swap
theorem trL {P : List Value → Prop} {a : Addr} {b : Bool} {Q : Bool → Shared → Prop} (S : St s₀ g s σ) (X : At s.heap a (IsLst P)) (hb : ∀ vs, P vs → (!vs.isEmpty) = b ∧ vs.length < 2 ^ 60) (h : ∀ s', St s₀ g s' σ → Q b s') :
    wpAny (model prog w) A (truthy (.ref a)) Q E s := by
  obtain ⟨vs, n, hi, ho⟩ := isL_of X
  obtain ⟨h1, h2⟩ := hb vs hi
  refine wpAny_truthy_list (PySem.IsL.isList (n := n) ho) (by rw [List.size_toArray]; omega) ?_
  have e : (!vs.toArray.isEmpty) = b := by rw [← h1]; simp
  rw [e]
  exact h _ (S.tok _)
end
structure Gd (w : World) (g : Heap) : Prop where
  X : (hd.heap_39 w.params).In g
  T : ∃ p loose mg mb, TopRead p loose mg mb g
theorem Gd.mono {w : World} {g g' : Heap} (G : Gd w g) (k : Sub g g') : Gd w g' :=
  ⟨G.X.keeps k, let ⟨p, loose, mg, mb, T⟩ := G.T; ⟨p, loose, mg, mb, T.g.keeps k, T.b.keeps k, T.nolimit.keeps k, T.builtins, T.free⟩⟩

theorem k_filled : (PySem.Challenge.rw_nn0352_01 = PySem.Challenge.rw_nn0352_01) ∧ (hd.heap_39 = hd.heap_39) := by
  k_fill
  exact ⟨rfl, rfl⟩

section
variable {prog : Program} {w : World} {A : Around} {E : Value → Shared → Prop} {s₀ s : Shared} {g : Heap} {σ σ' : Led} {env : Env} {x : Str} {pos : Pos} {v : Value} {Q : Value → Shared → Prop}
theorem nmG (S : St s₀ g s σ) (G : Gd w g) (e : nsIn (hd.heap_39 w.params) mainGlobals x = some (some v)) (h : Q v s)
    (hg : env.globals = mainGlobals) (hk : env.scope.kind = .function) (hx : env.kindOf x = some .globalImplicit) (hd : (x == ("__debug__" : Str)) = false) :
    wpAny (model prog w) A (eval (.Name x pos) env) Q E s := by
  obtain ⟨p, loose, mg, mb, T⟩ := G.T
  exact Name_function_global hk hx (loadGlobal_global (env := env) (by rw [hg]; exact T.g.keeps S.keep) (mg_of G.X T.g e) h) hd
theorem nmB (S : St s₀ g s σ) (G : Gd w g) (e : nsIn (hd.heap_39 w.params) mainGlobals x = some none) (hv : bootBuiltins x = some v) (hn : x ≠ "__name__") (h : Q v s)
    (hg : env.globals = mainGlobals) (hb : env.builtins = builtinsNs) (hk : env.scope.kind = .function) (hx : env.kindOf x = some .globalImplicit) (hd : (x == ("__debug__" : Str)) = false) :
    wpAny (model prog w) A (eval (.Name x pos) env) Q E s := by
  obtain ⟨p, loose, mg, mb, T⟩ := G.T
  exact Name_function_global hk hx (loadGlobal_builtin (env := env) (by rw [hg]; exact T.g.keeps S.keep) (mg_none_of G.X T.g e) (by rw [hb]; exact T.b.keeps S.keep) ((T.builtins x hn).trans hv) h) hd
end

theorem g_digraph (P : Params) : nsIn (hd.heap_39 P) mainGlobals "digraph" = some (some (.ref 21)) := by k_is
theorem g_rings (P : Params) : nsIn (hd.heap_39 P) mainGlobals "rings" = some (some (.ref 26)) := by k_is
theorem g_mask_behind (P : Params) : nsIn (hd.heap_39 P) mainGlobals "mask_behind" = some (some (.ref 33)) := by k_is
theorem g_shortest_chain (P : Params) : nsIn (hd.heap_39 P) mainGlobals "shortest_chain" = some (some (.ref 40)) := by k_is
theorem g_law_pen (P : Params) : nsIn (hd.heap_39 P) mainGlobals "_law_pen" = some (some (.ref 45)) := by k_is
theorem g_law_draw (P : Params) : nsIn (hd.heap_39 P) mainGlobals "_law_draw" = some (some (.ref 52)) := by k_is
theorem g_law_pick (P : Params) : nsIn (hd.heap_39 P) mainGlobals "_law_pick" = some (some (.ref 59)) := by k_is
theorem g_law_world (P : Params) : nsIn (hd.heap_39 P) mainGlobals "_law_world" = some (some (.ref 64)) := by k_is
theorem g_law_levels (P : Params) : nsIn (hd.heap_39 P) mainGlobals "_law_levels" = some (some (.ref 71)) := by k_is
theorem g_law_union (P : Params) : nsIn (hd.heap_39 P) mainGlobals "_law_union" = some (some (.ref 76)) := by k_is
theorem g_law_chain_right (P : Params) : nsIn (hd.heap_39 P) mainGlobals "_law_chain_right" = some (some (.ref 81)) := by k_is
theorem n_len (P : Params) : nsIn (hd.heap_39 P) mainGlobals "len" = some none := by k_is
theorem n_list (P : Params) : nsIn (hd.heap_39 P) mainGlobals "list" = some none := by k_is
theorem n_range (P : Params) : nsIn (hd.heap_39 P) mainGlobals "range" = some none := by k_is
theorem n_int (P : Params) : nsIn (hd.heap_39 P) mainGlobals "int" = some none := by k_is
theorem n_abs (P : Params) : nsIn (hd.heap_39 P) mainGlobals "abs" = some none := by k_is
theorem n_min (P : Params) : nsIn (hd.heap_39 P) mainGlobals "min" = some none := by k_is
theorem n_isinstance (P : Params) : nsIn (hd.heap_39 P) mainGlobals "isinstance" = some none := by k_is
theorem n_tuple (P : Params) : nsIn (hd.heap_39 P) mainGlobals "tuple" = some none := by k_is
theorem n_reversed (P : Params) : nsIn (hd.heap_39 P) mainGlobals "reversed" = some none := by k_is
theorem b_len : bootBuiltins "len" = some (.builtin "len") := by boot_fast
theorem b_list : bootBuiltins "list" = some (.type "list") := by boot_fast
theorem b_range : bootBuiltins "range" = some (.type "range") := by boot_fast
theorem b_int : bootBuiltins "int" = some (.type "int") := by boot_fast
theorem b_abs : bootBuiltins "abs" = some (.builtin "abs") := by boot_fast
theorem b_min : bootBuiltins "min" = some (.builtin "min") := by boot_fast
theorem b_isinstance : bootBuiltins "isinstance" = some (.builtin "isinstance") := by boot_fast
theorem b_tuple : bootBuiltins "tuple" = some (.type "tuple") := by boot_fast
theorem b_reversed : bootBuiltins "reversed" = some (.type "reversed") := by boot_fast

/-! the defs -/
abbrev FnAt (a : Addr) (fd : FuncData) : Prop := ∀ P, (hd.heap_39 P).lookup a = some ⟨.type "function", none, .func fd, #[]⟩
noncomputable def fDg : { fd : FuncData // FnAt 21 fd } := ⟨_, fun P => by k_is⟩
noncomputable def fRings : { fd : FuncData // FnAt 26 fd } := ⟨_, fun P => by k_is⟩
noncomputable def fMask : { fd : FuncData // FnAt 33 fd } := ⟨_, fun P => by k_is⟩
noncomputable def fChain : { fd : FuncData // FnAt 40 fd } := ⟨_, fun P => by k_is⟩
noncomputable def fPen : { fd : FuncData // FnAt 45 fd } := ⟨_, fun P => by k_is⟩
noncomputable def fDraw : { fd : FuncData // FnAt 52 fd } := ⟨_, fun P => by k_is⟩
noncomputable def fPick : { fd : FuncData // FnAt 59 fd } := ⟨_, fun P => by k_is⟩
noncomputable def fWorld : { fd : FuncData // FnAt 64 fd } := ⟨_, fun P => by k_is⟩
noncomputable def fLevels : { fd : FuncData // FnAt 71 fd } := ⟨_, fun P => by k_is⟩
noncomputable def fUnion : { fd : FuncData // FnAt 76 fd } := ⟨_, fun P => by k_is⟩
noncomputable def fRight : { fd : FuncData // FnAt 81 fd } := ⟨_, fun P => by k_is⟩

theorem cd_dg (P : Params) : codeIn (hd.heap_39 P) fDg.1.code fDg.1.qualname = true := by unfold fDg; k_is
theorem cd_rings (P : Params) : codeIn (hd.heap_39 P) fRings.1.code fRings.1.qualname = true := by unfold fRings; k_is
theorem cd_mask (P : Params) : codeIn (hd.heap_39 P) fMask.1.code fMask.1.qualname = true := by unfold fMask; k_is
theorem cd_chain (P : Params) : codeIn (hd.heap_39 P) fChain.1.code fChain.1.qualname = true := by unfold fChain; k_is
theorem cd_pen (P : Params) : codeIn (hd.heap_39 P) fPen.1.code fPen.1.qualname = true := by unfold fPen; k_is
theorem cd_draw (P : Params) : codeIn (hd.heap_39 P) fDraw.1.code fDraw.1.qualname = true := by unfold fDraw; k_is
theorem cd_pick (P : Params) : codeIn (hd.heap_39 P) fPick.1.code fPick.1.qualname = true := by unfold fPick; k_is
theorem cd_world (P : Params) : codeIn (hd.heap_39 P) fWorld.1.code fWorld.1.qualname = true := by unfold fWorld; k_is
theorem cd_levels (P : Params) : codeIn (hd.heap_39 P) fLevels.1.code fLevels.1.qualname = true := by unfold fLevels; k_is
theorem cd_union (P : Params) : codeIn (hd.heap_39 P) fUnion.1.code fUnion.1.qualname = true := by unfold fUnion; k_is
theorem cd_right (P : Params) : codeIn (hd.heap_39 P) fRight.1.code fRight.1.qualname = true := by unfold fRight; k_is

inductive BOk : List (Str × Value) → List (Str × Vp) → Prop
  | nil : BOk [] []
  | cons {x : Str} {v : Value} {P : Vp} {bs : List (Str × Value)} {ms : List (Str × Vp)} (h : P v) : BOk bs ms → BOk ((x, v) :: bs) ((x, P) :: ms)
theorem BOk.keys {bs : List (Str × Value)} {ms : List (Str × Vp)} (h : BOk bs ms) : ms.map (·.1) = bs.map (·.1) := by
  induction h with
  | nil => rfl
  | cons _ _ ih => simp only [List.map_cons, ih]
theorem BOk.mem {bs : List (Str × Value)} {ms : List (Str × Vp)} (h : BOk bs ms) : ∀ p ∈ ms, ∃ v, (p.1, v) ∈ bs ∧ p.2 v := by
  induction h with
  | nil => intro p hp; cases hp
  | cons h _ ih =>
    intro p hp
    rcases List.mem_cons.mp hp with rfl | hp
    · exact ⟨_, .head _, h⟩
    · obtain ⟨v, a, b⟩ := ih p hp; exact ⟨v, .tail _ a, b⟩
theorem lookup_nodup {bs : List (Str × Value)} (hn : (bs.map (·.1)).Nodup) {x : Str} {v : Value} (h : (x, v) ∈ bs) : bs.lookup x = some v := by
  induction bs with
  | nil => cases h
  | cons p r ih =>
    obtain ⟨y, w⟩ := p
    simp only [List.map_cons, List.nodup_cons] at hn
    rcases List.mem_cons.mp h with e | h
    · cases e; simp [List.lookup]
    · have hne : (x == y) = false := by
        rw [beq_eq_false_iff_ne]
        exact fun e => hn.1 (e ▸ List.mem_map_of_mem (f := (·.1)) h)
      simp only [List.lookup, hne]
      exact ih hn.2 h
theorem BOk.look {bs : List (Str × Value)} {ms : List (Str × Vp)} (h : BOk bs ms) (hn : (bs.map (·.1)).Nodup) : ∀ p ∈ ms, ∃ v, bs.reverse.lookup p.1 = some v ∧ p.2 v := by
  intro p hp
  obtain ⟨v, a, b⟩ := h.mem p hp
  refine ⟨v, lookup_nodup ?_ (List.mem_reverse.mpr a), b⟩
  rw [List.map_reverse, List.Perm.nodup_iff (List.reverse_perm _)]; exact hn

section
variable {prog : Program} {w : World} {A : Around} {s₀ s : Shared} {g : Heap} {σ : Led} {R : Result → Shared → Prop} {f : Addr} {fd : FuncData} {body : List Stmt} {args : Args} {binds : List (Str × Value)} {ms : List (Str × Vp)}
theorem no_codeE {R : Result → Shared → Prop} {t : Sem Value} : True := trivial
theorem call_fn (S : St s₀ g s σ) (G : Gd w g) (hf : FnAt f fd) (hcd : ∀ P, codeIn (hd.heap_39 P) fd.code fd.qualname = true) (hbody : fd.body = .stmts body) (hroom : A.depth < recursionLimit)
    (hbind : bindArgs fd args = pure binds) (hb : BOk binds ms)
    (h : ∀ L s₁, St s₀ g s₁ ((L, IsNs ms) :: σ) → wpAny (model prog w) (A.deeper (callEnv fd L f)) (execs body (callEnv fd L f)) (fun fl s' => R (.ok (.ret (match fl with | .ret v => v | _ => .none))) s') (fun _ _ => False) s₁)
    (hcell : ∀ x ∈ fd.scope.names, x.2 ≠ .cell) (hloc : (binds.all fun x => decide (fd.scope.names.lookup x.1 = some .local)) = true) (hnd : (ms.map (·.1)).Nodup)
    (hco : fd.scope.isCoroutine = false) (hgen : fd.scope.isGenerator = false) (hk : fd.scope.kind = .function) :
    codeAny (model prog w) A (.call (.ref f) args) R s := by
  obtain ⟨p, loose, mg, mb, T⟩ := G.T
  have X := G.X.keeps S.keep
  refine codeAny_call_def hroom (X _ _ (hf _)) rfl (T.nolimit.keeps S.keep) (codeRec_of X (hcd _)) hbody (BindsTo.of_eq hbind) hcell (locs hloc) (fun h₁ hns hk₁ => ?_) hco hgen hk
  obtain ⟨o, es, ep, ho, hd', hks, hfd⟩ := hns
  have S' := S.new (P := IsNs ms) (tk := s.toks + binds.length) hk₁ (get_size_none _) ho ⟨es, ep, hd', hks, hnd, fun p hp => by
    obtain ⟨v, a, b⟩ := hb.look (hb.keys ▸ hnd) p hp
    exact ⟨v, (hfd _).trans a, b⟩⟩
  exact wpAny_mono (h _ _ S') (fun _ _ x => x) fun _ _ x => x.elim
end
/-! ## iterators -/
structure IterOn (prog : Program) (w : World) (A : Around) (g : Heap) (I : Addr) (n : Nat) (V : Nat → Value → Prop) (It : Nat → Pd) : Prop where
  item : ∀ i (s : Shared) (Q : Option Value → Shared → Prop) (E : Value → Shared → Prop), i < n → Sub g s.heap → At s.heap I (It i) →
    (∀ v h' tk o', V i v → h'.get? I = some o' → It (i + 1) o' → Heap.SameBut I s.heap h' → Q (some v) { s with heap := h', toks := tk }) → wpAny (model prog w) A (pyNext (.ref I)) Q E s
  done : ∀ (s : Shared) (Q : Option Value → Shared → Prop) (E : Value → Shared → Prop), Sub g s.heap → At s.heap I (It n) →
    (∀ h' tk, Heap.ExtBut I s.heap h' → Q none { s with heap := h', toks := tk }) → wpAny (model prog w) A (pyNext (.ref I)) Q E s
  self : ∀ (s : Shared) (Q : Value → Shared → Prop) (E : Value → Shared → Prop), At s.heap I (It 0) → Q (.ref I) s → wpAny (model prog w) A (pyIter (.ref I)) Q E s

def ItL (a : Addr) (i : Nat) : Pd := fun o => o.cls = .type "list_iterator" ∧ o.data = .fields #[.ref a, .int i 0]
def ItR (n : Nat) (i : Nat) : Pd := fun o => i ≤ n ∧ o = { cls := .type "range_iterator", dict := none, data := .fields #[rawInt i, rawInt ((n : Int) - i), rawInt 1], slots := #[] }

section
variable {prog : Program} {w : World} {A : Around} {E : Value → Shared → Prop} {s₀ s : Shared} {g : Heap} {σ σ' : Led} {env : Env}
theorem itr_list {a I : Addr} {vs : List Value} {k : Nat} (hh : A.handled = none) (ho : g.get? a = some (listOf vs.toArray k)) : IterOn prog w A g I vs.length (fun i v => vs[i]? = some v) (ItL a) where
  item := fun i s Q E hi hk ⟨o, h1, h2, h3⟩ hQ => by
    have hl : s.heap.IsList a vs.toArray := PySem.IsL.isList (n := k) (hk _ _ ho)
    refine wpAny_pyNext_list_item ⟨o, h1, h2, h3⟩ hl (x := vs[i]) (by simp [hi]) fun h' ⟨o', q1, q2, q3⟩ hs => ?_
    exact hQ _ h' s.toks o' (by simp [hi]) q1 ⟨q2, q3⟩ hs
  done := fun s Q E hk ⟨o, h1, h2, h3⟩ hQ => by
    have hl : s.heap.IsList a vs.toArray := PySem.IsL.isList (n := k) (hk _ _ ho)
    exact wpAny_pyNext_list_end hh ⟨o, h1, h2, h3⟩ hl (by simp) fun h' he => hQ h' s.toks he
  self := fun s Q E ⟨o, h1, h2, h3⟩ hQ => wpAny_pyIter_listiter (i := 0) ⟨o, h1, h2, h3⟩ hQ
theorem itr_range {I : Addr} {n : Nat} (hh : A.handled = none) : IterOn prog w A g I n (fun i v => ∃ t, v = .int i t) (ItR n) where
  item := fun i s Q E hi hk ⟨o, h1, h2, h3⟩ hQ => by
    subst h3
    refine wpAny_pyNext_range_item h1 (by omega) fun h' hit hs => ?_
    have e1 : ((i : Int) + 1) = ((i + 1 : Nat) : Int) := by omega
    have e2 : ((n : Int) - i - 1) = (n : Int) - ((i + 1 : Nat) : Int) := by omega
    rw [e1, e2] at hit
    exact hQ _ h' (s.toks + 1) _ ⟨_, rfl⟩ hit ⟨hi, rfl⟩ hs
  done := fun s Q E hk ⟨o, h1, h2, h3⟩ hQ => by
    subst h3
    exact wpAny_pyNext_range_end hh h1 (by omega) fun h' he => hQ h' s.toks he
  self := fun s Q E ⟨o, h1, h2, h3⟩ hQ => by
    subst h3
    exact wpAny_pyIter_rangeiter h1 hQ

theorem mkIter_list {a : Addr} {P : List Value → Prop} {Q : Value → Shared → Prop} (S : St s₀ g s σ) (hh : A.handled = none) (X : At g a (IsLst P))
    (h : ∀ I s' vs, P vs → St s₀ g s' ((I, ItL a 0) :: σ) → IterOn prog w A g I vs.length (fun i v => vs[i]? = some v) (ItL a) → Q (.ref I) s') : wpAny (model prog w) A (pyIter (.ref a)) Q E s := by
  obtain ⟨vs, n, hi, ho⟩ := isL_of X
  refine wpAny_pyIter_list (PySem.IsL.isList (n := n) (S.keep _ _ ho)) ?_
  exact h _ _ vs hi (S.push (P := ItL a 0) (tk := s.toks) ⟨rfl, rfl⟩ rfl) (itr_list hh ho)
def IsRng (n : Int) : Pd := fun o => ∃ t u v, o = { cls := .type "range", dict := none, data := .fields #[.int 0 t, .int n u, .int 1 v], slots := #[] }
theorem cRange {n : Int} {t : Tok} {L : Addr} {ms : List (Str × Vp)} {Q : Value → Shared → Prop} (S : St s₀ g s ((L, IsNs ms) :: σ)) (h : ∀ s' a, St s₀ g s' ((L, IsNs ms) :: (a, IsRng n) :: σ) → Q (.ref a) s') :
    wpAny (model prog w) A (call (.type "range") [.int n t]) Q E s :=
  call_range_1 (h _ _ (S.push (P := IsRng n) (tk := s.toks + 1 + 1) ⟨_, _, _, rfl⟩ rfl).swap)
theorem mkIter_range {a : Addr} {n : Nat} {m : Int} {Q : Value → Shared → Prop} (S : St s₀ g s σ) (hh : A.handled = none) (X : At s.heap a (IsRng m)) (hm : m = n) (hn : n < 2 ^ 60)
    (h : ∀ I s', St s₀ g s' ((I, ItR n 0) :: σ) → IterOn prog w A g I n (fun i v => ∃ t, v = .int i t) (ItR n) → Q (.ref I) s') : wpAny (model prog w) A (pyIter (.ref a)) Q E s := by
  obtain ⟨_, ho, t, u, v, rfl⟩ := X
  subst hm
  have hz : Builtin.Range.rangeSize 0 (n : Int) 1 = n := by
    unfold Builtin.Range.rangeSize
    rw [if_pos (by decide)]
    split <;> omega
  have hsm : Builtin.Range.small 0 (n : Int) 1 = true := by
    unfold Builtin.Range.small
    rw [hz, if_pos (by decide)]
    simp only [Builtin.Range.rangeFitsLong, Bool.and_eq_true, Bool.or_eq_true, decide_eq_true_eq]
    refine ⟨⟨⟨⟨?_, ?_⟩, ?_⟩, ?_⟩, .inr ?_⟩ <;> omega
  refine wpAny_pyIter_range ho hsm ?_
  rw [hz]
  refine h _ _ (S.push (P := ItR n 0) (tk := s.toks) ⟨Nat.zero_le _, ?_⟩ rfl) (itr_range hh)
  rw [show ((n : Int) - ((0 : Nat) : Int)) = n from by omega]
  rfl

/-! ## while; what a turn must reach is a letter K of its own -/
theorem while_inv {test : Expr} {body : List Stmt} {pos : Pos} {Q : Flow → Shared → Prop} (I : Nat → Shared → Prop) (n₀ : Nat) (h0 : I n₀ s)
    (turn : ∀ n s, I n s → ∀ (K : Flow → Shared → Prop) (X : Shared → Prop), (∀ s f, (f = .next ∨ f = .cont) → (∃ m, m < n ∧ I m s) → K f s) → (∀ s, Q .next s → K .brk s) → (∀ v s, Q (.ret v) s → K (.ret v) s) → (∀ s, Q .next s → X s) →
      wpAny (model prog w) A (isTrue test env (eval test env)) (fun b s₂ => if b = true then wpAny (model prog w) A (execs body env) K (fun _ _ => False) s₂ else X s₂) (fun _ _ => False) s) :
    wpAny (model prog w) A (exec (.While test body [] pos) env) Q E s := by
  refine wpAny_While (codeAny_whileLoop I (fun n s' hI => ?_) n₀ h0)
  refine wpAny_mono (turn n s' hI (fun f s₃ => match f with
        | .next => ∃ m, m < n ∧ I m s₃
        | .cont => ∃ m, m < n ∧ I m s₃
        | .brk => Q .next s₃
        | .ret v => Q (.ret v) s₃) (Q .next) (fun s f hf hI => by rcases hf with rfl | rfl <;> exact hI) (fun _ h => h) (fun _ _ h => h) (fun _ h => h)) (fun b s₂ h₂ => ?_) fun _ _ x => x.elim
  cases b with
  | false =>
    simp only [Bool.false_eq_true, if_false] at h₂ ⊢
    exact wpAny_execs_nil h₂
  | true =>
    simp only [if_true] at h₂ ⊢
    exact wpAny_mono h₂ (fun f s₃ h₃ => by cases f <;> exact h₃) fun _ _ x => x.elim

/-! ## for, over an iterator: J i base frame ledger -/
theorem for_on {x : Str} {px : Pos} {body : List Stmt} {I L : Addr} {n : Nat} {V : Nat → Value → Prop} {It : Nat → Pd} {Q : Flow → Shared → Prop} {ms : List (Str × Vp)}
    (W : IterOn prog w A g I n V It) (S : St s₀ g s ((I, It 0) :: (L, IsNs ms) :: σ))
    (J : Nat → Heap → List (Str × Vp) → Led → Prop) (h0 : J 0 g ms σ)
    (turn : ∀ i v g₁ ms₁ σ₁ It', i < n → V i v → Sub g g₁ → J i g₁ ms₁ σ₁ → ∀ (K : Flow → Shared → Prop),
      (∀ s₂ f, (f = .next ∨ f = .cont) → (∃ g₂ ms₃ σ₂, Sub g₁ g₂ ∧ St s₀ g₂ s₂ ((L, IsNs ms₃) :: (I, It') :: σ₂) ∧ J (i + 1) g₂ ms₃ σ₂) → K f s₂) → (∀ s, Q .next s → K .brk s) → (∀ v s, Q (.ret v) s → K (.ret v) s) →
      ∃ P ms₂, SetL x P ms₁ ms₂ ∧ P v ∧ ∀ s₁, St s₀ g₁ s₁ ((L, IsNs ms₂) :: (I, It') :: σ₁) → wpAny (model prog w) A (execs body env) K (fun _ _ => False) s₁)
    (done : ∀ g₁ ms₁ σ₁ s₁, Sub g g₁ → J n g₁ ms₁ σ₁ → St s₀ g₁ s₁ ((L, IsNs ms₁) :: σ₁) → Q .next s₁)
    (hL : env.locals = L) (hk : env.scope.kind = .function) (hx : env.kindOf x = some .local) :
    codeAny (model prog w) A (.forLoop (.Name x px) (.ref I) body [] env) (fun r s' => match r with | .ok f => Q f s' | .error e => cameBackBy (model prog w) A env E e s') s := by
  refine codeAny_forLoop (fun k s' => ∃ i g₁ ms₁ σ₁, i ≤ n ∧ k = n - i ∧ Sub g g₁ ∧ J i g₁ ms₁ σ₁ ∧ St s₀ g₁ s' ((I, It i) :: (L, IsNs ms₁) :: σ₁)) ?_ n ⟨0, g, ms, σ, Nat.zero_le _, rfl, Sub.rfl', h0, S⟩
  rintro k s' ⟨i, g₁, ms₁, σ₁, hi, rfl, hsub, hJ, S₁⟩
  by_cases hlt : i < n
  · refine W.item i s' _ _ hlt (hsub.tr S₁.keep) (S₁.get (.head _)) fun v h' tk o' hV ho' hIt hs => ?_
    have S₂ : St s₀ g₁ { s' with heap := h', toks := tk } ((I, It (i + 1)) :: (L, IsNs ms₁) :: σ₁) := S₁.upd .here hs ho' hIt
    obtain ⟨P, ms₂, u, hv, hb⟩ := turn i v g₁ ms₁ σ₁ (It (i + 1)) hlt hV hsub hJ (fun f s₂ => match f with
        | .next => ∃ g₂ ms₃ σ₂, Sub g₁ g₂ ∧ St s₀ g₂ s₂ ((L, IsNs ms₃) :: (I, It (i + 1)) :: σ₂) ∧ J (i + 1) g₂ ms₃ σ₂
        | .cont => ∃ g₂ ms₃ σ₂, Sub g₁ g₂ ∧ St s₀ g₂ s₂ ((L, IsNs ms₃) :: (I, It (i + 1)) :: σ₂) ∧ J (i + 1) g₂ ms₃ σ₂
        | .brk => Q .next s₂
        | .ret v => Q (.ret v) s₂) (fun s₂ f hf h' => by rcases hf with rfl | rfl <;> exact h') (fun _ h => h) (fun _ _ h => h)
    refine wpAny_assign_Name (stL S₂.swap u hv (fun s₃ S₃ => ?_) hL hk hx)
    refine wpAny_mono (hb s₃ S₃) (fun f s₄ h₄ => ?_) fun _ _ x => x.elim
    cases f with
    | next => obtain ⟨g₂, ms₃, σ₂, k₂, S₄, J₄⟩ := h₄; exact ⟨n - (i + 1), by omega, i + 1, g₂, ms₃, σ₂, hlt, rfl, hsub.tr k₂, J₄, S₄.swap⟩
    | cont => obtain ⟨g₂, ms₃, σ₂, k₂, S₄, J₄⟩ := h₄; exact ⟨n - (i + 1), by omega, i + 1, g₂, ms₃, σ₂, hlt, rfl, hsub.tr k₂, J₄, S₄.swap⟩
    | brk => exact h₄
    | ret v => exact h₄
  · have e : i = n := by omega
    subst e
    refine W.done s' _ _ (hsub.tr S₁.keep) (S₁.get (.head _)) fun h' tk he => wpAny_execs_nil ?_
    refine done g₁ ms₁ σ₁ _ hsub hJ ?_
    have hIne : ∀ p ∈ ((L, IsNs ms₁) :: σ₁ : Led), p.1 ≠ I := fun p hp e => by
      have := S₁.nd
      simp only [List.map_cons, List.nodup_cons] at this
      exact this.1 (e ▸ (List.mem_map_of_mem (f := (·.1)) hp : p.1 ∈ List.map (·.1) ((L, IsNs ms₁) :: σ₁)))
    exact ⟨let ⟨_, _, e⟩ := S₁.same; ⟨h', tk, by rw [e]⟩, fun b o e => he b o (fun q => by
        have : g₁.get? I = none := S₁.fresh (I, It i) (.head _)
        rw [q] at e; rw [e] at this; cases this) (S₁.keep b o e), fun p hp => by
        obtain ⟨o, e, q⟩ := S₁.has p (.tail _ hp)
        exact ⟨o, he _ _ (hIne p hp) e, q⟩, by have := S₁.nd; simp only [List.map_cons, List.nodup_cons] at this ⊢; exact this.2, fun p hp => S₁.fresh p (.tail _ hp)⟩
end
abbrev LN (ns : List Nat) : Pd := LI (ns.map (fun n : Nat => (n : Int)))
theorem bitOr_nat (a b : Nat) : Builtin.bitOr (a : Int) (b : Int) = ((a ||| b : Nat) : Int) := by
  have h : ∀ n : Nat, Builtin.bitNot (Builtin.bitNot (n : Int)) = n := fun n => by unfold Builtin.bitNot; omega
  have hn : ∀ n : Nat, decide (0 ≤ Builtin.bitNot (n : Int)) = false := fun n => by unfold Builtin.bitNot; simp; omega
  unfold Builtin.bitOr Builtin.bitAnd
  simp only [hn, h, Int.toNat_natCast]
theorem bitAnd_nat (a b : Nat) : Builtin.bitAnd (a : Int) (b : Int) = ((a &&& b : Nat) : Int) := by
  have hn : ∀ n : Nat, decide (0 ≤ (n : Int)) = true := fun n => by simp
  unfold Builtin.bitAnd
  simp only [hn, Int.toNat_natCast]
theorem ints_ofN {vs : List Value} {ys : List Nat} (h : IntsAre vs (ys.map (fun n : Nat => (n : Int)))) {i : Nat} (hi : i < vs.length) : (ys.map (fun n : Nat => (n : Int)))[i]? = some ((ys.getD i 0 : Nat) : Int) := by
  have := h.length
  have h' : i < ys.length := by simp at this; omega
  simp [h']
theorem lenN {vs : List Value} {ys : List Nat} (h : IntsAre vs (ys.map (fun n : Nat => (n : Int)))) : vs.length = ys.length := by
  have := h.length; simpa using this
theorem getD_cast (ns : List Nat) (k : Nat) : (ns.map (fun n : Nat => (n : Int))).getD k 0 = ((ns.getD k 0 : Nat) : Int) := by
  simp only [List.getD_eq_getElem?_getD, List.getElem?_map]
  cases ns[k]? <;> simp
theorem intsN_append {vs : List Value} {ys : List Nat} (h : IntsAre vs (ys.map (fun n : Nat => (n : Int)))) (x : Nat) (t : Tok) : IntsAre (vs ++ [.int (x : Int) t]) ((ys ++ [x]).map (fun n : Nat => (n : Int))) := by
  rw [List.map_append]
  generalize ys.map (fun n : Nat => (n : Int)) = zs at h
  induction h with
  | nil => exact .cons _ _ .nil
  | cons n t' _ ih => exact .cons _ _ ih
theorem intsAre_append {vs us : List Value} {ys zs : List Int} (h : IntsAre vs ys) (h' : IntsAre us zs) : IntsAre (vs ++ us) (ys ++ zs) := by
  induction h with
  | nil => exact h'
  | cons n t' _ ih => exact .cons _ _ ih
theorem intsAre_split {vs : List Value} {ys zs : List Int} (h : IntsAre vs (ys ++ zs)) : ∃ us ws, vs = us ++ ws ∧ IntsAre us ys ∧ IntsAre ws zs := by
  induction ys generalizing vs with
  | nil => exact ⟨[], vs, rfl, .nil, h⟩
  | cons y ys ih =>
    cases h with
    | cons n t h =>
      obtain ⟨us, ws, rfl, h1, h2⟩ := ih h
      exact ⟨_ :: us, ws, rfl, .cons _ _ h1, h2⟩

section
variable {prog : Program} {w : World} {A : Around} {E : Value → Shared → Prop} {s₀ s : Shared} {g : Heap} {σ σ' : Led} {env : Env} {L : Addr} {ms ms' : List (Str × Vp)} {x : Str} {pos : Pos}
section
variable {value slice : Expr} {a : Addr} {ns : List Nat} {k : Nat} {u : Tok} {Q : Value → Shared → Prop}
theorem itN (X : At s.heap a (LN ns)) (h1 : k < ns.length) (hf : ns.length < 2 ^ 60) (h : ∀ t, Q (.int ((ns.getD k 0 : Nat) : Int) t) s)
    (hs : subscripted slice false (.ref a) (.int k u) = operate [.ref a, .int k u] (getItem (.ref a) (.int k u)) := by with_unfolding_all rfl) :
    wpAny (model prog w) A (subscriptTail value slice (.ref a) (.int k u)) Q E s :=
  itI X (by omega) (by simp; omega) (by omega) (fun t => by rw [Int.toNat_natCast, getD_cast]; exact h t) hs
theorem setN {v : Nat} {t : Tok} {Q : Unit → Shared → Prop} (S : St s₀ g s σ) (U : Up a (LN ns) (LN (ns.set k v)) σ σ') (h1 : k < ns.length) (hf : ns.length < 2 ^ 60)
    (h : ∀ s', St s₀ g s' σ' → Q () s') : wpAny (model prog w) A (setItem (.ref a) (.int k u) (.int v t)) Q E s := by
  refine setV S U (by omega) (by omega) (fun vs hv => ⟨by rw [lenN hv]; omega, ?_⟩) h
  have := ints_set (x := (v : Int)) (u := t) hv k
  rw [Int.toNat_natCast]
  simpa using this
variable {p q r : Int}
theorem it3_0 (X : At s.heap a (LI [p, q, r])) (h : ∀ t, Q (.int p t) s)
    (hs : subscripted slice false (.ref a) (.int 0 u) = operate [.ref a, .int 0 u] (getItem (.ref a) (.int 0 u)) := by with_unfolding_all rfl) :
    wpAny (model prog w) A (subscriptTail value slice (.ref a) (.int 0 u)) Q E s := itI X (by decide) (by simp) (by decide) h hs
theorem it3_1 (X : At s.heap a (LI [p, q, r])) (h : ∀ t, Q (.int q t) s)
    (hs : subscripted slice false (.ref a) (.int 1 u) = operate [.ref a, .int 1 u] (getItem (.ref a) (.int 1 u)) := by with_unfolding_all rfl) :
    wpAny (model prog w) A (subscriptTail value slice (.ref a) (.int 1 u)) Q E s := itI X (by decide) (by simp) (by decide) h hs
theorem it3_2 (X : At s.heap a (LI [p, q, r])) (h : ∀ t, Q (.int r t) s)
    (hs : subscripted slice false (.ref a) (.int 2 u) = operate [.ref a, .int 2 u] (getItem (.ref a) (.int 2 u)) := by with_unfolding_all rfl) :
    wpAny (model prog w) A (subscriptTail value slice (.ref a) (.int 2 u)) Q E s := itI X (by decide) (by simp) (by decide) h hs
theorem set3_2 {v : Int} {t : Tok} {Q : Unit → Shared → Prop} (S : St s₀ g s σ) (U : Up a (LI [p, q, r]) (LI [p, q, v]) σ σ')
    (h : ∀ s', St s₀ g s' σ' → Q () s') : wpAny (model prog w) A (setItem (.ref a) (.int 2 u) (.int v t)) Q E s :=
  setI S U (by decide) (by simp) (by decide) h
end
theorem oOrN {a b : Nat} {t u : Tok} {Q : Value → Shared → Prop} (S : St s₀ g s σ) (h : ∀ s' t', St s₀ g s' σ → Q (.int ((a ||| b : Nat) : Int) t') s') : wpAny (model prog w) A (binaryOp .BitOr (.int a t) (.int b u)) Q E s :=
  oOr S (by rw [bitOr_nat]; exact h)
theorem cLenN {a : Addr} {ns : List Nat} {Q : Value → Shared → Prop} (S : St s₀ g s σ) (X : At s.heap a (LN ns)) (hf : ns.length < 2 ^ 60) (h : ∀ s' t, St s₀ g s' σ → Q (.int (ns.length : Nat) t) s') :
    wpAny (model prog w) A (call (.builtin "len") [.ref a]) Q E s := cLen S X (fun vs hv => lenN hv) (by omega) h
theorem cAppN {a : Addr} {ns : List Nat} {v : Nat} {t : Tok} {Q : Value → Shared → Prop} (S : St s₀ g s σ) (U : Up a (LN ns) (LN (ns ++ [v])) σ σ') (hf : ns.length ≤ 2 ^ 20) (h : ∀ s', St s₀ g s' σ' → Q .none s') :
    wpAny (model prog w) A (call (.builtin "list.append") [.ref a, .int v t]) Q E s :=
  cAppend S U (fun vs hv => ⟨intsN_append hv v t, by rw [lenN hv, sizeLine_eq]; omega⟩) h
theorem cAppR {a b : Addr} {as : List Addr} {Q : Value → Shared → Prop} (S : St s₀ g s σ) (U : Up a (LR as) (LR (as ++ [b])) σ σ') (hf : as.length ≤ 2 ^ 20) (h : ∀ s', St s₀ g s' σ' → Q .none s') :
    wpAny (model prog w) A (call (.builtin "list.append") [.ref a, .ref b]) Q E s :=
  cAppend S U (fun vs hv => by subst hv; exact ⟨by simp, by rw [List.length_map, sizeLine_eq]; omega⟩) h
theorem cPopR {a b : Addr} {as : List Addr} {Q : Value → Shared → Prop} (S : St s₀ g s σ) (U : Up a (LR (as ++ [b])) (LR as) σ σ') (hf : as.length < 2 ^ 20) (h : ∀ s', St s₀ g s' σ' → Q (.ref b) s') :
    wpAny (model prog w) A (call (.builtin "list.pop") [.ref a]) Q E s :=
  cPop (V := vR b) S U (fun vs hv => by subst hv; exact ⟨as.map .ref, .ref b, by simp, rfl, rfl, by rw [sizeLine_eq]; simp; omega⟩) fun s' v hv S' => by cases hv; exact h s' S'
theorem cPopN {a : Addr} {ns : List Nat} {v : Nat} {Q : Value → Shared → Prop} (S : St s₀ g s σ) (U : Up a (LN (ns ++ [v])) (LN ns) σ σ') (hf : ns.length < 2 ^ 20) (h : ∀ s' t, St s₀ g s' σ' → Q (.int v t) s') :
    wpAny (model prog w) A (call (.builtin "list.pop") [.ref a]) Q E s := by
  refine cPop (V := vI v) S U (fun vs hi => ?_) fun s' x hx S' => by obtain ⟨t, rfl⟩ := hx; exact h s' t S'
  have hl := lenN hi
  rw [List.map_append] at hi
  obtain ⟨us, ws, e, h1, h2⟩ := intsAre_split hi
  cases h2 with
  | cons n' t h2 =>
  cases h2
  exact ⟨us, _, e, h1, ⟨t, rfl⟩, by rw [hl, sizeLine_eq]; simp; omega⟩
theorem cMulX {a : Addr} {x : Int} {k : Nat} {its : Array Value} {u : Tok} {Q : Value → Shared → Prop} (S : St s₀ g s ((L, IsNs ms) :: σ)) (ho : s.heap.get? a = some { cls := .type "list", dict := none, data := .seq its k, slots := #[] })
    (h0 : 0 ≤ x) (hx : x ≤ 2 ^ 20) (hz : its.size = 1) {P : List Value → Prop} (hP : P (List.replicate x.toNat its.toList).flatten) (h : ∀ s' b, St s₀ g s' ((L, IsNs ms) :: (b, IsLst P) :: σ) → Q (.ref b) s') :
    wpAny (model prog w) A (binaryOp .Mult (.ref a) (.int x u)) Q E s := by
  have one : its.isEmpty = false := by
    cases e : its.isEmpty with
    | false => rfl
    | true => rw [Array.isEmpty_iff_size_eq_zero] at e; omega
  have lst : s.TypeIs (.ref a) "list" := ⟨_, ho, rfl⟩
  have made := AutoListH.list___mul___list_int_3 a its k x u (by simp [Builtin.List.listFitsIndex]; omega) (by rw [hz]; omega) (by rw [hz]; simp [Builtin.List.listTooLong, sizeLine]; omega)
  have end' : Q (.ref s.heap.objs.size) { s with heap := s.heap.push { cls := .type "list", data := .seq (List.foldl (fun x1 x2 => x1 ++ x2) #[] (List.replicate (if its.isEmpty = true then 0 else x.toNat) its)) } } := by
    refine h _ _ (S.push (P := IsLst P) (tk := s.toks) ⟨_, 0, hP, ?_⟩ rfl).swap
    rw [listMul_foldl]
    simp [one]
  have slow := call_meets (prog := prog) (w := w) (A := A) (E := E) (Q := Q) F.slot_list_mul lst F.entry_list_mul (F.args_list_mul_2 _ _) made ⟨ho, end'⟩
  exact wpAny_binaryOp_repeat_ref (by decide) lst (fun s' => typeIs_int s' x u) noFill_list_mul F.fills_int_mul F.slot_int_rmul repeat_list F.slot_int_index.lookup
    (call_meets F.slot_int_rmul (typeIs_int s x u) F.entry_int_rmul (F.args_int_rmul_2 _ _) (int___rmul___int_list x u a its k) ⟨ho, rfl, lst, slow⟩)
theorem cMul0 {a : Addr} {n : Nat} {u : Tok} {Q : Value → Shared → Prop} (S : St s₀ g s ((L, IsNs ms) :: σ)) (X : At s.heap a (LI [0])) (hn : n ≤ 2 ^ 20) (h : ∀ s' b, St s₀ g s' ((L, IsNs ms) :: (b, LN (List.replicate n 0)) :: σ) → Q (.ref b) s') :
    wpAny (model prog w) A (binaryOp .Mult (.ref a) (.int n u)) Q E s := by
  obtain ⟨vs, k, hi, ho⟩ := isL_of X
  refine cMulX S ho (by omega) (by omega) (by rw [List.size_toArray]; exact hi.length) (P := fun vs => IntsAre vs ((List.replicate n 0).map (fun n : Nat => (n : Int)))) ?_ h
  rw [Int.toNat_natCast]
  show IntsAre (List.replicate n vs).flatten _
  clear h hn
  induction n with
  | zero => exact .nil
  | succ n ih =>
    rw [List.replicate_succ, List.flatten_cons, List.replicate_succ]
    exact intsAre_append hi ih
theorem callApp1 {f a b : Value} {Q : Value → Shared → Prop} (h : wpAny (model prog w) A (call f [a, b]) Q E s) : wpAny (model prog w) A (call f ([a] ++ [b])) Q E s := h
/-- tests of natural numbers -/
theorem if_ne0 {n : Nat} {p q : Prop} (h0 : n = 0 → q) (h1 : n ≠ 0 → p) : if ((n : Int) != 0) = true then p else q := by
  by_cases e : n = 0
  · subst e; exact h0 rfl
  · rw [if_pos (by simpa using e)]; exact h1 e
theorem if_eq0 {n : Nat} {p q : Prop} (h0 : n = 0 → p) (h1 : n ≠ 0 → q) : if ((n : Int) == 0) = true then p else q := by
  by_cases e : n = 0
  · subst e; exact h0 rfl
  · rw [if_neg (by simpa using e)]; exact h1 e
theorem if_lt {m n : Nat} {p q : Prop} (h0 : m < n → p) (h1 : ¬ m < n → q) : if decide ((m : Int) < n) = true then p else q := by
  by_cases e : m < n
  · rw [if_pos (by simpa using e)]; exact h0 e
  · rw [if_neg (by simpa using e)]; exact h1 e
theorem if_eq {m n : Nat} {p q : Prop} (h0 : m = n → p) (h1 : m ≠ n → q) : if ((m : Int) == n) = true then p else q := by
  by_cases e : m = n
  · subst e; rw [if_pos (by simp)]; exact h0 rfl
  · rw [if_neg (by simp; omega)]; exact h1 e
theorem if_ne {m n : Nat} {p q : Prop} (h0 : m ≠ n → p) (h1 : m = n → q) : if ((m : Int) != n) = true then p else q := by
  by_cases e : m = n
  · subst e; rw [if_neg (by simp)]; exact h1 rfl
  · rw [if_pos (by simp; omega)]; exact h0 e
end
/-! rows of a relation -/
def RowsAt (g : Heap) (a : Addr) (rows : List (List Nat)) : Prop := ∃ as : List Addr, At g a (LR as) ∧ as.length = rows.length ∧ ∀ i, i < rows.length → At g (as.getD i 0) (LN (rows.getD i []))
theorem RowsAt.mono {g g' : Heap} {a : Addr} {rows : List (List Nat)} (X : RowsAt g a rows) (k : Sub g g') : RowsAt g' a rows :=
  let ⟨as, h1, h2, h3⟩ := X; ⟨as, h1.mono k, h2, fun i hi => (h3 i hi).mono k⟩
section
variable {prog : Program} {w : World} {A : Around} {E : Value → Shared → Prop} {s₀ s : Shared} {g : Heap} {σ σ' : Led} {env : Env}
theorem itRow {value slice : Expr} {a : Addr} {rows : List (List Nat)} {k : Nat} {u : Tok} {Q : Value → Shared → Prop} (X : RowsAt g a rows) (S : St s₀ g s σ) (h1 : k < rows.length) (hf : rows.length < 2 ^ 60) (h : ∀ b, At g b (LN (rows.getD k [])) → Q (.ref b) s)
    (hs : subscripted slice false (.ref a) (.int k u) = operate [.ref a, .int k u] (getItem (.ref a) (.int k u)) := by with_unfolding_all rfl) :
    wpAny (model prog w) A (subscriptTail value slice (.ref a) (.int k u)) Q E s := by
  obtain ⟨as, q1, q2, q3⟩ := X
  refine itR (q1.mono S.keep) (by omega) (by omega) (by omega) ?_ hs
  rw [Int.toNat_natCast]
  exact h _ (q3 k h1)
end
/-! ## list comprehensions -/
abbrev LX (ys : List Value) : Pd := IsLst fun vs => vs = ys
section
variable {prog : Program} {w : World} {A : Around} {E : Value → Shared → Prop} {s₀ s : Shared} {g : Heap} {σ σ' τ : Led} {env : Env} {L : Addr} {ms ms' : List (Str × Vp)}

/-- the turn of a comprehension: tests, then the element -/
def TurnC (prog : Program) (w : World) (A : Around) (s₀ : Shared) (cenv : Env) (ifs : List Expr) (elt : Expr) (C : Addr) (τ : Addr × Pd → Addr × Pd → Led → Led) (I : Addr × Pd) (D : Addr) (ys : List Value) (g₁ : Heap) (J' : Heap → List Value → Led → Prop) (s₁ : Shared) : Prop :=
  wpAny (model prog w) A (forIn ifs true fun c r => if r = true then do let ok ← isTrue c cenv (eval c cenv); pure (ForInStep.yield ok) else pure (ForInStep.yield r))
    (fun ok s₂ => if ok = true then wpAny (model prog w) A (eval elt cenv) (fun y s₃ => ∃ g₂ mc σ₂, Sub g₁ g₂ ∧ St s₀ g₂ s₃ ((C, IsNs mc) :: τ I (D, LX ys) σ₂) ∧ J' g₂ (ys ++ [y]) σ₂) (fun _ _ => False) s₂
      else ∃ g₂ mc σ₂, Sub g₁ g₂ ∧ St s₀ g₂ s₂ ((C, IsNs mc) :: τ I (D, LX ys) σ₂) ∧ J' g₂ ys σ₂) (fun _ _ => False) s₁

abbrev tl (L : Addr) (ms : List (Str × Vp)) : Addr × Pd → Addr × Pd → Led → Led := fun I D r => I :: D :: (L, IsNs ms) :: r

theorem TurnC.of0 {cenv : Env} {elt : Expr} {C : Addr} {τ : Addr × Pd → Addr × Pd → Led → Led} {I : Addr × Pd} {D : Addr} {ys : List Value} {g₁ : Heap} {J' : Heap → List Value → Led → Prop} {s₁ : Shared}
    (h : ∀ K : Value → Shared → Prop, (∀ y s₃, (∃ g₂ mc σ₂, Sub g₁ g₂ ∧ St s₀ g₂ s₃ ((C, IsNs mc) :: τ I (D, LX ys) σ₂) ∧ J' g₂ (ys ++ [y]) σ₂) → K y s₃) → wpAny (model prog w) A (eval elt cenv) K (fun _ _ => False) s₁) :
    TurnC prog w A s₀ cenv [] elt C τ I D ys g₁ J' s₁ := by
  unfold TurnC
  rw [List.forIn_nil]
  exact wpAny_pure (by rw [if_pos rfl]; exact h _ fun _ _ x => x)
theorem TurnC.of1 {cenv : Env} {c elt : Expr} {C : Addr} {τ : Addr × Pd → Addr × Pd → Led → Led} {I : Addr × Pd} {D : Addr} {ys : List Value} {g₁ : Heap} {J' : Heap → List Value → Led → Prop} {s₁ : Shared}
    (h : ∀ (K : Value → Shared → Prop) (N : Shared → Prop), (∀ y s₃, (∃ g₂ mc σ₂, Sub g₁ g₂ ∧ St s₀ g₂ s₃ ((C, IsNs mc) :: τ I (D, LX ys) σ₂) ∧ J' g₂ (ys ++ [y]) σ₂) → K y s₃) →
      (∀ s₂, (∃ g₂ mc σ₂, Sub g₁ g₂ ∧ St s₀ g₂ s₂ ((C, IsNs mc) :: τ I (D, LX ys) σ₂) ∧ J' g₂ ys σ₂) → N s₂) →
      wpAny (model prog w) A (isTrue c cenv (eval c cenv)) (fun ok s₂ => if ok = true then wpAny (model prog w) A (eval elt cenv) K (fun _ _ => False) s₂ else N s₂) (fun _ _ => False) s₁) :
    TurnC prog w A s₀ cenv [c] elt C τ I D ys g₁ J' s₁ := by
  unfold TurnC
  rw [List.forIn_cons]
  simp only [if_true]
  refine wpAny_bind (wpAny_bind (wpAny_mono (h _ _ (fun _ _ x => x) fun _ x => x) (fun ok s₂ h₂ => wpAny_pure ?_) fun _ _ x => x))
  show wpAny _ _ (forIn [] ok _) _ _ _
  rw [List.forIn_nil]
  exact wpAny_pure h₂

theorem comp_loop {elt iter : Expr} {x : Str} {px : Pos} {ifs : List Expr} {scope : Scope} {pos : Pos} {cenv : Env} {C I D : Addr} {n : Nat} {V : Nat → Value → Prop} {It : Nat → Pd} {R : Result → Shared → Prop}
    (W : IterOn prog w A g I n V It) (J : Nat → Heap → List Value → Led → Prop) (h0 : J 0 g [] τ) (S : St s₀ g s ((I, It 0) :: (C, IsNs []) :: (D, LX []) :: (L, IsNs ms) :: τ)) (hz : n ≤ 2 ^ 20)
    (turn : ∀ i v g₁ ys τ₁ It', i < n → V i v → Sub g g₁ → ys.length ≤ i → J i g₁ ys τ₁ → ∃ P : Vp, P v ∧ ∀ s₁, St s₀ g₁ s₁ ((C, IsNs [(x, P)]) :: (I, It') :: (D, LX ys) :: (L, IsNs ms) :: τ₁) →
      TurnC prog w A s₀ cenv ifs elt C (tl L ms) (I, It') D ys g₁ (J (i + 1)) s₁)
    (done : ∀ g₁ ys τ₁ s₁, Sub g g₁ → J n g₁ ys τ₁ → ys.length ≤ n → St s₀ g₁ s₁ ((C, IsNs []) :: (L, IsNs ms) :: (D, LX ys) :: τ₁) → R (.ok .next) s₁)
    (hL : cenv.locals = C) (hk : cenv.scope.kind = .function) (hx : cenv.kindOf x = some .local) :
    codeAny (model prog w) A (.compLoop (.ListComp elt [⟨.Name x px, iter, ifs, 0⟩] scope pos) 0 (.ref I) (.ref D) cenv) R s := by
  refine codeAny_compLoop_tests (fun k s' => ∃ i g₁ ys τ₁, i ≤ n ∧ k = n - i ∧ Sub g g₁ ∧ ys.length ≤ i ∧ J i g₁ ys τ₁ ∧ St s₀ g₁ s' ((I, It i) :: (C, IsNs []) :: (D, LX ys) :: (L, IsNs ms) :: τ₁)) ?_ n ⟨0, g, [], τ, Nat.zero_le _, rfl, Sub.rfl', Nat.le_refl _, h0, S⟩
  rintro k s' ⟨i, g₁, ys, τ₁, hi, rfl, hsub, hlen, hJ, S₁⟩
  by_cases hlt : i < n
  · refine W.item i s' _ _ hlt (hsub.tr S₁.keep) (S₁.get (.head _)) fun v h' tk o' hV ho' hIt hs => ?_
    have S₂ : St s₀ g₁ { s' with heap := h', toks := tk } ((I, It (i + 1)) :: (C, IsNs []) :: (D, LX ys) :: (L, IsNs ms) :: τ₁) := S₁.upd .here hs ho' hIt
    obtain ⟨P, hv, hb⟩ := turn i v g₁ ys τ₁ (It (i + 1)) hlt hV hsub hlen hJ
    refine wpAny_assign_Name (stL S₂.swap .new hv (fun s₃ S₃ => ?_) hL hk hx)
    refine wpAny_mono (hb s₃ S₃) (fun ok s₄ h₄ => ?_) fun _ _ x => x.elim
    cases ok with
    | false =>
      simp only [Bool.false_eq_true, if_false] at h₄ ⊢
      obtain ⟨g₂, mc, τ₂, k₂, S₄, J₄⟩ := h₄
      exact ⟨n - (i + 1), by omega, i + 1, g₂, ys, τ₂, hlt, rfl, hsub.tr k₂, by omega, J₄, (S₄.ns (List.nil_sublist _)).swap⟩
    | true =>
      simp only [if_true] at h₄ ⊢
      refine wpAny_mono h₄ (fun y s₅ h₅ => ?_) fun _ _ x => x.elim
      obtain ⟨g₂, mc, τ₂, k₂, S₄, J₄⟩ := h₅
      refine cAppend S₄ (.there (.there .here)) (P := fun vs => vs = ys) (P' := fun vs => vs = ys ++ [y]) (fun vs e => by subst e; exact ⟨rfl, by rw [sizeLine_eq]; omega⟩) fun s₆ S₆ => ?_
      exact ⟨n - (i + 1), by omega, i + 1, g₂, ys ++ [y], τ₂, hlt, rfl, hsub.tr k₂, by rw [List.length_append]; simp; omega, J₄, (S₆.ns (List.nil_sublist _)).swap⟩
  · have e : i = n := by omega
    subst e
    refine W.done s' _ _ (hsub.tr S₁.keep) (S₁.get (.head _)) fun h' tk he => ?_
    refine done g₁ ys τ₁ _ hsub hJ hlen ?_
    have hIne : ∀ p ∈ ((C, IsNs []) :: (D, LX ys) :: (L, IsNs ms) :: τ₁ : Led), p.1 ≠ I := fun p hp e => by
      have := S₁.nd
      simp only [List.map_cons, List.nodup_cons] at this
      exact this.1 (e ▸ (List.mem_map_of_mem (f := (·.1)) hp : p.1 ∈ List.map (·.1) ((C, IsNs []) :: (D, LX ys) :: (L, IsNs ms) :: τ₁)))
    have S₂ : St s₀ g₁ { s' with heap := h', toks := tk } ((C, IsNs []) :: (D, LX ys) :: (L, IsNs ms) :: τ₁) := ⟨let ⟨_, _, e⟩ := S₁.same; ⟨h', tk, by rw [e]⟩, fun b o e => he b o (fun q => by
        have : g₁.get? I = none := S₁.fresh (I, It i) (.head _)
        rw [q] at e; rw [e] at this; cases this) (S₁.keep b o e), fun p hp => by
        obtain ⟨o, e, q⟩ := S₁.has p (.tail _ hp)
        exact ⟨o, he _ _ (hIne p hp) e, q⟩, by have := S₁.nd; simp only [List.map_cons, List.nodup_cons] at this ⊢; exact this.2, fun p hp => S₁.fresh p (.tail _ hp)⟩
    exact S₂.perm (List.Perm.cons _ (List.Perm.swap _ _ _))

/-- what is wanted of the iterator's state, ahead of the block -/
def CompAt (prog : Program) (w : World) (A : Around) (s₀ : Shared) (env : Env) (cl : List (Str × Addr)) (scope : Scope) (x : Str) (ifs : List Expr) (elt : Expr) (L : Addr) (Post : Heap → List Value → List (Str × Vp) → Led → Addr → Shared → Prop) (it : Value) (s₂ : Shared) : Prop :=
  ∃ (I : Addr) (n : Nat) (V : Nat → Value → Prop) (It : Nat → Pd) (g : Heap) (ms : List (Str × Vp)) (τ : Led) (J : Nat → Heap → List Value → Led → Prop), it = .ref I ∧ IterOn prog w A g I n V It ∧ St s₀ g s₂ ((I, It 0) :: (L, IsNs ms) :: τ) ∧ J 0 g [] τ ∧ n ≤ 2 ^ 20 ∧
    (∀ C D i v g₁ ys τ₁ It', i < n → V i v → Sub g g₁ → ys.length ≤ i → J i g₁ ys τ₁ → ∃ P : Vp, P v ∧ ∀ s₁, St s₀ g₁ s₁ ((C, IsNs [(x, P)]) :: (I, It') :: (D, LX ys) :: (L, IsNs ms) :: τ₁) →
      TurnC prog w A s₀ (compEnvC scope cl C env) ifs elt C (tl L ms) (I, It') D ys g₁ (J (i + 1)) s₁) ∧
    (∀ D g₁ ys τ₁ s₁, Sub g g₁ → J n g₁ ys τ₁ → ys.length ≤ n → St s₀ g₁ s₁ ((L, IsNs ms) :: (D, LX ys) :: τ₁) → Post g₁ ys ms τ₁ D s₁)
theorem CompAt.intro {cl : List (Str × Addr)} {scope : Scope} {x : Str} {ifs : List Expr} {elt : Expr} {Post : Heap → List Value → List (Str × Vp) → Led → Addr → Shared → Prop} {I : Addr} {n : Nat} {V : Nat → Value → Prop} {It : Nat → Pd}
    (W : IterOn prog w A g I n V It) (S : St s₀ g s ((I, It 0) :: (L, IsNs ms) :: τ)) (J : Nat → Heap → List Value → Led → Prop) (h0 : J 0 g [] τ) (hz : n ≤ 2 ^ 20)
    (turn : ∀ C D i v g₁ ys τ₁ It', i < n → V i v → Sub g g₁ → ys.length ≤ i → J i g₁ ys τ₁ → ∃ P : Vp, P v ∧ ∀ s₁, St s₀ g₁ s₁ ((C, IsNs [(x, P)]) :: (I, It') :: (D, LX ys) :: (L, IsNs ms) :: τ₁) →
      TurnC prog w A s₀ (compEnvC scope cl C env) ifs elt C (tl L ms) (I, It') D ys g₁ (J (i + 1)) s₁)
    (done : ∀ D g₁ ys τ₁ s₁, Sub g g₁ → J n g₁ ys τ₁ → ys.length ≤ n → St s₀ g₁ s₁ ((L, IsNs ms) :: (D, LX ys) :: τ₁) → Post g₁ ys ms τ₁ D s₁) :
    CompAt prog w A s₀ env cl scope x ifs elt L Post (.ref I) s := ⟨I, n, V, It, g, ms, τ, J, rfl, W, S, h0, hz, turn, done⟩

theorem comp_block {elt iter : Expr} {x : Str} {px : Pos} {ifs : List Expr} {scope : Scope} {cl : List (Str × Addr)} {pos : Pos} {s₂ : Shared} {it : Value} {Post : Heap → List Value → List (Str × Vp) → Led → Addr → Shared → Prop} {RR : Value → Addr → Result → Shared → Prop}
    (hcell : ∀ y ∈ scope.names, y.2 ≠ .cell) (hkind : scope.kind = .function) (hx : scope.names.lookup x = some .local)
    (h : CompAt prog w A s₀ env cl scope x ifs elt L Post it s₂)
    (hRR : ∀ D C g₁ ys ms τ₁ s₁, (∀ s₃, St s₀ g₁ s₃ ((L, IsNs ms) :: (D, LX ys) :: τ₁) → Post g₁ ys ms τ₁ D s₃) → St s₀ g₁ s₁ ((C, IsNs []) :: (L, IsNs ms) :: (D, LX ys) :: τ₁) → RR (.ref D) C (.ok .next) s₁) :
    wpAny (model prog w) A (newList []) (fun acc s₃ => wpAny (model prog w) A (newFunctionEnv scope env.globals cl [] env.qual none .none (some env)) (fun cenv s₄ =>
      codeAny (model prog w) A (.compStart (.ListComp elt [⟨.Name x px, iter, ifs, 0⟩] scope pos) 0 it acc { cenv with scope := relabel scope env }) (RR acc cenv.locals) s₄) E s₃) E s₂ := by
  obtain ⟨I, n, V, It, g, ms, τ, J, rfl, W, S, h0, hz, turn, done⟩ := h
  refine wpAny_newObj_type ?_
  have S₁ := S.push (P := LX []) (o := { cls := .type "list", data := .seq ([] : List Value).toArray }) (tk := s₂.toks) ⟨[], 0, rfl, rfl⟩ rfl
  generalize hD : s₂.heap.objs.size = D at S₁ ⊢
  generalize hs : ({ s₂ with heap := s₂.heap.push { cls := .type "list", data := .seq ([] : List Value).toArray }, toks := s₂.toks } : Shared) = s₃ at S₁
  refine wpAny_newFunctionEnv hcell (by intro y hy; simp at hy) (fun h₁ hns₁ hsb₁ => ?_) hkind
  obtain ⟨o, es, ep, ho, hd', hks, hfd⟩ := hns₁
  have S₂ := S₁.new (P := IsNs []) (h' := h₁) (tk := s₃.toks + ([] : List (Str × Value)).length) (fun b o e => hsb₁.extBut b o (Nat.ne_of_lt (Heap.lt_size e)) (Heap.get?_push_of_some _ e)) (get_size_none _) ho ⟨es, ep, hd', hks, .nil, fun p hp => nomatch hp⟩
  generalize hC : s₃.heap.objs.size = C at S₂ ⊢
  have S₃ : St s₀ g _ ((I, It 0) :: (C, IsNs []) :: (D, LX []) :: (L, IsNs ms) :: τ) := S₂.perm ((List.perm_middle (l₁ := [(C, IsNs []), (D, LX [])]) (a := (I, It 0)) (l₂ := (L, IsNs ms) :: τ)).symm)
  have loop := comp_loop (iter := iter) (px := px) (pos := pos) (scope := scope) (R := RR (.ref D) C) (cenv := compEnvC scope cl C env) W J h0 S₃ hz (fun i v g₁ ys τ₁ It' a b c d e => turn C D i v g₁ ys τ₁ It' a b c d e)
    (fun g₁ ys τ₁ s₁ k hJ hl S' => hRR D C g₁ ys ms τ₁ s₁ (fun s₃ S₃ => done D g₁ ys τ₁ s₃ k hJ hl S₃) S') rfl (by simp [compEnvC, relabel, hkind]) (lookup_relabel_local hx)
  exact codeAny_compStart_list loop (W.self _ _ _ (S₃.get (.head _)) loop)

theorem drop_head {C : Addr} {P : Pd} {h' : Heap} {s₁ : Shared} (S : St s₀ g s₁ ((C, P) :: σ)) (hs : Heap.SameBut C s₁.heap h') : St s₀ g { s₁ with heap := h' } σ := by
  have hne : ∀ p ∈ σ, p.1 ≠ C := fun p hp e => by
    have := S.nd
    simp only [List.map_cons, List.nodup_cons] at this
    exact this.1 (e ▸ List.mem_map_of_mem (f := (·.1)) hp)
  exact ⟨let ⟨_, tk, e⟩ := S.same; ⟨h', s₁.toks, by rw [e]⟩, fun b o e => (hs.2 b fun q => by
      have : g.get? C = none := S.fresh (C, P) (.head _)
      rw [q] at e; rw [e] at this; cases this).trans (S.keep b o e), fun p hp => by
      obtain ⟨o, e, q⟩ := S.has p (.tail _ hp)
      exact ⟨o, (hs.2 _ (hne p hp)).trans e, q⟩, by have := S.nd; simp only [List.map_cons, List.nodup_cons] at this; exact this.2, fun p hp => S.fresh p (.tail _ hp)⟩
theorem ns_of {C : Addr} {mc : List (Str × Vp)} {s₁ : Shared} (S : St s₀ g s₁ ((C, IsNs mc) :: σ)) : ∃ m, s₁.heap.Ns C m := by
  obtain ⟨o, ho, es, ep, hd, hk, _⟩ := S.get (.head _)
  exact ⟨nsFind es, o, es, ep, ho, hd, hk, fun _ => rfl⟩

/-- a comprehension by itself, whatever is done with its list -/
theorem comp_any {elt iter : Expr} {x : Str} {px : Pos} {ifs : List Expr} {scope : Scope} {cl : List (Str × Addr)} {pos at' : Pos} {Q : Value → Shared → Prop} {use : Option (Value → Sem Unit)} {Post : Heap → List Value → List (Str × Vp) → Led → Addr → Shared → Prop}
    (h : wpAny (model prog w) A (eval iter env) (fun xv s₁ => wpAny (model prog w) A (pyIter xv) (CompAt prog w A s₀ env cl scope x ifs elt L Post) E s₁) E s)
    (hclos : closureFor scope env = pure cl) (hcell : ∀ y ∈ scope.names, y.2 ≠ .cell) (hkind : scope.kind = .function)
    (hnames : ∀ y ∈ scope.names, y.2 = .local → scope.names.lookup y.1 = some .local) (hx : scope.names.lookup x = some .local) (hs : ∀ x, foldedSetIterable iter env x = pure x)
    (out : ∀ D C g₁ ys ms τ₁ s₁, (∀ s₃, St s₀ g₁ s₃ ((L, IsNs ms) :: (D, LX ys) :: τ₁) → Post g₁ ys ms τ₁ D s₃) → St s₀ g₁ s₁ ((C, IsNs []) :: (L, IsNs ms) :: (D, LX ys) :: τ₁) →
      compPost (model prog w) A E use Q (.ref D) C (.ok .next) s₁) :
    wpAny (model prog w) A (comprehension (.ListComp elt [⟨.Name x px, iter, ifs, 0⟩] scope pos) scope env at' (newList []) false (eval iter env) use) Q E s := by
  have inner : ∀ it s₂, CompAt prog w A s₀ env cl scope x ifs elt L Post it s₂ → _ := fun it s₂ c => comp_block (px := px) (iter := iter) (pos := pos) (E := E) (RR := compPost (model prog w) A E use Q) hcell hkind hx c out
  have outer := wpAny_mono h (fun _ _ i => wpAny_mono i inner fun _ _ e => e) fun _ _ e => e
  exact wpAny_comprehension_free rfl hs hclos hkind hnames outer

theorem comp_eval {elt iter : Expr} {x : Str} {px : Pos} {ifs : List Expr} {scope : Scope} {cl : List (Str × Addr)} {pos : Pos} {Q : Value → Shared → Prop}
    (h : wpAny (model prog w) A (eval iter env) (fun xv s₁ => wpAny (model prog w) A (pyIter xv) (fun it s₂ => CompAt prog w A s₀ env cl scope x ifs elt L (fun _ _ _ _ D s' => Q (.ref D) s') it s₂) E s₁) E s)
    (hclos : closureFor scope env = pure cl) (hcell : ∀ y ∈ scope.names, y.2 ≠ .cell) (hkind : scope.kind = .function)
    (hnames : ∀ y ∈ scope.names, y.2 = .local → scope.names.lookup y.1 = some .local) (hx : scope.names.lookup x = some .local)
    (hs : ∀ x, foldedSetIterable iter env x = pure x) :
    wpAny (model prog w) A (eval (.ListComp elt [⟨.Name x px, iter, ifs, 0⟩] scope pos) env) Q E s :=
  comp_any (use := none) h hclos hcell hkind hnames hx hs fun D C g₁ ys ms τ₁ s₁ hp S₁ => by
    obtain ⟨m, hm⟩ := ns_of S₁
    exact ⟨m, hm, fun h' hs' => hp _ (drop_head S₁ hs')⟩

theorem comp_assign {elt iter : Expr} {x y : Str} {px py : Pos} {ifs : List Expr} {scope : Scope} {cl : List (Str × Addr)} {pos spos : Pos} {Q : Flow → Shared → Prop}
    (h : wpAny (model prog w) A (eval iter env) (fun xv s₁ => wpAny (model prog w) A (pyIter xv) (fun it s₂ => CompAt prog w A s₀ env cl scope x ifs elt L
      (fun g₁ ys ms τ₁ D s' => ∃ ms', SetL y (vR D) ms ms' ∧ ∀ s'', St s₀ g₁ s'' ((L, IsNs ms') :: (D, LX ys) :: τ₁) → Q .next s'') it s₂) E s₁) E s)
    (hsw : swapsWith (.ListComp elt [⟨.Name x px, iter, ifs, 0⟩] scope pos) (some (.Name y py)) spos.line env = pure true)
    (hclos : closureFor scope env = pure cl) (hcell : ∀ y ∈ scope.names, y.2 ≠ .cell) (hkind : scope.kind = .function)
    (hnames : ∀ y ∈ scope.names, y.2 = .local → scope.names.lookup y.1 = some .local) (hx : scope.names.lookup x = some .local)
    (hs : ∀ x, foldedSetIterable iter env x = pure x) (hL : env.locals = L) (hk : env.scope.kind = .function) (hy : env.kindOf y = some .local) :
    wpAny (model prog w) A (exec (.Assign [.Name y py] (.ListComp elt [⟨.Name x px, iter, ifs, 0⟩] scope pos) spos) env) Q E s := by
  have store : ∀ D C g₁ ys ms τ₁ s₁, (∀ s₃, St s₀ g₁ s₃ ((L, IsNs ms) :: (D, LX ys) :: τ₁) → ∃ ms', SetL y (vR D) ms ms' ∧ ∀ s'', St s₀ g₁ s'' ((L, IsNs ms') :: (D, LX ys) :: τ₁) → Q .next s'') →
      St s₀ g₁ s₁ ((C, IsNs []) :: (L, IsNs ms) :: (D, LX ys) :: τ₁) → compPost (model prog w) A E (some (assign (.Name y py) env)) (fun _ s' => Q .next s') (.ref D) C (.ok .next) s₁ := by
    intro D C g₁ ys ms τ₁ s₁ hp S₁
    obtain ⟨ms', u, hq⟩ := hp _ (drop_head S₁ (Heap.SameBut.refl _ _))
    refine wpAny_assign_Name (stR S₁.swap u (fun s₃ S₃ => ?_) hL hk hy)
    obtain ⟨m, hm⟩ := ns_of S₃.swap
    exact ⟨m, hm, fun h' hs' => hq _ (drop_head S₃.swap hs')⟩
  have whole := comp_any (px := px) (pos := pos) (at' := firstIterPos [⟨.Name x px, iter, ifs, 0⟩] pos) h hclos hcell hkind hnames hx hs store
  rw [exec_Assign_Name_used _ _ _ _ hsw]
  exact wpAny_bind (wpAny_standAt (wpAny_bind (wpAny_bind (wpAny_mono whole (fun _ _ q => wpAny_pure (wpAny_pure q)) fun _ _ e => e))))
end
theorem lookup_nodup' {α : Type} {bs : List (Str × α)} (hn : (bs.map (·.1)).Nodup) {x : Str} {v : α} (h : (x, v) ∈ bs) : bs.lookup x = some v := by
  induction bs with
  | nil => cases h
  | cons p r ih =>
    obtain ⟨y, w⟩ := p
    simp only [List.map_cons, List.nodup_cons] at hn
    rcases List.mem_cons.mp h with e | h
    · cases e; simp [List.lookup]
    · have hne : (x == y) = false := by
        rw [beq_eq_false_iff_ne]
        exact fun e => hn.1 (e ▸ List.mem_map_of_mem (f := (·.1)) h)
      simp only [List.lookup, hne]
      exact ih hn.2 h

inductive CellOk (cm : Str → Option Value) : List (Str × Addr) → Led → Prop
  | nil : CellOk cm [] []
  | cons {n : Str} {c : Addr} {P : Pd} {cs : List (Str × Addr)} {l : Led} (h : ∀ o : Obj, o.data = .cell (cm n) → P o) : CellOk cm cs l → CellOk cm ((n, c) :: cs) ((c, P) :: l)
theorem CellOk.keys {cm : Str → Option Value} {cs : List (Str × Addr)} {l : Led} (h : CellOk cm cs l) : l.map (·.1) = cs.map (·.2) := by
  induction h with
  | nil => rfl
  | cons _ _ ih => simp only [List.map_cons, ih]
theorem CellOk.mem {cm : Str → Option Value} {cs : List (Str × Addr)} {l : Led} (h : CellOk cm cs l) : ∀ p ∈ l, ∃ n, (n, p.1) ∈ cs ∧ ∀ o : Obj, o.data = .cell (cm n) → p.2 o := by
  induction h with
  | nil => intro p hp; cases hp
  | cons h _ ih =>
    intro p hp
    rcases List.mem_cons.mp hp with rfl | hp
    · exact ⟨_, .head _, h⟩
    · obtain ⟨n, a, b⟩ := ih p hp; exact ⟨n, .tail _ a, b⟩

section
variable {prog : Program} {w : World} {A : Around} {s₀ s : Shared} {g : Heap} {σ : Led} {R : Result → Shared → Prop} {f : Addr} {fd : FuncData} {body : List Stmt} {vals : List Value} {binds : List (Str × Value)} {ms : List (Str × Vp)}
theorem St.join {σ₁ σ₂ : Led} (S : St s₀ g s σ₂) (h1 : ∀ p ∈ σ₁, At s.heap p.1 p.2) (h2 : (σ₁.map (·.1)).Nodup) (h3 : ∀ p ∈ σ₁, ∀ q ∈ σ₂, p.1 ≠ q.1) (h4 : ∀ p ∈ σ₁, g.get? p.1 = none) : St s₀ g s (σ₁ ++ σ₂) where
  same := S.same
  keep := S.keep
  has := fun p hp => (List.mem_append.mp hp).elim (h1 p) (S.has p)
  nd := by
    rw [List.map_append, List.nodup_append]
    refine ⟨h2, S.nd, fun a ha b hb e => ?_⟩
    obtain ⟨p, hp, rfl⟩ := List.mem_map.mp ha
    obtain ⟨q, hq, rfl⟩ := List.mem_map.mp hb
    exact h3 p hp q hq e
  fresh := fun p hp => (List.mem_append.mp hp).elim (h4 p) (S.fresh p)
theorem call_cl (S : St s₀ g s σ) (G : Gd w g) (hf : FnAt f fd) (hcd : ∀ P, codeIn (hd.heap_39 P) fd.code fd.qualname = true) (hbody : fd.body = .stmts body) (hroom : A.depth < recursionLimit)
    (hbind : bindArgs fd ⟨vals, []⟩ = pure binds) (cs : Addr → List (Str × Addr)) (led : Addr → Led)
    (hms : ∀ L, ∀ p ∈ ms, ∃ v, bindL (callEnvC fd L f).kindOf binds (fun _ => none) p.1 = some v ∧ p.2 v)
    (hcl : ∀ L, CellOk (bindC (callEnvC fd L f).kindOf binds fun _ => none) (cs L) (led L))
    (h : ∀ L s₁, St s₀ g s₁ ((L, IsNs ms) :: (led L ++ σ)) → wpAny (model prog w) (A.deeper (callEnvC fd L f)) (execs body (callEnvC fd L f)) (fun fl s' => R (.ok (.ret (match fl with | .ret v => v | _ => .none))) s') (fun _ _ => False) s₁)
    (hcs : ∀ L, (callEnvC fd L f).cells = cs L) (hnc : ∀ L, ((cs L).map (·.1)).Nodup)
    (hkind : (binds.all fun y => fd.scope.names.lookup y.1 == some .local || fd.scope.names.lookup y.1 == some .cell) = true) (hnd : (ms.map (·.1)).Nodup)
    (hclo : fd.closure = []) (hco : fd.scope.isCoroutine = false) (hgen : fd.scope.isGenerator = false) (hk : fd.scope.kind = .function) :
    codeAny (model prog w) A (.call (.ref f) ⟨vals, []⟩) R s := by
  obtain ⟨p, loose, mg, mb, T⟩ := G.T
  have X := G.X.keeps S.keep
  refine codeAny_call_cells hroom (X _ _ (hf _)) rfl (T.nolimit.keeps S.keep) (codeRec_of X (hcd _)) hbody hbind hclo (kindsX hkind _) (fun s₁ x => ?_) hco hgen hk
  refine wpAny_mono (h _ s₁ ?_) (fun _ _ x => x) fun _ _ x => x.elim
  have S₀ : St s₀ g s₁ σ := ⟨by obtain ⟨h₁, tk, rfl⟩ := x.toInCall.same; obtain ⟨h₂, tk₂, e⟩ := S.same; exact ⟨h₁, tk, by rw [e]⟩, S.keep.tr x.toInCall.keep, fun p hp => (S.has p hp).mono x.toInCall.keep, S.nd, S.fresh⟩
  have gn : ∀ a, s.heap.objs.size ≤ a → g.get? a = none := fun a ha => by
    cases q : g.get? a with
    | none => rfl
    | some o => exact absurd (Heap.lt_size (S.keep _ _ q)) (Nat.not_lt.mpr ha)
  have hgt : ∀ p ∈ led s.heap.objs.size, s.heap.objs.size < p.1 := fun p hp => by
    obtain ⟨n, hn, _⟩ := (hcl s.heap.objs.size).mem p hp
    exact x.above n p.1 (hcs _ ▸ hn)
  have S₁ := St.join (σ₁ := led s.heap.objs.size) S₀ (fun p hp => ?_) ?_ (fun p hp q hq e => ?_) (fun p hp => gn _ (Nat.le_of_lt (hgt p hp)))
  · refine St.join (σ₁ := [(s.heap.objs.size, IsNs ms)]) S₁ (fun p hp => ?_) (by simp) (fun p hp q hq e => ?_) (fun p hp => ?_)
    · obtain rfl := List.mem_singleton.mp hp
      obtain ⟨o, es, ep, ho, hd', hks, hfd⟩ := x.toInCall.ns
      exact ⟨o, ho, es, ep, hd', hks, hnd, fun p hp => by
        obtain ⟨v, a, b⟩ := hms s.heap.objs.size p hp
        exact ⟨v, (hfd _).trans a, b⟩⟩
    · obtain rfl := List.mem_singleton.mp hp
      rcases List.mem_append.mp hq with hq | hq
      · exact absurd (hgt q hq) (by rw [← e]; exact Nat.lt_irrefl _)
      · exact absurd (At.lt (S.has q hq)) (by rw [← e]; exact Nat.lt_irrefl _)
    · obtain rfl := List.mem_singleton.mp hp
      exact gn _ (Nat.le_refl _)
  · obtain ⟨n, hn, hP⟩ := (hcl s.heap.objs.size).mem p hp
    obtain ⟨o, ho, hd'⟩ := x.cell n p.1 (by rw [hcs]; exact lookup_nodup' (hnc _) hn)
    exact ⟨o, ho, hP o hd'⟩
  · rw [(hcl s.heap.objs.size).keys]
    have := x.apart
    rw [hcs] at this
    exact List.pairwise_map.mpr (this.imp fun h => h)
  · exact absurd (At.lt (S.has q hq)) (by rw [← e]; exact Nat.not_lt.mpr (Nat.le_of_lt (hgt p hp)))
end
theorem take_snoc {α : Type} {l : List α} {i : Nat} {d : α} (h : i < l.length) : l.take (i + 1) = l.take i ++ [l.getD i d] := by
  rw [List.take_succ_eq_append_getElem h]
  simp [List.getD, h]
theorem getD_map {α β : Type} {f : α → β} {l : List α} {i : Nat} {d : α} {e : β} (h : i < l.length) : (l.map f).getD i e = f (l.getD i d) := by
  simp [List.getD, h]
theorem filter_range_succ (p : Nat → Bool) (i : Nat) : (List.range (i + 1)).filter p = (List.range i).filter p ++ (if p i = true then [i] else []) := by
  rw [List.range_succ, List.filter_append]
  congr 1
  by_cases h : p i = true
  · simp [h]
  · simp [h]
theorem keep_of {f : Addr} {fd : FuncData} (hf : FnAt f fd) (P : Params) : keepIn (hd.heap_39 P) (.ref f) = true := by
  unfold keepIn
  dsimp only
  rw [hf]
section
variable {prog : Program} {w : World} {A : Around} {E : Value → Shared → Prop} {s₀ s : Shared} {g : Heap} {σ : Led} {env : Env} {x : Str} {pos : Pos} {Q : Value → Shared → Prop}
theorem cwF {f : Addr} {fd : FuncData} {e : Expr} {rest : List Expr} (G : Gd w g) (hf : FnAt f fd)
    (h : wpAny (model prog w) A (spliced (backTo pos (starEach (e :: rest) env))) (fun vs s₁ => (hd.heap_39 w.params).In s₁.heap ∧ wpAny (model prog w) A (call (.ref f) vs) Q E s₁) E s)
    (he : starEach (e :: rest) env = (false, eval e env) :: starEach rest env) (hplain : (backTo pos (starEach rest env)).any (·.1) = false) :
    wpAny (model prog w) A (callWith pos (.ref f) [] (backTo pos (starEach (e :: rest) env)) []) Q E s :=
  callWith_K G.X (keep_of hf _) h he hplain
theorem kInS (G : Gd w g) (S : St s₀ g s σ) {p : Prop} (h : p) : (hd.heap_39 w.params).In s.heap ∧ p := ⟨G.X.keeps S.keep, h⟩
theorem callD {f : Addr} {vs : List Value} (h : codeAny (model prog w) A (.call (.ref f) ⟨vs, []⟩) (fun r s' => match r with | .ok (.ret v) => Q v s' | .ok _ => False | .error e => E e s') s) : wpAny (model prog w) A (call (.ref f) vs) Q E s := wpAny_call h
theorem nmCI {c : Addr} {n : Int} (hc : env.cells.lookup x = some c) (C : At s.heap c (IsCl (vI n))) (h : ∀ t, Q (.int n t) s)
    (hk : env.scope.kind = .function) (hx : env.kindOf x = some .cell) (hd : (x == ("__debug__" : Str)) = false) : wpAny (model prog w) A (eval (.Name x pos) env) Q E s := nmC hc C (fun v ⟨t, e⟩ => e ▸ h t) hk hx hd
theorem nmCR {c a : Addr} (hc : env.cells.lookup x = some c) (C : At s.heap c (IsCl (vR a))) (h : Q (.ref a) s)
    (hk : env.scope.kind = .function) (hx : env.kindOf x = some .cell) (hd : (x == ("__debug__" : Str)) = false) : wpAny (model prog w) A (eval (.Name x pos) env) Q E s := nmC hc C (fun v e => (show v = .ref a from e) ▸ h) hk hx hd
theorem oShrN {a b : Nat} {t u : Tok} (S : St s₀ g s σ) (h : ∀ s' t', St s₀ g s' σ → Q (.int ((a / 2 ^ b : Nat) : Int) t') s') : wpAny (model prog w) A (binaryOp .RShift (.int a t) (.int b u)) Q E s :=
  oShr S (by omega) fun s' t' S' => by
    have e : ((a : Int).fdiv (2 ^ (b : Int).toNat)) = ((a / 2 ^ b : Nat) : Int) := by
      rw [Int.toNat_natCast, Int.fdiv_eq_ediv_of_nonneg _ (by exact Int.pow_nonneg (by decide))]
      simp
    rw [e]; exact h s' t' S'
theorem oAnd1 {a : Nat} {t u : Tok} (S : St s₀ g s σ) (h : ∀ s' t', St s₀ g s' σ → Q (.int ((a % 2 : Nat) : Int) t') s') : wpAny (model prog w) A (binaryOp .BitAnd (.int a t) (.int 1 u)) Q E s :=
  oAnd S fun s' t' S' => by
    have e : Builtin.bitAnd (a : Int) 1 = ((a % 2 : Nat) : Int) := by
      have := bitAnd_nat a 1
      rw [show ((1 : Nat) : Int) = 1 from rfl] at this
      rw [this, Nat.and_one_is_mod]
    rw [e]; exact h s' t' S'
theorem if_eq1 {n : Nat} {p q : Prop} (h0 : n = 1 → p) (h1 : n ≠ 1 → q) : if ((n : Int) == 1) = true then p else q := by
  by_cases e : n = 1
  · subst e; exact h0 rfl
  · rw [if_neg (by simp; omega)]; exact h1 e
end
/-! ## tuple(reversed(list)) -/
section
variable {prog : Program} {w : World} {A : Around} {E : Value → Shared → Prop} {s : Shared}
theorem rv_len : typeLookup (.type "list_reverseiterator") "__len__" = pure none := by rw [typeLookup_type, builtinLookup_eq_fast]; kernel_rfl
theorem rv_hint : typeLookup (.type "list_reverseiterator") "__length_hint__" = pure (some (.builtin "list_reverseiterator.__length_hint__")) := by rw [typeLookup_type, builtinLookup_eq_fast]; kernel_rfl
theorem rv_self : isSubtype (.type "list_reverseiterator") (.type "list_reverseiterator") = pure true := by rw [isSubtype_type]; kernel_rfl
theorem rv_split : splitId "list_reverseiterator.__length_hint__" = some ("list_reverseiterator", "__length_hint__") := by decide +kernel
theorem rv_noRoom {I : Addr} {Q : Bool → Shared → Prop} (hT : s.TypeIs (.ref I) "list_reverseiterator") (h : Q false s) : wpAny (model prog w) A (Builtin.List.listLengthHint (.ref I)) Q E s := by
  unfold Builtin.List.listLengthHint
  refine wpAny_bind (wpAny_specialOf hT rv_len (wpAny_ite_false rfl (wpAny_ite_false rfl (wpAny_bind (wpAny_specialOf hT rv_hint ?_)))))
  simp only [rv_split]
  exact wpAny_bind (wpAny_isInstance hT rv_self (wpAny_ite_false rfl (wpAny_ite_true rfl (wpAny_ite_false rfl (wpAny_pure h)))))
/-- into a built-in's own body -/
theorem rv_enter {id : String} {b : Builtin} {args : Args} {R : Result → Shared → Prop} (he : entryFor table id = some b) (hp : plainId id = true)
    (h : wpAny (model prog w) A.in1 (b args) (fun fin s' => match fin with | .done f => R (.ok f) s' | .again c' => c'.quiet = true ∧ codeAny (model prog w) A c' R s') (fun e s' => R (.error e) s') s) :
    codeAny (model prog w) A (.builtin id args) R s := codeAny_builtin he (by rw [Around.under_plainId hp]; exact h)
abbrev lstO (acc : Array Value) (c : Nat) : Obj := { cls := .type "list", dict := none, data := .seq acc c, slots := #[] }
theorem rv_iadd {D I l : Addr} {its : Array Value} {c : Nat} {R : Result → Shared → Prop} (hh : A.handled = none) (hD : s.heap.get? D = some (lstO #[] c)) (hI : s.heap.IsRevIter I l ((its.size : Int) - 1)) (hl : s.heap.IsList l its)
    (h1 : D ≠ I) (h2 : D ≠ l) (h3 : l ≠ I) (hz : its.size ≤ sizeLine)
    (h : ∀ s' acc c', Moved [D, I] (fun a b => b = a) s s' → s'.heap.get? D = some (lstO acc c') → acc.toList = its.toList.reverse → R (.ok (.ret (.ref D))) s') :
    codeAny (model prog w) A (.builtin "list.__iadd__" ⟨[.ref D, .ref I], []⟩) R s := by
  have hW := (Walks.listRev (prog := prog) (w := w) (A := A.in1) hh I l h3 its).toS
  have hT := hI.typeIs
  have st : (0 : Nat) ≤ its.size ∧ s.heap.IsRevIter I l ((its.size : Int) - 1 - ((0 : Nat) : Int)) ∧ s.heap.IsList l its := ⟨Nat.zero_le _, by simpa using hI, hl⟩
  have loop := codeAny_extend_loopS (A := A) (R := R) hW hz D (by simp [h1, h2]) (.ref D) its.size 0 s #[] c rfl (Nat.zero_le _) st hD (ItemsOf.nil _) fun s' acc c' hm hD' hi => h s' acc c' hm hD' ?_
  · refine rv_enter F.entry_list_iadd F.plain_list_iadd (wpAny_bind (wpAny_pure ?_))
    show wpAny _ A.in1 (Builtin.List.listExtendWith (.ref D) (.ref I) (.ref D)) _ _ _
    refine wpAny_bind (wpAny_typeOf hT (wpAny_ite_false ?_ (wpAny_bind (hW.self 0 _ _ _ st (wpAny_bind (wpAny_holding (rv_noRoom hT ?_)))))))
    · simp [Builtin.List.listSameRef, h1]
    · exact wpAny_ite_false (by decide) (wpAny_pure ⟨plainId_quiet F.plain_extend_loop _, loop⟩)
  · apply List.ext_getElem?
    intro j
    rw [Array.getElem?_toList]
    by_cases hj : j < its.size
    · have e := Array.getElem?_eq_getElem (show j < acc.size by rw [hi.1]; exact hj)
      rw [List.getElem?_reverse (by simpa using hj), e, ← hi.2 j _ e]
      simp
    · rw [Array.getElem?_eq_none (by rw [hi.1]; omega), List.getElem?_eq_none (by simp; omega)]
theorem rv_collect {I l : Addr} {its : Array Value} {Q : List Value → Shared → Prop} (hh : A.handled = none) (hI : s.heap.IsRevIter I l ((its.size : Int) - 1)) (hl : s.heap.IsList l its) (h3 : l ≠ I) (hz : its.size ≤ sizeLine)
    (h : ∀ s', Moved [I] (fun a b => b = a) s s' → Q its.toList.reverse s') : wpAny (model prog w) A (collect (.ref I)) Q E s := by
  have old : ∀ {b : Addr} {o : Obj}, s.heap.get? b = some o → b < s.heap.objs.size ∧ (s.heap.push (lstO #[] 0)).get? b = some o := fun e => ⟨Heap.lt_size e, Heap.get?_push_of_some _ e⟩
  have hi : I < s.heap.objs.size := let ⟨_, e, _⟩ := hI; (old e).1
  have hl' : l < s.heap.objs.size := let ⟨_, e, _⟩ := hl; (old e).1
  have work := rv_iadd (prog := prog) (w := w) (A := A) (s := { s with heap := s.heap.push (lstO #[] 0) }) (D := s.heap.objs.size) (c := 0)
    (R := fun r s' => r = .ok (.ret (.ref s.heap.objs.size)) ∧ ∃ acc c, s'.heap.get? s.heap.objs.size = some (lstO acc c) ∧ Q acc.toList s') hh (Heap.get?_push_size _ rfl)
    (hI.at fun _ e => (old e).2) (hl.at fun _ e => (old e).2) (Nat.ne_of_gt hi) (Nat.ne_of_gt hl') h3 hz fun s' acc c hm hD e => ⟨rfl, acc, c, hD, by
      rw [e]; exact h s' (Moved.drop_new (tk := s.toks) hm (Nat.le_refl _))⟩
  unfold collect
  refine wpAny_bind (wpAny_runValue (rv_enter F.entry_proto_collect F.plain_proto_collect ?_))
  refine wpAny_bind (m := newList []) (wpAny_newObj_type (wpAny_pure ⟨plainId_quiet F.plain_list_iadd _, codeAny_mono work ?_⟩))
  rintro r s' ⟨rfl, acc, c, hD, hQ⟩
  exact wpAny_bind (wpAny_load hD (wpAny_pure hQ))
end
theorem rv_new (I l : Addr) (its : Array Value) (h3 : l ≠ I) (hz : its.size ≤ sizeLine) :
    Meets (Builtin.«tuple.__new__» ⟨[.type "tuple", .ref I], []⟩) (fun A R s => A.handled = none ∧ s.heap.IsRevIter I l ((its.size : Int) - 1) ∧ s.heap.IsList l its ∧
      ∀ s', Moved [I] (fun a b => b = a) s s' → R (.ok (.ret (.ref s'.heap.objs.size))) { s' with heap := s'.heap.push { cls := .type "tuple", data := .seq its.toList.reverse.toArray } }) := by
  refine .of_wp fun prog w A R s ⟨hh, hI, hl, h⟩ => ?_
  have h1 := sub_tuple_self
  have h2 := init_tuple_lookup
  have h4 := madeHere_tuple
  wp_walk using wpAny_typeOf hI.typeIs, rv_collect (A := A.in1) hh hI hl h3 hz
  intro s' hm
  refine wpAny_bind (wpAny_pure (wpAny_bind (m := Builtin.Tuple.tupleExact _) (wpAny_newObj_type (wpAny_pure ⟨_, rfl, h s' hm⟩) ?_)))
  show its.toList.reverse.toArray.size ≤ sizeLine
  simpa using hz
section
variable {prog : Program} {w : World} {A : Around} {E : Value → Shared → Prop} {s₀ s : Shared} {g : Heap} {σ : Led} {L : Addr} {ms : List (Str × Vp)}
def IsRev (l : Addr) (n : Nat) : Pd := fun o => o = revObj l ((n : Int) - 1)
theorem cReversed {P : List Value → Prop} {l : Addr} {n : Nat} {Q : Value → Shared → Prop} (S : St s₀ g s ((L, IsNs ms) :: σ)) (X : At s.heap l (IsLst P)) (hn : ∀ vs, P vs → vs.length = n)
    (h : ∀ s' a, St s₀ g s' ((L, IsNs ms) :: (a, IsRev l n) :: σ) → Q (.ref a) s') : wpAny (model prog w) A (call (.type "reversed") [.ref l]) Q E s := by
  obtain ⟨vs, k, hi, ho⟩ := isL_of X
  refine call_reversed_list (PySem.IsL.isList (n := k) ho) ?_
  refine h _ _ (S.push (P := IsRev l n) (tk := s.toks) ?_ rfl).swap
  show _ = _
  rw [List.size_toArray, hn vs hi]
theorem St.moved {a : Addr} {P : Pd} {s' : Shared} (S : St s₀ g s ((a, P) :: σ)) (hm : Moved [a] (fun x y => y = x) s s') : St s₀ g s' σ := by
  have off : ∀ {b : Addr}, b ≠ a → b ∉ [a] := fun hb q => hb (List.mem_singleton.mp q)
  refine ⟨⟨s'.heap, s'.toks, ?_⟩, fun b o e => hm.heap b o (off ?_) (S.keep b o e), fun p hp => ?_, (List.nodup_cons.mp S.nd).2, fun p hp => S.fresh p (.tail _ hp)⟩
  · obtain ⟨_, _, e⟩ := S.same
    obtain ⟨_, e1, e2, e3, _⟩ := hm
    cases s'
    subst e
    simp_all
  · rintro rfl
    have := S.fresh (b, P) (.head _)
    rw [this] at e; cases e
  · obtain ⟨o, e, q⟩ := S.has p (.tail _ hp)
    exact ⟨o, hm.heap _ _ (off fun q => (List.nodup_cons.mp S.nd).1 (q ▸ List.mem_map_of_mem (f := (·.1)) hp)) e, q⟩
theorem cTupleRev {P : List Value → Prop} {l a : Addr} {n : Nat} {Q : Value → Shared → Prop} (S : St s₀ g s ((L, IsNs ms) :: (a, IsRev l n) :: σ)) (hh : A.handled = none) (X : At s.heap l (IsLst P)) (hn : ∀ vs, P vs → vs.length = n) (hz : n ≤ 2 ^ 20) (hl : l ≠ a)
    (h : ∀ s' t, St s₀ g s' ((L, IsNs ms) :: (t, IsTpl fun us => ∃ vs, P vs ∧ us = vs.reverse) :: σ) → Q (.ref t) s') : wpAny (model prog w) A (call (.type "tuple") [.ref a]) Q E s := by
  obtain ⟨vs, k, hi, ho⟩ := isL_of X
  obtain ⟨_, hr, rfl⟩ := S.get (.tail _ (.head _))
  have hsz : vs.toArray.size = n := by simpa using hn vs hi
  refine callType_new F.called_tuple (by decide) (F.typeCall_tuple_1 _) (F.newCall_tuple_1 _) (fun obj => F.args_object_init_2 obj _) F.entry_tuple_new (rv_new a l vs.toArray hl (by rw [hsz, sizeLine_eq]; omega))
    ⟨hh, ⟨_, hr, rfl, by rw [hsz]; rfl⟩, PySem.IsL.isList (n := k) ho, fun s' hm => ⟨⟨_, Heap.get?_push_size _ rfl, rfl⟩, ?_⟩⟩
  exact h _ _ ((St.moved S.swap hm).push (P := IsTpl fun us => ∃ vs, P vs ∧ us = vs.reverse) (tk := s'.toks) ⟨vs.reverse, 0, ⟨vs, hi, rfl⟩, by simp⟩ rfl).swap
end

/-! ## dicts of ints -/
def VI (kvs : List (Int × Value)) (kis : List (Int × Int)) : Prop := kvs.map (·.1) = kis.map (·.1) ∧ IntsAre (kvs.map (·.2)) (kis.map (·.2))
def DI (prog : Program) (w : World) (kis : List (Int × Int)) : Pd := fun o => ∃ kvs, VI kvs kis ∧ o.IsDictOf (intKind prog w) kvs
theorem VI.nil : VI [] [] := ⟨rfl, .nil⟩
theorem VI.snoc {kvs : List (Int × Value)} {kis : List (Int × Int)} (h : VI kvs kis) (k x : Int) (t : Tok) : VI (kvs ++ [(k, .int x t)]) (kis ++ [(k, x)]) := by
  refine ⟨by simp [h.1], ?_⟩
  rw [List.map_append, List.map_append]
  exact intsAre_append h.2 (.cons _ _ .nil)
theorem VI.at {kvs : List (Int × Value)} {kis : List (Int × Int)} (h : VI kvs kis) {i : Nat} {k x : Int} (hi : kis[i]? = some (k, x)) : ∃ t, kvs[i]? = some (k, .int x t) := by
  have h1 : (kvs.map (·.1))[i]? = some k := by rw [h.1, List.getElem?_map, hi]; rfl
  obtain ⟨t, h2⟩ := h.2.get i x (by rw [List.getElem?_map, hi]; rfl)
  rw [List.getElem?_map] at h1 h2
  cases e : kvs[i]? with
  | none => rw [e] at h1; cases h1
  | some p =>
    obtain ⟨a, b⟩ := p
    rw [e] at h1 h2
    cases h1; cases h2
    exact ⟨t, rfl⟩
theorem VI.length {kvs : List (Int × Value)} {kis : List (Int × Int)} (h : VI kvs kis) : kvs.length = kis.length := by
  have := congrArg List.length h.1
  simpa using this
theorem valueAt_none {kvs : List (Int × Value)} {k : Int} (h : k ∉ kvs.map (·.1)) : valueAt kvs k = none := by
  unfold valueAt
  rw [List.find?_eq_none.mpr]
  · rfl
  · intro p hp
    simp only [decide_eq_true_eq]
    exact fun e => h (e ▸ List.mem_map_of_mem hp)
theorem valueAt_isSome {kvs : List (Int × Value)} {k : Int} : (valueAt kvs k).isSome = decide (k ∈ kvs.map (·.1)) := by
  by_cases h : k ∈ kvs.map (·.1)
  · rw [decide_eq_true h]
    unfold valueAt
    rw [Option.isSome_map, List.find?_isSome]
    obtain ⟨p, hp, rfl⟩ := List.mem_map.mp h
    exact ⟨p, hp, by simp⟩
  · rw [decide_eq_false h, valueAt_none h]; rfl
section
variable {prog : Program} {w : World} {A : Around} {E : Value → Shared → Prop} {s₀ s : Shared} {g : Heap} {σ σ' : Led} {L : Addr} {ms : List (Str × Vp)} {env : Env} {pos : Pos}
theorem mkD {Q : Value → Shared → Prop} (S : St s₀ g s ((L, IsNs ms) :: σ)) (G : Gd w g) (h : ∀ s' d, (d == sysModules) = false → St s₀ g s' ((L, IsNs ms) :: (d, DI prog w []) :: σ) → Q (.ref d) s') :
    wpAny (model prog w) A (eval (.Dict [] [] pos) env) Q E s := by
  obtain ⟨p, loose, mg, mb, T⟩ := G.T
  obtain ⟨o, ho, hd⟩ := Heap.dictOf_iff.mp (Heap.DictOf.new (knd := intKind prog w) s.heap)
  have low := Nat.ne_of_gt (modules_low (T.nolimit.keeps S.keep))
  exact wpAny_Dict_empty (h _ _ (by rw [beq_eq_false_iff_ne]; exact low) (S.new (P := DI prog w []) (tk := s.toks) (sub_push _ _) (get_size_none _) ho ⟨[], .nil, hd⟩).swap)
theorem isInt_is (k : Int) (t : Tok) : (intKind prog w).is k (.int k t) = true := by
  show Value.isInt k (.int k t) = true
  simp [Value.isInt]
theorem di_of {a : Addr} {kis : List (Int × Int)} {h : Heap} (X : At h a (DI prog w kis)) : ∃ kvs, VI kvs kis ∧ h.DictOf (intKind prog w) a kvs := by
  obtain ⟨o, ho, kvs, hv, hd⟩ := X
  exact ⟨kvs, hv, Heap.dictOf_iff.mpr ⟨o, ho, hd⟩⟩
theorem di_nodup {a : Addr} {kis : List (Int × Int)} {h : Heap} (X : At h a (DI prog w kis)) : (kis.map (·.1)).Nodup := by
  obtain ⟨o, ho, kvs, hv, es, ep, _, _, _, _, hn⟩ := X
  exact hv.1 ▸ hn
theorem dIn {a : Addr} {kis : List (Int × Int)} {k : Int} {t : Tok} {Q : Value → Shared → Prop} (S : St s₀ g s σ) (X : At s.heap a (DI prog w kis)) (hm : (a == sysModules) = false) (h : ∀ s', St s₀ g s' σ → Q (.bool (decide (k ∈ kis.map (·.1)))) s') :
    wpAny (model prog w) A (compareOp .In (.int k t) (.ref a)) Q E s := by
  obtain ⟨kvs, hv, hd⟩ := di_of X
  refine wpAny_in_of (knd := intKind prog w) (isInt_is k t) hm hd.mapOf ?_
  rw [valueAt_isSome, hv.1]
  exact h _ (S.tok _)
theorem dNotIn {a : Addr} {kis : List (Int × Int)} {k : Int} {t : Tok} {Q : Value → Shared → Prop} (S : St s₀ g s σ) (X : At s.heap a (DI prog w kis)) (hm : (a == sysModules) = false) (h : ∀ s', St s₀ g s' σ → Q (.bool (!decide (k ∈ kis.map (·.1)))) s') :
    wpAny (model prog w) A (compareOp .NotIn (.int k t) (.ref a)) Q E s := by
  obtain ⟨kvs, hv, hd⟩ := di_of X
  refine wpAny_notIn_of (knd := intKind prog w) (isInt_is k t) hm hd.mapOf ?_
  rw [valueAt_isSome, hv.1]
  exact h _ (S.tok _)
theorem dGet {a : Addr} {kis : List (Int × Int)} {value slice : Expr} {i : Nat} {k x : Int} {t : Tok} {Q : Value → Shared → Prop} (S : St s₀ g s σ) (X : At s.heap a (DI prog w kis)) (hi : kis[i]? = some (k, x)) (h : ∀ s' t', St s₀ g s' σ → Q (.int x t') s')
    (hs : subscripted slice false (.ref a) (.int k t) = operate [.ref a, .int k t] (getItem (.ref a) (.int k t)) := by with_unfolding_all rfl) :
    wpAny (model prog w) A (subscriptTail value slice (.ref a) (.int k t)) Q E s := by
  obtain ⟨kvs, hv, hd⟩ := di_of X
  obtain ⟨t', ht⟩ := hv.at hi
  have hnd : (kvs.map (·.1)).Nodup := by obtain ⟨_, _, _, _, _, _, _, _, hn⟩ := hd; exact hn
  exact tail_any hd.typeIs slot_dict_getitem.lookup (wpAny_getItem_of (knd := intKind prog w) (isInt_is k t) hd.mapOf (valueAt_of_get hnd ht) (h _ _ (S.tok _))) hs
theorem dSet {a : Addr} {kis : List (Int × Int)} {k x : Int} {t u : Tok} {Q : Unit → Shared → Prop} (S : St s₀ g s σ) (U : Up a (DI prog w kis) (DI prog w (kis ++ [(k, x)])) σ σ') (hk : k ∉ kis.map (·.1)) (hz : kis.length ≤ 2 ^ 20) (h : ∀ s', St s₀ g s' σ' → Q () s') :
    wpAny (model prog w) A (setItem (.ref a) (.int k t) (.int x u)) Q E s := by
  obtain ⟨kvs, hv, hd⟩ := di_of (S.get U.mem)
  refine wpAny_setItem_pairs (knd := intKind prog w) (isInt_is k t) hd (fun h' hd' hs => ?_) (by rw [hv.length, sizeLine_eq]; omega)
  obtain ⟨o', ho', hd''⟩ := Heap.dictOf_iff.mp hd'
  have e : stored kvs k (.int x u) = kvs ++ [(k, .int x u)] := by
    unfold stored
    rw [if_neg]
    simp only [List.any_eq_true, decide_eq_true_eq, not_exists, not_and]
    rintro p hp rfl
    exact hk (hv.1 ▸ List.mem_map_of_mem hp)
  rw [e] at hd''
  exact h _ (S.upd U hs ho' ⟨_, hv.snoc k x u, hd''⟩)
def ItK (d : Addr) (n ep i : Nat) : Pd := fun o => ∀ h (a : Addr), Heap.get? h a = some o → h.IsKeyIter a d i n ep
theorem itr_dict {I d : Addr} {kvs : List (Int × Value)} {ep : Nat} (hh : A.handled = none) (hd : g.DictAt (intKind prog w) d kvs ep) :
    IterOn prog w A g I kvs.length (fun i v => ∃ k x t, kvs[i]? = some (k, x) ∧ v = .int k t) (ItK d kvs.length ep) where
  item := fun i s Q E hi hk ⟨o, h1, h2⟩ hQ => by
    have hx : kvs[i]? = some (kvs[i].1, kvs[i].2) := List.getElem?_eq_getElem hi
    refine wpAny_pyNext_dict_item (h2 _ _ h1) (hd.keep hk) hx fun key h' hkey ⟨o', ho', r⟩ hs' => ?_
    obtain ⟨t, rfl⟩ := Value.isInt_shape hkey
    exact hQ _ h' s.toks o' ⟨_, _, t, hx, rfl⟩ ho' (fun h a e => ⟨o', e, r⟩) hs'
  done := fun s Q E hk ⟨o, h1, h2⟩ hQ => wpAny_pyNext_dict_end hh (h2 _ _ h1) (hd.keep hk) (by simp) fun h' he => hQ h' s.toks he
  self := fun s Q E ⟨o, h1, h2⟩ hQ => wpAny_pyIter_keyiter (h2 _ _ h1) hQ
theorem mkIter_dict {d : Addr} {kis : List (Int × Int)} {Q : Value → Shared → Prop} (S : St s₀ g s σ) (hh : A.handled = none) (X : At g d (DI prog w kis)) (hm : (d == sysModules) = false)
    (h : ∀ I s' It, St s₀ g s' ((I, It 0) :: σ) → IterOn prog w A g I kis.length (fun i v => ∃ k x t, kis[i]? = some (k, x) ∧ v = .int k t) It → Q (.ref I) s') : wpAny (model prog w) A (pyIter (.ref d)) Q E s := by
  obtain ⟨kvs, hv, hd⟩ := di_of X
  obtain ⟨ep, hd'⟩ := hd.dictAt
  refine wpAny_pyIter_dict hm (hd'.keep S.keep) ?_
  have W := itr_dict (prog := prog) (w := w) (A := A) (I := s.heap.objs.size) hh hd'
  rw [hv.length] at W
  have hl : (kvs.length : Int) = kis.length := by rw [hv.length]
  rw [hl]
  have W' : IterOn prog w A g s.heap.objs.size kis.length (fun i v => ∃ k x t, kis[i]? = some (k, x) ∧ v = .int k t) (ItK d kis.length ep) := by
    refine ⟨fun i s Q E hi hk hx hQ => W.item i s Q E hi hk hx fun v h' tk o' hw => ?_, W.done, W.self⟩
    obtain ⟨k, x, t, h1, h2⟩ := hw
    refine hQ v h' tk o' ?_
    have h3 : (kvs.map (·.1))[i]? = some k := by rw [List.getElem?_map, h1]; rfl
    rw [hv.1, List.getElem?_map] at h3
    cases e : kis[i]? with
    | none => rw [e] at h3; cases h3
    | some p =>
      obtain ⟨k', x'⟩ := p
      rw [e] at h3; cases h3
      exact ⟨_, x', t, rfl, h2⟩
  exact h _ _ _ (S.push (P := ItK d kis.length ep 0) (tk := s.toks) (fun h' a e => ⟨_, e, rfl, rfl⟩) rfl) W'
end
/-! ## some more steps -/
theorem Up.of_mem {a : Addr} {P : Pd} {σ : Led} (h : (a, P) ∈ σ) : Up a P P σ σ := by
  induction σ with
  | nil => cases h
  | cons x r ih =>
    rcases List.mem_cons.mp h with rfl | h
    · exact .here
    · exact .there (ih h)
theorem all_true (n : Nat) : ((List.range n).all fun _ => true) = true := by simp
section
variable {prog : Program} {w : World} {A : Around} {E : Value → Shared → Prop} {s₀ s : Shared} {g : Heap} {σ σ' : Led} {L : Addr} {ms : List (Str × Vp)} {env : Env} {pos : Pos} {Q : Value → Shared → Prop}
theorem cAbs {a : Int} {t : Tok} (S : St s₀ g s σ) (h : ∀ s' t', St s₀ g s' σ → Q (.int (if a < 0 then -a else a) t') s') : wpAny (model prog w) A (call (.builtin "abs") [.int a t]) Q E s :=
  call_abs_int fun u tk => h _ _ (S.tok _)
theorem cIntI {a : Int} {t : Tok} (h : Q (.int a t) s) : wpAny (model prog w) A (call (.type "int") [.int a t]) Q E s := call_int_int h
theorem cIntB {b : Bool} (S : St s₀ g s σ) (h : ∀ s' t', St s₀ g s' σ → Q (.int (if b then 1 else 0) t') s') : wpAny (model prog w) A (call (.type "int") [.bool b]) Q E s :=
  call_int_bool (h _ _ (S.tok _))
theorem slT {value slice : Expr} {l : Addr} {vs : List Value} {ns : List Int} {y : Int} {u : Tok} (S : St s₀ g s ((L, IsNs ms) :: σ)) (hl : s.heap.IsList l vs.toArray) (hi : IntsAre vs ns) (hz : ns.length ≤ 2 ^ 20) (h0 : 0 ≤ y)
    (h : ∀ s' D, St s₀ g s' ((L, IsNs ms) :: (D, LI (ns.take y.toNat)) :: σ) → Q (.ref D) s')
    (hs : subscripted slice false (.ref l) (.ref s.heap.objs.size) = operate [.ref s.heap.objs.size, .ref l] (getItem (.ref l) (.ref s.heap.objs.size)) := by with_unfolding_all rfl)
    (ht : ∀ r, letTemporaryGo value (.ref l) r = pure () := by intro _; with_unfolding_all rfl) :
    wpAny (model prog w) A (subscriptTail value slice (.ref l) (.ref s.heap.objs.size)) Q E { s with heap := s.heap.push { cls := .type "slice", data := .fields #[.none, .int y u, .none] } } := by
  have hz' : vs.toArray.size ≤ sizeLine := by rw [List.size_toArray, hi.length, sizeLine_eq]; omega
  refine subscriptTail_ops (Heap.IsList.typeIs (s := { s with heap := s.heap.push { cls := .type "slice", data := .fields #[.none, .int y u, .none] } }) (hl.push _)) slot_list_getitem.lookup
    (wpAny_getItem_list_slice (hl.push _) (Heap.IsSliceOf.new ..) .none (.int y u) .none (by simp) ?_ hz') hs ht
  have S₁ := S.keepH (tk := s.toks) (sub_push s.heap { cls := .type "slice", data := .fields #[.none, .int y u, .none] })
  exact h _ _ (S₁.push (P := LI (ns.take y.toNat)) (tk := s.toks) ⟨(slicePick vs.toArray none (some y) none).toList, 0, kmk_upto hi h0, by simp only [Array.toArray_toList]⟩ rfl).swap
theorem neNil {P : List Value → Prop} {a b : Addr} (X : At s.heap a (IsLst P)) (Y : At s.heap b (LX [])) (hu : A.units < cLine) (h0 : At s.heap a (IsLst fun vs => P vs ∧ vs = []) → Q (.bool false) s) (h1 : At s.heap a (IsLst fun vs => P vs ∧ vs ≠ []) → Q (.bool true) s) :
    wpAny (model prog w) A (compareOp .NotEq (.ref a) (.ref b)) Q E s := by
  obtain ⟨vs, n, hp, ho⟩ := isL_of X
  obtain ⟨us, m, rfl, ho'⟩ := isL_of Y
  have hl := PySem.IsL.isList (n := n) ho
  have hl' := PySem.IsL.isList (n := m) ho'
  by_cases e : vs = []
  · subst e
    have := SeqAt.RcNeAt.lists (A := A) (s := s) (e := fun _ => true) hl hl' rfl hu (fun j h1 _ => by simp at h1) prog w E Q
    exact this (h0 ⟨_, ho, _, n, ⟨hp, rfl⟩, rfl⟩)
  · have := SeqAt.RcNeAt.lists_lengths (A := A) (s := s) hl hl' (by simpa using e) hu prog w E Q
    exact this (h1 ⟨_, ho, _, n, ⟨hp, e⟩, rfl⟩)
theorem eqNil {P : List Value → Prop} {a b : Addr} (X : At s.heap a (IsLst P)) (Y : At s.heap b (LX [])) (hu : A.units < cLine) (h0 : At s.heap a (IsLst fun vs => P vs ∧ vs = []) → Q (.bool true) s) (h1 : At s.heap a (IsLst fun vs => P vs ∧ vs ≠ []) → Q (.bool false) s) :
    wpAny (model prog w) A (compareOp .Eq (.ref a) (.ref b)) Q E s := by
  obtain ⟨vs, n, hp, ho⟩ := isL_of X
  obtain ⟨us, m, rfl, ho'⟩ := isL_of Y
  have hl := PySem.IsL.isList (n := n) ho
  have hl' := PySem.IsL.isList (n := m) ho'
  by_cases e : vs = []
  · subst e
    have := SeqAt.RcAt.lists (A := A) (s := s) (e := fun _ => true) hl hl' rfl hu (fun j h1 _ => by simp at h1) prog w E Q
    exact this (h0 ⟨_, ho, _, n, ⟨hp, rfl⟩, rfl⟩)
  · have := SeqAt.RcAt.lists_lengths (A := A) (s := s) hl hl' (by simpa using e) hu prog w E Q
    exact this (h1 ⟨_, ho, _, n, ⟨hp, e⟩, rfl⟩)
theorem eqAt_int (a : Int) (t u : Tok) (A : Around) (s : Shared) : SeqAt.EqAt A s (.int a t) (.int a u) true := by
  have := SeqAt.EqAt.int_int (A := A) (s := s) a t a u
  simpa using this
theorem intsAre_at {vs : List Value} {ns : List Int} (h : IntsAre vs ns) {j : Nat} (hj : j < vs.toArray.size) : ∃ t, vs.toArray[j] = .int (ns.getD j 0) t := by
  have hj' : j < vs.length := by simpa using hj
  have hl := h.length
  obtain ⟨t, e⟩ := h.get j (ns.getD j 0) (by rw [List.getD_eq_getElem?_getD, List.getElem?_eq_getElem (by omega)]; rfl)
  refine ⟨t, ?_⟩
  rw [List.getElem?_eq_getElem hj'] at e
  simpa using e
theorem intsAre_of_get {vs : List Value} {ns : List Int} (h : IntsAre vs ns) {i : Nat} {v : Value} (hv : vs[i]? = some v) : ∃ t, v = .int (ns.getD i 0) t := by
  have hi := (List.getElem?_eq_some_iff.mp hv).1
  obtain ⟨t, e⟩ := h.get i (ns.getD i 0) (by have := h.length; rw [List.getD_eq_getElem?_getD, List.getElem?_eq_getElem (by omega)]; rfl)
  exact ⟨t, by rw [hv] at e; exact Option.some.inj e⟩
theorem eqInts {ns : List Int} {a b : Addr} (X : At s.heap a (LI ns)) (Y : At s.heap b (LI ns)) (hu : A.units < cLine) : SeqAt.RcAt A s (.ref a) (.ref b) true := by
  obtain ⟨vs, n, hp, ho⟩ := isL_of X
  obtain ⟨us, m, hq, ho'⟩ := isL_of Y
  have := SeqAt.RcAt.lists (A := A) (s := s) (e := fun _ => true) (PySem.IsL.isList (n := n) ho) (PySem.IsL.isList (n := m) ho') (by rw [List.size_toArray, List.size_toArray, hp.length, hq.length]) hu (fun j h1 h2 => by
    obtain ⟨t, e⟩ := intsAre_at hp h1
    obtain ⟨u, e'⟩ := intsAre_at hq h2
    rw [e, e']; exact eqAt_int _ _ _ _ _)
  rwa [all_true] at this
theorem neInts {ns : List Int} {a b : Addr} (X : At s.heap a (LI ns)) (Y : At s.heap b (LI ns)) (hu : A.units < cLine) (h : Q (.bool false) s) : wpAny (model prog w) A (compareOp .NotEq (.ref a) (.ref b)) Q E s := by
  obtain ⟨vs, n, hp, ho⟩ := isL_of X
  obtain ⟨us, m, hq, ho'⟩ := isL_of Y
  have := SeqAt.RcNeAt.lists (A := A) (s := s) (e := fun _ => true) (PySem.IsL.isList (n := n) ho) (PySem.IsL.isList (n := m) ho') (by rw [List.size_toArray, List.size_toArray, hp.length, hq.length]) hu (fun j h1 h2 => by
    obtain ⟨t, e⟩ := intsAre_at hp h1
    obtain ⟨u, e'⟩ := intsAre_at hq h2
    rw [e, e']; exact eqAt_int _ _ _ _ _) prog w E Q
  exact this (by rw [all_true]; exact h)
theorem neRows {rows : List (List Nat)} {a b : Addr} (S : St s₀ g s σ) (X : RowsAt g a rows) (Y : RowsAt g b rows) (hu : A.units + 1 < cLine) (h : Q (.bool false) s) : wpAny (model prog w) A (compareOp .NotEq (.ref a) (.ref b)) Q E s := by
  obtain ⟨as, X1, X2, X3⟩ := X
  obtain ⟨bs, Y1, Y2, Y3⟩ := Y
  obtain ⟨vs, n, rfl, ho⟩ := isL_of (X1.mono S.keep)
  obtain ⟨us, m, rfl, ho'⟩ := isL_of (Y1.mono S.keep)
  have := SeqAt.RcNeAt.lists (A := A) (s := s) (e := fun _ => true) (PySem.IsL.isList (n := n) ho) (PySem.IsL.isList (n := m) ho') (by simp [X2, Y2]) (by omega) (fun j h1 h2 => by
    have h1' : j < as.length := by simpa using h1
    have h2' : j < bs.length := by simpa using h2
    have e1 : (as.map Value.ref).toArray[j] = .ref (as.getD j 0) := by simp [List.getD, h1']
    have e2 : (bs.map Value.ref).toArray[j] = .ref (bs.getD j 0) := by simp [List.getD, h2']
    rw [e1, e2]
    by_cases e : as.getD j 0 = bs.getD j 0
    · rw [e]; exact SeqAt.EqAt.same _
    · exact SeqAt.EqAt.of_refs e (eqInts ((X3 j (by omega)).mono S.keep) ((Y3 j (by omega)).mono S.keep) hu)) prog w E Q
  exact this (by rw [all_true]; exact h)
theorem isL_keep {h h' : Heap} {a : Addr} {items : Array Value} (x : h.IsList a items) (k : Sub h h') : h'.IsList a items := let ⟨o, ho, r⟩ := x; ⟨o, k _ _ ho, r⟩
theorem if_any {c : Prop} [Decidable c] {p q : Prop} (h0 : c → p) (h1 : ¬ c → q) : if c then p else q := by
  split
  · exact h0 ‹_›
  · exact h1 ‹_›
theorem if_T {p q : Prop} (h : p) : if true = true then p else q := h
theorem if_F {p q : Prop} (h : q) : if false = true then p else q := h
/-- two ints in a pair, three ints in a tuple .. : the item of a literal -/
theorem litAt {P : List Value → Prop} {value slice : Expr} {a : Addr} {k : Int} {u : Tok} {V : Vp} (X : At s.heap a (IsLst P)) (h0 : 0 ≤ k) (hf : k < 2 ^ 63) (hv : ∀ vs, P vs → ∃ v, vs[k.toNat]? = some v ∧ V v) (h : ∀ v, V v → Q v s)
    (hs : subscripted slice false (.ref a) (.int k u) = operate [.ref a, .int k u] (getItem (.ref a) (.int k u)) := by with_unfolding_all rfl) :
    wpAny (model prog w) A (subscriptTail value slice (.ref a) (.int k u)) Q E s := by
  obtain ⟨vs, n, hi, ho⟩ := isL_of X
  have hl := PySem.IsL.isList (n := n) ho
  obtain ⟨v, h1, h2⟩ := hv vs hi
  exact tail_any hl.typeIs slot_list_getitem.lookup (wpAny_getItem_list hl h0 hf (by simpa using h1) (h v h2)) hs
end
section
variable {prog : Program} {w : World} {A : Around} {E : Value → Shared → Prop} {s₀ s : Shared} {g : Heap} {σ σ' : Led} {L : Addr} {ms : List (Str × Vp)} {env : Env} {x : Str} {pos : Pos}
theorem stCI {c : Addr} {P₀ : Pd} {n : Int} {t : Tok} {Q : Unit → Shared → Prop} (S : St s₀ g s σ) (hc : env.cells.lookup x = some c) (u : Up c P₀ (IsCl (vI n)) σ σ') (h₀ : ∀ o, P₀ o → IsClE o) (h : ∀ s', St s₀ g s' σ' → Q () s')
    (hk : env.scope.kind = .function := by rfl) (hx : env.kindOf x = some .cell := by rfl) : wpAny (model prog w) A (storeName env x (.int n t)) Q E s := stC S hc u h₀ ⟨t, rfl⟩ h hk hx
theorem stCR {c a : Addr} {P₀ : Pd} {Q : Unit → Shared → Prop} (S : St s₀ g s σ) (hc : env.cells.lookup x = some c) (u : Up c P₀ (IsCl (vR a)) σ σ') (h₀ : ∀ o, P₀ o → IsClE o) (h : ∀ s', St s₀ g s' σ' → Q () s')
    (hk : env.scope.kind = .function := by rfl) (hx : env.kindOf x = some .cell := by rfl) : wpAny (model prog w) A (storeName env x (.ref a)) Q E s := stC S hc u h₀ rfl h hk hx
theorem isT_of {P : List Value → Prop} {h : Heap} {a : Addr} (X : At h a (IsTpl P)) : ∃ vs, P vs ∧ h.IsTuple a vs.toArray := by
  obtain ⟨o, ho, vs, n, hp, rfl⟩ := X; exact ⟨vs, hp, _, ho, rfl, n, rfl⟩
theorem extBut_sub {h h' : Heap} (e : Heap.ExtBut h.objs.size h h') : Sub h h' := fun b o q => e b o (Nat.ne_of_lt (Heap.lt_size q)) q
theorem asgT {elts : List Expr} {k} {t : Addr} {xs : List Value} {Q : Unit → Shared → Prop} (S : St s₀ g s σ) (X : At s.heap t (IsTpl fun us => us = xs)) (hh : A.handled = none)
    (hn : (assignEach elts env).length = xs.length) (hstar : (assignEach elts env).findIdx? (·.1) = none)
    (h : ∀ s', St s₀ g s' σ → wpAny (model prog w) A (assignInOrder ((assignEach elts env).map (·.2)) xs) Q E s') : wpAny (model prog w) A (assign (.Tuple elts k pos) env (.ref t)) Q E s := by
  obtain ⟨vs, rfl, ht⟩ := isT_of X
  refine PySem.wpAny_assign_Tuple hh ht (by rw [List.size_toArray]; exact hn) hstar fun h' he => ?_
  exact h _ (S.keepH (tk := s.toks) (extBut_sub he))
theorem unpT {t : Addr} {xs : List Value} {n : Nat} {Q : List Value → Shared → Prop} (S : St s₀ g s σ) (X : At s.heap t (IsTpl fun us => us = xs)) (hh : A.handled = none) (hn : n = xs.length)
    (h : ∀ s', St s₀ g s' σ → Q xs s') : wpAny (model prog w) A (unpackItems (.ref t) n none) Q E s := by
  obtain ⟨vs, rfl, ht⟩ := isT_of X
  subst hn
  have := PySem.wpAny_unpackItems_tuple (prog := prog) (w := w) (A := A) (E := E) (s := s) (Q := Q) hh ht fun h' he => h _ (S.keepH (tk := s.toks) (extBut_sub he))
  simpa using this
theorem addL {P P' : List Value → Prop} {a b : Addr} {Q : Value → Shared → Prop} (S : St s₀ g s ((L, IsNs ms) :: σ)) (X : At s.heap a (IsLst P)) (Y : At s.heap b (IsLst P')) (hz : ∀ vs ws, P vs → P' ws → vs.length + ws.length ≤ 2 ^ 20)
    (h : ∀ s' c, St s₀ g s' ((L, IsNs ms) :: (c, IsLst fun us => ∃ vs ws, P vs ∧ P' ws ∧ us = vs ++ ws) :: σ) → Q (.ref c) s') : wpAny (model prog w) A (binaryOp .Add (.ref a) (.ref b)) Q E s := by
  obtain ⟨vs, n, hp, ho⟩ := isL_of X
  obtain ⟨ws, m, hq, ho'⟩ := isL_of Y
  have e : vs.toArray ++ ws.toArray = (vs ++ ws).toArray := by simp
  refine concat_meets ⟨_, ho, rfl⟩ ⟨_, ho', rfl⟩ noFill_list_add seq_list_add PySem.F.slot_list_add PySem.F.entry_list_add (PySem.F.args_list_add_2 _ _) (list_addW a b vs.toArray ws.toArray n m none none #[] #[] (by have := hz vs ws hp hq; rw [sizeLine_eq]; simp; omega)) ⟨ho, ho', ?_⟩
  rw [e]
  exact h _ _ (S.push (P := IsLst fun us => ∃ vs ws, P vs ∧ P' ws ∧ us = vs ++ ws) (tk := s.toks) ⟨_, 0, ⟨vs, ws, hp, hq, rfl⟩, rfl⟩ rfl).swap
theorem addN {a b : Addr} {xs ys : List Nat} {Q : Value → Shared → Prop} (S : St s₀ g s ((L, IsNs ms) :: σ)) (X : At s.heap a (LN xs)) (Y : At s.heap b (LN ys)) (hz : xs.length + ys.length ≤ 2 ^ 20)
    (h : ∀ s' c, St s₀ g s' ((L, IsNs ms) :: (c, LN (xs ++ ys)) :: σ) → Q (.ref c) s') : wpAny (model prog w) A (binaryOp .Add (.ref a) (.ref b)) Q E s :=
  addL S X Y (fun vs ws h1 h2 => by rw [lenN h1, lenN h2]; exact hz) fun s' c S' => h s' c (S'.imp rfl fun p hp => by
    rcases List.mem_cons.mp hp with rfl | hp
    · exact S'.get (.head _)
    rcases List.mem_cons.mp hp with rfl | hp
    · refine (S'.get (.tail _ (.head _))).imp fun o ⟨us, k, ⟨vs, ws, h1, h2, e⟩, ho⟩ => ⟨us, k, ?_, ho⟩
      subst e
      rw [List.map_append]
      exact intsAre_append h1 h2
    · exact S'.has p (.tail _ (.tail _ hp)))
theorem oPow2 {b : Nat} {t u : Tok} {Q : Value → Shared → Prop} (S : St s₀ g s σ) (hb : b ≤ 1000000) (h : ∀ s' t', St s₀ g s' σ → Q (.int ((2 ^ b : Nat) : Int) t') s') : wpAny (model prog w) A (binaryOp .Pow (.int 2 t) (.int b u)) Q E s :=
  pow_int_small (by omega) (by omega) (by decide) (by have := h _ s.toks (S.tok (s.toks + 1)); simpa using this)
theorem oDivN {a b : Nat} {t u : Tok} {Q : Value → Shared → Prop} (S : St s₀ g s σ) (hb : b ≠ 0) (hb2 : b < 2 ^ 64) (h : ∀ s' t', St s₀ g s' σ → Q (.int ((a / b : Nat) : Int) t') s') : wpAny (model prog w) A (binaryOp .FloorDiv (.int a t) (.int b u)) Q E s :=
  oDiv S (by omega) (by simpa using hb2) fun s' t' S' => by
    have e : ((a : Int).fdiv (b : Int)) = ((a / b : Nat) : Int) := by rw [Int.fdiv_eq_ediv_of_nonneg _ (by omega)]; simp
    rw [e]; exact h s' t' S'
theorem oModN {a b : Nat} {t u : Tok} {Q : Value → Shared → Prop} (S : St s₀ g s σ) (hb : b ≠ 0) (h : ∀ s' t', St s₀ g s' σ → Q (.int ((a % b : Nat) : Int) t') s') : wpAny (model prog w) A (binaryOp .Mod (.int a t) (.int b u)) Q E s :=
  oMod S (by omega) fun s' t' S' => by
    have e : ((a : Int).fmod (b : Int)) = ((a % b : Nat) : Int) := by rw [Int.fmod_eq_emod_of_nonneg _ (by omega)]; simp
    rw [e]; exact h s' t' S'
theorem oMod2 {a : Nat} {t u : Tok} {Q : Value → Shared → Prop} (S : St s₀ g s σ) (h : ∀ s' t', St s₀ g s' σ → Q (.int ((a % 2 : Nat) : Int) t') s') : wpAny (model prog w) A (binaryOp .Mod (.int a t) (.int 2 u)) Q E s :=
  oModN (b := 2) S (by decide) h
theorem oAddN {a b : Nat} {t u : Tok} {Q : Value → Shared → Prop} (S : St s₀ g s σ) (h : ∀ s' t', St s₀ g s' σ → Q (.int ((a + b : Nat) : Int) t') s') : wpAny (model prog w) A (binaryOp .Add (.int a t) (.int b u)) Q E s :=
  oAdd S fun s' t' S' => by have := h s' t' S'; simpa using this
theorem oAdd1l {b : Nat} {t u : Tok} {Q : Value → Shared → Prop} (S : St s₀ g s σ) (h : ∀ s' t', St s₀ g s' σ → Q (.int ((b + 1 : Nat) : Int) t') s') : wpAny (model prog w) A (binaryOp .Add (.int 1 t) (.int b u)) Q E s :=
  oAdd S fun s' t' S' => by have := h s' t' S'; rw [show (1 : Int) + b = ((b + 1 : Nat) : Int) by omega]; exact this
theorem oAdd1r {a : Nat} {t u : Tok} {Q : Value → Shared → Prop} (S : St s₀ g s σ) (h : ∀ s' t', St s₀ g s' σ → Q (.int ((a + 1 : Nat) : Int) t') s') : wpAny (model prog w) A (binaryOp .Add (.int a t) (.int 1 u)) Q E s :=
  oAdd S fun s' t' S' => by have := h s' t' S'; rw [show (a : Int) + 1 = ((a + 1 : Nat) : Int) by omega]; exact this
theorem oMulN {a b : Nat} {t u : Tok} {Q : Value → Shared → Prop} (S : St s₀ g s σ) (ha : a < 2 ^ 62) (h : ∀ s' t', St s₀ g s' σ → Q (.int ((a * b : Nat) : Int) t') s') : wpAny (model prog w) A (binaryOp .Mult (.int a t) (.int b u)) Q E s :=
  oMul S (.of_left (intBits_le_64 (by omega) (by omega))) fun s' t' S' => by have := h s' t' S'; simpa using this
theorem oShl1 {b : Nat} {t u : Tok} {Q : Value → Shared → Prop} (S : St s₀ g s σ) (hb : b ≤ 1000000) (h : ∀ s' t', St s₀ g s' σ → Q (.int ((2 ^ b : Nat) : Int) t') s') : wpAny (model prog w) A (binaryOp .LShift (.int 1 t) (.int b u)) Q E s :=
  oShl S (by omega) (by omega) (by decide) fun s' t' S' => by have := h s' t' S'; simpa using this
end
/-! the pen -/
abbrev LIe : Pd := IsLst fun vs => ∃ ns, IntsAre vs ns ∧ ns.length ≤ 2 ^ 19
abbrev PT (q : Addr) : Pd := IsLst fun vs => ∃ c t d u, vs = [.ref q, .int c t, .int d u]
section
variable {prog : Program} {w : World} {A : Around} {E : Value → Shared → Prop} {s₀ s : Shared} {g : Heap} {σ : Led}
section
variable {value slice : Expr} {p q : Addr} {u : Tok} {Q : Value → Shared → Prop}
theorem pen0 (X : At s.heap p (PT q)) (h : Q (.ref q) s)
    (hs : subscripted slice false (.ref p) (.int 0 u) = operate [.ref p, .int 0 u] (getItem (.ref p) (.int 0 u)) := by with_unfolding_all rfl) :
    wpAny (model prog w) A (subscriptTail value slice (.ref p) (.int 0 u)) Q E s :=
  litAt (V := fun v => v = .ref q) X (by decide) (by decide) (fun vs ⟨c, t, d, u, e⟩ => by subst e; exact ⟨_, rfl, rfl⟩) (fun v e => e ▸ h) hs
theorem pen1 (X : At s.heap p (PT q)) (h : ∀ c t, Q (.int c t) s)
    (hs : subscripted slice false (.ref p) (.int 1 u) = operate [.ref p, .int 1 u] (getItem (.ref p) (.int 1 u)) := by with_unfolding_all rfl) :
    wpAny (model prog w) A (subscriptTail value slice (.ref p) (.int 1 u)) Q E s :=
  litAt (V := fun v => ∃ c t, v = .int c t) X (by decide) (by decide) (fun vs ⟨c, t, d, u, e⟩ => by subst e; exact ⟨_, rfl, _, _, rfl⟩) (fun v ⟨c, t, e⟩ => e ▸ h c t) hs
theorem pen2 (X : At s.heap p (PT q)) (h : ∀ c t, Q (.int c t) s)
    (hs : subscripted slice false (.ref p) (.int 2 u) = operate [.ref p, .int 2 u] (getItem (.ref p) (.int 2 u)) := by with_unfolding_all rfl) :
    wpAny (model prog w) A (subscriptTail value slice (.ref p) (.int 2 u)) Q E s :=
  litAt (V := fun v => ∃ c t, v = .int c t) X (by decide) (by decide) (fun vs ⟨c, t, d, u, e⟩ => by subst e; exact ⟨_, rfl, _, _, rfl⟩) (fun v ⟨c, t, e⟩ => e ▸ h c t) hs
theorem penS1 {a : Int} {t : Tok} {Q : Unit → Shared → Prop} (S : St s₀ g s σ) (m : (p, PT q) ∈ σ) (h : ∀ s', St s₀ g s' σ → Q () s') : wpAny (model prog w) A (setItem (.ref p) (.int 1 u) (.int a t)) Q E s :=
  setV S (Up.of_mem m) (by decide) (by decide) (fun vs ⟨c, t, d, u, e⟩ => by subst e; exact ⟨by simp, ⟨_, _, _, _, rfl⟩⟩) h
theorem penS2 {a : Int} {t : Tok} {Q : Unit → Shared → Prop} (S : St s₀ g s σ) (m : (p, PT q) ∈ σ) (h : ∀ s', St s₀ g s' σ → Q () s') : wpAny (model prog w) A (setItem (.ref p) (.int 2 u) (.int a t)) Q E s :=
  setV S (Up.of_mem m) (by decide) (by decide) (fun vs ⟨c, t, d, u, e⟩ => by subst e; exact ⟨by simp, ⟨_, _, _, _, rfl⟩⟩) h
end
theorem pen_ne {h : Heap} {p q : Addr} (X : At h p (PT q)) (Y : At h q LIe) : p ≠ q := fun e => by
  subst e
  obtain ⟨o, ho, vs, n, ⟨c, t, d, u, rfl⟩, rfl⟩ := X
  obtain ⟨o', ho', vs', n', ⟨ns, hi, _⟩, e'⟩ := Y
  rw [ho] at ho'
  have := (Option.some.inj ho').trans e'
  simp only [W.listOf, Obj.mk.injEq, Data.seq.injEq, true_and, and_true] at this
  have e2 : [Value.ref p, .int c t, .int d u] = vs' := by simpa using this.1
  subst e2
  cases hi
theorem mem_perm {α : Type} {x : α} {l : List α} (h : x ∈ l) : ∃ r, l.Perm (x :: r) := by
  obtain ⟨a, b, rfl⟩ := List.append_of_mem h
  exact ⟨a ++ b, List.perm_middle⟩
theorem pen_perm {p q : Addr} (S : St s₀ g s σ) (hp : (p, PT q) ∈ σ) (hq : (q, LIe) ∈ σ) : ∃ τ, σ.Perm ((p, PT q) :: (q, LIe) :: τ) := by
  have hne := pen_ne (S.get hp) (S.get hq)
  obtain ⟨r, hr⟩ := mem_perm hp
  have hq' := hr.mem_iff.mp hq
  rcases List.mem_cons.mp hq' with e | hq'
  · exact absurd (congrArg Prod.fst e).symm hne
  obtain ⟨r', hr'⟩ := mem_perm hq'
  exact ⟨r', hr.trans (List.Perm.cons _ hr')⟩
theorem fmod_nat (x : Int) {m : Nat} (hm : 0 < m) : ∃ v : Nat, v < m ∧ x.fmod m = v := by
  have h1 := Int.fmod_nonneg_of_pos x (show (0 : Int) < m by omega)
  have h2 := Int.fmod_lt_of_pos x (show (0 : Int) < m by omega)
  exact ⟨(x.fmod m).toNat, by omega, by omega⟩
abbrev LI1 : Pd := IsLst fun vs => (∃ ns, IntsAre vs ns ∧ ns.length ≤ 2 ^ 19) ∧ vs ≠ []
end
section
variable {prog : Program} {w : World} {A : Around} {E : Value → Shared → Prop} {s : Shared} {env : Env} {x y z : Str} {u v r : Value} {Q : Unit → Shared → Prop}
theorem asg2 (h : wpAny (model prog w) A (storeName env y v) (fun _ s₁ => wpAny (model prog w) A (storeName env x u) Q E s₁) E s) :
    wpAny (model prog w) A (assignInOrder (List.map (fun n => bindName env n) [x, y].reverse) [u, v].reverse) Q E s :=
  assignInOrder_cons (bindName_ (wpAny_mono h (fun _ _ h' => assignInOrder_cons (bindName_ (wpAny_mono h' (fun _ _ h'' => assignInOrder_nil h'') fun _ _ e => e))) fun _ _ e => e))
theorem asg3 (h : wpAny (model prog w) A (storeName env z r) (fun _ s₁ => wpAny (model prog w) A (storeName env y v) (fun _ s₁ => wpAny (model prog w) A (storeName env x u) Q E s₁) E s₁) E s) :
    wpAny (model prog w) A (assignInOrder (List.map (fun n => bindName env n) [x, y, z].reverse) [u, v, r].reverse) Q E s :=
  assignInOrder_cons (bindName_ (wpAny_mono h (fun _ _ h' => assignInOrder_cons (bindName_ (wpAny_mono h' (fun _ _ h'' => assignInOrder_cons (bindName_ (wpAny_mono h'' (fun _ _ h3 => assignInOrder_nil h3) fun _ _ e => e))) fun _ _ e => e))) fun _ _ e => e))
end
section
variable {prog : Program} {w : World} {A : Around} {E : Value → Shared → Prop} {s₀ s : Shared} {g : Heap} {σ σ' : Led} {L : Addr} {ms : List (Str × Vp)} {value slice : Expr} {a b : Addr} {as : List Addr} {k : Nat} {u : Tok}
theorem itRN {Q : Value → Shared → Prop} (X : At s.heap a (LR as)) (h1 : k < as.length) (hf : as.length < 2 ^ 60) (h : Q (.ref (as.getD k 0)) s)
    (hs : subscripted slice false (.ref a) (.int k u) = operate [.ref a, .int k u] (getItem (.ref a) (.int k u)) := by with_unfolding_all rfl) :
    wpAny (model prog w) A (subscriptTail value slice (.ref a) (.int k u)) Q E s :=
  itR X (by omega) (by omega) (by omega) (by rw [Int.toNat_natCast]; exact h) hs
theorem setRN {Q : Unit → Shared → Prop} (S : St s₀ g s σ) (U : Up a (LR as) (LR (as.set k b)) σ σ') (h1 : k < as.length) (hf : as.length < 2 ^ 60)
    (h : ∀ s', St s₀ g s' σ' → Q () s') : wpAny (model prog w) A (setItem (.ref a) (.int k u) (.ref b)) Q E s :=
  setR S (by rw [Int.toNat_natCast]; exact U) (by omega) (by omega) (by omega) h
end
theorem St.sub' {s₀ s : Shared} {g : Heap} {σ σ' : Led} {L : Addr} {ms ms' : List (Str × Vp)} (S : St s₀ g s ((L, IsNs ms) :: σ)) (h : ms'.Sublist ms) (h' : σ'.Sublist σ) : St s₀ g s ((L, IsNs ms') :: σ') := (S.ns h).sub (h'.cons_cons _)
def RL (g : Heap) (as : List Addr) (rows : List (List Nat)) : Prop := as.length = rows.length ∧ ∀ i, i < rows.length → At g (as.getD i 0) (LN (rows.getD i []))
theorem RL.mono {g g' : Heap} {as : List Addr} {rows : List (List Nat)} (X : RL g as rows) (k : Sub g g') : RL g' as rows := ⟨X.1, fun i hi => (X.2 i hi).mono k⟩
theorem RL.snoc {g : Heap} {as : List Addr} {rows : List (List Nat)} {a : Addr} {r : List Nat} (X : RL g as rows) (h : At g a (LN r)) : RL g (as ++ [a]) (rows ++ [r]) := by
  refine ⟨by simp [X.1], fun i hi => ?_⟩
  by_cases e : i = rows.length
  · subst e
    rw [glast, ← X.1, glast]; exact h
  · have hi' : i < rows.length := by simp at hi; omega
    rw [gapp hi', gapp (by rw [X.1]; exact hi')]; exact X.2 i hi'
theorem RL.set {g : Heap} {as : List Addr} {rows : List (List Nat)} {a : Addr} {r : List Nat} {k : Nat} (X : RL g as rows) (h : At g a (LN r)) : RL g (as.set k a) (rows.set k r) := by
  refine ⟨by simp [X.1], fun i hi => ?_⟩
  rw [List.length_set] at hi
  rw [gset, gset, X.1]
  by_cases e : k = i ∧ k < rows.length
  · rw [if_pos e, if_pos e]; exact h
  · rw [if_neg e, if_neg e]; exact X.2 i hi
theorem RL.rows {g : Heap} {a : Addr} {as : List Addr} {rows : List (List Nat)} (X : RL g as rows) (h : At g a (LR as)) : RowsAt g a rows := ⟨as, h, X.1, X.2⟩
section
variable {prog : Program} {w : World} {A : Around} {E : Value → Shared → Prop} {s₀ s : Shared} {g : Heap} {σ : Led} {env : Env}
theorem freeze1 {x : Addr × Pd} {c : Addr} {P : Pd} {r : Led} (S : St s₀ g s (x :: (c, P) :: r)) : ∃ g', Sub g g' ∧ St s₀ g' s (x :: r) ∧ At g' c P := by
  obtain ⟨g', k, S', hA, _⟩ := St.freeze (σ₁ := x :: r) (σ₂ := [(c, P)]) (S.perm (List.Perm.cons _ (List.perm_append_singleton _ _)))
  exact ⟨g', k, S', hA _ (.head _)⟩
/-- for, over an iterator; where the name is bound is the turn's own matter -/
theorem for_onG {x : Str} {px : Pos} {body : List Stmt} {I : Addr} {n : Nat} {V : Nat → Value → Prop} {It : Nat → Pd} {Q : Flow → Shared → Prop}
    (W : IterOn prog w A g I n V It) (S : St s₀ g s ((I, It 0) :: σ))
    (J : Nat → Heap → Led → Prop) (h0 : J 0 g σ)
    (turn : ∀ i v g₁ σ₁ It', i < n → V i v → Sub g g₁ → J i g₁ σ₁ → ∀ (K : Flow → Shared → Prop),
      (∀ s₂ f, (f = .next ∨ f = .cont) → (∃ g₂ σ₂, Sub g₁ g₂ ∧ St s₀ g₂ s₂ ((I, It') :: σ₂) ∧ J (i + 1) g₂ σ₂) → K f s₂) → (∀ s, Q .next s → K .brk s) → (∀ v s, Q (.ret v) s → K (.ret v) s) →
      ∀ s₁, St s₀ g₁ s₁ ((I, It') :: σ₁) → wpAny (model prog w) A (storeName env x v) (fun _ s₁ => wpAny (model prog w) A (execs body env) K (fun _ _ => False) s₁) (fun _ _ => False) s₁)
    (done : ∀ g₁ σ₁ s₁, Sub g g₁ → J n g₁ σ₁ → St s₀ g₁ s₁ σ₁ → Q .next s₁) :
    codeAny (model prog w) A (.forLoop (.Name x px) (.ref I) body [] env) (fun r s' => match r with | .ok f => Q f s' | .error e => cameBackBy (model prog w) A env E e s') s := by
  refine codeAny_forLoop (fun k s' => ∃ i g₁ σ₁, i ≤ n ∧ k = n - i ∧ Sub g g₁ ∧ J i g₁ σ₁ ∧ St s₀ g₁ s' ((I, It i) :: σ₁)) ?_ n ⟨0, g, σ, Nat.zero_le _, rfl, Sub.rfl', h0, S⟩
  rintro k s' ⟨i, g₁, σ₁, hi, rfl, hsub, hJ, S₁⟩
  by_cases hlt : i < n
  · refine W.item i s' _ _ hlt (hsub.tr S₁.keep) (S₁.get (.head _)) fun v h' tk o' hV ho' hIt hs => ?_
    have S₂ : St s₀ g₁ { s' with heap := h', toks := tk } ((I, It (i + 1)) :: σ₁) := S₁.upd .here hs ho' hIt
    refine wpAny_assign_Name (wpAny_mono (turn i v g₁ σ₁ (It (i + 1)) hlt hV hsub hJ (fun f s₂ => match f with
        | .next => ∃ g₂ σ₂, Sub g₁ g₂ ∧ St s₀ g₂ s₂ ((I, It (i + 1)) :: σ₂) ∧ J (i + 1) g₂ σ₂
        | .cont => ∃ g₂ σ₂, Sub g₁ g₂ ∧ St s₀ g₂ s₂ ((I, It (i + 1)) :: σ₂) ∧ J (i + 1) g₂ σ₂
        | .brk => Q .next s₂
        | .ret v => Q (.ret v) s₂) (fun s₂ f hf h' => by rcases hf with rfl | rfl <;> exact h') (fun _ h => h) (fun _ _ h => h) _ S₂) (fun _ s₃ h₃ => ?_) fun _ _ x => x.elim)
    refine wpAny_mono h₃ (fun f s₄ h₄ => ?_) fun _ _ x => x.elim
    cases f with
    | next => obtain ⟨g₂, σ₂, k₂, S₄, J₄⟩ := h₄; exact ⟨n - (i + 1), by omega, i + 1, g₂, σ₂, hlt, rfl, hsub.tr k₂, J₄, S₄⟩
    | cont => obtain ⟨g₂, σ₂, k₂, S₄, J₄⟩ := h₄; exact ⟨n - (i + 1), by omega, i + 1, g₂, σ₂, hlt, rfl, hsub.tr k₂, J₄, S₄⟩
    | brk => exact h₄
    | ret v => exact h₄
  · have e : i = n := by omega
    subst e
    refine W.done s' _ _ (hsub.tr S₁.keep) (S₁.get (.head _)) fun h' tk he => wpAny_execs_nil ?_
    refine done g₁ σ₁ _ hsub hJ ?_
    have hIne : ∀ p ∈ (σ₁ : Led), p.1 ≠ I := fun p hp e => by
      have := S₁.nd
      simp only [List.map_cons, List.nodup_cons] at this
      exact this.1 (e ▸ (List.mem_map_of_mem (f := (·.1)) hp : p.1 ∈ List.map (·.1) σ₁))
    exact ⟨let ⟨_, _, e⟩ := S₁.same; ⟨h', tk, by rw [e]⟩, fun b o e => he b o (fun q => by
        have : g₁.get? I = none := S₁.fresh (I, It i) (.head _)
        rw [q] at e; rw [e] at this; cases this) (S₁.keep b o e), fun p hp => by
        obtain ⟨o, e, q⟩ := S₁.has p (.tail _ hp)
        exact ⟨o, he _ _ (hIne p hp) e, q⟩, by have := S₁.nd; simp only [List.map_cons, List.nodup_cons] at this ⊢; exact this.2, fun p hp => S₁.fresh p (.tail _ hp)⟩
end
def cst (f : List (Nat × Nat)) : List (Int × Int) := f.map fun p => ((p.1 : Int), (p.2 : Int))
theorem cst_mem {f : List (Nat × Nat)} {x : Nat} : ((x : Nat) : Int) ∈ (cst f).map (·.1) ↔ x ∈ ks f := by
  unfold cst
  rw [List.map_map, List.mem_map, List.mem_map]
  exact ⟨fun ⟨p, h1, h2⟩ => ⟨p, h1, Int.ofNat.inj h2⟩, fun ⟨p, h1, h2⟩ => ⟨p, h1, congrArg Int.ofNat h2⟩⟩
theorem cst_snoc {f : List (Nat × Nat)} {x d : Nat} : cst (f ++ [(x, d)]) = cst f ++ [((x : Int), (d : Int))] := by unfold cst; simp
theorem cst_len {f : List (Nat × Nat)} : (cst f).length = f.length := by unfold cst; simp
theorem tup_ty : typeOf (.type "tuple") = pure (.type "type") := rfl
theorem tup_sub : isSubtype (.type "tuple") (.type "tuple") = pure true := by rw [isSubtype_type]; kernel_rfl
section
variable {prog : Program} {w : World} {A : Around} {E : Value → Shared → Prop} {s₀ s : Shared} {g : Heap} {σ σ' : Led} {L : Addr} {ms : List (Str × Vp)} {value slice : Expr} {env : Env} {pos : Pos} {Q : Value → Shared → Prop}
theorem cLenR {a : Addr} {as : List Addr} (S : St s₀ g s σ) (X : At s.heap a (LR as)) (hf : as.length < 2 ^ 60) (h : ∀ s' t, St s₀ g s' σ → Q (.int (as.length : Nat) t) s') :
    wpAny (model prog w) A (call (.builtin "len") [.ref a]) Q E s := cLen S X (fun vs hv => by subst hv; simp) (by omega) h
theorem isTup_of {a : Addr} {ns : List Int} {h : Heap} (X : At h a (TI ns)) : ∃ vs, IntsAre vs ns ∧ IsTup h a vs.toArray := by
  obtain ⟨o, ho, vs, n, hp, rfl⟩ := X; exact ⟨vs, hp, _, ho, rfl, n, rfl⟩
theorem cLenT {a : Addr} {ns : List Nat} (S : St s₀ g s σ) (X : At s.heap a (TI (ns.map (fun n : Nat => (n : Int))))) (hf : ns.length < 2 ^ 60) (h : ∀ s' t, St s₀ g s' σ → Q (.int (ns.length : Nat) t) s') :
    wpAny (model prog w) A (call (.builtin "len") [.ref a]) Q E s := by
  obtain ⟨vs, hi, ht⟩ := isTup_of X
  have hl := lenN hi
  have e : vs.toArray.size = ns.length := by rw [List.size_toArray]; exact hl
  refine PyProof.Rows.len_tuple ht (by rw [e]; omega) ?_
  rw [e]; exact h _ _ (S.tok _)
theorem cIsTup {a : Addr} {ns : List Int} (X : At s.heap a (TI ns)) (h : Q (.bool true) s) : wpAny (model prog w) A (call (.builtin "isinstance") [.ref a, .type "tuple"]) Q E s := by
  obtain ⟨vs, hi, o, ho, hc, _⟩ := isTup_of X
  exact call_isinstance_yes ⟨o, ho, hc⟩ tup_ty tup_sub h
theorem cMin {a : Addr} {zs : List Nat} (S : St s₀ g s σ) (hh : A.handled = none) (X : At s.heap a (LN zs)) (hne : 0 < zs.length) (h : ∀ s' m t, m ∈ zs → (∀ z ∈ zs, m ≤ z) → St s₀ g s' σ → Q (.int ((m : Nat) : Int) t) s') :
    wpAny (model prog w) A (call (.builtin "min") [.ref a]) Q E s := by
  obtain ⟨vs, n, hi, ho⟩ := isL_of X
  have hl := PySem.IsL.isList (n := n) ho
  obtain ⟨xs, e⟩ := hi.allInts.items
  have hns : zs.map (fun n : Nat => (n : Int)) = xs.toList.map (·.1) := by
    rw [← hi.numsOf, ← nums_intItems, ← e]
  have hsz : xs.size = zs.length := by
    have := congrArg List.length hns; simp at this; exact this.symm
  have hnum : ∀ j, numAt xs j = ((zs.getD j 0 : Nat) : Int) := fun j => by rw [numAt_eq, ← hns, getD_cast]
  rw [e] at hl
  refine min_intList hh hl (by omega) fun v h' tk hv hk => ?_
  obtain ⟨t, rfl⟩ := intItems_at hv
  obtain ⟨q1, q2⟩ := argBest_lt (numAt xs) (xs.size - 1)
  rw [hnum]
  refine h _ _ t (gmem (by omega)) (fun z hz => ?_) (S.keepH (tk := tk) hk)
  obtain ⟨j, hj, rfl⟩ := gpos (d := 0) hz
  have := q2 j (by omega)
  rw [hnum, hnum] at this
  omega
theorem itT {a : Addr} {ns : List Nat} {k : Nat} {u : Tok} (X : At s.heap a (TI (ns.map (fun n : Nat => (n : Int))))) (h1 : k < ns.length) (hf : ns.length < 2 ^ 60) (h : ∀ t, Q (.int ((ns.getD k 0 : Nat) : Int) t) s)
    (hs : subscripted slice false (.ref a) (.int k u) = operate [.ref a, .int k u] (getItem (.ref a) (.int k u)) := by with_unfolding_all rfl) :
    wpAny (model prog w) A (subscriptTail value slice (.ref a) (.int k u)) Q E s := by
  obtain ⟨vs, hi, ht⟩ := isTup_of X
  have hl := lenN hi
  obtain ⟨t, e⟩ := IntsAre.get hi k _ (ints_ofN hi (by omega))
  exact item_tupleT ht (by omega) (by omega) (j := k) (by simp [seqIndex?]; omega) e (h t) hs
theorem itT0 {a : Addr} {ns : List Nat} {u : Tok} (X : At s.heap a (TI (ns.map (fun n : Nat => (n : Int))))) (h1 : 0 < ns.length) (hf : ns.length < 2 ^ 60) (h : ∀ t, Q (.int ((ns.getD 0 0 : Nat) : Int) t) s)
    (hs : subscripted slice false (.ref a) (.int 0 u) = operate [.ref a, .int 0 u] (getItem (.ref a) (.int 0 u)) := by with_unfolding_all rfl) :
    wpAny (model prog w) A (subscriptTail value slice (.ref a) (.int 0 u)) Q E s := itT (k := 0) X h1 hf h hs
theorem itTL {a : Addr} {ns : List Nat} {u : Tok} (X : At s.heap a (TI (ns.map (fun n : Nat => (n : Int))))) (h1 : 0 < ns.length) (hf : ns.length < 2 ^ 60) (h : ∀ t, Q (.int ((ns.getD (ns.length - 1) 0 : Nat) : Int) t) s)
    (hs : subscripted slice false (.ref a) (.int (-1) u) = operate [.ref a, .int (-1) u] (getItem (.ref a) (.int (-1) u)) := by with_unfolding_all rfl) :
    wpAny (model prog w) A (subscriptTail value slice (.ref a) (.int (-1) u)) Q E s := by
  obtain ⟨vs, hi, ht⟩ := isTup_of X
  have hl := lenN hi
  obtain ⟨t, e⟩ := IntsAre.get hi (ns.length - 1) _ (ints_ofN hi (by omega))
  exact item_tupleT ht (by omega) (by omega) (j := ns.length - 1) (by simp [seqIndex?]; omega) e (h t) hs
theorem nInN {b : Addr} {ns : List Nat} {x : Nat} {t : Tok} (X : At s.heap b (LN ns)) (h0 : x ∈ ns → Q (.bool false) s) (h1 : x ∉ ns → Q (.bool true) s) : wpAny (model prog w) A (compareOp .NotIn (.int x t) (.ref b)) Q E s := by
  obtain ⟨vs, n, hi, ho⟩ := isL_of X
  have hl := PySem.IsL.isList (n := n) ho
  let e : Value → Bool := fun v => match v with | .int a _ => a == x | _ => false
  have key : ∀ {vs : List Value} {ns : List Nat}, IntsAre vs (ns.map (fun n : Nat => (n : Int))) → (vs.any e = true ↔ x ∈ ns) := fun {vs ns} hi => by
    induction ns generalizing vs with
    | nil => cases hi; simp
    | cons y ys ih =>
      cases hi with
      | cons n' t' hi =>
        rw [List.any_cons, Bool.or_eq_true, ih hi, List.mem_cons]
        show ((y : Int) == (x : Int)) = true ∨ _ ↔ _
        rw [beq_iff_eq]
        exact ⟨fun h => h.imp (fun h => by omega) id, fun h => h.imp (fun h => by omega) id⟩
  refine SeqAt.notIn_listAt e hl (fun y hy => ?_) ?_
  · obtain ⟨j, hj, ej⟩ := List.mem_iff_getElem.mp (show y ∈ vs by simpa using hy)
    obtain ⟨t', e'⟩ := IntsAre.get hi j _ (ints_ofN hi hj)
    rw [List.getElem?_eq_getElem hj, ej] at e'
    cases Option.some.inj e'
    exact SeqAt.EqAt.int_int _ _ _ _
  · have ea : (vs.toArray.any e) = vs.any e := by simp
    rw [ea]
    by_cases q : x ∈ ns
    · rw [(key hi).mpr q]; exact h0 q
    · have : vs.any e = false := by
        cases r : vs.any e with
        | false => rfl
        | true => exact absurd ((key hi).mp r) q
      rw [this]; exact h1 q
theorem asgN2 {x y : Str} {px py : Pos} {k : Nat} {t : Addr} {u v : Value} {Q : Unit → Shared → Prop} (S : St s₀ g s σ) (X : At s.heap t (IsTpl fun us => us = [u, v])) (hh : A.handled = none)
    (h : ∀ s', St s₀ g s' σ → wpAny (model prog w) A (storeName env x u) (fun _ s₁ => wpAny (model prog w) A (storeName env y v) Q E s₁) E s') :
    wpAny (model prog w) A (assign (.Tuple [.Name x px, .Name y py] k pos) env (.ref t)) Q E s := by
  refine asgT S X hh rfl rfl (fun s' S' => ?_)
  exact assignInOrder_cons (wpAny_assign_Name (wpAny_mono (h s' S') (fun _ _ h' => assignInOrder_cons (wpAny_assign_Name (wpAny_mono h' (fun _ _ q => assignInOrder_nil q) fun _ _ e => e))) fun _ _ e => e))
end
local macro_rules | `(tactic| k_search "MM") => `(tactic| (with_reducible repeat' (first | assumption | exact List.mem_cons_self | refine' List.mem_cons_of_mem _ ?_)))
local macro_rules | `(tactic| k_search "UP") => `(tactic| (with_reducible repeat' (first | exact Up.here | exact Up.of_mem (by assumption) | refine' Up.there ?_)))
local macro_rules | `(tactic| k_search "SL") => `(tactic| (repeat' (first | (with_reducible exact SetL.here) | (with_reducible exact SetL.new) | ((with_reducible refine' SetL.there ?n ?_); (case n => decide)))))
local macro_rules | `(tactic| k_search "AT") => `(tactic| (first | (with_reducible assumption) | ((with_reducible refine' St.get ?aS ?aM); (case aS => (with_reducible assumption)); (case aM => (k_search "MM"))) | ((with_reducible refine' At.mono ?aX ?aK); (case aX => (with_reducible assumption)); (case aK => ((with_reducible refine' St.keep ?aT); (case aT => (with_reducible assumption)))))))
local macro_rules | `(tactic| k_search "SZ") => `(tactic| (first | assumption | omega | (simp only [List.length_set, List.length_append, List.length_cons, List.length_nil, List.length_reverse]; omega)))
local macro_rules | `(tactic| k_search "S1") => `(tactic| (first | ((with_reducible refine' oOrN ?S ?_); (case S => (with_reducible assumption)); intro _ _ _) | (first | (with_reducible refine wpAny_execs_nil ?_) | (with_reducible refine wpAny_execs_cons ?_) | ((with_reducible refine wpAny_Assign_Name ?_ ?hs); (case hs => exact rfl)) | ((with_reducible refine wpAny_Assign_Subscript ?_ ?hs); (case hs => exact rfl)) | ((with_reducible refine wpAny_For ?_ ?hs); (case hs => intro _; exact rfl)) | (with_reducible refine wpAny_If ?_) | (with_reducible refine wpAny_Return_some ?_) | (with_reducible refine wpAny_Continue ?_) | (with_reducible refine wpAny_Break ?_) | ((with_reducible refine wpAny_Expr_any ?_ ?hi ?hs); (case hi => exact rfl); (case hs => exact rfl))) | (first | ((with_reducible refine wpAny_isTrue_Compare1 ?_ ?hm); (case hm => with_unfolding_all exact rfl)) | ((with_reducible refine wpAny_Compare1 ?_ ?hm); (case hm => with_unfolding_all exact rfl)) | (with_reducible refine wpAny_BinOp ?_) | (with_reducible refine Subscript_ ?_) | (with_reducible refine UnaryOp_ ?_) | (with_reducible refine List_ ?_) | (with_reducible refine Tuple_ ?_) | ((with_reducible refine' MethodCall_ ?_ ?hc); (case hc => exact rfl)) | ((with_reducible refine Call_ ?_ ?hc); (case hc => exact rfl)) | ((with_reducible refine isTrue_plain ?_ ?he); (case he => exact rfl)) | (with_reducible refine isTrue_and_nil ?_) | (with_reducible refine isTrue_or_nil ?_) | (with_reducible refine isTrue_and ?_) | (with_reducible refine isTrue_or ?_)) | (first | ((with_reducible refine' nmI ?S ?m ?_ ?hL ?hk ?hx ?hd); (case S => (with_reducible assumption)); (case m => (k_search "MM")); (case hL => exact rfl); (case hk => exact rfl); (case hx => exact rfl); (case hd => decide); intro _) | ((with_reducible refine' nmR ?S ?m ?_ ?hL ?hk ?hx ?hd); (case S => (with_reducible assumption)); (case m => (k_search "MM")); (case hL => exact rfl); (case hk => exact rfl); (case hx => exact rfl); (case hd => decide); skip) | (first | ((with_reducible refine' nmG ?S ?G ?g ?_ ?hg ?hk ?hx ?hd); (case S => (with_reducible assumption)); (case G => (with_reducible assumption)); (case g => (with_reducible first | exact g_digraph _ | exact g_rings _ | exact g_mask_behind _ | exact g_shortest_chain _ | exact g_law_pen _ | exact g_law_draw _ | exact g_law_pick _ | exact g_law_world _ | exact g_law_levels _ | exact g_law_union _ | exact g_law_chain_right _)); (case hg => exact rfl); (case hk => exact rfl); (case hx => exact rfl); (case hd => decide)) | ((with_reducible refine' nmB ?S ?G ?g ?v ?hn ?_ ?hg ?hb ?hk ?hx ?hd); (case S => (with_reducible assumption)); (case G => (with_reducible assumption)); (case g => (with_reducible first | exact n_len _ | exact n_list _ | exact n_range _ | exact n_int _ | exact n_abs _ | exact n_min _ | exact n_isinstance _ | exact n_tuple _ | exact n_reversed _)); (case v => (with_reducible first | exact b_len | exact b_list | exact b_range | exact b_int | exact b_abs | exact b_min | exact b_isinstance | exact b_tuple | exact b_reversed)); (case hn => decide); (case hg => exact rfl); (case hb => exact rfl); (case hk => exact rfl); (case hx => exact rfl); (case hd => decide))) | ((with_reducible refine' nmN ?S ?m ?_ ?hL ?hk ?hx ?hd); (case S => (with_reducible assumption)); (case m => (k_search "MM")); (case hL => exact rfl); (case hk => exact rfl); (case hx => exact rfl); (case hd => decide); skip)) | ((with_reducible refine' kI ?S ?_); (case S => (with_reducible assumption)); intro _ _ _) | (first | ((with_reducible refine' oAdd ?S ?_); (case S => (with_reducible assumption)); intro _ _ _) | ((with_reducible refine' oSub ?S ?_); (case S => (with_reducible assumption)); intro _ _ _) | ((with_reducible refine' oOr ?S ?_); (case S => (with_reducible assumption)); intro _ _ _) | ((with_reducible refine' oAnd ?S ?_); (case S => (with_reducible assumption)); intro _ _ _) | ((with_reducible refine' oNeg ?S ?_); (case S => (with_reducible assumption)); intro _ _ _) | ((with_reducible refine' oShl ?S ?b1 ?b2 ?b3 ?_); (case S => (with_reducible assumption)); (case b1 => omega); (case b2 => omega); (case b3 => omega); intro _ _ _) | ((with_reducible refine' oShr ?S ?b1 ?_); (case S => (with_reducible assumption)); (case b1 => omega); intro _ _ _) | ((with_reducible refine' oMod ?S ?b1 ?_); (case S => (with_reducible assumption)); (case b1 => omega); intro _ _ _) | ((with_reducible refine' oDiv ?S ?b1 ?b2 ?_); (case S => (with_reducible assumption)); (case b1 => omega); (case b2 => omega); intro _ _ _)) | (first | (with_reducible refine lt_int ?_) | (with_reducible refine gt_int ?_) | (with_reducible refine eq_int ?_) | (with_reducible refine ne_int ?_) | (with_reducible refine wpAny_truthy_bool ?_)) | ((with_reducible refine' stI ?S ?u ?_ ?hL ?hk ?hx); (case S => (with_reducible assumption)); (case u => (k_search "SL")); (case hL => exact rfl); (case hk => exact rfl); (case hx => exact rfl); intro _ _) | ((with_reducible refine' stR ?S ?u ?_ ?hL ?hk ?hx); (case S => (with_reducible assumption)); (case u => (k_search "SL")); (case hL => exact rfl); (case hk => exact rfl); (case hx => exact rfl); intro _ _) | (first | (with_reducible refine spliced_none ?_) | ((with_reducible refine spliced_more ?_ ?he); (case he => exact rfl))) | (first | ((with_reducible refine PyProof.Rows.callWith_builtin1 ?_ ?he ?hp); (case he => exact rfl); (case hp => exact rfl)) | ((with_reducible refine PyProof.Rows.callWith_type1 ?_ ?he ?hp); (case he => exact rfl); (case hp => exact rfl)) | (with_reducible refine callWith_method0 ?_) | ((with_reducible refine callWith_method1 ?_ ?he ?hp); (case he => exact rfl); (case hp => exact rfl))) | (first | (with_reducible refine callApp1 ?_) | (first | ((with_reducible refine' it3_0 ?X ?_ ?hs); (case X => (k_search "AT")); (case hs => with_unfolding_all rfl); intro _) | ((with_reducible refine' it3_1 ?X ?_ ?hs); (case X => (k_search "AT")); (case hs => with_unfolding_all rfl); intro _) | ((with_reducible refine' it3_2 ?X ?_ ?hs); (case X => (k_search "AT")); (case hs => with_unfolding_all rfl); intro _)) | ((with_reducible refine' itN ?X ?z1 ?z2 ?_ ?hs); (case X => (k_search "AT")); (case hs => with_unfolding_all rfl); (case z1 => (k_search "SZ")); (case z2 => (k_search "SZ")); intro _) | ((with_reducible refine' itRow ?X ?S ?z1 ?z2 ?_ ?hs); (case X => (with_reducible assumption)); (case S => (with_reducible assumption)); (case hs => with_unfolding_all rfl); (case z1 => (k_search "SZ")); (case z2 => (k_search "SZ")); intro _ _) | ((with_reducible refine' setN ?S ?U ?z1 ?z2 ?_); (case S => (with_reducible assumption)); (case U => (k_search "UP")); (case z1 => (k_search "SZ")); (case z2 => (k_search "SZ")); intro _ _) | ((with_reducible refine' set3_2 ?S ?U ?_); (case S => (with_reducible assumption)); (case U => (k_search "UP")); intro _ _) | ((with_reducible refine' cLenN ?S ?X ?z ?_); (case S => (with_reducible assumption)); (case X => (k_search "AT")); (case z => (k_search "SZ")); intro _ _ _) | (first | ((with_reducible refine' cAppN ?S ?U ?z ?_); (case S => (with_reducible assumption)); (case U => (k_search "UP")); (case z => (k_search "SZ")); intro _ _) | ((with_reducible refine' cAppR ?S ?U ?z ?_); (case S => (with_reducible assumption)); (case U => (k_search "UP")); (case z => (k_search "SZ")); intro _ _)) | (first | ((with_reducible refine' cPopR ?S ?U ?z ?_); (case S => (with_reducible assumption)); (case U => (k_search "UP")); (case z => (k_search "SZ")); intro _ _) | ((with_reducible refine' cPopN ?S ?U ?z ?_); (case S => (with_reducible assumption)); (case U => (k_search "UP")); (case z => (k_search "SZ")); intro _ _ _)) | (first | ((with_reducible refine' gMeth (name := "append") ?X PySem.F.slot_list_append PySem.F.type_list_append ?_); (case X => (k_search "AT")); (try dsimp only)) | ((with_reducible refine' gMeth (name := "pop") ?X PySem.F.slot_list_pop PySem.F.type_list_pop ?_); (case X => (k_search "AT")); (try dsimp only))) | ((with_reducible refine' oOrN ?S ?_); (case S => (with_reducible assumption)); intro _ _ _))))
local macro_rules | `(tactic| k_search "X1") => `(tactic| (first | ((with_reducible refine' oShrN ?S ?_); (case S => (with_reducible assumption)); intro _ _ _) | ((with_reducible refine' oAnd1 ?S ?_); (case S => (with_reducible assumption)); intro _ _ _) | (k_search "S1") | (first | ((with_reducible refine' nmCI ?hc ?C ?_ ?hk ?hx ?hd); (case hc => exact rfl); (case C => (k_search "AT")); (case hk => exact rfl); (case hx => exact rfl); (case hd => decide); intro _) | ((with_reducible refine' nmCR ?hc ?C ?_ ?hk ?hx ?hd); (case hc => exact rfl); (case C => (k_search "AT")); (case hk => exact rfl); (case hx => exact rfl); (case hd => decide); skip)) | ((with_reducible refine' cwF ?G ?hf ?_ ?he ?hp); (case G => (with_reducible assumption)); (case he => exact rfl); (case hp => exact rfl); (case hf => (first | exact fDg.2 | exact fRings.2 | exact fMask.2 | exact fChain.2 | exact fPen.2 | exact fDraw.2 | exact fPick.2 | exact fWorld.2 | exact fLevels.2 | exact fUnion.2 | exact fRight.2))) | ((with_reducible refine' kInS ?G ?S ?_); (case G => (with_reducible assumption)); (case S => (with_reducible assumption))) | (with_reducible refine callD ?_)))
local macro_rules | `(tactic| k_search "Y1") => `(tactic| (first | (with_reducible refine if_T ?_) | (with_reducible refine if_F ?_) | (k_search "X1") | (first | ((with_reducible refine' pen0 ?X ?_ ?hs); (case X => (k_search "AT")); (case hs => with_unfolding_all rfl)) | ((with_reducible refine' pen1 ?X ?_ ?hs); (case X => (k_search "AT")); (case hs => with_unfolding_all rfl); intro _ _) | ((with_reducible refine' pen2 ?X ?_ ?hs); (case X => (k_search "AT")); (case hs => with_unfolding_all rfl); intro _ _) | ((with_reducible refine' penS1 ?S ?m ?_); (case S => (with_reducible assumption)); (case m => (k_search "MM")); intro _ _) | ((with_reducible refine' penS2 ?S ?m ?_); (case S => (with_reducible assumption)); (case m => (k_search "MM")); intro _ _)) | (first | ((with_reducible refine' stCI ?S ?hc ?u ?h0 ?_ ?hk ?hx); (case S => (with_reducible assumption)); (case hc => exact rfl); (case u => (k_search "UP")); (case h0 => (first | exact IsClE.any | exact IsCl.any)); (case hk => exact rfl); (case hx => exact rfl); intro _ _) | ((with_reducible refine' stCR ?S ?hc ?u ?h0 ?_ ?hk ?hx); (case S => (with_reducible assumption)); (case hc => exact rfl); (case u => (k_search "UP")); (case h0 => (first | exact IsClE.any | exact IsCl.any)); (case hk => exact rfl); (case hx => exact rfl); intro _ _)) | (first | ((with_reducible refine Assign_Tuple ?_ ?hs ?hw); (case hs => exact rfl); (case hw => exact rfl)) | (with_reducible refine asg2 ?_) | (with_reducible refine asg3 ?_) | (with_reducible refine assignInOrder_nil ?_) | (with_reducible refine assignInOrder_cons ?_) | (with_reducible refine wpAny_assign_Name ?_) | (with_reducible refine bindName_ ?_)) | ((with_reducible refine' cAbs ?S ?_); (case S => (with_reducible assumption)); intro _ _ _) | (first | (with_reducible refine cIntI ?_) | ((with_reducible refine' cIntB ?S ?_); (case S => (with_reducible assumption)); intro _ _ _))))
local macro_rules | `(tactic| k_search "Z1") => `(tactic| (first | (first | ((with_reducible refine' oAdd1l ?S  ?_); (case S => (with_reducible assumption)); intro _ _ _) | ((with_reducible refine' oAdd1r ?S  ?_); (case S => (with_reducible assumption)); intro _ _ _) | ((with_reducible refine' oAddN ?S  ?_); (case S => (with_reducible assumption)); intro _ _ _) | ((with_reducible refine' oMod2 ?S  ?_); (case S => (with_reducible assumption)); intro _ _ _) | ((with_reducible refine' oModN ?S ?b0 ?_); (case S => (with_reducible assumption)); (case b0 => omega); intro _ _ _) | ((with_reducible refine' oDivN ?S ?b0 ?b1 ?_); (case S => (with_reducible assumption)); (case b0 => omega); (case b1 => omega); intro _ _ _) | ((with_reducible refine' oShl1 ?S ?b0 ?_); (case S => (with_reducible assumption)); (case b0 => omega); intro _ _ _) | ((with_reducible refine' oPow2 ?S ?b0 ?_); (case S => (with_reducible assumption)); (case b0 => omega); intro _ _ _) | ((with_reducible refine' oMulN ?S ?b0 ?_); (case S => (with_reducible assumption)); (case b0 => omega); intro _ _ _)) | (k_search "Y1") | (first | ((with_reducible refine' itRN ?X ?z1 ?z2 ?_ ?hs); (case X => (k_search "AT")); (case hs => with_unfolding_all rfl); (case z1 => (k_search "SZ")); (case z2 => (k_search "SZ"))) | ((with_reducible refine' setRN ?S ?U ?z1 ?z2 ?_); (case S => (with_reducible assumption)); (case U => (k_search "UP")); (case z1 => (k_search "SZ")); (case z2 => (k_search "SZ")); intro _ _)) | (with_reducible refine kN ?_)))
local macro_rules | `(tactic| k_search "W") => `(tactic| (repeat' (k_search "S1")))
local macro_rules | `(tactic| k_search "X") => `(tactic| (repeat' (k_search "X1")))
local macro_rules | `(tactic| k_search "Y") => `(tactic| (repeat' (k_search "Y1")))
local macro_rules | `(tactic| k_search "Z") => `(tactic| (repeat' (k_search "Z1")))
def maskP (ys : List Nat) : Nat := ys.foldl (fun m y => m ||| 2 ^ y) 0

section
variable {prog : Program} {w : World} {A : Around} {s₀ s : Shared} {g : Heap} {σ : Led} {R : Result → Shared → Prop}
theorem mask_spec {a : Addr} {ys : List Nat} (S : St s₀ g s σ) (G : Gd w g) (hh : A.handled = none) (hd : A.depth < 900) (X : At g a (LN ys)) (hy : ∀ y ∈ ys, y < 1000)
    (h : ∀ s' t, St s₀ g s' σ → R (.ok (.ret (.int (maskP ys : Nat) t))) s') : codeAny (model prog w) A (.call (.ref 33) ⟨[.ref a], []⟩) R s := by
  refine call_fn (binds := [("row", .ref a)]) (ms := [("row", vR a)]) S G fMask.2 cd_mask rfl (by have : recursionLimit = 1000 := rfl; omega) rfl (.cons rfl .nil) (fun L s₁ S₁ => ?_) (by decide) rfl (by exact (by decide : (["row"] : List Str).Nodup)) rfl rfl rfl
  (k_search "W")
  refine mkIter_list (by assumption) hh X (fun I s' vs hvs S' W => ?_)
  refine for_on W S' (fun i _ m l => m = [(("row" : Str), vR a), (("mask" : Str), vI (maskP (ys.take i) : Nat))] ∧ l = σ) ⟨rfl, rfl⟩ ?_ ?_ rfl rfl rfl
  · rintro i v g₁ ms₁ σ₁ It' hi hv hg ⟨rfl, rfl⟩ Kf kn kb kr
    obtain ⟨t, ht⟩ := IntsAre.get hvs i _ (ints_ofN hvs hi)
    rw [ht] at hv
    cases hv
    have hlt : i < ys.length := by have := hvs.length; simp at this; omega
    have hyi := hy _ (List.getElem_mem hlt)
    refine ⟨vI (ys[i] : Nat), _, by (k_search "SL"), ⟨t, by simp [hlt]⟩, fun s₁ S₁ => ?_⟩
    (k_search "W")
    rename_i S₉
    have e : Builtin.bitOr ((maskP (ys.take i) : Nat) : Int) (1 * 2 ^ ((ys[i] : Nat) : Int).toNat) = (maskP (ys.take (i + 1)) : Nat) := by
      have e1 : (1 * 2 ^ ((ys[i] : Nat) : Int).toNat : Int) = ((2 ^ ys[i] : Nat) : Int) := by simp
      rw [e1, bitOr_nat, maskP, maskP, List.take_succ_eq_append_getElem hlt, List.foldl_append]
      rfl
    rw [e] at S₉
    refine kn _ _ (by first | exact .inl rfl | exact .inr rfl) ⟨g₁, _, _, Sub.rfl', ?_, rfl, rfl⟩
    exact S₉.ns (by (repeat' (first | (with_reducible exact List.Sublist.refl _) | (with_reducible exact List.Sublist.slnil) | (with_reducible refine List.Sublist.cons_cons _ ?_) | (with_reducible refine List.Sublist.cons _ ?_))))
  · rintro g₁ ms₁ σ₁ s₁ hg ⟨rfl, rfl⟩ S₁
    have e : ys.take vs.length = ys := by
      have := hvs.length
      simp at this
      rw [this, List.take_length]
    rw [e] at S₁
    (k_search "W")
    exact h _ _ ((S₁.base hg).sub (List.sublist_cons_self _ _))
end
section
variable {prog : Program} {w : World} {A : Around} {E : Value → Shared → Prop} {s₀ s : Shared} {g : Heap} {σ : Led} {R : Result → Shared → Prop}
theorem pen_spec {a : Addr} {vs : List Value} {ns : List Int} (S : St s₀ g s σ) (G : Gd w g) (hh : A.handled = none) (hd : A.depth < 800) (hl : g.IsList a vs.toArray) (hi : IntsAre vs ns) (hz : ns.length ≤ 2 ^ 19)
    (h : ∀ s' p q, St s₀ g s' ((p, PT q) :: (q, LIe) :: σ) → R (.ok (.ret (.ref p))) s') :
    codeAny (model prog w) A (.call (.ref 45) ⟨[.ref a], []⟩) R s := by
  refine call_fn (binds := [("script", .ref a)]) (ms := [("script", vR a)]) S G fPen.2 cd_pen rfl (by have : recursionLimit = 1000 := rfl; omega) rfl (.cons rfl .nil) (fun L s₁ S₁ => ?_) (by decide) rfl (by exact (by decide : (["script"] : List Str).Nodup)) rfl rfl rfl
  (k_search "Y")
  refine comp_eval (s₀ := s₀) (L := L) (cl := []) ?_ rfl (by decide) rfl (by decide) rfl (fun _ => rfl)
  (k_search "Y")
  refine wpAny_Slice (wpAny_evalPart_none (wpAny_evalPart_some ?_))
  (k_search "Y")
  refine wpAny_evalPart_none ?_
  refine slT (by with_reducible assumption) (isL_keep hl (St.keep (by assumption))) hi (by omega) (by decide) (fun s₂ D S₂ => ?_)
  obtain ⟨g₂, k₂, S₃, hA, _⟩ := St.freeze (σ₁ := (L, IsNs [("script", vR a)]) :: σ) (σ₂ := [(D, LI (ns.take 63))]) (S₂.perm (List.Perm.cons _ (List.perm_append_singleton (D, LI (ns.take 63)) σ)))
  have XD := hA _ (.head _)
  have G₂ := G.mono k₂
  refine mkIter_list S₃ hh XD (fun I s' us hus S' W => ?_)
  have hul : us.length ≤ 63 := by rw [hus.length, List.length_take]; omega
  refine CompAt.intro W S'.swap.swap (fun i _ ys τ => (∃ zs, IntsAre ys zs) ∧ ys.length ≤ i ∧ τ = σ) ⟨⟨[], .nil⟩, Nat.zero_le _, rfl⟩ (by omega) ?_ ?_
  · rintro C D i v g₃ ys τ₁ It' hi' hv hg hl' ⟨⟨zs, hy⟩, hyl, rfl⟩
    obtain ⟨t, rfl⟩ := intsAre_of_get hus hv
    generalize (ns.take 63).getD i 0 = c
    have G₃ := G₂.mono hg
    refine ⟨vI c, ⟨_, rfl⟩, fun s₁ S₁ => TurnC.of0 fun Kc kn => ?_⟩
    (k_search "Y")
    ((with_reducible refine' oMul ?S (.of_left (intBits_le_64 (by omega) (by omega))) ?_); (case S => (with_reducible assumption)); intro _ _ _)
    (k_search "Y")
    exact kn _ _ ⟨g₃, _, _, Sub.rfl', by assumption, ⟨_, intsAre_append hy (.cons _ _ .nil)⟩, by simp; omega, rfl⟩
  · rintro D2 g₃ ys τ₁ s₅ hg ⟨⟨zs, hy⟩, hyl, rfl⟩ hl' S₅
    have G₃ := G₂.mono hg
    have S₆ := S₅.base (k₂.tr hg)
    (k_search "Y")
    refine mkL (P := fun vs => ∃ c t d u, vs = [.ref D2, .int c t, .int d u]) (by with_reducible assumption) ⟨_, _, _, _, rfl⟩ (by rw [sizeLine_eq]; simp) (fun s₇ p S₇ => ?_)
    refine h s₇ p D2 (St.imp (S₇.sub (σ' := (p, PT D2) :: (D2, LX ys) :: τ₁) (by (repeat' (first | (with_reducible exact List.Sublist.refl _) | (with_reducible exact List.Sublist.slnil) | (with_reducible refine List.Sublist.cons_cons _ ?_) | (with_reducible refine List.Sublist.cons _ ?_))))) rfl (fun x hx => ?_))
    rcases List.mem_cons.mp hx with rfl | hx
    · exact S₇.get (.tail _ (.head _))
    rcases List.mem_cons.mp hx with rfl | hx
    · exact (S₇.get (.tail _ (.tail _ (.head _)))).imp fun o ⟨vs, k, e, ho⟩ => ⟨vs, k, ⟨zs, e ▸ hy, by rw [← hy.length]; omega⟩, ho⟩
    · exact S₇.has x (.tail _ (.tail _ (.tail _ hx)))
end
section
variable {prog : Program} {w : World} {A : Around} {E : Value → Shared → Prop} {s₀ s : Shared} {g : Heap} {σ : Led} {R : Result → Shared → Prop}
theorem draw_spec {p q : Addr} {m : Nat} {t : Tok} (S : St s₀ g s σ) (G : Gd w g) (hh : A.handled = none) (hd : A.depth < 890) (hu : A.units < 9000) (hp : (p, PT q) ∈ σ) (hq : (q, LIe) ∈ σ) (hm : 0 < m) (hm2 : m ≤ 2 ^ 20)
    (h : ∀ s' v t', v < m → St s₀ g s' σ → R (.ok (.ret (.int ((v : Nat) : Int) t'))) s') :
    codeAny (model prog w) A (.call (.ref 52) ⟨[.ref p, .int m t], []⟩) R s := by
  obtain ⟨τ, hτ⟩ := pen_perm S hp hq
  have S' := S.perm hτ.symm
  have h' : ∀ s' x t', St s₀ g s' ((p, PT q) :: (q, LIe) :: τ) → R (.ok (.ret (.int (Int.fmod x m) t'))) s' := fun s' x t' S' => by
    obtain ⟨v, hv, e⟩ := fmod_nat x hm
    rw [e]
    exact h s' v t' hv (S'.perm hτ)
  clear S h hp hq
  refine call_fn (binds := [("pen", .ref p), ("many", .int m t)]) (ms := [("pen", vR p), ("many", vI m)]) S' G fDraw.2 cd_draw rfl (by have : recursionLimit = 1000 := rfl; omega) rfl (.cons rfl (.cons ⟨_, rfl⟩ .nil)) (fun L s₁ S₁ => ?_) (by decide) rfl (by exact (by decide : (["pen", "many"] : List Str).Nodup)) rfl rfl rfl
  (k_search "Y")
  refine if_any (fun _ => ?_) (fun _ => ?_)
  · (k_search "Y")
    refine mkL (P := fun vs => vs = []) (by with_reducible assumption) rfl (by rw [sizeLine_eq]; simp) (fun s₂ b S₂ => ?_)
    refine neNil (P := fun vs => ∃ ns, IntsAre vs ns ∧ ns.length ≤ 2 ^ 19) (S₂.get (by (k_search "MM"))) (S₂.get (by (k_search "MM"))) (by show A.units + 3 < cLine; have : cLine = 9900 := rfl; omega) (fun _ => ?_) (fun X1 => ?_)
    · (k_search "Y")
      exact h' _ _ _ (St.sub (by assumption) (by (repeat' (first | (with_reducible exact List.Sublist.refl _) | (with_reducible exact List.Sublist.slnil) | (with_reducible refine List.Sublist.cons_cons _ ?_) | (with_reducible refine List.Sublist.cons _ ?_)))))
    · have S₃ : St s₀ g s₂ ((L, IsNs [("pen", vR p), ("many", vI m)]) :: (p, PT q) :: (q, LI1) :: τ) := St.imp (S₂.sub (σ' := (L, IsNs [("pen", vR p), ("many", vI m)]) :: (p, PT q) :: (q, LIe) :: τ) (by (repeat' (first | (with_reducible exact List.Sublist.refl _) | (with_reducible exact List.Sublist.slnil) | (with_reducible refine List.Sublist.cons_cons _ ?_) | (with_reducible refine List.Sublist.cons _ ?_))))) rfl fun x hx => by
        rcases List.mem_cons.mp hx with rfl | hx
        · exact S₂.get (.head _)
        rcases List.mem_cons.mp hx with rfl | hx
        · exact S₂.get (.tail _ (.tail _ (.head _)))
        rcases List.mem_cons.mp hx with rfl | hx
        · exact X1
        · exact S₂.has x (.tail _ (.tail _ (.tail _ (.tail _ hx))))
      clear S₂ X1
      (k_search "Y")
      refine cPop0 (P := fun vs => (∃ ns, IntsAre vs ns ∧ ns.length ≤ 2 ^ 19) ∧ vs ≠ []) (P' := fun vs => ∃ ns, IntsAre vs ns ∧ ns.length ≤ 2 ^ 19) (V := fun v => ∃ c t, v = .int c t) (by with_reducible assumption) (.there (.there .here)) (fun vs ⟨⟨ns, hi, hz⟩, hne⟩ => ?_) (fun s' v hv S' => ?_)
      · cases hi with
        | nil => exact absurd rfl hne
        | cons n t hi' => exact ⟨_, _, rfl, ⟨_, hi', by simp at hz ⊢; omega⟩, ⟨_, _, rfl⟩, by rw [List.length_cons, hi'.length, sizeLine_eq]; simp at hz; omega⟩
      · obtain ⟨c, t, rfl⟩ := hv
        (k_search "Y")
        exact h' _ _ _ (St.sub (by assumption) (by (repeat' (first | (with_reducible exact List.Sublist.refl _) | (with_reducible exact List.Sublist.slnil) | (with_reducible refine List.Sublist.cons_cons _ ?_) | (with_reducible refine List.Sublist.cons _ ?_)))))
  · (k_search "Y")
    exact h' _ _ _ (St.sub (by assumption) (by (repeat' (first | (with_reducible exact List.Sublist.refl _) | (with_reducible exact List.Sublist.slnil) | (with_reducible refine List.Sublist.cons_cons _ ?_) | (with_reducible refine List.Sublist.cons _ ?_)))))
end
section
variable {prog : Program} {w : World} {A : Around} {E : Value → Shared → Prop} {s₀ s : Shared} {g : Heap} {σ : Led} {R : Result → Shared → Prop}
theorem pick_spec {p q b : Addr} {ns : List Nat} (S : St s₀ g s σ) (G : Gd w g) (hh : A.handled = none) (hd : A.depth < 880) (hu : A.units < 8900) (hp : (p, PT q) ∈ σ) (hq : (q, LIe) ∈ σ) (hb : (b, LN ns) ∈ σ) (hm : 0 < ns.length) (hm2 : ns.length ≤ 2 ^ 20)
    (h : ∀ s' v t', v ∈ ns → St s₀ g s' σ → R (.ok (.ret (.int ((v : Nat) : Int) t'))) s') :
    codeAny (model prog w) A (.call (.ref 59) ⟨[.ref p, .ref b], []⟩) R s := by
  refine call_fn (binds := [("pen", .ref p), ("some", .ref b)]) (ms := [("pen", vR p), ("some", vR b)]) S G fPick.2 cd_pick rfl (by have : recursionLimit = 1000 := rfl; omega) rfl (.cons rfl (.cons rfl .nil)) (fun L s₁ S₁ => ?_) (by decide) rfl (by exact (by decide : (["pen", "some"] : List Str).Nodup)) rfl rfl rfl
  (k_search "Y")
  refine draw_spec (by assumption) G hh (by show A.depth + 1 < 890; omega) (by show A.units + 3 < 9000; omega) (by (k_search "MM")) (by (k_search "MM")) hm hm2 (fun s₂ v t₂ hv S₂ => ?_)
  (k_search "Y")
  exact h _ _ _ (by rw [List.getD_eq_getElem?_getD, List.getElem?_eq_getElem hv]; exact List.getElem_mem hv) (St.sub (by assumption) (by (repeat' (first | (with_reducible exact List.Sublist.refl _) | (with_reducible exact List.Sublist.slnil) | (with_reducible refine List.Sublist.cons_cons _ ?_) | (with_reducible refine List.Sublist.cons _ ?_)))))
end
theorem St.mv5 {s₀ s : Shared} {g : Heap} {x b y1 y2 y3 y4 y5 : Addr × Pd} {r : Led} (S : St s₀ g s (x :: b :: y1 :: y2 :: y3 :: y4 :: y5 :: r)) : St s₀ g s (x :: y1 :: y2 :: y3 :: y4 :: y5 :: b :: r) :=
  S.perm ((List.perm_middle (l₁ := [y1, y2, y3, y4, y5]) (a := b) (l₂ := r)).cons x)
theorem St.mv4 {s₀ s : Shared} {g : Heap} {x z b y1 y2 y3 y4 : Addr × Pd} {r : Led} (S : St s₀ g s (x :: z :: b :: y1 :: y2 :: y3 :: y4 :: r)) : St s₀ g s (x :: z :: y1 :: y2 :: y3 :: y4 :: b :: r) :=
  S.perm (((List.perm_middle (l₁ := [y1, y2, y3, y4]) (a := b) (l₂ := r)).cons z).cons x)
def FE : List Addr → List (Nat × Nat × Nat) → Led
  | a :: as, (x, h, i) :: fr => (a, LI [(x : Int), (h : Int), (i : Int)]) :: FE as fr
  | _, _ => []
theorem popR_sub (x d r : Nat) : ∀ ys hts res, (popR x d r ys hts res).2.1.length = hts.length ∧ (popR x d r ys hts res).2.2.length = res.length
  | [], hts, res => ⟨rfl, rfl⟩
  | y :: ys, hts, res => by
    unfold popR
    split
    · simp
    · have := popR_sub x d r ys (hts.set y d) (res.set y r)
      simpa using this

section
variable {prog : Program} {w : World} {A : Around} {E : Value → Shared → Prop} {s₀ s : Shared} {g : Heap} {σ : Led} {R : Result → Shared → Prop}
theorem itLast {value slice : Expr} {fa a : Addr} {as : List Addr} {u : Tok} {Q : Value → Shared → Prop} (X : At s.heap fa (LR (as ++ [a]))) (hf : as.length < 2 ^ 30) (h : Q (.ref a) s)
    (hs : subscripted slice false (.ref fa) (.int (-1) u) = operate [.ref fa, .int (-1) u] (getItem (.ref fa) (.int (-1) u)) := by with_unfolding_all rfl) :
    wpAny (model prog w) A (subscriptTail value slice (.ref fa) (.int (-1) u)) Q E s := by
  refine itV_neg X (fun vs e => ?_) h hs
  subst e
  refine ⟨by decide, by simp; omega, by decide, ?_⟩
  have e : ((-1 : Int) + (List.map Value.ref (as ++ [a])).length).toNat = as.length := by simp; omega
  rw [e]; simp

abbrev dgM (n : Nat) (rl mk ra ha pa : Addr) : List (Str × Vp) :=
  [("count", vI n), ("relation", vR rl), ("masks", vR mk), ("result", vR ra), ("heights", vR ha), ("done", vI ((n + 1 : Nat) : Int)), ("pile", vR pa)]
abbrev dgW (n : Nat) (rl mk ra ha pa fa : Addr) (i : Nat) : List (Str × Vp) :=
  [("count", vI n), ("relation", vR rl), ("masks", vR mk), ("result", vR ra), ("heights", vR ha), ("done", vI ((n + 1 : Nat) : Int)), ("pile", vR pa), ("start", vI i), ("frames", vR fa)]

abbrev dgV (n : Nat) (rl mk ra ha pa fa : Addr) (i : Nat) (a : Addr) (x : Nat) (lst : Int) : List (Str × Vp) :=
  [("count", vI n), ("relation", vR rl), ("masks", vR mk), ("result", vR ra), ("heights", vR ha), ("done", vI ((n + 1 : Nat) : Int)), ("pile", vR pa), ("start", vI i), ("frames", vR fa), ("frame", vR a), ("x", vI x), ("last", vI lst)]

theorem dg_spec {rl mk : Addr} {rel : List (List Nat)} {msk : List Nat} {n : Nat} {t : Tok} (S : St s₀ g s σ) (G : Gd w g) (hh : A.handled = none) (hd : A.depth < 900) (hr : RelOk rel n) (hm : msk.length = n)
    (X : RowsAt g rl rel) (Y : At g mk (LN msk))
    (h : ∀ s' g' r res, Sub g g' → St s₀ g' s' σ → At g' r (LN res) → TFin rel msk res n → R (.ok (.ret (.ref r))) s') : codeAny (model prog w) A (.call (.ref 21) ⟨[.int n t, .ref rl, .ref mk], []⟩) R s := by
  have hn := hr.small
  refine call_fn (binds := [("count", .int n t), ("relation", .ref rl), ("masks", .ref mk)]) (ms := [("count", vI n), ("relation", vR rl), ("masks", vR mk)]) S G fDg.2 cd_dg rfl (by have : recursionLimit = 1000 := rfl; omega) rfl (.cons ⟨_, rfl⟩ (.cons rfl (.cons rfl .nil))) (fun L s₁ S₁ => ?_) (by decide) rfl (by exact (by decide : (["count", "relation", "masks"] : List Str).Nodup)) rfl rfl rfl
  (k_search "W")
  refine cList (by with_reducible assumption) (by (k_search "AT")) (fun vs hv => by rw [lenN hv, sizeLine_eq]; omega) (fun _ ra _ => ?_)
  (k_search "W")
  refine mkL (P := fun vs => IntsAre vs [0]) (by with_reducible assumption) (.cons _ _ .nil) (by rw [sizeLine_eq]; simp) (fun _ za _ => ?_)
  (k_search "W")
  refine cMul0 (n := n) (by with_reducible assumption) (by (k_search "AT")) (by omega) (fun _ ha _ => ?_)
  (k_search "W")
  refine mkL (P := fun vs => IntsAre vs (([] : List Nat).map (fun n : Nat => (n : Int)))) (by with_reducible assumption) .nil (by rw [sizeLine_eq]; simp) (fun _ pa _ => ?_)
  (k_search "W")
  refine cRange (by with_reducible assumption) (fun _ ga _ => ?_)
  (k_search "W")
  refine mkIter_range (n := n) (by with_reducible assumption) hh (by (k_search "AT")) rfl (by omega) (fun I _ Sn Wn => ?_)
  have Sn1 : St s₀ g _ ((I, ItR n 0) :: (L, IsNs (dgM n rl mk ra ha pa)) :: (ga, IsRng n) :: (pa, LN []) :: (ha, LN (List.replicate n 0)) :: (za, LI [0]) :: (ra, LN msk) :: σ) := Sn
  have Sn' := Sn1.sub (σ' := (I, ItR n 0) :: (L, IsNs (dgM n rl mk ra ha pa)) :: (pa, LN []) :: (ha, LN (List.replicate n 0)) :: (ra, LN msk) :: σ) (by (repeat' (first | (with_reducible exact List.Sublist.refl _) | (with_reducible exact List.Sublist.slnil) | (with_reducible refine List.Sublist.cons_cons _ ?_) | (with_reducible refine List.Sublist.cons _ ?_))))
  refine for_on Wn Sn' (fun i _ m l => m = dgM n rl mk ra ha pa ∧ ∃ st, l = (pa, LN st.pile) :: (ha, LN st.hts) :: (ra, LN st.res) :: σ ∧ TInv rel msk n st ∧ st.fr = [] ∧ ∀ y, y < i → st.hts.getD y 0 ≠ 0)
    ⟨rfl, tstart msk n, rfl, tinv_start hr hm, rfl, fun y hy => absurd hy (Nat.not_lt_zero _)⟩ ?_ ?_ rfl rfl rfl
  · rintro i v g₁ ms₁ σ₁ It' hi ⟨tv, rfl⟩ hg ⟨rfl, st, rfl, hT, hfr, hvis⟩ Kf knf kbf krf
    refine ⟨vI i, _, by (k_search "SL"), ⟨_, rfl⟩, fun s₁ S₁ => ?_⟩
    have G₁ := G.mono hg
    have X₁ := X.mono hg
    have Wf := tinv_wf hT
    have h1 := Wf.hts
    have h2 := Wf.res
    have h3 := Wf.pile
    (k_search "W")
    refine if_ne0 (fun h0 => ?_) (fun h0 => ?_)
    · (k_search "W")
      refine mkL (P := fun vs => IntsAre vs [(i : Int), ((st.pile ++ [i]).length : Nat), 0]) (by with_reducible assumption) (.cons _ _ (.cons _ _ (.cons _ _ .nil))) (by rw [sizeLine_eq]; simp) (fun _ b _ => ?_)
      (k_search "W")
      refine mkL (P := fun vs => vs = [b].map .ref) (by with_reducible assumption) rfl (by rw [sizeLine_eq]; simp) (fun _ fa _ => ?_)
      (k_search "W")
      rename_i S₈
      simp only [List.length_append, List.length_cons, List.length_nil, Nat.zero_add] at S₈
      refine while_inv (fun k s' => ∃ st' fas, k = tmu rel n st' ∧ TInv rel msk n st' ∧ fas.length = st'.fr.length ∧ (∀ y, y < i + 1 → st'.hts.getD y 0 ≠ 0) ∧ St s₀ g₁ s' ((L, IsNs (dgW n rl mk ra ha pa fa i)) :: (fa, LR fas.reverse) :: (I, It') :: (pa, LN st'.pile) :: (ha, LN st'.hts) :: (ra, LN st'.res) :: (FE fas st'.fr ++ σ)))
        (tmu rel n (tpush st i)) ⟨tpush st i, [b], rfl, tinv_push hr hT hfr hi h0, rfl, fun y hy => ?_, S₈.mv4⟩ ?_
      · show (st.hts.set i (st.pile.length + 1)).getD y 0 ≠ 0
        by_cases hyi : y = i
        · subst hyi
          have : y < st.hts.length := by omega
          simp [List.getD, this]
        · have := hvis y (by omega)
          simp only [List.getD_eq_getElem?_getD] at this ⊢
          rw [List.getElem?_set_ne (Ne.symm hyi)]
          exact this
      · rintro k s₂ ⟨⟨res, hts, pile, fr⟩, fas, rfl, hT', hfl, hv', S₂⟩ Kw Xw kn kb kr kx
        have Wf' := tinv_wf hT'
        have q1 : hts.length = n := Wf'.hts
        have q2 : res.length = n := Wf'.res
        have q3 : pile.length ≤ n := Wf'.pile
        have q4 : fr.length ≤ n := Wf'.fr
        cases fr with
        | nil =>
          cases fas with
          | cons _ _ => cases hfl
          | nil =>
          simp only [FE, List.nil_append] at S₂
          (k_search "W")
          refine trL (b := false) (by with_reducible assumption) (by (k_search "AT")) (fun vs e => by subst e; simp) (fun s₃ S₃ => ?_)
          rw [if_neg (by decide)]
          refine kx _ ?_
          (k_search "W")
          refine knf _ _ (by first | exact .inl rfl | exact .inr rfl) ⟨g₁, _, _, Sub.rfl', ?_, rfl, _, rfl, hT', rfl, hv'⟩
          exact (S₃.ns (ms' := dgM n rl mk ra ha pa) (by (repeat' (first | (with_reducible exact List.Sublist.refl _) | (with_reducible exact List.Sublist.slnil) | (with_reducible refine List.Sublist.cons_cons _ ?_) | (with_reducible refine List.Sublist.cons _ ?_))))).sub (by (repeat' (first | (with_reducible exact List.Sublist.refl _) | (with_reducible exact List.Sublist.slnil) | (with_reducible refine List.Sublist.cons_cons _ ?_) | (with_reducible refine List.Sublist.cons _ ?_))))
        | cons f rest =>
          obtain ⟨x, hx, j⟩ := f
          cases fas with
          | nil => cases hfl
          | cons a as =>
          have hfl' : as.length = rest.length := by simpa using hfl
          have q4' : rest.length + 1 ≤ n := by simpa using q4
          have q5 := Wf'.frx (x, hx, j) (.head _)
          have q6 : x < n := q5.1
          have q7 : x ∈ pile := q5.2
          have q8 := hr.rows x
          have q9 := hr.len
          have T1 := tinv_step hr hT' (by simp)
          have V1 := fun y hy => tstep_vis hr hT' (hv' y hy)
          simp only [FE, List.cons_append, List.reverse_cons] at S₂
          (k_search "W")
          refine trL (b := true) (by with_reducible assumption) (by (k_search "AT")) (fun vs e => by subst e; simp; omega) (fun s₃ S₃ => ?_)
          rw [if_pos rfl]
          (k_search "W")
          refine itLast (by (k_search "AT")) (by simp; omega) ?_
          (k_search "W")
          refine if_lt (fun hlt => ?_) (fun hge => ?_)
          · have q10 := hr.ent x j hlt
            (k_search "W")
            refine if_eq0 (fun hz => ?_) (fun hz => ?_)
            · (k_search "W")
              refine mkL (P := fun vs => IntsAre vs [(((rel.getD x []).getD j 0 : Nat) : Int), ((pile ++ [(rel.getD x []).getD j 0]).length : Nat), 0]) (by with_reducible assumption) (.cons _ _ (.cons _ _ (.cons _ _ .nil))) (by rw [sizeLine_eq]; simp) (fun _ b' _ => ?_)
              (k_search "W")
              rename_i S₉
              have e : tstep rel n ⟨res, hts, pile, (x, hx, j) :: rest⟩ = ⟨res, hts.set ((rel.getD x []).getD j 0) (pile.length + 1), pile ++ [(rel.getD x []).getD j 0], ((rel.getD x []).getD j 0, pile.length + 1, 0) :: (x, hx, j) :: rest⟩ := by
                simp only [tstep]; rw [if_pos hlt, if_pos hz]
              rw [e] at T1 V1
              refine kn _ _ (by first | exact .inl rfl | exact .inr rfl) ⟨_, T1.2, _, b' :: a :: as, rfl, T1.1, by simp [hfl'], V1, ?_⟩
              simp only [List.length_append, List.length_cons, List.length_nil, Nat.zero_add] at S₉
              simp only [FE, List.cons_append, List.reverse_cons]
              exact (S₉.ns (ms' := dgW n rl mk ra ha pa fa i) (by (repeat' (first | (with_reducible exact List.Sublist.refl _) | (with_reducible exact List.Sublist.slnil) | (with_reducible refine List.Sublist.cons_cons _ ?_) | (with_reducible refine List.Sublist.cons _ ?_))))).mv5
            · (k_search "W")
              refine if_lt (fun hl2 => ?_) (fun hl2 => ?_)
              · (k_search "W")
                rename_i S₉
                have e : tstep rel n ⟨res, hts, pile, (x, hx, j) :: rest⟩ = ⟨res.set x (res.getD x 0 ||| res.getD ((rel.getD x []).getD j 0) 0), hts.set x (hts.getD ((rel.getD x []).getD j 0) 0), pile, (x, hx, j + 1) :: rest⟩ := by
                  simp only [tstep]; rw [if_pos hlt, if_neg hz, if_pos hl2]
                rw [e] at T1 V1
                refine kn _ _ (by first | exact .inl rfl | exact .inr rfl) ⟨_, T1.2, _, a :: as, rfl, T1.1, by simp [hfl'], V1, ?_⟩
                simp only [FE, List.cons_append, List.reverse_cons]
                exact S₉.ns (ms' := dgW n rl mk ra ha pa fa i) (by (repeat' (first | (with_reducible exact List.Sublist.refl _) | (with_reducible exact List.Sublist.slnil) | (with_reducible refine List.Sublist.cons_cons _ ?_) | (with_reducible refine List.Sublist.cons _ ?_))))
              · (k_search "W")
                rename_i S₉
                have e : tstep rel n ⟨res, hts, pile, (x, hx, j) :: rest⟩ = ⟨res.set x (res.getD x 0 ||| res.getD ((rel.getD x []).getD j 0) 0), hts, pile, (x, hx, j + 1) :: rest⟩ := by
                  simp only [tstep]; rw [if_pos hlt, if_neg hz, if_neg hl2]
                rw [e] at T1 V1
                refine kn _ _ (by first | exact .inl rfl | exact .inr rfl) ⟨_, T1.2, _, a :: as, rfl, T1.1, by simp [hfl'], V1, ?_⟩
                simp only [FE, List.cons_append, List.reverse_cons]
                exact S₉.ns (ms' := dgW n rl mk ra ha pa fa i) (by (repeat' (first | (with_reducible exact List.Sublist.refl _) | (with_reducible exact List.Sublist.slnil) | (with_reducible refine List.Sublist.cons_cons _ ?_) | (with_reducible refine List.Sublist.cons _ ?_))))
          · (k_search "W")
            refine if_eq (fun he => ?_) (fun he => ?_)
            · (k_search "W")
              rename_i S₈
              have e : tstep rel n ⟨res, hts, pile, (x, hx, j) :: rest⟩ = ⟨(popR x (n + 1) (res.getD x 0) pile.reverse hts res).2.2, (popR x (n + 1) (res.getD x 0) pile.reverse hts res).2.1, (popR x (n + 1) (res.getD x 0) pile.reverse hts res).1.reverse, rest⟩ := by
                simp only [tstep]; rw [if_neg hge, if_pos he]
              rw [e] at T1 V1
              refine while_inv (fun k s' => ∃ (lst : Int) (ys hts2 res2 : List Nat), ((lst = x ∧ (ys, hts2, res2) = popR x (n + 1) (res.getD x 0) pile.reverse hts res ∧ k = 0) ∨
                  (lst ≠ x ∧ k = ys.length + 1 ∧ popR x (n + 1) (res.getD x 0) ys hts2 res2 = popR x (n + 1) (res.getD x 0) pile.reverse hts res ∧ x ∈ ys ∧ res2.getD x 0 = res.getD x 0 ∧ hts2.length = n ∧ res2.length = n ∧ (∀ y ∈ ys, y < n) ∧ ys.length ≤ n)) ∧
                  St s₀ g₁ s' ((L, IsNs (dgV n rl mk ra ha pa fa i a x lst)) :: (fa, LR as.reverse) :: (I, It') :: (pa, LN ys.reverse) :: (ha, LN hts2) :: (ra, LN res2) :: (a, LI [(x : Int), (hx : Int), (j : Int)]) :: (FE as rest ++ σ)))
                (pile.reverse.length + 1) ⟨-1, pile.reverse, hts, res, .inr ⟨by omega, rfl, rfl, List.mem_reverse.mpr q7, rfl, q1, q2, fun y hy => Wf'.pl y (List.mem_reverse.mp hy), by rw [List.length_reverse]; exact q3⟩, by rw [List.reverse_reverse]; exact S₈⟩ ?_
              rintro k s₅ ⟨lst, ys, hts2, res2, hc, S₅⟩ Kv Xv kn2 kb2 kr2 kx2
              (k_search "W")
              rcases hc with ⟨rfl, hF, rfl⟩ | ⟨hne, rfl, hF, p1, p2, p3, p4, p5, p6⟩
              · rw [if_neg (by simp)]
                refine kx2 _ ?_
                (k_search "W")
                rw [← hF] at T1 V1
                refine kn _ _ (by first | exact .inl rfl | exact .inr rfl) ⟨_, T1.2, _, as, rfl, T1.1, hfl', V1, ?_⟩
                exact St.sub (St.ns (ms' := dgW n rl mk ra ha pa fa i) (by assumption) (by (repeat' (first | (with_reducible exact List.Sublist.refl _) | (with_reducible exact List.Sublist.slnil) | (with_reducible refine List.Sublist.cons_cons _ ?_) | (with_reducible refine List.Sublist.cons _ ?_))))) (by (repeat' (first | (with_reducible exact List.Sublist.refl _) | (with_reducible exact List.Sublist.slnil) | (with_reducible refine List.Sublist.cons_cons _ ?_) | (with_reducible refine List.Sublist.cons _ ?_))))
              · rw [if_pos (by simpa using hne)]
                cases ys with
                | nil => cases p1
                | cons y ys =>
                simp only [List.reverse_cons] at *
                have p7 := p5 y (.head _)
                have p8 : ys.length + 1 ≤ n := by simpa using p6
                (k_search "W")
                rename_i S₉
                rw [p2] at S₉
                by_cases hyx : y = x
                · subst hyx
                  refine kn2 _ _ (by first | exact .inl rfl | exact .inr rfl) ⟨0, by simp, (y : Int), ys, _, _, .inl ⟨rfl, ?_, rfl⟩, S₉⟩
                  rw [← hF, popR, if_pos rfl]
                · rw [popR, if_neg hyx] at hF
                  refine kn2 _ _ (by first | exact .inl rfl | exact .inr rfl) ⟨ys.length + 1, by simp, (y : Int), ys, _, _, .inr ⟨by omega, rfl, hF, ?_, ?_, by simp [p3], by simp [p4], fun z hz => p5 z (.tail _ hz), by omega⟩, S₉⟩
                  · rcases List.mem_cons.mp p1 with q | q
                    · exact absurd q.symm hyx
                    · exact q
                  · rw [← p2]
                    simp only [List.getD_eq_getElem?_getD]
                    rw [List.getElem?_set_ne hyx]
            · (k_search "W")
              have e : tstep rel n ⟨res, hts, pile, (x, hx, j) :: rest⟩ = ⟨res, hts, pile, rest⟩ := by
                simp only [tstep]; rw [if_neg hge, if_neg he]
              rw [e] at T1 V1
              refine kn _ _ (by first | exact .inl rfl | exact .inr rfl) ⟨_, T1.2, _, as, rfl, T1.1, hfl', V1, ?_⟩
              exact St.sub (St.ns (ms' := dgW n rl mk ra ha pa fa i) (by assumption) (by (repeat' (first | (with_reducible exact List.Sublist.refl _) | (with_reducible exact List.Sublist.slnil) | (with_reducible refine List.Sublist.cons_cons _ ?_) | (with_reducible refine List.Sublist.cons _ ?_))))) (by (repeat' (first | (with_reducible exact List.Sublist.refl _) | (with_reducible exact List.Sublist.slnil) | (with_reducible refine List.Sublist.cons_cons _ ?_) | (with_reducible refine List.Sublist.cons _ ?_))))
    · (k_search "W")
      rename_i S₉
      refine knf _ _ (by first | exact .inl rfl | exact .inr rfl) ⟨g₁, _, _, Sub.rfl', St.ns (ms' := dgM n rl mk ra ha pa) (by assumption) (by (repeat' (first | (with_reducible exact List.Sublist.refl _) | (with_reducible exact List.Sublist.slnil) | (with_reducible refine List.Sublist.cons_cons _ ?_) | (with_reducible refine List.Sublist.cons _ ?_)))), rfl, st, rfl, hT, hfr, fun y hy => ?_⟩
      by_cases hyi : y = i
      · subst hyi; exact h0
      · exact hvis y (by omega)
  · rintro g₁ ms₁ σ₁ s₁ hg ⟨rfl, st, rfl, hT, hfr, hvis⟩ S₁
    have Wf := tinv_wf hT
    (k_search "W")
    have S₂ : St s₀ g₁ s₁ ([(L, IsNs (dgM n rl mk ra ha pa)), (pa, LN st.pile), (ha, LN st.hts)] ++ ((ra, LN st.res) :: σ)) := S₁
    have S₃ : St s₀ g₁ s₁ (σ ++ [(ra, LN st.res)]) := (S₂.sub (List.sublist_append_right _ _)).perm (List.perm_append_singleton (ra, LN st.res) σ)
    obtain ⟨g₂, k₂, S₄, hA, _⟩ := S₃.freeze
    exact h s₁ g₂ ra st.res (hg.tr k₂) S₄ (hA _ (.head _)) (tinv_end hr hT hfr hvis)
end
theorem getElem_refs {as : List Addr} {i : Nat} {v : Value} (h : (as.map Value.ref)[i]? = some v) : v = .ref (as.getD i 0) ∧ i < as.length := by
  rw [List.getElem?_map] at h
  cases e : as[i]? with
  | none => rw [e] at h; cases h
  | some a =>
    rw [e] at h; cases h
    exact ⟨by simp [List.getD, e], (List.getElem?_eq_some_iff.mp e).1⟩

section
variable {prog : Program} {w : World} {A : Around} {E : Value → Shared → Prop} {s₀ s : Shared} {g : Heap} {σ : Led} {R : Result → Shared → Prop}
theorem rings_spec {rl : Addr} {rel : List (List Nat)} {n : Nat} {t : Tok} (S : St s₀ g s σ) (G : Gd w g) (hh : A.handled = none) (hd : A.depth < 800) (hr : RelOk rel n) (X : RowsAt g rl rel)
    (h : ∀ s' g' r beh, Sub g g' → St s₀ g' s' σ → TFin rel (rel.map maskP) beh n → At g' r (LN ((List.range n).filter fun x => beh.getD x 0 / 2 ^ x % 2 = 1)) → R (.ok (.ret (.ref r))) s') :
    codeAny (model prog w) A (.call (.ref 26) ⟨[.int n t, .ref rl], []⟩) R s := by
  have hn := hr.small
  have hlen := hr.len
  refine call_cl (binds := [("count", .int n t), ("relation", .ref rl)]) (ms := [("count", vI n), ("relation", vR rl)]) S G fRings.2 cd_rings rfl (by have : recursionLimit = 1000 := rfl; omega) rfl
    (fun L => [("behind", L + 1)]) (fun L => [(L + 1, IsClE)]) (fun L p hp => ?_) (fun L => .cons (fun o ho => ⟨_, ho⟩) .nil) (fun L s₁ S₁ => ?_) (fun L => rfl) (fun L => by simp) rfl (by exact (by decide : (["count", "relation"] : List Str).Nodup)) rfl rfl rfl rfl
  · rcases List.mem_cons.mp hp with rfl | hp
    · exact ⟨_, rfl, _, rfl⟩
    · obtain rfl := List.mem_singleton.mp hp
      exact ⟨_, rfl, rfl⟩
  · simp only [List.cons_append, List.nil_append] at S₁
    (k_search "X")
    refine comp_eval (s₀ := s₀) (L := L) (cl := []) ?_ rfl (by decide) rfl (by decide) rfl (fun _ => rfl)
    (k_search "X")
    obtain ⟨as, X1, X2, X3⟩ := X
    refine mkIter_list (by with_reducible assumption) hh X1 (fun I s' vs hvs S' W => ?_)
    subst hvs
    have S2 := S'.sub (σ' := (I, ItL rl 0) :: (L, IsNs [("count", vI n), ("relation", vR rl)]) :: (L + 1, IsClE) :: σ) (by (repeat' (first | (with_reducible exact List.Sublist.refl _) | (with_reducible exact List.Sublist.slnil) | (with_reducible refine List.Sublist.cons_cons _ ?_) | (with_reducible refine List.Sublist.cons _ ?_))))
    refine CompAt.intro W S2 (fun i _ ys τ => IntsAre ys (((rel.map maskP).take i).map (fun n : Nat => (n : Int))) ∧ τ = (L + 1, IsClE) :: σ) ⟨.nil, rfl⟩ (by simp; omega) ?_ ?_
    · rintro C D i v g₁ ys τ₁ It' hi hv hg hl ⟨hy, rfl⟩
      obtain ⟨rfl, hi'⟩ := getElem_refs hv
      refine ⟨vR (as.getD i 0), rfl, fun s₁ S₁ => TurnC.of0 fun Kc kn => ?_⟩
      have G₁ := G.mono hg
      have X₃ := (X3 i (by omega)).mono hg
      (k_search "X")
      refine mask_spec (by assumption) G₁ hh (by show A.depth + 1 < 900; omega) X₃ (fun y hy => by have := hr.mem hy; omega) (fun s₄ t₄ S₄ => ?_)
      · have e : (rel.map maskP).take (i + 1) = (rel.map maskP).take i ++ [maskP (rel.getD i [])] := by
          rw [take_snoc (d := 0) (by simp; omega), getD_map (d := []) (by omega)]
        exact kn _ _ ⟨g₁, _, _, Sub.rfl', S₄, by rw [e]; exact intsN_append hy _ _, rfl⟩
    · rintro D g₁ ys τ₁ s₃ hg ⟨hy, rfl⟩ hl S₃
      have G₁ := G.mono hg
      rw [List.take_of_length_le (by simp; omega)] at hy
      obtain ⟨g₂, k₂, S₄, hA, _⟩ := St.freeze (σ₁ := (L, IsNs [("count", vI n), ("relation", vR rl)]) :: (L + 1, IsClE) :: σ) (σ₂ := [(D, LX ys)]) (S₃.perm (List.Perm.cons _ (List.perm_append_singleton (D, LX ys) ((L + 1, IsClE) :: σ))))
      have Y₂ : At g₂ D (LN (rel.map maskP)) := (hA _ (.head _)).imp fun o ⟨vs, k, e, ho⟩ => ⟨vs, k, e ▸ hy, ho⟩
      have G₂ := G₁.mono k₂
      have X₂ : RowsAt g₂ rl rel := ⟨as, X1.mono (hg.tr k₂), X2, fun i hi => (X3 i hi).mono (hg.tr k₂)⟩
      (k_search "X")
      refine dg_spec (by assumption) G₂ hh (by show A.depth + 1 < 900; omega) hr (by simp; omega) X₂ Y₂ (fun s₅ g₅ r beh k₅ S₅ B₅ hF => ?_)
      refine stC (c := L + 1) (P := vR r) S₅ rfl (by (k_search "UP")) IsClE.any rfl (fun s₆ S₆ => ?_) rfl rfl
      have G₅ := G₂.mono k₅
      (k_search "X")
      refine comp_eval (s₀ := s₀) (L := L) (cl := [("behind", L + 1)]) ?_ rfl (by decide) rfl (by decide) rfl (fun _ => rfl)
      (k_search "X")
      refine cRange (by with_reducible assumption) (fun _ ga Sr => ?_)
      refine mkIter_range (n := n) (by with_reducible assumption) hh (by (k_search "AT")) rfl (by omega) (fun I2 _ Sn Wn => ?_)
      have Sn2 := Sn.sub (σ' := (I2, ItR n 0) :: (L, IsNs [("count", vI n), ("relation", vR rl)]) :: (L + 1, IsCl (vR r)) :: σ) (by (repeat' (first | (with_reducible exact List.Sublist.refl _) | (with_reducible exact List.Sublist.slnil) | (with_reducible refine List.Sublist.cons_cons _ ?_) | (with_reducible refine List.Sublist.cons _ ?_))))
      refine CompAt.intro Wn Sn2 (fun i _ ys τ => IntsAre ys (((List.range i).filter fun x => beh.getD x 0 / 2 ^ x % 2 = 1).map (fun n : Nat => (n : Int))) ∧ τ = (L + 1, IsCl (vR r)) :: σ) ⟨.nil, rfl⟩ (by omega) ?_ ?_
      · rintro C D2 i v g₆ ys₂ τ₁ It' hi ⟨tv, rfl⟩ hg₆ hl₂ ⟨hy₂, rfl⟩
        refine ⟨vI i, ⟨_, rfl⟩, fun s₁ S₁ => TurnC.of1 fun Kc Nc kn kk => ?_⟩
        have B₆ := B₅.mono hg₆
        have hb := hF.1
        (k_search "X")
        refine if_eq1 (fun h1 => ?_) (fun h1 => ?_)
        · (k_search "X")
          refine kn _ _ ⟨g₆, _, _, Sub.rfl', by assumption, ?_, rfl⟩
          rw [filter_range_succ, if_pos (by simpa using h1)]
          exact intsN_append hy₂ i _
        · refine kk _ ⟨g₆, _, _, Sub.rfl', by assumption, ?_, rfl⟩
          rw [filter_range_succ, if_neg (by simpa using h1), List.append_nil]
          exact hy₂
      · rintro D2 g₆ ys₂ τ₁ s₇ hg₆ ⟨hy₂, rfl⟩ hl₂ S₇
        obtain ⟨g₇, k₇, S₈, hA₇, _⟩ := St.freeze (σ₁ := (L, IsNs [("count", vI n), ("relation", vR rl)]) :: (L + 1, IsCl (vR r)) :: σ) (σ₂ := [(D2, LX ys₂)]) (S₇.perm (List.Perm.cons _ (List.perm_append_singleton (D2, LX ys₂) ((L + 1, IsCl (vR r)) :: σ))))
        exact h s₇ g₇ D2 beh (hg.tr (k₂.tr (k₅.tr (hg₆.tr k₇)))) (S₈.sub (by (repeat' (first | (with_reducible exact List.Sublist.refl _) | (with_reducible exact List.Sublist.slnil) | (with_reducible refine List.Sublist.cons_cons _ ?_) | (with_reducible refine List.Sublist.cons _ ?_))))) hF ((hA₇ _ (.head _)).imp fun o ⟨vs, k, e, ho⟩ => ⟨vs, k, e ▸ hy₂, ho⟩)
end
section
variable {prog : Program} {w : World} {A : Around} {E : Value → Shared → Prop} {s₀ s : Shared} {g : Heap} {σ : Led} {R : Result → Shared → Prop}
structure WorldOk (rows : List (List Nat)) (msk : List Nat) : Prop where
  pos : 1 ≤ rows.length
  le : rows.length ≤ 9
  rel : RelOk rows rows.length
  len : msk.length = rows.length
  lt : ∀ m ∈ msk, m < 32
abbrev woM (D : Addr) (st fi he : Nat) : List (Str × Vp) := [("rows", vR D), ("stride", vI st), ("first", vI fi), ("here", vI he)]
theorem world_spec {p q : Addr} (S : St s₀ g s σ) (G : Gd w g) (hh : A.handled = none) (hd : A.depth < 800) (hu : A.units < 8000) (hp : (p, PT q) ∈ σ) (hq : (q, LIe) ∈ σ)
    (h : ∀ s' g' t rl mk rows msk, Sub g g' → St s₀ g' s' σ → At g' t (TR [rl, mk]) → RowsAt g' rl rows → At g' mk (LN msk) → WorldOk rows msk → R (.ok (.ret (.ref t))) s') :
    codeAny (model prog w) A (.call (.ref 64) ⟨[.ref p], []⟩) R s := by
  refine call_cl (binds := [("pen", .ref p)]) (ms := []) S G fWorld.2 cd_world rfl (by have : recursionLimit = 1000 := rfl; omega) rfl
    (fun L => [("many", L + 2), ("pen", L + 1)]) (fun L => [(L + 2, IsClE), (L + 1, IsCl (vR p))]) (fun L p hp => nomatch hp) (fun L => .cons (fun o ho => ⟨_, ho⟩) (.cons (fun o ho => ⟨_, ho, rfl⟩) .nil)) (fun L s₁ S₁ => ?_) (fun L => rfl) (fun L => by simp; decide) rfl (by exact .nil) rfl rfl rfl rfl
  simp only [List.cons_append, List.nil_append] at S₁
  (k_search "Z")
  refine draw_spec (m := 9) (by with_reducible assumption) (by with_reducible assumption) hh (by show A.depth + 1 < 890; omega) (by show A.units + 3 < 9000; omega) (by (k_search "MM")) (by (k_search "MM")) (by omega) (by omega) (fun _ v₁ t₁ hv₁ _ => ?_)
  (k_search "Z")
  generalize hn : v₁ + 1 = n at *
  refine comp_assign (s₀ := s₀) (L := L) ?_ rfl rfl (by decide) rfl (by decide) rfl (fun _ => rfl) rfl rfl rfl
  (k_search "Z")
  refine cRange (by with_reducible assumption) (fun _ ga Sr => ?_)
  refine mkIter_range (n := n) (by with_reducible assumption) hh (by (k_search "AT")) rfl (by omega) (fun I2 _ Sn Wn => ?_)
  have Sn' := Sn.sub (σ' := (I2, ItR n 0) :: (L, IsNs []) :: (L + 1 + 1, IsCl (vI n)) :: (L + 1, IsCl (vR p)) :: σ) (by (repeat' (first | (with_reducible exact List.Sublist.refl _) | (with_reducible exact List.Sublist.slnil) | (with_reducible refine List.Sublist.cons_cons _ ?_) | (with_reducible refine List.Sublist.cons _ ?_))))
  refine CompAt.intro Wn Sn' (fun i g' ys τ => (∃ as rows, ys = as.map .ref ∧ rows.length = i ∧ RL g' as rows ∧ ∀ r ∈ rows, r.length ≤ 3 ∧ ∀ y ∈ r, y < n) ∧ τ = (L + 1 + 1, IsCl (vI n)) :: (L + 1, IsCl (vR p)) :: σ) ⟨⟨[], [], rfl, rfl, ⟨rfl, fun i hi => absurd hi (Nat.not_lt_zero _)⟩, fun r hr => nomatch hr⟩, rfl⟩ (by omega) ?_ ?_
  · rintro C D i v g₁ ys τ₁ It' hi ⟨tv, rfl⟩ hg hl ⟨⟨as, rows, rfl, hri, hRL, hrow⟩, rfl⟩
    refine ⟨vI i, ⟨_, rfl⟩, fun s₁ S₁ => TurnC.of0 fun Kc kn => ?_⟩
    have G₁ := G.mono hg
    refine comp_eval (s₀ := s₀) (L := C) ?_ rfl (by decide) rfl (by decide) rfl (fun _ => rfl)
    (k_search "Z")
    refine mkL (P := fun vs => IntsAre vs (([1, 2, 0, 3] : List Nat).map (fun n : Nat => (n : Int)))) (by with_reducible assumption) (.cons _ _ (.cons _ _ (.cons _ _ (.cons _ _ .nil)))) (by rw [sizeLine_eq]; simp) (fun _ b _ => ?_)
    (k_search "Z")
    refine pick_spec (ns := [1, 2, 0, 3]) (by with_reducible assumption) (by with_reducible assumption) hh (by show A.depth + 1 < 880; omega) (by show A.units + 3 < 8900; omega) (by (k_search "MM")) (by (k_search "MM")) (by (k_search "MM")) (by decide) (by decide) (fun _ k tk hk _ => ?_)
    have hk3 : k ≤ 3 := by simp only [List.mem_cons, List.not_mem_nil, or_false] at hk; omega
    (k_search "Z")
    refine cRange (by with_reducible assumption) (fun _ gb Sr => ?_)
    refine mkIter_range (n := k) (by with_reducible assumption) hh (by (k_search "AT")) rfl (by omega) (fun I3 _ Sn3 Wn3 => ?_)
    have Sn3' := Sn3.sub (σ' := (I3, ItR k 0) :: (C, IsNs [("number", vI i)]) :: (I2, It') :: (D, LX (as.map .ref)) :: (L, IsNs []) :: (L + 1 + 1, IsCl (vI n)) :: (L + 1, IsCl (vR p)) :: σ) (by (repeat' (first | (with_reducible exact List.Sublist.refl _) | (with_reducible exact List.Sublist.slnil) | (with_reducible refine List.Sublist.cons_cons _ ?_) | (with_reducible refine List.Sublist.cons _ ?_))))
    refine CompAt.intro Wn3 Sn3' (fun i _ ys τ => (∃ zs : List Nat, IntsAre ys (zs.map (fun n : Nat => (n : Int))) ∧ zs.length = i ∧ ∀ y ∈ zs, y < n) ∧ τ = (I2, It') :: (D, LX (as.map .ref)) :: (L, IsNs []) :: (L + 1 + 1, IsCl (vI n)) :: (L + 1, IsCl (vR p)) :: σ) ⟨⟨[], .nil, rfl, fun y hy => nomatch hy⟩, rfl⟩ (by omega) ?_ ?_
    · rintro C3 D3 i3 v3 g₃ ys3 τ₃ It3 hi3 ⟨tv3, rfl⟩ hg3 hl3 ⟨⟨zs, hz1, hz2, hz3⟩, rfl⟩
      refine ⟨vI i3, ⟨_, rfl⟩, fun s₁ S₁ => TurnC.of0 fun Kc kn => ?_⟩
      have G₃ := G₁.mono hg3
      (k_search "Z")
      refine draw_spec (m := n) (by with_reducible assumption) (by with_reducible assumption) hh (by show A.depth + 1 < 890; omega) (by show A.units + 3 < 9000; omega) (by (k_search "MM")) (by (k_search "MM")) (by omega) (by omega) (fun _ v t hv _ => ?_)
      exact kn _ _ ⟨g₃, _, _, Sub.rfl', by assumption, ⟨zs ++ [v], intsN_append hz1 _ _, by simp [hz2], fun y hy => (List.mem_append.mp hy).elim (hz3 y) fun e => by rw [List.mem_singleton] at e; omega⟩, rfl⟩
    · rintro D3 g₃ ys3 τ₃ s₃ hg3 ⟨⟨zs, hz1, hz2, hz3⟩, rfl⟩ hl3 S₃
      obtain ⟨g₄, k₄, S₄, hA₄, _⟩ := St.freeze (σ₁ := (C, IsNs [("number", vI i)]) :: (I2, It') :: (D, LX (as.map .ref)) :: (L, IsNs []) :: (L + 1 + 1, IsCl (vI n)) :: (L + 1, IsCl (vR p)) :: σ) (σ₂ := [(D3, LX ys3)]) (S₃.perm (List.Perm.cons _ (List.perm_append_singleton (D3, LX ys3) _)))
      have X₄ : At g₄ D3 (LN zs) := (hA₄ _ (.head _)).imp fun o ⟨vs, k, e, ho⟩ => ⟨vs, k, e ▸ hz1, ho⟩
      refine kn _ _ ⟨g₄, _, _, hg3.tr k₄, S₄, ⟨as ++ [D3], rows ++ [zs], by simp, by simp [hri], (hRL.mono (hg3.tr k₄)).snoc X₄, fun r hr => ?_⟩, rfl⟩
      rcases List.mem_append.mp hr with hr | hr
      · exact hrow r hr
      · rw [List.mem_singleton] at hr; subst hr; exact ⟨by omega, hz3⟩
  rintro D g₁ ys τ₁ s₃ hg ⟨⟨as, rows, rfl, hri, hRL, hrow⟩, rfl⟩ hl S₃
  have G₁ := G.mono hg
  refine ⟨_, .new, fun s₄ S₄ => ?_⟩
  clear S₃ Sn Sn' Sr
  refine wpAny_execs_cons ?_
  refine wpAny_mono (Q := fun f s' => f = .next ∧ ∃ g' as' rows', Sub g₁ g' ∧ St s₀ g' s' ((L, IsNs [("rows", vR D)]) :: (D, LR as') :: (L + 1 + 1, IsCl (vI n)) :: (L + 1, IsCl (vR p)) :: σ) ∧ RL g' as' rows' ∧ rows'.length = n ∧ ∀ r ∈ rows', r.length ≤ 20 ∧ ∀ y ∈ r, y < n) ?_ ?_ (fun _ _ x => x)
  · (k_search "Z")
    refine draw_spec (m := 2) (by with_reducible assumption) (by with_reducible assumption) hh (by show A.depth + 1 < 890; omega) (by show A.units + 3 < 9000; omega) (by (k_search "MM")) (by (k_search "MM")) (by omega) (by omega) (fun _ v₂ t₂ hv₂ _ => ?_)
    (k_search "Z")
    refine if_any (fun _ => ?_) (fun _ => ?_)
    · (k_search "Z")
      refine Assign_Tuple_swapped (names := ["first", "stride"]) ?_ rfl rfl
      (k_search "Z")
      refine draw_spec (m := n) (by with_reducible assumption) (by with_reducible assumption) hh (by show A.depth + 1 < 890; omega) (by show A.units + 3 < 9000; omega) (by (k_search "MM")) (by (k_search "MM")) (by omega) (by omega) (fun _ v₃ t₃ hv₃ _ => ?_)
      (k_search "Z")
      refine draw_spec (m := n) (by with_reducible assumption) (by with_reducible assumption) hh (by show A.depth + 1 < 890; omega) (by show A.units + 3 < 9000; omega) (by (k_search "MM")) (by (k_search "MM")) (by omega) (by omega) (fun _ v₄ t₄ hv₄ _ => ?_)
      (k_search "Z")
      refine mkT (P := fun us => us = [_, _]) (by with_reducible assumption) rfl (by rw [sizeLine_eq]; simp) (fun _ ta Tt => ?_)
      (k_search "Z")
      refine unpT (by with_reducible assumption) (Tt.get (by (k_search "MM"))) hh rfl (fun _ _ => ?_)
      (k_search "Z")
      clear Tt
      refine cRange (by with_reducible assumption) (fun _ gb Sr => ?_)
      refine mkIter_range (n := n) (by with_reducible assumption) hh (by (k_search "AT")) rfl (by omega) (fun I5 _ Sn5 Wn5 => ?_)
      have Sn5' := Sn5.sub (σ' := (I5, ItR n 0) :: (L, IsNs (woM D (v₄ + 1) v₃ v₃)) :: (D, LR as) :: (L + 1 + 1, IsCl (vI n)) :: (L + 1, IsCl (vR p)) :: σ) (by (repeat' (first | (with_reducible exact List.Sublist.refl _) | (with_reducible exact List.Sublist.slnil) | (with_reducible refine List.Sublist.cons_cons _ ?_) | (with_reducible refine List.Sublist.cons _ ?_))))
      clear Sn5 Sr
      refine for_on Wn5 Sn5' (fun i g' m l => ∃ as' rows' h', m = woM D (v₄ + 1) v₃ h' ∧ l = (D, LR as') :: (L + 1 + 1, IsCl (vI n)) :: (L + 1, IsCl (vR p)) :: σ ∧ h' < n ∧ RL g' as' rows' ∧ rows'.length = n ∧ ∀ r ∈ rows', r.length ≤ 3 + i ∧ ∀ y ∈ r, y < n)
        ⟨as, rows, v₃, rfl, rfl, by omega, hRL, hri, fun r hr => hrow r hr⟩ ?_ ?_ rfl rfl rfl
      · rintro i v g₂ ms₁ σ₁ It' hi ⟨tv, rfl⟩ hg2 ⟨as', rows', h', rfl, rfl, hh', hRL', hri', hrow'⟩ Kf kn kb kr
        refine ⟨vI i, _, by (k_search "SL"), ⟨_, rfl⟩, fun s₁ S₁ => ?_⟩
        have G₂ := G₁.mono hg2
        have hal := hRL'.1
        have hrw := hrow' (rows'.getD h' []) (gmem (by omega))
        (k_search "Z")
        refine mkL (P := fun vs => IntsAre vs (([(h' + (v₄ + 1)) % n] : List Nat).map (fun n : Nat => (n : Int)))) (by with_reducible assumption) (.cons _ _ .nil) (by rw [sizeLine_eq]; simp) (fun _ b _ => ?_)
        (k_search "Z")
        refine addN (xs := rows'.getD h' []) (by with_reducible assumption) ((hRL'.2 h' (by omega)).mono (St.keep (by assumption))) (by (k_search "AT")) (by rw [List.length_singleton]; omega) (fun _ c _ => ?_)
        (k_search "Z")
        rename_i S₉ _ _
        have hm : (h' + (v₄ + 1)) % n < n := Nat.mod_lt _ (by omega)
        obtain ⟨g₃, k₃, S₁₀, hA, _⟩ := St.freeze (σ₁ := (L, IsNs (woM D (v₄ + 1) v₃ ((h' + (v₄ + 1)) % n))) :: (I5, It') :: (D, LR (as'.set h' c)) :: (L + 1 + 1, IsCl (vI n)) :: (L + 1, IsCl (vR p)) :: σ) (σ₂ := [(c, LN (rows'.getD h' [] ++ [(h' + (v₄ + 1)) % n]))])
          ((S₉.sub' (ms' := woM D (v₄ + 1) v₃ ((h' + (v₄ + 1)) % n)) (σ' := (c, LN (rows'.getD h' [] ++ [(h' + (v₄ + 1)) % n])) :: (I5, It') :: (D, LR (as'.set h' c)) :: (L + 1 + 1, IsCl (vI n)) :: (L + 1, IsCl (vR p)) :: σ) (by (repeat' (first | (with_reducible exact List.Sublist.refl _) | (with_reducible exact List.Sublist.slnil) | (with_reducible refine List.Sublist.cons_cons _ ?_) | (with_reducible refine List.Sublist.cons _ ?_)))) (by (repeat' (first | (with_reducible exact List.Sublist.refl _) | (with_reducible exact List.Sublist.slnil) | (with_reducible refine List.Sublist.cons_cons _ ?_) | (with_reducible refine List.Sublist.cons _ ?_))))).perm (List.Perm.cons _ (List.perm_append_singleton _ _)))
        have hRL3 := (hRL'.mono k₃).set (k := h') (hA _ (.head _))
        have hrw3 : ∀ r ∈ rows'.set h' (rows'.getD h' [] ++ [(h' + (v₄ + 1)) % n]), r.length ≤ 3 + (i + 1) ∧ ∀ y ∈ r, y < n := fun r hr => by
          rcases List.mem_or_eq_of_mem_set hr with hr | rfl
          · exact ⟨by have := (hrow' r hr).1; omega, (hrow' r hr).2⟩
          · refine ⟨by rw [List.length_append, List.length_singleton]; omega, fun y hy => ?_⟩
            rcases List.mem_append.mp hy with hy | hy
            · exact hrw.2 y hy
            · rw [List.mem_singleton] at hy; omega
        refine if_any (fun _ => ?_) (fun _ => ?_)
        · (k_search "Z")
          refine kb _ ?_
          (k_search "Z")
          exact ⟨rfl, g₃, _, _, hg2.tr k₃, S₁₀.sub' (by (repeat' (first | (with_reducible exact List.Sublist.refl _) | (with_reducible exact List.Sublist.slnil) | (with_reducible refine List.Sublist.cons_cons _ ?_) | (with_reducible refine List.Sublist.cons _ ?_)))) (by (repeat' (first | (with_reducible exact List.Sublist.refl _) | (with_reducible exact List.Sublist.slnil) | (with_reducible refine List.Sublist.cons_cons _ ?_) | (with_reducible refine List.Sublist.cons _ ?_)))), hRL3, by rw [List.length_set]; exact hri', fun r hr => ⟨by have := (hrw3 r hr).1; omega, (hrw3 r hr).2⟩⟩
        · (k_search "Z")
          exact kn _ _ (by first | exact .inl rfl | exact .inr rfl) ⟨g₃, _, _, k₃, S₁₀, _, _, _, rfl, rfl, hm, hRL3, by rw [List.length_set]; exact hri', hrw3⟩
      · rintro g₂ ms₁ σ₁ s₁ hg2 ⟨as', rows', h', rfl, rfl, hh', hRL', hri', hrow'⟩ S₁
        (k_search "Z")
        exact ⟨rfl, g₂, as', rows', hg2, S₁.sub' (by (repeat' (first | (with_reducible exact List.Sublist.refl _) | (with_reducible exact List.Sublist.slnil) | (with_reducible refine List.Sublist.cons_cons _ ?_) | (with_reducible refine List.Sublist.cons _ ?_)))) (by (repeat' (first | (with_reducible exact List.Sublist.refl _) | (with_reducible exact List.Sublist.slnil) | (with_reducible refine List.Sublist.cons_cons _ ?_) | (with_reducible refine List.Sublist.cons _ ?_)))), hRL', hri', fun r hr => ⟨by have := (hrow' r hr).1; omega, (hrow' r hr).2⟩⟩
    · (k_search "Z")
      refine ⟨rfl, g₁, as, rows, Sub.rfl', by assumption, hRL, hri, fun r hr => ⟨by have := (hrow r hr).1; omega, (hrow r hr).2⟩⟩
  · rintro f s' ⟨rfl, g₂, as', rows', hg2, S', hRL', hri', hrow'⟩
    have G₂ := G₁.mono hg2
    (k_search "Z")
    refine comp_assign (s₀ := s₀) (L := L) ?_ rfl rfl (by decide) rfl (by decide) rfl (fun _ => rfl) rfl rfl rfl
    (k_search "Z")
    refine cRange (by with_reducible assumption) (fun _ ga Sr => ?_)
    refine mkIter_range (n := n) (by with_reducible assumption) hh (by (k_search "AT")) rfl (by omega) (fun I7 _ Sn7 Wn7 => ?_)
    have Sn7' := Sn7.sub (σ' := (I7, ItR n 0) :: (L, IsNs [("rows", vR D)]) :: (D, LR as') :: (L + 1 + 1, IsCl (vI n)) :: (L + 1, IsCl (vR p)) :: σ) (by (repeat' (first | (with_reducible exact List.Sublist.refl _) | (with_reducible exact List.Sublist.slnil) | (with_reducible refine List.Sublist.cons_cons _ ?_) | (with_reducible refine List.Sublist.cons _ ?_))))
    refine CompAt.intro Wn7 Sn7' (fun i _ ys τ => (∃ zs : List Nat, IntsAre ys (zs.map (fun n : Nat => (n : Int))) ∧ zs.length = i ∧ ∀ y ∈ zs, y < 32) ∧ τ = (D, LR as') :: (L + 1 + 1, IsCl (vI n)) :: (L + 1, IsCl (vR p)) :: σ) ⟨⟨[], .nil, rfl, fun y hy => nomatch hy⟩, rfl⟩ (by omega) ?_ ?_
    · rintro C7 D7 i7 v7 g₃ ys7 τ₇ It7 hi7 ⟨tv7, rfl⟩ hg7 hl7 ⟨⟨zs, hz1, hz2, hz3⟩, rfl⟩
      refine ⟨vI i7, ⟨_, rfl⟩, fun s₁ S₁ => TurnC.of0 fun Kc kn => ?_⟩
      have G₃ := G₂.mono hg7
      (k_search "Z")
      refine draw_spec (m := 5) (by with_reducible assumption) (by with_reducible assumption) hh (by show A.depth + 1 < 890; omega) (by show A.units + 3 < 9000; omega) (by (k_search "MM")) (by (k_search "MM")) (by omega) (by omega) (fun _ v t hv _ => ?_)
      (k_search "Z")
      refine draw_spec (m := 2) (by with_reducible assumption) (by with_reducible assumption) hh (by show A.depth + 1 < 890; omega) (by show A.units + 3 < 9000; omega) (by (k_search "MM")) (by (k_search "MM")) (by omega) (by omega) (fun _ v8 t8 hv8 _ => ?_)
      have hp2 : 2 ^ v ≤ 16 := Nat.pow_le_pow_right (by decide) (show v ≤ 4 by omega)
      (k_search "Z")
      have hp3 : 2 ^ v * v8 ≤ 16 * 1 := Nat.mul_le_mul hp2 (by omega)
      refine kn _ _ ⟨g₃, _, _, Sub.rfl', by assumption, ⟨zs ++ [2 ^ v * v8], intsN_append hz1 _ _, by simp [hz2], fun y hy => (List.mem_append.mp hy).elim (hz3 y) fun e => by rw [List.mem_singleton] at e; omega⟩, rfl⟩
    · rintro D7 g₃ ys7 τ₇ s₃ hg7 ⟨⟨zs, hz1, hz2, hz3⟩, rfl⟩ hl7 S₃
      have G₃ := G₂.mono hg7
      refine ⟨_, .there (by decide) .new, fun s₄ S₄ => ?_⟩
      clear S₃
      (k_search "Z")
      refine mkT (P := fun us => us = [D, D7].map .ref) (by with_reducible assumption) rfl (by rw [sizeLine_eq]; simp) (fun s₅ ta S₅ => ?_)
      (k_search "Z")
      have S₆ := S₅.sub (σ' := (ta, TR [D, D7]) :: (D7, LX ys7) :: (D, LR as') :: σ) (by (repeat' (first | (with_reducible exact List.Sublist.refl _) | (with_reducible exact List.Sublist.slnil) | (with_reducible refine List.Sublist.cons_cons _ ?_) | (with_reducible refine List.Sublist.cons _ ?_))))
      obtain ⟨g₄, k₄, S₇, hA, _⟩ := St.freeze (σ₁ := σ) (σ₂ := [(ta, TR [D, D7]), (D7, LX ys7), (D, LR as')]) (S₆.perm (List.perm_append_comm (l₂ := [(ta, TR [D, D7]), (D7, LX ys7), (D, LR as')]) (l₁ := σ)))
      refine h s₅ g₄ ta D D7 rows' zs (hg.tr (hg2.tr (hg7.tr k₄))) S₇ (hA _ (.head _)) ((hRL'.mono (hg7.tr k₄)).rows (hA _ (.tail _ (.tail _ (.head _))))) ((hA _ (.tail _ (.head _))).imp fun o ⟨vs, k, e, ho⟩ => ⟨vs, k, e ▸ hz1, ho⟩) ⟨by omega, by omega, ⟨rfl, by omega, fun x => ?_, fun x i hx => ?_⟩, by omega, hz3⟩
      · by_cases hx : x < rows'.length
        · have := (hrow' _ (gmem (d := []) hx)).1; omega
        · rw [gdef (by omega)]; exact Nat.zero_le _
      · by_cases hx' : x < rows'.length
        · have := (hrow' _ (gmem (d := []) hx')).2 _ (gmem (d := 0) hx); omega
        · rw [gdef (by omega)] at hx; exact absurd hx (Nat.not_lt_zero _)
end
abbrev lvM (rl b d lv : Addr) (st : Nat) : List (Str × Vp) := [("rows", vR rl), ("begins", vR b), ("steps", vI st), ("level", vR lv), ("found", vR d)]
abbrev lvN (rl b d lv : Addr) (st : Nat) (la : Addr) : List (Str × Vp) := [("rows", vR rl), ("begins", vR b), ("steps", vI st), ("level", vR lv), ("found", vR d), ("later", vR la)]
section
variable {prog : Program} {w : World} {A : Around} {E : Value → Shared → Prop} {s₀ s : Shared} {g : Heap} {σ : Led} {R : Result → Shared → Prop}
theorem levels_spec {rl b : Addr} {rows : List (List Nat)} {bs : List Nat} {n : Nat} (S : St s₀ g s σ) (G : Gd w g) (hh : A.handled = none) (hd : A.depth < 890) (hu : A.units < 9000) (hr : RelOk rows n) (X : RowsAt g rl rows) (Y : At g b (LN bs)) (hB : ∀ x ∈ bs, x < n) (hbl : bs.length ≤ 2 ^ 19)
    (h : ∀ s' g' d f, Sub g g' → St s₀ g' s' σ → (d == sysModules) = false → At g' d (DI prog w (cst f)) → LevFin rows bs n f → R (.ok (.ret (.ref d))) s') :
    codeAny (model prog w) A (.call (.ref 71) ⟨[.ref rl, .ref b], []⟩) R s := by
  have hn := hr.small
  have hlen := hr.len
  refine call_fn (binds := [("rows", .ref rl), ("begins", .ref b)]) (ms := [("rows", vR rl), ("begins", vR b)]) S G fLevels.2 cd_levels rfl (by have : recursionLimit = 1000 := rfl; omega) rfl (.cons rfl (.cons rfl .nil)) (fun L s₁ S₁ => ?_) (by decide) rfl (by exact (by decide : (["rows", "begins"] : List Str).Nodup)) rfl rfl rfl
  (k_search "Z")
  refine Assign_Tuple_swapped (names := ["found", "level", "steps"]) ?_ rfl rfl
  (k_search "Z")
  refine mkD (by with_reducible assumption) (by with_reducible assumption) (fun _ d hdm _ => ?_)
  (k_search "Z")
  refine cList (by with_reducible assumption) (by (k_search "AT")) (fun vs hv => by rw [lenN hv, sizeLine_eq]; omega) (fun _ lv _ => ?_)
  (k_search "Z")
  refine mkT (P := fun us => us = [_, _, _]) (by with_reducible assumption) rfl (by rw [sizeLine_eq]; simp) (fun _ ta Tt => ?_)
  (k_search "Z")
  refine unpT (by with_reducible assumption) (Tt.get (by (k_search "MM"))) hh rfl (fun _ _ => ?_)
  (k_search "Z")
  rename_i S₂
  have S₂' : St s₀ g _ ((L, IsNs (lvM rl b d lv 0)) :: (ta, IsTpl _) :: (lv, LN bs) :: (d, DI prog w (cst [])) :: σ) := S₂
  have S₃ := S₂'.sub' (ms' := lvM rl b d lv 0) (σ' := (lv, LN bs) :: (d, DI prog w (cst [])) :: σ) (by (repeat' (first | (with_reducible exact List.Sublist.refl _) | (with_reducible exact List.Sublist.slnil) | (with_reducible refine List.Sublist.cons_cons _ ?_) | (with_reducible refine List.Sublist.cons _ ?_)))) (by (repeat' (first | (with_reducible exact List.Sublist.refl _) | (with_reducible exact List.Sublist.slnil) | (with_reducible refine List.Sublist.cons_cons _ ?_) | (with_reducible refine List.Sublist.cons _ ?_))))
  clear S₂ S₂' Tt
  obtain ⟨g₀, k₀, S₄, hlv⟩ := freeze1 S₃
  clear S₃
  refine while_inv (fun k s' => ∃ g' f lev st lv, Sub g g' ∧ St s₀ g' s' ((L, IsNs (lvM rl b d lv st)) :: (d, DI prog w (cst f)) :: σ) ∧ At g' lv (LN lev) ∧ LevInv rows bs n f lev st ∧ k = 2 * (n - f.length) + (if lev = [] then 0 else 1)) _
    ⟨g₀, [], bs, 0, lv, k₀, S₄, hlv, .init hB, rfl⟩ ?_
  clear S₄ hlv
  rintro k s₅ ⟨g₁, f, lev, st, lv, hg, S₅, hlv, hI, rfl⟩ Kw Xw kn kb kr kx
  have G₁ := G.mono hg
  have X₁ := X.mono hg
  (k_search "Z")
  refine mkL (P := fun vs => vs = []) (by with_reducible assumption) rfl (by rw [sizeLine_eq]; simp) (fun s₆ e₆ S₆ => ?_)
  refine neNil (P := fun vs => IntsAre vs (lev.map (fun n : Nat => (n : Int)))) (hlv.mono S₆.keep) (S₆.get (by (k_search "MM"))) (by show A.units + 3 < cLine; have : cLine = 9900 := rfl; omega) (fun Z => ?_) (fun Z => ?_)
  · have he : lev = [] := by
      obtain ⟨vs, _, ⟨h1, h2⟩, _⟩ := isL_of Z
      subst h2
      have := lenN h1
      exact List.length_eq_zero_iff.mp this.symm
    subst he
    (k_search "Z")
    refine kx _ ?_
    (k_search "Z")
    have S₇ := S₆.sub (σ' := (d, DI prog w (cst f)) :: σ) (by (repeat' (first | (with_reducible exact List.Sublist.refl _) | (with_reducible exact List.Sublist.slnil) | (with_reducible refine List.Sublist.cons_cons _ ?_) | (with_reducible refine List.Sublist.cons _ ?_))))
    obtain ⟨g₈, k₈, S₈, hA, _⟩ := St.freeze (σ₁ := σ) (σ₂ := [(d, DI prog w (cst f))]) (S₇.perm (List.perm_append_singleton _ _))
    exact h _ g₈ d f (hg.tr k₈) (S₈.tok _) hdm (hA _ (.head _)) hI.fin
  · have he : lev ≠ [] := by
      obtain ⟨vs, _, ⟨h1, h2⟩, _⟩ := isL_of Z
      intro e; subst e
      cases h1
      exact h2 rfl
    have S₇ := S₆.sub (σ' := (L, IsNs (lvM rl b d lv st)) :: (d, DI prog w (cst f)) :: σ) (by (repeat' (first | (with_reducible exact List.Sublist.refl _) | (with_reducible exact List.Sublist.slnil) | (with_reducible refine List.Sublist.cons_cons _ ?_) | (with_reducible refine List.Sublist.cons _ ?_))))
    clear S₆ S₅ Z
    (k_search "Z")
    refine mkL (P := fun vs => IntsAre vs (([] : List Nat).map (fun n : Nat => (n : Int)))) (by with_reducible assumption) .nil (by rw [sizeLine_eq]; simp) (fun _ la _ => ?_)
    (k_search "Z")
    rename_i S₈
    obtain ⟨g₂, k₂, S₉, hla⟩ := freeze1 (P := LN []) S₈
    clear S₈
    refine mkIter_list S₉ hh (hlv.mono k₂) (fun I s' vs hvs S' W => ?_)
    have hlvs := lenN hvs
    refine for_on W S' (fun i g' m l => ∃ la f' lt, m = lvN rl b d lv st la ∧ l = (d, DI prog w (cst f')) :: σ ∧ At g' la (LN lt) ∧ LIn rows n st f (lev.take i) f' lt)
      ⟨la, f, [], rfl, rfl, hla, .init hI⟩ ?_ ?_ rfl rfl rfl
    · clear S' S₉ hla
      rintro i v g₃ ms₁ σ₁ It' hi hv hg3 ⟨la, f', lt, rfl, rfl, hla, hL⟩ Kf knf kbf krf
      obtain ⟨t, ht⟩ := IntsAre.get hvs i _ (ints_ofN hvs hi)
      rw [ht] at hv
      cases hv
      have hxn := (hI.lvl _ (gmem (d := 0) (show i < lev.length by omega))).lt hr hB
      have htk : lev.take (i + 1) = lev.take i ++ [lev.getD i 0] := take_snoc (by omega)
      rw [htk] at knf
      generalize lev.getD i 0 = x at *
      refine ⟨vI x, _, by (k_search "SL"), ⟨_, rfl⟩, fun s₁ S₁ => ?_⟩
      have G₃ := G₁.mono (k₂.tr hg3)
      have X₃ := X₁.mono (k₂.tr hg3)
      (k_search "Z")
      refine dNotIn (by with_reducible assumption) (by (k_search "AT")) hdm (fun _ _ => ?_)
      (k_search "Z")
      refine if_any (fun hc => ?_) (fun hc => ?_)
      · have hx : x ∉ ks f' := fun q => by simp [cst_mem.mpr q] at hc
        obtain ⟨hf1, hf2⟩ := hL.room hx hxn
        have hrw := hr.rows x
        (k_search "Z")
        refine dSet (x := (st : Int)) (by with_reducible assumption) (by (k_search "UP")) (fun q => hx (cst_mem.mp q)) (by rw [cst_len]; omega) (fun _ _ => ?_)
        (k_search "Z")
        refine cList (by with_reducible assumption) (by (k_search "AT")) (fun vs hv => by rw [lenN hv, sizeLine_eq]; omega) (fun _ c₁ _ => ?_)
        (k_search "Z")
        refine addN (xs := lt) (ys := rows.getD x []) (by with_reducible assumption) (by (k_search "AT")) (by (k_search "AT")) (by omega) (fun _ c₂ _ => ?_)
        (k_search "Z")
        rename_i S₁₀
        have S₁₁ : St s₀ g₃ _ ((L, IsNs (lvN rl b d lv st c₂ ++ [_])) :: (c₂, LN (lt ++ rows.getD x [])) :: (c₁, _) :: (I, It') :: (d, DI prog w (cst f' ++ [((x : Int), (st : Int))])) :: σ) := S₁₀
        rw [← cst_snoc] at S₁₁
        obtain ⟨g₄, k₄, S₁₂, hA⟩ := freeze1 (S₁₁.sub' (ms' := lvN rl b d lv st c₂) (σ' := (c₂, LN (lt ++ rows.getD x [])) :: (I, It') :: (d, DI prog w (cst (f' ++ [(x, st)]))) :: σ) (List.sublist_append_left _ _) (by (repeat' (first | (with_reducible exact List.Sublist.refl _) | (with_reducible exact List.Sublist.slnil) | (with_reducible refine List.Sublist.cons_cons _ ?_) | (with_reducible refine List.Sublist.cons _ ?_)))))
        exact knf _ _ (by first | exact .inl rfl | exact .inr rfl) ⟨g₄, _, _, k₄, S₁₂, _, _, _, rfl, rfl, hA, hL.add hr hx hxn⟩
      · have hx : x ∈ ks f' := by
          rw [← cst_mem]
          exact Classical.byContradiction fun q => hc (by simp [q])
        (k_search "Z")
        exact knf _ _ (by first | exact .inl rfl | exact .inr rfl) ⟨g₃, _, _, Sub.rfl', St.ns (ms' := lvN rl b d lv st la) (by assumption) (by (repeat' (first | (with_reducible exact List.Sublist.refl _) | (with_reducible exact List.Sublist.slnil) | (with_reducible refine List.Sublist.cons_cons _ ?_) | (with_reducible refine List.Sublist.cons _ ?_)))), _, _, _, rfl, rfl, hla, hL.skip hx⟩
    · rintro g₃ ms₁ σ₁ s₁ hg3 ⟨la, f', lt, rfl, rfl, hla, hL⟩ S₁
      rw [List.take_of_length_le (by omega)] at hL
      have G₃ := G₁.mono (k₂.tr hg3)
      (k_search "Z")
      refine Assign_Tuple_swapped (names := ["level", "steps"]) ?_ rfl rfl
      (k_search "Z")
      refine mkT (P := fun us => us = [_, _]) (by with_reducible assumption) rfl (by rw [sizeLine_eq]; simp) (fun _ ta Tt => ?_)
      (k_search "Z")
      refine unpT (by with_reducible assumption) (Tt.get (by (k_search "MM"))) hh rfl (fun _ _ => ?_)
      (k_search "Z")
      obtain ⟨hI', h1, h2⟩ := hL.next hI
      have h3 := hL.len
      refine kn _ _ (by first | exact .inl rfl | exact .inr rfl) ⟨_, ?_, g₃, f', lt, st + 1, la, hg.tr (k₂.tr hg3), St.sub' (by assumption) (by (repeat' (first | (with_reducible exact List.Sublist.refl _) | (with_reducible exact List.Sublist.slnil) | (with_reducible refine List.Sublist.cons_cons _ ?_) | (with_reducible refine List.Sublist.cons _ ?_)))) (by (repeat' (first | (with_reducible exact List.Sublist.refl _) | (with_reducible exact List.Sublist.slnil) | (with_reducible refine List.Sublist.cons_cons _ ?_) | (with_reducible refine List.Sublist.cons _ ?_)))), hla, hI', rfl⟩
      rw [if_neg he]
      split
      · omega
      · have := h1 (by assumption)
        omega
end
/-- what the union is -/
def UnP (msk : List Nat) (f : List (Nat × Nat)) (k T : Nat) : Prop := T < 2 ^ k ∧ ∀ b, T.testBit b = true ↔ b < k ∧ ∃ p ∈ f, msk.getD p.1 0 / 2 ^ b % 2 = 1
theorem UnP.zero {msk : List Nat} {f : List (Nat × Nat)} : UnP msk f 0 0 := ⟨by decide, fun b => by simp⟩
theorem UnP.skip {msk : List Nat} {f : List (Nat × Nat)} {k T : Nat} (h : UnP msk f k T) (hn : ¬ ∃ p ∈ f, msk.getD p.1 0 / 2 ^ k % 2 = 1) : UnP msk f (k + 1) T := by
  refine ⟨Nat.lt_trans h.1 (Nat.pow_lt_pow_right (by decide) (Nat.lt_succ_self _)), fun b => ?_⟩
  rw [h.2 b]
  constructor
  · exact fun ⟨a, b⟩ => ⟨by omega, b⟩
  · rintro ⟨a, c⟩
    refine ⟨?_, c⟩
    by_cases e : b = k
    · subst e; exact absurd c hn
    · omega
theorem UnP.add {msk : List Nat} {f : List (Nat × Nat)} {k T : Nat} (h : UnP msk f k T) (hy : ∃ p ∈ f, msk.getD p.1 0 / 2 ^ k % 2 = 1) : UnP msk f (k + 1) (T + 2 ^ k) := by
  have e : T + 2 ^ k = 2 ^ k ||| T := by
    have := Nat.two_pow_add_eq_or_of_lt h.1 1
    rw [Nat.mul_one] at this
    omega
  refine ⟨by have := h.1; rw [Nat.pow_succ]; omega, fun b => ?_⟩
  rw [e, Nat.testBit_or, Bool.or_eq_true, h.2 b, Nat.testBit_two_pow]
  simp only [decide_eq_true_eq]
  constructor
  · rintro (a | ⟨a, c⟩)
    · subst a; exact ⟨by omega, hy⟩
    · exact ⟨by omega, c⟩
  · rintro ⟨a, c⟩
    by_cases e : b = k
    · exact .inl e.symm
    · exact .inr ⟨by omega, c⟩
section
variable {prog : Program} {w : World} {A : Around} {E : Value → Shared → Prop} {s₀ s : Shared} {g : Heap} {σ : Led} {R : Result → Shared → Prop}
theorem union_spec {mk d : Addr} {msk : List Nat} {f : List (Nat × Nat)} (S : St s₀ g s σ) (G : Gd w g) (hh : A.handled = none) (hd : A.depth < 890) (hu : A.units < 9000) (Y : At g mk (LN msk)) (hdm : (d == sysModules) = false) (D : At g d (DI prog w (cst f)))
    (hf : ∀ x ∈ ks f, x < msk.length) (hm : msk.length ≤ 1000) (hf2 : f.length ≤ 1000)
    (h : ∀ s' T t, St s₀ g s' σ → UnP msk f 5 T → R (.ok (.ret (.int ((T : Nat) : Int) t))) s') :
    codeAny (model prog w) A (.call (.ref 76) ⟨[.ref mk, .ref d], []⟩) R s := by
  refine call_cl (binds := [("masks", .ref mk), ("numbers", .ref d)]) (ms := [("numbers", vR d)]) S G fUnion.2 cd_union rfl (by have : recursionLimit = 1000 := rfl; omega) rfl
    (fun L => [("bit", L + 2), ("masks", L + 1)]) (fun L => [(L + 2, IsClE), (L + 1, IsCl (vR mk))]) (fun L p hp => ?_) (fun L => .cons (fun o ho => ⟨_, ho⟩) (.cons (fun o ho => ⟨_, ho, rfl⟩) .nil)) (fun L s₁ S₁ => ?_) (fun L => rfl) (fun L => by simp; decide) rfl (by exact (by decide : (["numbers"] : List Str).Nodup)) rfl rfl rfl rfl
  · obtain rfl := List.mem_singleton.mp hp
    exact ⟨_, rfl, rfl⟩
  simp only [List.cons_append, List.nil_append] at S₁
  (k_search "Z")
  refine cRange (by with_reducible assumption) (fun _ ga Sr => ?_)
  refine mkIter_range (n := 5) (m := 5) (by with_reducible assumption) hh (by (k_search "AT")) rfl (by omega) (fun I _ Sn Wn => ?_)
  have Sn' : St s₀ g _ ((I, ItR 5 0) :: (L, IsNs [("numbers", vR d), ("total", vI ((0 : Nat) : Int))]) :: (ga, IsRng 5) :: (L + 2, IsClE) :: (L + 1, IsCl (vR mk)) :: σ) := Sn
  refine for_onG Wn (Sn'.sub (σ' := (I, ItR 5 0) :: (L, IsNs [("numbers", vR d), ("total", vI ((0 : Nat) : Int))]) :: (L + 2, IsClE) :: (L + 1, IsCl (vR mk)) :: σ) (by (repeat' (first | (with_reducible exact List.Sublist.refl _) | (with_reducible exact List.Sublist.slnil) | (with_reducible refine List.Sublist.cons_cons _ ?_) | (with_reducible refine List.Sublist.cons _ ?_))))) (fun i _ l => ∃ T P, l = (L, IsNs [("numbers", vR d), ("total", vI ((T : Nat) : Int))]) :: (L + 2, P) :: (L + 1, IsCl (vR mk)) :: σ ∧ (∀ o, P o → IsClE o) ∧ UnP msk f i T)
    ⟨0, IsClE, rfl, fun _ h => h, .zero⟩ ?_ ?_
  · rintro i v g₁ σ₁ It' hi ⟨tv, rfl⟩ hg ⟨T, P, rfl, hP, hT⟩ Kf kn kb kr s₁ S₁
    have G₁ := G.mono hg
    have Y₁ := Y.mono hg
    have hp2 : 2 ^ i ≤ 16 := Nat.pow_le_pow_right (by decide) (show i ≤ 4 by omega)
    have hp0 : 0 < 2 ^ i := Nat.pow_pos (by decide)
    refine stC (c := L + 2) (P := vI i) S₁ rfl (by (k_search "UP")) hP ⟨_, rfl⟩ (fun s₂ S₂ => ?_) rfl rfl
    have S₃ := S₂.swap
    clear S₂ S₁
    (k_search "Z")
    refine comp_eval (s₀ := s₀) (L := L) ?_ rfl (by decide) rfl (by decide) rfl (fun _ => rfl)
    (k_search "Z")
    refine mkIter_dict S₃ hh (D.mono hg) hdm (fun I2 s₄ It2 S₄ W2 => ?_)
    rw [cst_len] at W2
    refine CompAt.intro W2 S₄ (fun j _ ys τ => (∃ zs : List Nat, IntsAre ys (zs.map (fun n : Nat => (n : Int))) ∧ (zs ≠ [] ↔ ∃ p ∈ f.take j, msk.getD p.1 0 / 2 ^ i % 2 = 1)) ∧ τ = (I, It') :: (L + 2, IsCl (vI i)) :: (L + 1, IsCl (vR mk)) :: σ) ⟨⟨[], .nil, by simp⟩, rfl⟩ (by omega) ?_ ?_
    · rintro C D' j v g₂ ys τ₁ It3 hj ⟨k, x, t, hk, rfl⟩ hg2 hl ⟨⟨zs, hz1, hz2⟩, rfl⟩
      have hp : cst f = f.map fun p => ((p.1 : Int), (p.2 : Int)) := rfl
      rw [hp, List.getElem?_map, List.getElem?_eq_getElem hj] at hk
      simp only [Option.map_some, Option.some.injEq, Prod.mk.injEq] at hk
      obtain ⟨rfl, rfl⟩ := hk
      have htk : f.take (j + 1) = f.take j ++ [f[j]] := List.take_succ_eq_append_getElem hj
      have hpm := hf f[j].1 (List.mem_map_of_mem (List.getElem_mem hj))
      refine ⟨vI (f[j].1 : Nat), ⟨_, rfl⟩, fun s₅ S₅ => TurnC.of1 fun Kc Nc kn kk => ?_⟩
      have G₂ := G₁.mono hg2
      have Y₂ := Y₁.mono hg2
      (k_search "Z")
      refine if_eq1 (fun h1 => ?_) (fun h1 => ?_)
      · (k_search "Z")
        refine kn _ _ ⟨g₂, _, _, Sub.rfl', by assumption, ⟨zs ++ [f[j].1], intsN_append hz1 _ _, ?_⟩, rfl⟩
        rw [htk]
        exact ⟨fun _ => ⟨f[j], List.mem_append_right _ (List.mem_singleton_self _), h1⟩, fun _ => by simp⟩
      · refine kk _ ⟨g₂, _, _, Sub.rfl', by assumption, ⟨zs, hz1, ?_⟩, rfl⟩
        rw [htk, hz2]
        constructor
        · exact fun ⟨p, a, b⟩ => ⟨p, List.mem_append_left _ a, b⟩
        · rintro ⟨p, a, b⟩
          rcases List.mem_append.mp a with a | a
          · exact ⟨p, a, b⟩
          · rw [List.mem_singleton] at a; subst a; exact absurd b h1
    · rintro D' g₂ ys τ₁ s₅ hg2 ⟨⟨zs, hz1, hz2⟩, rfl⟩ hl S₅
      rw [List.take_of_length_le (by omega)] at hz2
      have G₂ := G₁.mono hg2
      (k_search "Z")
      refine mkL (P := fun vs => vs = []) (by with_reducible assumption) rfl (by rw [sizeLine_eq]; simp) (fun s₆ e₆ S₆ => ?_)
      refine neNil (P := fun vs => vs = ys) (S₆.get (by (k_search "MM"))) (S₆.get (by (k_search "MM"))) (by show A.units + 3 < cLine; have : cLine = 9900 := rfl; omega) (fun Z => ?_) (fun Z => ?_)
      · have hn : ¬ ∃ p ∈ f, msk.getD p.1 0 / 2 ^ i % 2 = 1 := by
          obtain ⟨vs, _, ⟨h1, h2⟩, _⟩ := isL_of Z
          subst h1; subst h2
          rw [← hz2]
          have := lenN hz1
          intro q
          exact q (List.length_eq_zero_iff.mp this.symm)
        (k_search "Z")
        exact kn _ _ (by first | exact .inl rfl | exact .inr rfl) ⟨g₂, _, hg2, (S₆.sub (σ' := (L, IsNs [("numbers", vR d), ("total", vI ((T : Nat) : Int))]) :: (I, It') :: (L + 2, IsCl (vI i)) :: (L + 1, IsCl (vR mk)) :: σ) (by (repeat' (first | (with_reducible exact List.Sublist.refl _) | (with_reducible exact List.Sublist.slnil) | (with_reducible refine List.Sublist.cons_cons _ ?_) | (with_reducible refine List.Sublist.cons _ ?_))))).swap, T, _, rfl, IsCl.any, hT.skip hn⟩
      · have hn : ∃ p ∈ f, msk.getD p.1 0 / 2 ^ i % 2 = 1 := by
          obtain ⟨vs, _, ⟨h1, h2⟩, _⟩ := isL_of Z
          subst h1
          rw [← hz2]
          intro q; subst q
          cases hz1
          exact h2 rfl
        have S₇ := S₆.sub (σ' := (L, IsNs [("numbers", vR d), ("total", vI ((T : Nat) : Int))]) :: (I, It') :: (L + 2, IsCl (vI i)) :: (L + 1, IsCl (vR mk)) :: σ) (by (repeat' (first | (with_reducible exact List.Sublist.refl _) | (with_reducible exact List.Sublist.slnil) | (with_reducible refine List.Sublist.cons_cons _ ?_) | (with_reducible refine List.Sublist.cons _ ?_))))
        clear S₆ S₅ Z
        (k_search "Z")
        exact kn _ _ (by first | exact .inl rfl | exact .inr rfl) ⟨g₂, _, hg2, St.swap (by assumption), T + 2 ^ i, _, rfl, IsCl.any, hT.add hn⟩
  · rintro g₁ σ₁ s₁ hg ⟨T, P, rfl, hP, hT⟩ S₁
    (k_search "Z")
    exact h _ _ _ ((S₁.base hg).sub (by (repeat' (first | (with_reducible exact List.Sublist.refl _) | (with_reducible exact List.Sublist.slnil) | (with_reducible refine List.Sublist.cons_cons _ ?_) | (with_reducible refine List.Sublist.cons _ ?_))))) hT
end
def kq (q : List Ent) : List (Int × Int) := q.map fun e => ((e.1 : Int), e.2.1)
theorem kq_mem {q : List Ent} {x : Nat} : ((x : Nat) : Int) ∈ (kq q).map (·.1) ↔ x ∈ nodes q := by
  unfold kq
  rw [List.map_map, List.mem_map, List.mem_map]
  exact ⟨fun ⟨p, h1, h2⟩ => ⟨p, h1, Int.ofNat.inj h2⟩, fun ⟨p, h1, h2⟩ => ⟨p, h1, congrArg Int.ofNat h2⟩⟩
theorem kq_snoc {q : List Ent} {x : Nat} {p : Int} {d : Nat} : kq (q ++ [(x, p, d)]) = kq q ++ [((x : Int), p)] := by unfold kq; simp
theorem kq_len {q : List Ent} : (kq q).length = q.length := by unfold kq; simp
theorem nodes_snoc {q : List Ent} {x : Nat} {p : Int} {d : Nat} : nodes (q ++ [(x, p, d)]) = nodes q ++ [x] := by simp [nodes]
theorem kq_at {q : List Ent} {i : Nat} (h : i < q.length) : (kq q)[i]? = some (((nq q i : Nat) : Int), pq q i) := by
  unfold kq
  rw [List.getElem?_map, List.getElem?_eq_getElem h]
  simp [nq, pq, List.getD_eq_getElem?_getD, h]
abbrev chM (b rl mk : Addr) (bit : Nat) (pd la : Addr) : List (Str × Vp) := [("begins", vR b), ("relation", vR rl), ("masks", vR mk), ("terminal", vI bit), ("parents", vR pd), ("line", vR la)]
abbrev chN (b rl mk : Addr) (bit : Nat) (pd la : Addr) (a : Nat) : List (Str × Vp) := [("begins", vR b), ("relation", vR rl), ("masks", vR mk), ("terminal", vI bit), ("parents", vR pd), ("line", vR la), ("at", vI a)]
abbrev chO (b rl mk : Addr) (bit : Nat) (pd la : Addr) (a x : Nat) : List (Str × Vp) := [("begins", vR b), ("relation", vR rl), ("masks", vR mk), ("terminal", vI bit), ("parents", vR pd), ("line", vR la), ("at", vI a), ("x", vI x)]
abbrev chQ (b rl mk : Addr) (bit : Nat) (pd la ca : Addr) : List (Str × Vp) := [("begins", vR b), ("relation", vR rl), ("masks", vR mk), ("terminal", vI bit), ("parents", vR pd), ("line", vR la), ("chain", vR ca)]
theorem intsAre_rev {vs : List Value} {ys : List Int} (h : IntsAre vs ys) : IntsAre vs.reverse ys.reverse := by
  induction h with
  | nil => exact .nil
  | cons n t _ ih => rw [List.reverse_cons, List.reverse_cons]; exact intsAre_append ih (.cons _ _ .nil)
section
variable {prog : Program} {w : World} {A : Around} {E : Value → Shared → Prop} {s₀ s : Shared} {g : Heap} {σ : Led} {R : Result → Shared → Prop}
theorem itLastN {value slice : Expr} {a : Addr} {ch : List Nat} {u : Tok} {Q : Value → Shared → Prop} (X : At s.heap a (LN ch)) (h0 : 0 < ch.length) (hf : ch.length < 2 ^ 60) (h : ∀ t, Q (.int ((ch.getD (ch.length - 1) 0 : Nat) : Int) t) s)
    (hs : subscripted slice false (.ref a) (.int (-1) u) = operate [.ref a, .int (-1) u] (getItem (.ref a) (.int (-1) u)) := by with_unfolding_all rfl) :
    wpAny (model prog w) A (subscriptTail value slice (.ref a) (.int (-1) u)) Q E s := by
  obtain ⟨vs, n, hi, ho⟩ := isL_of X
  have hl := lenN hi
  obtain ⟨t, ht⟩ := IntsAre.get hi (ch.length - 1) _ (ints_ofN hi (by omega))
  refine itV_neg (v := .int ((ch.getD (ch.length - 1) 0 : Nat) : Int) t) (P := fun us => us = vs) ⟨_, ho, vs, n, rfl, rfl⟩ (fun us e => ?_) (h t) hs
  subst e
  refine ⟨by decide, by omega, by decide, ?_⟩
  rw [show ((-1 : Int) + us.length).toNat = ch.length - 1 by omega]
  exact ht
theorem led_ne {x : Addr × Pd} {a c : Addr} {P P' : Pd} {r : Led} (S : St s₀ g s (x :: (a, P) :: (c, P') :: r)) : c ≠ a := by
  have := S.nd
  simp only [List.map_cons, List.nodup_cons, List.mem_cons, not_or] at this
  exact fun e => this.2.1.1 e.symm
theorem chain_spec {b rl mk : Addr} {rows : List (List Nat)} {bs msk : List Nat} {n bit : Nat} {t : Tok} (S : St s₀ g s σ) (G : Gd w g) (hh : A.handled = none) (hd : A.depth < 890) (hr : RelOk rows n) (X : RowsAt g rl rows) (Y : At g b (LN bs)) (M : At g mk (LN msk))
    (hB : ∀ x ∈ bs, x < n) (hm : msk.length = n) (hbl : bs.length ≤ 2 ^ 19)
    (h1 : ∀ s', St s₀ g s' σ → (∀ y k, RD rows bs k y → ¬ bt msk bit y) → R (.ok (.ret .none)) s')
    (h2 : ∀ s' g' t ch, Sub g g' → St s₀ g' s' σ → At g' t (TI (ch.map (fun n : Nat => (n : Int)))) → ChFin rows bs msk bit ch → ch.length ≤ 2000 → R (.ok (.ret (.ref t))) s') :
    codeAny (model prog w) A (.call (.ref 40) ⟨[.ref b, .ref rl, .ref mk, .int bit t], []⟩) R s := by
  have hn := hr.small
  have hlen := hr.len
  refine call_fn (binds := [("begins", .ref b), ("relation", .ref rl), ("masks", .ref mk), ("terminal", .int bit t)]) (ms := [("begins", vR b), ("relation", vR rl), ("masks", vR mk), ("terminal", vI bit)]) S G fChain.2 cd_chain rfl (by have : recursionLimit = 1000 := rfl; omega) rfl (.cons rfl (.cons rfl (.cons rfl (.cons ⟨_, rfl⟩ .nil)))) (fun L s₁ S₁ => ?_) (by decide) rfl (by exact (by decide : (["begins", "relation", "masks", "terminal"] : List Str).Nodup)) rfl rfl rfl
  (k_search "Z")
  refine mkD (by with_reducible assumption) (by with_reducible assumption) (fun _ pd hdm _ => ?_)
  (k_search "Z")
  refine mkL (P := fun vs => IntsAre vs (([] : List Nat).map (fun n : Nat => (n : Int)))) (by with_reducible assumption) .nil (by rw [sizeLine_eq]; simp) (fun _ la _ => ?_)
  (k_search "Z")
  rename_i S₂
  have S₃ : St s₀ g _ ((L, IsNs (chM b rl mk bit pd la)) :: (la, LN (nodes [])) :: (pd, DI prog w (kq [])) :: σ) := S₂
  clear S₂
  refine mkIter_list S₃ hh Y (fun I s' vs hvs S' W => ?_)
  have hbs := lenN hvs
  refine for_on W S' (fun i g' m l => ∃ q, g' = g ∧ m = chM b rl mk bit pd la ∧ l = (la, LN (nodes q)) :: (pd, DI prog w (kq q)) :: σ ∧ BI bs n q (bs.take i)) ⟨[], rfl, rfl, rfl, .init⟩ ?_ ?_ rfl rfl rfl
  · rintro i v g₁ ms₁ σ₁ It' hi hv hg ⟨q, rfl, rfl, rfl, hI⟩ Kf kn kb kr
    obtain ⟨t, ht⟩ := IntsAre.get hvs i _ (ints_ofN hvs hi)
    rw [ht] at hv
    cases hv
    have hxB : bs.getD i 0 ∈ bs := gmem (show i < bs.length by omega)
    have hxn := hB _ hxB
    have htk : bs.take (i + 1) = bs.take i ++ [bs.getD i 0] := take_snoc (by omega)
    rw [htk] at kn
    generalize bs.getD i 0 = x at *
    refine ⟨vI x, _, by (k_search "SL"), ⟨_, rfl⟩, fun s₁ S₁ => ?_⟩
    (k_search "Z")
    refine dNotIn (by with_reducible assumption) (by (k_search "AT")) hdm (fun _ _ => ?_)
    (k_search "Z")
    refine if_any (fun hc => ?_) (fun hc => ?_)
    · have hx : x ∉ nodes q := fun e => by simp [kq_mem.mpr e] at hc
      have hq := len_lt hI.nd hI.lt hx hxn
      have hq2 : (nodes q).length ≤ 1000 := by simp; omega
      (k_search "Z")
      refine dSet (x := -1) (by with_reducible assumption) (by (k_search "UP")) (fun e => hx (kq_mem.mp e)) (by rw [kq_len]; omega) (fun _ _ => ?_)
      (k_search "Z")
      rename_i S₅
      have S₆ : St s₀ g₁ _ ((L, IsNs (chM b rl mk bit pd la ++ [_])) :: (I, It') :: (la, LN (nodes q ++ [x])) :: (pd, DI prog w (kq q ++ [((x : Int), -1)])) :: σ) := S₅
      rw [← kq_snoc (d := 0), ← nodes_snoc (p := -1) (d := 0)] at S₆
      exact kn _ _ (by first | exact .inl rfl | exact .inr rfl) ⟨g₁, _, _, Sub.rfl', S₆.sub' (List.sublist_append_left _ _) (List.Sublist.refl _), _, rfl, rfl, rfl, hI.add hx hxB hxn⟩
    · have hx : x ∈ nodes q := by
        rw [← kq_mem]
        exact Classical.byContradiction fun e => hc (by simp [e])
      (k_search "Z")
      exact kn _ _ (by first | exact .inl rfl | exact .inr rfl) ⟨g₁, _, _, Sub.rfl', St.ns (ms' := chM b rl mk bit pd la) (by assumption) (by (repeat' (first | (with_reducible exact List.Sublist.refl _) | (with_reducible exact List.Sublist.slnil) | (with_reducible refine List.Sublist.cons_cons _ ?_) | (with_reducible refine List.Sublist.cons _ ?_)))), _, rfl, rfl, rfl, hI.skip hx⟩
  · rintro g₁ ms₁ σ₁ s₁ hg ⟨q, rfl, rfl, rfl, hI⟩ S₁
    rw [List.take_of_length_le (by omega)] at hI
    (k_search "Z")
    rename_i S₂
    have S₃ : St s₀ g₁ _ ((L, IsNs (chN b rl mk bit pd la 0)) :: (la, LN (nodes q)) :: (pd, DI prog w (kq q)) :: σ) := S₂
    clear S₂ S₁ S' W
    have hC : CI rows bs n msk bit q 0 0 [] := hI.ci
    clear hI
    refine while_inv (fun k s' => ∃ q a, St s₀ g₁ s' ((L, IsNs (chN b rl mk bit pd la a)) :: (la, LN (nodes q)) :: (pd, DI prog w (kq q)) :: σ) ∧ CI rows bs n msk bit q a a [] ∧ k = n - a) _ ⟨q, 0, S₃, hC, rfl⟩ ?_
    clear S₃ hC
    rintro k s₂ ⟨q, a, S₂, hC, rfl⟩ Kw Xw kn kb kr kx
    have hql := len_le hC.nd hC.lt
    have hq2 : (nodes q).length ≤ 1000 := by simp; omega
    have hq3 : (nodes q).length = q.length := by simp
    (k_search "Z")
    refine if_lt (fun ha => ?_) (fun ha => ?_)
    · rw [hq3] at ha
      have hxn : nq q a < n := hC.lt _ (nodes_mem ha)
      (k_search "Z")
      have hne := nodes_get ha
      generalize hxx : (nodes q).getD a 0 = xx at *
      rw [← hne] at hxn
      have hxe : nq q a = xx := hne.symm
      have hxm : xx < msk.length := by omega
      (k_search "Z")
      refine if_eq1 (fun hb => ?_) (fun hb => ?_)
      · have hb' : bt msk bit (nq q a) := by rw [hxe]; exact hb
        (k_search "Z")
        refine mkL (P := fun vs => IntsAre vs (([nq q a] : List Nat).map (fun n : Nat => (n : Int)))) (by with_reducible assumption) (by rw [hxe]; exact .cons _ _ .nil) (by rw [sizeLine_eq]; simp) (fun _ ca _ => ?_)
        (k_search "Z")
        rename_i S₅
        have S₆ := S₅.sub' (ms' := chQ b rl mk bit pd la ca) (σ' := (ca, LN [nq q a]) :: (la, LN (nodes q)) :: (pd, DI prog w (kq q)) :: σ) (by (repeat' (first | (with_reducible exact List.Sublist.refl _) | (with_reducible exact List.Sublist.slnil) | (with_reducible refine List.Sublist.cons_cons _ ?_) | (with_reducible refine List.Sublist.cons _ ?_)))) (by (repeat' (first | (with_reducible exact List.Sublist.refl _) | (with_reducible exact List.Sublist.slnil) | (with_reducible refine List.Sublist.cons_cons _ ?_) | (with_reducible refine List.Sublist.cons _ ?_))))
        refine while_inv (fun k s' => ∃ ch i, St s₀ g₁ s' ((L, IsNs (chQ b rl mk bit pd la ca)) :: (ca, LN ch) :: (la, LN (nodes q)) :: (pd, DI prog w (kq q)) :: σ) ∧ WB rows q a ch i ∧ k = lq q i) _ ⟨_, a, S₆, .init ha, rfl⟩ ?_
        clear S₆ S₅
        rintro k s₃ ⟨ch, i, S₇, hW, rfl⟩ Kv Xv kn2 kb2 kr2 kx2
        have hch0 := hW.ne
        have hchl := hW.len
        have hil := hW.il
        have hlst := hW.lst
        have hlan : lq q a ≤ 1000 := by
          have := hC.lab a ha
          omega
        have hat := kq_at hil
        (k_search "Z")
        refine itLastN (by (k_search "AT")) hch0 (by omega) (fun _ => ?_)
        rw [hlst]
        rcases hC.par i hil with ⟨p1, p2, p3⟩ | ⟨j, j1, j2, j3, j4⟩
        · rw [p1] at hat
          refine dGet (by with_reducible assumption) (by (k_search "AT")) hat (fun _ _ _ => ?_) (by with_unfolding_all rfl)
          (k_search "Z")
          refine if_any (fun hc => absurd hc (by decide)) (fun _ => kx2 _ ?_)
          (k_search "Z")
          refine cReversed (P := fun vs => IntsAre vs (ch.map (fun n : Nat => (n : Int)))) (by with_reducible assumption) (by (k_search "AT")) (fun vs hv => lenN hv) (fun _ ra S₈ => ?_)
          (k_search "Z")
          refine cTupleRev (P := fun vs => IntsAre vs (ch.map (fun n : Nat => (n : Int)))) S₈ hh (S₈.get (by (k_search "MM"))) (fun vs hv => lenN hv) (by omega) (led_ne S₈) (fun s₉ ta S₉ => ?_)
          (k_search "Z")
          obtain ⟨g₂, k₂, S₁₀, hA, _⟩ := St.freeze (σ₁ := σ) (σ₂ := [(ta, IsTpl fun us => ∃ vs, IntsAre vs (ch.map (fun n : Nat => (n : Int))) ∧ us = vs.reverse)]) ((S₉.sub (σ' := (ta, IsTpl fun us => ∃ vs, IntsAre vs (ch.map (fun n : Nat => (n : Int))) ∧ us = vs.reverse) :: σ) (by (repeat' (first | (with_reducible exact List.Sublist.refl _) | (with_reducible exact List.Sublist.slnil) | (with_reducible refine List.Sublist.cons_cons _ ?_) | (with_reducible refine List.Sublist.cons _ ?_))))).perm (List.perm_append_singleton _ _))
          refine kr _ _ ?_
          exact h2 _ g₂ ta ch.reverse k₂ S₁₀ ((hA _ (.head _)).imp fun o ⟨us, k, ⟨vs, h3, e⟩, ho⟩ => ⟨us, k, by rw [e, List.map_reverse]; exact intsAre_rev h3, ho⟩) (hW.fin hC ha hb' p1) (by rw [List.length_reverse]; omega)
        · rw [j2] at hat
          refine dGet (by with_reducible assumption) (by (k_search "AT")) hat (fun _ _ _ => ?_) (by with_unfolding_all rfl)
          (k_search "Z")
          refine if_any (fun _ => ?_) (fun hc => absurd (by simp) hc)
          (k_search "Z")
          refine itLastN (by (k_search "AT")) hch0 (by omega) (fun _ => ?_)
          rw [hlst]
          refine dGet (by with_reducible assumption) (by (k_search "AT")) hat (fun _ _ _ => ?_) (by with_unfolding_all rfl)
          (k_search "Z")
          exact kn2 _ _ (by first | exact .inl rfl | exact .inr rfl) ⟨lq q j, by omega, ch ++ [nq q j], j, by assumption, hW.step (by omega) j3 j4, rfl⟩
      · have hb' : ¬ bt msk bit (nq q a) := by rw [hxe]; exact hb
        (k_search "Z")
        rename_i rb hrb
        refine mkIter_list (P := fun vs => IntsAre vs ((rows.getD xx []).map (fun n : Nat => (n : Int)))) (by with_reducible assumption) hh hrb (fun I s' vs hvs S' W => ?_)
        have hrl := lenN hvs
        have hC1 := hC.look ha hb'
        have hrw := hr.rows xx
        refine for_on W (S'.sub (σ' := (I, ItL rb 0) :: (L, IsNs (chO b rl mk bit pd la (a + 1) xx)) :: (la, LN (nodes q)) :: (pd, DI prog w (kq q)) :: σ) (by (repeat' (first | (with_reducible exact List.Sublist.refl _) | (with_reducible exact List.Sublist.slnil) | (with_reducible refine List.Sublist.cons_cons _ ?_) | (with_reducible refine List.Sublist.cons _ ?_))))) (fun i g' m l => ∃ q, g' = g₁ ∧ m = chO b rl mk bit pd la (a + 1) xx ∧ l = (la, LN (nodes q)) :: (pd, DI prog w (kq q)) :: σ ∧ CI rows bs n msk bit q (a + 1) a ((rows.getD xx []).take i) ∧ nq q a = xx ∧ a < q.length)
          ⟨q, rfl, rfl, rfl, hC1, hxe, ha⟩ ?_ ?_ rfl rfl rfl
        · clear S' hC1 hC hne hxn ha hb' hxe hq2 hq3 hql
          rintro i v g₂ ms₁ σ₁ It' hi hv hg ⟨q, rfl, rfl, rfl, hI, hqa, ha⟩ Kf knf kbf krf
          obtain ⟨t, ht⟩ := IntsAre.get hvs i _ (ints_ofN hvs hi)
          rw [ht] at hv
          cases hv
          have hyr : (rows.getD xx []).getD i 0 ∈ rows.getD xx [] := gmem (by omega)
          have hyn := hr.mem hyr
          have htk : (rows.getD xx []).take (i + 1) = (rows.getD xx []).take i ++ [(rows.getD xx []).getD i 0] := take_snoc (by omega)
          rw [htk] at knf
          generalize (rows.getD xx []).getD i 0 = y at *
          refine ⟨vI y, _, by (k_search "SL"), ⟨_, rfl⟩, fun s₁ S₁ => ?_⟩
          have hql := len_le hI.nd hI.lt
          (k_search "Z")
          refine dNotIn (by with_reducible assumption) (by (k_search "AT")) hdm (fun _ _ => ?_)
          (k_search "Z")
          refine if_any (fun hc => ?_) (fun hc => ?_)
          · have hx : y ∉ nodes q := fun e => by simp [kq_mem.mpr e] at hc
            have hq2 : (nodes q).length ≤ 1000 := by simp; omega
            (k_search "Z")
            refine dSet (x := ((xx : Nat) : Int)) (by with_reducible assumption) (by (k_search "UP")) (fun e => hx (kq_mem.mp e)) (by rw [kq_len]; omega) (fun _ _ => ?_)
            (k_search "Z")
            rename_i S₅
            have S₆ : St s₀ g₂ _ ((L, IsNs (chO b rl mk bit pd la (a + 1) xx ++ [_])) :: (I, It') :: (la, LN (nodes q ++ [y])) :: (pd, DI prog w (kq q ++ [((y : Int), ((xx : Nat) : Int))])) :: σ) := S₅
            rw [← kq_snoc (d := lq q a + 1), ← nodes_snoc (p := ((xx : Nat) : Int)) (d := lq q a + 1)] at S₆
            have hI2 := hI.add ha hx hyn (by rw [hqa]; exact hyr)
            rw [hqa] at hI2
            exact knf _ _ (by first | exact .inl rfl | exact .inr rfl) ⟨g₂, _, _, Sub.rfl', S₆.sub' (List.sublist_append_left _ _) (List.Sublist.refl _), _, rfl, rfl, rfl, hI2, by simp only [nq, gapp ha]; exact hqa, by simp; omega⟩
          · have hx : y ∈ nodes q := by
              rw [← kq_mem]
              exact Classical.byContradiction fun e => hc (by simp [e])
            (k_search "Z")
            exact knf _ _ (by first | exact .inl rfl | exact .inr rfl) ⟨g₂, _, _, Sub.rfl', St.ns (ms' := chO b rl mk bit pd la (a + 1) xx) (by assumption) (by (repeat' (first | (with_reducible exact List.Sublist.refl _) | (with_reducible exact List.Sublist.slnil) | (with_reducible refine List.Sublist.cons_cons _ ?_) | (with_reducible refine List.Sublist.cons _ ?_)))), _, rfl, rfl, rfl, hI.skip ha hx, hqa, ha⟩
        · clear S' hC1 hC hne hxn hb' hxe hq2 hq3
          rintro g₂ ms₁ σ₁ s₁ hg ⟨q', rfl, rfl, rfl, hI, hqa, ha'⟩ S₁
          rw [List.take_of_length_le (by omega), ← hqa] at hI
          (k_search "Z")
          exact kn _ _ (by first | exact .inl rfl | exact .inr rfl) ⟨n - (a + 1), by omega, q', a + 1, S₁.ns (ms' := chN b rl mk bit pd la (a + 1)) (by (repeat' (first | (with_reducible exact List.Sublist.refl _) | (with_reducible exact List.Sublist.slnil) | (with_reducible refine List.Sublist.cons_cons _ ?_) | (with_reducible refine List.Sublist.cons _ ?_)))), hI.next ha', rfl⟩
    · rw [hq3] at ha
      refine kx _ ?_
      (k_search "Z")
      exact h1 _ (St.sub (by assumption) (by (repeat' (first | (with_reducible exact List.Sublist.refl _) | (with_reducible exact List.Sublist.slnil) | (with_reducible refine List.Sublist.cons_cons _ ?_) | (with_reducible refine List.Sublist.cons _ ?_))))) fun y k hy => hC.none ha hy
end
abbrev rcL (L p rl mk : Addr) (P4 P5 P6 P7 : Pd) (σ : Led) : Led := (L + 7, P7) :: (L + 6, P6) :: (L + 5, P5) :: (L + 4, P4) :: (L + 3, IsCl (vR mk)) :: (L + 2, IsCl (vR rl)) :: (L + 1, IsCl (vR p)) :: σ
section
variable {prog : Program} {w : World} {A : Around} {E : Value → Shared → Prop} {s₀ s : Shared} {g : Heap} {σ : Led} {R : Result → Shared → Prop}
theorem cLenRows {a : Addr} {rows : List (List Nat)} {Q : Value → Shared → Prop} (S : St s₀ g s σ) (X : RowsAt g a rows) (hf : rows.length < 2 ^ 60) (h : ∀ s' t, St s₀ g s' σ → Q (.int (rows.length : Nat) t) s') :
    wpAny (model prog w) A (call (.builtin "len") [.ref a]) Q E s := by
  obtain ⟨as, X1, X2, X3⟩ := X
  refine cLenR S (X1.mono S.keep) (by omega) ?_
  rw [X2]; exact h
theorem right_spec {p q rl mk : Addr} {rows : List (List Nat)} {msk : List Nat} (S : St s₀ g s σ) (G : Gd w g) (hh : A.handled = none) (hd : A.depth < 700) (hu : A.units < 8000) (hp : (p, PT q) ∈ σ) (hq : (q, LIe) ∈ σ)
    (X : RowsAt g rl rows) (M : At g mk (LN msk)) (hW : WorldOk rows msk) (h : ∀ s' g', Sub g g' → St s₀ g' s' σ → R (.ok (.ret (.bool true))) s') :
    codeAny (model prog w) A (.call (.ref 81) ⟨[.ref p, .ref rl, .ref mk], []⟩) R s := by
  have hn1 := hW.pos
  have hn9 := hW.le
  have hr := hW.rel
  have hml := hW.len
  refine call_cl (binds := [("pen", .ref p), ("rows", .ref rl), ("masks", .ref mk)]) (ms := []) S G fRight.2 cd_right rfl (by have : recursionLimit = 1000 := rfl; omega) rfl
    (fun L => [("taken", L + 7), ("steps", L + 6), ("bit", L + 5), ("many", L + 4), ("masks", L + 3), ("rows", L + 2), ("pen", L + 1)]) (fun L => rcL L p rl mk IsClE IsClE IsClE IsClE []) (fun L p hp => nomatch hp)
    (fun L => .cons (fun o ho => ⟨_, ho⟩) (.cons (fun o ho => ⟨_, ho⟩) (.cons (fun o ho => ⟨_, ho⟩) (.cons (fun o ho => ⟨_, ho⟩) (.cons (fun o ho => ⟨_, ho, rfl⟩) (.cons (fun o ho => ⟨_, ho, rfl⟩) (.cons (fun o ho => ⟨_, ho, rfl⟩) .nil))))))) (fun L s₁ S₁ => ?_) (fun L => rfl) (fun L => by exact (by decide : (["taken", "steps", "bit", "many", "masks", "rows", "pen"] : List Str).Nodup)) rfl (by exact .nil) rfl rfl rfl rfl
  have S₂ : St s₀ g s₁ ((L, IsNs []) :: rcL L p rl mk IsClE IsClE IsClE IsClE σ) := S₁
  clear S₁
  (k_search "Z")
  refine cLenRows (by with_reducible assumption) X (by omega) (fun _ _ _ => ?_)
  (k_search "Z")
  refine draw_spec (m := 5) (by with_reducible assumption) (by with_reducible assumption) hh (by show A.depth + 1 < 890; omega) (by show A.units + 3 < 9000; omega) (by (k_search "MM")) (by (k_search "MM")) (by omega) (by omega) (fun _ bit t₁ hbit _ => ?_)
  (k_search "Z")
  refine mkT (P := fun us => us = [_, _]) (by with_reducible assumption) rfl (by rw [sizeLine_eq]; simp) (fun _ ta Tt => ?_)
  (k_search "Z")
  refine asgN2 (by with_reducible assumption) (Tt.get (by (k_search "MM"))) hh (fun _ _ => ?_)
  (k_search "Z")
  rename_i S₃
  have S₄ : St s₀ g _ ((L, IsNs []) :: (ta, IsTpl _) :: rcL L p rl mk (IsCl (vI rows.length)) (IsCl (vI bit)) IsClE IsClE σ) := S₃
  have S₅ := S₄.sub' (ms' := []) (σ' := rcL L p rl mk (IsCl (vI rows.length)) (IsCl (vI bit)) IsClE IsClE σ) (List.Sublist.refl _) (List.sublist_cons_self _ _)
  clear S₃ S₄ S₂ Tt
  refine comp_assign (s₀ := s₀) (L := L) ?_ rfl rfl (by decide) rfl (by decide) rfl (fun _ => rfl) rfl rfl rfl
  (k_search "Z")
  refine mkL (P := fun vs => IntsAre vs (([1, 2, 0, 3] : List Nat).map (fun n : Nat => (n : Int)))) (by with_reducible assumption) (.cons _ _ (.cons _ _ (.cons _ _ (.cons _ _ .nil)))) (by rw [sizeLine_eq]; simp) (fun _ b _ => ?_)
  (k_search "Z")
  refine pick_spec (ns := [1, 2, 0, 3]) (by with_reducible assumption) (by with_reducible assumption) hh (by show A.depth + 1 < 880; omega) (by show A.units + 3 < 8900; omega) (by (k_search "MM")) (by (k_search "MM")) (by (k_search "MM")) (by decide) (by decide) (fun _ k tk hk _ => ?_)
  have hk3 : k ≤ 3 := by simp only [List.mem_cons, List.not_mem_nil, or_false] at hk; omega
  (k_search "Z")
  refine cRange (by with_reducible assumption) (fun _ gb Sr => ?_)
  refine mkIter_range (n := k) (by with_reducible assumption) hh (by (k_search "AT")) rfl (by omega) (fun I3 _ Sn3 Wn3 => ?_)
  have Sn3' := Sn3.sub (σ' := (I3, ItR k 0) :: (L, IsNs []) :: rcL L p rl mk (IsCl (vI rows.length)) (IsCl (vI bit)) IsClE IsClE σ) (by (repeat' (first | (with_reducible exact List.Sublist.refl _) | (with_reducible exact List.Sublist.slnil) | (with_reducible refine List.Sublist.cons_cons _ ?_) | (with_reducible refine List.Sublist.cons _ ?_))))
  clear S₅ Sr Sn3
  refine CompAt.intro Wn3 Sn3' (fun i _ ys τ => (∃ zs : List Nat, IntsAre ys (zs.map (fun n : Nat => (n : Int))) ∧ zs.length = i ∧ ∀ y ∈ zs, y < rows.length) ∧ τ = rcL L p rl mk (IsCl (vI rows.length)) (IsCl (vI bit)) IsClE IsClE σ) ⟨⟨[], .nil, rfl, fun y hy => nomatch hy⟩, rfl⟩ (by omega) ?_ ?_
  · rintro C3 D3 i3 v3 g₃ ys3 τ₃ It3 hi3 ⟨tv3, rfl⟩ hg3 hl3 ⟨⟨zs, hz1, hz2, hz3⟩, rfl⟩
    refine ⟨vI i3, ⟨_, rfl⟩, fun s₁ S₁ => TurnC.of0 fun Kc kn => ?_⟩
    have G₃ := G.mono hg3
    (k_search "Z")
    refine draw_spec (m := rows.length) (by with_reducible assumption) (by with_reducible assumption) hh (by show A.depth + 1 < 890; omega) (by show A.units + 3 < 9000; omega) (by (k_search "MM")) (by (k_search "MM")) (by omega) (by omega) (fun _ v t hv _ => ?_)
    exact kn _ _ ⟨g₃, _, _, Sub.rfl', by assumption, ⟨zs ++ [v], intsN_append hz1 _ _, by simp [hz2], fun y hy => (List.mem_append.mp hy).elim (hz3 y) fun e => by rw [List.mem_singleton] at e; omega⟩, rfl⟩
  rintro D3 g₃ ys3 τ₃ s₃ hg3 ⟨⟨bs, hz1, hz2, hz3⟩, rfl⟩ hl3 S₃
  refine ⟨_, .new, fun s₄ S₄ => ?_⟩
  clear S₃ Sn3'
  obtain ⟨g₄, k₄, S₅, hA₄⟩ := freeze1 S₄
  have Y₄ : At g₄ D3 (LN bs) := hA₄.imp fun o ⟨vs, k, e, ho⟩ => ⟨vs, k, e ▸ hz1, ho⟩
  have k₅ := hg3.tr k₄
  clear S₄ hA₄ hg3 k₄ hz1 hl3
  generalize D3 = bb at *
  have G₄ := G.mono k₅
  have X₄ := X.mono k₅
  have M₄ := M.mono k₅
  (k_search "Z")
  refine levels_spec (rows := rows) (bs := bs) (by with_reducible assumption) (by with_reducible assumption) hh (by show A.depth + 1 < 890; omega) (by show A.units + 3 < 9000; omega) hr X₄ Y₄ hz3 (by omega) (fun s₆ g₆ d f k₆ S₆ hdm D₆ hf => ?_)
  have G₆ := G₄.mono k₆
  have X₆ := X₄.mono k₆
  have M₆ := M₄.mono k₆
  have Y₆ := Y₄.mono k₆
  (k_search "Z")
  rename_i S₇
  have S₈ : St s₀ g₆ _ ((L, IsNs [("begins", vR bb)]) :: rcL L p rl mk (IsCl (vI rows.length)) (IsCl (vI bit)) (IsCl (vR d)) IsClE σ) := S₇
  clear S₇ S₆ S₅
  refine comp_assign (s₀ := s₀) (L := L) ?_ rfl rfl (by decide) rfl (by decide) rfl (fun _ => rfl) rfl rfl rfl
  (k_search "Z")
  refine mkIter_dict S₈ hh D₆ hdm (fun I2 s₄ It2 S₄ W2 => ?_)
  rw [cst_len] at W2
  have hfn : f.length ≤ rows.length := by
    have := nodup_len hf.nd hf.lt
    simpa using this
  have hp2 : 2 ^ bit ≤ 16 := Nat.pow_le_pow_right (by decide) (show bit ≤ 4 by omega)
  have hp0 : 0 < 2 ^ bit := Nat.pow_pos (by decide)
  refine CompAt.intro W2 S₄ (fun j _ ys τ => IntsAre ys ((((f.take j).filter fun p => decide (bt msk bit p.1)).map (·.2)).map (fun n : Nat => (n : Int))) ∧ τ = rcL L p rl mk (IsCl (vI rows.length)) (IsCl (vI bit)) (IsCl (vR d)) IsClE σ) ⟨.nil, rfl⟩ (by omega) ?_ ?_
  · rintro C D' j v g₇ ys τ₁ It3 hj ⟨k, x, t, hk, rfl⟩ hg7 hl ⟨hy, rfl⟩
    have hpf : cst f = f.map fun p => ((p.1 : Int), (p.2 : Int)) := rfl
    have hk0 := hk
    rw [hpf, List.getElem?_map, List.getElem?_eq_getElem hj] at hk
    simp only [Option.map_some, Option.some.injEq, Prod.mk.injEq] at hk
    obtain ⟨rfl, rfl⟩ := hk
    have htk : f.take (j + 1) = f.take j ++ [f[j]] := List.take_succ_eq_append_getElem hj
    have hpm := hf.lt f[j].1 (List.mem_map_of_mem (List.getElem_mem hj))
    refine ⟨vI (f[j].1 : Nat), ⟨_, rfl⟩, fun s₅ S₅ => TurnC.of1 fun Kc Nc kn kk => ?_⟩
    have G₇ := G₆.mono hg7
    have M₇ := M₆.mono hg7
    have D₇ := D₆.mono hg7
    (k_search "Z")
    refine if_eq1 (fun h1 => ?_) (fun h1 => ?_)
    · (k_search "Z")
      refine dGet (by with_reducible assumption) (by (k_search "AT")) hk0 (fun _ _ _ => ?_) (by with_unfolding_all rfl)
      refine kn _ _ ⟨g₇, _, _, Sub.rfl', by assumption, ?_, rfl⟩
      rw [htk, List.filter_append, List.map_append]
      have e : ([f[j]].filter fun p => decide (bt msk bit p.1)) = [f[j]] := by rw [List.filter_cons_of_pos (p := fun p : Nat × Nat => decide (bt msk bit p.1)) (decide_eq_true (p := bt msk bit f[j].1) h1), List.filter_nil]
      rw [e]
      exact intsN_append hy _ _
    · refine kk _ ⟨g₇, _, _, Sub.rfl', by assumption, ?_, rfl⟩
      rw [htk, List.filter_append]
      have e : ([f[j]].filter fun p => decide (bt msk bit p.1)) = [] := by rw [List.filter_cons_of_neg (p := fun p : Nat × Nat => decide (bt msk bit p.1)) (fun q => h1 (of_decide_eq_true (p := bt msk bit f[j].1) q)), List.filter_nil]
      rw [e, List.append_nil]
      exact hy
  rintro D' g₇ ys τ₁ s₅ hg7 ⟨hy, rfl⟩ hl S₅
  rw [List.take_of_length_le (by omega)] at hy
  refine ⟨_, .there (by decide) .new, fun s₆ S₆ => ?_⟩
  clear S₅ S₄ S₈
  obtain ⟨g₈, k₈, S₉, hA⟩ := freeze1 S₆
  generalize hzs : (f.filter fun p => decide (bt msk bit p.1)).map (·.2) = zs at *
  have Z₈ : At g₈ D' (LN zs) := hA.imp fun o ⟨vs, k, e, ho⟩ => ⟨vs, k, e ▸ hy, ho⟩
  have k₉ := hg7.tr k₈
  have G₈ := G₆.mono k₉
  have X₈ := X₆.mono k₉
  have M₈ := M₆.mono k₉
  have Y₈ := Y₆.mono k₉
  have D₈ := D₆.mono k₉
  clear S₆ hA hy hg7 k₈
  (k_search "Z")
  refine cList (by with_reducible assumption) (by (k_search "AT")) (fun vs hv => by rw [lenN hv, sizeLine_eq]; omega) (fun s₁₀ b₁ S₁₀ => ?_)
  obtain ⟨g₁, k₁, S₁₁, Y₁⟩ := freeze1 (P := LN bs) S₁₀
  clear S₁₀ S₉
  have G₁ := G₈.mono k₁
  have X₁ := X₈.mono k₁
  have M₁ := M₈.mono k₁
  (k_search "Z")
  refine comp_eval (s₀ := s₀) (L := L) (cl := []) ?_ rfl (by decide) rfl (by decide) rfl (fun _ => rfl)
  (k_search "Z")
  obtain ⟨as, X2, X3, X4⟩ := id X₁
  refine mkIter_list S₁₁ hh X2 (fun I s' vs hvs S' W => ?_)
  subst hvs
  refine CompAt.intro W S' (fun i g' ys τ => (∃ cs, ys = cs.map .ref ∧ RL g' cs (rows.take i)) ∧ τ = rcL L p rl mk (IsCl (vI rows.length)) (IsCl (vI bit)) (IsCl (vR d)) IsClE σ) ⟨⟨[], rfl, rfl, fun i hi => absurd hi (Nat.not_lt_zero _)⟩, rfl⟩ (by simp; omega) ?_ ?_
  · rintro C D i v g₂ ys τ₁ It' hi hv hg hl ⟨⟨cs, rfl, hcs⟩, rfl⟩
    obtain ⟨rfl, hi'⟩ := getElem_refs hv
    have htk : rows.take (i + 1) = rows.take i ++ [rows.getD i []] := take_snoc (by omega)
    refine ⟨vR (as.getD i 0), rfl, fun s₁ S₁ => TurnC.of0 fun Kc kn => ?_⟩
    have G₂ := G₁.mono hg
    have X₂ := (X4 i (by omega)).mono hg
    have hrw := hr.rows i
    (k_search "Z")
    refine cList (by with_reducible assumption) (by (k_search "AT")) (fun vs hv => by rw [lenN hv, sizeLine_eq]; omega) (fun s₂ c₁ S₂ => ?_)
    obtain ⟨g₃, k₃, S₃, hA⟩ := freeze1 (P := LN (rows.getD i [])) S₂
    exact kn _ _ ⟨g₃, _, _, k₃, S₃, ⟨cs ++ [c₁], by simp, by rw [htk]; exact (hcs.mono k₃).snoc hA⟩, rfl⟩
  rintro D2 g₂ ys τ₁ s₃ hg ⟨⟨cs, rfl, hcs⟩, rfl⟩ hl S₃
  rw [List.take_of_length_le (by simp; omega)] at hcs
  obtain ⟨g₃, k₃, S₄, hA⟩ := freeze1 (P := LR cs) S₃
  have X₃ := (hcs.mono k₃).rows hA
  have G₃ := G₁.mono (hg.tr k₃)
  have M₃ := M₁.mono (hg.tr k₃)
  have Y₃ := Y₁.mono (hg.tr k₃)
  have kk := k₁.tr (hg.tr k₃)
  clear S₃ S' S₁₁ W hA hcs
  (k_search "Z")
  refine cList (by with_reducible assumption) (by (k_search "AT")) (fun vs hv => by rw [lenN hv, sizeLine_eq]; omega) (fun s₁₀ m₁ S₁₀ => ?_)
  obtain ⟨g₄, k₄, S₁₁, N₄⟩ := freeze1 (P := LN msk) S₁₀
  have G₅ := G₃.mono k₄
  have X₅ := X₃.mono k₄
  have Y₅ := Y₃.mono k₄
  clear S₁₀ S₄
  (k_search "Z")
  have ktop : Sub g g₄ := k₅.tr (k₆.tr (k₉.tr (kk.tr k₄)))
  have Z₄ := Z₈.mono (kk.tr k₄)
  have Y₀ := Y₈.mono (kk.tr k₄)
  have M₀ := M₈.mono (kk.tr k₄)
  have X₀ := X₈.mono (kk.tr k₄)
  have G₀ := G₅
  refine chain_spec (by with_reducible assumption) (by with_reducible assumption) hh (by show A.depth + 1 < 890; omega) hr X₅ Y₅ N₄ hz3 hml (by omega) (fun s₅ S₅ hno => ?_) (fun s₅ g₅ t₅ ch k₅ S₅ T₅ hch hchl => ?_)
  · have hze : zs = [] := by
      rw [← hzs, List.map_eq_nil_iff, List.filter_eq_nil_iff]
      intro x hx q
      exact hno _ _ (hf.ds x hx).1 (of_decide_eq_true q)
    subst hze
    refine stC (c := L + 7) (P := vN) S₅ rfl (by (k_search "UP")) IsClE.any rfl (fun s₆ S₆ => ?_) rfl rfl
    clear S₅ S₁₁
    (k_search "Z")
    refine mkL (P := fun vs => vs = []) (by with_reducible assumption) rfl (by rw [sizeLine_eq]; simp) (fun s₇ e₇ S₇ => ?_)
    refine eqNil (P := fun vs => IntsAre vs (([] : List Nat).map (fun n : Nat => (n : Int)))) (Z₄.mono S₇.keep) (S₇.get (by (k_search "MM"))) (by show A.units + 3 < cLine; have : cLine = 9900 := rfl; omega) (fun _ => ?_) (fun Z => ?_)
    · (k_search "Z")
      refine nmC (c := L + 7) (P := vN) rfl (S₇.get (by (k_search "MM"))) (fun v hv => ?_) rfl rfl (by decide)
      cases hv
      (k_search "Z")
      refine wpAny_is_self rfl ?_
      (k_search "Z")
      exact h _ g₄ ktop (S₇.sub (by (repeat' (first | (with_reducible exact List.Sublist.refl _) | (with_reducible exact List.Sublist.slnil) | (with_reducible refine List.Sublist.cons_cons _ ?_) | (with_reducible refine List.Sublist.cons _ ?_)))))
    · obtain ⟨vs, _, ⟨h1, h2⟩, _⟩ := isL_of Z
      cases h1
      exact absurd rfl h2
  · have hlm : ch.getD (ch.length - 1) 0 ∈ ks f := hf.all _ _ hch.rd
    obtain ⟨dl, hdl⟩ := mem_ks hlm
    have hdl2 : dl ∈ zs := by
      rw [← hzs]
      exact List.mem_map.mpr ⟨_, List.mem_filter.mpr ⟨hdl, decide_eq_true hch.lst⟩, rfl⟩
    have hzp : 0 < zs.length := List.length_pos_iff.mpr (fun e => by rw [e] at hdl2; cases hdl2)
    have hzl : zs.length ≤ 9 := by
      rw [← hzs, List.length_map]
      exact Nat.le_trans (List.length_filter_le _ _) (by omega)
    have hch0 := hch.ne
    have G₆ := G₀.mono k₅
    have X₆ := X₀.mono k₅
    have Y₆ := Y₀.mono k₅
    have Z₆ := Z₄.mono k₅
    have M₆ := M₀.mono k₅
    clear S₁₁
    (k_search "Z")
    refine mkL (P := fun vs => vs = []) (by with_reducible assumption) rfl (by rw [sizeLine_eq]; simp) (fun s₇ e₇ S₇ => ?_)
    refine eqNil (P := fun vs => IntsAre vs (zs.map (fun n : Nat => (n : Int)))) (Z₆.mono S₇.keep) (S₇.get (by (k_search "MM"))) (by show A.units + 3 < cLine; have : cLine = 9900 := rfl; omega) (fun Z => ?_) (fun _ => ?_)
    · obtain ⟨vs, _, ⟨h1, h2⟩, _⟩ := isL_of Z
      subst h2
      have := lenN h1
      simp at this
      omega
    (k_search "Z")
    refine wpAny_isTrue_Not ?_
    (k_search "Z")
    refine cIsTup (T₅.mono (St.keep (by assumption))) ?_
    (k_search "Z")
    rw [if_neg (by decide)]
    (k_search "Z")
    refine cLenT (by with_reducible assumption) (T₅.mono (St.keep (by assumption))) (by omega) (fun _ _ _ => ?_)
    (k_search "Z")
    refine cMin (by with_reducible assumption) hh (Z₆.mono (St.keep (by assumption))) hzp (fun _ m _ hm hm2 _ => ?_)
    have hmm : ch.length = m + 1 := by
      have h1 := hm2 dl hdl2
      have h2 := (hf.ds _ hdl).2 _ hch.rd
      dsimp only at h2
      rw [← hzs] at hm
      obtain ⟨pm, hpm, e⟩ := List.mem_map.mp hm
      obtain ⟨hpm1, hpm2⟩ := List.mem_filter.mp hpm
      have h3 := hch.least _ _ (hf.ds _ hpm1).1 (of_decide_eq_true hpm2)
      omega
    (k_search "Z")
    refine if_ne (fun q => absurd hmm q) (fun _ => ?_)
    (k_search "Z")
    refine itT0 (T₅.mono (St.keep (by assumption))) hch0 (by omega) (fun _ => ?_) (by with_unfolding_all rfl)
    (k_search "Z")
    refine nInN (Y₆.mono (St.keep (by assumption))) (fun _ => ?_) (fun q => absurd hch.fst q)
    (k_search "Z")
    refine itTL (T₅.mono (St.keep (by assumption))) hch0 (by omega) (fun _ => ?_) (by with_unfolding_all rfl)
    have hlt : ch.getD (ch.length - 1) 0 < msk.length := by rw [hml]; exact hf.lt _ hlm
    (k_search "Z")
    rw [show msk.getD (ch.getD (ch.length - 1) 0) 0 / 2 ^ bit % 2 = 1 from hch.lst]
    rw [if_neg (by decide)]
    (k_search "Z")
    refine comp_eval (s₀ := s₀) (L := L) ?_ rfl (by decide) rfl (by decide) rfl (fun _ => rfl)
    (k_search "Z")
    refine cLenT (by with_reducible assumption) (T₅.mono (St.keep (by assumption))) (by omega) (fun _ _ _ => ?_)
    (k_search "Z")
    refine cRange (by with_reducible assumption) (fun _ gr Sr => ?_)
    refine mkIter_range (n := ch.length - 1) (m := (ch.length : Int) - 1) (by with_reducible assumption) hh (by (k_search "AT")) (by omega) (by omega) (fun I9 _ Sn9 Wn9 => ?_)
    have Sn9' := Sn9.sub (σ' := (I9, ItR (ch.length - 1) 0) :: (L, IsNs [("begins", vR bb), ("goals", vR D')]) :: rcL L p rl mk (IsCl (vI rows.length)) (IsCl (vI bit)) (IsCl (vR d)) (IsCl (vR t₅)) σ) (by (repeat' (first | (with_reducible exact List.Sublist.refl _) | (with_reducible exact List.Sublist.slnil) | (with_reducible refine List.Sublist.cons_cons _ ?_) | (with_reducible refine List.Sublist.cons _ ?_))))
    clear Sn9 Sr S₇
    refine CompAt.intro Wn9 Sn9' (fun i _ ys τ => ys = [] ∧ τ = rcL L p rl mk (IsCl (vI rows.length)) (IsCl (vI bit)) (IsCl (vR d)) (IsCl (vR t₅)) σ) ⟨rfl, rfl⟩ (by omega) ?_ ?_
    · rintro C9 D9 i9 v9 g₇ ys9 τ₉ It9 hi9 ⟨tv9, rfl⟩ hg9 hl9 ⟨rfl, rfl⟩
      refine ⟨vI i9, ⟨_, rfl⟩, fun s₁ S₁ => TurnC.of1 fun Kc Nc kn kk => ?_⟩
      have G₇ := G₆.mono hg9
      have T₇ := T₅.mono hg9
      have X₇ := X₆.mono hg9
      have hed := hch.edge i9 (by omega)
      have hcr : ch.getD i9 0 < rows.length := by
        by_cases q : ch.getD i9 0 < rows.length
        · exact q
        · rw [gdef (l := rows) (by omega)] at hed; cases hed
      (k_search "Z")
      refine itT (T₇.mono (St.keep (by assumption))) (by omega) (by omega) (fun _ => ?_) (by with_unfolding_all rfl)
      (k_search "Z")
      refine itT (T₇.mono (St.keep (by assumption))) (by omega) (by omega) (fun _ => ?_) (by with_unfolding_all rfl)
      (k_search "Z")
      rename_i rb hrb
      refine nInN (ns := rows.getD (ch.getD i9 0) []) (hrb.mono (St.keep (by assumption))) (fun _ => ?_) (fun q => absurd hed q)
      (k_search "Z")
      exact kk _ ⟨g₇, _, _, Sub.rfl', by assumption, rfl, rfl⟩
    · rintro D9 g₇ ys9 τ₉ s₉ hg9 ⟨rfl, rfl⟩ hl9 S₉
      (k_search "Z")
      refine mkL (P := fun vs => vs = []) (by with_reducible assumption) rfl (by rw [sizeLine_eq]; simp) (fun s₇ e₇ S₇ => ?_)
      refine eqNil (P := fun vs => vs = []) (S₇.get (by (k_search "MM"))) (S₇.get (by (k_search "MM"))) (by show A.units + 3 < cLine; have : cLine = 9900 := rfl; omega) (fun _ => ?_) (fun Z => ?_)
      · (k_search "Z")
        exact h _ g₇ (ktop.tr (k₅.tr hg9)) (S₇.sub (by (repeat' (first | (with_reducible exact List.Sublist.refl _) | (with_reducible exact List.Sublist.slnil) | (with_reducible refine List.Sublist.cons_cons _ ?_) | (with_reducible refine List.Sublist.cons _ ?_)))))
      · obtain ⟨vs, _, ⟨h1, h2⟩, _⟩ := isL_of Z
        exact absurd h1 h2
end
theorem tb {x b : Nat} : x.testBit b = true ↔ x / 2 ^ b % 2 = 1 := by
  rw [Nat.testBit_eq_decide_div_mod_eq, decide_eq_true_eq]
theorem maskP_bit (b : Nat) (ys : List Nat) : (maskP ys).testBit b = true ↔ b ∈ ys := by
  have key : ∀ (ys : List Nat) (m : Nat), (ys.foldl (fun m y => m ||| 2 ^ y) m).testBit b = true ↔ m.testBit b = true ∨ b ∈ ys := by
    intro ys
    induction ys with
    | nil => intro m; simp
    | cons y ys ih =>
      intro m
      rw [List.foldl_cons, ih, Nat.testBit_or, Bool.or_eq_true, Nat.testBit_two_pow, decide_eq_true_eq, List.mem_cons]
      exact ⟨fun h => by rcases h with (h | h) | h; exact .inl h; exact .inr (.inl h.symm); exact .inr (.inr h), fun h => by rcases h with h | h | h; exact .inl (.inl h); exact .inl (.inr h.symm); exact .inr h⟩
  have := key ys 0
  unfold maskP
  rw [this]; simp
theorem reach_lt {rel : List (List Nat)} {n x y : Nat} (hr : RelOk rel n) (h : Reach rel x y) (hx : x < n) : y < n := by
  induction h with
  | refl => exact hx
  | step h _ ih => exact ih (hr.mem h)
theorem mem_reach_of {rel : List (List Nat)} {x y z : Nat} (h : Reach rel x y) (hz : z ∈ rel.getD y []) : ∃ b ∈ rel.getD x [], Reach rel b z := by
  cases h with
  | refl => exact ⟨z, hz, .refl _⟩
  | step h1 h2 => exact ⟨_, h1, h2.end_ hz⟩
theorem of_mem_reach {rel : List (List Nat)} {b z : Nat} (h : Reach rel b z) : ∀ {x}, b ∈ rel.getD x [] → ∃ y, Reach rel x y ∧ z ∈ rel.getD y [] := by
  induction h with
  | refl => exact fun {x} hx => ⟨x, .refl _, hx⟩
  | step h1 _ ih => exact fun {x} hx => let ⟨y, a, c⟩ := ih h1; ⟨y, .step hx a, c⟩
theorem ring_iff {rel : List (List Nat)} {beh : List Nat} {n x : Nat} (hr : RelOk rel n) (h : TFin rel (rel.map maskP) beh n) (hx : x < n) : beh.getD x 0 / 2 ^ x % 2 = 1 ↔ ∃ b ∈ rel.getD x [], Reach rel b x := by
  rw [← tb, h.2 x hx]
  have hg : ∀ y, y < n → (rel.map maskP).getD y 0 = maskP (rel.getD y []) := fun y hy => getD_map (by rw [hr.len]; exact hy)
  constructor
  · rintro ⟨y, h1, h2⟩
    rw [hg y (reach_lt hr h1 hx), maskP_bit] at h2
    exact mem_reach_of h1 h2
  · rintro ⟨b, h1, h2⟩
    obtain ⟨y, a, c⟩ := of_mem_reach h2 h1
    refine ⟨y, a, ?_⟩
    rw [hg y (reach_lt hr a hx), maskP_bit]; exact c
theorem list_ext_getD {l m : List Nat} (hl : l.length = m.length) (h : ∀ i, i < l.length → l.getD i 0 = m.getD i 0) : l = m := by
  refine List.ext_getElem hl fun i h1 h2 => ?_
  have := h i h1
  rwa [List.getD_eq_getElem?_getD, List.getD_eq_getElem?_getD, List.getElem?_eq_getElem h1, List.getElem?_eq_getElem h2] at this
theorem due_eq {rel : List (List Nat)} {msk res Ts : List Nat} {n : Nat} (h : TFin rel msk res n) (hl : Ts.length = n) (hT : ∀ j, j < n → ∃ f, LevFin rel [j] n f ∧ UnP msk f 5 (Ts.getD j 0)) (hml : msk.length = n) (hm : ∀ m ∈ msk, m < 32) (hr : RelOk rel n) : res = Ts := by
  refine list_ext_getD (h.1.trans hl.symm) fun j hj => ?_
  rw [h.1] at hj
  obtain ⟨f, hf, hu⟩ := hT j hj
  refine Nat.eq_of_testBit_eq fun b => ?_
  rw [Bool.eq_iff_iff, h.2 j hj b, hu.2 b]
  constructor
  · rintro ⟨y, h1, h2⟩
    have hy := reach_lt hr h1 hj
    have hlt := hm _ (gmem (d := 0) (show y < msk.length by omega))
    refine ⟨?_, ?_⟩
    · by_cases q : b < 5
      · exact q
      · have : msk.getD y 0 < 2 ^ b := Nat.lt_of_lt_of_le hlt (Nat.pow_le_pow_right (show 2 > 0 by decide) (show 5 ≤ b by omega) : 2 ^ 5 ≤ 2 ^ b)
        rw [Nat.testBit_lt_two_pow this] at h2; cases h2
    · obtain ⟨d, hd⟩ := mem_ks (hf.mem_iff.mpr ⟨j, by simp, h1⟩)
      exact ⟨_, hd, tb.mp h2⟩
  · rintro ⟨_, p, hp, h2⟩
    obtain ⟨c, hc, h1⟩ := hf.mem_iff.mp (List.mem_map_of_mem (f := (·.1)) hp)
    rw [List.mem_singleton] at hc
    subst hc
    exact ⟨p.1, h1, tb.mpr h2⟩

theorem law_begin {s₁ : Shared} {h₁ : Heap} {tk : Nat} {m : Str → Option Value} {L a b l : Addr} {o o' : Obj} (F : Fr s₁.heap L h₁ m) (N : News s₁.heap L h₁ [(a, o), (b, o')]) (hab : a ≠ b) (ho : IsClE o) (ho' : IsClE o') (hm : m "script" = some (.ref l)) :
    St s₁ s₁.heap { heap := h₁, gens := s₁.gens, drawn := s₁.drawn, toks := tk, os := s₁.os } [(L, IsNs [("script", vR l)]), (a, IsClE), (b, IsClE)] where
  same := ⟨h₁, tk, rfl⟩
  keep := F.keep
  has := fun p hp => by
    rcases List.mem_cons.mp hp with rfl | hp
    · obtain ⟨oL, es, ep, hoL, hd, hk, hf⟩ := F.ns
      exact ⟨oL, hoL, es, ep, hd, hk, by simp, fun p hp => by
        obtain rfl := List.mem_singleton.mp hp
        exact ⟨_, (hf _).trans hm, rfl⟩⟩
    rcases List.mem_cons.mp hp with rfl | hp
    · exact ⟨o, N.get (.head _), ho⟩
    obtain rfl := List.mem_singleton.mp hp
    exact ⟨o', N.get (.tail _ (.head _)), ho'⟩
  nd := by
    have h1 := (N _ (.head _)).2.1
    have h2 := (N _ (.tail _ (.head _))).2.1
    simp only [List.map_cons, List.map_nil, List.nodup_cons, List.mem_cons, List.not_mem_nil, or_false, not_or, not_false_eq_true, List.nodup_nil, and_true]
    exact ⟨⟨Ne.symm h1, Ne.symm h2⟩, hab⟩
  fresh := fun p hp => by
    rcases List.mem_cons.mp hp with rfl | hp
    · exact Heap.get?_none_of_le F.above
    rcases List.mem_cons.mp hp with rfl | hp
    · exact N.fresh (.head _)
    obtain rfl := List.mem_singleton.mp hp
    exact N.fresh (.tail _ (.head _))
theorem law_end {s₁ s' : Shared} {σ : Led} {c : ClaimW} {cl : Str → Option Addr} {mean : ExcName → Option Value} {args : List WData} (S : St s₁ s₁.heap s' σ) (hg : s₁.gens = #[]) (hn : ∀ cls, c.raises args cls = false) (hp : c.post args (.bool true) args = true) :
    GoodW c cl mean args s₁ (.ok (.ret (.bool true))) s' := by
  refine ⟨.inl ⟨_, .bool true, [], rfl, hn, .bool true, hp, fun _ => ⟨.nil, fun a ha => nomatch ha⟩⟩, S.keep, ?_, ?_⟩
  · obtain ⟨h, tk, e⟩ := S.same; rw [e]
  · obtain ⟨h, tk, e⟩ := S.same; rw [e]; exact hg
abbrev lwL (L p q : Addr) (P1 P2 : Pd) : Led := [(p, PT q), (q, LIe), (L + 2, P2), (L + 1, P1)]
abbrev lwM (l p : Addr) : List (Str × Vp) := [("script", vR l), ("pen", vR p)]
abbrev lwN (l p : Addr) (i n : Nat) : List (Str × Vp) := [("script", vR l), ("pen", vR p), ("lap", vI i), ("many", vI n)]
abbrev lwO (l p : Addr) (i n : Nat) (gv hd₁ : Addr) : List (Str × Vp) := [("script", vR l), ("pen", vR p), ("lap", vI i), ("many", vI n), ("held", vR hd₁), ("given", vR gv)]
abbrev lwP (l p : Addr) (i n : Nat) (gv hd₁ du : Addr) : List (Str × Vp) := [("script", vR l), ("pen", vR p), ("lap", vI i), ("many", vI n), ("held", vR hd₁), ("given", vR gv), ("due", vR du)]
section
variable {s₀ s : Shared} {g : Heap}
theorem lw_forget {L p q I : Addr} {It : Pd} {ms ms' : List (Str × Vp)} {P Q : Vp} (S : St s₀ g s ((L, IsNs ms) :: (I, It) :: lwL L p q (IsCl P) (IsCl Q))) (h : ms'.Sublist ms) : St s₀ g s ((L, IsNs ms') :: (I, It) :: lwL L p q IsClE IsClE) := by
  have S' := S.ns h
  refine S'.imp rfl fun x hx => ?_
  rcases List.mem_cons.mp hx with rfl | hx
  · exact S'.get (.head _)
  rcases List.mem_cons.mp hx with rfl | hx
  · exact S'.get (.tail _ (.head _))
  rcases List.mem_cons.mp hx with rfl | hx
  · exact S'.get (.tail _ (.tail _ (.head _)))
  rcases List.mem_cons.mp hx with rfl | hx
  · exact S'.get (.tail _ (.tail _ (.tail _ (.head _))))
  rcases List.mem_cons.mp hx with rfl | hx
  · exact (S'.get (.tail _ (.tail _ (.tail _ (.tail _ (.head _)))))).imp IsCl.any
  obtain rfl := List.mem_singleton.mp hx
  exact (S'.get (.tail _ (.tail _ (.tail _ (.tail _ (.tail _ (.head _))))))).imp IsCl.any
theorem lw_front {x y z : Addr × Pd} {r : Led} (S : St s₀ g s (x :: y :: z :: r)) : St s₀ g s (z :: x :: y :: r) := S.perm (List.perm_middle (l₁ := [x, y]) (a := z) (l₂ := r)).symm
end
theorem law_post (a : List WData) : PySem.Challenge.rw_nn0352_01.row.claim.post a (.bool true) a = true := postW_of rfl (w_eq_bool (w_res rfl) w_lit) rfl
theorem law_holds : PySem.Challenge.rw_nn0352_01.Holds := hd (by
  k_go0
  rename_i wd s₀ s₁ mg mb _ _ fa _ _ _ _ hgens KX _ _ _ T _ _ _ _ _ _ cdA _ _ ns _ _ _ _ _ _ _ l vs _ hl _ _ _ hi _ hlen _ _ _ h₁ tk F _ _ hc1 hc2 N _
  have S := law_begin (tk := tk) F N (Nat.succ_ne_self _) ⟨_, hc1⟩ ⟨_, hc2⟩ (l := l) rfl
  have G : Gd wd s₁.heap := ⟨KX, _, _, _, _, topRead_of T⟩
  have hns : ns.length ≤ 63 := by omega
  have hend := fun (s' : Shared) (σ : Led) (S' : St s₁ s₁.heap s' σ) => law_end (c := PySem.Challenge.rw_nn0352_01.row.claim) (cl := classAt s₀.heap) (mean := ExcName.means s₀.heap) (args := [ofPy (PySem.PyData.list (List.map PySem.PyData.int ns))]) S' hgens (fun cls => rfl) (law_post _)
  refine wpAny_mono (E := fun _ _ => False) ?_ (fun _ _ q => q) (fun _ _ q => q.elim)
  clear F N hc1 hc2
  dsimp only
  generalize s₁.heap.objs.size = L at S ⊢
  have S0 : St s₁ s₁.heap _ [(L, IsNs [("script", vR l)]), (L + 2, IsClE), (L + 1, IsClE)] := S
  clear S
  (k_search "Z")
  refine pen_spec (by with_reducible assumption) (by with_reducible assumption) rfl (by show 1 + claimMargin + 1 < 800; decide) hl hi (by omega) (fun s₂ p q S₂ => ?_)
  have S₃ : St s₁ s₁.heap s₂ ((L, IsNs [("script", vR l)]) :: lwL L p q IsClE IsClE) := lw_front S₂
  clear S₂ S0
  (k_search "Z")
  refine cRange (by with_reducible assumption) (fun _ ga _ => ?_)
  refine mkIter_range (n := 2) (m := 2) (by with_reducible assumption) rfl (by (k_search "AT")) rfl (by omega) (fun I _ Sn Wn => ?_)
  have Sn' := Sn.sub (σ' := (I, ItR 2 0) :: (L, IsNs (lwM l p)) :: lwL L p q IsClE IsClE) (by (repeat' (first | (with_reducible exact List.Sublist.refl _) | (with_reducible exact List.Sublist.slnil) | (with_reducible refine List.Sublist.cons_cons _ ?_) | (with_reducible refine List.Sublist.cons _ ?_))))
  refine for_on Wn Sn' (fun i _ m l' => m = lwM l p ∧ l' = lwL L p q IsClE IsClE) ⟨rfl, rfl⟩ ?_ ?_ rfl rfl rfl
  · rintro i v g₁ ms₁ σ₁ It' hi ⟨tv, rfl⟩ hg ⟨rfl, rfl⟩ Kf kn kb kr
    refine ⟨vI i, _, by (k_search "SL"), ⟨_, rfl⟩, fun s₃ S₃ => ?_⟩
    have G₁ := G.mono hg
    (k_search "Z")
    refine world_spec (by with_reducible assumption) (by with_reducible assumption) rfl (by show 1 + claimMargin + 1 < 800; decide) (by show 4 + 3 < 8000; decide) (by (k_search "MM")) (by (k_search "MM")) (fun s₄ g₂ tw rl mk rows msk k₂ S₄ Tw X M hW => ?_)
    have G₂ := G₁.mono k₂
    have hn1 := hW.pos
    have hn9 := hW.le
    have hr := hW.rel
    have hml := hW.len
    (k_search "Z")
    refine asgN2 (u := .ref rl) (v := .ref mk) S₄ (Tw.mono S₄.keep) rfl (fun _ _ => ?_)
    (k_search "Z")
    refine cLenRows (by with_reducible assumption) X (by omega) (fun _ _ _ => ?_)
    (k_search "Z")
    rename_i S₅
    have S₆ : St s₁ g₂ _ ((L, IsNs (lwN l p i rows.length)) :: (I, It') :: lwL L p q (IsCl (vR rl)) (IsCl (vR mk))) := S₅
    clear S₅ S₄ S₃
    refine Assign_Tuple_swapped (names := ["given", "held"]) ?_ rfl rfl
    (k_search "Z")
    refine comp_eval (s₀ := s₁) (L := L) ?_ rfl (by decide) rfl (by decide) rfl (fun _ => rfl)
    (k_search "Z")
    obtain ⟨as, X2, X3, X4⟩ := id X
    refine mkIter_list S₆ rfl X2 (fun I4 s' vs hvs S' W => ?_)
    subst hvs
    refine CompAt.intro W S' (fun i g' ys τ => (∃ cs, ys = cs.map .ref ∧ RL g' cs (rows.take i)) ∧ τ = (I, It') :: lwL L p q (IsCl (vR rl)) (IsCl (vR mk))) ⟨⟨[], rfl, rfl, fun i hi => absurd hi (Nat.not_lt_zero _)⟩, rfl⟩ (by simp; omega) ?_ ?_
    · rintro C D j v g₃ ys τ₁ It4 hj hv hg3 hl3 ⟨⟨cs, rfl, hcs⟩, rfl⟩
      obtain ⟨rfl, hj'⟩ := getElem_refs hv
      have htk : rows.take (j + 1) = rows.take j ++ [rows.getD j []] := take_snoc (by omega)
      refine ⟨vR (as.getD j 0), rfl, fun s₁ S₁ => TurnC.of0 fun Kc kn => ?_⟩
      have G₃ := G₂.mono hg3
      have X₃ := (X4 j (by omega)).mono hg3
      have hrw := hr.rows j
      (k_search "Z")
      refine cList (by with_reducible assumption) (by (k_search "AT")) (fun vs hv => by rw [lenN hv, sizeLine_eq]; omega) (fun s₂ c₁ S₂ => ?_)
      obtain ⟨g₄, k₄, S₃, hA⟩ := freeze1 (P := LN (rows.getD j [])) S₂
      exact kn _ _ ⟨g₄, _, _, k₄, S₃, ⟨cs ++ [c₁], by simp, by rw [htk]; exact (hcs.mono k₄).snoc hA⟩, rfl⟩
    rintro gv g₃ ys τ₁ s₅ hg3 ⟨⟨cs, rfl, hcs⟩, rfl⟩ hl3 S₇
    rw [List.take_of_length_le (by simp; omega)] at hcs
    obtain ⟨g₄, k₄, S₈, hA⟩ := freeze1 (P := LR cs) S₇
    have XG₄ := (hcs.mono k₄).rows hA
    have G₄ := G₂.mono (hg3.tr k₄)
    have M₄ := M.mono (hg3.tr k₄)
    have X₄ := X.mono (hg3.tr k₄)
    have kk₄ := k₂.tr (hg3.tr k₄)
    clear S₇ S' S₆ W hA hcs X2 X3 X4
    (k_search "Z")
    refine cList (by with_reducible assumption) (by (k_search "AT")) (fun vs hv => by rw [lenN hv, sizeLine_eq]; omega) (fun s₆ hd₁ S₉ => ?_)
    obtain ⟨g₅, k₅, S₁₀, H₅⟩ := freeze1 (P := LN msk) S₉
    have G₅ := G₄.mono k₅
    have M₅ := M₄.mono k₅
    have X₅ := X₄.mono k₅
    have XG₅ := XG₄.mono k₅
    clear S₉ S₈
    (k_search "Z")
    refine mkT (P := fun us => us = [_, _]) (by with_reducible assumption) rfl (by rw [sizeLine_eq]; simp) (fun _ ta Tt => ?_)
    (k_search "Z")
    refine unpT (by with_reducible assumption) (Tt.get (by (k_search "MM"))) rfl rfl (fun _ _ => ?_)
    (k_search "Z")
    rename_i S₁₁
    have S₁₂ : St s₁ g₅ _ ((L, IsNs (lwO l p i rows.length gv hd₁)) :: (ta, IsTpl _) :: (I, It') :: lwL L p q (IsCl (vR rl)) (IsCl (vR mk))) := S₁₁
    have S₁₃ := S₁₂.sub' (List.Sublist.refl _) (List.sublist_cons_self _ _)
    clear S₁₂ S₁₁ Tt S₁₀
    refine comp_assign (s₀ := s₁) (L := L) ?_ rfl rfl (by decide) rfl (by decide) rfl (fun _ => rfl) rfl rfl rfl
    (k_search "Z")
    refine cRange (by with_reducible assumption) (fun _ gb Sr => ?_)
    refine mkIter_range (n := rows.length) (by with_reducible assumption) rfl (by (k_search "AT")) rfl (by omega) (fun I5 _ Sn5 Wn5 => ?_)
    have Sn5' := Sn5.sub (σ' := (I5, ItR rows.length 0) :: (L, IsNs (lwO l p i rows.length gv hd₁)) :: (I, It') :: lwL L p q (IsCl (vR rl)) (IsCl (vR mk))) (by (repeat' (first | (with_reducible exact List.Sublist.refl _) | (with_reducible exact List.Sublist.slnil) | (with_reducible refine List.Sublist.cons_cons _ ?_) | (with_reducible refine List.Sublist.cons _ ?_))))
    clear Sn5 Sr S₁₃
    refine CompAt.intro Wn5 Sn5' (fun j _ ys τ => (∃ Ts : List Nat, IntsAre ys (Ts.map (fun n : Nat => (n : Int))) ∧ Ts.length = j ∧ ∀ x, x < j → ∃ f, LevFin rows [x] rows.length f ∧ UnP msk f 5 (Ts.getD x 0)) ∧ τ = (I, It') :: lwL L p q (IsCl (vR rl)) (IsCl (vR mk))) ⟨⟨[], .nil, rfl, fun x hx => absurd hx (Nat.not_lt_zero _)⟩, rfl⟩ (by omega) ?_ ?_
    · rintro C D j v g₆ ys τ₁ It5 hj ⟨tv5, rfl⟩ hg6 hl6 ⟨⟨Ts, hT1, hT2, hT3⟩, rfl⟩
      refine ⟨vI j, ⟨_, rfl⟩, fun s₁ S₁ => TurnC.of0 fun Kc kn => ?_⟩
      have G₆ := G₅.mono hg6
      have M₆ := M₅.mono hg6
      have X₆ := X₅.mono hg6
      (k_search "Z")
      refine mkL (P := fun vs => IntsAre vs (([j] : List Nat).map (fun n : Nat => (n : Int)))) (by with_reducible assumption) (.cons _ _ .nil) (by rw [sizeLine_eq]; simp) (fun s₂ b S₂ => ?_)
      obtain ⟨g₇, k₇, S₃, B₇⟩ := freeze1 (P := LN [j]) S₂
      have G₇ := G₆.mono k₇
      have M₇ := M₆.mono k₇
      have X₇ := X₆.mono k₇
      clear S₂ S₁
      (k_search "Z")
      refine levels_spec (rows := rows) (bs := [j]) (by with_reducible assumption) (by with_reducible assumption) rfl (by show 1 + claimMargin + 1 < 890; decide) (by show 4 + 3 < 9000; decide) hr X₇ B₇ (fun x hx => by rw [List.mem_singleton] at hx; omega) (by simp) (fun s₈ g₈ d f k₈ S₈ hdm D₈ hf => ?_)
      have G₈ := G₇.mono k₈
      have M₈ := M₇.mono k₈
      have hfn : f.length ≤ rows.length := by
        have := nodup_len hf.nd hf.lt
        simpa using this
      clear S₃
      (k_search "Z")
      refine union_spec (msk := msk) (f := f) (by with_reducible assumption) (by with_reducible assumption) rfl (by show 1 + claimMargin + 1 < 890; decide) (by show 4 + 3 < 9000; decide) M₈ hdm D₈ (fun x hx => by rw [hml]; exact hf.lt x hx) (by omega) (by omega) (fun s₉ Tv t₉ S₉ hU => ?_)
      refine kn _ _ ⟨g₈, _, _, k₇.tr k₈, S₉, ⟨Ts ++ [Tv], intsN_append hT1 _ _, by simp [hT2], fun x hx => ?_⟩, rfl⟩
      by_cases e : x < j
      · rw [gapp (by omega)]; exact hT3 x e
      · have : x = j := by omega
        subst this
        rw [show (Ts ++ [Tv]).getD x 0 = Tv by rw [← hT2, glast]]
        exact ⟨f, hf, hU⟩
    rintro du g₆ ys τ₁ s₇ hg6 ⟨⟨Ts, hT1, hT2, hT3⟩, rfl⟩ hl6 S₁₄
    refine ⟨_, .there (by decide) (.there (by decide) (.there (by decide) (.there (by decide) (.there (by decide) (.there (by decide) .new))))), fun s₈ S₁₅ => ?_⟩
    obtain ⟨g₇, k₇, S₁₆, hA⟩ := freeze1 S₁₅
    have D₇ : At g₇ du (LN Ts) := hA.imp fun o ⟨vs, k, e, ho⟩ => ⟨vs, k, e ▸ hT1, ho⟩
    have S₁₇ : St s₁ g₇ s₈ ((L, IsNs (lwP l p i rows.length gv hd₁ du)) :: (I, It') :: lwL L p q (IsCl (vR rl)) (IsCl (vR mk))) := S₁₆
    have kk₇ := kk₄.tr (k₅.tr (hg6.tr k₇))
    have kb := hg6.tr k₇
    have G₇ := G₅.mono kb
    have M₇ := M₅.mono kb
    have X₇ := X₅.mono kb
    have XG₇ := XG₅.mono kb
    have H₇ := H₅.mono kb
    clear S₁₄ S₁₅ S₁₆ Sn5' Wn5 hA hT1 hl6
    (k_search "Z")
    refine dg_spec (by with_reducible assumption) (by with_reducible assumption) rfl (by show 1 + claimMargin + 1 < 900; decide) hr hml XG₇ H₇ (fun s₉ g₉ r res k₉ S₁₈ R₉ hF => ?_)
    have hres := due_eq hF hT2 hT3 hml hW.lt hr
    subst hres
    have G₉ := G₇.mono k₉
    have M₉ := M₇.mono k₉
    have X₉ := X₇.mono k₉
    have XG₉ := XG₇.mono k₉
    have H₉ := H₇.mono k₉
    have D₉ := D₇.mono k₉
    clear S₁₇
    (k_search "Z")
    refine neInts (R₉.mono S₁₈.keep) (D₉.mono S₁₈.keep) (by show 4 + 3 < cLine; decide) ?_
    (k_search "Z")
    refine neRows (by with_reducible assumption) XG₉ X₉ (by show 4 + 3 + 1 < cLine; decide) ?_
    (k_search "Z")
    refine neInts (H₉.mono (St.keep (by assumption))) (M₉.mono (St.keep (by assumption))) (by show 4 + 3 < cLine; decide) ?_
    (k_search "Z")
    refine rings_spec (by with_reducible assumption) (by with_reducible assumption) rfl (by show 1 + claimMargin + 1 < 800; decide) hr XG₉ (fun s₁₀ g₁₀ r₂ beh k₁₀ S₁₉ hB R₁₀ => ?_)
    have G₁₀ := G₉.mono k₁₀
    have M₁₀ := M₉.mono k₁₀
    have X₁₀ := X₉.mono k₁₀
    have XG₁₀ := XG₉.mono k₁₀
    clear S₁₈
    (k_search "Z")
    refine comp_eval (s₀ := s₁) (L := L) ?_ rfl (by decide) rfl (by decide) rfl (fun _ => rfl)
    (k_search "Z")
    refine cRange (by with_reducible assumption) (fun _ gc Sr => ?_)
    refine mkIter_range (n := rows.length) (by with_reducible assumption) rfl (by (k_search "AT")) rfl (by omega) (fun I6 _ Sn6 Wn6 => ?_)
    have Sn6' := Sn6.sub (σ' := (I6, ItR rows.length 0) :: (L, IsNs (lwP l p i rows.length gv hd₁ du)) :: (I, It') :: lwL L p q (IsCl (vR rl)) (IsCl (vR mk))) (by (repeat' (first | (with_reducible exact List.Sublist.refl _) | (with_reducible exact List.Sublist.slnil) | (with_reducible refine List.Sublist.cons_cons _ ?_) | (with_reducible refine List.Sublist.cons _ ?_))))
    clear Sn6 Sr S₁₉
    refine CompAt.intro Wn6 Sn6' (fun j _ ys τ => IntsAre ys (((List.range j).filter fun x => beh.getD x 0 / 2 ^ x % 2 = 1).map (fun n : Nat => (n : Int))) ∧ τ = (I, It') :: lwL L p q (IsCl (vR rl)) (IsCl (vR mk))) ⟨.nil, rfl⟩ (by omega) ?_ ?_
    · rintro C D j v g₁₁ ys τ₁ It6 hj ⟨tv6, rfl⟩ hg11 hl11 ⟨hy, rfl⟩
      refine ⟨vI j, ⟨_, rfl⟩, fun s₁ S₁ => TurnC.of1 fun Kc Nc kn kk => ?_⟩
      have G₁₁ := G₁₀.mono hg11
      have X₁₁ := X₁₀.mono hg11
      have hrw := hr.rows j
      (k_search "Z")
      rename_i rb hrb
      refine levels_spec (rows := rows) (bs := rows.getD j []) (by with_reducible assumption) (by with_reducible assumption) rfl (by show 1 + claimMargin + 1 < 890; decide) (by show 4 + 3 < 9000; decide) hr X₁₁ hrb (fun x hx => hr.mem hx) (by omega) (fun s₈ g₈ d f k₈ S₈ hdm D₈ hf => ?_)
      have G₈ := G₁₁.mono k₈
      clear S₁
      (k_search "Z")
      refine dIn (by with_reducible assumption) (D₈.mono S₈.keep) hdm (fun _ _ => ?_)
      (k_search "Z")
      have hiff : (((j : Nat) : Int) ∈ (cst f).map (·.1)) ↔ beh.getD j 0 / 2 ^ j % 2 = 1 := by
        rw [cst_mem, hf.mem_iff, ring_iff hr hB hj]
      refine if_any (fun hc => ?_) (fun hc => ?_)
      · have h1 := hiff.mp (of_decide_eq_true hc)
        (k_search "Z")
        refine kn _ _ ⟨g₈, _, _, k₈, by assumption, ?_, rfl⟩
        rw [filter_range_succ, if_pos (by simpa using h1)]
        exact intsN_append hy j _
      · have h1 : ¬ beh.getD j 0 / 2 ^ j % 2 = 1 := fun e => hc (decide_eq_true (hiff.mpr e))
        refine kk _ ⟨g₈, _, _, k₈, by assumption, ?_, rfl⟩
        rw [filter_range_succ, if_neg (by simpa using h1), List.append_nil]
        exact hy
    rintro r₃ g₁₁ ys τ₁ s₁₁ hg11 ⟨hy, rfl⟩ hl11 S₂₀
    obtain ⟨g₁₂, k₁₂, S₂₁, hA⟩ := freeze1 S₂₀
    have R₁₂ : At g₁₂ r₃ (LN ((List.range rows.length).filter fun x => beh.getD x 0 / 2 ^ x % 2 = 1)) := hA.imp fun o ⟨vs, k, e, ho⟩ => ⟨vs, k, e ▸ hy, ho⟩
    have kc := hg11.tr k₁₂
    have G₁₂ := G₁₀.mono kc
    have M₁₂ := M₁₀.mono kc
    have X₁₂ := X₁₀.mono kc
    have XG₁₂ := XG₁₀.mono kc
    have R₁₂' := R₁₀.mono kc
    have kk₁₂ := kk₇.tr (k₉.tr (k₁₀.tr kc))
    clear S₂₀ hA hy hl11 Sn6' Wn6
    (k_search "Z")
    refine neInts (R₁₂'.mono S₂₁.keep) (R₁₂.mono S₂₁.keep) (by show 4 + 3 < cLine; decide) ?_
    (k_search "Z")
    refine neRows (by with_reducible assumption) XG₁₂ X₁₂ (by show 4 + 3 + 1 < cLine; decide) ?_
    (k_search "Z")
    refine wpAny_isTrue_Not ?_
    (k_search "Z")
    refine right_spec (by with_reducible assumption) (by with_reducible assumption) rfl (by show 1 + claimMargin + 1 < 700; decide) (by show 4 + 3 < 8000; decide) (by (k_search "MM")) (by (k_search "MM")) X₁₂ M₁₂ hW (fun s₁₃ g₁₃ k₁₃ S₂₂ => ?_)
    (k_search "Z")
    rw [if_neg (by decide)]
    (k_search "Z")
    exact kn _ _ (by first | exact .inl rfl | exact .inr rfl) ⟨g₁₃, _, _, kk₁₂.tr k₁₃, lw_forget S₂₂ (by (repeat' (first | (with_reducible exact List.Sublist.refl _) | (with_reducible exact List.Sublist.slnil) | (with_reducible refine List.Sublist.cons_cons _ ?_) | (with_reducible refine List.Sublist.cons _ ?_)))), rfl, rfl⟩
  · rintro g₁ ms₁ σ₁ s₃ hg ⟨rfl, rfl⟩ S₃
    (k_search "Z")
    refine Constant_bool ?_
    (k_search "Z")
    exact hend _ _ (S₃.base hg))
end N352
theorem PySem.Challenge.cw_nn0352_01_holds : PySem.Challenge.rw_nn0352_01.Holds := by
  exact N352.law_holds
