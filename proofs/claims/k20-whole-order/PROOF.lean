import PyProof.Rows.All
import Wide.All
import OpenK.AllK
import Wide.FinOn
import HandS.ForMost
import HandS.SetFor
import HandS.Strs
import HandS.TupAny
import HandS.IsInst
import HandS.Property
import HandS.Codes
import KE.KeyNested
import KE.KDictDisplayH
import PySem.Challenge.RW_sumsplay_k20_whole_order_by_play
set_option linter.all false
/-! KMath: plain play, the order and canonical lists, in core Lean. -/
namespace K20
/-- the options of one game, by numbers: left, right -/
abbrev Form := List Nat × List Nat
def sideOf (f : Form) : Bool → List Nat
  | false => f.1
  | true => f.2
def opts (fm : List Form) (i : Nat) (s : Bool) : List Nat := sideOf (fm.getD i ([], [])) s
/-- options come ahead of their game -/
def Wf (fm : List Form) : Prop := ∀ i s k, k ∈ opts fm i s → k < i
def moves (fm : List Form) (i j : Nat) (s : Bool) : List (Nat × Nat) := (opts fm i s).map (fun k => (k, j)) ++ (opts fm j (!s)).map (fun k => (i, k))
def winF (fm : List Form) : Nat → Nat → Nat → Bool → Bool
  | 0, _, _, _ => false
  | n + 1, i, j, s => (moves fm i j s).any fun p => !winF fm n p.1 p.2 (!s)
def win (fm : List Form) (i j : Nat) (s : Bool) : Bool := winF fm (i + j + 1) i j s
def ge (fm : List Form) (i j : Nat) : Bool := !win fm i j true
def cwF (fm : List Form) : Nat → Nat → Bool → Bool
  | 0, _, _ => false
  | n + 1, g, s => (opts fm g s).any fun o => !cwF fm n o (!s)
def cw (fm : List Form) (g : Nat) (s : Bool) : Bool := cwF fm (g + 1) g s

theorem any_ext {α : Type} {f g : α → Bool} : ∀ {l : List α}, (∀ x ∈ l, f x = g x) → l.any f = l.any g
  | [], _ => rfl
  | x :: r, h => by
    rw [List.any_cons, List.any_cons, h x List.mem_cons_self, any_ext fun y hy => h y (List.mem_cons_of_mem _ hy)]
theorem all_ext {α : Type} {f g : α → Bool} : ∀ {l : List α}, (∀ x ∈ l, f x = g x) → l.all f = l.all g
  | [], _ => rfl
  | x :: r, h => by
    rw [List.all_cons, List.all_cons, h x List.mem_cons_self, all_ext fun y hy => h y (List.mem_cons_of_mem _ hy)]
theorem not_any {α : Type} {f : α → Bool} : ∀ {l : List α}, (!l.any f) = l.all fun x => !f x
  | [] => rfl
  | x :: r => by rw [List.any_cons, List.all_cons, Bool.not_or, not_any]
theorem any_map {α β : Type} {m : α → β} {f : β → Bool} : ∀ {l : List α}, (l.map m).any f = l.any fun x => f (m x)
  | [] => rfl
  | x :: r => by rw [List.map_cons, List.any_cons, List.any_cons, any_map]
theorem all_map {α β : Type} {m : α → β} {f : β → Bool} : ∀ {l : List α}, (l.map m).all f = l.all fun x => f (m x)
  | [] => rfl
  | x :: r => by rw [List.map_cons, List.all_cons, List.all_cons, all_map]

section
variable {fm : List Form}
theorem moves_mem (w : Wf fm) {i j : Nat} {s : Bool} {p : Nat × Nat} (h : p ∈ moves fm i j s) : p.1 + p.2 < i + j ∧ p.1 ≤ i ∧ p.2 ≤ j := by
  rcases List.mem_append.mp h with h | h
  · obtain ⟨k, hk, rfl⟩ := List.mem_map.mp h
    have := w _ _ _ hk
    exact ⟨by show k + j < i + j; omega, Nat.le_of_lt this, Nat.le_refl _⟩
  · obtain ⟨k, hk, rfl⟩ := List.mem_map.mp h
    have := w _ _ _ hk
    exact ⟨by show i + k < i + j; omega, Nat.le_refl _, Nat.le_of_lt this⟩
theorem winF_eq (w : Wf fm) : ∀ (n m i j : Nat) (s : Bool), i + j < n → i + j < m → winF fm n i j s = winF fm m i j s
  | 0, _, _, _, _, h, _ => absurd h (Nat.not_lt_zero _)
  | _ + 1, 0, _, _, _, _, h => absurd h (Nat.not_lt_zero _)
  | n + 1, m + 1, i, j, s, h1, h2 => by
    unfold winF
    refine any_ext fun p hp => ?_
    have := (moves_mem w hp).1
    rw [winF_eq w n m p.1 p.2 (!s) (by omega) (by omega)]
theorem win_eq (w : Wf fm) (i j : Nat) (s : Bool) : win fm i j s = (moves fm i j s).any fun p => !win fm p.1 p.2 (!s) := by
  show (moves fm i j s).any (fun p => !winF fm (i + j) p.1 p.2 (!s)) = _
  refine any_ext fun p hp => ?_
  have := (moves_mem w hp).1
  unfold win
  rw [winF_eq w (i + j) (p.1 + p.2 + 1) p.1 p.2 (!s) (by omega) (by omega)]
theorem win_sym (w : Wf fm) : ∀ (n i j : Nat) (s : Bool), i + j < n → win fm i j s = win fm j i (!s)
  | 0, _, _, _, h => absurd h (Nat.not_lt_zero _)
  | n + 1, i, j, s, h => by
    rw [win_eq w i j s, win_eq w j i (!s)]
    unfold moves
    rw [List.any_append, List.any_append, any_map, any_map, any_map, any_map, Bool.not_not, Bool.or_comm]
    congr 1
    · refine any_ext fun k hk => ?_
      have := w _ _ _ hk
      show (!win fm i k (!s)) = !win fm k i s
      rw [win_sym w n i k (!s) (by omega), Bool.not_not]
    · refine any_ext fun k hk => ?_
      have := w _ _ _ hk
      show (!win fm k j (!s)) = !win fm j k s
      rw [win_sym w n k j (!s) (by omega), Bool.not_not]
theorem win_swap (w : Wf fm) (i j : Nat) (s : Bool) : win fm i j s = win fm j i (!s) := win_sym w _ i j s (Nat.lt_succ_self _)
theorem ge_eq (w : Wf fm) (i j : Nat) : ge fm i j = (((opts fm i true).all fun r => !ge fm j r) && ((opts fm j false).all fun l => !ge fm l i)) := by
  show (!win fm i j true) = _
  rw [win_eq w, not_any]
  unfold moves
  rw [List.all_append, all_map, all_map]
  congr 1
  · refine all_ext fun k hk => ?_
    show (!!win fm k j false) = !!win fm j k true
    rw [win_swap w k j false]
    rfl
  · refine all_ext fun k hk => ?_
    show (!!win fm i k false) = !!win fm k i true
    rw [win_swap w i k false]
    rfl
theorem cwF_eq (w : Wf fm) : ∀ (n m g : Nat) (s : Bool), g < n → g < m → cwF fm n g s = cwF fm m g s
  | 0, _, _, _, h, _ => absurd h (Nat.not_lt_zero _)
  | _ + 1, 0, _, _, _, h => absurd h (Nat.not_lt_zero _)
  | n + 1, m + 1, g, s, h1, h2 => by
    unfold cwF
    refine any_ext fun o ho => ?_
    have := w _ _ _ ho
    rw [cwF_eq w n m o (!s) (by omega) (by omega)]
theorem cw_eq (w : Wf fm) (g : Nat) (s : Bool) : cw fm g s = (opts fm g s).any fun o => !cw fm o (!s) := by
  show (opts fm g s).any (fun o => !cwF fm g o (!s)) = _
  refine any_ext fun o ho => ?_
  have := w _ _ _ ho
  unfold cw
  rw [cwF_eq w g (o + 1) o (!s) this (Nat.lt_succ_self _)]
theorem any_same {α β : Type} {f : α → Bool} {g : β → Bool} {l : List α} {m : List β} (h1 : ∀ x ∈ l, f x = true → ∃ y ∈ m, g y = true) (h2 : ∀ y ∈ m, g y = true → ∃ x ∈ l, f x = true) : l.any f = m.any g := by
  cases e : l.any f with
  | true =>
    obtain ⟨x, hx, q⟩ := List.any_eq_true.mp e
    exact (List.any_eq_true.mpr (h1 x hx q)).symm
  | false =>
    cases e2 : m.any g with
    | false => rfl
    | true =>
      obtain ⟨y, hy, q⟩ := List.any_eq_true.mp e2
      rw [List.any_eq_true.mpr (h2 y hy q)] at e
      cases e
end
/-- what the table t says of the sums (i, j) up to (a, b), of each side alike -/
def Tbl (fm fy : List Form) (t : Nat → Nat → Nat) (a b : Nat) : Prop :=
  ∀ i j, i ≤ a → j ≤ b → ∀ s k, k ∈ opts fy (t i j) s ↔ ∃ p ∈ moves fm i j s, k = t p.1 p.2
theorem cw_table {fm fy : List Form} {t : Nat → Nat → Nat} {a b : Nat} (w : Wf fm) (wy : Wf fy) (T : Tbl fm fy t a b) : ∀ (n i j : Nat) (s : Bool), i + j < n → i ≤ a → j ≤ b → cw fy (t i j) s = win fm i j s
  | 0, _, _, _, h, _, _ => absurd h (Nat.not_lt_zero _)
  | n + 1, i, j, s, h, ha, hb => by
    rw [cw_eq wy, win_eq w]
    have step : ∀ p ∈ moves fm i j s, cw fy (t p.1 p.2) (!s) = win fm p.1 p.2 (!s) := fun p hp => by
      obtain ⟨h1, h2, h3⟩ := moves_mem w hp
      exact cw_table w wy T n p.1 p.2 (!s) (by omega) (by omega) (by omega)
    refine any_same (fun k hk q => ?_) (fun p hp q => ?_)
    · obtain ⟨p, hp, rfl⟩ := (T i j ha hb s k).mp hk
      exact ⟨p, hp, by rw [← step p hp]; exact q⟩
    · exact ⟨t p.1 p.2, (T i j ha hb s _).mpr ⟨p, hp, rfl⟩, by rw [step p hp]; exact q⟩
theorem cw_sum {fm fy : List Form} {t : Nat → Nat → Nat} {a b : Nat} (w : Wf fm) (wy : Wf fy) (T : Tbl fm fy t a b) (s : Bool) : cw fy (t a b) s = win fm a b s :=
  cw_table w wy T _ a b s (Nat.lt_succ_self _) (Nat.le_refl _) (Nat.le_refl _)

/-! ### canonical lists -/
def Asc (l : List Nat) : Prop := l.Pairwise (· < ·)
theorem Asc.ext : ∀ {a b : List Nat}, Asc a → Asc b → (∀ k, k ∈ a ↔ k ∈ b) → a = b
  | [], [], _, _, _ => rfl
  | [], y :: b, _, _, h => absurd ((h y).mpr List.mem_cons_self) (by simp)
  | x :: a, [], _, _, h => absurd ((h x).mp List.mem_cons_self) (by simp)
  | x :: a, y :: b, ha, hb, h => by
    obtain ⟨ha1, ha2⟩ := List.pairwise_cons.mp ha
    obtain ⟨hb1, hb2⟩ := List.pairwise_cons.mp hb
    have e : x = y := by
      rcases List.mem_cons.mp ((h x).mp List.mem_cons_self) with e | e
      · exact e
      · rcases List.mem_cons.mp ((h y).mpr List.mem_cons_self) with e' | e'
        · exact e'.symm
        · have q1 := hb1 x e
          have q2 := ha1 y e'
          omega
    subst e
    rw [Asc.ext (a := a) (b := b) ha2 hb2 fun k => ?_]
    have hk := h k
    constructor
    · intro m
      rcases List.mem_cons.mp (hk.mp (List.mem_cons_of_mem _ m)) with e | e
      · subst e
        exact absurd (ha1 k m) (Nat.lt_irrefl _)
      · exact e
    · intro m
      rcases List.mem_cons.mp (hk.mpr (List.mem_cons_of_mem _ m)) with e | e
      · subst e
        exact absurd (hb1 k m) (Nat.lt_irrefl _)
      · exact e
theorem asc_filter {l : List Nat} (f : Nat → Bool) (h : Asc l) : Asc (l.filter f) := List.Pairwise.filter f h
theorem asc_range (n : Nat) : Asc (List.range n) := List.pairwise_lt_range
def top (l : List Nat) : Nat := l.foldr (fun k m => max (k + 1) m) 0
theorem lt_top : ∀ {l : List Nat} {k : Nat}, k ∈ l → k < top l
  | x :: r, k, h => by
    show k < max (x + 1) (top r)
    rcases List.mem_cons.mp h with e | e
    · subst e; omega
    · have := lt_top e
      omega
/-- ascending, without duplicates -/
def canon (l : List Nat) : List Nat := (List.range (top l)).filter fun k => decide (k ∈ l)
theorem mem_canon {l : List Nat} {k : Nat} : k ∈ canon l ↔ k ∈ l := by
  unfold canon
  rw [List.mem_filter, List.mem_range]
  constructor
  · rintro ⟨_, h⟩
    exact of_decide_eq_true h
  · intro h
    exact ⟨lt_top h, decide_eq_true h⟩
theorem asc_canon (l : List Nat) : Asc (canon l) := asc_filter _ (asc_range _)
theorem canon_self {l : List Nat} (h : Asc l) : canon l = l := (asc_canon l).ext h fun _ => mem_canon
theorem canon_of {l c : List Nat} (h : Asc c) (m : ∀ k, k ∈ c ↔ k ∈ l) : c = canon l := h.ext (asc_canon l) fun k => (m k).trans mem_canon.symm
theorem canon_range {l : List Nat} {n : Nat} (h : ∀ k ∈ l, k < n) : ((List.range n).filter fun k => decide (k ∈ l)) = canon l :=
  canon_of (asc_filter _ (asc_range n)) fun k => by
    rw [List.mem_filter, List.mem_range]
    exact ⟨fun q => of_decide_eq_true q.2, fun q => ⟨h k q, decide_eq_true q⟩⟩
theorem asc_len : ∀ {l : List Nat} {n : Nat}, Asc l → (∀ k ∈ l, k < n) → l.length ≤ n := fun {l n} h hk => by
  have e : l = (List.range n).filter fun k => decide (k ∈ l) := by rw [canon_range hk, canon_self h]
  rw [e]
  have := List.length_filter_le (fun k => decide (k ∈ l)) (List.range n)
  rw [List.length_range] at this
  exact this

/-! ### forms that are kept -/
structure Good (fm : List Form) : Prop where
  pos : fm[0]? = some ([], [])
  wf : Wf fm
  asc : ∀ f ∈ fm, Asc f.1 ∧ Asc f.2
  nd : fm.Nodup
theorem opts_of {fm : List Form} {i : Nat} {f : Form} (h : fm[i]? = some f) (s : Bool) : opts fm i s = sideOf f s := by
  unfold opts
  rw [List.getD_eq_getElem?_getD, h]
  rfl
theorem opts_out {fm : List Form} {i : Nat} (h : fm.length ≤ i) (s : Bool) : opts fm i s = [] := by
  unfold opts
  rw [List.getD_eq_getElem?_getD, List.getElem?_eq_none h]
  cases s <;> rfl
theorem opts_app {fm : List Form} {i : Nat} (g : List Form) (h : i < fm.length) (s : Bool) : opts (fm ++ g) i s = opts fm i s := by
  unfold opts
  rw [List.getD_eq_getElem?_getD, List.getD_eq_getElem?_getD, List.getElem?_append_left h]
theorem wf_snoc {fm : List Form} {f : Form} (w : Wf fm) (h : ∀ s k, k ∈ sideOf f s → k < fm.length) : Wf (fm ++ [f]) := by
  intro i s k hk
  by_cases hi : i < fm.length
  · rw [opts_app _ hi] at hk
    exact w i s k hk
  · by_cases he : i = fm.length
    · subst he
      have e : (fm ++ [f])[fm.length]? = some f := by rw [List.getElem?_append_right (Nat.le_refl _), Nat.sub_self]; rfl
      rw [opts_of e] at hk
      exact h s k hk
    · rw [opts_out (by rw [List.length_append, List.length_singleton]; omega)] at hk
      cases hk
theorem Good.one : Good [([], [])] := by
  refine ⟨rfl, fun i s k h => ?_, fun f h => ?_, List.nodup_cons.mpr ⟨by simp, List.nodup_nil⟩⟩
  · cases i with
    | zero => cases s <;> cases h
    | succ i =>
      rw [opts_out (by simp)] at h
      cases h
  · rw [List.mem_singleton.mp h]
    exact ⟨List.Pairwise.nil, List.Pairwise.nil⟩
theorem Good.len {fm : List Form} (g : Good fm) : 0 < fm.length := (List.getElem?_eq_some_iff.mp g.pos).1
theorem Good.snoc {fm : List Form} {f : Form} (g : Good fm) (h : ∀ s k, k ∈ sideOf f s → k < fm.length) (a : Asc f.1 ∧ Asc f.2) (n : f ∉ fm) : Good (fm ++ [f]) := by
  refine ⟨by rw [List.getElem?_append_left g.len]; exact g.pos, wf_snoc g.wf h, fun x hx => ?_, ?_⟩
  · rcases List.mem_append.mp hx with q | q
    · exact g.asc x q
    · rw [List.mem_singleton.mp q]; exact a
  · rw [List.nodup_append]
    refine ⟨g.nd, List.nodup_cons.mpr ⟨by simp, List.nodup_nil⟩, fun x hx y hy e => ?_⟩
    rw [List.mem_singleton.mp hy] at e
    exact n (e ▸ hx)
/-- the form of two lists of numbers -/
def formOf (ls rs : List Nat) : Form := (canon ls, canon rs)
theorem formOf_lt {ls rs : List Nat} {n : Nat} (h1 : ∀ k ∈ ls, k < n) (h2 : ∀ k ∈ rs, k < n) : ∀ s k, k ∈ sideOf (formOf ls rs) s → k < n := fun s k hk => by
  cases s with
  | false => exact h1 k (mem_canon.mp hk)
  | true => exact h2 k (mem_canon.mp hk)
/-- the forms behind a call of game -/
def added (fm : List Form) (f : Form) : List Form := if f ∈ fm then fm else fm ++ [f]
theorem added_old {fm : List Form} {f : Form} (h : f ∈ fm) : added fm f = fm := if_pos h
theorem added_new {fm : List Form} {f : Form} (h : f ∉ fm) : added fm f = fm ++ [f] := if_neg h
theorem added_pre (fm : List Form) (f : Form) : ∃ g, added fm f = fm ++ g := by
  by_cases h : f ∈ fm
  · exact ⟨[], by rw [added_old h, List.append_nil]⟩
  · exact ⟨[f], added_new h⟩
theorem Good.added {fm : List Form} {ls rs : List Nat} (g : Good fm) (h1 : ∀ k ∈ ls, k < fm.length) (h2 : ∀ k ∈ rs, k < fm.length) : Good (added fm (formOf ls rs)) := by
  by_cases h : formOf ls rs ∈ fm
  · rw [added_old h]; exact g
  · rw [added_new h]; exact g.snoc (formOf_lt h1 h2) ⟨asc_canon _, asc_canon _⟩ h
theorem added_len (fm : List Form) (f : Form) : (added fm f).length ≤ fm.length + 1 := by
  by_cases h : f ∈ fm
  · rw [added_old h]; omega
  · rw [added_new h, List.length_append]; exact Nat.le_refl _
end K20
set_option Elab.async false
set_option linter.all false
set_option maxRecDepth 100000
set_option maxHeartbeats 4000000
/-! KNum: a dict whose keys are pairs of tuples of numbers, told by its list of forms: the i-th key holds the number i. -/
namespace K20
open PySem PySem.Spec PyProof.Rows L2

def nI (ns : List Nat) : List V := ns.map fun (n : Nat) => V.int (n : Int)
def nkey (ns : List Nat) : NestedKey := .tup (ns.map fun (n : Nat) => NestedKey.num (n : Int))
def fkey (f : Form) : NestedKey := .tup [nkey f.1, nkey f.2]
theorem nums_inj : ∀ {a b : List Nat}, (a.map fun (n : Nat) => NestedKey.num (n : Int)) = (b.map fun (n : Nat) => NestedKey.num (n : Int)) → a = b
  | [], [], _ => rfl
  | [], _ :: _, e => by simp at e
  | _ :: _, [], e => by simp at e
  | x :: xs, y :: ys, e => by
    rw [List.map_cons, List.map_cons] at e
    injection e with e1 e2
    injection e1 with e1
    rw [nums_inj e2, Int.ofNat_inj.mp e1]
theorem fkey_inj {f g : Form} (e : fkey f = fkey g) : f = g := by
  obtain ⟨a, b⟩ := f
  obtain ⟨c, d⟩ := g
  unfold fkey nkey at e
  injection e with e
  injection e with e1 e2
  injection e2 with e2 _
  injection e1 with e1
  injection e2 with e2
  have q1 : a = c := nums_inj e1
  have q2 : b = d := nums_inj e2
  rw [q1, q2]

/-- at a stands the tuple of the two tuples of a form -/
def KeyAt (H : Hp) (a : Addr) (f : Form) : Prop := ∃ la ra : Addr, H a = some (.tup [.ref la, .ref ra]) ∧ H la = some (.tup (nI f.1)) ∧ H ra = some (.tup (nI f.2))
theorem KeyAt.keep {H H' : Hp} {a : Addr} {f : Form} (k : KeyAt H a f) (t : ∀ b xs, H b = some (.tup xs) → H' b = some (.tup xs)) : KeyAt H' a f :=
  let ⟨la, ra, h1, h2, h3⟩ := k
  ⟨la, ra, t _ _ h1, t _ _ h2, t _ _ h3⟩
def NumO (P : Program) (w : World) (a : Addr) (xs : List (NestedKey × Addr × Value)) : HO :=
  .ext fun h => ∃ o es ep, h.get? a = some o ∧ o.ExactDict ∧ o.data = .dict es ep ∧ es.toList = xs.map (entryOfKey (nestedKind P w)) ∧ (xs.map (·.1)).Nodup
/-- the dict at d: the form fm[i] has the number i -/
structure NumAt (P : Program) (w : World) (H : Hp) (d : Addr) (fm : List Form) : Prop where
  sys : (d == sysModules) = false
  ex : ∃ xs : List (NestedKey × Addr × Value), H d = some (NumO P w d xs) ∧ xs.length = fm.length ∧
    ∀ (i : Nat) (x : NestedKey × Addr × Value) (f : Form), xs[i]? = some x → fm[i]? = some f → x.1 = fkey f ∧ KeyAt H x.2.1 f ∧ ∃ t, x.2.2 = Value.int (i : Int) t
theorem NumAt.keep {P : Program} {w : World} {H H' : Hp} {d : Addr} {fm : List Form} (n : NumAt P w H d fm) (hd : H' d = H d) (t : ∀ b xs, H b = some (.tup xs) → H' b = some (.tup xs)) : NumAt P w H' d fm :=
  ⟨n.sys, let ⟨xs, h1, h2, h3⟩ := n.ex; ⟨xs, hd.trans h1, h2, fun i x f a b => ⟨(h3 i x f a b).1, (h3 i x f a b).2.1.keep t, (h3 i x f a b).2.2⟩⟩⟩
theorem NumAt.isExt {P : Program} {w : World} {H : Hp} {d : Addr} {fm : List Form} (n : NumAt P w H d fm) : ∃ φ, H d = some (.ext φ) := let ⟨_, h, _⟩ := n.ex; ⟨_, h⟩

section
variable {P : Program} {w : World} {H : Hp} {h : Heap} {a d : Addr} {f : Form}
theorem nums_all : ∀ {ns : List Nat} {us : List Value}, Vals (nI ns) us → NestedAll h (ns.map fun (n : Nat) => NestedKey.num (n : Int)) us
  | [], _, .nil => .nil
  | n :: ns, _, .cons r t => by
    obtain ⟨tk, rfl⟩ := r
    exact .cons (.int _ _) (nums_all t)
theorem tup_is {ns : List Nat} (ok : HOk P w H h) (e : H a = some (.tup (nI ns))) : NestedIs h (nkey ns) (.ref a) := by
  obtain ⟨_, its, r, o, h1, h2, n, h3⟩ := (show ObjOk P w H h a (.tup (nI ns)) from ok a _ e)
  exact .tup h1 h2 h3 (by simpa using nums_all r)
theorem depth_nums : ∀ ns : List Nat, NestedKey.depthAll (ns.map fun (n : Nat) => NestedKey.num (n : Int)) = 0
  | [] => rfl
  | n :: ns => by
    rw [List.map_cons, NestedKey.depthAll, depth_nums ns]
    rfl
theorem fkey_depth (f : Form) : (fkey f).depth ≤ 8 := by
  simp only [fkey, nkey, NestedKey.depth, NestedKey.depthAll, depth_nums]
  omega
theorem key_is (ok : HOk P w H h) (k : KeyAt H a f) : (nestedKind P w).is h (fkey f) a := by
  obtain ⟨la, ra, h1, h2, h3⟩ := k
  obtain ⟨_, its, r, o, e1, e2, n, e3⟩ := (show ObjOk P w H h a (.tup [.ref la, .ref ra]) from ok a _ h1)
  refine ⟨?_, fkey_depth f⟩
  cases r with
  | cons r1 r2 =>
    cases r2 with
    | cons r3 r4 =>
      cases r4
      cases r1
      cases r3
      exact .tup e1 e2 e3 (.cons (tup_is ok h2) (.cons (tup_is ok h3) .nil))
theorem num_of {fm : List Form} (ok : HOk P w H h) (n : NumAt P w H d fm) : ∃ xs : List (NestedKey × Addr × Value), H d = some (NumO P w d xs) ∧ xs.length = fm.length ∧
    (∀ (i : Nat) (x : NestedKey × Addr × Value) (f : Form), xs[i]? = some x → fm[i]? = some f → x.1 = fkey f ∧ KeyAt H x.2.1 f ∧ ∃ t, x.2.2 = Value.int (i : Int) t) ∧ h.DictOfH (nestedKind P w) d xs := by
  obtain ⟨xs, h1, h2, h3⟩ := n.ex
  obtain ⟨o, es, ep, e1, e2, e3, e4, e5⟩ := (show ObjOk P w H h d (NumO P w d xs) from ok d _ h1).1
  refine ⟨xs, h1, h2, h3, o, es, ep, e1, e2, e3, e4, fun x hx => ?_, e5⟩
  obtain ⟨i, hi⟩ := List.mem_iff_getElem?.mp hx
  have hl : i < fm.length := by rw [← h2]; exact (List.getElem?_eq_some_iff.mp hi).1
  obtain ⟨q1, q2, _⟩ := h3 i x _ hi (List.getElem?_eq_getElem hl)
  rw [q1]
  exact key_is ok q2
/-- what is found at a form -/
theorem at_some {fm : List Form} {xs : List (NestedKey × Addr × Value)} (hl : xs.length = fm.length) (nd : (xs.map (·.1)).Nodup)
    (all : ∀ (i : Nat) (x : NestedKey × Addr × Value) (f : Form), xs[i]? = some x → fm[i]? = some f → x.1 = fkey f ∧ KeyAt H x.2.1 f ∧ ∃ t, x.2.2 = Value.int (i : Int) t) {i : Nat} (hi : fm[i]? = some f) :
    ∃ (p : Addr × Value) (t : Tok), atKey xs (fkey f) = some p ∧ p.2 = Value.int (i : Int) t := by
  have hlt : i < xs.length := by rw [hl]; exact (List.getElem?_eq_some_iff.mp hi).1
  have hx : xs[i]? = some xs[i] := List.getElem?_eq_getElem hlt
  obtain ⟨q1, _, t, q3⟩ := all i _ f hx hi
  have e : xs[i] = (fkey f, xs[i].2) := by rw [← q1]
  exact ⟨xs[i].2, t, atKey_of_get nd (hx.trans (congrArg some e)), q3⟩
theorem at_none {fm : List Form} {xs : List (NestedKey × Addr × Value)} (hl : xs.length = fm.length)
    (all : ∀ (i : Nat) (x : NestedKey × Addr × Value) (f : Form), xs[i]? = some x → fm[i]? = some f → x.1 = fkey f ∧ KeyAt H x.2.1 f ∧ ∃ t, x.2.2 = Value.int (i : Int) t) (hn : f ∉ fm) :
    atKey xs (fkey f) = none := by
  refine atKey_none_of_get fun j p hj => hn ?_
  have hlt : j < fm.length := by rw [← hl]; exact (List.getElem?_eq_some_iff.mp hj).1
  have e := (all j _ _ hj (List.getElem?_eq_getElem hlt)).1
  rw [fkey_inj e]
  exact List.getElem_mem hlt
theorem at_isSome {fm : List Form} {xs : List (NestedKey × Addr × Value)} (hl : xs.length = fm.length) (nd : (xs.map (·.1)).Nodup)
    (all : ∀ (i : Nat) (x : NestedKey × Addr × Value) (f : Form), xs[i]? = some x → fm[i]? = some f → x.1 = fkey f ∧ KeyAt H x.2.1 f ∧ ∃ t, x.2.2 = Value.int (i : Int) t) :
    (atKey xs (fkey f)).isSome = decide (f ∈ fm) := by
  by_cases hm : f ∈ fm
  · obtain ⟨i, hi⟩ := List.mem_iff_getElem?.mp hm
    obtain ⟨p, t, e, _⟩ := at_some hl nd all hi
    rw [e, decide_eq_true hm] <;> rfl
  · rw [at_none hl all hm, decide_eq_false hm] <;> rfl
theorem numO_new {xs : List (NestedKey × Addr × Value)} (dd : h.DictOfH (nestedKind P w) d xs) : ObjOk P w H h d (NumO P w d xs) := by
  obtain ⟨o, es, ep, h1, h2, h3, h4, _, h5⟩ := dd
  refine ⟨⟨o, es, ep, h1, h2, h3, h4, h5⟩, ⟨o, h1⟩, fun g1 g2 q k => ?_⟩
  obtain ⟨o', es', ep', e1, r⟩ := q
  exact ⟨o', es', ep', k _ e1, r⟩
end

section
variable {X : Cx} {pins : List (Addr × Obj)} {σ : L2.St} {H : Hp} {s : Shared} {d b : Addr} {f : Form} {fm : List Form} {A : Around} {E : Value → Shared → Prop}
theorem n_room {A : Around} (hu : A.units + 64 < cLine) : (nestedKind X.prog X.w).room A.in1 := by
  show A.units + 1 + 8 < cLine
  omega
theorem n_notIn {Q : Value → Shared → Prop} (hu : A.units + 64 < cLine) (I : Inv X pins σ H s) (n : NumAt X.prog X.w H d fm) (k : KeyAt H b f) (h : ∀ s', Inv X pins σ H s' → Q (.bool (!decide (f ∈ fm))) s') :
    wpAny (model X.prog X.w) A (compareOp .NotIn (.ref b) (.ref d)) Q E s := by
  obtain ⟨xs, _, hl, all, dd⟩ := num_of I.hok n
  refine wpAny_notIn_heap (n_room hu) (key_is I.hok k) n.sys dd ?_
  have nd := dd
  obtain ⟨_, _, _, _, _, _, _, _, nd⟩ := nd
  rw [at_isSome hl nd all]
  exact h _ (I.tok _)
theorem n_get {i : Nat} {Q : Value → Shared → Prop} (hu : A.units + 64 < cLine) (I : Inv X pins σ H s) (n : NumAt X.prog X.w H d fm) (k : KeyAt H b f) (hi : fm[i]? = some f)
    (h : ∀ s' t, Inv X pins σ H s' → Q (.int (i : Int) t) s') : wpAny (model X.prog X.w) A (getItem (.ref d) (.ref b)) Q E s := by
  obtain ⟨xs, _, hl, all, dd⟩ := num_of I.hok n
  have nd := dd
  obtain ⟨_, _, _, _, _, _, _, _, nd⟩ := nd
  obtain ⟨p, t, e, ep⟩ := at_some hl nd all hi
  refine wpAny_getItem_heap (n_room hu) (key_is I.hok k) dd e ?_
  rw [ep]
  exact h _ t (I.tok _)
theorem n_typeIs (I : Inv X pins σ H s) (n : NumAt X.prog X.w H d fm) : s.TypeIs (.ref d) "dict" := by
  obtain ⟨xs, _, _, _, dd⟩ := num_of I.hok n
  exact dd.typeIs
/-- one entry more -/
theorem numAt_snoc {P : Program} {w : World} {H : Hp} {xs : List (NestedKey × Addr × Value)} {v : Value} {t : Tok} (n : NumAt P w H d fm) (hx : H d = some (NumO P w d xs)) (hl : xs.length = fm.length)
    (all : ∀ (i : Nat) (x : NestedKey × Addr × Value) (f : Form), xs[i]? = some x → fm[i]? = some f → x.1 = fkey f ∧ KeyAt H x.2.1 f ∧ ∃ t, x.2.2 = Value.int (i : Int) t) (k : KeyAt H b f) (hv : v = Value.int (fm.length : Int) t) :
    NumAt P w (upd H d (NumO P w d (xs ++ [(fkey f, b, v)]))) d (fm ++ [f]) := by
  have tk : ∀ c ys, H c = some (.tup ys) → (upd H d (NumO P w d (xs ++ [(fkey f, b, v)]))) c = some (.tup ys) := fun c ys e => by
    rw [upd_ne (ne_of e hx (fun z => nomatch z))]
    exact e
  refine ⟨n.sys, _, upd_same, by rw [List.length_append, List.length_append, hl] <;> rfl, fun i x g a c => ?_⟩
  by_cases hi : i < xs.length
  · rw [List.getElem?_append_left hi] at a
    rw [List.getElem?_append_left (by rw [← hl]; exact hi)] at c
    obtain ⟨q1, q2, q3⟩ := all i x g a c
    exact ⟨q1, q2.keep tk, q3⟩
  · have hi' : xs.length ≤ i := Nat.le_of_not_lt hi
    rw [List.getElem?_append_right hi'] at a
    rw [List.getElem?_append_right (by rw [← hl]; exact hi')] at c
    have h0 : i - xs.length = 0 := by
      have q := (List.getElem?_eq_some_iff.mp a).1
      rw [List.length_singleton] at q
      omega
    rw [h0] at a
    have h0' : i - fm.length = 0 := by rw [← hl]; exact h0
    rw [h0'] at c
    have ea : (fkey f, b, v) = x := Option.some.inj a
    have ec : f = g := Option.some.inj c
    subst ea
    subst ec
    have ei : i = fm.length := by omega
    exact ⟨rfl, k.keep tk, t, by rw [hv, ei]⟩
theorem n_put {v : Value} {t : Tok} {Q : Unit → Shared → Prop} (hu : A.units + 64 < cLine) (I : Inv X pins σ H s) (n : NumAt X.prog X.w H d fm) (k : KeyAt H b f) (hn : f ∉ fm) (hz : fm.length < sizeLine) (hv : v = Value.int (fm.length : Int) t)
    (h : ∀ s' o, Inv X pins σ (upd H d o) s' → NumAt X.prog X.w (upd H d o) d (fm ++ [f]) → Q () s') : wpAny (model X.prog X.w) A (setItem (.ref d) (.ref b) v) Q E s := by
  obtain ⟨xs, hx, hl, all, dd⟩ := num_of I.hok n
  have hzx : xs.length ≤ sizeLine := by rw [hl]; exact Nat.le_of_lt hz
  refine wpAny_setItem_heap (hsz := hzx) (n_room hu) (key_is I.hok k) dd fun h' dd' hs => ?_
  rw [storedH_new (at_none hl all hn)] at dd'
  have he : ∃ q, h'.get? d = some q := let ⟨q, _, _, hq, _⟩ := dd'; ⟨q, hq⟩
  refine h _ (NumO X.prog X.w d (xs ++ [(fkey f, b, v)])) (d_write I (by rw [hx]; exact True.intro) hs he (numO_new dd')) (numAt_snoc n hx hl all k hv)
end

def tNNotIn (P : Program) (w : World) (ty td : TE) : TE := fun σ H Q => ty σ H fun y H1 => td σ H1 fun x H2 => ∃ (d b : Addr) (f : Form) (fm : List Form), x = .ref d ∧ y = .ref b ∧ NumAt P w H2 d fm ∧ KeyAt H2 b f ∧ Q (.bl (!decide (f ∈ fm))) H2
def tNGet (P : Program) (w : World) (td ty : TE) : TE := fun σ H Q => td σ H fun x H1 => ty σ H1 fun y H2 => ∃ (d b : Addr) (f : Form) (fm : List Form) (i : Nat), x = .ref d ∧ y = .ref b ∧ NumAt P w H2 d fm ∧ KeyAt H2 b f ∧ fm[i]? = some f ∧ Q (.int (i : Int)) H2
def sNPut (P : Program) (w : World) (td ty tv : TE) : TS := fun D σ H => tv σ H fun v H1 => td σ H1 fun x H2 => ty σ H2 fun y H3 => ∃ (d b : Addr) (f : Form) (fm : List Form), x = .ref d ∧ y = .ref b ∧ v = .int (fm.length : Int) ∧ NumAt P w H3 d fm ∧ KeyAt H3 b f ∧
  f ∉ fm ∧ fm.length < sizeLine ∧ ∀ o, NumAt P w (upd H3 d o) d (fm ++ [f]) → D.nx σ (upd H3 d o)
section
variable {X : Cx} {o i value : Expr} {pos pos' : Pos} {td ty tv : TE}
theorem pc_nnotin (hu : X.A.units + 64 < cLine) (hi : PE X i ty) (ho : PE X o td) : PC X .NotIn i o (tNNotIn X.prog X.w ty td) := by
  refine ⟨fun pins s σ H Q I h => ?_⟩
  refine thn (hi.run pins s σ H _ I h) fun iv s1 ⟨y, H1, I1, ry, q1⟩ => thn (ho.run pins s1 σ H1 _ I1 q1) fun u s2 ⟨x, H2, I2, rx, d, b, f, fm, ex, ey, n, k, q2⟩ => ?_
  subst ex ey
  obtain rfl : u = Value.ref d := rx
  obtain rfl : iv = Value.ref b := ry
  exact n_notIn hu I2 n k fun s3 I3 => ⟨.bl (!decide (f ∈ fm)), H2, I3, rfl, q2⟩
theorem pe_nget (hu : X.A.units + 64 < cLine) (ho : PE X o td) (hi : PE X i ty) (hs : NoSl i) : PE X (.Subscript o i pos) (tNGet X.prog X.w td ty) := by
  refine ⟨fun pins s σ H Q I h => ?_⟩
  refine subD_of PySem.F.slot_dict_getitem.lookup hs (thn (ho.run pins s σ H _ I h) fun u s1 ⟨x, H1, I1, rx, q1⟩ => thn (hi.run pins s1 σ H1 _ I1 q1) fun iv s2 ⟨y, H2, I2, ry, d, b, f, fm, j, ex, ey, n, k, hj, q2⟩ => ?_)
  subst ex ey
  obtain rfl : u = Value.ref d := rx
  obtain rfl : iv = Value.ref b := ry
  exact ⟨n_typeIs I2 n, n_get hu I2 n k hj fun s3 t I3 => ⟨.int (j : Int), H2, I3, ⟨t, rfl⟩, q2⟩⟩
theorem ps_nput (hu : X.A.units + 64 < cLine) (ho : PE X o td) (hi : PE X i ty) (hv : PE X value tv) (hs : swapsWith value (some (.Subscript o i pos')) pos.line X.env = pure false) :
    PS X (.Assign [.Subscript o i pos'] value pos) (sNPut X.prog X.w td ty tv) := by
  refine ⟨fun pins s σ H D I h => ?_⟩
  refine wpAny_Assign_Subscript (thn (hv.run pins s σ H _ I h) fun r s1 ⟨v, H1, I1, rv, q1⟩ => thn (ho.run pins s1 σ H1 _ I1 q1) fun u s2 ⟨x, H2, I2, rx, q2⟩ => thn (hi.run pins s2 σ H2 _ I2 q2) fun iv s3 ⟨y, H3, I3, ry, d, b, f, fm, ex, ey, ev, n, k, hn, hz, q3⟩ => ?_) hs
  subst ex ey ev
  obtain rfl : u = Value.ref d := rx
  obtain rfl : iv = Value.ref b := ry
  obtain ⟨t, rfl⟩ := (show ∃ t, r = Value.int _ t from rv)
  exact n_put hu I3 n k hn hz rfl fun s4 ob I4 n4 => ⟨σ, _, I4, q3 ob n4⟩
/-- the display of one pair, its key a form -/
def tNDisp (P : Program) (w : World) (trs : List (TE × TE)) : TE := fun σ H Q => ∀ p, H p = none → tPairs trs σ (upd H p (NumO P w p [])) fun ps H2 => ∃ (b : Addr) (f : Form), ps = [(.ref b, .int 0)] ∧ H2 p = some (NumO P w p []) ∧ KeyAt H2 b f ∧
  ∀ o, NumAt P w (upd H2 p o) p [f] → Q (.ref p) (upd H2 p o)
theorem pe_ndisp {P : Program} {w : World} {keys : List (Option Expr)} {values : List Expr} {trs : List (TE × TE)} (eP : X.prog = P) (ew : X.w = w) (hu : X.A.units + 64 < cLine) (h : PPs X pos keys values trs) (hall : keys.all (·.isSome) = true) (hl : keys.length = values.length) (h0 : keys ≠ [])
    (h15 : keys.length ≤ 15) : PE X (.Dict keys values pos) (tNDisp P w trs) := by
  subst eP ew
  refine ⟨fun pins s σ H Q I q => ?_⟩
  have hn := I.hok.fresh (Nat.le_refl s.heap.objs.size)
  have hsys : (s.heap.objs.size == sysModules) = false := beq_eq_false_iff_ne.mpr (Ne.symm (Nat.ne_of_lt I.big))
  have e0 : (s.heap.push { cls := .type "dict", data := .dict #[] }).DictOfH (nestedKind X.prog X.w) s.heap.objs.size [] := Heap.DictOfH.new s.heap
  have I1 := I.laid (a := s.heap.objs.size) (o := NumO X.prog X.w s.heap.objs.size []) (h' := s.heap.push { cls := .type "dict", data := .dict #[] }) (t' := s.toks) (fun _ _ q => Heap.get?_push_of_some _ q) (Nat.le_refl _) (numO_new e0)
  have hlen := pairTrees_length keys values X.env pos hall hl
  have h0' : pairTrees keys values X.env pos ≠ [] := fun he => by rw [he] at hlen; exact h0 (List.length_eq_zero_iff.mp hlen.symm)
  rw [arm_eval_Dict, zip_pairTrees keys values X.env pos hall hl, dictDisplay_pairs _ h0' (by omega)]
  refine wpAny_bind (wpAny_standAt (wpAny_bind (wpAny_subDictH (knd := nestedKind X.prog X.w) (Q := fun d s' => wpAny (model X.prog X.w) X.A (pure (Value.ref d)) (EP X pins σ Q) X.xe s') (by show X.A.units + 8 < cLine; omega) (by rw [hlen]; exact h15)
    (thn (h.run pins _ σ _ _ I1 (q _ hn)) fun ws s2 ⟨ps, H2, I2, rel, b, f, ep, hp, k, q2⟩ => ?_))))
  subst ep
  cases rel with
  | @cons p0 y ps0 qs0 r1 r2 =>
    cases r2
    obtain ⟨y1, y2⟩ := y
    obtain ⟨ra, rb⟩ := r1
    obtain rfl : y1 = Value.ref b := ra
    obtain ⟨t, rfl⟩ := (show ∃ t, y2 = Value.int 0 t from rb)
    obtain ⟨o, es, ep', g1, g2, g3, g4, g5⟩ := (show ObjOk X.prog X.w H2 s2.heap _ (NumO X.prog X.w s.heap.objs.size []) from I2.hok _ _ hp).1
    have dd : s2.heap.DictOfH (nestedKind X.prog X.w) s.heap.objs.size [] := ⟨o, es, ep', g1, g2, g3, g4, fun x hx => (by cases hx), g5⟩
    have n0 : NumAt X.prog X.w H2 s.heap.objs.size [] := ⟨hsys, [], hp, rfl, fun i x f a => by simp at a⟩
    refine ⟨[(fkey f, b, Value.int 0 t)], ⟨rfl, rfl, key_is I2.hok k, trivial⟩, dd, fun h' tk dk hs => wpAny_pure ?_⟩
    have dk' : h'.DictOfH (nestedKind X.prog X.w) s.heap.objs.size [(fkey f, b, Value.int 0 t)] := dk
    have he : ∃ q, h'.get? s.heap.objs.size = some q := let ⟨q, _, _, hq, _⟩ := dk'; ⟨q, hq⟩
    have n1 := numAt_snoc (f := f) (b := b) (t := t) (v := Value.int 0 t) n0 hp rfl (fun i x f a => by simp at a) k rfl
    exact ⟨.ref s.heap.objs.size, _, d_write I2 (by rw [hp]; exact True.intro) hs he (numO_new dk'), rfl, q2 _ n1⟩
end
end K20
set_option Elab.async false
set_option linter.all false
set_option maxRecDepth 100000
set_option maxHeartbeats 4000000
/-! KSet: set(xs) of a list of ints, as a thing that sorted can read. -/
namespace K20
open PySem PySem.Spec PyProof.Rows L2
section
variable {P : Program} {w : World} {A : Around} {E : Value → Shared → Prop} {s : Shared}
/-- the object that a new set is -/
abbrev freshSet (w : World) : Obj := { cls := .type "set", dict := none, data := .set #[] 0 (.fresh 0 0 (!w.params.followText "set-order")) }
theorem set_of_list {l : Addr} {items : Array Value} (ns : List Int) {Q : Value → Shared → Prop} (hh : A.handled = none) (hl : s.heap.IsList l items) (hit : IntsAre items.toList ns) (hb : ns.length + 1 < scanBound)
    (h : ∀ (g : Heap) (tk c : Nat), SetR w g s.heap.objs.size (fun j => decide (j ∈ ns)) c → c ≤ ns.length → (∀ b o, s.heap.get? b = some o → g.get? b = some o) → Q (.ref s.heap.objs.size) { s with heap := g, toks := tk }) :
    wpAny (model P w) A (call (.type "set") [.ref l]) Q E s := by
  have size : items.size = ns.length := by rw [← Array.length_toList]; exact IntsAre.length hit
  have lOld : l < s.heap.objs.size := let ⟨_, e, _⟩ := hl; Heap.lt_size e
  obtain ⟨c, tl, hmro⟩ := F.called_set.mro
  have w1 := F.called_set.made
  have w2 := F.called_set.sub
  have w3 := F.called_set.notType
  have w4 := F.called_set.canCreate
  have w5 := F.typeCall_set_1 (.ref l)
  refine wpAny_call (codeAny_of_tree ?_)
  show wpAny _ _ (callAny (.type "set") _) _ _ _
  refine wpAny_pure ⟨Code.quiet_builtin _ (by decide +kernel), codeAny_builtin F.entry_type_call ?_⟩
  rw [Around.under_plain (weight_type_call_type "set" [.ref l] []) rfl]
  repeat (any_goals (first | assumption | wp_step))
  refine codeAny_mono (code_set_led1 (.ref l) (E := E) (Q₁ := fun obj s1 => obj = .ref s.heap.objs.size ∧ s1 = { s with heap := s.heap.push (freshSet w) }) ⟨rfl, rfl⟩) fun r s1 hr => ?_
  match r, hr with
  | .error _, hr => exact hr
  | .ok .next, hr => exact hr.elim
  | .ok .brk, hr => exact hr.elim
  | .ok .cont, hr => exact hr.elim
  | .ok (.ret obj), hr =>
    obtain ⟨rfl, rfl⟩ := hr
    have at0 : (s.heap.push (freshSet w)).get? s.heap.objs.size = some (freshSet w) := Heap.get?_push_size _ rfl
    have ty0 : Shared.TypeIs { s with heap := s.heap.push (freshSet w) } (.ref s.heap.objs.size) "set" := ⟨_, at0, rfl⟩
    have w6 := F.called_set.init.lookup
    have w7 := F.called_set.init.bind (.ref s.heap.objs.size)
    repeat (any_goals (first | assumption | wp_step))
    refine codeAny_mono (codeAny_call_builtin (R := wants (fun r s2 => r = .none ∧ ∃ g tk c, s2 = { s with heap := g, toks := tk } ∧ SetR w g s.heap.objs.size (fun j => decide (j ∈ ns)) c ∧ c ≤ ns.length ∧ ∀ b o, s.heap.get? b = some o → g.get? b = some o) E)
      F.called_set.init.plain F.entry_set_init (check_set_init_1 ty0 ?_)) fun r2 s2 hr2 => ?_
    · obtain ⟨⟨oc, od, odata, osl⟩, hol, hc, n, hd⟩ := hl
      simp only at hc hd
      subst hc
      subst hd
      have lst1 : (s.heap.push (freshSet w)).IsList l items := ⟨_, Heap.get?_push_of_some _ hol, rfl, n, rfl⟩
      have ho1 : (s.heap.push (freshSet w)).get? l = some { cls := .type "list", dict := od, data := .seq items n, slots := osl } := Heap.get?_push_of_some _ hol
      have v1 := F.sub_list_set
      have v2 := F.sub_list_frozenset
      have v3 : (Value.type "list" == Value.type "dict") = false := by decide
      unfold Builtin.«set.__init__» noKeywords Builtin.Frozenset.updateFrom
      generalize hPI : pyIter = PI
      wp_walk
      subst hPI
      refine wpAny_pyIter_list lst1 (wpAny_bind (wpAny_runValue ?_))
      have calm : A.in1.in1.in1.handled = none := by simp [hh]
      have sz1 : (s.heap.push (freshSet w)).objs.size = s.heap.objs.size + 1 := Heap.size_push ..
      have ne1 : l ≠ (s.heap.push (freshSet w)).objs.size := by rw [sz1]; exact Nat.ne_of_lt (Nat.lt_succ_of_lt lOld)
      have apart : s.heap.objs.size ∉ [(s.heap.push (freshSet w)).objs.size, l] := fun q => by
        rw [sz1] at q
        rcases List.mem_cons.mp q with z | z
        · exact absurd z (Nat.ne_of_lt (Nat.lt_succ_self _))
        · exact absurd (List.mem_singleton.mp z) (Nat.ne_of_gt lOld)
      have val : ∀ (i : Nat) (v : Value), items[i]? = some v → ∃ k t, ns[i]? = some k ∧ v = .int k t := fun i v hv => by
        have hi : i < ns.length := by rw [← size]; exact (Array.getElem?_eq_some_iff.mp hv).1
        obtain ⟨t, e⟩ := PyProof.Rows.IntsAre.int_at hit i v (by rw [Array.getElem?_toList]; exact hv)
        exact ⟨ns[i], t, List.getElem?_eq_getElem hi, by rw [e, List.getD_eq_getElem?_getD, List.getElem?_eq_getElem hi] <;> rfl⟩
      refine set_update_ints ((Walks.list calm _ l ne1 items).toS) s.heap.objs.size apart ns size hb val (items.size - 0) 0 _ (by omega) (Nat.zero_le _) ⟨⟨_, Heap.get?_push_size _ rfl, rfl, rfl⟩, lst1.push _⟩ ⟨0, Nat.le_refl 0, setR_new_at (Heap.get?_push_of_some _ at0)⟩ ?_
      intro s3 c3 moved hc3 hS
      obtain ⟨g3, gn, dr, tk, os⟩ := s3
      obtain rfl : gn = s.gens := moved.gens
      obtain rfl : dr = s.drawn := moved.drawn
      obtain rfl : os = s.os := moved.os
      show wpAny _ _ _ _ _ _
      refine wpAny_pure ?_
      show wpAny _ _ (ret Value.none) _ _ _
      refine wpAny_pure ⟨rfl, g3, tk, c3, rfl, hS, by rw [← size]; exact hc3, fun b o e => ?_⟩
      have hb0 : b < s.heap.objs.size := Heap.lt_size e
      refine moved.heap b o (fun q => ?_) (Heap.get?_push_of_some _ (Heap.get?_push_of_some _ e))
      rcases List.mem_cons.mp q with z | z
      · exact absurd z (Nat.ne_of_lt hb0)
      · have z' : b = (s.heap.push (freshSet w)).objs.size := List.mem_singleton.mp z
        rw [sz1] at z'
        rw [z'] at hb0
        exact absurd hb0 (Nat.not_lt_of_le (Nat.le_succ _))
    · match r2, hr2 with
      | .error _, hr2 => exact hr2
      | .ok .next, hr2 => exact hr2.elim
      | .ok .brk, hr2 => exact hr2.elim
      | .ok .cont, hr2 => exact hr2.elim
      | .ok (.ret r), hr2 =>
        obtain ⟨rfl, g, tk, c, rfl, hS, hc, hk⟩ := hr2
        repeat (any_goals (first | assumption | wp_step))
        exact h _ _ _ hS hc hk
end
/-- set(xs), xs a list of ints -/
def rSetI (K : PySem.W.Frag) (w : World) : List V → Hp → VK → Prop := fun xs H Q => ∃ (l : Addr) (ns : List Int), xs = [V.ref l] ∧ SqL K H l (ns.map V.int) ∧ ns.length ≤ 60 ∧
  ∀ p c, H p = none → c ≤ ns.length → Q (.ref p) (upd H p (SetO w p (fun j => decide (j ∈ ns)) c))
theorem cr_setI {X : Cx} (hc : X.calm = true) : CallR X (.type "set") (rSetI X.K X.w) := by
  intro pins s σ H xs us Q I r h
  obtain ⟨l, ns, rfl, hl, hf, q⟩ := h
  rw [Vals.ref1 r]
  obtain ⟨its, rv, pl, hz⟩ := I.list hl
  have hi := ints_of_vals rv
  have hn : H s.heap.objs.size = none := I.hok.fresh (Nat.le_refl _)
  refine set_of_list (P := X.prog) (w := X.w) ns (I.ok.hd hc) pl.isList (by simpa using hi) (by unfold scanBound; omega) fun g tk c R hcn k => ?_
  exact ⟨.ref s.heap.objs.size, _, I.laid (t' := tk) k (Nat.le_refl _) (setO_new R), rfl, q _ c hn hcn⟩
end K20
set_option Elab.async false
set_option linter.all false
set_option maxRecDepth 100000
set_option maxHeartbeats 4000000
/-! KHeap: the text by places; what stands in the heap: yards, orders, models, memos. -/
namespace K20
open PySem L2
/-! ### the text by places -/
def stm (i : Nat) : Stmt := PySem.Challenge.pw_sumsplay_k20_whole_order_by_play.main.body.getD i (.Pass ⟨0, 0, 0, 0⟩)
abbrev sOtherSide : Stmt := stm 2
abbrev sOInit : Stmt := inClass (stm 3) 0
abbrev sOYard : Stmt := inClass (stm 3) 1
abbrev sAtLeast : Stmt := inClass (stm 3) 2
abbrev sAtMost : Stmt := inClass (stm 3) 3
abbrev sAlike : Stmt := inClass (stm 3) 4
abbrev sApart : Stmt := inClass (stm 3) 6
abbrev sCanWin : Stmt := inClass (stm 3) 7
abbrev sWinning : Stmt := inClass (stm 3) 8
abbrev sOutcome : Stmt := inClass (stm 3) 9
abbrev sReckon : Stmt := inClass (stm 3) 10
abbrev sYInit : Stmt := inClass (stm 8) 0
abbrev sGame : Stmt := inClass (stm 8) 2
abbrev sLefts : Stmt := inClass (stm 8) 3
abbrev sRights : Stmt := inClass (stm 8) 4
abbrev sOptions : Stmt := inClass (stm 8) 5
abbrev sHeight : Stmt := inClass (stm 8) 6
abbrev sCheck : Stmt := inClass (stm 8) 9
abbrev sCell : Stmt := stm 10
abbrev sDigits : Stmt := stm 11
abbrev sPut : Stmt := stm 12
abbrev sDrawn : Stmt := stm 13
abbrev sFamily : Stmt := stm 14
abbrev sCount : Stmt := stm 15
abbrev sBuilt : Stmt := stm 16
abbrev sIs : Stmt := stm 17
abbrev sMoves : Stmt := stm 18
abbrev sWins : Stmt := stm 19
abbrev sSum : Stmt := stm 20
abbrev sLaw : Stmt := stm 21

/-! ### a def of the text, as it stands -/
structure DefD (K : PySem.W.Frag) (mg : Str → Option Value) (x : Str) (st : Stmt) (ps : List Str) (f : Addr) (fd : FuncData) : Prop where
  F : Fun K x x st f fd
  b : Binds K fd ps []
  m : mg x = some (.ref f)
structure MethD (K : PySem.W.Frag) (C : Addr) (x qual : Str) (st : Stmt) (ps : List Str) (f : Addr) (fd : FuncData) : Prop where
  F : Fun K x qual st f fd
  b : Binds K fd ps []
  m : Meth K C x f

/-! ### frames -/
/-- all that was tracked is as it was, but what stands at S -/
def Keep (S : List Addr) (H H' : Hp) : Prop := ∀ b o, H b = some o → b ∉ S → H' b = some o
theorem Keep.refl (S : List Addr) (H : Hp) : Keep S H H := fun _ _ h _ => h
theorem Keep.trans {S : List Addr} {H H1 H2 : Hp} (a : Keep S H H1) (b : Keep S H1 H2) : Keep S H H2 := fun c o h n => b c o (a c o h n) n
theorem Keep.of {S : List Addr} {H H' : Hp} (s : Same H H') : Keep S H H' := fun b o h _ => s b o h
theorem Keep.mono {S T : List Addr} {H H' : Hp} (k : Keep S H H') (h : ∀ a ∈ S, a ∈ T) : Keep T H H' := fun b o e n => k b o e fun q => n (h b q)
theorem Keep.new {S : List Addr} {H : Hp} {p : Addr} (h : H p = none) (o : HO) : Keep S H (upd H p o) := fun b u e _ => by rw [upd_ne (ne_of_none e h)]; exact e
theorem Keep.at {S : List Addr} {H : Hp} {p : Addr} (h : p ∈ S) (o : HO) : Keep S H (upd H p o) := fun b u e n => by rw [upd_ne (fun q : b = p => n (by rw [q]; exact h))]; exact e
theorem same_new {H : Hp} {p : Addr} (h : H p = none) (o : HO) : Same H (upd H p o) := fun b u e => by rw [upd_ne (ne_of_none e h)]; exact e
theorem Keep.same {H H' : Hp} (k : Keep [] H H') : Same H H' := fun b o h => k b o h (by simp)
theorem Keep.free {S : List Addr} {H H' : Hp} (k : Keep S H H') {p : Addr} (h : H' p = none) (live : ∀ a ∈ S, ∃ o, H' a = some o) : H p = none := by
  cases q : H p with
  | none => rfl
  | some o =>
    by_cases m : p ∈ S
    · obtain ⟨u, hu⟩ := live p m
      rw [hu] at h
      cases h
    · rw [k p o q m] at h
      cases h
/-- what is written all stands -/
def Live (S : List Addr) (H : Hp) : Prop := ∀ a ∈ S, ∃ o, H a = some o
theorem Live.fresh {S : List Addr} {H : Hp} (l : Live S H) {p : Addr} (h : H p = none) : p ∉ S := fun m => by
  obtain ⟨o, e⟩ := l p m
  rw [e] at h
  cases h
theorem Live.keep {S T : List Addr} {H H' : Hp} (l : Live S H) (k : Keep T H H') (t : Live T H') : Live S H' := fun a m => by
  by_cases q : a ∈ T
  · exact t a q
  · obtain ⟨o, e⟩ := l a m
    exact ⟨o, k a o e q⟩
theorem Live.same {S : List Addr} {H H' : Hp} (l : Live S H) (k : Same H H') : Live S H' := fun a m => let ⟨o, e⟩ := l a m; ⟨o, k a o e⟩

/-! ### lists of numbers -/
theorem nI_len (ns : List Nat) : (nI ns).length = ns.length := List.length_map _
theorem nI_ints (ns : List Nat) : nI ns = (ns.map fun (n : Nat) => (n : Int)).map V.int := by
  unfold nI
  rw [List.map_map] <;> rfl
theorem nI_get {ns : List Nat} {i k : Nat} (h : ns[i]? = some k) : (nI ns)[i]? = some (.int (k : Int)) := by
  unfold nI
  rw [List.getElem?_map, h] <;> rfl
theorem nI_of {ns : List Nat} {i : Nat} {v : V} (h : (nI ns)[i]? = some v) : ∃ k, ns[i]? = some k ∧ v = .int (k : Int) := by
  unfold nI at h
  rw [List.getElem?_map] at h
  cases e : ns[i]? with
  | none => rw [e] at h; cases h
  | some k => rw [e] at h; exact ⟨k, rfl, (Option.some.inj h).symm⟩
theorem nI_snoc (ns : List Nat) (k : Nat) : nI ns ++ [V.int (k : Int)] = nI (ns ++ [k]) := by
  unfold nI
  rw [List.map_append] <;> rfl
theorem nI_app (ns ms : List Nat) : nI ns ++ nI ms = nI (ns ++ ms) := by
  unfold nI
  rw [List.map_append]

/-! ### a yard -/
structure YA where
  l : Addr
  r : Addr
  h : Addr
  n : Addr
  t : Addr
/-- what game changes -/
def YA.S (L : YA) : List Addr := [L.l, L.r, L.h, L.n]
def yf (L : YA) : List (Str × V) := putF "_turned" (.ref L.t) (putF "_numbers" (.ref L.n) (putF "_heights" (.ref L.h) (putF "_rights" (.ref L.r) (putF "_lefts" (.ref L.l) []))))
theorem yf_lefts (L : YA) : (yf L).lookup ("_lefts" : Str) = some (.ref L.l) := by
  unfold yf
  rw [lookup_putF, if_neg (by decide +kernel), lookup_putF, if_neg (by decide +kernel), lookup_putF, if_neg (by decide +kernel), lookup_putF, if_neg (by decide +kernel), lookup_putF, if_pos rfl]
theorem yf_rights (L : YA) : (yf L).lookup ("_rights" : Str) = some (.ref L.r) := by
  unfold yf
  rw [lookup_putF, if_neg (by decide +kernel), lookup_putF, if_neg (by decide +kernel), lookup_putF, if_neg (by decide +kernel), lookup_putF, if_pos rfl]
theorem yf_heights (L : YA) : (yf L).lookup ("_heights" : Str) = some (.ref L.h) := by
  unfold yf
  rw [lookup_putF, if_neg (by decide +kernel), lookup_putF, if_neg (by decide +kernel), lookup_putF, if_pos rfl]
theorem yf_numbers (L : YA) : (yf L).lookup ("_numbers" : Str) = some (.ref L.n) := by
  unfold yf
  rw [lookup_putF, if_neg (by decide +kernel), lookup_putF, if_pos rfl]
theorem yf_no (L : YA) {m : Str} (h1 : ¬ m = "_turned") (h2 : ¬ m = "_numbers") (h3 : ¬ m = "_heights") (h4 : ¬ m = "_rights") (h5 : ¬ m = "_lefts") : (yf L).lookup m = none := by
  unfold yf
  rw [lookup_putF, if_neg h1, lookup_putF, if_neg h2, lookup_putF, if_neg h3, lookup_putF, if_neg h4, lookup_putF, if_neg h5] <;> rfl
/-- at a stands the list of the tuples that g gives of each form -/
structure Tups (H : Hp) (a : Addr) (g : Form → List Nat) (fm : List Form) : Prop where
  ex : ∃ las : List Addr, H a = some (.lst (las.map V.ref)) ∧ las.length = fm.length ∧ ∀ (i : Nat) (t : Addr) (f : Form), las[i]? = some t → fm[i]? = some f → H t = some (.tup (nI (g f)))
theorem Tups.keep {H H' : Hp} {a : Addr} {g : Form → List Nat} {fm : List Form} (x : Tups H a g fm) (ha : H' a = H a) (t : ∀ b xs, H b = some (.tup xs) → H' b = some (.tup xs)) : Tups H' a g fm :=
  let ⟨las, h1, h2, h3⟩ := x.ex
  ⟨las, ha.trans h1, h2, fun i b f e1 e2 => t _ _ (h3 i b f e1 e2)⟩
theorem Tups.at {H : Hp} {a : Addr} {g : Form → List Nat} {fm : List Form} (x : Tups H a g fm) {i : Nat} {f : Form} (h : fm[i]? = some f) :
    ∃ (las : List Addr) (t : Addr), H a = some (.lst (las.map V.ref)) ∧ (las.map V.ref)[i]? = some (.ref t) ∧ H t = some (.tup (nI (g f))) ∧ las.length = fm.length := by
  obtain ⟨las, h1, h2, h3⟩ := x.ex
  have hi : i < las.length := by rw [h2]; exact (List.getElem?_eq_some_iff.mp h).1
  exact ⟨las, las[i], h1, by rw [List.getElem?_map, List.getElem?_eq_getElem hi] <;> rfl, h3 i _ f (List.getElem?_eq_getElem hi) h, h2⟩
theorem Tups.snoc {H H' : Hp} {a t : Addr} {g : Form → List Nat} {fm : List Form} {f : Form} {las : List Addr} (h1 : H a = some (.lst (las.map V.ref))) (h2 : las.length = fm.length)
    (h3 : ∀ (i : Nat) (t : Addr) (f : Form), las[i]? = some t → fm[i]? = some f → H t = some (.tup (nI (g f)))) (e : H' a = some (.lst (las.map V.ref ++ [.ref t]))) (k : ∀ b xs, H b = some (.tup xs) → H' b = some (.tup xs)) (ht : H' t = some (.tup (nI (g f)))) :
    Tups H' a g (fm ++ [f]) := by
  refine ⟨las ++ [t], by rw [e, List.map_append] <;> rfl, by rw [List.length_append, List.length_append, h2] <;> rfl, fun i b f' a1 a2 => ?_⟩
  by_cases hi : i < las.length
  · rw [List.getElem?_append_left hi] at a1
    rw [List.getElem?_append_left (by rw [← h2]; exact hi)] at a2
    exact k _ _ (h3 i b f' a1 a2)
  · have hi' : las.length ≤ i := Nat.le_of_not_lt hi
    rw [List.getElem?_append_right hi'] at a1
    rw [List.getElem?_append_right (by rw [← h2]; exact hi')] at a2
    have h0 : i - las.length = 0 := by
      have q := (List.getElem?_eq_some_iff.mp a1).1
      rw [List.length_singleton] at q
      omega
    rw [h0] at a1
    rw [← h2, h0] at a2
    have ea : t = b := Option.some.inj a1
    have ef : f = f' := Option.some.inj a2
    rw [← ea, ← ef]
    exact ht
structure YardAt (P : Program) (w : World) (C : Addr) (H : Hp) (y : Addr) (L : YA) (fm : List Form) : Prop where
  ob : ∃ dx, H y = some (.ins C dx (yf L))
  lefts : Tups H L.l (·.1) fm
  rights : Tups H L.r (·.2) fm
  heights : ∃ hs : List Int, H L.h = some (.lst (hs.map V.int)) ∧ hs.length = fm.length
  nums : NumAt P w H L.n fm
  dlr : L.l ≠ L.r
  dlh : L.l ≠ L.h
  drh : L.r ≠ L.h
  good : Good fm
section
variable {P : Program} {w : World} {C : Addr} {H H' : Hp} {y : Addr} {L : YA} {fm : List Form}
/-- what the yard leans on: lists, tuples, its object, its dict -/
theorem YardAt.keep (Y : YardAt P w C H y L fm) (k : ∀ b o, H b = some o → (∀ kvs, o ≠ .dT kvs) → H' b = some o) : YardAt P w C H' y L fm := by
  have kt : ∀ b xs, H b = some (.tup xs) → H' b = some (.tup xs) := fun b xs e => k b _ e (fun kvs z => nomatch z)
  obtain ⟨dx, h1⟩ := Y.ob
  obtain ⟨hs, h2, h3⟩ := Y.heights
  have kl : ∀ {a xs}, H a = some (.lst xs) → H' a = H a := fun {a xs} e => by rw [e]; exact k a _ e (fun kvs z => nomatch z)
  obtain ⟨φ, h4⟩ := Y.nums.isExt
  refine ⟨⟨dx, k _ _ h1 (fun kvs z => nomatch z)⟩, Y.lefts.keep ?_ kt, Y.rights.keep ?_ kt, ⟨hs, k _ _ h2 (fun kvs z => nomatch z), h3⟩, Y.nums.keep (by rw [h4]; exact k _ _ h4 (fun kvs z => nomatch z)) kt, Y.dlr, Y.dlh, Y.drh, Y.good⟩
  · obtain ⟨las, e, _⟩ := Y.lefts.ex
    exact kl e
  · obtain ⟨las, e, _⟩ := Y.rights.ex
    exact kl e
theorem YardAt.same (Y : YardAt P w C H y L fm) (s : Same H H') : YardAt P w C H' y L fm := Y.keep fun b o e _ => s b o e
theorem YardAt.live (Y : YardAt P w C H y L fm) : Live L.S H := fun a m => by
  obtain ⟨las, e1, _⟩ := Y.lefts.ex
  obtain ⟨ras, e2, _⟩ := Y.rights.ex
  obtain ⟨hs, e3, _⟩ := Y.heights
  obtain ⟨φ, e4⟩ := Y.nums.isExt
  have m : a ∈ [L.l, L.r, L.h, L.n] := m
  simp only [List.mem_cons, List.not_mem_nil, or_false] at m
  rcases m with rfl | rfl | rfl | rfl
  · exact ⟨_, e1⟩
  · exact ⟨_, e2⟩
  · exact ⟨_, e3⟩
  · exact ⟨_, e4⟩
/-- a thing of another kind than the yard's own lists and dict stands beside it -/
theorem YardAt.notin (Y : YardAt P w C H y L fm) {a : Addr} {o : HO} (h : H a = some o) (h1 : ∀ xs, o ≠ .lst xs) (h2 : ∀ φ, o ≠ .ext φ) : a ∉ L.S := fun m => by
  obtain ⟨las, e1, _⟩ := Y.lefts.ex
  obtain ⟨ras, e2, _⟩ := Y.rights.ex
  obtain ⟨hs, e3, _⟩ := Y.heights
  obtain ⟨φ, e4⟩ := Y.nums.isExt
  have m : a ∈ [L.l, L.r, L.h, L.n] := m
  simp only [List.mem_cons, List.not_mem_nil, or_false] at m
  rcases m with rfl | rfl | rfl | rfl
  · rw [h] at e1; exact h1 _ (Option.some.inj e1)
  · rw [h] at e2; exact h1 _ (Option.some.inj e2)
  · rw [h] at e3; exact h1 _ (Option.some.inj e3)
  · rw [h] at e4; exact h2 _ (Option.some.inj e4)
end

/-! ### an order -/
def of (y da dc : Addr) : List (Str × V) := putF "_can_win" (.ref dc) (putF "_at_least" (.ref da) (putF "_yard" (.ref y) []))
theorem of_yard (y da dc : Addr) : (of y da dc).lookup ("_yard" : Str) = some (.ref y) := by
  unfold of
  rw [lookup_putF, if_neg (by decide +kernel), lookup_putF, if_neg (by decide +kernel), lookup_putF, if_pos rfl]
theorem of_atl (y da dc : Addr) : (of y da dc).lookup ("_at_least" : Str) = some (.ref da) := by
  unfold of
  rw [lookup_putF, if_neg (by decide +kernel), lookup_putF, if_pos rfl]
theorem of_canw (y da dc : Addr) : (of y da dc).lookup ("_can_win" : Str) = some (.ref dc) := by
  unfold of
  rw [lookup_putF, if_pos rfl]
theorem of_no (y da dc : Addr) {m : Str} (h1 : ¬ m = "_can_win") (h2 : ¬ m = "_at_least") (h3 : ¬ m = "_yard") : (of y da dc).lookup m = none := by
  unfold of
  rw [lookup_putF, if_neg h1, lookup_putF, if_neg h2, lookup_putF, if_neg h3] <;> rfl
structure OrderAt (O : Addr) (H : Hp) (o y da dc : Addr) (ka kc : List (List Key × V)) : Prop where
  ob : ∃ dx, H o = some (.ins O dx (of y da dc))
  a : H da = some (.dT ka)
  c : H dc = some (.dT kc)
  ne : da ≠ dc

/-! ### memos -/
structure Memo (kvs : List (List Key × V)) (U : List (List Key)) (R : List Key → V → Prop) : Prop where
  nd : (kvs.map (·.1)).Nodup
  all : ∀ k v, valV kvs k = some v → k ∈ U ∧ R k v
theorem nodup_len {α : Type} [DecidableEq α] : ∀ {l m : List α}, l.Nodup → (∀ x ∈ l, x ∈ m) → l.length ≤ m.length
  | [], _, _, _ => Nat.zero_le _
  | x :: r, m, h, s => by
    obtain ⟨h1, h2⟩ := List.nodup_cons.mp h
    have hm : x ∈ m := s x List.mem_cons_self
    have q := nodup_len (l := r) (m := m.erase x) h2 fun y hy => by
      have ne : y ≠ x := fun e => h1 (e ▸ hy)
      exact (List.mem_erase_of_ne ne).mpr (s y (List.mem_cons_of_mem _ hy))
    rw [List.length_erase_of_mem hm] at q
    have p := List.length_pos_of_mem hm
    rw [List.length_cons]
    omega
theorem valV_mem {κ : Type} [DecidableEq κ] {k : κ} : ∀ {kvs : List (κ × V)}, k ∈ kvs.map (·.1) → ∃ v, valV kvs k = some v
  | p :: r, h => by
    by_cases e : p.1 = k
    · exact ⟨p.2, valV_pos e⟩
    · rw [valV_neg e]
      rcases List.mem_cons.mp h with q | q
      · exact absurd q.symm e
      · exact valV_mem q
theorem Memo.empty {U : List (List Key)} {R : List Key → V → Prop} : Memo [] U R := ⟨List.nodup_nil, fun k v h => by cases h⟩
theorem Memo.len {kvs : List (List Key × V)} {U : List (List Key)} {R : List Key → V → Prop} (m : Memo kvs U R) : kvs.length ≤ U.length := by
  have q := nodup_len m.nd fun k hk => by
    obtain ⟨v, hv⟩ := valV_mem hk
    exact (m.all k v hv).1
  rw [List.length_map] at q
  exact q
theorem Memo.put {kvs : List (List Key × V)} {U : List (List Key)} {R : List Key → V → Prop} (m : Memo kvs U R) {k : List Key} {v : V} (hk : k ∈ U) (hR : R k v) : Memo (putK kvs k v) U R := by
  refine ⟨?_, fun j u h => ?_⟩
  · by_cases e : valV kvs k = none
    · exact nd_putK v m.nd e
    · unfold putK
      have q : (kvs.any fun kv => decide (kv.1 = k)) = true := by
        rw [valV_any]
        cases z : valV kvs k with
        | none => exact absurd z e
        | some _ => rfl
      rw [if_pos q, List.map_map]
      have e2 : (kvs.map ((fun x => x.1) ∘ fun kv => if kv.1 = k then (kv.1, v) else kv)) = kvs.map (·.1) := List.map_congr_left fun x _ => by
        show (if x.1 = k then (x.1, v) else x).1 = x.1
        split <;> rfl
      rw [e2]
      exact m.nd
  · rw [valV_put] at h
    by_cases e : j = k
    · rw [if_pos e] at h
      cases h
      subst e
      exact ⟨hk, hR⟩
    · rw [if_neg e] at h
      exact m.all j u h

/-! ### a model -/
/-- at t stands the tuple of the two lists of a form, none of them at S -/
structure FormAt (H : Hp) (S : List Addr) (t : Addr) (f : Form) : Prop where
  ex : ∃ la ra : Addr, H t = some (.tup [.ref la, .ref ra]) ∧ H la = some (.lst (nI f.1)) ∧ H ra = some (.lst (nI f.2)) ∧ la ∉ S ∧ ra ∉ S
def FormsAt (H : Hp) (S : List Addr) (ts : List Addr) (fm : List Form) : Prop := ts.length = fm.length ∧ ∀ (i : Nat) (t : Addr) (f : Form), ts[i]? = some t → fm[i]? = some f → FormAt H S t f
structure ModelAt (H : Hp) (S : List Addr) (m : Addr) (fm : List Form) : Prop where
  ex : ∃ ts : List Addr, H m = some (.lst (ts.map V.ref)) ∧ m ∉ S ∧ FormsAt H S ts fm
theorem FormAt.keep {H H' : Hp} {S T : List Addr} {t : Addr} {f : Form} (x : FormAt H S t f) (k : Keep T H H') (hT : ∀ a ∈ T, a ∈ S ∨ ∀ o, H a = some o → (∀ xs, o ≠ .lst xs) ∧ ∀ xs, o ≠ .tup xs) (hS : ∀ a ∈ T, ∀ xs, H a ≠ some (.tup xs)) : FormAt H' S t f := by
  obtain ⟨la, ra, h1, h2, h3, h4, h5⟩ := x.ex
  have kl : ∀ {a xs}, H a = some (.lst xs) → a ∉ S → H' a = some (.lst xs) := fun {a xs} e n => k a _ e fun q => by
    rcases hT a q with z | z
    · exact n z
    · exact (z _ e).1 xs rfl
  exact ⟨la, ra, k _ _ h1 (fun q => hS _ q _ h1), kl h2 h4, kl h3 h5, h4, h5⟩
theorem FormsAt.keep {H H' : Hp} {S T : List Addr} {ts : List Addr} {fm : List Form} (x : FormsAt H S ts fm) (k : Keep T H H') (hT : ∀ a ∈ T, a ∈ S ∨ ∀ o, H a = some o → (∀ xs, o ≠ .lst xs) ∧ ∀ xs, o ≠ .tup xs) (hS : ∀ a ∈ T, ∀ xs, H a ≠ some (.tup xs)) : FormsAt H' S ts fm :=
  ⟨x.1, fun i t f e1 e2 => (x.2 i t f e1 e2).keep k hT hS⟩
theorem ModelAt.keep {H H' : Hp} {S T : List Addr} {m : Addr} {fm : List Form} (x : ModelAt H S m fm) (k : Keep T H H') (hT : ∀ a ∈ T, a ∈ S ∨ ∀ o, H a = some o → (∀ xs, o ≠ .lst xs) ∧ ∀ xs, o ≠ .tup xs) (hS : ∀ a ∈ T, ∀ xs, H a ≠ some (.tup xs)) : ModelAt H' S m fm := by
  obtain ⟨ts, h1, h2, h3⟩ := x.ex
  refine ⟨ts, k _ _ h1 (fun q => ?_), h2, h3.keep k hT hS⟩
  rcases hT m q with z | z
  · exact h2 z
  · exact (z _ h1).1 _ rfl
theorem ModelAt.same {H H' : Hp} {S : List Addr} {m : Addr} {fm : List Form} (x : ModelAt H S m fm) (k : Same H H') : ModelAt H' S m fm :=
  x.keep (T := []) (Keep.of k) (fun a h => by cases h) fun a h => by cases h
theorem FormsAt.same {H H' : Hp} {S : List Addr} {ts : List Addr} {fm : List Form} (x : FormsAt H S ts fm) (k : Same H H') : FormsAt H' S ts fm :=
  x.keep (T := []) (Keep.of k) (fun a h => by cases h) fun a h => by cases h
/-- what is written is a dict of tuple keys -/
theorem ModelAt.dict {H H' : Hp} {S : List Addr} {m d : Addr} {fm : List Form} {kvs : List (List Key × V)} (x : ModelAt H S m fm) (k : Keep [d] H H') (hd : H d = some (.dT kvs)) : ModelAt H' S m fm :=
  x.keep k (fun a h => .inr fun o e => by
    rw [List.mem_singleton.mp h, hd] at e
    cases e
    exact ⟨fun xs z => (nomatch z), fun xs z => (nomatch z)⟩) fun a h xs e => by
    rw [List.mem_singleton.mp h, hd] at e
    cases e
/-- a new thing beside it -/
theorem FormsAt.cons {H : Hp} {S : List Addr} {p : Addr} {ts : List Addr} {fm : List Form} (x : FormsAt H S ts fm) (h : H p = none) : FormsAt H (p :: S) ts fm :=
  ⟨x.1, fun i t f e1 e2 => by
    obtain ⟨la, ra, h1, h2, h3, h4, h5⟩ := (x.2 i t f e1 e2).ex
    refine ⟨la, ra, h1, h2, h3, fun q => ?_, fun q => ?_⟩
    · rcases List.mem_cons.mp q with z | z
      · rw [z, h] at h2; cases h2
      · exact h4 z
    · rcases List.mem_cons.mp q with z | z
      · rw [z, h] at h3; cases h3
      · exact h5 z⟩
theorem ModelAt.cons {H : Hp} {S : List Addr} {m p : Addr} {fm : List Form} (x : ModelAt H S m fm) (h : H p = none) : ModelAt H (p :: S) m fm := by
  obtain ⟨ts, h1, h2, h3⟩ := x.ex
  refine ⟨ts, h1, fun q => ?_, h3.cons h⟩
  rcases List.mem_cons.mp q with z | z
  · rw [z, h] at h1; cases h1
  · exact h2 z
theorem FormsAt.sub {H : Hp} {S T : List Addr} {ts : List Addr} {fm : List Form} (x : FormsAt H S ts fm) (h : ∀ a ∈ T, a ∈ S) : FormsAt H T ts fm :=
  ⟨x.1, fun i t f e1 e2 => by
    obtain ⟨la, ra, h1, h2, h3, h4, h5⟩ := (x.2 i t f e1 e2).ex
    exact ⟨la, ra, h1, h2, h3, fun q => h4 (h _ q), fun q => h5 (h _ q)⟩⟩
theorem ModelAt.form {H : Hp} {S : List Addr} {m : Addr} {fm : List Form} (x : ModelAt H S m fm) {i : Nat} {f : Form} (h : fm[i]? = some f) :
    ∃ (xs : List V) (t la ra : Addr), H m = some (.lst xs) ∧ xs.length = fm.length ∧ xs[i]? = some (.ref t) ∧ H t = some (.tup [.ref la, .ref ra]) ∧ H la = some (.lst (nI f.1)) ∧ H ra = some (.lst (nI f.2)) := by
  obtain ⟨ts, h1, _, h2, h3⟩ := x.ex
  have hi : i < ts.length := by rw [h2]; exact (List.getElem?_eq_some_iff.mp h).1
  obtain ⟨la, ra, e1, e2, e3, _⟩ := (h3 i ts[i] f (List.getElem?_eq_getElem hi) h).ex
  exact ⟨_, ts[i], la, ra, h1, by rw [List.length_map]; exact h2, by rw [List.getElem?_map, List.getElem?_eq_getElem hi] <;> rfl, e1, e2, e3⟩

/-! ### what the walk asks of the top -/
structure Txt (K : PySem.W.Frag) (mg : Str → Option Value) (Y O : Addr) : Prop where
  clY : Cls K Y
  nl : NoAttr K Y "_lefts"
  nr : NoAttr K Y "_rights"
  nh : NoAttr K Y "_heights"
  nn : NoAttr K Y "_numbers"
  nt : NoAttr K Y "_turned"
  mgY : mg "Yard" = some (.ref Y)
  clO : Cls K O
  ny : NoAttr K O "_yard"
  na : NoAttr K O "_at_least"
  nc : NoAttr K O "_can_win"
  mgO : mg "Order" = some (.ref O)
  len : mg "len" = none
  tuple : mg "tuple" = none
  sorted : mg "sorted" = none
  set : mg "set" = none
  max : mg "max" = none
  list : mg "list" = none
  range : mg "range" = none
  int : mg "int" = none
  isi : mg "isinstance" = none
  bool : mg "bool" = none
end K20
set_option Elab.async false
set_option linter.all false
set_option maxRecDepth 100000
set_option maxHeartbeats 4000000
/-! KYardA: the yard's readers. -/
namespace K20
open PySem L2
def sd : Bool → Str
  | false => "left"
  | true => "right"
theorem right_ne : ¬ ("right" : Str) = "left" := by decide +kernel
section
variable {P : Program} {w : World} {K : PySem.W.Frag} {mg : Str → Option Value} {base : Heap} {Y O : Addr}
def spCheck (P : Program) (w : World) (Y : Addr) : Sp := fun vs H Q _ => ∃ (y : Addr) (L : YA) (fm : List Form) (g : Nat), vs = [.ref y, .int (g : Int)] ∧ YardAt P w Y H y L fm ∧ g < fm.length ∧ Q .non H
def spOpt (P : Program) (w : World) (Y : Addr) (s : Bool) : Sp := fun vs H Q _ => ∃ (y : Addr) (L : YA) (fm : List Form) (g : Nat), vs = [.ref y, .int (g : Int)] ∧ YardAt P w Y H y L fm ∧ g < fm.length ∧
  ∀ p, H p = none → Q (.ref p) (upd H p (.lst (nI (opts fm g s))))
def spOptions (P : Program) (w : World) (Y : Addr) : Sp := fun vs H Q _ => ∃ (y : Addr) (L : YA) (fm : List Form) (g : Nat) (s : Bool), vs = [.ref y, .int (g : Int), .str (sd s)] ∧ YardAt P w Y H y L fm ∧ g < fm.length ∧
  ∀ p, H p = none → Q (.ref p) (upd H p (.lst (nI (opts fm g s))))
def spHeight (P : Program) (w : World) (Y : Addr) : Sp := fun vs H Q _ => ∃ (y : Addr) (L : YA) (fm : List Form) (g : Nat), vs = [.ref y, .int (g : Int)] ∧ YardAt P w Y H y L fm ∧ g < fm.length ∧ ∀ z : Int, Q (.int z) H
def spOther : Sp := fun vs H Q _ => ∃ s : Bool, vs = [.str (sd s)] ∧ Q (.str (sd (!s))) H
theorem scOther : FnScope ["side"] ["side"] (defScope sOtherSide) := ⟨rfl, rfl, rfl, by decide +kernel, rfl, by decide +kernel, by decide +kernel⟩
theorem ok_other {f : Addr} {fd : FuncData} (D : DefD K mg "other_side" sOtherSide ["side"] f fd) : FnOk P w K mg base CX0 1 f fd ["side"] spOther := by
  refine D.F.ok scOther (fun vs H Q E h => ?_) (fun cdv A outer s H vs Q E hr h => ?_)
  · obtain ⟨s, rfl, _⟩ := h
    rfl
  · obtain ⟨s, rfl, k⟩ := h
    refine ⟨_, pss_cons (ps_if (pt_cmpR op_eq (pv 0) pe_str (nomark _)) (pss_one (ps_ret pe_str)) pss_nil) (pss_one (ps_ret pe_str)), ?_⟩
    refine ⟨_, rfl, rfl, _, rfl, ?_⟩
    cases s with
    | false =>
      refine ite2 (fun _ => k) (fun c => absurd (decide_eq_true rfl) c)
    | true =>
      refine ite2 (fun c => ?_) (fun _ => k)
      have c' : V.str (sd true) = V.str ("left" : Str) := of_decide_eq_true c
      injection c' with c'
      exact absurd c' right_ne
theorem scCheck : FnScope ["self", "game"] ["self", "game"] (defScope sCheck) := ⟨rfl, rfl, rfl, by decide +kernel, rfl, by decide +kernel, by decide +kernel⟩
theorem ok_check {f : Addr} {fd : FuncData} (D : MethD K Y "_check" "Yard._check" sCheck ["self", "game"] f fd) (T : Txt K mg Y O) : FnOk P w K mg base CX0 1 f fd ["self", "game"] (spCheck P w Y) := by
  refine D.F.ok scCheck (fun vs H Q E h => ?_) (fun cdv A outer s H vs Q E hr h => ?_)
  · obtain ⟨y, L, fm, g, rfl, _⟩ := h
    rfl
  · obtain ⟨y, L, fm, g, rfl, yd, hg, k⟩ := h
    obtain ⟨dx, h1⟩ := yd.ob
    obtain ⟨las, h2, h3, _⟩ := yd.lefts.ex
    -- if not 0 <= game < len(self._lefts): raise
    refine ⟨_, pss_one (ps_if (pt_not (pt_chain op_le op_lt pe_int (pv 1) (pe_callB call_len_seq (by rfl) T.len PySem.boot_len (pa_cons (pe_fld (pv 0) rfl) pa_nil)))) (pss_one ps_never) pss_nil), ?_⟩
    refine ⟨_, rfl, _, _, rfl, rfl, _, rfl, ?_⟩
    have e0 : decide ((0 : Int) ≤ (g : Int)) = true := decide_eq_true (by omega)
    rw [e0]
    refine iteT ⟨_, rfl, y, Y, dx, _, _, rfl, h1, T.clY, T.nl, yf_lefts L, L.l, _, rfl, .inl (SqL.of h2), _, _, rfl, rfl, _, rfl, ?_⟩
    have e1 : decide ((g : Int) < ((las.map V.ref).length : Int)) = true := decide_eq_true (by rw [List.length_map, h3]; omega)
    rw [e1]
    exact iteF k
theorem scLefts : FnScope ["self", "game"] ["self", "game"] (defScope sLefts) := ⟨rfl, rfl, rfl, by decide +kernel, rfl, by decide +kernel, by decide +kernel⟩
theorem ok_lefts {f fc : Addr} {fd fdc : FuncData} (D : MethD K Y "lefts" "Yard.lefts" sLefts ["self", "game"] f fd) (T : Txt K mg Y O) (C : MethD K Y "_check" "Yard._check" sCheck ["self", "game"] fc fdc) : FnOk P w K mg base CX0 2 f fd ["self", "game"] (spOpt P w Y false) := by
  have G : FnOk P w K mg base CX0 1 fc fdc ["self", "game"] (spCheck P w Y) := ok_check C T
  refine D.F.ok scLefts (fun vs H Q E h => ?_) (fun cdv A outer s H vs Q E hr h => ?_)
  · obtain ⟨y, L, fm, g, rfl, _⟩ := h
    rfl
  · obtain ⟨y, L, fm, g, rfl, yd, hg, k⟩ := h
    obtain ⟨dx, h1⟩ := yd.ob
    have hf : fm[g]? = some fm[g] := List.getElem?_eq_getElem hg
    obtain ⟨las, t, h2, h3, h4, _⟩ := yd.lefts.at hf
    refine ⟨_, pss_cons (ps_expr (pe_meth (pv 0) T.clY C.m G hr C.b .nil pass0 (pa_cons (pv 1) pa_nil)))
      (pss_one (ps_ret (pe_callTy call_list_of (by rfl) T.list PyProof.Rows.boot_list (pa_cons (pe_ix ix_list (pe_fld (pv 0) rfl) (pv 1) (fun _ _ => rfl)) pa_nil)))), ?_⟩
    refine ⟨_, rfl, y, dx, _, rfl, h1, yf_no L (by decide +kernel) (by decide +kernel) (by decide +kernel) (by decide +kernel) (by decide +kernel), _, rfl, y, L, fm, g, rfl, yd, hg, ?_⟩
    refine ⟨_, rfl, y, Y, dx, _, _, rfl, h1, T.clY, T.nl, yf_lefts L, _, rfl, L.l, _, _, _, rfl, rfl, SqL.of h2, atI_nat h3, t, _, rfl, .inr (SqT.of h4), fun p hp => ?_⟩
    have q := k p hp
    rw [opts_of hf] at q
    exact q
theorem scRights : FnScope ["self", "game"] ["self", "game"] (defScope sRights) := ⟨rfl, rfl, rfl, by decide +kernel, rfl, by decide +kernel, by decide +kernel⟩
theorem ok_rights {f fc : Addr} {fd fdc : FuncData} (D : MethD K Y "rights" "Yard.rights" sRights ["self", "game"] f fd) (T : Txt K mg Y O) (C : MethD K Y "_check" "Yard._check" sCheck ["self", "game"] fc fdc) : FnOk P w K mg base CX0 2 f fd ["self", "game"] (spOpt P w Y true) := by
  have G : FnOk P w K mg base CX0 1 fc fdc ["self", "game"] (spCheck P w Y) := ok_check C T
  refine D.F.ok scRights (fun vs H Q E h => ?_) (fun cdv A outer s H vs Q E hr h => ?_)
  · obtain ⟨y, L, fm, g, rfl, _⟩ := h
    rfl
  · obtain ⟨y, L, fm, g, rfl, yd, hg, k⟩ := h
    obtain ⟨dx, h1⟩ := yd.ob
    have hf : fm[g]? = some fm[g] := List.getElem?_eq_getElem hg
    obtain ⟨las, t, h2, h3, h4, _⟩ := yd.rights.at hf
    refine ⟨_, pss_cons (ps_expr (pe_meth (pv 0) T.clY C.m G hr C.b .nil pass0 (pa_cons (pv 1) pa_nil)))
      (pss_one (ps_ret (pe_callTy call_list_of (by rfl) T.list PyProof.Rows.boot_list (pa_cons (pe_ix ix_list (pe_fld (pv 0) rfl) (pv 1) (fun _ _ => rfl)) pa_nil)))), ?_⟩
    refine ⟨_, rfl, y, dx, _, rfl, h1, yf_no L (by decide +kernel) (by decide +kernel) (by decide +kernel) (by decide +kernel) (by decide +kernel), _, rfl, y, L, fm, g, rfl, yd, hg, ?_⟩
    refine ⟨_, rfl, y, Y, dx, _, _, rfl, h1, T.clY, T.nr, yf_rights L, _, rfl, L.r, _, _, _, rfl, rfl, SqL.of h2, atI_nat h3, t, _, rfl, .inr (SqT.of h4), fun p hp => ?_⟩
    have q := k p hp
    rw [opts_of hf] at q
    exact q
theorem scHeight : FnScope ["self", "game"] ["self", "game"] (defScope sHeight) := ⟨rfl, rfl, rfl, by decide +kernel, rfl, by decide +kernel, by decide +kernel⟩
theorem ok_height {f fc : Addr} {fd fdc : FuncData} (D : MethD K Y "height" "Yard.height" sHeight ["self", "game"] f fd) (T : Txt K mg Y O) (C : MethD K Y "_check" "Yard._check" sCheck ["self", "game"] fc fdc) : FnOk P w K mg base CX0 2 f fd ["self", "game"] (spHeight P w Y) := by
  have G : FnOk P w K mg base CX0 1 fc fdc ["self", "game"] (spCheck P w Y) := ok_check C T
  refine D.F.ok scHeight (fun vs H Q E h => ?_) (fun cdv A outer s H vs Q E hr h => ?_)
  · obtain ⟨y, L, fm, g, rfl, _⟩ := h
    rfl
  · obtain ⟨y, L, fm, g, rfl, yd, hg, k⟩ := h
    obtain ⟨dx, h1⟩ := yd.ob
    obtain ⟨hs, h2, h3⟩ := yd.heights
    have hlt : g < hs.length := by rw [h3]; exact hg
    refine ⟨_, pss_cons (ps_expr (pe_meth (pv 0) T.clY C.m G hr C.b .nil pass0 (pa_cons (pv 1) pa_nil)))
      (pss_one (ps_ret (pe_ix ix_list (pe_fld (pv 0) rfl) (pv 1) (fun _ _ => rfl)))), ?_⟩
    refine ⟨_, rfl, y, dx, _, rfl, h1, yf_no L (by decide +kernel) (by decide +kernel) (by decide +kernel) (by decide +kernel) (by decide +kernel), _, rfl, y, L, fm, g, rfl, yd, hg, ?_⟩
    refine ⟨_, rfl, y, Y, dx, _, _, rfl, h1, T.clY, T.nh, yf_heights L, _, rfl, L.h, _, _, _, rfl, rfl, SqL.of h2, atI_nat (v := .int hs[g]) (by rw [List.getElem?_map, List.getElem?_eq_getElem hlt] <;> rfl), k _⟩
theorem scOptions : FnScope ["self", "game", "side"] ["self", "game", "side"] (defScope sOptions) := ⟨rfl, rfl, rfl, by decide +kernel, rfl, by decide +kernel, by decide +kernel⟩
theorem ok_options {f fc fl fr : Addr} {fd fdc fdl fdr : FuncData} (D : MethD K Y "options" "Yard.options" sOptions ["self", "game", "side"] f fd) (T : Txt K mg Y O) (C : MethD K Y "_check" "Yard._check" sCheck ["self", "game"] fc fdc)
    (DL : MethD K Y "lefts" "Yard.lefts" sLefts ["self", "game"] fl fdl) (DR : MethD K Y "rights" "Yard.rights" sRights ["self", "game"] fr fdr) : FnOk P w K mg base CX0 3 f fd ["self", "game", "side"] (spOptions P w Y) := by
  have GL : FnOk P w K mg base CX0 2 fl fdl ["self", "game"] (spOpt P w Y false) := ok_lefts DL T C
  have GR : FnOk P w K mg base CX0 2 fr fdr ["self", "game"] (spOpt P w Y true) := ok_rights DR T C
  refine D.F.ok scOptions (fun vs H Q E h => ?_) (fun cdv A outer s H vs Q E hr h => ?_)
  · obtain ⟨y, L, fm, g, s, rfl, _⟩ := h
    rfl
  · obtain ⟨y, L, fm, g, s, rfl, yd, hg, k⟩ := h
    obtain ⟨dx, h1⟩ := yd.ob
    refine ⟨_, pss_cons (ps_if (pt_cmpR op_eq (pv 2) pe_str (nomark _)) (pss_one (ps_ret (pe_meth (pv 0) T.clY DL.m GL hr DL.b .nil pass0 (pa_cons (pv 1) pa_nil)))) pss_nil)
      (pss_one (ps_ret (pe_meth (pv 0) T.clY DR.m GR hr DR.b .nil pass0 (pa_cons (pv 1) pa_nil)))), ?_⟩
    refine ⟨_, rfl, rfl, _, rfl, ?_⟩
    have no1 : (yf L).lookup ("lefts" : Str) = none := yf_no L (by decide +kernel) (by decide +kernel) (by decide +kernel) (by decide +kernel) (by decide +kernel)
    have no2 : (yf L).lookup ("rights" : Str) = none := yf_no L (by decide +kernel) (by decide +kernel) (by decide +kernel) (by decide +kernel) (by decide +kernel)
    cases s with
    | false =>
      refine ite2 (fun _ => ?_) (fun c => absurd (decide_eq_true rfl) c)
      exact ⟨_, rfl, y, dx, _, rfl, h1, no1, _, rfl, y, L, fm, g, rfl, yd, hg, k⟩
    | true =>
      refine ite2 (fun c => ?_) (fun _ => ?_)
      · have c' : V.str (sd true) = V.str ("left" : Str) := of_decide_eq_true c
        injection c' with c'
        exact absurd c' right_ne
      · exact ⟨_, rfl, y, dx, _, rfl, h1, no2, _, rfl, y, L, fm, g, rfl, yd, hg, k⟩
end
end K20
set_option Elab.async false
set_option linter.all false
set_option maxRecDepth 100000
set_option maxHeartbeats 4000000
/-! KYardB: the yard made; a game kept. -/
namespace K20
open PySem L2
theorem ints_canon {ns : List Int} {ls : List Nat} (h1 : ns.Pairwise (· < ·)) (h2 : ∀ k : Int, k ∈ ns ↔ decide (k ∈ ls.map fun (n : Nat) => (n : Int)) = true) : ns.map V.int = nI (canon ls) := by
  have mem : ∀ k : Int, k ∈ ns → ∃ n : Nat, n ∈ ls ∧ k = (n : Int) := fun k hk => by
    obtain ⟨n, hn, e⟩ := List.mem_map.mp (of_decide_eq_true ((h2 k).mp hk))
    exact ⟨n, hn, e.symm⟩
  have back : ns = (ns.map Int.toNat).map fun (n : Nat) => (n : Int) := by
    rw [List.map_map]
    have e : ns.map id = ns.map ((fun (n : Nat) => (n : Int)) ∘ Int.toNat) := List.map_congr_left fun k hk => by
      obtain ⟨n, _, e⟩ := mem k hk
      rw [e] <;> rfl
    rw [← e, List.map_id]
  have asc : Asc (ns.map Int.toNat) := by
    refine List.pairwise_map.mpr (List.Pairwise.imp_of_mem (fun {a b} ha hb hlt => ?_) h1)
    obtain ⟨n, _, e⟩ := mem a ha
    obtain ⟨m, _, e'⟩ := mem b hb
    rw [e, e'] at hlt ⊢
    rw [Int.toNat_natCast, Int.toNat_natCast]
    omega
  have ec : ns.map Int.toNat = canon ls := canon_of asc fun k => by
    constructor
    · intro hk
      obtain ⟨z, hz, e⟩ := List.mem_map.mp hk
      obtain ⟨n, hn, e'⟩ := mem z hz
      rw [e', Int.toNat_natCast] at e
      rw [← e]
      exact hn
    · intro hk
      exact List.mem_map.mpr ⟨(k : Int), (h2 _).mpr (decide_eq_true (List.mem_map.mpr ⟨k, hk, rfl⟩)), Int.toNat_natCast k⟩
  rw [nI_ints, ← ec, ← back]
theorem PE.imp {X : Cx} {e : Expr} {t u : TE} (h : PE X e t) (i : ∀ σ H Q, u σ H Q → t σ H Q) : PE X e u := ⟨fun pins s σ H Q I q => h.run pins s σ H Q I (i σ H Q q)⟩
theorem OpR.imp {X : Cx} {f : Value → Value → Sem Value} {r u : R2} (h : OpR X f r) (i : ∀ x y H Q, u x y H Q → r x y H Q) : OpR X f u := fun pins s σ H x y v z Q I rx ry q => h pins s σ H x y v z Q I rx ry (i x y H Q q)
/-- t + u of tuples: a tuple of both -/
def rCatN : R2 := fun x y H Q => ∃ (a b : Addr) (xs ys : List V), x = .ref a ∧ y = .ref b ∧ H a = some (.tup xs) ∧ H b = some (.tup ys) ∧ xs.length + ys.length ≤ sizeLine ∧ ∀ (p : Addr) (H' : Hp), Same H H' → H' p = some (.tup (xs ++ ys)) → Q (.ref p) H'
theorem op_catN {X : Cx} : OpR X (binaryOp .Add) rCatN := OpR.imp op_catA fun x y H Q h => by
  obtain ⟨a, b, xs, ys, ex, ey, ha, hb, hz, k⟩ := h
  refine ⟨a, b, xs, ys, ex, ey, SqT.of ha, SqT.of hb, hz, fun e => ?_, fun _ e => ?_, fun _ _ p hp => k p _ (same_new hp _) upd_same⟩
  · exact k b H (Same.refl H) (by rw [e]; exact hb)
  · exact k a H (Same.refl H) (by rw [e, List.append_nil]; exact ha)
/-- tuple(sorted(set(x))), x the name in slot i -/
def tCanon (K : PySem.W.Frag) (i : Nat) : TE := fun σ H Q => ∃ (l : Addr) (ls : List Nat), σ[i]? = some (some (.ref l)) ∧ SqL K H l (nI ls) ∧ ls.length ≤ 60 ∧
  ∀ (H' : Hp) (t : Addr), Same H H' → H t = none → H' t = some (.tup (nI (canon ls))) → Q (.ref t) H'
theorem pe_canon {X : Cx} {i : Nat} {x : Str} {p1 p2 p3 p4 p5 p6 p7 : Pos} (hx : PE X (.Name x p4) (tVar i)) (hc : X.calm = true) (g1 : Gl X "tuple") (m1 : X.mg "tuple" = none) (g2 : Gl X "sorted") (m2 : X.mg "sorted" = none) (g3 : Gl X "set") (m3 : X.mg "set" = none) :
    PE X (.Call (.Name "tuple" p1) [.Call (.Name "sorted" p2) [.Call (.Name "set" p3) [.Name x p4] [] p5] [] p6] [] p7) (tCanon X.K i) := by
  refine PE.imp (pe_callTy call_tuple_of g1 m1 PyProof.Rows.boot_tuple (pa_cons (pe_callB (cr_sortedSet hc) g2 m2 (by decide +kernel) (pa_cons (pe_callTy (cr_setI hc) g3 m3 (by decide +kernel) (pa_cons hx pa_nil)) pa_nil)) pa_nil)) fun σ H Q h => ?_
  obtain ⟨l, ls, hl, hs, hz, k⟩ := h
  have e1 : (ls.map fun (n : Nat) => (n : Int)).length = ls.length := List.length_map _
  refine ⟨_, hl, l, _, rfl, by rw [← nI_ints]; exact hs, by rw [e1]; exact hz, fun p1 c1 n1 b1 => ?_⟩
  refine ⟨p1, _, c1, rfl, upd_same, by omega, fun ns1 q1 a1 m1 l1 w1 => ?_⟩
  refine ⟨q1, _, rfl, .inl ⟨SqL.of upd_same, fun t1 u1 => ?_⟩⟩
  have s1 := same_new n1 (SetO X.w p1 (fun j => decide (j ∈ ls.map fun (n : Nat) => (n : Int))) c1)
  have s2 := s1.trans (same_new w1 (.lst (ns1.map V.int)))
  have s3 := s2.trans (same_new u1 (.tup (ns1.map V.int)))
  exact k _ t1 s3 (s2.free u1) (by rw [upd_same, ints_canon a1 m1])
section
variable {P : Program} {w : World} {K : PySem.W.Frag} {mg : Str → Option Value} {base : Heap} {Y O : Addr}
def spGame (P : Program) (w : World) (Y : Addr) : Sp := fun vs H Q _ => ∃ (y al ar : Addr) (L : YA) (fm : List Form) (ls rs : List Nat), vs = [.ref y, .ref al, .ref ar] ∧ YardAt P w Y H y L fm ∧ H al = some (.lst (nI ls)) ∧ H ar = some (.lst (nI rs)) ∧
  (∀ k ∈ ls, k < fm.length) ∧ (∀ k ∈ rs, k < fm.length) ∧ ls.length ≤ 60 ∧ rs.length ≤ 60 ∧ fm.length ≤ 1000 ∧
  ∀ (H' : Hp) (g : Nat), YardAt P w Y H' y L (added fm (formOf ls rs)) → (added fm (formOf ls rs))[g]? = some (formOf ls rs) → Keep L.S H H' → Q (.int (g : Int)) H'
theorem scG : FnScope ["self", "lefts", "rights", "game", "form"] ["self", "lefts", "rights"] (defScope sGame) := ⟨rfl, rfl, rfl, by decide +kernel, rfl, by decide +kernel, by decide +kernel⟩
theorem ok_game {f fc : Addr} {fd fdc : FuncData} (D : MethD K Y "game" "Yard.game" sGame ["self", "lefts", "rights"] f fd) (T : Txt K mg Y O) (C : MethD K Y "_check" "Yard._check" sCheck ["self", "game"] fc fdc) : FnOk P w K mg base CX0 2 f fd ["self", "lefts", "rights"] (spGame P w Y) := by
  have G : FnOk P w K mg base CX0 1 fc fdc ["self", "game"] (spCheck P w Y) := ok_check C T
  refine D.F.ok scG (fun vs H Q E h => ?_) (fun cdv A outer s H vs Q E hr h => ?_)
  · obtain ⟨y, al, ar, L, fm, ls, rs, rfl, _⟩ := h
    rfl
  · obtain ⟨y, al, ar, L, fm, ls, rs, rfl, yd, hal, har, hls, hrs, zl, zr, zf, k⟩ := h
    have hu := hr.units
    have noC : (yf L).lookup ("_check" : Str) = none := yf_no L (by decide +kernel) (by decide +kernel) (by decide +kernel) (by decide +kernel) (by decide +kernel)
    refine ⟨_, pss_cons (ps_for PassesOwn.never rfl (pi_list (pe_op op_cat (pv 1) (pv 2))) (pg_name (i := 3) scG.nd rfl (Or.inl rfl)) (pss_one (ps_expr (pe_meth (pv 0) T.clY C.m G hr C.b .nil pass0 (pa_cons (pv 3) pa_nil)))))
      (pss_cons (ps_set (i := 4) scG.nd rfl (Or.inl rfl) (pe_tup (pa_cons (pe_canon (pv 1) rfl (by rfl) T.tuple (by rfl) T.sorted (by rfl) T.set) (pa_cons (pe_canon (pv 2) rfl (by rfl) T.tuple (by rfl) T.sorted (by rfl) T.set) pa_nil))))
      (pss_cons (ps_if (pt_cmp (pc_nnotin hu (pv 4) (pe_fld (pv 0) rfl)))
        (pss_cons (ps_nput hu (pe_fld (pv 0) rfl) (pv 4) (pe_callB call_len_seq (by rfl) T.len PySem.boot_len (pa_cons (pe_fld (pv 0) rfl) pa_nil)) rfl)
        (pss_cons (ps_expr (pe_bm PySem.F.plainAttrs_list PySem.F.slot_list_append PySem.F.type_list_append mt_append (pe_fld (pv 0) rfl) (pa_cons (pe_ix ix_tup (pv 4) pe_int (fun _ _ => rfl)) pa_nil)))
        (pss_cons (ps_expr (pe_bm PySem.F.plainAttrs_list PySem.F.slot_list_append PySem.F.type_list_append mt_append (pe_fld (pv 0) rfl) (pa_cons (pe_ix ix_tup (pv 4) pe_int (fun _ _ => rfl)) pa_nil)))
        (pss_one (ps_expr (pe_bm PySem.F.plainAttrs_list PySem.F.slot_list_append PySem.F.type_list_append mt_append (pe_fld (pv 0) rfl) (pa_cons (pe_callB (cr_max rfl) (by rfl) T.max (by decide +kernel)
          (pa_cons (pe_op op_cat (pe_lst (pa_cons pe_int pa_nil))
            (pe_lc (own := [("game", 3)]) (g := gName 3) (tt := tYes) (te := tOp (rI0 fun i j => .int (i + j)) (tC (.int 1)) (tOp (rIxL K) (tFld K (tVar 0) "_heights") (tVar 3))) rfl scG.nd (pi_tup (pe_op op_catN (pe_ix ix_tup (pv 4) pe_int (fun _ _ => rfl)) (pe_ix ix_tup (pv 4) pe_int (fun _ _ => rfl))))
              (blkOk_by (N := ["self", "lefts", "rights", "game", "form"]) (sc := defScope sGame) (by decide +kernel)) (fun _ _ _ _ _ => pg_name (i := 3) scG.nd rfl (Or.inl rfl)) (fun _ _ _ _ _ => pts_nil)
              (fun _ _ _ _ _ => pe_op op_add pe_int (pe_ix ix_list (pe_fld (pv 0) rfl) (pv 3) (fun _ _ => rfl))))) pa_nil)) pa_nil)))))))
        pss_nil)
      (pss_one (ps_ret (pe_nget hu (pe_fld (pv 0) rfl) (pv 4) (fun _ _ => rfl)))))), ?_⟩
    obtain ⟨dx, h1⟩ := yd.ob
    -- for game in lefts + rights: self._check(game)
    refine ⟨_, rfl, _, rfl, al, ar, _, _, rfl, rfl, hal, har, (by rw [nI_len, nI_len]; exact Nat.le_of_lt (small1000 (by omega))), fun pc hpc => ⟨pc, rfl, ⟨_, SqL.of upd_same⟩, ?_⟩⟩
    have s0 : Same H (upd H pc (.lst (nI ls ++ nI rs))) := same_new hpc _
    refine for_list (K := K) (a := pc) (xs := nI ls ++ nI rs) (fun i σ H' => H' = upd H pc (.lst (nI ls ++ nI rs)) ∧ ∃ v, σ = [some (.ref y), some (.ref al), some (.ref ar), v, none])
      ⟨rfl, none, rfl⟩ (fun i σ H' _ ⟨e, _⟩ => by rw [e]; exact SqL.of upd_same) ?_ ?_
    · rintro i x σ H' hx ⟨rfl, v, rfl⟩
      rw [nI_app] at hx
      obtain ⟨g, hg, rfl⟩ := nI_of hx
      have hlt : g < fm.length := by
        rcases List.mem_append.mp (List.mem_of_getElem? hg) with q | q
        · exact hls g q
        · exact hrs g q
      exact ⟨_, rfl, y, dx, _, rfl, s0 _ _ h1, noC, _, rfl, y, L, fm, g, rfl, yd.same s0, hlt, rfl, _, rfl⟩
    rintro σ H0 ⟨rfl, v, rfl⟩
    -- form = (tuple(sorted(set(lefts))), tuple(sorted(set(rights))))
    refine ⟨al, ls, rfl, SqL.of (s0 _ _ hal), zl, fun Ha ta sa na ha => ?_⟩
    refine ⟨ar, rs, rfl, SqL.of (sa _ _ (s0 _ _ har)), zr, fun Hb tb sb nb hb => ?_⟩
    refine ⟨(by show 2 ≤ sizeLine; decide), fun fa nfa => ?_⟩
    have s1 : Same H (upd Hb fa (.tup [.ref ta, .ref tb])) := ((s0.trans sa).trans sb).trans (same_new nfa _)
    have kf : KeyAt (upd Hb fa (.tup [.ref ta, .ref tb])) fa (formOf ls rs) := ⟨ta, tb, upd_same, by rw [upd_ne (ne_of_none (sb _ _ ha) nfa)]; exact sb _ _ ha, by rw [upd_ne (ne_of_none hb nfa)]; exact hb⟩
    generalize upd Hb fa (.tup [.ref ta, .ref tb]) = G1 at s1 kf ⊢
    have y1 := yd.same s1
    obtain ⟨xa, xb, kf1, kf2, kf3⟩ := id kf
    -- if form not in self._numbers
    refine ⟨_, rfl, _, rfl, y, Y, dx, _, _, rfl, s1 _ _ h1, T.clY, T.nn, yf_numbers L, L.n, fa, formOf ls rs, fm, rfl, rfl, y1.nums, kf, _, rfl, ?_⟩
    by_cases hm : formOf ls rs ∈ fm
    · rw [decide_eq_true hm]
      refine iteF ?_
      obtain ⟨g, hg⟩ := List.mem_iff_getElem?.mp hm
      refine ⟨_, rfl, y, Y, dx, _, _, rfl, s1 _ _ h1, T.clY, T.nn, yf_numbers L, _, rfl, L.n, fa, formOf ls rs, fm, g, rfl, rfl, y1.nums, kf, hg, ?_⟩
      exact k _ g (by rw [added_old hm]; exact y1) (by rw [added_old hm]; exact hg) (Keep.of s1)
    · rw [decide_eq_false hm]
      refine iteT ?_
      obtain ⟨las, l1, l2, l3⟩ := y1.lefts.ex
      obtain ⟨ras, r1, r2, r3⟩ := y1.rights.ex
      obtain ⟨hs, t1, t2⟩ := y1.heights
      obtain ⟨φ, n1⟩ := y1.nums.isExt
      have g1 := s1 _ _ h1
      have ynl : y ≠ L.n := ne_of g1 n1 (fun z => nomatch z)
      have yll : y ≠ L.l := ne_of g1 l1 (fun z => nomatch z)
      have yrl : y ≠ L.r := ne_of g1 r1 (fun z => nomatch z)
      have yhl : y ≠ L.h := ne_of g1 t1 (fun z => nomatch z)
      have lnl : L.l ≠ L.n := ne_of l1 n1 (fun z => nomatch z)
      have rnl : L.r ≠ L.n := ne_of r1 n1 (fun z => nomatch z)
      have hnl : L.h ≠ L.n := ne_of t1 n1 (fun z => nomatch z)
      -- self._numbers[form] = len(self._lefts)
      refine ⟨_, rfl, y, Y, dx, _, _, rfl, g1, T.clY, T.nl, yf_lefts L, L.l, _, rfl, .inl (SqL.of l1), _, rfl, y, Y, dx, _, _, rfl, g1, T.clY, T.nn, yf_numbers L, _, rfl, L.n, fa, formOf ls rs, fm, rfl, rfl, by rw [List.length_map, l2], y1.nums, kf, hm, Nat.lt_of_le_of_lt zf (by decide), fun o2 n2 => ?_⟩
      have k2 : ∀ b u, G1 b = some u → b ≠ L.n → (upd G1 L.n o2) b = some u := fun b u e ne => by rw [upd_ne ne]; exact e
      generalize upd G1 L.n o2 = G2 at n2 k2 ⊢
      have kfn : ∀ b xs, G1 b = some (.tup xs) → G2 b = some (.tup xs) := fun b xs e => k2 b _ e (ne_of e n1 (fun z => nomatch z))
      -- self._lefts.append(form[0])
      refine ⟨_, rfl, y, Y, dx, _, _, rfl, k2 _ _ g1 ynl, T.clY, T.nl, yf_lefts L, .inl ⟨rfl, _, SqL.of (k2 _ _ l1 lnl)⟩, _, rfl, fa, _, 0, _, rfl, rfl, SqT.of (kfn _ _ kf1), rfl, L.l, _, _, rfl, rfl, k2 _ _ l1 lnl, by rw [List.length_map, l2]; exact Nat.lt_of_le_of_lt zf (by decide), ?_⟩
      have l3' : (upd G2 L.l (.lst (las.map V.ref ++ [.ref xa]))) L.l = some (.lst (las.map V.ref ++ [.ref xa])) := upd_same
      have k3 : ∀ b u, G2 b = some u → b ≠ L.l → (upd G2 L.l (.lst (las.map V.ref ++ [.ref xa]))) b = some u := fun b u e ne => by rw [upd_ne ne]; exact e
      have n3 : NumAt P w (upd G2 L.l (.lst (las.map V.ref ++ [.ref xa]))) L.n (fm ++ [formOf ls rs]) := n2.keep (upd_ne lnl.symm) fun b xs e => k3 b _ e (ne_of e (k2 _ _ l1 lnl) (fun z => nomatch z))
      have kt3 : ∀ b xs, G1 b = some (.tup xs) → (upd G2 L.l (.lst (las.map V.ref ++ [.ref xa]))) b = some (.tup xs) := fun b xs e => k3 b _ (kfn b xs e) (ne_of e l1 (fun z => nomatch z))
      generalize upd G2 L.l (.lst (las.map V.ref ++ [.ref xa])) = G3 at l3' k3 n3 kt3 ⊢
      have r3' := k3 _ _ (k2 _ _ r1 rnl) yd.dlr.symm
      have g3 := k3 _ _ (k2 _ _ g1 ynl) yll
      -- self._rights.append(form[1])
      refine ⟨_, rfl, y, Y, dx, _, _, rfl, g3, T.clY, T.nr, yf_rights L, .inl ⟨rfl, _, SqL.of r3'⟩, _, rfl, fa, _, 1, _, rfl, rfl, SqT.of (kt3 _ _ kf1), rfl, L.r, _, _, rfl, rfl, r3', by rw [List.length_map, r2]; exact Nat.lt_of_le_of_lt zf (by decide), ?_⟩
      have r4 : (upd G3 L.r (.lst (ras.map V.ref ++ [.ref xb]))) L.r = some (.lst (ras.map V.ref ++ [.ref xb])) := upd_same
      have k4 : ∀ b u, G3 b = some u → b ≠ L.r → (upd G3 L.r (.lst (ras.map V.ref ++ [.ref xb]))) b = some u := fun b u e ne => by rw [upd_ne ne]; exact e
      have n4 : NumAt P w (upd G3 L.r (.lst (ras.map V.ref ++ [.ref xb]))) L.n (fm ++ [formOf ls rs]) := n3.keep (upd_ne rnl.symm) fun b xs e => k4 b _ e (ne_of e r3' (fun z => nomatch z))
      have kt4 : ∀ b xs, G1 b = some (.tup xs) → (upd G3 L.r (.lst (ras.map V.ref ++ [.ref xb]))) b = some (.tup xs) := fun b xs e => k4 b _ (kt3 b xs e) (ne_of e r1 (fun z => nomatch z))
      have l4 := k4 _ _ l3' yd.dlr
      have g4 := k4 _ _ g3 yrl
      have t4 := k4 _ _ (k3 _ _ (k2 _ _ t1 hnl) yd.dlh.symm) yd.drh.symm
      have k14 : ∀ b u, G1 b = some u → b ∉ L.S → (upd G3 L.r (.lst (ras.map V.ref ++ [.ref xb]))) b = some u := fun b u e ne => by
        have ne' : ¬ (b = L.l ∨ b = L.r ∨ b = L.h ∨ b = L.n) := fun q => ne (by show b ∈ [L.l, L.r, L.h, L.n]; simp only [List.mem_cons, List.not_mem_nil, or_false]; exact q)
        exact k4 b u (k3 b u (k2 b u e fun z => ne' (.inr (.inr (.inr z)))) fun z => ne' (.inl z)) fun z => ne' (.inr (.inl z))
      generalize upd G3 L.r (.lst (ras.map V.ref ++ [.ref xb])) = G4 at r4 k4 n4 kt4 l4 g4 t4 k14 ⊢
      -- self._heights.append(max([0] + [1 + self._heights[game] for game in form[0] + form[1]]))
      refine ⟨_, rfl, y, Y, dx, _, _, rfl, g4, T.clY, T.nh, yf_heights L, .inl ⟨rfl, _, SqL.of t4⟩, (by show 1 ≤ sizeLine; decide), fun pz nz => ?_⟩
      have s5 : Same G4 (upd G4 pz (.lst [.int 0])) := same_new nz _
      have z5 : (upd G4 pz (.lst [.int 0])) pz = some (.lst [.int 0]) := upd_same
      generalize upd G4 pz (.lst [.int 0]) = G5 at s5 z5 ⊢
      have zc : (nI (canon ls)).length + (nI (canon rs)).length ≤ sizeLine := by
        have q1 : (canon ls).length ≤ fm.length := asc_len (asc_canon ls) fun k hk => hls k (mem_canon.mp hk)
        have q2 : (canon rs).length ≤ fm.length := asc_len (asc_canon rs) fun k hk => hrs k (mem_canon.mp hk)
        rw [nI_len, nI_len, sizeLine_eq]
        omega
      refine ⟨_, rfl, fa, _, 0, _, rfl, rfl, SqT.of (s5 _ _ (kt4 _ _ kf1)), rfl, _, rfl, fa, _, 1, _, rfl, rfl, SqT.of (s5 _ _ (kt4 _ _ kf1)), rfl, xa, xb, _, _, rfl, rfl, s5 _ _ (kt4 _ _ kf2), s5 _ _ (kt4 _ _ kf3), zc, fun pt G6 s6 pt6 => ?_⟩
      refine ⟨pt, rfl, ⟨_, SqT.of pt6⟩, fun pd nd => ?_⟩
      have g6 := s6 _ _ (s5 _ _ g4)
      have t6 := s6 _ _ (s5 _ _ t4)
      refine lc_tup (K := K) (a := pt) (xs := nI (canon ls) ++ nI (canon rs)) (fun i H' => ∃ zs : List Int, H' = upd G6 pd (.lst (zs.map V.int)) ∧ zs.length = i) ⟨[], rfl, rfl⟩ (fun i H' _ ⟨zs, e, _⟩ => by rw [e, ]; exact SqT.of (by rw [upd_ne (ne_of_none pt6 nd)]; exact pt6)) ?_ ?_
      · rintro i x H' hx ⟨zs, rfl, hz⟩
        rw [nI_app] at hx
        obtain ⟨g, hg, rfl⟩ := nI_of hx
        have hlt : g < fm.length := by
          rcases List.mem_append.mp (List.mem_of_getElem? hg) with q | q
          · exact hls g (mem_canon.mp q)
          · exact hrs g (mem_canon.mp q)
        have hlt2 : g < hs.length := by rw [t2]; exact hlt
        have hil : i < (canon ls ++ canon rs).length := (List.getElem?_eq_some_iff.mp hg).1
        refine ⟨rfl, ?_⟩
        refine ⟨_, rfl, y, Y, dx, _, _, rfl, by rw [upd_ne (ne_of_none g6 nd)]; exact g6, T.clY, T.nh, yf_heights L, _, rfl, L.h, _, _, _, rfl, rfl, SqL.of (by rw [upd_ne (ne_of_none t6 nd)]; exact t6), atI_nat (v := .int hs[g]) (by rw [List.getElem?_map, List.getElem?_eq_getElem hlt2] <;> rfl), _, _, rfl, rfl, _, upd_same, ?_, ?_⟩
        · rw [List.length_map, hz]
          rw [nI_len, nI_len] at zc
          rw [List.length_append] at hil
          omega
        · exact ⟨zs ++ [1 + hs[g]], by rw [upd_upd, List.map_append] <;> rfl, by rw [List.length_append, hz] <;> rfl⟩
      · rintro H' ⟨zs, rfl, hz⟩
        have s7 : Same G6 (upd G6 pd (.lst (zs.map V.int))) := same_new nd _
        have z7 : (upd G6 pd (.lst (zs.map V.int))) pd = some (.lst (zs.map V.int)) := upd_same
        generalize upd G6 pd (.lst (zs.map V.int)) = G7 at s7 z7 ⊢
        have z7' := s7 _ _ (s6 _ _ z5)
        refine ⟨pz, pd, _, _, rfl, rfl, z7', z7, ?_, fun pc2 nc2 => ?_⟩
        · rw [List.length_map, hz]
          rw [nI_len, nI_len] at zc
          have q1 : (canon ls).length ≤ fm.length := asc_len (asc_canon ls) fun k hk => hls k (mem_canon.mp hk)
          have q2 : (canon rs).length ≤ fm.length := asc_len (asc_canon rs) fun k hk => hrs k (mem_canon.mp hk)
          rw [List.length_append, nI_len, nI_len, sizeLine_eq]
          show 1 + _ ≤ _
          omega
        have s8 : Same G7 (upd G7 pc2 (.lst ([V.int 0] ++ zs.map V.int))) := same_new nc2 _
        have z8 : (upd G7 pc2 (.lst ([V.int 0] ++ zs.map V.int))) pc2 = some (.lst ((0 :: zs).map V.int)) := upd_same
        generalize upd G7 pc2 (.lst ([V.int 0] ++ zs.map V.int)) = G8 at s8 z8 ⊢
        have s48 : Same G4 G8 := ((s5.trans s6).trans s7).trans s8
        refine ⟨pc2, 0 :: zs, rfl, SqL.of z8, Nat.succ_pos _, fun m _ _ => ?_⟩
        have t8 := s48 _ _ t4
        refine ⟨L.h, _, _, rfl, rfl, t8, by rw [List.length_map, t2]; exact Nat.lt_of_le_of_lt zf (by decide), ?_⟩
        have k9 : ∀ b u, G8 b = some u → b ≠ L.h → (upd G8 L.h (.lst (hs.map V.int ++ [.int m]))) b = some u := fun b u e ne => by rw [upd_ne ne]; exact e
        have t9 : (upd G8 L.h (.lst (hs.map V.int ++ [.int m]))) L.h = some (.lst ((hs ++ [m]).map V.int)) := by rw [upd_same, List.map_append] <;> rfl
        have n9 : NumAt P w (upd G8 L.h (.lst (hs.map V.int ++ [.int m]))) L.n (fm ++ [formOf ls rs]) := by
          obtain ⟨φ4, e4⟩ := n4.isExt
          have n8 : NumAt P w G8 L.n (fm ++ [formOf ls rs]) := n4.keep (by rw [e4]; exact s48 _ _ e4) fun b xs e => s48 _ _ e
          exact n8.keep (upd_ne hnl.symm) fun b xs e => k9 b _ e (ne_of e t8 (fun z => nomatch z))
        generalize upd G8 L.h (.lst (hs.map V.int ++ [.int m])) = G9 at k9 t9 n9 ⊢
        have l9 := k9 _ _ (s48 _ _ l4) yd.dlh
        have r9 := k9 _ _ (s48 _ _ r4) yd.drh
        have g9 := k9 _ _ (s48 _ _ g4) yhl
        have kt9 : ∀ b xs, G1 b = some (.tup xs) → G9 b = some (.tup xs) := fun b xs e => k9 _ _ (s48 _ _ (kt4 b xs e)) (ne_of e t1 (fun z => nomatch z))
        have kf9 : KeyAt G9 fa (formOf ls rs) := kf.keep kt9
        have hget : (fm ++ [formOf ls rs])[fm.length]? = some (formOf ls rs) := by rw [List.getElem?_append_right (Nat.le_refl _), Nat.sub_self] <;> rfl
        -- return self._numbers[form]
        refine ⟨_, rfl, y, Y, dx, _, _, rfl, g9, T.clY, T.nn, yf_numbers L, _, rfl, L.n, fa, formOf ls rs, _, fm.length, rfl, rfl, n9, kf9, hget, ?_⟩
        have good9 : Good (added fm (formOf ls rs)) := yd.good.added hls hrs
        rw [added_new hm] at k good9
        refine k G9 fm.length ⟨⟨dx, g9⟩, Tups.snoc l1 l2 l3 l9 kt9 (kt9 _ _ kf2), Tups.snoc r1 r2 r3 r9 kt9 (kt9 _ _ kf3), ⟨hs ++ [m], t9, ?_⟩, n9, yd.dlr, yd.dlh, yd.drh, good9⟩ hget ?_
        · rw [List.length_append, List.length_append, t2] <;> rfl
        · intro b u e ne
          have ne1 : b ≠ L.h := fun z => ne (by show b ∈ [L.l, L.r, L.h, L.n]; simp [z])
          exact k9 b u (s48 b u (k14 b u (s1 b u e) ne)) ne1
end
end K20
set_option Elab.async false
set_option linter.all false
set_option maxRecDepth 100000
set_option maxHeartbeats 4000000
/-! KYardC: the yard made; an order made. -/
namespace K20
open PySem L2
/-- a field stored, the value a new thing -/
theorem stored {H : Hp} {y : Addr} {u o : HO} (hy : H y = some u) : (upd H y o) y = some o ∧ ∀ b v, H b = some v → b ≠ y → (upd H y o) b = some v :=
  ⟨upd_same, fun b v e n => by rw [upd_ne n]; exact e⟩
section
variable {P : Program} {w : World} {K : PySem.W.Frag} {mg : Str → Option Value} {base : Heap} {Y O : Addr}
def spYInit (P : Program) (w : World) (Y : Addr) : Sp := fun vs H Q _ => ∃ (y dx : Addr), vs = [.ref y] ∧ H y = some (.ins Y dx []) ∧ ∀ (H' : Hp) (L : YA), YardAt P w Y H' y L [([], [])] → Keep [y] H H' → (∀ x ∈ L.S, H x = none) → Q .non H'
theorem scYI : FnScope ["self"] ["self"] (defScope sYInit) := ⟨rfl, rfl, rfl, by decide +kernel, rfl, by decide +kernel, by decide +kernel⟩
theorem few5 (L : YA) : ∀ n, n ≤ 5 → n < 1000 := fun n h => by omega
theorem ok_yinit {f : Addr} {fd : FuncData} (F : Fun K "__init__" "Yard.__init__" sYInit f fd) (T : Txt K mg Y O) : FnOk P w K mg base CX0 1 f fd ["self"] (spYInit P w Y) := by
  refine F.ok scYI (fun vs H Q E h => ?_) (fun cdv A outer s H vs Q E hr h => ?_)
  · obtain ⟨y, dx, rfl, _⟩ := h
    rfl
  · obtain ⟨y, dx, rfl, hy, k⟩ := h
    have hu := hr.units
    refine ⟨_, pss_cons (ps_fld (pv 0) (pe_lst (pa_cons (pe_tup pa_nil) pa_nil)) rfl) (pss_cons (ps_fld (pv 0) (pe_lst (pa_cons (pe_tup pa_nil) pa_nil)) rfl)
      (pss_cons (ps_fld (pv 0) (pe_lst (pa_cons pe_int pa_nil)) rfl)
      (pss_cons (ps_fld (pv 0) (pe_ndisp (P := P) (w := w) rfl rfl hu (pps_cons (pe_tup (pa_cons (pe_tup pa_nil) (pa_cons (pe_tup pa_nil) pa_nil))) pe_int pps_nil) (by rfl) (by rfl) (fun z => by cases z) (by decide)) rfl)
      (pss_one (ps_fld (pv 0) (pe_disp (pps_cons pe_int pe_int pps_nil) (by rfl) (by rfl) (fun z => by cases z) (by decide)) rfl))))), ?_⟩
    -- self._lefts = [()]
    refine ⟨Nat.zero_le _, fun a1 n1 => ⟨(by show 1 ≤ sizeLine; decide), fun a2 n2 => ⟨_, rfl, y, Y, dx, [], rfl, ?_, T.clY, T.nl, (by show 0 < 1000; decide), ?_⟩⟩⟩
    · rw [upd_ne (ne_of_none ((same_new n1 _) _ _ hy) n2)]
      exact (same_new n1 _) _ _ hy
    have q1 : (upd (upd H a1 (.tup [])) a2 (.lst [.ref a1])) y = some (.ins Y dx []) := by
      rw [upd_ne (ne_of_none ((same_new n1 _) _ _ hy) n2)]
      exact (same_new n1 _) _ _ hy
    have m1 : (upd (upd H a1 (.tup [])) a2 (.lst [.ref a1])) a1 = some (.tup []) := by rw [upd_ne (ne_of_none upd_same n2), upd_same]
    have m2 : (upd (upd H a1 (.tup [])) a2 (.lst [.ref a1])) a2 = some (.lst [.ref a1]) := upd_same
    have s1 : Same H (upd (upd H a1 (.tup [])) a2 (.lst [.ref a1])) := (same_new n1 _).trans (same_new n2 _)
    have f2 : H a2 = none := (same_new n1 (.tup [])).free n2
    have old : ∀ {G : Hp} {o : HO} {p : Addr}, Keep [y] H G → G y = some o → G p = none → H p = none := fun {G o p} k e h => k.free h fun a ha => by
      rw [List.mem_singleton.mp ha]
      exact ⟨o, e⟩
    generalize upd (upd H a1 (.tup [])) a2 (.lst [.ref a1]) = G1 at q1 m1 m2 s1 ⊢
    obtain ⟨x1, k1⟩ := stored (o := .ins Y dx (putF "_lefts" (.ref a2) [])) q1
    have w1 := k1 _ _ m1 (ne_of m1 q1 (fun z => nomatch z))
    have w2 := k1 _ _ m2 (ne_of m2 q1 (fun z => nomatch z))
    have K1 : Keep [y] H (upd G1 y (.ins Y dx (putF "_lefts" (.ref a2) []))) := fun b u e n => k1 b u (s1 b u e) (fun z => n (by rw [z]; exact List.mem_singleton_self _))
    generalize upd G1 y (.ins Y dx (putF "_lefts" (.ref a2) [])) = G2 at x1 k1 w1 w2 K1 ⊢
    -- self._rights = [()]
    refine ⟨Nat.zero_le _, fun a3 n3 => ⟨(by show 1 ≤ sizeLine; decide), fun a4 n4 => ⟨_, rfl, y, Y, dx, _, rfl, ((same_new n3 _).trans (same_new n4 _)) _ _ x1, T.clY, T.nr, (by show 1 < 1000; decide), ?_⟩⟩⟩
    have s2 : Same G2 (upd (upd G2 a3 (.tup [])) a4 (.lst [.ref a3])) := (same_new n3 _).trans (same_new n4 _)
    have m3 : (upd (upd G2 a3 (.tup [])) a4 (.lst [.ref a3])) a3 = some (.tup []) := by rw [upd_ne (ne_of_none upd_same n4), upd_same]
    have m4 : (upd (upd G2 a3 (.tup [])) a4 (.lst [.ref a3])) a4 = some (.lst [.ref a3]) := upd_same
    have f4 : G2 a4 = none := (same_new n3 (.tup [])).free n4
    have fr4 : H a4 = none := old K1 x1 f4
    generalize upd (upd G2 a3 (.tup [])) a4 (.lst [.ref a3]) = G3 at s2 m3 m4 ⊢
    have x2 := s2 _ _ x1
    obtain ⟨x3, k3⟩ := stored (o := .ins Y dx (putF "_rights" (.ref a4) (putF "_lefts" (.ref a2) []))) x2
    have v1 := k3 _ _ (s2 _ _ w1) (ne_of w1 x1 (fun z => nomatch z))
    have v2 := k3 _ _ (s2 _ _ w2) (ne_of w2 x1 (fun z => nomatch z))
    have v3 := k3 _ _ m3 (ne_of m3 x2 (fun z => nomatch z))
    have v4 := k3 _ _ m4 (ne_of m4 x2 (fun z => nomatch z))
    have K3 : Keep [y] H (upd G3 y (.ins Y dx (putF "_rights" (.ref a4) (putF "_lefts" (.ref a2) [])))) := fun b u e n => k3 b u (s2 b u (K1 b u e n)) (fun z => n (by rw [z]; exact List.mem_singleton_self _))
    have ne24 : a2 ≠ a4 := ne_of_none w2 f4
    generalize upd G3 y (.ins Y dx (putF "_rights" (.ref a4) (putF "_lefts" (.ref a2) []))) = G4 at x3 k3 v1 v2 v3 v4 K3 ⊢
    -- self._heights = [0]
    refine ⟨(by show 1 ≤ sizeLine; decide), fun a5 n5 => ⟨_, rfl, y, Y, dx, _, rfl, (same_new n5 _) _ _ x3, T.clY, T.nh, (by show 2 < 1000; decide), ?_⟩⟩
    have fr5 : H a5 = none := old K3 x3 n5
    have s4 : Same G4 (upd G4 a5 (.lst [.int 0])) := same_new n5 _
    have m5 : (upd G4 a5 (.lst [.int 0])) a5 = some (.lst [.int 0]) := upd_same
    generalize upd G4 a5 (.lst [.int 0]) = G5 at s4 m5 ⊢
    have x4 := s4 _ _ x3
    obtain ⟨x5, k5⟩ := stored (o := .ins Y dx (putF "_heights" (.ref a5) (putF "_rights" (.ref a4) (putF "_lefts" (.ref a2) [])))) x4
    have u1 := k5 _ _ (s4 _ _ v1) (ne_of v1 x3 (fun z => nomatch z))
    have u2 := k5 _ _ (s4 _ _ v2) (ne_of v2 x3 (fun z => nomatch z))
    have u3 := k5 _ _ (s4 _ _ v3) (ne_of v3 x3 (fun z => nomatch z))
    have u4 := k5 _ _ (s4 _ _ v4) (ne_of v4 x3 (fun z => nomatch z))
    have u5 := k5 _ _ m5 (ne_of m5 x4 (fun z => nomatch z))
    have ne25 : a2 ≠ a5 := ne_of_none v2 n5
    have ne45 : a4 ≠ a5 := ne_of_none v4 n5
    have K5 : Keep [y] H (upd G5 y (.ins Y dx (putF "_heights" (.ref a5) (putF "_rights" (.ref a4) (putF "_lefts" (.ref a2) []))))) := fun b u e n => k5 b u (s4 b u (K3 b u e n)) (fun z => n (by rw [z]; exact List.mem_singleton_self _))
    generalize upd G5 y (.ins Y dx (putF "_heights" (.ref a5) (putF "_rights" (.ref a4) (putF "_lefts" (.ref a2) [])))) = G6 at x5 k5 u1 u2 u3 u4 u5 K5 ⊢
    -- self._numbers = {((), ()): 0}
    intro a6 n6
    have fr6 : H a6 = none := old K5 x5 n6
    have s6 : Same G6 (upd G6 a6 (NumO P w a6 [])) := same_new n6 _
    have m6 : (upd G6 a6 (NumO P w a6 [])) a6 = some (NumO P w a6 []) := upd_same
    refine ⟨Nat.zero_le _, fun b1 o1 => ⟨Nat.zero_le _, fun b2 o2 => ⟨(by show 2 ≤ sizeLine; decide), fun b3 o3 => ?_⟩⟩⟩
    have s7 : Same (upd G6 a6 (NumO P w a6 [])) (upd (upd (upd (upd G6 a6 (NumO P w a6 [])) b1 (.tup [])) b2 (.tup [])) b3 (.tup [.ref b1, .ref b2])) := ((same_new o1 _).trans (same_new o2 _)).trans (same_new o3 _)
    have c1 : (upd (upd (upd (upd G6 a6 (NumO P w a6 [])) b1 (.tup [])) b2 (.tup [])) b3 (.tup [.ref b1, .ref b2])) b1 = some (.tup []) := ((same_new o2 _).trans (same_new o3 _)) _ _ upd_same
    have c2 : (upd (upd (upd (upd G6 a6 (NumO P w a6 [])) b1 (.tup [])) b2 (.tup [])) b3 (.tup [.ref b1, .ref b2])) b2 = some (.tup []) := (same_new o3 _) _ _ upd_same
    have c3 : (upd (upd (upd (upd G6 a6 (NumO P w a6 [])) b1 (.tup [])) b2 (.tup [])) b3 (.tup [.ref b1, .ref b2])) b3 = some (.tup [.ref b1, .ref b2]) := upd_same
    have m7 := s7 _ _ m6
    have s67 := s6.trans s7
    generalize upd (upd (upd (upd G6 a6 (NumO P w a6 [])) b1 (.tup [])) b2 (.tup [])) b3 (.tup [.ref b1, .ref b2]) = G7 at s7 c1 c2 c3 m7 s67 ⊢
    refine ⟨b3, ([], []), rfl, m7, ⟨b1, b2, c3, c1, c2⟩, fun o N => ?_⟩
    have k7 : ∀ b u, G6 b = some u → (upd G7 a6 o) b = some u := fun b u e => by
      rw [upd_ne (ne_of_none e n6)]
      exact s67 b u e
    generalize upd G7 a6 o = G8 at N k7 ⊢
    have x8 := k7 _ _ x5
    refine ⟨_, rfl, y, Y, dx, _, rfl, x8, T.clY, T.nn, (by show 3 < 1000; decide), ?_⟩
    obtain ⟨x9, k9⟩ := stored (o := .ins Y dx (putF "_numbers" (.ref a6) (putF "_heights" (.ref a5) (putF "_rights" (.ref a4) (putF "_lefts" (.ref a2) []))))) x8
    have N9 : NumAt P w (upd G8 y (.ins Y dx (putF "_numbers" (.ref a6) (putF "_heights" (.ref a5) (putF "_rights" (.ref a4) (putF "_lefts" (.ref a2) [])))))) a6 [([], [])] := by
      obtain ⟨φ, e⟩ := N.isExt
      exact N.keep (by rw [e]; exact k9 _ _ e (ne_of e x8 (fun z => nomatch z))) fun b xs e => k9 _ _ e (ne_of e x8 (fun z => nomatch z))
    have t1 := k9 _ _ (k7 _ _ u1) (ne_of u1 x5 (fun z => nomatch z))
    have t2 := k9 _ _ (k7 _ _ u2) (ne_of u2 x5 (fun z => nomatch z))
    have t3 := k9 _ _ (k7 _ _ u3) (ne_of u3 x5 (fun z => nomatch z))
    have t4 := k9 _ _ (k7 _ _ u4) (ne_of u4 x5 (fun z => nomatch z))
    have t5 := k9 _ _ (k7 _ _ u5) (ne_of u5 x5 (fun z => nomatch z))
    have K9 : Keep [y] H (upd G8 y (.ins Y dx (putF "_numbers" (.ref a6) (putF "_heights" (.ref a5) (putF "_rights" (.ref a4) (putF "_lefts" (.ref a2) [])))))) := fun b u e n => k9 b u (k7 b u (K5 b u e n)) (fun z => n (by rw [z]; exact List.mem_singleton_self _))
    generalize upd G8 y (.ins Y dx (putF "_numbers" (.ref a6) (putF "_heights" (.ref a5) (putF "_rights" (.ref a4) (putF "_lefts" (.ref a2) []))))) = G9 at x9 k9 N9 t1 t2 t3 t4 t5 K9 ⊢
    -- self._turned = {0: 0}
    intro a7 n7
    refine ⟨upd_same, [(Sum.inl 0, .int 0)], rfl, by decide, ?_⟩
    have s9 : Same G9 (upd (upd G9 a7 (.dK [])) a7 (.dK (mergeK [] [(Sum.inl 0, .int 0)]))) := fun b u e => by
      rw [upd_ne (ne_of_none e n7), upd_ne (ne_of_none e n7)]
      exact e
    generalize upd (upd G9 a7 (.dK [])) a7 (.dK (mergeK [] [(Sum.inl 0, .int 0)])) = G10 at s9 ⊢
    have x10 := s9 _ _ x9
    refine ⟨_, rfl, y, Y, dx, _, rfl, x10, T.clY, T.nt, (by show 4 < 1000; decide), ?_⟩
    obtain ⟨x11, k11⟩ := stored (o := .ins Y dx (yf ⟨a2, a4, a5, a6, a7⟩)) x10
    have N10 : NumAt P w G10 a6 [([], [])] := by
      obtain ⟨φ, e⟩ := N9.isExt
      exact N9.keep (by rw [e]; exact s9 _ _ e) fun b xs e => s9 _ _ e
    have N11 : NumAt P w (upd G10 y (.ins Y dx (yf ⟨a2, a4, a5, a6, a7⟩))) a6 [([], [])] := by
      obtain ⟨φ, e⟩ := N10.isExt
      exact N10.keep (by rw [e]; exact k11 _ _ e (ne_of e x10 (fun z => nomatch z))) fun b xs e => k11 _ _ e (ne_of e x10 (fun z => nomatch z))
    have p1 := k11 _ _ (s9 _ _ t1) (ne_of t1 x9 (fun z => nomatch z))
    have p2 := k11 _ _ (s9 _ _ t2) (ne_of t2 x9 (fun z => nomatch z))
    have p3 := k11 _ _ (s9 _ _ t3) (ne_of t3 x9 (fun z => nomatch z))
    have p4 := k11 _ _ (s9 _ _ t4) (ne_of t4 x9 (fun z => nomatch z))
    have p5 := k11 _ _ (s9 _ _ t5) (ne_of t5 x9 (fun z => nomatch z))
    have one : ∀ {a : Addr} {g : Form → List Nat} {H : Hp} {t : Addr}, g ([], []) = [] → H a = some (.lst [.ref t]) → H t = some (.tup []) → Tups H a g [([], [])] := fun {a g H t} hg e1 e2 =>
      ⟨[t], e1, rfl, fun i b f h1 h2 => by
        cases i with
        | zero =>
          have e3 : t = b := Option.some.inj h1
          have e4 : (([], []) : Form) = f := Option.some.inj h2
          rw [← e3, ← e4, hg]
          exact e2
        | succ i => cases h1⟩
    refine k _ ⟨a2, a4, a5, a6, a7⟩ ⟨⟨dx, x11⟩, one rfl p2 p1, one rfl p4 p3, ⟨[0], p5, rfl⟩, N11, ne24, ne25, ne45, Good.one⟩ (fun b u e n => k11 b u (s9 b u (K9 b u e n)) (fun z => n (by rw [z]; exact List.mem_singleton_self _))) fun x hx => ?_
    have hx : x ∈ [a2, a4, a5, a6] := hx
    simp only [List.mem_cons, List.not_mem_nil, or_false] at hx
    rcases hx with rfl | rfl | rfl | rfl
    · exact f2
    · exact fr4
    · exact fr5
    · exact fr6
end
end K20
set_option Elab.async false
set_option linter.all false
set_option maxRecDepth 100000
set_option maxHeartbeats 4000000
/-! KOrdA: an order made; at_least by its recursion. -/
namespace K20
open PySem L2
structure PropD (K : PySem.W.Frag) (C : Addr) (x qual : Str) (st : Stmt) (p f : Addr) (fd : FuncData) : Prop where
  F : Fun K x qual st f fd
  b : Binds K fd ["self"] []
  m : PropOf K C x p f
/-- the model's games stand in the yard with their own options -/
structure Pre (fm fy : List Form) : Prop where
  le : fm.length ≤ fy.length
  op : ∀ i, i < fm.length → ∀ s, opts fy i s = opts fm i s
theorem Pre.refl (fm : List Form) : Pre fm fm := ⟨Nat.le_refl _, fun _ _ _ => rfl⟩
theorem Pre.app (fm g : List Form) : Pre fm (fm ++ g) := ⟨by rw [List.length_append]; omega, fun i h s => opts_app g h s⟩
theorem Pre.trans {a b c : List Form} (x : Pre a b) (y : Pre b c) : Pre a c := ⟨Nat.le_trans x.le y.le, fun i h s => (y.op i (Nat.lt_of_lt_of_le h x.le) s).trans (x.op i h s)⟩
def kij (i j : Nat) : List Key := [Sum.inl (i : Int), Sum.inl (j : Int)]
theorem kij_inj {i j a b : Nat} (e : kij i j = kij a b) : i = a ∧ j = b := by
  unfold kij at e
  injection e with e1 e2
  injection e2 with e2 _
  injection e1 with e1
  injection e2 with e2
  exact ⟨Int.ofNat_inj.mp e1, Int.ofNat_inj.mp e2⟩
def UA (N : Nat) : List (List Key) := (List.range N).flatMap fun i => (List.range N).map fun j => kij i j
theorem mem_UA {N i j : Nat} (hi : i < N) (hj : j < N) : kij i j ∈ UA N := List.mem_flatMap.mpr ⟨i, List.mem_range.mpr hi, List.mem_map.mpr ⟨j, List.mem_range.mpr hj, rfl⟩⟩
theorem len_fl {α β : Type} {f : α → List β} {n : Nat} : ∀ {l : List α}, (∀ x ∈ l, (f x).length = n) → (l.flatMap f).length = l.length * n
  | [], _ => by simp
  | x :: r, h => by
    rw [List.flatMap_cons, List.length_append, h x List.mem_cons_self, len_fl fun y hy => h y (List.mem_cons_of_mem _ hy), List.length_cons, Nat.succ_mul, Nat.add_comm]
theorem len_UA (N : Nat) : (UA N).length = N * N := by
  unfold UA
  rw [len_fl (n := N) fun x _ => by rw [List.length_map, List.length_range], List.length_range]
def RA (fm : List Form) (k : List Key) (v : V) : Prop := ∃ i j : Nat, k = kij i j ∧ v = .bl (ge fm i j)
abbrev MemoA (fm : List Form) (ka : List (List Key × V)) : Prop := Memo ka (UA fm.length) (RA fm)
theorem MemoA.small {fm : List Form} {ka : List (List Key × V)} (m : MemoA fm ka) (h : fm.length ≤ 24) : ka.length < sizeLine := by
  have q := m.len
  rw [len_UA] at q
  have p : fm.length * fm.length ≤ 24 * 24 := Nat.mul_le_mul h h
  exact small1000 (by omega)
section
variable {P : Program} {w : World} {K : PySem.W.Frag} {mg : Str → Option Value} {base : Heap} {Y O : Addr}
def spOInit (O : Addr) : Sp := fun vs H Q _ => ∃ (o y dx : Addr), vs = [.ref o, .ref y] ∧ H o = some (.ins O dx []) ∧ ∀ (H' : Hp) (da dc : Addr), OrderAt O H' o y da dc [] [] → Keep [o] H H' → H da = none → H dc = none → Q .non H'
theorem scOI : FnScope ["self", "yard"] ["self", "yard"] (defScope sOInit) := ⟨rfl, rfl, rfl, by decide +kernel, rfl, by decide +kernel, by decide +kernel⟩
theorem ok_oinit {f : Addr} {fd : FuncData} (F : Fun K "__init__" "Order.__init__" sOInit f fd) (T : Txt K mg Y O) : FnOk P w K mg base CX0 1 f fd ["self", "yard"] (spOInit O) := by
  refine F.ok scOI (fun vs H Q E h => ?_) (fun cdv A outer s H vs Q E hr h => ?_)
  · obtain ⟨o, y, dx, rfl, _⟩ := h
    rfl
  · obtain ⟨o, y, dx, rfl, ho, k⟩ := h
    refine ⟨_, pss_cons (ps_fld (pv 0) (pv 1) rfl) (pss_cons (ps_fld (pv 0) pe_dnewT rfl) (pss_one (ps_fld (pv 0) pe_dnewT rfl))), ?_⟩
    refine ⟨_, rfl, _, rfl, o, O, dx, [], rfl, ho, T.clO, T.ny, (by show 0 < 1000; decide), ?_⟩
    obtain ⟨x1, k1⟩ := stored (o := .ins O dx (putF "_yard" (.ref y) [])) ho
    have f1 : ∀ p, upd H o (.ins O dx (putF "_yard" (.ref y) [])) p = none → H p = none := fun p hp => by
      by_cases e : p = o
      · rw [e, x1] at hp; cases hp
      · rw [upd_ne e] at hp; exact hp
    generalize upd H o (.ins O dx (putF "_yard" (.ref y) [])) = G1 at x1 k1 f1 ⊢
    intro da na
    have x2 : (upd G1 da (.dT [])) o = some (.ins O dx (putF "_yard" (.ref y) [])) := (same_new na _) _ _ x1
    refine ⟨_, rfl, o, O, dx, _, rfl, x2, T.clO, T.na, (by show 1 < 1000; decide), ?_⟩
    have d2 : (upd G1 da (.dT [])) da = some (.dT []) := upd_same
    have s2 : Same G1 (upd G1 da (.dT [])) := same_new na _
    generalize upd G1 da (.dT []) = G2 at x2 d2 s2 ⊢
    obtain ⟨x3, k3⟩ := stored (o := .ins O dx (putF "_at_least" (.ref da) (putF "_yard" (.ref y) []))) x2
    have d3 := k3 _ _ d2 (ne_of d2 x2 (fun z => nomatch z))
    have f3 : ∀ p, upd G2 o (.ins O dx (putF "_at_least" (.ref da) (putF "_yard" (.ref y) []))) p = none → G2 p = none := fun p hp => by
      by_cases e : p = o
      · rw [e, x3] at hp; cases hp
      · rw [upd_ne e] at hp; exact hp
    generalize upd G2 o (.ins O dx (putF "_at_least" (.ref da) (putF "_yard" (.ref y) []))) = G3 at x3 k3 d3 f3 ⊢
    intro dc nc
    have x4 : (upd G3 dc (.dT [])) o = some (.ins O dx (putF "_at_least" (.ref da) (putF "_yard" (.ref y) []))) := (same_new nc _) _ _ x3
    refine ⟨_, rfl, o, O, dx, _, rfl, x4, T.clO, T.nc, (by show 2 < 1000; decide), ?_⟩
    have d4 : (upd G3 dc (.dT [])) dc = some (.dT []) := upd_same
    have s4 : Same G3 (upd G3 dc (.dT [])) := same_new nc _
    have ne : da ≠ dc := ne_of_none d3 nc
    generalize upd G3 dc (.dT []) = G4 at x4 d4 s4 ⊢
    have d4' := s4 _ _ d3
    refine k _ da dc ⟨⟨dx, upd_same⟩, by rw [upd_ne (ne_of d4' x4 (fun z => nomatch z))]; exact d4', by rw [upd_ne (ne_of d4 x4 (fun z => nomatch z))]; exact d4, ne⟩ (fun b u e n => ?_) (f1 _ na) (f1 _ (s2.free (f3 _ nc)))
    have ne' : b ≠ o := fun z => n (by rw [z]; exact List.mem_singleton_self _)
    rw [upd_ne ne']
    exact s4 _ _ (k3 _ _ (s2 _ _ (k1 _ _ e ne')) ne')
theorem scOY : FnScope ["self"] ["self"] (defScope sOYard) := ⟨rfl, rfl, rfl, by decide +kernel, rfl, by decide +kernel, by decide +kernel⟩
theorem ok_oyard {f p : Addr} {fd : FuncData} (D : PropD K O "yard" "Order.yard" sOYard p f fd) (T : Txt K mg Y O) : FnOk P w K mg base CX0 1 f fd ["self"] (getSp O "_yard") := by
  refine D.F.ok scOY (fun vs H Q E h => ?_) (fun cdv A outer s H vs Q E hr h => ?_)
  · obtain ⟨a, dx, fs, v, rfl, _⟩ := h
    rfl
  · obtain ⟨a, dx, fs, v, rfl, ha, hl, k⟩ := h
    exact ⟨_, pss_one (ps_ret (pe_fld (pv 0) rfl)), _, rfl, a, O, dx, fs, v, rfl, ha, T.clO, T.ny, hl, k⟩
/-- all that the order's methods ask of the defs around them -/
structure OD (K : PySem.W.Frag) (mg : Str → Option Value) (Y O : Addr) : Prop where
  T : Txt K mg Y O
  yard : ∃ p f fd, PropD K O "yard" "Order.yard" sOYard p f fd
  check : ∃ f fd, MethD K Y "_check" "Yard._check" sCheck ["self", "game"] f fd
  height : ∃ f fd, MethD K Y "height" "Yard.height" sHeight ["self", "game"] f fd
  lefts : ∃ f fd, MethD K Y "lefts" "Yard.lefts" sLefts ["self", "game"] f fd
  rights : ∃ f fd, MethD K Y "rights" "Yard.rights" sRights ["self", "game"] f fd
  options : ∃ f fd, MethD K Y "options" "Yard.options" sOptions ["self", "game", "side"] f fd
  other : ∃ f fd, DefD K mg "other_side" sOtherSide ["side"] f fd
theorem no_height (L : YA) : (yf L).lookup ("height" : Str) = none := yf_no L (by decide +kernel) (by decide +kernel) (by decide +kernel) (by decide +kernel) (by decide +kernel)
theorem no_lefts (L : YA) : (yf L).lookup ("lefts" : Str) = none := yf_no L (by decide +kernel) (by decide +kernel) (by decide +kernel) (by decide +kernel) (by decide +kernel)
theorem no_rights (L : YA) : (yf L).lookup ("rights" : Str) = none := yf_no L (by decide +kernel) (by decide +kernel) (by decide +kernel) (by decide +kernel) (by decide +kernel)
theorem no_options (L : YA) : (yf L).lookup ("options" : Str) = none := yf_no L (by decide +kernel) (by decide +kernel) (by decide +kernel) (by decide +kernel) (by decide +kernel)
theorem no_game (L : YA) : (yf L).lookup ("game" : Str) = none := yf_no L (by decide +kernel) (by decide +kernel) (by decide +kernel) (by decide +kernel) (by decide +kernel)
theorem no_of (y da dc : Addr) {m : Str} (h1 : ¬ m = "_can_win" := by decide +kernel) (h2 : ¬ m = "_at_least" := by decide +kernel) (h3 : ¬ m = "_yard" := by decide +kernel) : (of y da dc).lookup m = none := of_no y da dc h1 h2 h3
/-- what at_least and _reckon promise of the games i and j -/
def wishA (P : Program) (w : World) (Y O : Addr) (b : Nat) (vs : List V) (H : Hp) (Q : VK) : Prop := ∃ (o y da dc : Addr) (L : YA) (fy fm : List Form) (ka kc : List (List Key × V)) (i j : Nat),
  vs = [.ref o, .int (i : Int), .int (j : Int)] ∧ OrderAt O H o y da dc ka kc ∧ YardAt P w Y H y L fy ∧ Pre fm fy ∧ Wf fm ∧ fm.length ≤ 24 ∧ MemoA fm ka ∧ i < fm.length ∧ j < fm.length ∧ i + j < b ∧
  ∀ (H' : Hp) (ka' : List (List Key × V)), OrderAt O H' o y da dc ka' kc → MemoA fm ka' → Keep [da] H H' → Q (.bl (ge fm i j)) H'
def spAt (P : Program) (w : World) (Y O : Addr) (n : Nat) : Sp := fun vs H Q _ => wishA P w Y O n vs H Q
/-- what is written is the order's dict of one relation -/
theorem YardAt.memo {H H' : Hp} {y d : Addr} {L : YA} {fy : List Form} {kvs : List (List Key × V)} (yd : YardAt P w Y H y L fy) (hd : H d = some (.dT kvs)) (k : Keep [d] H H') : YardAt P w Y H' y L fy :=
  yd.keep fun b u e n => k b u e fun z => by
    rw [List.mem_singleton.mp z, hd] at e
    exact n kvs (Option.some.inj e).symm
theorem scR : FnScope ["self", "one", "other", "right", "left"] ["self", "one", "other"] (defScope sReckon) := ⟨rfl, rfl, rfl, by decide +kernel, rfl, by decide +kernel, by decide +kernel⟩
theorem scA : FnScope ["self", "one", "other"] ["self", "one", "other"] (defScope sAtLeast) := ⟨rfl, rfl, rfl, by decide +kernel, rfl, by decide +kernel, by decide +kernel⟩
theorem ok_atl {n : Nat} {f fr : Addr} {fd fdr : FuncData} (D : MethD K O "at_least" "Order.at_least" sAtLeast ["self", "one", "other"] f fd) (DR : MethD K O "_reckon" "Order._reckon" sReckon ["self", "one", "other"] fr fdr)
    (C : OD K mg Y O) (GR : FnOk P w K mg base CX0 (2 * n + 5) fr fdr ["self", "one", "other"] (spAt P w Y O (n + 1))) : FnOk P w K mg base CX0 (2 * n + 6) f fd ["self", "one", "other"] (spAt P w Y O (n + 1)) := by
  have T := C.T
  obtain ⟨pp, fp, fdp, DP⟩ := C.yard
  obtain ⟨fc, fdc, DC⟩ := C.check
  obtain ⟨fh, fdh, DH⟩ := C.height
  have GP : FnOk P w K mg base CX0 1 fp fdp ["self"] (getSp O "_yard") := ok_oyard DP T
  have GH : FnOk P w K mg base CX0 2 fh fdh ["self", "game"] (spHeight P w Y) := ok_height DH T DC
  refine D.F.ok scA (fun vs H Q E h => ?_) (fun cdv A outer s H vs Q E hr h => ?_)
  · obtain ⟨o, y, da, dc, L, fy, fm, ka, kc, i, j, rfl, _⟩ := h
    rfl
  · obtain ⟨o, y, da, dc, L, fy, fm, ka, kc, i, j, rfl, od, yd, pre, wf, h24, ma, hi, hj, hn, k⟩ := h
    have hr2 : Room 2 _ := hr.mono (by omega)
    have hu := hu_of hr
    obtain ⟨dx, h1⟩ := od.ob
    obtain ⟨dy, h2⟩ := yd.ob
    have yi := Nat.lt_of_lt_of_le hi pre.le
    have yj := Nat.lt_of_lt_of_le hj pre.le
    refine ⟨_, pss_cons (ps_expr (pe_meth (pe_prop (pv 0) T.clO DP.m GP hr2 DP.b .nil pass0 rfl) T.clY DH.m GH hr2 DH.b .nil pass0 (pa_cons (pv 1) pa_nil)))
      (pss_cons (ps_expr (pe_meth (pe_prop (pv 0) T.clO DP.m GP hr2 DP.b .nil pass0 rfl) T.clY DH.m GH hr2 DH.b .nil pass0 (pa_cons (pv 2) pa_nil)))
      (pss_cons (ps_if (pt_cmp (pc_dnotin hu (pe_tup (pa_cons (pv 1) (pa_cons (pv 2) pa_nil))) (pe_fld (pv 0) rfl)))
        (pss_one (ps_dput hu (pe_fld (pv 0) rfl) (pe_tup (pa_cons (pv 1) (pa_cons (pv 2) pa_nil))) (pe_meth (pv 0) T.clO DR.m GR hr DR.b .nil pass0 (pa_cons (pv 1) (pa_cons (pv 2) pa_nil))) rfl))
        pss_nil)
      (pss_one (ps_ret (pe_dget hu (pe_fld (pv 0) rfl) (pe_tup (pa_cons (pv 1) (pa_cons (pv 2) pa_nil))) (fun _ _ => rfl)))))), ?_⟩
    refine ⟨_, rfl, o, dx, _, rfl, h1, o, dx, _, _, rfl, h1, of_yard y da dc, y, dy, _, rfl, h2, no_height L, _, rfl, y, L, fy, i, rfl, yd, yi, fun _ => ?_⟩
    refine ⟨_, rfl, o, dx, _, rfl, h1, o, dx, _, _, rfl, h1, of_yard y da dc, y, dy, _, rfl, h2, no_height L, _, rfl, y, L, fy, j, rfl, yd, yj, fun _ => ?_⟩
    -- if (one, other) not in self._at_least
    refine ⟨_, rfl, _, rfl, (by show 2 ≤ sizeLine; decide), fun t1 n1 => ?_⟩
    have s1 : Same H (upd H t1 (.tup [.int (i : Int), .int (j : Int)])) := same_new n1 _
    have e1 : (upd H t1 (.tup [.int (i : Int), .int (j : Int)])) t1 = some (.tup ((kij i j).map kV)) := upd_same
    generalize upd H t1 (.tup [.int (i : Int), .int (j : Int)]) = G1 at s1 e1 ⊢
    refine ⟨_, rfl, o, O, dx, _, _, rfl, s1 _ _ h1, T.clO, T.na, of_atl y da dc, da, _, rfl, DGet.t (k := kij i j) (s1 _ _ od.a) e1, _, rfl, ?_⟩
    cases e : valV ka (kij i j) with
    | some v =>
      refine iteF ?_
      obtain ⟨_, a, b, ek, ev⟩ := ma.all _ _ e
      obtain ⟨rfl, rfl⟩ := kij_inj ek
      refine ⟨_, rfl, o, O, dx, _, _, rfl, s1 _ _ h1, T.clO, T.na, of_atl y da dc, _, rfl, _, rfl, (by show 2 ≤ sizeLine; decide), fun t2 n2 => ?_⟩
      have s2 : Same G1 (upd G1 t2 (.tup [.int (i : Int), .int (j : Int)])) := same_new n2 _
      have e2 : (upd G1 t2 (.tup [.int (i : Int), .int (j : Int)])) t2 = some (.tup ((kij i j).map kV)) := upd_same
      generalize upd G1 t2 (.tup [.int (i : Int), .int (j : Int)]) = G2 at s2 e2 ⊢
      have g := DGet.t (k := kij i j) (s2 _ _ (s1 _ _ od.a)) e2
      rw [e] at g
      refine ⟨da, v, rfl, g, ?_⟩
      rw [ev]
      exact k G2 ka ⟨⟨dx, s2 _ _ (s1 _ _ h1)⟩, s2 _ _ (s1 _ _ od.a), s2 _ _ (s1 _ _ od.c), od.ne⟩ ma (Keep.of (s1.trans s2))
    | none =>
      refine iteT ?_
      refine ⟨_, rfl, o, dx, _, rfl, s1 _ _ h1, no_of y da dc, _, rfl, _, rfl, o, y, da, dc, L, fy, fm, ka, kc, i, j, rfl, ⟨⟨dx, s1 _ _ h1⟩, s1 _ _ od.a, s1 _ _ od.c, od.ne⟩, yd.same s1, pre, wf, h24, ma, hi, hj, hn, fun G2 ka2 od2 ma2 k2 => ?_⟩
      obtain ⟨dx2, g1⟩ := od2.ob
      refine ⟨_, rfl, o, O, dx2, _, _, rfl, g1, T.clO, T.na, of_atl y da dc, _, rfl, _, rfl, (by show 2 ≤ sizeLine; decide), fun t3 n3 => ?_⟩
      have s3 : Same G2 (upd G2 t3 (.tup [.int (i : Int), .int (j : Int)])) := same_new n3 _
      have e3 : (upd G2 t3 (.tup [.int (i : Int), .int (j : Int)])) t3 = some (.tup ((kij i j).map kV)) := upd_same
      generalize upd G2 t3 (.tup [.int (i : Int), .int (j : Int)]) = G3 at s3 e3 ⊢
      refine ⟨da, _, rfl, DPut.t (k := kij i j) (s3 _ _ od2.a) e3 (ma2.small h24), ?_⟩
      have ma4 : MemoA fm (putK ka2 (kij i j) (.bl (ge fm i j))) := ma2.put (mem_UA hi hj) ⟨i, j, rfl, rfl⟩
      have od4 : OrderAt O (upd G3 da (.dT (putK ka2 (kij i j) (.bl (ge fm i j))))) o y da dc (putK ka2 (kij i j) (.bl (ge fm i j))) kc :=
        ⟨⟨dx2, by rw [upd_ne (ne_of g1 od2.a (fun z => nomatch z))]; exact s3 _ _ g1⟩, upd_same, by rw [upd_ne od2.ne.symm]; exact s3 _ _ od2.c, od2.ne⟩
      have k4 : Keep [da] H (upd G3 da (.dT (putK ka2 (kij i j) (.bl (ge fm i j))))) := (Keep.of s1).trans (k2.trans ((Keep.of s3).trans (Keep.at (List.mem_singleton_self _) _)))
      generalize upd G3 da (.dT (putK ka2 (kij i j) (.bl (ge fm i j)))) = G4 at od4 k4 ⊢
      obtain ⟨dx4, g4⟩ := od4.ob
      refine ⟨_, rfl, o, O, dx4, _, _, rfl, g4, T.clO, T.na, of_atl y da dc, _, rfl, _, rfl, (by show 2 ≤ sizeLine; decide), fun t5 n5 => ?_⟩
      have s5 : Same G4 (upd G4 t5 (.tup [.int (i : Int), .int (j : Int)])) := same_new n5 _
      have e5 : (upd G4 t5 (.tup [.int (i : Int), .int (j : Int)])) t5 = some (.tup ((kij i j).map kV)) := upd_same
      generalize upd G4 t5 (.tup [.int (i : Int), .int (j : Int)]) = G5 at s5 e5 ⊢
      have g := DGet.t (k := kij i j) (s5 _ _ od4.a) e5
      rw [valV_put, if_pos rfl] at g
      refine ⟨da, _, rfl, g, ?_⟩
      exact k G5 _ ⟨⟨dx4, s5 _ _ g4⟩, s5 _ _ od4.a, s5 _ _ od4.c, od4.ne⟩ ma4 (k4.trans (Keep.of s5))
theorem ok_reckon {n : Nat} {f fa : Addr} {fd fda : FuncData} (D : MethD K O "_reckon" "Order._reckon" sReckon ["self", "one", "other"] f fd) (DA : MethD K O "at_least" "Order.at_least" sAtLeast ["self", "one", "other"] fa fda)
    (C : OD K mg Y O) (GA : FnOk P w K mg base CX0 (2 * n + 4) fa fda ["self", "one", "other"] (spAt P w Y O n)) : FnOk P w K mg base CX0 (2 * n + 5) f fd ["self", "one", "other"] (spAt P w Y O (n + 1)) := by
  have T := C.T
  obtain ⟨pp, fp, fdp, DP⟩ := C.yard
  obtain ⟨fc, fdc, DC⟩ := C.check
  obtain ⟨fl, fdl, DL⟩ := C.lefts
  obtain ⟨fr, fdr, DR⟩ := C.rights
  have GP : FnOk P w K mg base CX0 1 fp fdp ["self"] (getSp O "_yard") := ok_oyard DP T
  have GL : FnOk P w K mg base CX0 2 fl fdl ["self", "game"] (spOpt P w Y false) := ok_lefts DL T DC
  have GR : FnOk P w K mg base CX0 2 fr fdr ["self", "game"] (spOpt P w Y true) := ok_rights DR T DC
  refine D.F.ok scR (fun vs H Q E h => ?_) (fun cdv A outer s H vs Q E hr h => ?_)
  · obtain ⟨o, y, da, dc, L, fy, fm, ka, kc, i, j, rfl, _⟩ := h
    rfl
  · obtain ⟨o, y, da, dc, L, fy, fm, ka, kc, i, j, rfl, od, yd, pre, wf, h24, ma, hi, hj, hn, k⟩ := h
    have hr2 : Room 2 _ := hr.mono (by omega)
    obtain ⟨dx, h1⟩ := od.ob
    obtain ⟨dy, h2⟩ := yd.ob
    have yi := Nat.lt_of_lt_of_le hi pre.le
    have yj := Nat.lt_of_lt_of_le hj pre.le
    have geq := ge_eq wf i j
    refine ⟨_, pss_cons (ps_for PassesOwn.never rfl (pi_list (pe_meth (pe_prop (pv 0) T.clO DP.m GP hr2 DP.b .nil pass0 rfl) T.clY DR.m GR hr2 DR.b .nil pass0 (pa_cons (pv 1) pa_nil))) (pg_name (i := 3) scR.nd rfl (Or.inl rfl))
        (pss_one (ps_if (pt_val (pe_meth (pv 0) T.clO DA.m GA hr DA.b .nil pass0 (pa_cons (pv 2) (pa_cons (pv 3) pa_nil)))) (pss_one (ps_ret pe_bl)) pss_nil)))
      (pss_cons (ps_for PassesOwn.never rfl (pi_list (pe_meth (pe_prop (pv 0) T.clO DP.m GP hr2 DP.b .nil pass0 rfl) T.clY DL.m GL hr2 DL.b .nil pass0 (pa_cons (pv 2) pa_nil))) (pg_name (i := 4) scR.nd rfl (Or.inl rfl))
        (pss_one (ps_if (pt_val (pe_meth (pv 0) T.clO DA.m GA hr DA.b .nil pass0 (pa_cons (pv 4) (pa_cons (pv 1) pa_nil)))) (pss_one (ps_ret pe_bl)) pss_nil)))
      (pss_one (ps_ret pe_bl))), ?_⟩
    refine ⟨_, rfl, o, dx, _, rfl, h1, o, dx, _, _, rfl, h1, of_yard y da dc, y, dy, _, rfl, h2, no_rights L, _, rfl, y, L, fy, i, rfl, yd, yi, fun p np => ⟨p, rfl, ⟨_, SqL.of upd_same⟩, ?_⟩⟩
    rw [pre.op i hi true]
    have s1 : Same H (upd H p (.lst (nI (opts fm i true)))) := same_new np _
    have e1 : (upd H p (.lst (nI (opts fm i true)))) p = some (.lst (nI (opts fm i true))) := upd_same
    generalize upd H p (.lst (nI (opts fm i true))) = G1 at s1 e1 ⊢
    refine for_list (K := K) (a := p) (xs := nI (opts fm i true)) (fun t σ H' => ∃ ka' v, σ = [some (.ref o), some (.int (i : Int)), some (.int (j : Int)), v, none] ∧ OrderAt O H' o y da dc ka' kc ∧ MemoA fm ka' ∧ Keep [da] G1 H' ∧
        ∀ r ∈ (opts fm i true).take t, ge fm j r = false)
      ⟨ka, none, rfl, ⟨⟨dx, s1 _ _ h1⟩, s1 _ _ od.a, s1 _ _ od.c, od.ne⟩, ma, Keep.refl _ _, by simp⟩ (fun t σ H' _ ⟨_, _, _, _, _, k1, _⟩ => SqL.of (k1 _ _ e1 fun z => ?_)) ?_ ?_
    · rw [List.mem_singleton.mp z, s1 _ _ od.a] at e1
      cases e1
    · rintro t x σ H' hx ⟨ka', v, rfl, od', ma', k1, hall⟩
      obtain ⟨r, hr', rfl⟩ := nI_of hx
      have hri : r < i := wf i true r (List.mem_of_getElem? hr')
      obtain ⟨dx', g1⟩ := od'.ob
      refine ⟨_, rfl, o, dx', _, rfl, g1, no_of y da dc, _, rfl, _, rfl, o, y, da, dc, L, fy, fm, ka', kc, j, r, rfl, od', (yd.same s1).memo (s1 _ _ od.a) k1, pre, wf, h24, ma', hj, by omega, by omega, fun G2 ka2 od2 ma2 k2 => ⟨_, rfl, ?_⟩⟩
      by_cases hg : ge fm j r = true
      · rw [hg]
        refine iteT ?_
        have e : ge fm i j = false := by
          rw [geq]
          have q : ((opts fm i true).all fun r => !ge fm j r) = false := by
            rw [List.all_eq_false]
            exact ⟨r, List.mem_of_getElem? hr', by rw [hg]; decide⟩
          rw [q] <;> rfl
        have q := k G2 ka2 od2 ma2 ((Keep.of s1).trans (k1.trans k2))
        rw [e] at q
        exact q
      · have hg' : ge fm j r = false := Bool.eq_false_iff.mpr hg
        rw [hg']
        refine iteF ⟨ka2, _, rfl, od2, ma2, k1.trans k2, fun r' hr2' => ?_⟩
        rw [List.take_add_one, hr'] at hr2'
        rcases List.mem_append.mp hr2' with z | z
        · exact hall r' z
        · rw [List.mem_singleton.mp z]; exact hg'
    rintro σ H' ⟨ka', v, rfl, od', ma', k1, hall⟩
    rw [nI_len, List.take_length] at hall
    obtain ⟨dx', g1⟩ := od'.ob
    have yd' := (yd.same s1).memo (s1 _ _ od.a) k1
    obtain ⟨dy', g2⟩ := yd'.ob
    have kH' : Keep [da] H H' := (Keep.of s1).trans k1
    refine ⟨_, rfl, o, dx', _, rfl, g1, o, dx', _, _, rfl, g1, of_yard y da dc, y, dy', _, rfl, g2, no_lefts L, _, rfl, y, L, fy, j, rfl, yd', yj, fun p2 np2 => ⟨p2, rfl, ⟨_, SqL.of upd_same⟩, ?_⟩⟩
    rw [pre.op j hj false]
    have s2 : Same H' (upd H' p2 (.lst (nI (opts fm j false)))) := same_new np2 _
    have e2 : (upd H' p2 (.lst (nI (opts fm j false)))) p2 = some (.lst (nI (opts fm j false))) := upd_same
    generalize upd H' p2 (.lst (nI (opts fm j false))) = G2 at s2 e2 ⊢
    refine for_list (K := K) (a := p2) (xs := nI (opts fm j false)) (fun t σ H'' => ∃ ka'' v', σ = [some (.ref o), some (.int (i : Int)), some (.int (j : Int)), v, v'] ∧ OrderAt O H'' o y da dc ka'' kc ∧ MemoA fm ka'' ∧ Keep [da] G2 H'' ∧
        ∀ r ∈ (opts fm j false).take t, ge fm r i = false)
      ⟨ka', none, rfl, ⟨⟨dx', s2 _ _ g1⟩, s2 _ _ od'.a, s2 _ _ od'.c, od'.ne⟩, ma', Keep.refl _ _, by simp⟩ (fun t σ H'' _ ⟨_, _, _, _, _, k2, _⟩ => SqL.of (k2 _ _ e2 fun z => ?_)) ?_ ?_
    · rw [List.mem_singleton.mp z, s2 _ _ od'.a] at e2
      cases e2
    · rintro t x σ H'' hx ⟨ka'', v', rfl, od'', ma'', k2, hall2⟩
      obtain ⟨r, hr', rfl⟩ := nI_of hx
      have hri : r < j := wf j false r (List.mem_of_getElem? hr')
      obtain ⟨dx'', g1''⟩ := od''.ob
      refine ⟨_, rfl, o, dx'', _, rfl, g1'', no_of y da dc, _, rfl, _, rfl, o, y, da, dc, L, fy, fm, ka'', kc, r, i, rfl, od'', (yd'.same s2).memo (s2 _ _ od'.a) k2, pre, wf, h24, ma'', by omega, hi, by omega, fun G3 ka3 od3 ma3 k3 => ⟨_, rfl, ?_⟩⟩
      by_cases hg : ge fm r i = true
      · rw [hg]
        refine iteT ?_
        have e : ge fm i j = false := by
          rw [geq]
          have q : ((opts fm j false).all fun l => !ge fm l i) = false := by
            rw [List.all_eq_false]
            exact ⟨r, List.mem_of_getElem? hr', by rw [hg]; decide⟩
          rw [q, Bool.and_false]
        have q := k G3 ka3 od3 ma3 (kH'.trans ((Keep.of s2).trans (k2.trans k3)))
        rw [e] at q
        exact q
      · have hg' : ge fm r i = false := Bool.eq_false_iff.mpr hg
        rw [hg']
        refine iteF ⟨ka3, _, rfl, od3, ma3, k2.trans k3, fun r' hr2' => ?_⟩
        rw [List.take_add_one, hr'] at hr2'
        rcases List.mem_append.mp hr2' with z | z
        · exact hall2 r' z
        · rw [List.mem_singleton.mp z]; exact hg'
    rintro σ H'' ⟨ka'', v', rfl, od'', ma'', k2, hall2⟩
    rw [nI_len, List.take_length] at hall2
    have e : ge fm i j = true := by
      rw [geq, Bool.and_eq_true, List.all_eq_true, List.all_eq_true]
      exact ⟨fun r hr' => by rw [hall r hr'] <;> rfl, fun r hr' => by rw [hall2 r hr'] <;> rfl⟩
    have q := k H'' ka'' od'' ma'' (kH'.trans ((Keep.of s2).trans k2))
    rw [e] at q
    exact q
theorem none_at {f : Addr} {fd : FuncData} : FnOk P w K mg base CX0 4 f fd ["self", "one", "other"] (spAt P w Y O 0) := by
  have no : ∀ vs H Q E, ¬ spAt P w Y O 0 vs H Q E := fun vs H Q E h => by
    obtain ⟨_, _, _, _, _, _, _, _, _, _, _, _, _, _, _, _, _, _, _, _, h, _⟩ := h
    omega
  exact ⟨fun vs H Q E h => absurd h (no vs H Q E), fun A outer s H args us vs Q E _ _ _ _ h => absurd h (no vs H Q E)⟩
theorem all_at {f fr : Addr} {fd fdr : FuncData} (D : MethD K O "at_least" "Order.at_least" sAtLeast ["self", "one", "other"] f fd) (DR : MethD K O "_reckon" "Order._reckon" sReckon ["self", "one", "other"] fr fdr) (C : OD K mg Y O) :
    ∀ n : Nat, FnOk P w K mg base CX0 (2 * n + 4) f fd ["self", "one", "other"] (spAt P w Y O n)
  | 0 => none_at
  | n + 1 => ok_atl D DR C (ok_reckon DR D C (all_at D DR C n))
end
end K20
set_option Elab.async false
set_option linter.all false
set_option maxRecDepth 100000
set_option maxHeartbeats 4000000
/-! KOrdB: at_most, alike, apart; can_win by its recursion; the outcome. -/
namespace K20
open PySem L2
theorem sd_inj {s t : Bool} (e : sd s = sd t) : s = t := by
  cases s <;> cases t
  · rfl
  · exact absurd e.symm right_ne
  · exact absurd e right_ne
  · rfl
def kgs (g : Nat) (s : Bool) : List Key := [Sum.inl (g : Int), Sum.inr (sd s)]
theorem kgs_inj {g h : Nat} {s t : Bool} (e : kgs g s = kgs h t) : g = h ∧ s = t := by
  unfold kgs at e
  injection e with e1 e2
  injection e2 with e2 _
  injection e1 with e1
  injection e2 with e2
  exact ⟨Int.ofNat_inj.mp e1, sd_inj e2⟩
def UC (N : Nat) : List (List Key) := (List.range N).flatMap fun g => [kgs g false, kgs g true]
theorem mem_UC {N g : Nat} (h : g < N) (s : Bool) : kgs g s ∈ UC N := List.mem_flatMap.mpr ⟨g, List.mem_range.mpr h, by cases s <;> simp⟩
theorem len_UC (N : Nat) : (UC N).length = N * 2 := by
  unfold UC
  rw [len_fl (n := 2) fun x _ => rfl, List.length_range]
def RC (fy : List Form) (k : List Key) (v : V) : Prop := ∃ (g : Nat) (s : Bool), k = kgs g s ∧ v = .bl (cw fy g s)
abbrev MemoC (fy : List Form) (kc : List (List Key × V)) : Prop := Memo kc (UC fy.length) (RC fy)
theorem MemoC.small {fy : List Form} {kc : List (List Key × V)} (m : MemoC fy kc) (h : fy.length ≤ 1000) : kc.length < sizeLine := by
  have q := m.len
  rw [len_UC] at q
  rw [sizeLine_eq]
  omega
/-- R k g: every play from the game g has ended within k moves -/
def Rank (fy : List Form) (R : Nat → Nat → Prop) : Prop := ∀ k g, R k g → g < fy.length ∧ ∀ s o, o ∈ opts fy g s → ∃ k', k' < k ∧ R k' o
section
variable {P : Program} {w : World} {K : PySem.W.Frag} {mg : Str → Option Value} {base : Heap} {Y O : Addr}
/-- the promise of the methods that tell one thing of two games -/
def spRel (P : Program) (w : World) (Y O : Addr) (r : List Form → Nat → Nat → Bool) : Sp := fun vs H Q _ => ∃ (o y da dc : Addr) (L : YA) (fy fm : List Form) (ka kc : List (List Key × V)) (i j : Nat),
  vs = [.ref o, .int (i : Int), .int (j : Int)] ∧ OrderAt O H o y da dc ka kc ∧ YardAt P w Y H y L fy ∧ Pre fm fy ∧ Wf fm ∧ fm.length ≤ 24 ∧ MemoA fm ka ∧ i < fm.length ∧ j < fm.length ∧
  ∀ (H' : Hp) (ka' : List (List Key × V)), OrderAt O H' o y da dc ka' kc → MemoA fm ka' → Keep [da] H H' → Q (.bl (r fm i j)) H'
theorem atl_rel {f : Addr} {fd : FuncData} {l : Nat} (G : FnOk P w K mg base CX0 l f fd ["self", "one", "other"] (spAt P w Y O 48)) : FnOk P w K mg base CX0 l f fd ["self", "one", "other"] (spRel P w Y O ge) :=
  G.imp fun vs H Q E h => by
    obtain ⟨o, y, da, dc, L, fy, fm, ka, kc, i, j, ev, od, yd, pre, wf, h24, ma, hi, hj, k⟩ := h
    exact ⟨o, y, da, dc, L, fy, fm, ka, kc, i, j, ev, od, yd, pre, wf, h24, ma, hi, hj, by omega, k⟩
def alikeF (fm : List Form) (i j : Nat) : Bool := ge fm i j && ge fm j i
def apartF (fm : List Form) (i j : Nat) : Bool := !ge fm i j && !ge fm j i
def atMostF (fm : List Form) (i j : Nat) : Bool := ge fm j i
theorem scAM : FnScope ["self", "one", "other"] ["self", "one", "other"] (defScope sAtMost) := ⟨rfl, rfl, rfl, by decide +kernel, rfl, by decide +kernel, by decide +kernel⟩
theorem ok_atmost {f fa : Addr} {fd fda : FuncData} {l : Nat} (D : MethD K O "at_most" "Order.at_most" sAtMost ["self", "one", "other"] f fd) (T : Txt K mg Y O) (DA : MethD K O "at_least" "Order.at_least" sAtLeast ["self", "one", "other"] fa fda)
    (GA : FnOk P w K mg base CX0 l fa fda ["self", "one", "other"] (spRel P w Y O ge)) : FnOk P w K mg base CX0 (l + 1) f fd ["self", "one", "other"] (spRel P w Y O atMostF) := by
  refine D.F.ok scAM (fun vs H Q E h => ?_) (fun cdv A outer s H vs Q E hr h => ?_)
  · obtain ⟨o, y, da, dc, L, fy, fm, ka, kc, i, j, rfl, _⟩ := h
    rfl
  · obtain ⟨o, y, da, dc, L, fy, fm, ka, kc, i, j, rfl, od, yd, pre, wf, h24, ma, hi, hj, k⟩ := h
    obtain ⟨dx, h1⟩ := od.ob
    refine ⟨_, pss_one (ps_ret (pe_meth (pv 0) T.clO DA.m GA hr DA.b .nil pass0 (pa_cons (pv 2) (pa_cons (pv 1) pa_nil)))), ?_⟩
    exact ⟨_, rfl, o, dx, _, rfl, h1, no_of y da dc, _, rfl, _, rfl, o, y, da, dc, L, fy, fm, ka, kc, j, i, rfl, od, yd, pre, wf, h24, ma, hj, hi, k⟩
theorem scAl : FnScope ["self", "one", "other"] ["self", "one", "other"] (defScope sAlike) := ⟨rfl, rfl, rfl, by decide +kernel, rfl, by decide +kernel, by decide +kernel⟩
theorem ok_alike {f fa : Addr} {fd fda : FuncData} {l : Nat} (D : MethD K O "alike" "Order.alike" sAlike ["self", "one", "other"] f fd) (T : Txt K mg Y O) (DA : MethD K O "at_least" "Order.at_least" sAtLeast ["self", "one", "other"] fa fda)
    (GA : FnOk P w K mg base CX0 l fa fda ["self", "one", "other"] (spRel P w Y O ge)) : FnOk P w K mg base CX0 (l + 1) f fd ["self", "one", "other"] (spRel P w Y O alikeF) := by
  refine D.F.ok scAl (fun vs H Q E h => ?_) (fun cdv A outer s H vs Q E hr h => ?_)
  · obtain ⟨o, y, da, dc, L, fy, fm, ka, kc, i, j, rfl, _⟩ := h
    rfl
  · obtain ⟨o, y, da, dc, L, fy, fm, ka, kc, i, j, rfl, od, yd, pre, wf, h24, ma, hi, hj, k⟩ := h
    obtain ⟨dx, h1⟩ := od.ob
    refine ⟨_, pss_one (ps_ret (pe_and (pe_meth (pv 0) T.clO DA.m GA hr DA.b .nil pass0 (pa_cons (pv 1) (pa_cons (pv 2) pa_nil))) (pe_one (pe_meth (pv 0) T.clO DA.m GA hr DA.b .nil pass0 (pa_cons (pv 2) (pa_cons (pv 1) pa_nil)))))), ?_⟩
    refine ⟨_, rfl, o, dx, _, rfl, h1, no_of y da dc, _, rfl, _, rfl, o, y, da, dc, L, fy, fm, ka, kc, i, j, rfl, od, yd, pre, wf, h24, ma, hi, hj, fun G1 ka1 od1 ma1 k1 => ⟨_, rfl, ?_⟩⟩
    cases e : ge fm i j with
    | false =>
      refine iteF ?_
      have q := k G1 ka1 od1 ma1 k1
      unfold alikeF at q
      rw [e, Bool.false_and] at q
      exact q
    | true =>
      obtain ⟨dx1, g1⟩ := od1.ob
      refine iteT ⟨_, rfl, o, dx1, _, rfl, g1, no_of y da dc, _, rfl, _, rfl, o, y, da, dc, L, fy, fm, ka1, kc, j, i, rfl, od1, yd.memo od.a k1, pre, wf, h24, ma1, hj, hi, fun G2 ka2 od2 ma2 k2 => ?_⟩
      have q := k G2 ka2 od2 ma2 (k1.trans k2)
      unfold alikeF at q
      rw [e, Bool.true_and] at q
      exact q
theorem scAp : FnScope ["self", "one", "other"] ["self", "one", "other"] (defScope sApart) := ⟨rfl, rfl, rfl, by decide +kernel, rfl, by decide +kernel, by decide +kernel⟩
theorem ok_apart {f fa : Addr} {fd fda : FuncData} {l : Nat} (D : MethD K O "apart" "Order.apart" sApart ["self", "one", "other"] f fd) (T : Txt K mg Y O) (DA : MethD K O "at_least" "Order.at_least" sAtLeast ["self", "one", "other"] fa fda)
    (GA : FnOk P w K mg base CX0 l fa fda ["self", "one", "other"] (spRel P w Y O ge)) : FnOk P w K mg base CX0 (l + 1) f fd ["self", "one", "other"] (spRel P w Y O apartF) := by
  refine D.F.ok scAp (fun vs H Q E h => ?_) (fun cdv A outer s H vs Q E hr h => ?_)
  · obtain ⟨o, y, da, dc, L, fy, fm, ka, kc, i, j, rfl, _⟩ := h
    rfl
  · obtain ⟨o, y, da, dc, L, fy, fm, ka, kc, i, j, rfl, od, yd, pre, wf, h24, ma, hi, hj, k⟩ := h
    obtain ⟨dx, h1⟩ := od.ob
    refine ⟨_, pss_one (ps_ret (pe_and (pe_not (pe_meth (pv 0) T.clO DA.m GA hr DA.b .nil pass0 (pa_cons (pv 1) (pa_cons (pv 2) pa_nil)))) (pe_one (pe_not (pe_meth (pv 0) T.clO DA.m GA hr DA.b .nil pass0 (pa_cons (pv 2) (pa_cons (pv 1) pa_nil))))))), ?_⟩
    refine ⟨_, rfl, o, dx, _, rfl, h1, no_of y da dc, _, rfl, _, rfl, o, y, da, dc, L, fy, fm, ka, kc, i, j, rfl, od, yd, pre, wf, h24, ma, hi, hj, fun G1 ka1 od1 ma1 k1 => ⟨_, rfl, _, rfl, ?_⟩⟩
    cases e : ge fm i j with
    | true =>
      refine iteF ?_
      have q := k G1 ka1 od1 ma1 k1
      unfold apartF at q
      rw [e] at q
      exact q
    | false =>
      obtain ⟨dx1, g1⟩ := od1.ob
      refine iteT ⟨_, rfl, o, dx1, _, rfl, g1, no_of y da dc, _, rfl, _, rfl, o, y, da, dc, L, fy, fm, ka1, kc, j, i, rfl, od1, yd.memo od.a k1, pre, wf, h24, ma1, hj, hi, fun G2 ka2 od2 ma2 k2 => ⟨_, rfl, ?_⟩⟩
      have q := k G2 ka2 od2 ma2 (k1.trans k2)
      unfold apartF at q
      rw [e] at q
      exact q
/-! ### can_win -/
def spCan (P : Program) (w : World) (Y O : Addr) (n : Nat) : Sp := fun vs H Q _ => ∃ (o y da dc : Addr) (L : YA) (fy : List Form) (ka kc : List (List Key × V)) (g : Nat) (s : Bool) (R : Nat → Nat → Prop) (d : Nat),
  vs = [.ref o, .int (g : Int), .str (sd s)] ∧ OrderAt O H o y da dc ka kc ∧ YardAt P w Y H y L fy ∧ Rank fy R ∧ R d g ∧ d < n ∧ fy.length ≤ 1000 ∧ MemoC fy kc ∧
  ∀ (H' : Hp) (kc' : List (List Key × V)), OrderAt O H' o y da dc ka kc' → MemoC fy kc' → Keep [dc] H H' → Q (.bl (cw fy g s)) H'
def spWinning (P : Program) (w : World) (Y O : Addr) (n : Nat) : Sp := fun vs H Q _ => ∃ (o y da dc : Addr) (L : YA) (fy : List Form) (ka kc : List (List Key × V)) (g : Nat) (s : Bool) (R : Nat → Nat → Prop) (d : Nat),
  vs = [.ref o, .int (g : Int), .str (sd s)] ∧ OrderAt O H o y da dc ka kc ∧ YardAt P w Y H y L fy ∧ Rank fy R ∧ R d g ∧ d < n ∧ fy.length ≤ 1000 ∧ MemoC fy kc ∧
  ∀ (H' : Hp) (kc' : List (List Key × V)) (p : Addr) (xs : List V), OrderAt O H' o y da dc ka kc' → MemoC fy kc' → Keep [dc] H H' → H' p = some (.lst xs) → decide ((0 : Int) < (xs.length : Int)) = cw fy g s → Q (.ref p) H'
theorem scC : FnScope ["self", "game", "side"] ["self", "game", "side"] (defScope sCanWin) := ⟨rfl, rfl, rfl, by decide +kernel, rfl, by decide +kernel, by decide +kernel⟩
theorem scW : FnScope ["self", "game", "side", "other", "option"] ["self", "game", "side"] (defScope sWinning) := ⟨rfl, rfl, rfl, by decide +kernel, rfl, by decide +kernel, by decide +kernel⟩
theorem ok_can {n : Nat} {f fw : Addr} {fd fdw : FuncData} (D : MethD K O "can_win" "Order.can_win" sCanWin ["self", "game", "side"] f fd) (DW : MethD K O "winning" "Order.winning" sWinning ["self", "game", "side"] fw fdw) (C : OD K mg Y O)
    (GW : FnOk P w K mg base CX0 (2 * n + 5) fw fdw ["self", "game", "side"] (spWinning P w Y O (n + 1))) : FnOk P w K mg base CX0 (2 * n + 6) f fd ["self", "game", "side"] (spCan P w Y O (n + 1)) := by
  have T := C.T
  obtain ⟨pp, fp, fdp, DP⟩ := C.yard
  obtain ⟨fc, fdc, DC⟩ := C.check
  obtain ⟨fh, fdh, DH⟩ := C.height
  have GP : FnOk P w K mg base CX0 1 fp fdp ["self"] (getSp O "_yard") := ok_oyard DP T
  have GH : FnOk P w K mg base CX0 2 fh fdh ["self", "game"] (spHeight P w Y) := ok_height DH T DC
  refine D.F.ok scC (fun vs H Q E h => ?_) (fun cdv A outer s H vs Q E hr h => ?_)
  · obtain ⟨o, y, da, dc, L, fy, ka, kc, g, s, R, d, rfl, _⟩ := h
    rfl
  · obtain ⟨o, y, da, dc, L, fy, ka, kc, g, sg, R, d, rfl, od, yd, hR, hd, hn, h1000, mc, k⟩ := h
    have hr2 : Room 2 _ := hr.mono (by omega)
    have hu := hu_of hr
    obtain ⟨dx, h1⟩ := od.ob
    obtain ⟨dy, h2⟩ := yd.ob
    have hg := (hR d g hd).1
    refine ⟨_, pss_cons (ps_expr (pe_meth (pe_prop (pv 0) T.clO DP.m GP hr2 DP.b .nil pass0 rfl) T.clY DH.m GH hr2 DH.b .nil pass0 (pa_cons (pv 1) pa_nil)))
      (pss_cons (ps_if (pt_cmp (pc_dnotin hu (pe_tup (pa_cons (pv 1) (pa_cons (pv 2) pa_nil))) (pe_fld (pv 0) rfl)))
        (pss_one (ps_dput hu (pe_fld (pv 0) rfl) (pe_tup (pa_cons (pv 1) (pa_cons (pv 2) pa_nil)))
          (pe_cmpR op_gt (pe_callB call_len_seq (by rfl) T.len PySem.boot_len (pa_cons (pe_meth (pv 0) T.clO DW.m GW hr DW.b .nil pass0 (pa_cons (pv 1) (pa_cons (pv 2) pa_nil))) pa_nil)) pe_int (nomark _)) rfl))
        pss_nil)
      (pss_one (ps_ret (pe_dget hu (pe_fld (pv 0) rfl) (pe_tup (pa_cons (pv 1) (pa_cons (pv 2) pa_nil))) (fun _ _ => rfl))))), ?_⟩
    refine ⟨_, rfl, o, dx, _, rfl, h1, o, dx, _, _, rfl, h1, of_yard y da dc, y, dy, _, rfl, h2, no_height L, _, rfl, y, L, fy, g, rfl, yd, hg, fun _ => ?_⟩
    refine ⟨_, rfl, _, rfl, (by show 2 ≤ sizeLine; decide), fun t1 n1 => ?_⟩
    have s1 : Same H (upd H t1 (.tup [.int (g : Int), .str (sd sg)])) := same_new n1 _
    have e1 : (upd H t1 (.tup [.int (g : Int), .str (sd sg)])) t1 = some (.tup ((kgs g sg).map kV)) := upd_same
    generalize upd H t1 (.tup [.int (g : Int), .str (sd sg)]) = G1 at s1 e1 ⊢
    refine ⟨_, rfl, o, O, dx, _, _, rfl, s1 _ _ h1, T.clO, T.nc, of_canw y da dc, dc, _, rfl, DGet.t (k := kgs g sg) (s1 _ _ od.c) e1, _, rfl, ?_⟩
    cases e : valV kc (kgs g sg) with
    | some v =>
      refine iteF ?_
      obtain ⟨_, a, b, ek, ev⟩ := mc.all _ _ e
      obtain ⟨rfl, rfl⟩ := kgs_inj ek
      refine ⟨_, rfl, o, O, dx, _, _, rfl, s1 _ _ h1, T.clO, T.nc, of_canw y da dc, _, rfl, _, rfl, (by show 2 ≤ sizeLine; decide), fun t2 n2 => ?_⟩
      have s2 : Same G1 (upd G1 t2 (.tup [.int (g : Int), .str (sd sg)])) := same_new n2 _
      have e2 : (upd G1 t2 (.tup [.int (g : Int), .str (sd sg)])) t2 = some (.tup ((kgs g sg).map kV)) := upd_same
      generalize upd G1 t2 (.tup [.int (g : Int), .str (sd sg)]) = G2 at s2 e2 ⊢
      have gt := DGet.t (k := kgs g sg) (s2 _ _ (s1 _ _ od.c)) e2
      rw [e] at gt
      refine ⟨dc, v, rfl, gt, ?_⟩
      rw [ev]
      exact k G2 kc ⟨⟨dx, s2 _ _ (s1 _ _ h1)⟩, s2 _ _ (s1 _ _ od.a), s2 _ _ (s1 _ _ od.c), od.ne⟩ mc (Keep.of (s1.trans s2))
    | none =>
      refine iteT ?_
      refine ⟨_, rfl, o, dx, _, rfl, s1 _ _ h1, no_of y da dc, _, rfl, _, rfl, o, y, da, dc, L, fy, ka, kc, g, sg, R, d, rfl, ⟨⟨dx, s1 _ _ h1⟩, s1 _ _ od.a, s1 _ _ od.c, od.ne⟩, yd.same s1, hR, hd, hn, h1000, mc, fun G2 kc2 p xs od2 mc2 k2 hp hx => ?_⟩
      obtain ⟨dx2, g1⟩ := od2.ob
      refine ⟨p, xs, rfl, .inl (SqL.of hp), _, _, rfl, rfl, ?_⟩
      refine ⟨_, rfl, o, O, dx2, _, _, rfl, g1, T.clO, T.nc, of_canw y da dc, _, rfl, _, rfl, (by show 2 ≤ sizeLine; decide), fun t3 n3 => ?_⟩
      have s3 : Same G2 (upd G2 t3 (.tup [.int (g : Int), .str (sd sg)])) := same_new n3 _
      have e3 : (upd G2 t3 (.tup [.int (g : Int), .str (sd sg)])) t3 = some (.tup ((kgs g sg).map kV)) := upd_same
      generalize upd G2 t3 (.tup [.int (g : Int), .str (sd sg)]) = G3 at s3 e3 ⊢
      refine ⟨dc, _, rfl, DPut.t (k := kgs g sg) (s3 _ _ od2.c) e3 (mc2.small h1000), ?_⟩
      have mc4 : MemoC fy (putK kc2 (kgs g sg) (.bl (decide ((0 : Int) < (xs.length : Int))))) := mc2.put (mem_UC hg sg) ⟨g, sg, rfl, congrArg V.bl hx⟩
      have od4 : OrderAt O (upd G3 dc (.dT (putK kc2 (kgs g sg) (.bl (decide ((0 : Int) < (xs.length : Int))))))) o y da dc ka (putK kc2 (kgs g sg) (.bl (decide ((0 : Int) < (xs.length : Int))))) :=
        ⟨⟨dx2, by rw [upd_ne (ne_of g1 od2.c (fun z => nomatch z))]; exact s3 _ _ g1⟩, by rw [upd_ne od2.ne]; exact s3 _ _ od2.a, upd_same, od2.ne⟩
      have k4 : Keep [dc] H (upd G3 dc (.dT (putK kc2 (kgs g sg) (.bl (decide ((0 : Int) < (xs.length : Int))))))) := (Keep.of s1).trans (k2.trans ((Keep.of s3).trans (Keep.at (List.mem_singleton_self _) _)))
      generalize upd G3 dc (.dT (putK kc2 (kgs g sg) (.bl (decide ((0 : Int) < (xs.length : Int)))))) = G4 at od4 k4 ⊢
      obtain ⟨dx4, g4⟩ := od4.ob
      refine ⟨_, rfl, o, O, dx4, _, _, rfl, g4, T.clO, T.nc, of_canw y da dc, _, rfl, _, rfl, (by show 2 ≤ sizeLine; decide), fun t5 n5 => ?_⟩
      have s5 : Same G4 (upd G4 t5 (.tup [.int (g : Int), .str (sd sg)])) := same_new n5 _
      have e5 : (upd G4 t5 (.tup [.int (g : Int), .str (sd sg)])) t5 = some (.tup ((kgs g sg).map kV)) := upd_same
      generalize upd G4 t5 (.tup [.int (g : Int), .str (sd sg)]) = G5 at s5 e5 ⊢
      have gt := DGet.t (k := kgs g sg) (s5 _ _ od4.c) e5
      rw [valV_put, if_pos rfl] at gt
      refine ⟨dc, _, rfl, gt, ?_⟩
      have q := k G5 _ ⟨⟨dx4, s5 _ _ g4⟩, s5 _ _ od4.a, s5 _ _ od4.c, od4.ne⟩ mc4 (k4.trans (Keep.of s5))
      rw [← hx] at q
      exact q
theorem any_filter {f : Nat → Bool} : ∀ l : List Nat, decide ((0 : Int) < ((nI (l.filter f)).length : Int)) = l.any f
  | [] => rfl
  | x :: r => by
    rw [List.any_cons, List.filter_cons]
    cases e : f x with
    | true =>
      rw [if_pos rfl, nI_len, List.length_cons, Bool.true_or]
      exact decide_eq_true (by omega)
    | false =>
      rw [if_neg (by decide), Bool.false_or]
      exact any_filter r
theorem ok_winning {n : Nat} {f fc : Addr} {fd fdc : FuncData} (D : MethD K O "winning" "Order.winning" sWinning ["self", "game", "side"] f fd) (DW : MethD K O "can_win" "Order.can_win" sCanWin ["self", "game", "side"] fc fdc) (C : OD K mg Y O)
    (GC : FnOk P w K mg base CX0 (2 * n + 4) fc fdc ["self", "game", "side"] (spCan P w Y O n)) : FnOk P w K mg base CX0 (2 * n + 5) f fd ["self", "game", "side"] (spWinning P w Y O (n + 1)) := by
  have T := C.T
  obtain ⟨pp, fp, fdp, DP⟩ := C.yard
  obtain ⟨fk, fdk, DC⟩ := C.check
  obtain ⟨fl, fdl, DL⟩ := C.lefts
  obtain ⟨fr, fdr, DR⟩ := C.rights
  obtain ⟨fo, fdo, DO⟩ := C.options
  obtain ⟨fs, fds, DS⟩ := C.other
  have GP : FnOk P w K mg base CX0 1 fp fdp ["self"] (getSp O "_yard") := ok_oyard DP T
  have GO : FnOk P w K mg base CX0 3 fo fdo ["self", "game", "side"] (spOptions P w Y) := ok_options DO T DC DL DR
  have GS : FnOk P w K mg base CX0 1 fs fds ["side"] spOther := ok_other DS
  refine D.F.ok scW (fun vs H Q E h => ?_) (fun cdv A outer s H vs Q E hr h => ?_)
  · obtain ⟨o, y, da, dc, L, fy, ka, kc, g, s, R, d, rfl, _⟩ := h
    rfl
  · obtain ⟨o, y, da, dc, L, fy, ka, kc, g, sg, R, d, rfl, od, yd, hR, hd, hn, h1000, mc, k⟩ := h
    have hr1 : Room 1 _ := hr.mono (by omega)
    have hr2 : Room 2 _ := hr.mono (by omega)
    have hr3 : Room 3 _ := hr.mono (by omega)
    obtain ⟨dx, h1⟩ := od.ob
    obtain ⟨dy, h2⟩ := yd.ob
    obtain ⟨hg, ho⟩ := hR d g hd
    refine ⟨_, pss_cons (ps_set (i := 3) scW.nd rfl (Or.inr rfl) (pe_call GS hr1 (by rfl) DS.m DS.F.kp DS.b .nil pass0 (pa_cons (pv 2) pa_nil)))
      (pss_one (ps_ret (pe_lc (own := [("option", 4)]) (g := gName 4) (te := tVar 4) rfl scW.nd (pi_list (pe_meth (pe_prop (pv 0) T.clO DP.m GP hr2 DP.b .nil pass0 rfl) T.clY DO.m GO hr3 DO.b .nil pass0 (pa_cons (pv 1) (pa_cons (pv 2) pa_nil))))
        (blkOk_by (N := ["self", "game", "side", "other", "option"]) (sc := defScope sWinning) (by decide +kernel)) (fun _ _ _ _ _ => pg_name (i := 4) scW.nd rfl (Or.inl rfl))
        (fun _ _ _ _ _ => pts_one (pt_not (pt_val (pe_meth (pv 0) T.clO DW.m GC hr DW.b .nil pass0 (pa_cons (pv 4) (pa_cons (pv 3) pa_nil)))))) (fun _ _ _ _ _ => pv 4)))), ?_⟩
    refine ⟨_, rfl, sg, rfl, ?_⟩
    refine ⟨_, rfl, o, dx, _, rfl, h1, o, dx, _, _, rfl, h1, of_yard y da dc, y, dy, _, rfl, h2, no_options L, _, rfl, _, rfl, y, L, fy, g, sg, rfl, yd, hg, fun p np => ⟨p, rfl, ⟨_, SqL.of upd_same⟩, fun D nD => ?_⟩⟩
    have s1 : Same H (upd H p (.lst (nI (opts fy g sg)))) := same_new np _
    have e1 : (upd H p (.lst (nI (opts fy g sg)))) p = some (.lst (nI (opts fy g sg))) := upd_same
    generalize upd H p (.lst (nI (opts fy g sg))) = G1 at s1 e1 nD ⊢
    have dn : ∀ {b : Addr} {u : HO}, G1 b = some u → b ≠ D := fun {b u} e => ne_of_none e nD
    refine lc_list (K := K) (a := p) (xs := nI (opts fy g sg)) (fun t H' => ∃ kc', OrderAt O H' o y da dc ka kc' ∧ MemoC fy kc' ∧ Keep [dc] G1 H' ∧ H' D = some (.lst (nI (((opts fy g sg).take t).filter fun q => !cw fy q (!sg)))))
      ⟨kc, ⟨⟨dx, by rw [upd_ne (dn (s1 _ _ h1))]; exact s1 _ _ h1⟩, by rw [upd_ne (dn (s1 _ _ od.a))]; exact s1 _ _ od.a, by rw [upd_ne (dn (s1 _ _ od.c))]; exact s1 _ _ od.c, od.ne⟩, mc, Keep.new nD _, upd_same⟩
      (fun t H' _ ⟨_, _, _, k1, _⟩ => SqL.of (k1 _ _ e1 fun z => ?_)) ?_ ?_
    · rw [List.mem_singleton.mp z, s1 _ _ od.c] at e1
      cases e1
    · rintro t x H' hx ⟨kc', od', mc', k1, hD⟩
      obtain ⟨q, hq, rfl⟩ := nI_of hx
      obtain ⟨d', hd1, hd2⟩ := ho sg q (List.mem_of_getElem? hq)
      obtain ⟨dx', g1⟩ := od'.ob
      refine ⟨rfl, ?_⟩
      refine ⟨_, rfl, o, dx', _, rfl, g1, no_of y da dc, _, rfl, _, rfl, o, y, da, dc, L, fy, ka, kc', q, !sg, R, d', rfl, od', (yd.same s1).memo (s1 _ _ od.c) k1, hR, hd2, by omega, h1000, mc', fun G2 kc2 od2 mc2 k2 => ⟨_, rfl, ?_⟩⟩
      have hD2 : G2 D = some (.lst (nI (((opts fy g sg).take t).filter fun q => !cw fy q (!sg)))) := k2 _ _ hD fun z => by
        rw [List.mem_singleton.mp z, od'.c] at hD
        cases hD
      have et : (opts fy g sg).take (t + 1) = (opts fy g sg).take t ++ [q] := by rw [List.take_add_one, hq] <;> rfl
      cases e : cw fy q (!sg) with
      | true =>
        refine iteF ⟨kc2, od2, mc2, k1.trans k2, ?_⟩
        rw [hD2, et, List.filter_append, List.filter_cons, e]
        exact congrArg (fun l => some (HO.lst (nI l))) (List.append_nil _).symm
      | false =>
        refine iteT ⟨_, rfl, _, hD2, ?_, kc2, ?_⟩
        · rw [nI_len]
          have z1 := List.length_filter_le (fun q => !cw fy q (!sg)) ((opts fy g sg).take t)
          have z2 : ((opts fy g sg).take t).length ≤ t := by rw [List.length_take]; omega
          have z3 : t < (opts fy g sg).length := (List.getElem?_eq_some_iff.mp hq).1
          have z4 : (opts fy g sg).length ≤ fy.length := by
            have hf : fy[g]? = some fy[g] := List.getElem?_eq_getElem hg
            rw [opts_of hf]
            have ha := yd.good.asc fy[g] (List.getElem_mem hg)
            have hw : ∀ k ∈ sideOf fy[g] sg, k < fy.length := fun k hk => Nat.lt_trans (yd.good.wf g sg k (by rw [opts_of hf]; exact hk)) hg
            cases sg with
            | false => exact asc_len ha.1 hw
            | true => exact asc_len ha.2 hw
          exact small1000 (by omega)
        · have dne : ∀ {b : Addr} {u : HO}, G2 b = some u → (∀ xs, u ≠ .lst xs) → b ≠ D := fun {b u} e n z => by
            rw [z, hD2] at e
            exact n _ (Option.some.inj e).symm
          obtain ⟨dx2, g2⟩ := od2.ob
          refine ⟨⟨⟨dx2, by rw [upd_ne (dne g2 (fun xs z => nomatch z))]; exact g2⟩, by rw [upd_ne (dne od2.a (fun xs z => nomatch z))]; exact od2.a, by rw [upd_ne (dne od2.c (fun xs z => nomatch z))]; exact od2.c, od2.ne⟩, mc2, fun b u e2 n2 => ?_, ?_⟩
          · rw [upd_ne (dn e2)]
            exact (k1.trans k2) b u e2 n2
          · rw [upd_same, et, List.filter_append, List.filter_cons, e]
            exact congrArg (fun l => some (HO.lst l)) (nI_snoc _ _)
    rintro H' ⟨kc', od', mc', k1, hD⟩
    rw [nI_len, List.take_length] at hD
    exact k H' kc' D _ od' mc' ((Keep.of s1).trans k1) hD (by rw [any_filter, cw_eq yd.good.wf])
end
end K20
set_option Elab.async false
set_option linter.all false
set_option maxRecDepth 100000
set_option maxHeartbeats 4000000
/-! KOrdC: can_win at every depth; the outcome. -/
namespace K20
open PySem L2
section
variable {P : Program} {w : World} {K : PySem.W.Frag} {mg : Str → Option Value} {base : Heap} {Y O : Addr}
theorem none_can {f : Addr} {fd : FuncData} : FnOk P w K mg base CX0 4 f fd ["self", "game", "side"] (spCan P w Y O 0) := by
  have no : ∀ vs H Q E, ¬ spCan P w Y O 0 vs H Q E := fun vs H Q E h => by
    obtain ⟨_, _, _, _, _, _, _, _, _, _, _, _, _, _, _, _, _, h, _⟩ := h
    omega
  exact ⟨fun vs H Q E h => absurd h (no vs H Q E), fun A outer s H args us vs Q E _ _ _ _ h => absurd h (no vs H Q E)⟩
theorem all_can {f fw : Addr} {fd fdw : FuncData} (D : MethD K O "can_win" "Order.can_win" sCanWin ["self", "game", "side"] f fd) (DW : MethD K O "winning" "Order.winning" sWinning ["self", "game", "side"] fw fdw) (C : OD K mg Y O) :
    ∀ n : Nat, FnOk P w K mg base CX0 (2 * n + 4) f fd ["self", "game", "side"] (spCan P w Y O n)
  | 0 => none_can
  | n + 1 => ok_can D DW C (ok_winning DW D C (all_can D DW C n))
def outS : Bool → Bool → Str
  | true, true => "first"
  | true, false => "left"
  | false, true => "right"
  | false, false => "second"
def spOutcome (P : Program) (w : World) (Y O : Addr) (n : Nat) : Sp := fun vs H Q _ => ∃ (o y da dc : Addr) (L : YA) (fy : List Form) (ka kc : List (List Key × V)) (g : Nat) (R : Nat → Nat → Prop) (d : Nat),
  vs = [.ref o, .int (g : Int)] ∧ OrderAt O H o y da dc ka kc ∧ YardAt P w Y H y L fy ∧ Rank fy R ∧ R d g ∧ d < n ∧ fy.length ≤ 1000 ∧ MemoC fy kc ∧
  ∀ (H' : Hp) (kc' : List (List Key × V)), OrderAt O H' o y da dc ka kc' → MemoC fy kc' → Keep [dc] H H' → Q (.str (outS (cw fy g false) (cw fy g true))) H'
theorem scOut : FnScope ["self", "game", "by_left", "by_right"] ["self", "game"] (defScope sOutcome) := ⟨rfl, rfl, rfl, by decide +kernel, rfl, by decide +kernel, by decide +kernel⟩
theorem ok_outcome {n l : Nat} {f fc : Addr} {fd fdc : FuncData} (D : MethD K O "outcome" "Order.outcome" sOutcome ["self", "game"] f fd) (DC : MethD K O "can_win" "Order.can_win" sCanWin ["self", "game", "side"] fc fdc) (T : Txt K mg Y O)
    (GC : FnOk P w K mg base CX0 l fc fdc ["self", "game", "side"] (spCan P w Y O n)) : FnOk P w K mg base CX0 (l + 1) f fd ["self", "game"] (spOutcome P w Y O n) := by
  refine D.F.ok scOut (fun vs H Q E h => ?_) (fun cdv A outer s H vs Q E hr h => ?_)
  · obtain ⟨o, y, da, dc, L, fy, ka, kc, g, R, d, rfl, _⟩ := h
    rfl
  · obtain ⟨o, y, da, dc, L, fy, ka, kc, g, R, d, rfl, od, yd, hR, hd, hn, h1000, mc, k⟩ := h
    obtain ⟨dx, h1⟩ := od.ob
    refine ⟨_, pss_cons (ps_set (i := 2) scOut.nd rfl (Or.inl rfl) (pe_meth (pv 0) T.clO DC.m GC hr DC.b .nil pass0 (pa_cons (pv 1) (pa_cons pe_str pa_nil))))
      (pss_cons (ps_set (i := 3) scOut.nd rfl (Or.inl rfl) (pe_meth (pv 0) T.clO DC.m GC hr DC.b .nil pass0 (pa_cons (pv 1) (pa_cons pe_str pa_nil))))
      (pss_cons (ps_if (PW.pt (pw_and (pt_val (pv 2)) (pw_and1 (pt_val (pv 3))))) (pss_one (ps_ret pe_str)) pss_nil)
      (pss_cons (ps_if (pt_val (pv 2)) (pss_one (ps_ret pe_str)) pss_nil)
      (pss_cons (ps_if (pt_val (pv 3)) (pss_one (ps_ret pe_str)) pss_nil)
      (pss_one (ps_ret pe_str)))))), ?_⟩
    refine ⟨_, rfl, o, dx, _, rfl, h1, no_of y da dc, _, rfl, o, y, da, dc, L, fy, ka, kc, g, false, R, d, rfl, od, yd, hR, hd, hn, h1000, mc, fun G1 kc1 od1 mc1 k1 => ?_⟩
    obtain ⟨dx1, g1⟩ := od1.ob
    refine ⟨_, rfl, o, dx1, _, rfl, g1, no_of y da dc, _, rfl, o, y, da, dc, L, fy, ka, kc1, g, true, R, d, rfl, od1, yd.memo od.c k1, hR, hd, hn, h1000, mc1, fun G2 kc2 od2 mc2 k2 => ?_⟩
    have q := k G2 kc2 od2 mc2 (k1.trans k2)
    refine ⟨_, rfl, _, rfl, ?_⟩
    cases e1 : cw fy g false with
    | true =>
      refine iteT ⟨_, rfl, _, rfl, ?_⟩
      cases e2 : cw fy g true with
      | true =>
        refine iteT ?_
        rw [e1, e2] at q
        exact q
      | false =>
        refine iteF ⟨_, rfl, _, rfl, ?_⟩
        refine iteT ?_
        rw [e1, e2] at q
        exact q
    | false =>
      refine iteF (iteF ⟨_, rfl, _, rfl, ?_⟩)
      refine iteF ⟨_, rfl, _, rfl, ?_⟩
      cases e2 : cw fy g true with
      | true =>
        refine iteT ?_
        rw [e1, e2] at q
        exact q
      | false =>
        refine iteF ?_
        rw [e1, e2] at q
        exact q
end
end K20
set_option Elab.async false
set_option linter.all false
set_option maxRecDepth 100000
set_option maxHeartbeats 4000000
/-! KLawA: the law's readers: a cell, its digits, a count, a told truth, the moves. -/
namespace K20
open PySem L2
section
variable {P : Program} {w : World} {K : PySem.W.Frag} {mg : Str → Option Value} {base : Heap} {Y O : Addr}
theorem ints_get {ns : List Int} {i : Nat} {v : V} (h : (ns.map V.int)[i]? = some v) : ∃ z, ns[i]? = some z ∧ v = .int z := by
  rw [List.getElem?_map] at h
  cases e : ns[i]? with
  | none => rw [e] at h; cases h
  | some z => rw [e] at h; exact ⟨z, rfl, (Option.some.inj h).symm⟩
def spCell (K : PySem.W.Frag) : Sp := fun vs H Q _ => ∃ (a : Addr) (ns : List Int) (k : Nat), vs = [.ref a, .int (k : Int)] ∧ SqL K H a (ns.map V.int) ∧ k < 1000 ∧ ∀ z : Int, Q (.int z) H
theorem scCell : FnScope ["_law_script", "_law_k", "_law_mixed", "_law_cell_here"] ["_law_script", "_law_k"] (defScope sCell) := ⟨rfl, rfl, rfl, by decide +kernel, rfl, by decide +kernel, by decide +kernel⟩
theorem ok_cell {f : Addr} {fd : FuncData} (D : DefD K mg "_law_cell" sCell ["_law_script", "_law_k"] f fd) (T : Txt K mg Y O) : FnOk P w K mg base CX0 1 f fd ["_law_script", "_law_k"] (spCell K) := by
  refine D.F.ok scCell (fun vs H Q E h => ?_) (fun cdv A outer s H vs Q E hr h => ?_)
  · obtain ⟨a, ns, k, rfl, _⟩ := h
    rfl
  · obtain ⟨a, ns, i, rfl, hS, hi, k⟩ := h
    refine ⟨_, pss_cons (ps_if (pt_cmpR op_lt (pv 1) (pe_callB call_len_seq (by rfl) T.len PySem.boot_len (pa_cons (pv 0) pa_nil)) (nomark _)) (pss_one (ps_ret (pe_ix ix_list (pv 0) (pv 1) (fun _ _ => rfl)))) pss_nil)
      (pss_cons (ps_set (i := 2) scCell.nd rfl (Or.inl rfl) (pe_op op_add (pe_op op_mul pe_int (pv 1)) pe_int))
      (pss_cons (ps_for PassesOwn.never rfl (pi_list (pv 0)) (pg_name (i := 3) scCell.nd rfl (Or.inl rfl))
        (pss_one (ps_set (i := 2) scCell.nd rfl (Or.inl rfl) (pe_op op_mod (pe_callTy call_int1 (by rfl) T.int PyProof.Rows.boot_int (pa_cons (pe_op op_add (pe_op op_mul (pv 2) pe_int) (pv 3)) pa_nil)) pe_int))))
      (pss_one (ps_ret (pv 2))))), ?_⟩
    refine ⟨_, rfl, _, rfl, a, _, rfl, .inl hS, _, _, rfl, rfl, _, rfl, ?_⟩
    refine ite2 (fun c => ?_) (fun _ => ?_)
    · have c' : (i : Int) < ((ns.map V.int).length : Int) := of_decide_eq_true c
      rw [List.length_map] at c'
      have hlt : i < ns.length := by omega
      exact ⟨_, rfl, _, rfl, a, _, _, _, rfl, rfl, hS, atI_nat (v := .int ns[i]) (by rw [List.getElem?_map, List.getElem?_eq_getElem hlt] <;> rfl), k _⟩
    · refine ⟨_, rfl, _, _, rfl, rfl, .inl ⟨by decide, by decide⟩, _, _, rfl, rfl, ?_⟩
      refine ⟨_, rfl, a, rfl, ⟨_, hS⟩, for_list (K := K) (a := a) (xs := ns.map V.int) (fun t σ H' => H' = H ∧ ∃ (m : Int) (v : Option V), σ = [some (.ref a), some (.int (i : Int)), some (.int m), v])
        ⟨rfl, _, none, rfl⟩ (fun t σ H' _ ⟨e, _⟩ => by rw [e]; exact hS) ?_ ?_⟩
      · rintro t x σ H' hx ⟨rfl, m, v, rfl⟩
        obtain ⟨z, _, rfl⟩ := ints_get hx
        refine ⟨_, rfl, _, _, rfl, rfl, .inr ⟨by decide, by decide⟩, _, rfl, _, _, rfl, rfl, .inl ⟨_, rfl, _, _, rfl, rfl, (by show (0 : Int) < 2147483647; decide), rfl, _, _, rfl⟩⟩
      · rintro σ H' ⟨rfl, m, v, rfl⟩
        exact ⟨_, rfl, k _⟩
def spDigits : Sp := fun vs H Q _ => ∃ (c : Int) (n : Nat), vs = [.int c, .int (n : Int)] ∧ n ≤ 100 ∧ ∀ (p : Addr) (ds : List Int), H p = none → ds.length = n → Q (.ref p) (upd H p (.lst (ds.map V.int)))
theorem scDig : FnScope ["_law_cell_here", "_law_count_here", "_law_row", "_law_k", "_law_seed"] ["_law_cell_here", "_law_count_here"] (defScope sDigits) := ⟨rfl, rfl, rfl, by decide +kernel, rfl, by decide +kernel, by decide +kernel⟩
theorem ok_digits {f : Addr} {fd : FuncData} (D : DefD K mg "_law_digits" sDigits ["_law_cell_here", "_law_count_here"] f fd) (T : Txt K mg Y O) : FnOk P w K mg base CX0 1 f fd ["_law_cell_here", "_law_count_here"] spDigits := by
  refine D.F.ok scDig (fun vs H Q E h => ?_) (fun cdv A outer s H vs Q E hr h => ?_)
  · obtain ⟨c, n, rfl, _⟩ := h
    rfl
  · obtain ⟨c, n, rfl, hn, k⟩ := h
    refine ⟨_, pss_cons (ps_set (i := 2) scDig.nd rfl (Or.inl rfl) (pe_lst pa_nil))
      (pss_cons (ps_if (pt_cmpR op_ge (pv 0) (pe_op op_pow pe_int pe_int) (nomark _))
        (pss_cons (ps_for PassesOwn.never rfl (pi_range1 (by rfl) T.range (pa_cons (pv 1) pa_nil)) (pg_name (i := 3) scDig.nd rfl (Or.inl rfl))
          (pss_cons (ps_expr (pe_bm PySem.F.plainAttrs_list PySem.F.slot_list_append PySem.F.type_list_append mt_append (pv 2) (pa_cons (pe_op op_mod (pe_callTy call_int1 (by rfl) T.int PyProof.Rows.boot_int (pa_cons (pv 0) pa_nil)) pe_int) pa_nil)))
          (pss_one (ps_set (i := 0) scDig.nd rfl (Or.inl rfl) (pe_op op_fdiv (pv 0) pe_int)))))
        (pss_one (ps_ret (pv 2)))) pss_nil)
      (pss_cons (ps_set (i := 4) scDig.nd rfl (Or.inl rfl) (pe_op op_mod (pe_callTy call_int1 (by rfl) T.int PyProof.Rows.boot_int (pa_cons (pe_op op_add (pe_op op_mul (pv 0) pe_int) pe_int) pa_nil)) pe_int))
      (pss_cons (ps_for PassesOwn.never rfl (pi_range1 (by rfl) T.range (pa_cons (pv 1) pa_nil)) (pg_name (i := 3) scDig.nd rfl (Or.inl rfl))
        (pss_cons (ps_set (i := 4) scDig.nd rfl (Or.inl rfl) (pe_op op_mod (pe_callTy call_int1 (by rfl) T.int PyProof.Rows.boot_int (pa_cons (pe_op op_add (pe_op op_add (pe_op op_mul (pv 4) pe_int) (pe_op op_mul pe_int (pv 3))) pe_int) pa_nil)) pe_int))
        (pss_one (ps_expr (pe_bm PySem.F.plainAttrs_list PySem.F.slot_list_append PySem.F.type_list_append mt_append (pv 2) (pa_cons (pe_op op_mod (pe_callTy call_int1 (by rfl) T.int PyProof.Rows.boot_int (pa_cons (pe_op op_fdiv (pv 4) pe_int) pa_nil)) pe_int) pa_nil))))))
      (pss_one (ps_ret (pv 2)))))), ?_⟩
    refine ⟨Nat.zero_le _, fun r hr' => ?_⟩
    refine ⟨_, rfl, _, _, rfl, rfl, ⟨by decide, by decide, by decide⟩, _, _, rfl, rfl, _, rfl, ?_⟩
    have hb1 : -(2 ^ 62) ≤ (n : Int) := by omega
    have hb2 : (n : Int) < 2 ^ 62 := by omega
    refine ite2 (fun _ => ?_) (fun _ => ?_)
    · refine ⟨_, rfl, _, rfl, hb1, hb2, ?_⟩
      rw [Int.toNat_natCast]
      refine for_range (lo := 0) (n := n) (fun i σ H' => ∃ (ds : List Int) (z : Int) (v : Option V), σ = [some (.int z), some (.int (n : Int)), some (.ref r), v, none] ∧ H' = upd H r (.lst (ds.map V.int)) ∧ ds.length = i)
        ⟨[], c, none, rfl, rfl, rfl⟩ ?_ ?_
      · rintro i σ H' hi ⟨ds, z, v, rfl, rfl, hd⟩
        refine ⟨_, rfl, .inl ⟨rfl, _, SqL.of upd_same⟩, _, rfl, .inl ⟨_, rfl, _, _, rfl, rfl, (by show (0 : Int) < 60; decide), r, _, _, rfl, rfl, upd_same, by rw [List.length_map]; exact small1000 (by omega), ?_⟩⟩
        refine ⟨_, rfl, _, _, rfl, rfl, ⟨by decide, by decide⟩, ds ++ [z % 60], z / 60, _, rfl, by rw [upd_upd, List.map_append] <;> rfl, by rw [List.length_append, hd] <;> rfl⟩
      · rintro σ H' ⟨ds, z, v, rfl, rfl, hd⟩
        exact ⟨_, rfl, k r ds hr' hd⟩
    · refine ⟨_, rfl, _, _, rfl, rfl, .inr ⟨by decide, by decide⟩, _, _, rfl, rfl, .inl ⟨_, rfl, _, _, rfl, rfl, (by show (0 : Int) < 2147483647; decide), ?_⟩⟩
      refine ⟨_, rfl, _, rfl, hb1, hb2, ?_⟩
      rw [Int.toNat_natCast]
      refine for_range (lo := 0) (n := n) (fun i σ H' => ∃ (ds : List Int) (z : Int) (v : Option V), σ = [some (.int c), some (.int (n : Int)), some (.ref r), v, some (.int z)] ∧ H' = upd H r (.lst (ds.map V.int)) ∧ ds.length = i)
        ⟨[], _, none, rfl, rfl, rfl⟩ ?_ ?_
      · rintro i σ H' hi ⟨ds, z, v, rfl, rfl, hd⟩
        refine ⟨_, rfl, _, _, rfl, rfl, .inr ⟨by decide, by decide⟩, _, rfl, _, _, rfl, rfl, .inl ⟨by decide, by decide⟩, _, _, rfl, rfl, _, _, rfl, rfl, .inl ⟨_, rfl, _, _, rfl, rfl, (by show (0 : Int) < 2147483629; decide), ?_⟩⟩
        refine ⟨_, rfl, .inl ⟨rfl, _, SqL.of upd_same⟩, _, rfl, _, _, rfl, rfl, ⟨by decide, by decide⟩, .inl ⟨_, rfl, _, _, rfl, rfl, (by show (0 : Int) < 60; decide), r, _, _, rfl, rfl, upd_same, by rw [List.length_map]; exact small1000 (by omega), ?_⟩⟩
        exact ⟨ds ++ [_], _, _, rfl, by rw [upd_upd, List.map_append] <;> rfl, by rw [List.length_append, hd] <;> rfl⟩
      · rintro σ H' ⟨ds, z, v, rfl, rfl, hd⟩
        exact ⟨_, rfl, k r ds hr' hd⟩
def spCount : Sp := fun vs H Q _ => ∃ c : Int, vs = [.int c] ∧ ∀ n : Nat, n ≤ 23 → Q (.int (n : Int)) H
theorem scCount : FnScope ["_law_cell_here", "_law_k"] ["_law_cell_here"] (defScope sCount) := ⟨rfl, rfl, rfl, by decide +kernel, rfl, by decide +kernel, by decide +kernel⟩
theorem ok_count {f : Addr} {fd : FuncData} (D : DefD K mg "_law_count" sCount ["_law_cell_here"] f fd) (T : Txt K mg Y O) : FnOk P w K mg base CX0 1 f fd ["_law_cell_here"] spCount := by
  refine D.F.ok scCount (fun vs H Q E h => ?_) (fun cdv A outer s H vs Q E hr h => ?_)
  · obtain ⟨c, rfl, _⟩ := h
    rfl
  · obtain ⟨c, rfl, k⟩ := h
    refine ⟨_, pss_cons (ps_set (i := 1) scCount.nd rfl (Or.inl rfl) (pe_op op_mod (pe_callTy call_int1 (by rfl) T.int PyProof.Rows.boot_int (pa_cons (pv 0) pa_nil)) pe_int))
      (pss_cons (ps_if (pt_cmpR op_eq (pe_op op_mod (pe_callTy call_int1 (by rfl) T.int PyProof.Rows.boot_int (pa_cons (pv 1) pa_nil)) pe_int) pe_int (nomark _)) (pss_one (ps_ret (pe_op op_add pe_int (pe_op op_fdiv (pv 1) pe_int)))) pss_nil)
      (pss_one (ps_ret (pe_op op_add pe_int (pe_op op_mod (pe_callTy call_int1 (by rfl) T.int PyProof.Rows.boot_int (pa_cons (pv 1) pa_nil)) pe_int))))), ?_⟩
    have b1 : 0 ≤ c % 96 := Int.emod_nonneg _ (by decide)
    have b2 : c % 96 < 96 := Int.emod_lt_of_pos _ (by decide)
    refine ⟨_, rfl, .inl ⟨_, rfl, _, _, rfl, rfl, (by show (0 : Int) < 96; decide), ?_⟩⟩
    refine ⟨_, rfl, .inl ⟨_, rfl, _, _, rfl, rfl, (by show (0 : Int) < 8; decide), rfl, _, rfl, ?_⟩⟩
    refine ite2 (fun _ => ?_) (fun _ => ?_)
    · refine ⟨_, rfl, _, _, rfl, rfl, ⟨by decide, by decide⟩, _, _, rfl, rfl, ?_⟩
      have q := k (12 + (c % 96) / 8).toNat (by omega)
      rw [Int.toNat_of_nonneg (by omega)] at q
      exact q
    · refine ⟨_, rfl, .inl ⟨_, rfl, _, _, rfl, rfl, (by show (0 : Int) < 12; decide), _, _, rfl, rfl, ?_⟩⟩
      have q := k (1 + (c % 96) % 12).toNat (by omega)
      rw [Int.toNat_of_nonneg (by omega)] at q
      exact q
def spIs : Sp := fun vs H Q _ => ∃ a b : Bool, vs = [.bl a, .bl b] ∧ Q (.bl (a == b)) H
theorem scIs : FnScope ["_law_told", "_law_due"] ["_law_told", "_law_due"] (defScope sIs) := ⟨rfl, rfl, rfl, by decide +kernel, rfl, by decide +kernel, by decide +kernel⟩
theorem ok_is {f : Addr} {fd : FuncData} (D : DefD K mg "_law_is" sIs ["_law_told", "_law_due"] f fd) (T : Txt K mg Y O) : FnOk P w K mg base CX0 1 f fd ["_law_told", "_law_due"] spIs := by
  refine D.F.ok scIs (fun vs H Q E h => ?_) (fun cdv A outer s H vs Q E hr h => ?_)
  · obtain ⟨a, b, rfl, _⟩ := h
    rfl
  · obtain ⟨a, b, rfl, k⟩ := h
    refine ⟨_, pss_one (ps_ret (pe_and (pe_callB call_isi (by rfl) T.isi (by decide +kernel) (pa_cons (pv 0) (pa_cons (pe_bltn (v := .ty "bool") (by rfl) T.bool PyProof.Rows.boot_bool rfl) pa_nil))) (pe_one (pe_cmpR op_eq (pv 0) (pv 1) (nomark _))))), ?_⟩
    refine ⟨_, rfl, .bl a, .ty "bool", .type "bool", .type "bool", true, rfl, .ty "bool", .base (.bl a), kit_ty (by decide +kernel), _, rfl, iteT ⟨_, rfl, _, rfl, rfl, ?_⟩⟩
    have e : decide (V.bl a = V.bl b) = (a == b) := by cases a <;> cases b <;> rfl
    show Q (.bl (decide (V.bl a = V.bl b))) H
    rw [e]
    exact k
/-! ### moves -/
def sI : Bool → Int
  | false => 0
  | true => 1
theorem sI_not (s : Bool) : 1 - sI s = sI (!s) := by cases s <;> rfl
theorem ModelAt.side {H : Hp} {S : List Addr} {m : Addr} {fm : List Form} (x : ModelAt H S m fm) {i : Nat} (h : i < fm.length) (s : Bool) :
    ∃ (xs ys : List V) (t a : Addr), H m = some (.lst xs) ∧ xs[i]? = some (.ref t) ∧ H t = some (.tup ys) ∧ atI ys (sI s) = some (.ref a) ∧ H a = some (.lst (nI (opts fm i s))) := by
  have hf : fm[i]? = some fm[i] := List.getElem?_eq_getElem h
  obtain ⟨xs, t, la, ra, h1, _, h3, h4, h5, h6⟩ := x.form hf
  rw [opts_of hf]
  cases s with
  | false => exact ⟨xs, _, t, la, h1, h3, h4, rfl, h5⟩
  | true => exact ⟨xs, _, t, ra, h1, h3, h4, rfl, h6⟩
/-- the tuples at qs are the pairs ms -/
def PairsOk (H : Hp) (qs : List Addr) (ms : List (Nat × Nat)) : Prop := qs.length = ms.length ∧ ∀ (t : Nat) (q : Addr) (p : Nat × Nat), qs[t]? = some q → ms[t]? = some p → H q = some (.tup [.int (p.1 : Int), .int (p.2 : Int)])
theorem PairsOk.nil (H : Hp) : PairsOk H [] [] := ⟨rfl, fun t q p e => by cases e⟩
theorem PairsOk.keep {H H' : Hp} {qs : List Addr} {ms : List (Nat × Nat)} (x : PairsOk H qs ms) (k : ∀ b xs, H b = some (.tup xs) → H' b = some (.tup xs)) : PairsOk H' qs ms := ⟨x.1, fun t q p e1 e2 => k _ _ (x.2 t q p e1 e2)⟩
theorem PairsOk.app {H : Hp} {qs rs : List Addr} {ms ns : List (Nat × Nat)} (x : PairsOk H qs ms) (y : PairsOk H rs ns) : PairsOk H (qs ++ rs) (ms ++ ns) :=
  ⟨by rw [List.length_append, List.length_append, x.1, y.1], fun t q p e1 e2 => by
    by_cases h : t < qs.length
    · rw [List.getElem?_append_left h] at e1
      rw [List.getElem?_append_left (by rw [← x.1]; exact h)] at e2
      exact x.2 t q p e1 e2
    · have h' : qs.length ≤ t := Nat.le_of_not_lt h
      rw [List.getElem?_append_right h'] at e1
      rw [List.getElem?_append_right (by rw [← x.1]; exact h'), ← x.1] at e2
      exact y.2 _ q p e1 e2⟩
theorem PairsOk.one {H : Hp} {q : Addr} {p : Nat × Nat} (h : H q = some (.tup [.int (p.1 : Int), .int (p.2 : Int)])) : PairsOk H [q] [p] :=
  ⟨rfl, fun t q' p' e1 e2 => by
    cases t with
    | zero =>
      have a : q = q' := Option.some.inj e1
      have b : p = p' := Option.some.inj e2
      rw [← a, ← b]
      exact h
    | succ t => cases e1⟩
def PairsAt (H : Hp) (p : Addr) (ms : List (Nat × Nat)) : Prop := ∃ qs : List Addr, H p = some (.lst (qs.map V.ref)) ∧ PairsOk H qs ms
def spMoves : Sp := fun vs H Q _ => ∃ (m : Addr) (S : List Addr) (fm : List Form) (i j : Nat) (s : Bool), vs = [.ref m, .int (i : Int), .int (j : Int), .int (sI s)] ∧ ModelAt H S m fm ∧ Good fm ∧ fm.length ≤ 24 ∧ i < fm.length ∧ j < fm.length ∧
  ∀ (H' : Hp) (p : Addr), Same H H' → H p = none → PairsAt H' p (moves fm i j s) → Q (.ref p) H'
theorem opts_len {fm : List Form} (g : Good fm) {i : Nat} (h : i < fm.length) (s : Bool) : (opts fm i s).length ≤ fm.length := by
  have hf : fm[i]? = some fm[i] := List.getElem?_eq_getElem h
  have ha := g.asc fm[i] (List.getElem_mem h)
  have hw : ∀ k ∈ sideOf fm[i] s, k < fm.length := fun k hk => Nat.lt_trans (g.wf i s k (by rw [opts_of hf]; exact hk)) h
  rw [opts_of hf]
  cases s with
  | false => exact asc_len ha.1 hw
  | true => exact asc_len ha.2 hw
theorem scMoves : FnScope ["_law_model", "_law_one", "_law_other", "_law_side", "_law_ahead", "_law_k"] ["_law_model", "_law_one", "_law_other", "_law_side"] (defScope sMoves) := ⟨rfl, rfl, rfl, by decide +kernel, rfl, by decide +kernel, by decide +kernel⟩
theorem ok_moves {f : Addr} {fd : FuncData} (D : DefD K mg "_law_moves" sMoves ["_law_model", "_law_one", "_law_other", "_law_side"] f fd) (T : Txt K mg Y O) : FnOk P w K mg base CX0 1 f fd ["_law_model", "_law_one", "_law_other", "_law_side"] spMoves := by
  refine D.F.ok scMoves (fun vs H Q E h => ?_) (fun cdv A outer s H vs Q E hr h => ?_)
  · obtain ⟨m, S, fm, i, j, s, rfl, _⟩ := h
    rfl
  · obtain ⟨m, S, fm, i, j, sg, rfl, md, good, h24, hi, hj, k⟩ := h
    obtain ⟨xs1, ys1, t1, a1, m1, m2, m3, m4, m5⟩ := md.side hi sg
    obtain ⟨xs2, ys2, t2, a2, w1, w2, w3, w4, w5⟩ := md.side hj (!sg)
    refine ⟨_, pss_cons (ps_setLc (i := 4) (own := [("_law_k", 5)]) (g := gName 5) (tt := tYes) (te := tTup (tCons (tVar 5) (tCons (tVar 2) tNil))) rfl scMoves.nd rfl rfl (sw_true rfl rfl rfl (by decide +kernel))
        (pi_list (pe_ix ix_tup (pe_ix ix_list (pv 0) (pv 1) (fun _ _ => rfl)) (pv 3) (fun _ _ => rfl)))
        (blkOk_by (N := ["_law_model", "_law_one", "_law_other", "_law_side", "_law_ahead", "_law_k"]) (sc := defScope sMoves) (by decide +kernel)) (fun _ _ _ _ _ => pg_name (i := 5) scMoves.nd rfl (Or.inl rfl)) (fun _ _ _ _ _ => pts_nil)
        (fun _ _ _ _ _ => pe_tup (pa_cons (pv 5) (pa_cons (pv 2) pa_nil))))
      (pss_one (ps_ret (pe_op op_cat (pv 4)
        (pe_lc (own := [("_law_k", 5)]) (g := gName 5) (tt := tYes) (te := tTup (tCons (tVar 1) (tCons (tVar 5) tNil))) rfl scMoves.nd
          (pi_list (pe_ix ix_tup (pe_ix ix_list (pv 0) (pv 2) (fun _ _ => rfl)) (pe_op op_sub pe_int (pv 3)) (fun _ _ => rfl)))
          (blkOk_by (N := ["_law_model", "_law_one", "_law_other", "_law_side", "_law_ahead", "_law_k"]) (sc := defScope sMoves) (by decide +kernel)) (fun _ _ _ _ _ => pg_name (i := 5) scMoves.nd rfl (Or.inl rfl)) (fun _ _ _ _ _ => pts_nil)
          (fun _ _ _ _ _ => pe_tup (pa_cons (pv 1) (pa_cons (pv 5) pa_nil))))))), ?_⟩
    refine ⟨_, rfl, _, rfl, m, _, _, _, rfl, rfl, SqL.of m1, atI_nat m2, _, rfl, t1, _, _, _, rfl, rfl, SqT.of m3, m4, a1, rfl, ⟨_, SqL.of m5⟩, fun D1 nD1 => ?_⟩
    have l1 := opts_len good hi sg
    have l2 := opts_len good hj (!sg)
    have dn : ∀ {b : Addr} {u : HO}, H b = some u → b ≠ D1 := fun {b u} e => ne_of_none e nD1
    refine lc_list (K := K) (a := a1) (xs := nI (opts fm i sg)) (fun t H' => Same H H' ∧ ∃ qs : List Addr, H' D1 = some (.lst (qs.map V.ref)) ∧ PairsOk H' qs (((opts fm i sg).take t).map fun k => (k, j)))
      ⟨same_new nD1 _, [], upd_same, PairsOk.nil _⟩ (fun t H' _ ⟨s, _⟩ => SqL.of (s _ _ m5)) ?_ ?_
    · rintro t x H' hx ⟨s1, qs, hD, hq⟩
      obtain ⟨q, hq', rfl⟩ := nI_of hx
      have hlt := (List.getElem?_eq_some_iff.mp hq').1
      refine ⟨rfl, ?_⟩
      refine ⟨_, rfl, _, rfl, (by show 2 ≤ sizeLine; decide), fun tp ntp => ?_⟩
      have s2 : Same H' (upd H' tp (.tup [.int (q : Int), .int (j : Int)])) := same_new ntp _
      have e2 : (upd H' tp (.tup [.int (q : Int), .int (j : Int)])) tp = some (.tup [.int (q : Int), .int (j : Int)]) := upd_same
      generalize upd H' tp (.tup [.int (q : Int), .int (j : Int)]) = G at s2 e2 ⊢
      have lq : qs.length < 1000 := by
        rw [hq.1, List.length_map, List.length_take]
        omega
      refine ⟨_, s2 _ _ hD, by rw [List.length_map]; exact small1000 (Nat.le_of_lt lq), fun b u e => by rw [upd_ne (dn e)]; exact s2 _ _ (s1 _ _ e), qs ++ [tp], by rw [upd_same, List.map_append] <;> rfl, ?_⟩
      have et : (opts fm i sg).take (t + 1) = (opts fm i sg).take t ++ [q] := by rw [List.take_add_one, hq'] <;> rfl
      rw [et, List.map_append]
      have kt : ∀ b xs, G b = some (.tup xs) → (upd G D1 (.lst (qs.map V.ref ++ [.ref tp]))) b = some (.tup xs) := fun b xs e => by
        rw [upd_ne (ne_of e (s2 _ _ hD) (fun z => nomatch z))]
        exact e
      exact ((hq.keep fun b xs e => s2 _ _ e).keep kt).app (PairsOk.one (p := (q, j)) (kt _ _ e2))
    rintro H1 ⟨s1, qs, hD, hq⟩
    rw [nI_len, List.take_length] at hq
    refine ⟨_, rfl, _, rfl, _, rfl, m, _, _, _, rfl, rfl, SqL.of (s1 _ _ w1), atI_nat w2, _, rfl, _, _, rfl, rfl, t2, _, _, _, rfl, rfl, SqT.of (s1 _ _ w3), by rw [sI_not]; exact w4, a2, rfl, ⟨_, SqL.of (s1 _ _ w5)⟩, fun D2 nD2 => ?_⟩
    have dn2 : ∀ {b : Addr} {u : HO}, H1 b = some u → b ≠ D2 := fun {b u} e => ne_of_none e nD2
    refine lc_list (K := K) (a := a2) (xs := nI (opts fm j (!sg))) (fun t H' => Same H1 H' ∧ ∃ rs : List Addr, H' D2 = some (.lst (rs.map V.ref)) ∧ PairsOk H' rs (((opts fm j (!sg)).take t).map fun k => (i, k)))
      ⟨same_new nD2 _, [], upd_same, PairsOk.nil _⟩ (fun t H' _ ⟨s, _⟩ => SqL.of (s _ _ (s1 _ _ w5))) ?_ ?_
    · rintro t x H' hx ⟨s2, rs, hD2, hq2⟩
      obtain ⟨q, hq', rfl⟩ := nI_of hx
      have hlt := (List.getElem?_eq_some_iff.mp hq').1
      refine ⟨rfl, ?_⟩
      refine ⟨_, rfl, _, rfl, (by show 2 ≤ sizeLine; decide), fun tp ntp => ?_⟩
      have s3 : Same H' (upd H' tp (.tup [.int (i : Int), .int (q : Int)])) := same_new ntp _
      have e3 : (upd H' tp (.tup [.int (i : Int), .int (q : Int)])) tp = some (.tup [.int (i : Int), .int (q : Int)]) := upd_same
      generalize upd H' tp (.tup [.int (i : Int), .int (q : Int)]) = G at s3 e3 ⊢
      have lq : rs.length < 1000 := by
        rw [hq2.1, List.length_map, List.length_take]
        omega
      refine ⟨_, s3 _ _ hD2, by rw [List.length_map]; exact small1000 (Nat.le_of_lt lq), fun b u e => by rw [upd_ne (dn2 e)]; exact s3 _ _ (s2 _ _ e), rs ++ [tp], by rw [upd_same, List.map_append] <;> rfl, ?_⟩
      have et : (opts fm j (!sg)).take (t + 1) = (opts fm j (!sg)).take t ++ [q] := by rw [List.take_add_one, hq'] <;> rfl
      rw [et, List.map_append]
      have kt : ∀ b xs, G b = some (.tup xs) → (upd G D2 (.lst (rs.map V.ref ++ [.ref tp]))) b = some (.tup xs) := fun b xs e => by
        rw [upd_ne (ne_of e (s3 _ _ hD2) (fun z => nomatch z))]
        exact e
      exact ((hq2.keep fun b xs e => s3 _ _ e).keep kt).app (PairsOk.one (p := (i, q)) (kt _ _ e3))
    rintro H2 ⟨s2, rs, hD2, hq2⟩
    rw [nI_len, List.take_length] at hq2
    have z1 : qs.length ≤ fm.length := by rw [hq.1, List.length_map]; exact l1
    have z2 : rs.length ≤ fm.length := by rw [hq2.1, List.length_map]; exact l2
    refine ⟨D1, D2, _, _, rfl, rfl, s2 _ _ hD, hD2, by rw [List.length_map, List.length_map, sizeLine_eq]; omega, fun p np => ?_⟩
    refine k _ p ((s1.trans s2).trans (same_new np _)) ((s1.trans s2).free np) ⟨qs ++ rs, by rw [upd_same, List.map_append], ?_⟩
    have kt := same_new np (.lst (qs.map V.ref ++ rs.map V.ref))
    exact ((hq.keep fun b xs e => kt _ _ (s2 _ _ e))).app (hq2.keep fun b xs e => kt _ _ e)
end
end K20
set_option Elab.async false
set_option linter.all false
set_option maxRecDepth 100000
set_option maxHeartbeats 4000000
/-! KLawB: a form put into the model. -/
namespace K20
open PySem L2
/-! ### forms as data -/
def nD (ns : List Nat) : List PyData := ns.map fun (n : Nat) => PyData.int (n : Int)
def fD (f : Form) : PyData := .tuple [.list (nD f.1), .list (nD f.2)]
theorem nD_all {K : PySem.W.Frag} {H : Hp} : ∀ ns : List Nat, DpAll K H (nI ns) (nD ns)
  | [] => .nil
  | n :: ns => .cons (.int _) (nD_all ns)
theorem fD_at {K : PySem.W.Frag} {H : Hp} {t la ra : Addr} {f : Form} (h1 : H t = some (.tup [.ref la, .ref ra])) (h2 : H la = some (.lst (nI f.1))) (h3 : H ra = some (.lst (nI f.2))) : Dp K H (.ref t) (fD f) :=
  .tup (SqT.of h1) (.cons (.lst (SqL.of h2) (nD_all _)) (.cons (.lst (SqL.of h3) (nD_all _)) .nil))
theorem nD_can : ∀ ns : List Nat, PyData.canLayAll0 (nD ns) = true
  | [] => rfl
  | n :: ns => by
    show (PyData.canLay0 (PyData.int _) && PyData.canLayAll0 (nD ns)) = true
    rw [nD_can ns] <;> rfl
theorem nD_depth : ∀ ns : List Nat, PyData.depthAll (nD ns) = 0
  | [] => by simp [nD, PyData.depthAll]
  | n :: ns => by
    have ih := nD_depth ns
    unfold nD at ih ⊢
    simp [PyData.depthAll, PyData.depth, ih]
theorem fD_shaped (f : Form) : SeqAt.shaped (fD f) = true := by
  unfold SeqAt.shaped
  rw [Bool.and_eq_true]
  refine ⟨?_, decide_eq_true ?_⟩
  · show (PyData.canLayAll0 (nD f.1) && (PyData.canLayAll0 (nD f.2) && true)) = true
    rw [nD_can, nD_can] <;> rfl
  · simp only [fD, PyData.depth, PyData.depthAll, nD_depth]
    omega
theorem nD_eqv : ∀ ns ms : List Nat, PyData.eqvAll (nD ns) (nD ms) = decide (ns = ms)
  | [], [] => by simp [nD, PyData.eqvAll]
  | [], _ :: _ => by simp [nD, PyData.eqvAll]
  | _ :: _, [] => by simp [nD, PyData.eqvAll]
  | n :: ns, m :: ms => by
    show (PyData.eqv (PyData.int (n : Int)) (PyData.int (m : Int)) && PyData.eqvAll (nD ns) (nD ms)) = decide (n :: ns = m :: ms)
    rw [nD_eqv ns ms]
    have e : PyData.eqv (PyData.int (n : Int)) (PyData.int (m : Int)) = decide (n = m) := by
      show ((n : Int) == (m : Int)) = decide (n = m)
      by_cases h : n = m
      · subst h
        rw [decide_eq_true rfl]
        exact beq_self_eq_true _
      · rw [decide_eq_false h]
        exact beq_eq_false_iff_ne.mpr fun z => h (Int.ofNat_inj.mp z)
    rw [e]
    by_cases h1 : n = m
    · by_cases h2 : ns = ms
      · rw [h1, h2]
        simp
      · rw [decide_eq_false h2, Bool.and_false]
        exact (decide_eq_false fun z => h2 (List.cons.inj z).2).symm
    · rw [decide_eq_false h1, Bool.false_and]
      exact (decide_eq_false fun z => h1 (List.cons.inj z).1).symm
theorem fD_eqv (f g : Form) : PyData.eqv (fD f) (fD g) = decide (f = g) := by
  obtain ⟨a, b⟩ := f
  obtain ⟨c, d⟩ := g
  show (PyData.eqvAll (nD a) (nD c) && (PyData.eqvAll (nD b) (nD d) && true)) = decide ((a, b) = (c, d))
  rw [nD_eqv, nD_eqv, Bool.and_true]
  by_cases h1 : a = c
  · by_cases h2 : b = d
    · rw [h1, h2]
      simp
    · rw [decide_eq_false h2, Bool.and_false]
      exact (decide_eq_false fun z => h2 (Prod.mk.inj z).2).symm
  · rw [decide_eq_false h1, Bool.false_and]
    exact (decide_eq_false fun z => h1 (Prod.mk.inj z).1).symm
theorem nI_flat : ∀ ns : List Nat, (nI ns).all flatV = true
  | [] => rfl
  | n :: ns => by
    show (flatV (V.int _) && (nI ns).all flatV) = true
    rw [nI_flat ns] <;> rfl
theorem nI_in (k : Nat) : ∀ ns : List Nat, inV (V.int ((0 : Int) + (k : Int))) (nI ns) = decide (k ∈ ns)
  | [] => by simp [nI, inV]
  | n :: ns => by
    have ih := nI_in k ns
    unfold inV at ih ⊢
    show (eqV (V.int (n : Int)) (V.int ((0 : Int) + (k : Int))) || (nI ns).any fun y => eqV y (V.int ((0 : Int) + (k : Int)))) = decide (k ∈ n :: ns)
    rw [ih]
    show (((n : Int) == (0 : Int) + (k : Int)) || decide (k ∈ ns)) = _
    by_cases h : k = n
    · subst h
      rw [Int.zero_add, beq_self_eq_true, Bool.true_or]
      exact (decide_eq_true List.mem_cons_self).symm
    · have e : ((n : Int) == (0 : Int) + (k : Int)) = false := beq_eq_false_iff_ne.mpr fun z => h (by omega)
      rw [e, Bool.false_or]
      by_cases h2 : k ∈ ns
      · rw [decide_eq_true h2, decide_eq_true (List.mem_cons_of_mem _ h2)]
      · rw [decide_eq_false h2, decide_eq_false fun z => (List.mem_cons.mp z).elim h h2]
section
variable {P : Program} {w : World} {K : PySem.W.Frag} {mg : Str → Option Value} {base : Heap} {Y O : Addr}
def spPut : Sp := fun vs H Q _ => ∃ (m hg al ar : Addr) (S : List Addr) (ts : List Addr) (fm : List Form) (hs : List Int) (ls rs : List Nat), vs = [.ref m, .ref hg, .ref al, .ref ar] ∧ H m = some (.lst (ts.map V.ref)) ∧ FormsAt H (m :: hg :: S) ts fm ∧
  H hg = some (.lst (hs.map V.int)) ∧ hs.length = fm.length ∧ m ≠ hg ∧ Live S H ∧ Good fm ∧ fm.length ≤ 100 ∧ H al = some (.lst (nI ls)) ∧ H ar = some (.lst (nI rs)) ∧ (∀ k ∈ ls, k < fm.length) ∧ (∀ k ∈ rs, k < fm.length) ∧
  ∀ (H' : Hp) (ts' : List Addr) (hs' : List Int) (v : V), H' m = some (.lst (ts'.map V.ref)) → FormsAt H' (m :: hg :: S) ts' (added fm (formOf ls rs)) → H' hg = some (.lst (hs'.map V.int)) → hs'.length = (added fm (formOf ls rs)).length →
    hs'[0]? = hs[0]? → Keep [m, hg] H H' → Q v H'
theorem scPut : FnScope ["_law_model", "_law_heights", "_law_lefts", "_law_rights", "_law_k", "_law_form"] ["_law_model", "_law_heights", "_law_lefts", "_law_rights"] (defScope sPut) := ⟨rfl, rfl, rfl, by decide +kernel, rfl, by decide +kernel, by decide +kernel⟩
theorem FormsAt.snoc {H' : Hp} {S : List Addr} {ts : List Addr} {fm : List Form} {t la ra : Addr} {f : Form} (x : FormsAt H' S ts fm) (h1 : H' t = some (.tup [.ref la, .ref ra])) (h2 : H' la = some (.lst (nI f.1))) (h3 : H' ra = some (.lst (nI f.2))) (n1 : la ∉ S) (n2 : ra ∉ S) : FormsAt H' S (ts ++ [t]) (fm ++ [f]) := by
  refine ⟨by rw [List.length_append, List.length_append, x.1] <;> rfl, fun i q g e1 e2 => ?_⟩
  by_cases h : i < ts.length
  · rw [List.getElem?_append_left h] at e1
    rw [List.getElem?_append_left (by rw [← x.1]; exact h)] at e2
    exact x.2 i q g e1 e2
  · have h' : ts.length ≤ i := Nat.le_of_not_lt h
    rw [List.getElem?_append_right h'] at e1
    rw [List.getElem?_append_right (by rw [← x.1]; exact h'), ← x.1] at e2
    have h0 : i - ts.length = 0 := by
      have q := (List.getElem?_eq_some_iff.mp e1).1
      rw [List.length_singleton] at q
      omega
    rw [h0] at e1 e2
    have ea : t = q := Option.some.inj e1
    have eb : f = g := Option.some.inj e2
    rw [← ea, ← eb]
    exact ⟨la, ra, h1, h2, h3, n1, n2⟩
theorem ok_put {f : Addr} {fd : FuncData} (D : DefD K mg "_law_put" sPut ["_law_model", "_law_heights", "_law_lefts", "_law_rights"] f fd) (T : Txt K mg Y O) : FnOk P w K mg base CX0 1 f fd ["_law_model", "_law_heights", "_law_lefts", "_law_rights"] spPut := by
  refine D.F.ok scPut (fun vs H Q E h => ?_) (fun cdv A outer s H vs Q E hr h => ?_)
  · obtain ⟨m, hg, al, ar, S, ts, fm, hs, ls, rs, rfl, _⟩ := h
    rfl
  · obtain ⟨m, hg, al, ar, S, ts, fm, hs, ls, rs, rfl, hm, hF, hh, hl, mne, live, good, h100, hal, har, hls, hrs, k⟩ := h
    have hu := hr.units
    refine ⟨_, pss_cons (ps_set (i := 5) scPut.nd rfl (Or.inl rfl) (pe_tup
        (pa_cons (pe_lc (own := [("_law_k", 4)]) (g := gName 4) (tt := tTest (tOp (rIn K false) (tVar 4) (tVar 2))) (te := tVar 4) rfl scPut.nd (pi_range1 (by rfl) T.range (pa_cons (pe_callB call_len_seq (by rfl) T.len PySem.boot_len (pa_cons (pv 0) pa_nil)) pa_nil))
          (blkOk_by (N := ["_law_model", "_law_heights", "_law_lefts", "_law_rights", "_law_k", "_law_form"]) (sc := defScope sPut) (by decide +kernel)) (fun _ _ _ _ _ => pg_name (i := 4) scPut.nd rfl (Or.inl rfl))
          (fun _ _ _ _ _ => pts_one (pt_cmpR op_in_seq (pv 4) (pv 2) (by rfl))) (fun _ _ _ _ _ => pv 4))
        (pa_cons (pe_lc (own := [("_law_k", 4)]) (g := gName 4) (tt := tTest (tOp (rIn K false) (tVar 4) (tVar 3))) (te := tVar 4) rfl scPut.nd (pi_range1 (by rfl) T.range (pa_cons (pe_callB call_len_seq (by rfl) T.len PySem.boot_len (pa_cons (pv 0) pa_nil)) pa_nil))
          (blkOk_by (N := ["_law_model", "_law_heights", "_law_lefts", "_law_rights", "_law_k", "_law_form"]) (sc := defScope sPut) (by decide +kernel)) (fun _ _ _ _ _ => pg_name (i := 4) scPut.nd rfl (Or.inl rfl))
          (fun _ _ _ _ _ => pts_one (pt_cmpR op_in_seq (pv 4) (pv 3) (by rfl))) (fun _ _ _ _ _ => pv 4)) pa_nil))))
      (pss_cons (ps_for PassesOwn.never rfl (pi_range1 (by rfl) T.range (pa_cons (pe_callB call_len_seq (by rfl) T.len PySem.boot_len (pa_cons (pv 0) pa_nil)) pa_nil)) (pg_name (i := 4) scPut.nd rfl (Or.inl rfl))
        (pss_one (ps_if (pt_cmpR (op_eqD hu) (pe_ix ix_list (pv 0) (pv 4) (fun _ _ => rfl)) (pv 5) (nomark _)) (pss_one (ps_ret (pv 4))) pss_nil)))
      (pss_cons (ps_expr (pe_bm PySem.F.plainAttrs_list PySem.F.slot_list_append PySem.F.type_list_append mt_append (pv 0) (pa_cons (pv 5) pa_nil)))
      (pss_cons (ps_expr (pe_bm PySem.F.plainAttrs_list PySem.F.slot_list_append PySem.F.type_list_append mt_append (pv 1) (pa_cons (pe_callB (cr_max rfl) (by rfl) T.max (by decide +kernel)
          (pa_cons (pe_op op_cat (pe_lst (pa_cons pe_int pa_nil))
            (pe_lc (own := [("_law_k", 4)]) (g := gName 4) (tt := tYes) (te := tOp (rI0 fun i j => .int (i + j)) (tC (.int 1)) (tOp (rIxL K) (tVar 1) (tVar 4))) rfl scPut.nd
              (pi_list (pe_op op_cat (pe_ix ix_tup (pv 5) pe_int (fun _ _ => rfl)) (pe_ix ix_tup (pv 5) pe_int (fun _ _ => rfl))))
              (blkOk_by (N := ["_law_model", "_law_heights", "_law_lefts", "_law_rights", "_law_k", "_law_form"]) (sc := defScope sPut) (by decide +kernel)) (fun _ _ _ _ _ => pg_name (i := 4) scPut.nd rfl (Or.inl rfl)) (fun _ _ _ _ _ => pts_nil)
              (fun _ _ _ _ _ => pe_op op_add pe_int (pe_ix ix_list (pv 1) (pv 4) (fun _ _ => rfl))))) pa_nil)) pa_nil)))
      (pss_one (ps_ret (pe_op op_sub (pe_callB call_len_seq (by rfl) T.len PySem.boot_len (pa_cons (pv 0) pa_nil)) pe_int)))))), ?_⟩
    have tl : (ts.map V.ref).length = fm.length := by rw [List.length_map, hF.1]
    have hb1 : -(2 ^ 62) ≤ (((ts.map V.ref).length : Nat) : Int) := by omega
    have hb2 : (((ts.map V.ref).length : Nat) : Int) < 2 ^ 62 := by omega
    -- the two lists of the form
    refine ⟨_, rfl, m, _, rfl, .inl (SqL.of hm), _, rfl, hb1, hb2, fun D1 nD1 => ?_⟩
    rw [Int.toNat_natCast, tl]
    have dn : ∀ {b : Addr} {u : HO}, H b = some u → b ≠ D1 := fun {b u} e => ne_of_none e nD1
    refine lc_range (lo := 0) (n := fm.length) (fun t H' => H' = upd H D1 (.lst (nI ((List.range t).filter fun q => decide (q ∈ ls))))) rfl ?_ ?_
    · rintro t H' ht rfl
      refine ⟨rfl, _, rfl, _, rfl, al, _, rfl, .inl (SqL.of (by rw [upd_ne (dn hal)]; exact hal)), rfl, nI_flat ls, _, rfl, ?_⟩
      have e := nI_in t ls
      show if inV (V.int ((0 : Int) + (t : Int))) (nI ls) = true then _ else _
      rw [e]
      by_cases hq : t ∈ ls
      · rw [decide_eq_true hq]
        refine iteT ⟨_, rfl, _, upd_same, ?_, ?_⟩
        · rw [nI_len]
          have z1 := List.length_filter_le (fun q => decide (q ∈ ls)) (List.range t)
          rw [List.length_range] at z1
          exact small1000 (by omega)
        · have et : (List.range (t + 1)).filter (fun q => decide (q ∈ ls)) = (List.range t).filter (fun q => decide (q ∈ ls)) ++ [t] := by
            rw [List.range_succ, List.filter_append, List.filter_cons, decide_eq_true hq] <;> rfl
          rw [upd_upd, et, Int.zero_add, nI_snoc]
      · rw [decide_eq_false hq]
        refine iteF ?_
        have et : (List.range (t + 1)).filter (fun q => decide (q ∈ ls)) = (List.range t).filter (fun q => decide (q ∈ ls)) := by
          rw [List.range_succ, List.filter_append, List.filter_cons, decide_eq_false hq]
          exact List.append_nil _
        rw [et]
    rintro H1 rfl
    rw [canon_range hls]
    have s1 : Same H (upd H D1 (.lst (nI (canon ls)))) := same_new nD1 _
    have e1 : (upd H D1 (.lst (nI (canon ls)))) D1 = some (.lst (nI (canon ls))) := upd_same
    generalize upd H D1 (.lst (nI (canon ls))) = G1 at s1 e1 ⊢
    refine ⟨_, rfl, m, _, rfl, .inl (SqL.of (s1 _ _ hm)), _, rfl, hb1, hb2, fun D2 nD2 => ?_⟩
    rw [Int.toNat_natCast, tl]
    have dn2 : ∀ {b : Addr} {u : HO}, G1 b = some u → b ≠ D2 := fun {b u} e => ne_of_none e nD2
    refine lc_range (lo := 0) (n := fm.length) (fun t H' => H' = upd G1 D2 (.lst (nI ((List.range t).filter fun q => decide (q ∈ rs))))) rfl ?_ ?_
    · rintro t H' ht rfl
      refine ⟨rfl, _, rfl, _, rfl, ar, _, rfl, .inl (SqL.of (by rw [upd_ne (dn2 (s1 _ _ har))]; exact s1 _ _ har)), rfl, nI_flat rs, _, rfl, ?_⟩
      have e := nI_in t rs
      show if inV (V.int ((0 : Int) + (t : Int))) (nI rs) = true then _ else _
      rw [e]
      by_cases hq : t ∈ rs
      · rw [decide_eq_true hq]
        refine iteT ⟨_, rfl, _, upd_same, ?_, ?_⟩
        · rw [nI_len]
          have z1 := List.length_filter_le (fun q => decide (q ∈ rs)) (List.range t)
          rw [List.length_range] at z1
          exact small1000 (by omega)
        · have et : (List.range (t + 1)).filter (fun q => decide (q ∈ rs)) = (List.range t).filter (fun q => decide (q ∈ rs)) ++ [t] := by
            rw [List.range_succ, List.filter_append, List.filter_cons, decide_eq_true hq] <;> rfl
          rw [upd_upd, et, Int.zero_add, nI_snoc]
      · rw [decide_eq_false hq]
        refine iteF ?_
        have et : (List.range (t + 1)).filter (fun q => decide (q ∈ rs)) = (List.range t).filter (fun q => decide (q ∈ rs)) := by
          rw [List.range_succ, List.filter_append, List.filter_cons, decide_eq_false hq]
          exact List.append_nil _
        rw [et]
    rintro H2 rfl
    rw [canon_range hrs]
    have s2 : Same G1 (upd G1 D2 (.lst (nI (canon rs)))) := same_new nD2 _
    have e2 : (upd G1 D2 (.lst (nI (canon rs)))) D2 = some (.lst (nI (canon rs))) := upd_same
    generalize upd G1 D2 (.lst (nI (canon rs))) = G2 at s2 e2 ⊢
    refine ⟨(by show 2 ≤ sizeLine; decide), fun ft nft => ?_⟩
    have s3 : Same H (upd G2 ft (.tup [.ref D1, .ref D2])) := (s1.trans s2).trans (same_new nft _)
    have f1 : (upd G2 ft (.tup [.ref D1, .ref D2])) ft = some (.tup [.ref D1, .ref D2]) := upd_same
    have f2 : (upd G2 ft (.tup [.ref D1, .ref D2])) D1 = some (.lst (nI (canon ls))) := (same_new nft _) _ _ (s2 _ _ e1)
    have f3 : (upd G2 ft (.tup [.ref D1, .ref D2])) D2 = some (.lst (nI (canon rs))) := (same_new nft _) _ _ e2
    have fr1 : H D1 = none := nD1
    have fr2 : H D2 = none := s1.free nD2
    generalize upd G2 ft (.tup [.ref D1, .ref D2]) = G3 at s3 f1 f2 f3 ⊢
    have F3 := hF.same s3
    -- for _law_k in range(len(_law_model))
    refine ⟨_, rfl, m, _, rfl, .inl (SqL.of (s3 _ _ hm)), _, rfl, hb1, hb2, ?_⟩
    rw [Int.toNat_natCast, tl]
    refine for_range (lo := 0) (n := fm.length) (fun t σ H' => H' = G3 ∧ (∀ t', t' < t → fm[t']? ≠ some (formOf ls rs)) ∧ ∃ v, σ = [some (.ref m), some (.ref hg), some (.ref al), some (.ref ar), v, some (.ref ft)])
      ⟨rfl, fun t' h => absurd h (Nat.not_lt_zero _), none, rfl⟩ ?_ ?_
    · rintro t σ H' ht ⟨rfl, hno, v, rfl⟩
      have hf : fm[t]? = some fm[t] := List.getElem?_eq_getElem ht
      have hts : t < ts.length := by rw [hF.1]; exact ht
      obtain ⟨la, ra, q1, q2, q3, _⟩ := (F3.2 t ts[t] fm[t] (List.getElem?_eq_getElem hts) hf).ex
      refine ⟨_, rfl, _, rfl, m, _, _, _, rfl, rfl, SqL.of (s3 _ _ hm), at_of (j := t) (v := .ref ts[t]) (Int.zero_add _) (by rw [List.getElem?_map, List.getElem?_eq_getElem hts] <;> rfl), _, rfl, fD fm[t], fD (formOf ls rs), fD_at q1 q2 q3, fD_at f1 f2 f3, fD_shaped _, fD_shaped _, _, rfl, ?_⟩
      rw [fD_eqv]
      by_cases e : fm[t] = formOf ls rs
      · rw [decide_eq_true e]
        refine iteT ⟨_, rfl, ?_⟩
        have hmem : formOf ls rs ∈ fm := by rw [← e]; exact List.getElem_mem ht
        exact k H' ts hs _ (s3 _ _ hm) (by rw [added_old hmem]; exact F3) (s3 _ _ hh) (by rw [added_old hmem]; exact hl) rfl (Keep.of s3)
      · rw [decide_eq_false e]
        refine iteF ⟨rfl, fun t' h => ?_, _, rfl⟩
        by_cases e' : t' = t
        · rw [e', hf]
          exact fun z => e (Option.some.inj z)
        · exact hno t' (by omega)
    rintro σ H' ⟨rfl, hno, v, rfl⟩
    have hnm : formOf ls rs ∉ fm := fun q => by
      obtain ⟨i, hi⟩ := List.mem_iff_getElem?.mp q
      exact hno i (List.getElem?_eq_some_iff.mp hi).1 hi
    have hm3 := s3 _ _ hm
    have hh3 := s3 _ _ hh
    -- _law_model.append(_law_form)
    refine ⟨_, rfl, .inl ⟨rfl, _, SqL.of hm3⟩, _, rfl, m, _, _, rfl, rfl, hm3, by rw [tl]; exact small1000 (by omega), ?_⟩
    have m4 : (upd H' m (.lst (ts.map V.ref ++ [.ref ft]))) m = some (.lst ((ts ++ [ft]).map V.ref)) := by rw [upd_same, List.map_append] <;> rfl
    have k4 : ∀ b u, H' b = some u → b ≠ m → (upd H' m (.lst (ts.map V.ref ++ [.ref ft]))) b = some u := fun b u e ne => by rw [upd_ne ne]; exact e
    generalize upd H' m (.lst (ts.map V.ref ++ [.ref ft])) = G4 at m4 k4 ⊢
    have h4 := k4 _ _ hh3 mne.symm
    have D1m : D1 ≠ m := fun z => by rw [z, hm] at fr1; cases fr1
    have D2m : D2 ≠ m := fun z => by rw [z, hm] at fr2; cases fr2
    have D1h : D1 ≠ hg := fun z => by rw [z, hh] at fr1; cases fr1
    have D2h : D2 ≠ hg := fun z => by rw [z, hh] at fr2; cases fr2
    have g1 := k4 _ _ f1 (ne_of f1 hm3 (fun z => nomatch z))
    have g2 := k4 _ _ f2 D1m
    have g3 := k4 _ _ f3 D2m
    have D1S : D1 ∉ m :: hg :: S := fun q => by
      rcases List.mem_cons.mp q with z | q
      · exact D1m z
      · rcases List.mem_cons.mp q with z | q
        · exact D1h z
        · exact live.fresh fr1 q
    have D2S : D2 ∉ m :: hg :: S := fun q => by
      rcases List.mem_cons.mp q with z | q
      · exact D2m z
      · rcases List.mem_cons.mp q with z | q
        · exact D2h z
        · exact live.fresh fr2 q
    -- _law_heights.append(max([0] + [..]))
    refine ⟨_, rfl, .inl ⟨rfl, _, SqL.of h4⟩, (by show 1 ≤ sizeLine; decide), fun pz nz => ?_⟩
    have s5 : Same G4 (upd G4 pz (.lst [.int 0])) := same_new nz _
    have z5 : (upd G4 pz (.lst [.int 0])) pz = some (.lst [.int 0]) := upd_same
    generalize upd G4 pz (.lst [.int 0]) = G5 at s5 z5 ⊢
    have c1 : (canon ls).length ≤ fm.length := asc_len (asc_canon ls) fun q hq => hls q (mem_canon.mp hq)
    have c2 : (canon rs).length ≤ fm.length := asc_len (asc_canon rs) fun q hq => hrs q (mem_canon.mp hq)
    have hz : (nI (canon ls)).length + (nI (canon rs)).length ≤ sizeLine := by
      rw [nI_len, nI_len, sizeLine_eq]
      omega
    refine ⟨_, rfl, ft, _, 0, _, rfl, rfl, SqT.of (s5 _ _ g1), rfl, _, rfl, ft, _, 1, _, rfl, rfl, SqT.of (s5 _ _ g1), rfl, D1, D2, _, _, rfl, rfl, s5 _ _ g2, s5 _ _ g3, hz, fun pc nc => ?_⟩
    have s6 : Same G5 (upd G5 pc (.lst (nI (canon ls) ++ nI (canon rs)))) := same_new nc _
    have z6 : (upd G5 pc (.lst (nI (canon ls) ++ nI (canon rs)))) pc = some (.lst (nI (canon ls) ++ nI (canon rs))) := upd_same
    generalize upd G5 pc (.lst (nI (canon ls) ++ nI (canon rs))) = G6 at s6 z6 ⊢
    refine ⟨pc, rfl, ⟨_, SqL.of z6⟩, fun pd nd => ?_⟩
    have h6 := s6 _ _ (s5 _ _ h4)
    refine lc_list (K := K) (a := pc) (xs := nI (canon ls) ++ nI (canon rs)) (fun i H' => ∃ zs : List Int, H' = upd G6 pd (.lst (zs.map V.int)) ∧ zs.length = i) ⟨[], rfl, rfl⟩ (fun i H' _ ⟨zs, e, _⟩ => by rw [e]; exact SqL.of (by rw [upd_ne (ne_of_none z6 nd)]; exact z6)) ?_ ?_
    · rintro i x H'' hx ⟨zs, rfl, hzs⟩
      rw [nI_app] at hx
      obtain ⟨g, hg', rfl⟩ := nI_of hx
      have hlt : g < fm.length := by
        rcases List.mem_append.mp (List.mem_of_getElem? hg') with q | q
        · exact hls g (mem_canon.mp q)
        · exact hrs g (mem_canon.mp q)
      have hlt2 : g < hs.length := by rw [hl]; exact hlt
      have hil : i < (canon ls ++ canon rs).length := (List.getElem?_eq_some_iff.mp hg').1
      refine ⟨rfl, ?_⟩
      refine ⟨_, rfl, _, rfl, hg, _, _, _, rfl, rfl, SqL.of (by rw [upd_ne (ne_of_none h6 nd)]; exact h6), atI_nat (v := .int hs[g]) (by rw [List.getElem?_map, List.getElem?_eq_getElem hlt2] <;> rfl), _, _, rfl, rfl, _, upd_same, ?_, ?_⟩
      · rw [List.length_map, hzs]
        rw [List.length_append] at hil
        exact small1000 (by omega)
      · exact ⟨zs ++ [1 + hs[g]], by rw [upd_upd, List.map_append] <;> rfl, by rw [List.length_append, hzs] <;> rfl⟩
    rintro H'' ⟨zs, rfl, hzs⟩
    have s7 : Same G6 (upd G6 pd (.lst (zs.map V.int))) := same_new nd _
    have z7 : (upd G6 pd (.lst (zs.map V.int))) pd = some (.lst (zs.map V.int)) := upd_same
    generalize upd G6 pd (.lst (zs.map V.int)) = G7 at s7 z7 ⊢
    have z7' := s7 _ _ (s6 _ _ z5)
    refine ⟨pz, pd, _, _, rfl, rfl, z7', z7, ?_, fun pc2 nc2 => ?_⟩
    · rw [List.length_map, hzs, List.length_append, nI_len, nI_len, sizeLine_eq]
      show 1 + _ ≤ _
      omega
    have s8 : Same G7 (upd G7 pc2 (.lst ([V.int 0] ++ zs.map V.int))) := same_new nc2 _
    have z8 : (upd G7 pc2 (.lst ([V.int 0] ++ zs.map V.int))) pc2 = some (.lst ((0 :: zs).map V.int)) := upd_same
    generalize upd G7 pc2 (.lst ([V.int 0] ++ zs.map V.int)) = G8 at s8 z8 ⊢
    have s48 : Same G4 G8 := ((s5.trans s6).trans s7).trans s8
    refine ⟨pc2, 0 :: zs, rfl, SqL.of z8, Nat.succ_pos _, fun mx _ _ => ?_⟩
    have h8 := s48 _ _ h4
    refine ⟨hg, _, _, rfl, rfl, h8, by rw [List.length_map, hl]; exact small1000 (by omega), ?_⟩
    have h9 : (upd G8 hg (.lst (hs.map V.int ++ [.int mx]))) hg = some (.lst ((hs ++ [mx]).map V.int)) := by rw [upd_same, List.map_append] <;> rfl
    have k9 : ∀ b u, G8 b = some u → b ≠ hg → (upd G8 hg (.lst (hs.map V.int ++ [.int mx]))) b = some u := fun b u e ne => by rw [upd_ne ne]; exact e
    generalize upd G8 hg (.lst (hs.map V.int ++ [.int mx])) = G9 at h9 k9 ⊢
    have m9 := k9 _ _ (s48 _ _ m4) mne
    -- return len(_law_model) - 1
    refine ⟨_, rfl, m, _, rfl, .inl (SqL.of m9), _, _, rfl, rfl, ?_⟩
    have K9 : Keep [m, hg] H G9 := fun b u e n => by
      have n1 : b ≠ m := fun z => n (by rw [z]; exact List.mem_cons_self)
      have n2 : b ≠ hg := fun z => n (by rw [z]; exact List.mem_cons_of_mem _ (List.mem_singleton_self _))
      exact k9 _ _ (s48 _ _ (k4 _ _ (s3 _ _ e) n1)) n2
    have hlen : 0 < hs.length := by rw [hl]; exact good.len
    refine k G9 (ts ++ [ft]) (hs ++ [mx]) _ m9 ?_ h9 ?_ ?_ K9
    · rw [added_new hnm]
      have F9 : FormsAt G9 (m :: hg :: S) ts fm := hF.keep K9 (fun a ha => .inl (by
        rcases List.mem_cons.mp ha with z | z
        · rw [z]; exact List.mem_cons_self
        · rw [List.mem_singleton.mp z]; exact List.mem_cons_of_mem _ List.mem_cons_self)) fun a ha xs e => by
          rcases List.mem_cons.mp ha with z | z
          · rw [z, hm] at e; cases e
          · rw [List.mem_singleton.mp z, hh] at e; cases e
      exact F9.snoc (k9 _ _ (s48 _ _ g1) (ne_of g1 h4 (fun z => nomatch z))) (k9 _ _ (s48 _ _ g2) D1h) (k9 _ _ (s48 _ _ g3) D2h) D1S D2S
    · rw [added_new hnm, List.length_append, List.length_append, hl] <;> rfl
    · rw [List.getElem?_append_left hlen]
end
end K20
set_option Elab.async false
set_option linter.all false
set_option maxRecDepth 100000
set_option maxHeartbeats 4000000
/-! KLawC: a form drawn. -/
namespace K20
open PySem L2
theorem CallR.imp {X : Cx} {f : Value} {r u : List V → Hp → VK → Prop} (h : CallR X f r) (i : ∀ xs H Q, u xs H Q → r xs H Q) : CallR X f u := fun pins s σ H xs us Q I rx q => h pins s σ H xs us Q I rx (i xs H Q q)
def rInt1 : List V → Hp → VK → Prop := fun xs H Q => ∃ i, xs = [.int i] ∧ Q (.int i) H
theorem cr_int {X : Cx} : CallR X (.type "int") rInt1 := CallR.imp call_int1 fun xs H Q h => .inl h
def rLenL (K : PySem.W.Frag) : List V → Hp → VK → Prop := fun xs H Q => ∃ (p : Addr) (ys : List V), xs = [.ref p] ∧ SqL K H p ys ∧ Q (.int ys.length) H
theorem cr_lenL {X : Cx} : CallR X (.builtin "len") (rLenL X.K) := CallR.imp call_len_seq fun xs H Q h => let ⟨p, ys, e, s, q⟩ := h; ⟨p, ys, e, .inl s, q⟩
theorem cut_sub (ns : List Nat) (lo hi : Option Int) : ∃ ms, cutV (nI ns) lo hi = nI ms ∧ ∀ k ∈ ms, k ∈ ns := by
  unfold cutV nI
  rw [← List.map_drop, ← List.map_take]
  exact ⟨_, rfl, fun k h => List.mem_of_mem_drop (List.mem_of_mem_take h)⟩
theorem cut_last (ns : List Nat) (h : ns ≠ []) : ∃ ms, cutV (nI ns) (some (-3)) none = nI ms ∧ (∀ k ∈ ms, k ∈ ns) ∧ ms ≠ [] := by
  unfold cutV nI
  rw [← List.map_drop, ← List.map_take]
  refine ⟨_, rfl, fun k h => List.mem_of_mem_drop (List.mem_of_mem_take h), fun e => ?_⟩
  have z := congrArg List.length e
  rw [List.length_take, List.length_drop, List.length_map] at z
  have hn : 0 < ns.length := by
    cases ns with
    | nil => exact absurd rfl h
    | cons _ _ => exact Nat.succ_pos _
  have e1 : HT.sIx ns.length ns.length none = ns.length := rfl
  have e2 : HT.sIx ns.length 0 (some (-3)) = ((-3 : Int) + (ns.length : Int)).toNat := rfl
  rw [e1, e2, List.length_nil] at z
  omega
theorem ints_at {ds : List Int} {n : Nat} (h : ds.length = n) (i : Nat) (hi : i < n) : ∃ z : Int, (ds.map V.int)[i]? = some (.int z) := by
  have hlt : i < ds.length := by rw [h]; exact hi
  exact ⟨ds[i], by rw [List.getElem?_map, List.getElem?_eq_getElem hlt] <;> rfl⟩
/-- an item of a list that is not empty, by a remainder -/
theorem pick_at {ns : List Nat} (z : Int) (h : ns ≠ []) : (0 : Int) < ((nI ns).length : Int) ∧ ∃ k, k ∈ ns ∧ atI (nI ns) (z % ((nI ns).length : Int)) = some (.int (k : Int)) := by
  have hn : 0 < ns.length := by
    cases ns with
    | nil => exact absurd rfl h
    | cons _ _ => exact Nat.succ_pos _
  have hp : (0 : Int) < ((nI ns).length : Int) := by rw [nI_len]; omega
  refine ⟨hp, ?_⟩
  have b1 := Int.emod_nonneg z (show ((nI ns).length : Int) ≠ 0 by omega)
  have b2 := Int.emod_lt_of_pos z hp
  have hj : (z % ((nI ns).length : Int)).toNat < ns.length := by
    rw [nI_len] at b1 b2 ⊢
    omega
  refine ⟨ns[(z % ((nI ns).length : Int)).toNat], List.getElem_mem hj, ?_⟩
  exact at_of (j := (z % ((nI ns).length : Int)).toNat) (Int.toNat_of_nonneg b1).symm (nI_get (List.getElem?_eq_getElem hj))
section
variable {P : Program} {w : World} {K : PySem.W.Frag} {mg : Str → Option Value} {base : Heap} {Y O : Addr}
def spDrawn : Sp := fun vs H Q _ => ∃ (m hg dg : Addr) (fm : List Form) (hs ds : List Int), vs = [.ref m, .ref hg, .ref dg, .int 8] ∧ ModelAt H [] m fm ∧ H hg = some (.lst (hs.map V.int)) ∧ hs.length = fm.length ∧ hs[0]? = some 0 ∧
  H dg = some (.lst (ds.map V.int)) ∧ ds.length = 12 ∧ Good fm ∧ fm.length ≤ 100 ∧
  ∀ (H' : Hp) (t al ar : Addr) (ls rs : List Nat), Same H H' → H' t = some (.tup [.ref al, .ref ar]) → H' al = some (.lst (nI ls)) → H' ar = some (.lst (nI rs)) → (∀ k ∈ ls, k < fm.length) → (∀ k ∈ rs, k < fm.length) → Q (.ref t) H'
theorem scDrawn : FnScope ["_law_model", "_law_heights", "_law_digits_here", "_law_most", "_law_pool", "_law_lefts", "_law_rights", "_law_base", "_law_k"] ["_law_model", "_law_heights", "_law_digits_here", "_law_most"] (defScope sDrawn) := ⟨rfl, rfl, rfl, by decide +kernel, rfl, by decide +kernel, by decide +kernel⟩
/-- the drawn list, an item a turn -/
def tePick (K : PySem.W.Frag) (c : Int) : TE := tOp (rIxL K) (tVar 4) (tOp (rI (fun _ j => 0 < j) fun i j => .int (i % j)) (tCB rInt1 (tCons (tOp (rIxL K) (tVar 2) (tOp (rI0 fun i j => .int (i + j)) (tC (.int c)) (tVar 8))) tNil)) (tCB (rLenL K) (tCons (tVar 4) tNil)))
theorem ok_drawn {f : Addr} {fd : FuncData} (D : DefD K mg "_law_drawn" sDrawn ["_law_model", "_law_heights", "_law_digits_here", "_law_most"] f fd) (T : Txt K mg Y O) : FnOk P w K mg base CX0 1 f fd ["_law_model", "_law_heights", "_law_digits_here", "_law_most"] spDrawn := by
  refine D.F.ok scDrawn (fun vs H Q E h => ?_) (fun cdv A outer s H vs Q E hr h => ?_)
  · obtain ⟨m, hg, dg, fm, hs, ds, rfl, _⟩ := h
    rfl
  · obtain ⟨m, hg, dg, fm, hs, ds, rfl, md, hh, hl, h0, hd, hd12, good, h100, k⟩ := h
    refine ⟨_, pss_cons (ps_set (i := 4) scDrawn.nd rfl (Or.inr rfl) (pe_lc (own := [("_law_k", 8)]) (g := gName 8) (tt := tTest (tOp (rI0 fun i j => .bl (decide (i < j))) (tOp (rIxL K) (tVar 1) (tVar 8)) (tVar 3))) (te := tVar 8) rfl scDrawn.nd
          (pi_range1 (by rfl) T.range (pa_cons (pe_callB cr_lenL (by rfl) T.len PySem.boot_len (pa_cons (pv 0) pa_nil)) pa_nil))
          (blkOk_by (N := ["_law_model", "_law_heights", "_law_digits_here", "_law_most", "_law_pool", "_law_lefts", "_law_rights", "_law_base", "_law_k"]) (sc := defScope sDrawn) (by decide +kernel)) (fun _ _ _ _ _ => pg_name (i := 8) scDrawn.nd rfl (Or.inl rfl))
          (fun _ _ _ _ _ => pts_one (pt_cmpR op_lt (pe_ix ix_list (pv 1) (pv 8) (fun _ _ => rfl)) (pv 3) (nomark _))) (fun _ _ _ _ _ => pv 8)))
      (C8.pss_cut (ps_if (pt_cmpR op_eq (pe_op op_mod (pe_callTy cr_int (by rfl) T.int PyProof.Rows.boot_int (pa_cons (pe_ix ix_list (pv 2) pe_int (fun _ _ => rfl)) pa_nil)) pe_int) pe_int (nomark _))
          (pss_one (ps_set (i := 4) scDrawn.nd rfl (Or.inr rfl) (pe_slice sl_list (pv 4) (po_some (pe_un un_neg pe_int)) po_none))) pss_nil)
      (pss_cons (ps_setLc (i := 5) (own := [("_law_k", 8)]) (g := gName 8) (tt := tYes) (te := tePick K 1) rfl scDrawn.nd rfl rfl (sw_true rfl rfl rfl (by decide +kernel))
          (pi_range1 (by rfl) T.range (pa_cons (pe_op op_mod (pe_callTy cr_int (by rfl) T.int PyProof.Rows.boot_int (pa_cons (pe_ix ix_list (pv 2) pe_int (fun _ _ => rfl)) pa_nil)) pe_int) pa_nil))
          (blkOk_by (N := ["_law_model", "_law_heights", "_law_digits_here", "_law_most", "_law_pool", "_law_lefts", "_law_rights", "_law_base", "_law_k"]) (sc := defScope sDrawn) (by decide +kernel)) (fun _ _ _ _ _ => pg_name (i := 8) scDrawn.nd rfl (Or.inl rfl)) (fun _ _ _ _ _ => pts_nil)
          (fun _ _ _ _ _ => pe_ix ix_list (pv 4) (pe_op op_mod (pe_callTy cr_int (by rfl) T.int PyProof.Rows.boot_int (pa_cons (pe_ix ix_list (pv 2) (pe_op op_add pe_int (pv 8)) (fun _ _ => rfl)) pa_nil)) (pe_callB cr_lenL (by rfl) T.len PySem.boot_len (pa_cons (pv 4) pa_nil))) (fun _ _ => rfl)))
      (pss_cons (ps_setLc (i := 6) (own := [("_law_k", 8)]) (g := gName 8) (tt := tYes) (te := tePick K 6) rfl scDrawn.nd rfl rfl (sw_true rfl rfl rfl (by decide +kernel))
          (pi_range1 (by rfl) T.range (pa_cons (pe_op op_mod (pe_callTy cr_int (by rfl) T.int PyProof.Rows.boot_int (pa_cons (pe_ix ix_list (pv 2) pe_int (fun _ _ => rfl)) pa_nil)) pe_int) pa_nil))
          (blkOk_by (N := ["_law_model", "_law_heights", "_law_digits_here", "_law_most", "_law_pool", "_law_lefts", "_law_rights", "_law_base", "_law_k"]) (sc := defScope sDrawn) (by decide +kernel)) (fun _ _ _ _ _ => pg_name (i := 8) scDrawn.nd rfl (Or.inl rfl)) (fun _ _ _ _ _ => pts_nil)
          (fun _ _ _ _ _ => pe_ix ix_list (pv 4) (pe_op op_mod (pe_callTy cr_int (by rfl) T.int PyProof.Rows.boot_int (pa_cons (pe_ix ix_list (pv 2) (pe_op op_add pe_int (pv 8)) (fun _ _ => rfl)) pa_nil)) (pe_callB cr_lenL (by rfl) T.len PySem.boot_len (pa_cons (pv 4) pa_nil))) (fun _ _ => rfl)))
      (pss_cons (ps_set (i := 7) scDrawn.nd rfl (Or.inl rfl) (pe_ix ix_list (pv 0) (pe_op op_mod (pe_callTy cr_int (by rfl) T.int PyProof.Rows.boot_int (pa_cons (pe_ix ix_list (pv 2) pe_int (fun _ _ => rfl)) pa_nil)) (pe_callB cr_lenL (by rfl) T.len PySem.boot_len (pa_cons (pv 0) pa_nil))) (fun _ _ => rfl)))
      (pss_cons (ps_if (pt_cmpR op_eq (pe_op op_mod (pe_op op_fdiv (pe_ix ix_list (pv 2) pe_int (fun _ _ => rfl)) pe_int) pe_int) pe_int (nomark _))
          (pss_one (ps_ret (pe_tup (pa_cons (pe_slice sl_list (pe_op op_cat (pe_ix ix_tup (pv 7) pe_int (fun _ _ => rfl)) (pe_slice sl_list (pv 5) po_none (po_some pe_int))) (po_some (pe_un un_neg pe_int)) po_none) (pa_cons (pe_ix ix_tup (pv 7) pe_int (fun _ _ => rfl)) pa_nil))))) pss_nil)
      (pss_cons (ps_if (pt_cmpR op_eq (pe_op op_mod (pe_op op_fdiv (pe_ix ix_list (pv 2) pe_int (fun _ _ => rfl)) pe_int) pe_int) pe_int (nomark _))
          (pss_one (ps_ret (pe_tup (pa_cons (pe_ix ix_tup (pv 7) pe_int (fun _ _ => rfl)) (pa_cons (pe_slice sl_list (pe_op op_cat (pe_ix ix_tup (pv 7) pe_int (fun _ _ => rfl)) (pe_slice sl_list (pv 6) po_none (po_some pe_int))) (po_some (pe_un un_neg pe_int)) po_none) pa_nil))))) pss_nil)
      (pss_one (ps_ret (pe_tup (pa_cons (pv 5) (pa_cons (pv 6) pa_nil))))))))))), ?_⟩
    obtain ⟨z0, d0⟩ := ints_at hd12 0 (by decide)
    obtain ⟨z5, d5⟩ := ints_at hd12 5 (by decide)
    obtain ⟨z10, d10⟩ := ints_at hd12 10 (by decide)
    obtain ⟨z11, d11⟩ := ints_at hd12 11 (by decide)
    obtain ⟨ts, hm, _, hF⟩ := md.ex
    have tl : (ts.map V.ref).length = fm.length := by rw [List.length_map, hF.1]
    have hb1 : -(2 ^ 62) ≤ (((ts.map V.ref).length : Nat) : Int) := by omega
    have hb2 : (((ts.map V.ref).length : Nat) : Int) < 2 ^ 62 := by omega
    have hpos := good.len
    -- the pool
    refine ⟨_, rfl, m, _, rfl, SqL.of hm, _, rfl, hb1, hb2, fun D1 nD1 => ?_⟩
    rw [Int.toNat_natCast, tl]
    have dn : ∀ {b : Addr} {u : HO}, H b = some u → b ≠ D1 := fun {b u} e => ne_of_none e nD1
    refine lc_range (lo := 0) (n := fm.length) (fun t H' => ∃ ps : List Nat, H' = upd H D1 (.lst (nI ps)) ∧ ps.length ≤ t ∧ (∀ q ∈ ps, q < fm.length) ∧ (0 < t → ps ≠ [])) ⟨[], rfl, Nat.le_refl _, by simp, fun h => absurd h (Nat.lt_irrefl _)⟩ ?_ ?_
    · rintro t H' ht ⟨ps, rfl, hpl, hpm, hpn⟩
      have hlt : t < hs.length := by rw [hl]; exact ht
      refine ⟨rfl, _, rfl, _, rfl, hg, _, _, _, rfl, rfl, SqL.of (by rw [upd_ne (dn hh)]; exact hh), at_of (j := t) (v := .int hs[t]) (Int.zero_add _) (by rw [List.getElem?_map, List.getElem?_eq_getElem hlt] <;> rfl), _, rfl, _, _, rfl, rfl, _, rfl, ?_⟩
      refine ite2 (fun _ => ?_) (fun c => ?_)
      · refine ⟨_, rfl, _, upd_same, by rw [nI_len]; exact small1000 (by omega), ps ++ [t], by rw [upd_upd, Int.zero_add, nI_snoc], by rw [List.length_append]; exact Nat.succ_le_succ hpl, fun q hq => ?_, fun _ e => by simp at e⟩
        rcases List.mem_append.mp hq with z | z
        · exact hpm q z
        · rw [List.mem_singleton.mp z]; exact ht
      · refine ⟨ps, rfl, by omega, hpm, fun _ => ?_⟩
        by_cases h0t : 0 < t
        · exact hpn h0t
        · have e0 : t = 0 := by omega
          subst e0
          have e1 : hs[0] = 0 := by
            rw [List.getElem?_eq_getElem hlt] at h0
            exact Option.some.inj h0
          exact absurd (decide_eq_true (show hs[0] < (8 : Int) by rw [e1]; decide)) c
    rintro H1 ⟨ps, rfl, hpl, hpm, hpn⟩
    have s1 : Same H (upd H D1 (.lst (nI ps))) := same_new nD1 _
    have e1 : (upd H D1 (.lst (nI ps))) D1 = some (.lst (nI ps)) := upd_same
    generalize upd H D1 (.lst (nI ps)) = G1 at s1 e1 ⊢
    have hne := hpn hpos
    -- if .. == 1: the last three of it
    refine ⟨fun σ G => ∃ (pl : Addr) (qs : List Nat), σ = [some (.ref m), some (.ref hg), some (.ref dg), some (.int 8), some (.ref pl), none, none, none, none] ∧ Same H G ∧ G pl = some (.lst (nI qs)) ∧ qs ≠ [] ∧ ∀ q ∈ qs, q < fm.length, ?_, ?_⟩
    · refine ⟨_, rfl, dg, _, _, _, rfl, rfl, SqL.of (s1 _ _ hd), atI_nat (j := 10) d10, _, rfl, _, _, rfl, rfl, (by show (0 : Int) < 3; decide), rfl, _, rfl, ?_⟩
      refine ite2 (fun _ => ?_) (fun _ => ?_)
      · refine ⟨_, rfl, _, rfl, _, rfl, D1, _, rfl, SqL.of e1, fun p np => ?_⟩
        obtain ⟨ms, em, hms, hmn⟩ := cut_last ps hne
        exact ⟨p, ms, rfl, s1.trans (same_new np _), by rw [upd_same]; exact congrArg (fun l => some (HO.lst l)) em, hmn, fun q hq => hpm q (hms q hq)⟩
      · exact ⟨D1, ps, rfl, s1, e1, hne, hpm⟩
    rintro σ G ⟨pl, qs, rfl, sG, eG, hqn, hqm⟩
    -- the two draws
    have r0 : 0 ≤ z0 % 5 := Int.emod_nonneg _ (by decide)
    have r0' : z0 % 5 < 5 := Int.emod_lt_of_pos _ (by decide)
    have r5 : 0 ≤ z5 % 5 := Int.emod_nonneg _ (by decide)
    have r5' : z5 % 5 < 5 := Int.emod_lt_of_pos _ (by decide)
    refine ⟨_, rfl, dg, _, _, _, rfl, rfl, SqL.of (sG _ _ hd), atI_nat (j := 0) d0, _, rfl, _, _, rfl, rfl, (by show (0 : Int) < 5; decide), _, rfl, by omega, by omega, fun D2 nD2 => ?_⟩
    have dn2 : ∀ {b : Addr} {u : HO}, G b = some u → b ≠ D2 := fun {b u} e => ne_of_none e nD2
    refine lc_range (lo := 0) (n := (z0 % 5).toNat) (fun t H' => ∃ ks : List Nat, H' = upd G D2 (.lst (nI ks)) ∧ ks.length = t ∧ ∀ q ∈ ks, q < fm.length) ⟨[], rfl, rfl, by simp⟩ ?_ ?_
    · rintro t H' ht ⟨ks, rfl, hkl, hkm⟩
      obtain ⟨zt, dt⟩ := ints_at hd12 (1 + t) (by omega)
      obtain ⟨hp, q, hq, hat⟩ := pick_at zt hqn
      refine ⟨rfl, ?_⟩
      refine ⟨_, rfl, _, rfl, _, rfl, _, _, rfl, rfl, dg, _, _, _, rfl, rfl, SqL.of (by rw [upd_ne (dn2 (sG _ _ hd))]; exact sG _ _ hd), at_of (j := 1 + t) (by omega) dt, _, rfl, _, rfl, pl, _, rfl, SqL.of (by rw [upd_ne (dn2 eG)]; exact eG), _, _, rfl, rfl, hp, pl, _, _, _, rfl, rfl, SqL.of (by rw [upd_ne (dn2 eG)]; exact eG), hat, _, upd_same, by rw [nI_len]; exact small1000 (by omega), ks ++ [q], by rw [upd_upd, nI_snoc], by rw [List.length_append, hkl] <;> rfl, fun x hx => ?_⟩
      rcases List.mem_append.mp hx with z | z
      · exact hkm x z
      · rw [List.mem_singleton.mp z]; exact hqm q hq
    rintro H2 ⟨ls, rfl, _, hls⟩
    have s2 : Same G (upd G D2 (.lst (nI ls))) := same_new nD2 _
    have e2 : (upd G D2 (.lst (nI ls))) D2 = some (.lst (nI ls)) := upd_same
    generalize upd G D2 (.lst (nI ls)) = G2 at s2 e2 ⊢
    have sG2 := sG.trans s2
    refine ⟨_, rfl, dg, _, _, _, rfl, rfl, SqL.of (sG2 _ _ hd), atI_nat (j := 5) d5, _, rfl, _, _, rfl, rfl, (by show (0 : Int) < 5; decide), _, rfl, by omega, by omega, fun D3 nD3 => ?_⟩
    have dn3 : ∀ {b : Addr} {u : HO}, G2 b = some u → b ≠ D3 := fun {b u} e => ne_of_none e nD3
    have eG2 := s2 _ _ eG
    refine lc_range (lo := 0) (n := (z5 % 5).toNat) (fun t H' => ∃ ks : List Nat, H' = upd G2 D3 (.lst (nI ks)) ∧ ks.length = t ∧ ∀ q ∈ ks, q < fm.length) ⟨[], rfl, rfl, by simp⟩ ?_ ?_
    · rintro t H' ht ⟨ks, rfl, hkl, hkm⟩
      obtain ⟨zt, dt⟩ := ints_at hd12 (6 + t) (by omega)
      obtain ⟨hp, q, hq, hat⟩ := pick_at zt hqn
      refine ⟨rfl, ?_⟩
      refine ⟨_, rfl, _, rfl, _, rfl, _, _, rfl, rfl, dg, _, _, _, rfl, rfl, SqL.of (by rw [upd_ne (dn3 (sG2 _ _ hd))]; exact sG2 _ _ hd), at_of (j := 6 + t) (by omega) dt, _, rfl, _, rfl, pl, _, rfl, SqL.of (by rw [upd_ne (dn3 eG2)]; exact eG2), _, _, rfl, rfl, hp, pl, _, _, _, rfl, rfl, SqL.of (by rw [upd_ne (dn3 eG2)]; exact eG2), hat, _, upd_same, by rw [nI_len]; exact small1000 (by omega), ks ++ [q], by rw [upd_upd, nI_snoc], by rw [List.length_append, hkl] <;> rfl, fun x hx => ?_⟩
      rcases List.mem_append.mp hx with z | z
      · exact hkm x z
      · rw [List.mem_singleton.mp z]; exact hqm q hq
    rintro H3 ⟨rs, rfl, _, hrs⟩
    have s3 : Same G2 (upd G2 D3 (.lst (nI rs))) := same_new nD3 _
    have e3 : (upd G2 D3 (.lst (nI rs))) D3 = some (.lst (nI rs)) := upd_same
    generalize upd G2 D3 (.lst (nI rs)) = G3 at s3 e3 ⊢
    have sG3 := sG2.trans s3
    have e23 := s3 _ _ e2
    -- _law_base
    have tpos : (0 : Int) < ((ts.map V.ref).length : Int) := by rw [tl]; omega
    have b1 := Int.emod_nonneg z11 (show ((ts.map V.ref).length : Int) ≠ 0 by omega)
    have b2 := Int.emod_lt_of_pos z11 tpos
    have hbi : (z11 % ((ts.map V.ref).length : Int)).toNat < fm.length := by
      rw [tl] at b1 b2 ⊢
      omega
    obtain ⟨bi, hbie⟩ : ∃ bi, bi = (z11 % ((ts.map V.ref).length : Int)).toNat := ⟨_, rfl⟩
    rw [← hbie] at hbi
    have hf : fm[bi]? = some fm[bi] := List.getElem?_eq_getElem hbi
    have hts : bi < ts.length := by rw [hF.1]; exact hbi
    obtain ⟨la, ra, q1, q2, q3, _⟩ := (hF.2 bi ts[bi] fm[bi] (List.getElem?_eq_getElem hts) hf).ex
    have hw1 : ∀ x ∈ fm[bi].1, x < fm.length := fun x hx => Nat.lt_trans (good.wf bi false x (by rw [opts_of hf]; exact hx)) hbi
    have hw2 : ∀ x ∈ fm[bi].2, x < fm.length := fun x hx => Nat.lt_trans (good.wf bi true x (by rw [opts_of hf]; exact hx)) hbi
    have l1 : fm[bi].1.length ≤ fm.length := asc_len (good.asc _ (List.getElem_mem hbi)).1 hw1
    have l2 : fm[bi].2.length ≤ fm.length := asc_len (good.asc _ (List.getElem_mem hbi)).2 hw2
    refine ⟨_, rfl, _, rfl, dg, _, _, _, rfl, rfl, SqL.of (sG3 _ _ hd), atI_nat (j := 11) d11, _, rfl, _, rfl, m, _, rfl, SqL.of (sG3 _ _ hm), _, _, rfl, rfl, tpos, m, _, _, _, rfl, rfl, SqL.of (sG3 _ _ hm), at_of (j := bi) (v := .ref ts[bi]) (by rw [hbie]; exact (Int.toNat_of_nonneg b1).symm) (by rw [List.getElem?_map, List.getElem?_eq_getElem hts] <;> rfl), ?_⟩
    have g1 := sG3 _ _ q1
    have g2 := sG3 _ _ q2
    have g3 := sG3 _ _ q3
    -- if .. == 1: return ((base[0] + lefts[:1])[-4:], base[1])
    refine ⟨_, rfl, dg, _, _, _, rfl, rfl, SqL.of (sG3 _ _ hd), atI_nat (j := 10) d10, _, _, rfl, rfl, ⟨by decide, by decide⟩, _, _, rfl, rfl, (by show (0 : Int) < 4; decide), rfl, _, rfl, ?_⟩
    refine ite2 (fun _ => ?_) (fun _ => ?_)
    · obtain ⟨c1, ec1, hc1⟩ := cut_sub ls none (some 1)
      refine ⟨_, rfl, _, _, 0, _, rfl, rfl, SqT.of g1, rfl, _, rfl, _, rfl, D2, _, rfl, SqL.of e23, fun p1 n1 => ?_⟩
      rw [ec1]
      have s4 := same_new n1 (.lst (nI c1))
      refine ⟨la, p1, _, _, rfl, rfl, s4 _ _ g2, upd_same, ?_, fun p2 n2 => ?_⟩
      · have := cutV_length (nI ls) none (some 1)
        rw [ec1, nI_len, nI_len] at this
        have h5 : ls.length ≤ 100 := by omega
        rw [nI_len, nI_len, sizeLine_eq]
        omega
      rw [nI_app]
      have s5 := s4.trans (same_new n2 (.lst (nI (fm[bi].1 ++ c1))))
      obtain ⟨c2, ec2, hc2⟩ := cut_sub (fm[bi].1 ++ c1) (some (-4)) none
      refine ⟨_, rfl, _, rfl, p2, _, rfl, SqL.of upd_same, fun p3 n3 => ?_⟩
      have ec2' : cutV (nI (fm[bi].1 ++ c1)) (some (-4)) none = nI c2 := ec2
      show tCons _ _ _ (upd _ p3 (.lst (cutV (nI (fm[bi].1 ++ c1)) (some (-4)) none))) _
      rw [ec2']
      have s6 := s5.trans (same_new n3 (.lst (nI c2)))
      refine ⟨_, rfl, _, _, 1, _, rfl, rfl, SqT.of (s6 _ _ g1), rfl, (by show 2 ≤ sizeLine; decide), fun p4 n4 => ?_⟩
      refine k _ p4 p3 ra c2 fm[bi].2 (sG3.trans (s6.trans (same_new n4 _))) upd_same (by rw [upd_ne (ne_of_none upd_same n4), upd_same]) ((same_new n4 _) _ _ (s6 _ _ g3)) (fun x hx => ?_) hw2
      rcases List.mem_append.mp (hc2 x hx) with z | z
      · exact hw1 x z
      · exact hls x (hc1 x z)
    refine ⟨_, rfl, dg, _, _, _, rfl, rfl, SqL.of (sG3 _ _ hd), atI_nat (j := 10) d10, _, _, rfl, rfl, ⟨by decide, by decide⟩, _, _, rfl, rfl, (by show (0 : Int) < 4; decide), rfl, _, rfl, ?_⟩
    refine ite2 (fun _ => ?_) (fun _ => ?_)
    · obtain ⟨c1, ec1, hc1⟩ := cut_sub rs none (some 1)
      refine ⟨_, rfl, _, _, 0, _, rfl, rfl, SqT.of g1, rfl, _, rfl, _, _, 1, _, rfl, rfl, SqT.of g1, rfl, _, rfl, _, rfl, D3, _, rfl, SqL.of e3, fun p1 n1 => ?_⟩
      rw [ec1]
      have s4 := same_new n1 (.lst (nI c1))
      refine ⟨ra, p1, _, _, rfl, rfl, s4 _ _ g3, upd_same, ?_, fun p2 n2 => ?_⟩
      · have := cutV_length (nI rs) none (some 1)
        rw [ec1, nI_len, nI_len] at this
        have h5 : rs.length ≤ 100 := by omega
        rw [nI_len, nI_len, sizeLine_eq]
        omega
      rw [nI_app]
      have s5 := s4.trans (same_new n2 (.lst (nI (fm[bi].2 ++ c1))))
      obtain ⟨c2, ec2, hc2⟩ := cut_sub (fm[bi].2 ++ c1) (some (-4)) none
      refine ⟨_, rfl, _, rfl, p2, _, rfl, SqL.of upd_same, fun p3 n3 => ?_⟩
      have ec2' : cutV (nI (fm[bi].2 ++ c1)) (some (-4)) none = nI c2 := ec2
      refine ⟨(by show 2 ≤ sizeLine; decide), fun p4 n4 => ?_⟩
      have s6 := s5.trans (same_new n3 (.lst (cutV (nI (fm[bi].2 ++ c1)) (some (-4)) none)))
      refine k _ p4 la p3 fm[bi].1 c2 (sG3.trans (s6.trans (same_new n4 _))) upd_same ((same_new n4 _) _ _ (s6 _ _ g2)) (by rw [upd_ne (ne_of_none upd_same n4), upd_same, ec2']) hw1 (fun x hx => ?_)
      rcases List.mem_append.mp (hc2 x hx) with z | z
      · exact hw2 x z
      · exact hrs x (hc1 x z)
    · refine ⟨_, rfl, _, rfl, (by show 2 ≤ sizeLine; decide), fun p4 n4 => ?_⟩
      exact k _ p4 D2 D3 ls rs (sG3.trans (same_new n4 _)) upd_same ((same_new n4 _) _ _ e23) ((same_new n4 _) _ _ e3) hls hrs
end
end K20
set_option Elab.async false
set_option linter.all false
set_option maxRecDepth 100000
set_option maxHeartbeats 4000000
/-! KLawD: the family; the yard built; plain play. -/
namespace K20
open PySem L2
theorem seq_keep {K : PySem.W.Frag} {H H' : Hp} {a : Addr} {xs : List V} {S : List Addr} (k : Keep S H H') (h : SqL K H a xs) (n : a ∉ S) : SqL K H' a xs := by
  rcases h with (h | ⟨o, h⟩) | h
  · exact .inl (.inl (k _ _ h n))
  · exact .inl (.inr ⟨o, k _ _ h n⟩)
  · exact .inr h
/-- what was new at the start may have been changed -/
theorem same_over {H G G' : Hp} {S : List Addr} (s : Same H G) (k : Keep S G G') (n : ∀ a ∈ S, H a = none) : Same H G' := fun b o e => k b o (s b o e) fun m => by
  rw [n b m] at e
  cases e
section
variable {P : Program} {w : World} {K : PySem.W.Frag} {mg : Str → Option Value} {base : Heap} {Y O : Addr}
def spFamily (K : PySem.W.Frag) : Sp := fun vs H Q _ => ∃ (a : Addr) (ns : List Int) (c : Nat) (S : List Addr), vs = [.ref a, .int 1, .int (c : Int), .int 8] ∧ SqL K H a (ns.map V.int) ∧ c ≤ 23 ∧ Live S H ∧
  ∀ (H' : Hp) (t m hg : Addr) (fm : List Form), Same H H' → H' t = some (.tup [.ref m, .ref hg]) → ModelAt H' S m fm → Good fm → fm.length ≤ 24 → Q (.ref t) H'
theorem scFam : FnScope ["_law_script", "_law_first", "_law_count_here", "_law_most", "_law_model", "_law_heights", "_law_k", "_law_drawn_here"] ["_law_script", "_law_first", "_law_count_here", "_law_most"] (defScope sFamily) := ⟨rfl, rfl, rfl, by decide +kernel, rfl, by decide +kernel, by decide +kernel⟩
theorem ok_family {f fc fd fp fr : Addr} {gd gc gdg gp gr : FuncData} (D : DefD K mg "_law_family" sFamily ["_law_script", "_law_first", "_law_count_here", "_law_most"] f gd) (T : Txt K mg Y O)
    (DC : DefD K mg "_law_cell" sCell ["_law_script", "_law_k"] fc gc) (DG : DefD K mg "_law_digits" sDigits ["_law_cell_here", "_law_count_here"] fd gdg)
    (DP : DefD K mg "_law_put" sPut ["_law_model", "_law_heights", "_law_lefts", "_law_rights"] fp gp) (DR : DefD K mg "_law_drawn" sDrawn ["_law_model", "_law_heights", "_law_digits_here", "_law_most"] fr gr) :
    FnOk P w K mg base CX0 2 f gd ["_law_script", "_law_first", "_law_count_here", "_law_most"] (spFamily K) := by
  have GC : FnOk P w K mg base CX0 1 fc gc ["_law_script", "_law_k"] (spCell K) := ok_cell DC T
  have GG : FnOk P w K mg base CX0 1 fd gdg ["_law_cell_here", "_law_count_here"] spDigits := ok_digits DG T
  have GP : FnOk P w K mg base CX0 1 fp gp ["_law_model", "_law_heights", "_law_lefts", "_law_rights"] spPut := ok_put DP T
  have GR : FnOk P w K mg base CX0 1 fr gr ["_law_model", "_law_heights", "_law_digits_here", "_law_most"] spDrawn := ok_drawn DR T
  refine D.F.ok scFam (fun vs H Q E h => ?_) (fun cdv A outer s H vs Q E hr h => ?_)
  · obtain ⟨a, ns, c, S, rfl, _⟩ := h
    rfl
  · obtain ⟨a, ns, c, S, rfl, hS, hc, live, k⟩ := h
    refine ⟨_, pss_cons (ps_set (i := 4) scFam.nd rfl (Or.inl rfl) (pe_lst (pa_cons (pe_tup (pa_cons (pe_lst pa_nil) (pa_cons (pe_lst pa_nil) pa_nil))) pa_nil)))
      (pss_cons (ps_set (i := 5) scFam.nd rfl (Or.inl rfl) (pe_lst (pa_cons pe_int pa_nil)))
      (pss_cons (ps_for PassesOwn.never rfl (pi_range1 (by rfl) T.range (pa_cons (pv 2) pa_nil)) (pg_name (i := 6) scFam.nd rfl (Or.inl rfl))
        (pss_cons (ps_set (i := 7) scFam.nd rfl (Or.inl rfl) (pe_call GR hr (by rfl) DR.m DR.F.kp DR.b .nil pass0 (pa_cons (pv 4) (pa_cons (pv 5) (pa_cons (pe_call GG hr (by rfl) DG.m DG.F.kp DG.b .nil pass0
            (pa_cons (pe_call GC hr (by rfl) DC.m DC.F.kp DC.b .nil pass0 (pa_cons (pv 0) (pa_cons (pe_op op_add (pv 1) (pv 6)) pa_nil))) (pa_cons pe_int pa_nil))) (pa_cons (pv 3) pa_nil))))))
        (pss_one (ps_expr (pe_call GP hr (by rfl) DP.m DP.F.kp DP.b .nil pass0 (pa_cons (pv 4) (pa_cons (pv 5) (pa_cons (pe_ix ix_tup (pv 7) pe_int (fun _ _ => rfl)) (pa_cons (pe_ix ix_tup (pv 7) pe_int (fun _ _ => rfl)) pa_nil)))))))))
      (pss_one (ps_ret (pe_tup (pa_cons (pv 4) (pa_cons (pv 5) pa_nil))))))), ?_⟩
    -- _law_model = [([], [])]; _law_heights = [0]
    refine ⟨Nat.zero_le _, fun la nla => ⟨Nat.zero_le _, fun ra nra => ⟨(by show 2 ≤ sizeLine; decide), fun t0 nt0 => ⟨(by show 1 ≤ sizeLine; decide), fun m nm => ?_⟩⟩⟩⟩
    have s1 := same_new nla (.lst [])
    have s2 := s1.trans (same_new nra (.lst []))
    have s3 := s2.trans (same_new nt0 (.tup [.ref la, .ref ra]))
    have s4 := s3.trans (same_new nm (.lst [.ref t0]))
    have x1 : (upd (upd (upd (upd H la (.lst [])) ra (.lst [])) t0 (.tup [.ref la, .ref ra])) m (.lst [.ref t0])) la = some (.lst []) := (same_new nm _) _ _ ((same_new nt0 _) _ _ ((same_new nra _) _ _ upd_same))
    have x2 : (upd (upd (upd (upd H la (.lst [])) ra (.lst [])) t0 (.tup [.ref la, .ref ra])) m (.lst [.ref t0])) ra = some (.lst []) := (same_new nm _) _ _ ((same_new nt0 _) _ _ upd_same)
    have x3 : (upd (upd (upd (upd H la (.lst [])) ra (.lst [])) t0 (.tup [.ref la, .ref ra])) m (.lst [.ref t0])) t0 = some (.tup [.ref la, .ref ra]) := (same_new nm _) _ _ upd_same
    have x4 : (upd (upd (upd (upd H la (.lst [])) ra (.lst [])) t0 (.tup [.ref la, .ref ra])) m (.lst [.ref t0])) m = some (.lst [.ref t0]) := upd_same
    have lam : la ≠ m := ne_of_none ((same_new nt0 _) _ _ ((same_new nra _) _ _ upd_same)) nm
    have ram : ra ≠ m := ne_of_none ((same_new nt0 _) _ _ upd_same) nm
    have hla : H la = none := nla
    have hra : H ra = none := s1.free nra
    have hm0 : H m = none := s3.free nm
    generalize upd (upd (upd (upd H la (.lst [])) ra (.lst [])) t0 (.tup [.ref la, .ref ra])) m (.lst [.ref t0]) = G1 at s4 x1 x2 x3 x4 ⊢
    refine ⟨(by show 1 ≤ sizeLine; decide), fun hg nhg => ?_⟩
    have s5 := s4.trans (same_new nhg (.lst [.int 0]))
    have y1 := (same_new nhg (.lst [.int 0])) _ _ x1
    have y2 := (same_new nhg (.lst [.int 0])) _ _ x2
    have y3 := (same_new nhg (.lst [.int 0])) _ _ x3
    have y4 := (same_new nhg (.lst [.int 0])) _ _ x4
    have y5 : (upd G1 hg (.lst [.int 0])) hg = some (.lst [.int 0]) := upd_same
    have lah : la ≠ hg := ne_of_none x1 nhg
    have rah : ra ≠ hg := ne_of_none x2 nhg
    have mh : m ≠ hg := ne_of_none x4 nhg
    have hh0 : H hg = none := s4.free nhg
    generalize upd G1 hg (.lst [.int 0]) = G2 at s5 y1 y2 y3 y4 y5 ⊢
    have inS : ∀ {b : Addr}, b ≠ m → b ≠ hg → H b = none → b ∉ m :: hg :: S := fun {b} n1 n2 n3 q => by
      rcases List.mem_cons.mp q with z | q
      · exact n1 z
      · rcases List.mem_cons.mp q with z | q
        · exact n2 z
        · exact live.fresh n3 q
    have F0 : FormsAt G2 (m :: hg :: S) [t0] [([], [])] := by
      refine ⟨rfl, fun i t f e1 e2 => ?_⟩
      cases i with
      | zero =>
        have ea : t0 = t := Option.some.inj e1
        have eb : (([], []) : Form) = f := Option.some.inj e2
        rw [← ea, ← eb]
        exact ⟨la, ra, y3, y1, y2, inS lam lah hla, inS ram rah hra⟩
      | succ i => cases e1
    have newS : ∀ x ∈ [m, hg], H x = none := fun x hx => by
      rcases List.mem_cons.mp hx with z | z
      · rw [z]; exact hm0
      · rw [List.mem_singleton.mp z]; exact hh0
    -- for _law_k in range(_law_count_here)
    refine ⟨_, rfl, _, rfl, by omega, by omega, ?_⟩
    rw [Int.toNat_natCast]
    refine for_range (lo := 0) (n := c) (fun i σ G => ∃ (ts : List Addr) (fm : List Form) (hs : List Int) (v1 v2 : Option V), σ = [some (.ref a), some (.int 1), some (.int (c : Int)), some (.int 8), some (.ref m), some (.ref hg), v1, v2] ∧ Same H G ∧
        G m = some (.lst (ts.map V.ref)) ∧ FormsAt G (m :: hg :: S) ts fm ∧ G hg = some (.lst (hs.map V.int)) ∧ hs.length = fm.length ∧ hs[0]? = some 0 ∧ Good fm ∧ fm.length ≤ i + 1)
      ⟨[t0], [([], [])], [0], none, none, rfl, s5, y4, F0, y5, rfl, rfl, Good.one, Nat.le_refl _⟩ ?_ ?_
    · rintro i σ G hi ⟨ts, fm, hs, v1, v2, rfl, sG, gm, gF, gh, hl, h0, good, hlen⟩
      -- the cell, its digits
      refine ⟨_, rfl, _, rfl, _, rfl, _, rfl, _, rfl, _, _, rfl, rfl, a, ns, 1 + i, by rw [Int.zero_add] <;> rfl, sG.seq hS, by omega, fun z => ?_⟩
      refine ⟨z, 12, rfl, by decide, fun dg ds ndg hd12 => ?_⟩
      have s6 := same_new ndg (.lst (ds.map V.int))
      have d6 : (upd G dg (.lst (ds.map V.int))) dg = some (.lst (ds.map V.int)) := upd_same
      generalize upd G dg (.lst (ds.map V.int)) = G3 at s6 d6 ⊢
      have mdl : ModelAt G3 [] m fm := ⟨ts, s6 _ _ gm, by simp, (gF.same s6).sub fun a h => by cases h⟩
      refine ⟨_, rfl, m, hg, dg, fm, hs, ds, rfl, mdl, s6 _ _ gh, hl, h0, d6, hd12, good, by omega, fun G4 t al ar ls rs s7 e1 e2 e3 hls hrs => ?_⟩
      have s67 := s6.trans s7
      refine ⟨_, rfl, _, rfl, _, rfl, t, _, 0, _, rfl, rfl, SqT.of e1, rfl, _, rfl, t, _, 1, _, rfl, rfl, SqT.of e1, rfl, m, hg, al, ar, S, ts, fm, hs, ls, rs, rfl, s67 _ _ gm, gF.same s67, s67 _ _ gh, hl, mh, live.same (sG.trans s67), good, by omega, e2, e3, hls, hrs, fun G5 ts' hs' v m5 F5 h5 l5 z5 k5 => ?_⟩
      refine ⟨ts', _, hs', _, _, rfl, same_over (sG.trans s67) k5 newS, m5, F5, h5, l5, z5.trans h0, good.added hls hrs, ?_⟩
      have := added_len fm (formOf ls rs)
      omega
    rintro σ G ⟨ts, fm, hs, v1, v2, rfl, sG, gm, gF, gh, hl, h0, good, hlen⟩
    refine ⟨_, rfl, _, rfl, (by show 2 ≤ sizeLine; decide), fun t nt => ?_⟩
    have s8 := same_new nt (.tup [.ref m, .ref hg])
    refine k _ t m hg fm (sG.trans s8) upd_same ⟨ts, s8 _ _ gm, live.fresh hm0, (gF.same s8).sub fun x hx => ?_⟩ good (by omega)
    exact List.mem_cons_of_mem _ (List.mem_cons_of_mem _ hx)
end
end K20
set_option Elab.async false
set_option linter.all false
set_option maxRecDepth 100000
set_option maxHeartbeats 4000000
/-! KLawE: the yard built of a model; plain play. -/
namespace K20
open PySem L2
theorem take_snoc {α : Type} {l : List α} {i : Nat} {x : α} (h : l[i]? = some x) : l.take (i + 1) = l.take i ++ [x] := by rw [List.take_add_one, h] <;> rfl
theorem mem_take {α : Type} {l : List α} {n i : Nat} {x : α} (h : l[i]? = some x) (hi : i < n) : (l.take n)[i]? = some x := by rw [List.getElem?_take, if_pos hi]; exact h
section
variable {P : Program} {w : World} {K : PySem.W.Frag} {mg : Str → Option Value} {base : Heap} {Y O : Addr}
def spBuilt (P : Program) (w : World) (Y : Addr) : Sp := fun vs H Q _ => ∃ (y m : Addr) (L : YA) (S : List Addr) (fm : List Form), vs = [.ref y, .ref m] ∧ YardAt P w Y H y L [([], [])] ∧ ModelAt H S m fm ∧ (∀ a ∈ L.S, a ∈ S) ∧ Good fm ∧ fm.length ≤ 24 ∧
  ∀ (H' : Hp) (p : Addr), H p = none → H' p = some (.lst (nI (List.range fm.length))) → YardAt P w Y H' y L fm → Keep L.S H H' → Q (.ref p) H'
theorem scBuilt : FnScope ["_law_yard", "_law_model", "_law_numbers", "_law_form", "_law_k"] ["_law_yard", "_law_model"] (defScope sBuilt) := ⟨rfl, rfl, rfl, by decide +kernel, rfl, by decide +kernel, by decide +kernel⟩
theorem ok_built {f fg fc : Addr} {fd fdg fdc : FuncData} (D : DefD K mg "_law_built" sBuilt ["_law_yard", "_law_model"] f fd) (T : Txt K mg Y O) (DG : MethD K Y "game" "Yard.game" sGame ["self", "lefts", "rights"] fg fdg) (DC : MethD K Y "_check" "Yard._check" sCheck ["self", "game"] fc fdc) :
    FnOk P w K mg base CX0 3 f fd ["_law_yard", "_law_model"] (spBuilt P w Y) := by
  have GG : FnOk P w K mg base CX0 2 fg fdg ["self", "lefts", "rights"] (spGame P w Y) := ok_game DG T DC
  refine D.F.ok scBuilt (fun vs H Q E h => ?_) (fun cdv A outer s H vs Q E hr h => ?_)
  · obtain ⟨y, m, L, S, fm, rfl, _⟩ := h
    rfl
  · obtain ⟨y, m, L, S, fm, rfl, yd, md, hLS, good, h24, k⟩ := h
    refine ⟨_, pss_cons (ps_set (i := 2) scBuilt.nd rfl (Or.inr rfl) (pe_lst (pa_cons pe_int pa_nil)))
      (pss_cons (ps_for PassesOwn.never rfl (pi_list (pe_slice sl_list (pv 1) (po_some pe_int) po_none)) (pg_name (i := 3) scBuilt.nd rfl (Or.inl rfl))
        (pss_one (ps_expr (pe_bm PySem.F.plainAttrs_list PySem.F.slot_list_append PySem.F.type_list_append mt_append (pv 2) (pa_cons (pe_meth (pv 0) T.clY DG.m GG hr DG.b .nil pass0
          (pa_cons (pe_lc (own := [("_law_k", 4)]) (g := gName 4) (tt := tYes) (te := tOp (rIxL K) (tVar 2) (tVar 4)) rfl scBuilt.nd (pi_list (pe_ix ix_tup (pv 3) pe_int (fun _ _ => rfl)))
              (blkOk_by (N := ["_law_yard", "_law_model", "_law_numbers", "_law_form", "_law_k"]) (sc := defScope sBuilt) (by decide +kernel)) (fun _ _ _ _ _ => pg_name (i := 4) scBuilt.nd rfl (Or.inl rfl)) (fun _ _ _ _ _ => pts_nil)
              (fun _ _ _ _ _ => pe_ix ix_list (pv 2) (pv 4) (fun _ _ => rfl)))
          (pa_cons (pe_lc (own := [("_law_k", 4)]) (g := gName 4) (tt := tYes) (te := tOp (rIxL K) (tVar 2) (tVar 4)) rfl scBuilt.nd (pi_list (pe_ix ix_tup (pv 3) pe_int (fun _ _ => rfl)))
              (blkOk_by (N := ["_law_yard", "_law_model", "_law_numbers", "_law_form", "_law_k"]) (sc := defScope sBuilt) (by decide +kernel)) (fun _ _ _ _ _ => pg_name (i := 4) scBuilt.nd rfl (Or.inl rfl)) (fun _ _ _ _ _ => pts_nil)
              (fun _ _ _ _ _ => pe_ix ix_list (pv 2) (pv 4) (fun _ _ => rfl))) pa_nil))) pa_nil)))))
      (pss_one (ps_ret (pv 2)))), ?_⟩
    obtain ⟨ts, hm, _, hF⟩ := md.ex
    have hpos := good.len
    refine ⟨(by show 1 ≤ sizeLine; decide), fun nm nnm => ?_⟩
    have s1 := same_new nnm (.lst [.int 0])
    have x1 : (upd H nm (.lst [.int 0])) nm = some (.lst [.int 0]) := upd_same
    generalize upd H nm (.lst [.int 0]) = G1 at s1 x1 ⊢
    refine ⟨_, rfl, _, rfl, m, _, rfl, SqL.of (s1 _ _ hm), fun q nq => ⟨q, rfl, ⟨_, SqL.of upd_same⟩, ?_⟩⟩
    have ecut : cutV (ts.map V.ref) (some 1) none = (ts.drop 1).map V.ref := by
      unfold cutV
      have e1 : HT.sIx (ts.map V.ref).length (ts.map V.ref).length none = (ts.map V.ref).length := rfl
      have e2 : HT.sIx (ts.map V.ref).length 0 (some 1) = min 1 (ts.map V.ref).length := rfl
      have e3 : min 1 (ts.map V.ref).length = 1 := by rw [List.length_map, hF.1]; omega
      rw [e1, e2, e3, ← List.map_drop, List.take_of_length_le (by rw [List.length_map, List.length_drop, List.length_map]; exact Nat.le_refl _)]
    have ecut' : cutV (ts.map V.ref) (some ((1 : Int))) none = (ts.drop 1).map V.ref := ecut
    rw [ecut']
    have s2 := same_new nq (.lst ((ts.drop 1).map V.ref))
    have x2 : (upd G1 q (.lst ((ts.drop 1).map V.ref))) q = some (.lst ((ts.drop 1).map V.ref)) := upd_same
    have nqe : q ≠ nm := (ne_of_none x1 nq).symm
    have hq0 : H q = none := s1.free nq
    generalize upd G1 q (.lst ((ts.drop 1).map V.ref)) = B at s2 x2 ⊢
    have sB := s1.trans s2
    have live := yd.live
    have qS : q ∉ nm :: L.S := fun z => by
      rcases List.mem_cons.mp z with z | z
      · exact nqe z
      · exact live.fresh hq0 z
    refine for_list (K := K) (a := q) (xs := (ts.drop 1).map V.ref) (fun i σ G => ∃ v, σ = [some (.ref y), some (.ref m), some (.ref nm), v, none] ∧ Keep (nm :: L.S) B G ∧ G nm = some (.lst (nI (List.range (i + 1)))) ∧ YardAt P w Y G y L (fm.take (i + 1)))
      ⟨none, rfl, Keep.refl _ _, s2 _ _ x1, ?_⟩ (fun i σ G _ ⟨_, _, k1, _⟩ => SqL.of (k1 _ _ x2 qS)) ?_ ?_
    · have e : fm.take (0 + 1) = [([], [])] := by rw [take_snoc good.pos] <;> rfl
      rw [e]
      exact yd.same sB
    · rintro i x σ G hx ⟨v, rfl, kG, gN, yG⟩
      obtain ⟨t, ht, rfl⟩ : ∃ t, ts[i + 1]? = some t ∧ x = V.ref t := by
        rw [List.getElem?_map, List.getElem?_drop, Nat.add_comm] at hx
        cases e : ts[i + 1]? with
        | none => rw [e] at hx; cases hx
        | some t => rw [e] at hx; exact ⟨t, rfl, (Option.some.inj hx).symm⟩
      have hi : i + 1 < fm.length := by rw [← hF.1]; exact (List.getElem?_eq_some_iff.mp ht).1
      have hf : fm[i + 1]? = some fm[i + 1] := List.getElem?_eq_getElem hi
      obtain ⟨la, ra, q1, q2, q3, q4, q5⟩ := (hF.2 (i + 1) t fm[i + 1] ht hf).ex
      have away : ∀ {b : Addr} {u : HO}, H b = some u → b ∉ S → G b = some u := fun {b u} e n => kG _ _ (sB _ _ e) fun z => by
        rcases List.mem_cons.mp z with z | z
        · exact ne_of_none e nnm z
        · exact n (hLS _ z)
      have awayT : ∀ {b : Addr} {xs : List V}, H b = some (.tup xs) → G b = some (.tup xs) := fun {b xs} e => kG _ _ (sB _ _ e) fun z => by
        rcases List.mem_cons.mp z with z | z
        · exact ne_of_none e nnm z
        · exact yd.notin e (fun xs z => nomatch z) (fun φ z => nomatch z) z
      have g1 := awayT q1
      have g2 := away q2 q4
      have g3 := away q3 q5
      have w1 : ∀ a ∈ fm[i + 1].1, a < i + 1 := fun a ha => good.wf (i + 1) false a (by rw [opts_of hf]; exact ha)
      have w2 : ∀ a ∈ fm[i + 1].2, a < i + 1 := fun a ha => good.wf (i + 1) true a (by rw [opts_of hf]; exact ha)
      have asc := good.asc fm[i + 1] (List.getElem_mem hi)
      have l1 : fm[i + 1].1.length ≤ i + 1 := asc_len asc.1 w1
      have l2 : fm[i + 1].2.length ≤ i + 1 := asc_len asc.2 w2
      have pick : ∀ {b : Nat}, b < i + 1 → (nI (List.range (i + 1)))[b]? = some (.int (b : Int)) := fun {b} hb => nI_get (by rw [List.getElem?_range hb])
      obtain ⟨dy, gy⟩ := yG.ob
      have tlen : (fm.take (i + 1)).length = i + 1 := by rw [List.length_take]; omega
      -- the two lists
      refine ⟨_, rfl, .inl ⟨rfl, _, SqL.of gN⟩, _, rfl, y, dy, _, rfl, gy, no_game L, ?_⟩
      refine ⟨_, rfl, t, _, 0, _, rfl, rfl, SqT.of g1, rfl, la, rfl, ⟨_, SqL.of g2⟩, fun D1 nD1 => ?_⟩
      have dn : ∀ {b : Addr} {u : HO}, G b = some u → b ≠ D1 := fun {b u} e => ne_of_none e nD1
      refine lc_list (K := K) (a := la) (xs := nI fm[i + 1].1) (fun j G' => G' = upd G D1 (.lst (nI (fm[i + 1].1.take j)))) rfl (fun j G' _ e => by rw [e]; exact SqL.of (by rw [upd_ne (dn g2)]; exact g2)) ?_ ?_
      · rintro j x G' hx rfl
        obtain ⟨b, hb, rfl⟩ := nI_of hx
        have hbi : b < i + 1 := w1 b (List.mem_of_getElem? hb)
        have hj : j < fm[i + 1].1.length := (List.getElem?_eq_some_iff.mp hb).1
        refine ⟨rfl, ?_⟩
        refine ⟨_, rfl, _, rfl, nm, _, _, _, rfl, rfl, SqL.of (by rw [upd_ne (dn gN)]; exact gN), atI_nat (pick hbi), _, upd_same, ?_, ?_⟩
        · rw [nI_len, List.length_take]
          exact small1000 (by omega)
        · rw [upd_upd, nI_snoc, take_snoc hb]
      rintro G' rfl
      rw [nI_len, List.take_length]
      have s3 := same_new nD1 (.lst (nI fm[i + 1].1))
      have z1 : (upd G D1 (.lst (nI fm[i + 1].1))) D1 = some (.lst (nI fm[i + 1].1)) := upd_same
      generalize upd G D1 (.lst (nI fm[i + 1].1)) = G3 at s3 z1 ⊢
      refine ⟨_, rfl, t, _, 1, _, rfl, rfl, SqT.of (s3 _ _ g1), rfl, ra, rfl, ⟨_, SqL.of (s3 _ _ g3)⟩, fun D2 nD2 => ?_⟩
      have dn2 : ∀ {b : Addr} {u : HO}, G3 b = some u → b ≠ D2 := fun {b u} e => ne_of_none e nD2
      refine lc_list (K := K) (a := ra) (xs := nI fm[i + 1].2) (fun j G' => G' = upd G3 D2 (.lst (nI (fm[i + 1].2.take j)))) rfl (fun j G' _ e => by rw [e]; exact SqL.of (by rw [upd_ne (dn2 (s3 _ _ g3))]; exact s3 _ _ g3)) ?_ ?_
      · rintro j x G' hx rfl
        obtain ⟨b, hb, rfl⟩ := nI_of hx
        have hbi : b < i + 1 := w2 b (List.mem_of_getElem? hb)
        have hj : j < fm[i + 1].2.length := (List.getElem?_eq_some_iff.mp hb).1
        refine ⟨rfl, ?_⟩
        refine ⟨_, rfl, _, rfl, nm, _, _, _, rfl, rfl, SqL.of (by rw [upd_ne (dn2 (s3 _ _ gN))]; exact s3 _ _ gN), atI_nat (pick hbi), _, upd_same, ?_, ?_⟩
        · rw [nI_len, List.length_take]
          exact small1000 (by omega)
        · rw [upd_upd, nI_snoc, take_snoc hb]
      rintro G' rfl
      rw [nI_len, List.take_length]
      have s4 := same_new nD2 (.lst (nI fm[i + 1].2))
      have z2 : (upd G3 D2 (.lst (nI fm[i + 1].2))) D2 = some (.lst (nI fm[i + 1].2)) := upd_same
      generalize upd G3 D2 (.lst (nI fm[i + 1].2)) = G4 at s4 z2 ⊢
      -- the game
      refine ⟨y, D1, D2, L, fm.take (i + 1), fm[i + 1].1, fm[i + 1].2, rfl, (yG.same s3).same s4, s4 _ _ z1, z2, fun a ha => by rw [tlen]; exact w1 a ha, fun a ha => by rw [tlen]; exact w2 a ha, by omega, by omega, by omega, fun G5 g y5 hg k5 => ?_⟩
      have ef : formOf fm[i + 1].1 fm[i + 1].2 = fm[i + 1] := by
        unfold formOf
        rw [canon_self asc.1, canon_self asc.2]
      have hnot : fm[i + 1] ∉ fm.take (i + 1) := fun z => by
        obtain ⟨j, hj⟩ := List.mem_iff_getElem?.mp z
        have hj1 : j < i + 1 := by
          have := (List.getElem?_eq_some_iff.mp hj).1
          rw [tlen] at this
          exact this
        rw [List.getElem?_take, if_pos hj1] at hj
        have := nd_ix good.nd hj hf
        omega
      rw [ef, added_new hnot, ← take_snoc hf] at y5 hg
      have hgi : g = i + 1 := by
        have hlt : g < i + 1 + 1 := by
          have := (List.getElem?_eq_some_iff.mp hg).1
          rw [List.length_take] at this
          omega
        rw [List.getElem?_take, if_pos hlt] at hg
        exact nd_ix good.nd hg hf
      subst hgi
      have nmS : nm ∉ L.S := live.fresh nnm
      have gN5 := k5 _ _ (s4 _ _ (s3 _ _ gN)) nmS
      refine ⟨nm, _, _, rfl, rfl, gN5, by rw [nI_len, List.length_range]; exact small1000 (by omega), ?_⟩
      refine ⟨_, rfl, kG.trans (((Keep.of s3).trans ((Keep.of s4).trans (k5.mono fun a ha => List.mem_cons_of_mem _ ha))).trans (Keep.at List.mem_cons_self _)), by rw [upd_same, nI_snoc, ← List.range_succ], ?_⟩
      obtain ⟨dy5, gy5⟩ := y5.ob
      have ktup : ∀ b xs, G5 b = some (.tup xs) → (upd G5 nm (.lst (nI (List.range (i + 1)) ++ [.int ((i + 1 : Nat) : Int)]))) b = some (.tup xs) := fun b xs e => by
        rw [upd_ne (ne_of e gN5 (fun z => nomatch z))]
        exact e
      have nme : ∀ a ∈ L.S, a ≠ nm := fun a ha z => nmS (z ▸ ha)
      refine ⟨⟨dy5, by rw [upd_ne (ne_of gy5 gN5 (fun z => nomatch z))]; exact gy5⟩, y5.lefts.keep (upd_ne (nme _ (by show L.l ∈ [L.l, L.r, L.h, L.n]; simp))) ktup, y5.rights.keep (upd_ne (nme _ (by show L.r ∈ [L.l, L.r, L.h, L.n]; simp))) ktup, ?_,
        y5.nums.keep (upd_ne (nme _ (by show L.n ∈ [L.l, L.r, L.h, L.n]; simp))) ktup, y5.dlr, y5.dlh, y5.drh, y5.good⟩
      obtain ⟨hs, t1, t2⟩ := y5.heights
      exact ⟨hs, by rw [upd_ne (nme _ (by show L.h ∈ [L.l, L.r, L.h, L.n]; simp))]; exact t1, t2⟩
    rintro σ G ⟨v, rfl, kG, gN, yG⟩
    have elen : ((ts.drop 1).map V.ref).length + 1 = fm.length := by
      rw [List.length_map, List.length_drop, hF.1]
      omega
    rw [elen] at gN yG
    rw [List.take_length] at yG
    refine ⟨_, rfl, k G nm nnm gN yG fun b u e n => kG _ _ (sB _ _ e) fun z => ?_⟩
    rcases List.mem_cons.mp z with z | z
    · exact ne_of_none e nnm z
    · exact n z
/-! ### plain play -/
def kijs (i j : Nat) (s : Bool) : List Key := [Sum.inl (i : Int), Sum.inl (j : Int), Sum.inl (sI s)]
theorem sI_inj {s t : Bool} (e : sI s = sI t) : s = t := by cases s <;> cases t <;> first | rfl | cases e
theorem kijs_inj {i j a b : Nat} {s t : Bool} (e : kijs i j s = kijs a b t) : i = a ∧ j = b ∧ s = t := by
  unfold kijs at e
  injection e with e1 e2
  injection e2 with e2 e3
  injection e3 with e3 _
  injection e1 with e1
  injection e2 with e2
  injection e3 with e3
  exact ⟨Int.ofNat_inj.mp e1, Int.ofNat_inj.mp e2, sI_inj e3⟩
def UW (N : Nat) : List (List Key) := (List.range N).flatMap fun i => (List.range N).flatMap fun j => [kijs i j false, kijs i j true]
theorem mem_UW {N i j : Nat} (hi : i < N) (hj : j < N) (s : Bool) : kijs i j s ∈ UW N := List.mem_flatMap.mpr ⟨i, List.mem_range.mpr hi, List.mem_flatMap.mpr ⟨j, List.mem_range.mpr hj, by cases s <;> simp⟩⟩
theorem len_UW (N : Nat) : (UW N).length = N * (N * 2) := by
  unfold UW
  rw [len_fl (n := N * 2) fun x _ => by rw [len_fl (n := 2) fun y _ => rfl, List.length_range], List.length_range]
def RW (fm : List Form) (k : List Key) (v : V) : Prop := ∃ (i j : Nat) (s : Bool), k = kijs i j s ∧ v = .bl (win fm i j s)
abbrev MemoW (fm : List Form) (kw : List (List Key × V)) : Prop := Memo kw (UW fm.length) (RW fm)
theorem MemoW.small {fm : List Form} {kw : List (List Key × V)} (m : MemoW fm kw) (h : fm.length ≤ 24) : kw.length < sizeLine := by
  have q := m.len
  rw [len_UW] at q
  have p : fm.length * (fm.length * 2) ≤ 24 * (24 * 2) := Nat.mul_le_mul h (Nat.mul_le_mul h (Nat.le_refl _))
  rw [sizeLine_eq]
  omega
def spWins (n : Nat) : Sp := fun vs H Q _ => ∃ (m kn : Addr) (S : List Addr) (fm : List Form) (kw : List (List Key × V)) (i j : Nat) (s : Bool), vs = [.ref m, .ref kn, .int (i : Int), .int (j : Int), .int (sI s)] ∧ ModelAt H S m fm ∧ Good fm ∧ fm.length ≤ 24 ∧ H kn = some (.dT kw) ∧ MemoW fm kw ∧
  i < fm.length ∧ j < fm.length ∧ i + j < n ∧ ∀ (H' : Hp) (kw' : List (List Key × V)), H' kn = some (.dT kw') → MemoW fm kw' → Keep [kn] H H' → Q (.bl (win fm i j s)) H'
theorem scWins : FnScope ["_law_model", "_law_known", "_law_one", "_law_other", "_law_side", "_law_key", "_law_won", "_law_pair"] ["_law_model", "_law_known", "_law_one", "_law_other", "_law_side"] (defScope sWins) := ⟨rfl, rfl, rfl, by decide +kernel, rfl, by decide +kernel, by decide +kernel⟩
theorem ok_wins {n : Nat} {f fm' : Addr} {fd fdm : FuncData} (D : DefD K mg "_law_wins" sWins ["_law_model", "_law_known", "_law_one", "_law_other", "_law_side"] f fd) (T : Txt K mg Y O) (DM : DefD K mg "_law_moves" sMoves ["_law_model", "_law_one", "_law_other", "_law_side"] fm' fdm)
    (GW : FnOk P w K mg base CX0 (n + 2) f fd ["_law_model", "_law_known", "_law_one", "_law_other", "_law_side"] (spWins n)) : FnOk P w K mg base CX0 (n + 3) f fd ["_law_model", "_law_known", "_law_one", "_law_other", "_law_side"] (spWins (n + 1)) := by
  have GM : FnOk P w K mg base CX0 1 fm' fdm ["_law_model", "_law_one", "_law_other", "_law_side"] spMoves := ok_moves DM T
  refine D.F.ok scWins (fun vs H Q E h => ?_) (fun cdv A outer s H vs Q E hr h => ?_)
  · obtain ⟨m, kn, S, fm, kw, i, j, s, rfl, _⟩ := h
    rfl
  · obtain ⟨m, kn, S, fm, kw, i, j, sg, rfl, md, good, h24, hk, mw, hi, hj, hn, k⟩ := h
    have hr1 : Room 1 _ := hr.mono (by omega)
    have hu := hu_of hr
    refine ⟨_, pss_cons (ps_set (i := 5) scWins.nd rfl (Or.inl rfl) (pe_tup (pa_cons (pv 2) (pa_cons (pv 3) (pa_cons (pv 4) pa_nil)))))
      (pss_cons (ps_if (pt_cmp (pc_dnotin hu (pv 5) (pv 1)))
        (pss_cons (ps_set (i := 6) scWins.nd rfl (Or.inl rfl) pe_bl)
        (pss_cons (ps_for PassesOwn.never rfl (pi_list (pe_call GM hr1 (by rfl) DM.m DM.F.kp DM.b .nil pass0 (pa_cons (pv 0) (pa_cons (pv 2) (pa_cons (pv 3) (pa_cons (pv 4) pa_nil)))))) (pg_name (i := 7) scWins.nd rfl (Or.inl rfl))
          (pss_one (ps_if (PW.pt (pw_and (pt_not (pt_val (pv 6))) (pw_and1 (pt_not (pt_val (pe_call GW hr (by rfl) D.m D.F.kp D.b .nil pass0 (pa_cons (pv 0) (pa_cons (pv 1) (pa_cons (pe_ix ix_tup (pv 7) pe_int (fun _ _ => rfl)) (pa_cons (pe_ix ix_tup (pv 7) pe_int (fun _ _ => rfl)) (pa_cons (pe_op op_sub pe_int (pv 4)) pa_nil)))))))))))
            (pss_one (ps_set (i := 6) scWins.nd rfl (Or.inl rfl) pe_bl)) pss_nil)))
        (pss_one (ps_dput hu (pv 1) (pv 5) (pv 6) rfl)))) pss_nil)
      (pss_one (ps_ret (pe_dget hu (pv 1) (pv 5) (fun _ _ => rfl))))), ?_⟩
    refine ⟨_, rfl, _, rfl, _, rfl, (by show 3 ≤ sizeLine; decide), fun t nt => ?_⟩
    have s1 := same_new nt (.tup [.int (i : Int), .int (j : Int), .int (sI sg)])
    have e1 : (upd H t (.tup [.int (i : Int), .int (j : Int), .int (sI sg)])) t = some (.tup ((kijs i j sg).map kV)) := upd_same
    generalize upd H t (.tup [.int (i : Int), .int (j : Int), .int (sI sg)]) = G1 at s1 e1 ⊢
    have hk1 := s1 _ _ hk
    refine ⟨_, rfl, _, rfl, kn, _, rfl, DGet.t (k := kijs i j sg) hk1 e1, _, rfl, ?_⟩
    cases e : valV kw (kijs i j sg) with
    | some v =>
      refine iteF ?_
      obtain ⟨_, a, b, c, ek, ev⟩ := mw.all _ _ e
      obtain ⟨rfl, rfl, rfl⟩ := kijs_inj ek
      have g := DGet.t (k := kijs i j sg) hk1 e1
      rw [e] at g
      refine ⟨_, rfl, _, rfl, kn, v, rfl, g, ?_⟩
      rw [ev]
      exact k G1 kw hk1 mw (Keep.of s1)
    | none =>
      refine iteT ?_
      refine ⟨_, rfl, _, rfl, _, rfl, _, rfl, m, S, fm, i, j, sg, rfl, md.same s1, good, h24, hi, hj, fun B p sB np PB => ⟨p, rfl, ?_⟩⟩
      obtain ⟨qs, p1, p2⟩ := PB
      have hkB := sB _ _ hk1
      have pne : p ∉ [kn] := fun z => by
        rw [List.mem_singleton.mp z, hkB] at p1
        cases p1
      refine ⟨⟨_, SqL.of p1⟩, for_list (K := K) (a := p) (xs := qs.map V.ref) (fun x σ G => ∃ (kw' : List (List Key × V)) (v : Option V), σ = [some (.ref m), some (.ref kn), some (.int (i : Int)), some (.int (j : Int)), some (.int (sI sg)), some (.ref t), some (.bl (((moves fm i j sg).take x).any fun q => !win fm q.1 q.2 (!sg))), v] ∧
          G kn = some (.dT kw') ∧ MemoW fm kw' ∧ Keep [kn] B G)
        ⟨kw, none, rfl, hkB, mw, Keep.refl _ _⟩ (fun x σ G _ ⟨_, _, _, _, _, k1⟩ => SqL.of (k1 _ _ p1 pne)) ?_ ?_⟩
      · rintro x y σ G hx ⟨kw', v, rfl, hkG, mw', kG⟩
        obtain ⟨q, hq, rfl⟩ : ∃ q, qs[x]? = some q ∧ y = V.ref q := by
          rw [List.getElem?_map] at hx
          cases e : qs[x]? with
          | none => rw [e] at hx; cases hx
          | some q => rw [e] at hx; exact ⟨q, rfl, (Option.some.inj hx).symm⟩
        have hxl : x < (moves fm i j sg).length := by rw [← p2.1]; exact (List.getElem?_eq_some_iff.mp hq).1
        have hmv : (moves fm i j sg)[x]? = some (moves fm i j sg)[x] := List.getElem?_eq_getElem hxl
        have etup := p2.2 x q _ hq hmv
        obtain ⟨pr, hpr⟩ : ∃ pr, pr = (moves fm i j sg)[x] := ⟨_, rfl⟩
        rw [← hpr] at hmv etup
        have hmem : pr ∈ moves fm i j sg := List.mem_of_getElem? hmv
        obtain ⟨h1, h2, h3⟩ := moves_mem good.wf hmem
        have gq : G q = some (.tup [.int (pr.1 : Int), .int (pr.2 : Int)]) := kG _ _ etup fun z => by
          rw [List.mem_singleton.mp z, hkB] at etup
          cases etup
        have step : ((moves fm i j sg).take (x + 1)).any (fun q => !win fm q.1 q.2 (!sg)) = (((moves fm i j sg).take x).any (fun q => !win fm q.1 q.2 (!sg)) || !win fm pr.1 pr.2 (!sg)) := by
          rw [take_snoc hmv, List.any_append, List.any_cons, List.any_nil, Bool.or_false]
        refine ⟨_, rfl, _, rfl, ?_⟩
        cases ew : ((moves fm i j sg).take x).any (fun q => !win fm q.1 q.2 (!sg)) with
        | true =>
          refine iteF (iteF ⟨kw', some (.ref q), ?_, hkG, mw', kG⟩)
          rw [step, ew, Bool.true_or]
          rfl
        | false =>
          refine iteT ?_
          refine ⟨_, rfl, _, rfl, _, rfl, q, _, 0, _, rfl, rfl, SqT.of gq, rfl, _, rfl, q, _, 1, _, rfl, rfl, SqT.of gq, rfl, _, rfl, _, _, rfl, rfl, m, kn, S, fm, kw', pr.1, pr.2, !sg, by rw [← sI_not] <;> rfl, ((md.same s1).same sB).dict kG hkB, good, h24, hkG, mw', by omega, by omega, by omega, fun G2 kw2 hk2 mw2 k2 => ⟨_, rfl, ?_⟩⟩
          cases ez : win fm pr.1 pr.2 (!sg) with
          | true =>
            refine iteF ⟨kw2, some (.ref q), ?_, hk2, mw2, kG.trans k2⟩
            rw [step, ew, ez]
            rfl
          | false =>
            refine iteT ⟨kw2, some (.ref q), ?_, hk2, mw2, kG.trans k2⟩
            rw [step, ew, ez]
            rfl
      rintro σ G ⟨kw', v, rfl, hkG, mw', kG⟩
      have eall : ((moves fm i j sg).take (qs.map V.ref).length).any (fun q => !win fm q.1 q.2 (!sg)) = win fm i j sg := by
        rw [List.length_map, p2.1, List.take_length, win_eq good.wf i j sg]
      rw [eall]
      have et : G t = some (.tup ((kijs i j sg).map kV)) := kG _ _ (sB _ _ e1) fun z => by
        rw [← List.mem_singleton.mp z, e1] at hk1
        cases hk1
      refine ⟨_, rfl, _, rfl, _, rfl, kn, _, rfl, DPut.t (k := kijs i j sg) hkG et (mw'.small h24), ?_⟩
      have g := DGet.t (H := upd G kn (.dT (putK kw' (kijs i j sg) (.bl (win fm i j sg))))) (k := kijs i j sg) upd_same (by rw [upd_ne (ne_of et hkG (fun z => nomatch z))]; exact et)
      rw [valV_put, if_pos rfl] at g
      refine ⟨_, rfl, _, rfl, kn, _, rfl, g, ?_⟩
      exact k _ _ upd_same (mw'.put (mem_UW hi hj sg) ⟨i, j, sg, rfl, rfl⟩) ((Keep.of (s1.trans sB)).trans (kG.trans (Keep.at (List.mem_singleton_self _) _)))
theorem none_wins {f : Addr} {fd : FuncData} : FnOk P w K mg base CX0 2 f fd ["_law_model", "_law_known", "_law_one", "_law_other", "_law_side"] (spWins 0) := by
  have no : ∀ vs H Q E, ¬ spWins 0 vs H Q E := fun vs H Q E h => by
    obtain ⟨_, _, _, _, _, _, _, _, _, _, _, _, _, _, _, _, h, _⟩ := h
    omega
  exact ⟨fun vs H Q E h => absurd h (no vs H Q E), fun A outer s H args us vs Q E _ _ _ _ h => absurd h (no vs H Q E)⟩
theorem all_wins {f fm' : Addr} {fd fdm : FuncData} (D : DefD K mg "_law_wins" sWins ["_law_model", "_law_known", "_law_one", "_law_other", "_law_side"] f fd) (T : Txt K mg Y O) (DM : DefD K mg "_law_moves" sMoves ["_law_model", "_law_one", "_law_other", "_law_side"] fm' fdm) :
    ∀ n : Nat, FnOk P w K mg base CX0 (n + 2) f fd ["_law_model", "_law_known", "_law_one", "_law_other", "_law_side"] (spWins n)
  | 0 => none_wins
  | n + 1 => ok_wins D T DM (all_wins D T DM n)
end
end K20
set_option Elab.async false
set_option linter.all false
set_option maxRecDepth 100000
set_option maxHeartbeats 4000000
/-! KLawF: the sum of two games, made in the yard. -/
namespace K20
open PySem L2
/-! ### the table, row by row -/
def Done (b i j i' j' : Nat) : Prop := (i' < i ∧ j' ≤ b) ∨ (i' = i ∧ j' < j)
structure TabAt (fm fy : List Form) (t : Nat → Nat → Nat) (b i j : Nat) : Prop where
  pre : Pre fm fy
  lt : ∀ i' j', Done b i j i' j' → t i' j' < fy.length
  op : ∀ i' j', Done b i j i' j' → ∀ s k, k ∈ opts fy (t i' j') s ↔ ∃ p ∈ moves fm i' j' s, k = t p.1 p.2
def putT (t : Nat → Nat → Nat) (i j g : Nat) : Nat → Nat → Nat := fun x z => if x = i ∧ z = j then g else t x z
theorem putT_same (t : Nat → Nat → Nat) (i j g : Nat) : putT t i j g i j = g := if_pos ⟨rfl, rfl⟩
theorem putT_ne {t : Nat → Nat → Nat} {i j g x z : Nat} (h : ¬ (x = i ∧ z = j)) : putT t i j g x z = t x z := if_neg h
theorem move_done {fm : List Form} (w : Wf fm) {b i j : Nat} (hj : j ≤ b) {s : Bool} {p : Nat × Nat} (h : p ∈ moves fm i j s) : Done b i j p.1 p.2 := by
  obtain ⟨h1, h2, h3⟩ := moves_mem w h
  by_cases e : p.1 < i
  · exact .inl ⟨e, by omega⟩
  · exact .inr ⟨by omega, by omega⟩
theorem TabAt.step {fm fy : List Form} {t : Nat → Nat → Nat} {b i j g : Nat} {ls rs : List Nat} (w : Wf fm) (x : TabAt fm fy t b i j) (hj : j ≤ b) (h1 : ∀ k, k ∈ ls ↔ ∃ p ∈ moves fm i j false, k = t p.1 p.2) (h2 : ∀ k, k ∈ rs ↔ ∃ p ∈ moves fm i j true, k = t p.1 p.2)
    (hg : (added fy (formOf ls rs))[g]? = some (formOf ls rs)) : TabAt fm (added fy (formOf ls rs)) (putT t i j g) b i (j + 1) := by
  obtain ⟨ext, ee⟩ := added_pre fy (formOf ls rs)
  have pr : Pre fy (added fy (formOf ls rs)) := by rw [ee]; exact Pre.app fy ext
  have glt : g < (added fy (formOf ls rs)).length := (List.getElem?_eq_some_iff.mp hg).1
  have mv : ∀ {i' j' : Nat} {s : Bool} {p : Nat × Nat}, (Done b i j i' j' ∨ (i' = i ∧ j' = j)) → p ∈ moves fm i' j' s → putT t i j g p.1 p.2 = t p.1 p.2 := fun {i' j' s p} hd hp => by
    obtain ⟨q1, q2, q3⟩ := moves_mem w hp
    refine putT_ne fun z => ?_
    rcases hd with (⟨a, _⟩ | ⟨a, c⟩) | ⟨a, c⟩
    · omega
    · omega
    · omega
  refine ⟨x.pre.trans pr, fun i' j' hd => ?_, fun i' j' hd s k => ?_⟩
  · by_cases e : i' = i ∧ j' = j
    · obtain ⟨rfl, rfl⟩ := e
      rw [putT_same]
      exact glt
    · rw [putT_ne e]
      have hd' : Done b i j i' j' := by
        rcases hd with h | ⟨a, c⟩
        · exact .inl h
        · exact .inr ⟨a, by omega⟩
      exact Nat.lt_of_lt_of_le (x.lt i' j' hd') pr.le
  · by_cases e : i' = i ∧ j' = j
    · obtain ⟨rfl, rfl⟩ := e
      rw [putT_same, opts_of hg]
      have key : ∀ (l : List Nat), (∀ k, k ∈ l ↔ ∃ p ∈ moves fm i' j' s, k = t p.1 p.2) → (k ∈ canon l ↔ ∃ p ∈ moves fm i' j' s, k = putT t i' j' g p.1 p.2) := fun l hl => by
        rw [mem_canon, hl k]
        constructor
        · rintro ⟨p, hp, e⟩
          exact ⟨p, hp, by rw [mv (.inr ⟨rfl, rfl⟩) hp]; exact e⟩
        · rintro ⟨p, hp, e⟩
          exact ⟨p, hp, by rw [mv (.inr ⟨rfl, rfl⟩) hp] at e; exact e⟩
      cases s with
      | false => exact key ls h1
      | true => exact key rs h2
    · have hd' : Done b i j i' j' := by
        rcases hd with h | ⟨a, c⟩
        · exact .inl h
        · exact .inr ⟨a, by omega⟩
      rw [putT_ne e, pr.op _ (x.lt i' j' hd') s, x.op i' j' hd' s k]
      constructor
      · rintro ⟨p, hp, e⟩
        exact ⟨p, hp, by rw [mv (.inl hd') hp]; exact e⟩
      · rintro ⟨p, hp, e⟩
        exact ⟨p, hp, by rw [mv (.inl hd') hp] at e; exact e⟩
theorem TabAt.weak {fm fy : List Form} {t : Nat → Nat → Nat} {b i j i1 j1 : Nat} (x : TabAt fm fy t b i j) (h : ∀ i' j', Done b i1 j1 i' j' → Done b i j i' j') : TabAt fm fy t b i1 j1 := ⟨x.pre, fun i' j' d => x.lt i' j' (h i' j' d), fun i' j' d => x.op i' j' (h i' j' d)⟩
theorem done_row {b i i' j' : Nat} (h : Done b (i + 1) 0 i' j') : Done b i (b + 1) i' j' := by
  rcases h with ⟨a, c⟩ | ⟨a, c⟩
  · by_cases e : i' < i
    · exact .inl ⟨e, c⟩
    · exact .inr ⟨by omega, by omega⟩
  · omega
theorem TabAt.start (fm : List Form) (t : Nat → Nat → Nat) (b : Nat) : TabAt fm fm t b 0 0 := by
  refine ⟨Pre.refl fm, fun i' j' d => ?_, fun i' j' d => ?_⟩
  · rcases d with ⟨a, _⟩ | ⟨_, a⟩ <;> omega
  · rcases d with ⟨a, _⟩ | ⟨_, a⟩ <;> omega
/-- the table's dict holds what is done -/
structure TDict (kt : List (List Key × V)) (t : Nat → Nat → Nat) (N b i j : Nat) : Prop where
  memo : Memo kt (UA N) (fun _ _ => True)
  get : ∀ i' j', Done b i j i' j' → valV kt (kij i' j') = some (.int (t i' j' : Int))
theorem TDict.step {kt : List (List Key × V)} {t : Nat → Nat → Nat} {N b i j g : Nat} (x : TDict kt t N b i j) (hi : i < N) (hj : j < N) : TDict (putK kt (kij i j) (.int (g : Int))) (putT t i j g) N b i (j + 1) := by
  refine ⟨x.memo.put (mem_UA hi hj) trivial, fun i' j' d => ?_⟩
  rw [valV_put]
  by_cases e : i' = i ∧ j' = j
  · obtain ⟨rfl, rfl⟩ := e
    rw [if_pos rfl, putT_same]
  · rw [if_neg fun z => e (kij_inj z), putT_ne e]
    refine x.get i' j' ?_
    rcases d with h | ⟨a, c⟩
    · exact .inl h
    · exact .inr ⟨a, by omega⟩
theorem TDict.weak {kt : List (List Key × V)} {t : Nat → Nat → Nat} {N b i j i1 j1 : Nat} (x : TDict kt t N b i j) (h : ∀ i' j', Done b i1 j1 i' j' → Done b i j i' j') : TDict kt t N b i1 j1 := ⟨x.memo, fun i' j' d => x.get i' j' (h i' j' d)⟩
theorem TDict.small {kt : List (List Key × V)} {t : Nat → Nat → Nat} {N b i j : Nat} (x : TDict kt t N b i j) (h : N ≤ 24) : kt.length < sizeLine := by
  have q := x.memo.len
  rw [len_UA] at q
  have p : N * N ≤ 24 * 24 := Nat.mul_le_mul h h
  exact small1000 (by omega)
section
variable {P : Program} {w : World} {K : PySem.W.Frag} {mg : Str → Option Value} {base : Heap} {Y O : Addr}
def spSum (P : Program) (w : World) (Y : Addr) : Sp := fun vs H Q _ => ∃ (y m : Addr) (L : YA) (fm : List Form) (a b : Nat), vs = [.ref y, .ref m, .int (a : Int), .int (b : Int)] ∧ YardAt P w Y H y L fm ∧ ModelAt H L.S m fm ∧ Good fm ∧ fm.length ≤ 24 ∧ a < fm.length ∧ b < fm.length ∧
  ∀ (H' : Hp) (fy : List Form) (t : Nat → Nat → Nat), YardAt P w Y H' y L fy → TabAt fm fy t b (a + 1) 0 → fy.length ≤ 1000 → Keep L.S H H' → Q (.int (t a b : Int)) H'
theorem scSum : FnScope ["_law_yard", "_law_model", "_law_first", "_law_second", "_law_table", "_law_one", "_law_other", "_law_lefts", "_law_rights", "_law_pair"] ["_law_yard", "_law_model", "_law_first", "_law_second"] (defScope sSum) := ⟨rfl, rfl, rfl, by decide +kernel, rfl, by decide +kernel, by decide +kernel⟩
theorem ok_sum {f fg fc fm' : Addr} {fd fdg fdc fdm : FuncData} (D : DefD K mg "_law_sum" sSum ["_law_yard", "_law_model", "_law_first", "_law_second"] f fd) (T : Txt K mg Y O) (DG : MethD K Y "game" "Yard.game" sGame ["self", "lefts", "rights"] fg fdg) (DC : MethD K Y "_check" "Yard._check" sCheck ["self", "game"] fc fdc)
    (DM : DefD K mg "_law_moves" sMoves ["_law_model", "_law_one", "_law_other", "_law_side"] fm' fdm) : FnOk P w K mg base CX0 3 f fd ["_law_yard", "_law_model", "_law_first", "_law_second"] (spSum P w Y) := by
  have GG : FnOk P w K mg base CX0 2 fg fdg ["self", "lefts", "rights"] (spGame P w Y) := ok_game DG T DC
  have GM : FnOk P w K mg base CX0 1 fm' fdm ["_law_model", "_law_one", "_law_other", "_law_side"] spMoves := ok_moves DM T
  refine D.F.ok scSum (fun vs H Q E h => ?_) (fun cdv A outer s H vs Q E hr h => ?_)
  · obtain ⟨y, m, L, fm, a, b, rfl, _⟩ := h
    rfl
  · obtain ⟨y, m, L, fm, a, b, rfl, yd, md, good, h24, ha, hb, k⟩ := h
    have hr1 : Room 1 _ := hr.mono (by omega)
    have hu := hu_of hr
    refine ⟨_, pss_cons (ps_set (i := 4) scSum.nd rfl (Or.inr rfl) pe_dnewT)
      (pss_cons (ps_for PassesOwn.never rfl (pi_range1 (by rfl) T.range (pa_cons (pe_op op_add (pv 2) pe_int) pa_nil)) (pg_name (i := 5) scSum.nd rfl (Or.inl rfl))
        (pss_one (ps_for PassesOwn.never rfl (pi_range1 (by rfl) T.range (pa_cons (pe_op op_add (pv 3) pe_int) pa_nil)) (pg_name (i := 6) scSum.nd rfl (Or.inl rfl))
          (pss_cons (ps_setLc (i := 7) (own := [("_law_pair", 9)]) (g := gName 9) (tt := tYes) (te := tDGet (tVar 4) (tVar 9)) rfl scSum.nd rfl rfl (sw_true rfl rfl rfl (by decide +kernel))
            (pi_list (pe_call GM hr1 (by rfl) DM.m DM.F.kp DM.b .nil pass0 (pa_cons (pv 1) (pa_cons (pv 5) (pa_cons (pv 6) (pa_cons pe_int pa_nil))))))
            (blkOk_by (N := ["_law_yard", "_law_model", "_law_first", "_law_second", "_law_table", "_law_one", "_law_other", "_law_lefts", "_law_rights", "_law_pair"]) (sc := defScope sSum) (by decide +kernel)) (fun _ _ _ _ _ => pg_name (i := 9) scSum.nd rfl (Or.inl rfl)) (fun _ _ _ _ _ => pts_nil)
            (fun _ _ _ _ _ => pe_dget hu (pv 4) (pv 9) (fun _ _ => rfl)))
          (pss_cons (ps_setLc (i := 8) (own := [("_law_pair", 9)]) (g := gName 9) (tt := tYes) (te := tDGet (tVar 4) (tVar 9)) rfl scSum.nd rfl rfl (sw_true rfl rfl rfl (by decide +kernel))
            (pi_list (pe_call GM hr1 (by rfl) DM.m DM.F.kp DM.b .nil pass0 (pa_cons (pv 1) (pa_cons (pv 5) (pa_cons (pv 6) (pa_cons pe_int pa_nil))))))
            (blkOk_by (N := ["_law_yard", "_law_model", "_law_first", "_law_second", "_law_table", "_law_one", "_law_other", "_law_lefts", "_law_rights", "_law_pair"]) (sc := defScope sSum) (by decide +kernel)) (fun _ _ _ _ _ => pg_name (i := 9) scSum.nd rfl (Or.inl rfl)) (fun _ _ _ _ _ => pts_nil)
            (fun _ _ _ _ _ => pe_dget hu (pv 4) (pv 9) (fun _ _ => rfl)))
          (pss_one (ps_dput hu (pv 4) (pe_tup (pa_cons (pv 5) (pa_cons (pv 6) pa_nil))) (pe_meth (pv 0) T.clY DG.m GG hr DG.b .nil pass0 (pa_cons (pv 7) (pa_cons (pv 8) pa_nil))) rfl)))))))
      (pss_one (ps_ret (pe_dget hu (pv 4) (pe_tup (pa_cons (pv 2) (pa_cons (pv 3) pa_nil))) (fun _ _ => rfl))))), ?_⟩
    intro dt ndt
    have s1 := same_new ndt (.dT [])
    have x1 : (upd H dt (.dT [])) dt = some (.dT []) := upd_same
    generalize upd H dt (.dT []) = B at s1 x1 ⊢
    have ydB := yd.same s1
    have mdB := md.same s1
    have liveB := ydB.live
    have notup : ∀ z ∈ L.S, ∀ xs, B z ≠ some (.tup xs) := fun z hz xs e => ydB.notin e (fun _ q => nomatch q) (fun _ q => nomatch q) hz
    have dtS : dt ∉ L.S := ydB.notin x1 (fun _ q => nomatch q) (fun _ q => nomatch q)
    -- the model stands
    have mdl : ∀ {G : Hp}, Keep (dt :: L.S) B G → ModelAt G L.S m fm := fun {G} kG => mdB.keep kG (fun z hz => by
      rcases List.mem_cons.mp hz with e | e
      · refine .inr fun o ho => ?_
        rw [e, x1] at ho
        cases ho
        exact ⟨fun xs q => (nomatch q), fun xs q => (nomatch q)⟩
      · exact .inl e) fun z hz xs e => by
        rcases List.mem_cons.mp hz with e' | e'
        · rw [e', x1] at e
          cases e
        · exact notup z e' xs e
    refine ⟨_, rfl, _, _, rfl, rfl, _, rfl, by omega, by omega, ?_⟩
    have ea : ((a : Int) + 1).toNat = a + 1 := by omega
    have eb : ((b : Int) + 1).toNat = b + 1 := by omega
    rw [ea]
    refine for_range (lo := 0) (n := a + 1) (fun i σ G => ∃ (fy : List Form) (t : Nat → Nat → Nat) (kt : List (List Key × V)) (v1 v2 v3 v4 : Option V), σ = [some (.ref y), some (.ref m), some (.int (a : Int)), some (.int (b : Int)), some (.ref dt), v1, v2, v3, v4, none] ∧
        Keep (dt :: L.S) B G ∧ YardAt P w Y G y L fy ∧ G dt = some (.dT kt) ∧ TabAt fm fy t b i 0 ∧ TDict kt t fm.length b i 0 ∧ fy.length ≤ 24 + i * (b + 1))
      ⟨fm, fun _ _ => 0, [], none, none, none, none, rfl, Keep.refl _ _, ydB, x1, TabAt.start fm _ b, ⟨Memo.empty, fun i' j' d => by rcases d with ⟨q, _⟩ | ⟨_, q⟩ <;> omega⟩, by omega⟩ ?_ ?_
    · rintro i σ G hi ⟨fy, t, kt, v1, v2, v3, v4, rfl, kG, yG, gt, tab, td, hlen⟩
      rw [Int.zero_add]
      refine ⟨_, rfl, _, _, rfl, rfl, _, rfl, by omega, by omega, ?_⟩
      rw [eb]
      refine for_range (lo := 0) (n := b + 1) (fun j σ G => ∃ (fy : List Form) (t : Nat → Nat → Nat) (kt : List (List Key × V)) (v2 v3 v4 : Option V), σ = [some (.ref y), some (.ref m), some (.int (a : Int)), some (.int (b : Int)), some (.ref dt), some (.int (i : Int)), v2, v3, v4, none] ∧
          Keep (dt :: L.S) B G ∧ YardAt P w Y G y L fy ∧ G dt = some (.dT kt) ∧ TabAt fm fy t b i j ∧ TDict kt t fm.length b i j ∧ fy.length ≤ 24 + i * (b + 1) + j)
        ⟨fy, t, kt, v2, v3, v4, rfl, kG, yG, gt, tab, td, by omega⟩ ?_ ?_
      · clear yG gt tab td hlen kG
        rintro j σ G hj ⟨fy, t, kt, v2, v3, v4, rfl, kG, yG, gt, tab, td, hlen⟩
        rw [Int.zero_add]
        have mG := mdl kG
        have hil : i < fm.length := by omega
        have hjl : j < fm.length := by omega
        have hjb : j ≤ b := by omega
        -- the left options
        refine ⟨_, rfl, _, rfl, _, rfl, m, L.S, fm, i, j, false, rfl, mG, good, h24, hil, hjl, fun G1 p sG1 np PB => ⟨p, rfl, ?_⟩⟩
        obtain ⟨qs, p1, p2⟩ := PB
        refine ⟨⟨_, SqL.of p1⟩, fun D1 nD1 => ?_⟩
        have dn : ∀ {b : Addr} {u : HO}, G1 b = some u → b ≠ D1 := fun {b u} e => ne_of_none e nD1
        have gt1 := sG1 _ _ gt
        have len1 : (moves fm i j false).length ≤ 48 := by
          unfold moves
          rw [List.length_append, List.length_map, List.length_map]
          have q1 := opts_len good hil false
          have q2 := opts_len good hjl (!false)
          omega
        refine lc_list (K := K) (a := p) (xs := qs.map V.ref) (fun x G' => G' = upd G1 D1 (.lst (nI (((moves fm i j false).take x).map fun q => t q.1 q.2)))) rfl (fun x G' _ e => by rw [e]; exact SqL.of (by rw [upd_ne (dn p1)]; exact p1)) ?_ ?_
        · rintro x v G' hx rfl
          obtain ⟨q, hq, rfl⟩ : ∃ q, qs[x]? = some q ∧ v = V.ref q := by
            rw [List.getElem?_map] at hx
            cases e : qs[x]? with
            | none => rw [e] at hx; cases hx
            | some q => rw [e] at hx; exact ⟨q, rfl, (Option.some.inj hx).symm⟩
          have hxl : x < (moves fm i j false).length := by rw [← p2.1]; exact (List.getElem?_eq_some_iff.mp hq).1
          have hmv : (moves fm i j false)[x]? = some (moves fm i j false)[x] := List.getElem?_eq_getElem hxl
          have etup := p2.2 x q _ hq hmv
          obtain ⟨pr, hpr⟩ : ∃ pr, pr = (moves fm i j false)[x] := ⟨_, rfl⟩
          rw [← hpr] at hmv etup
          have hd := move_done good.wf hjb (List.mem_of_getElem? hmv)
          have etk : (upd G1 D1 (.lst (nI (((moves fm i j false).take x).map fun q => t q.1 q.2)))) q = some (.tup ((kij pr.1 pr.2).map kV)) := by rw [upd_ne (dn etup)]; exact etup
          have gd := DGet.t (k := kij pr.1 pr.2) (show (upd G1 D1 (.lst (nI (((moves fm i j false).take x).map fun q => t q.1 q.2)))) dt = some (.dT kt) by rw [upd_ne (dn gt1)]; exact gt1) etk
          rw [td.get pr.1 pr.2 hd] at gd
          refine ⟨rfl, ?_⟩
          refine ⟨_, rfl, _, rfl, dt, _, rfl, gd, _, upd_same, ?_, ?_⟩
          · rw [nI_len, List.length_map, List.length_take]
            exact small1000 (by omega)
          · rw [upd_upd, nI_snoc, take_snoc hmv, List.map_append] <;> rfl
        rintro G' rfl
        rw [List.length_map, p2.1, List.take_length]
        have s2 := same_new nD1 (.lst (nI ((moves fm i j false).map fun q => t q.1 q.2)))
        have z1 : (upd G1 D1 (.lst (nI ((moves fm i j false).map fun q => t q.1 q.2)))) D1 = some (.lst (nI ((moves fm i j false).map fun q => t q.1 q.2))) := upd_same
        generalize upd G1 D1 (.lst (nI ((moves fm i j false).map fun q => t q.1 q.2))) = G2 at s2 z1 ⊢
        have sG2 := sG1.trans s2
        -- the right options
        refine ⟨_, rfl, _, rfl, _, rfl, m, L.S, fm, i, j, true, rfl, mG.same sG2, good, h24, hil, hjl, fun G3 p' sG3 np' PB' => ⟨p', rfl, ?_⟩⟩
        obtain ⟨qs', p1', p2'⟩ := PB'
        refine ⟨⟨_, SqL.of p1'⟩, fun D2 nD2 => ?_⟩
        have dn2 : ∀ {b : Addr} {u : HO}, G3 b = some u → b ≠ D2 := fun {b u} e => ne_of_none e nD2
        have gt3 := sG3 _ _ (sG2 _ _ gt)
        have len2 : (moves fm i j true).length ≤ 48 := by
          unfold moves
          rw [List.length_append, List.length_map, List.length_map]
          have q1 := opts_len good hil true
          have q2 := opts_len good hjl (!true)
          omega
        refine lc_list (K := K) (a := p') (xs := qs'.map V.ref) (fun x G' => G' = upd G3 D2 (.lst (nI (((moves fm i j true).take x).map fun q => t q.1 q.2)))) rfl (fun x G' _ e => by rw [e]; exact SqL.of (by rw [upd_ne (dn2 p1')]; exact p1')) ?_ ?_
        · rintro x v G' hx rfl
          obtain ⟨q, hq, rfl⟩ : ∃ q, qs'[x]? = some q ∧ v = V.ref q := by
            rw [List.getElem?_map] at hx
            cases e : qs'[x]? with
            | none => rw [e] at hx; cases hx
            | some q => rw [e] at hx; exact ⟨q, rfl, (Option.some.inj hx).symm⟩
          have hxl : x < (moves fm i j true).length := by rw [← p2'.1]; exact (List.getElem?_eq_some_iff.mp hq).1
          have hmv : (moves fm i j true)[x]? = some (moves fm i j true)[x] := List.getElem?_eq_getElem hxl
          have etup := p2'.2 x q _ hq hmv
          obtain ⟨pr, hpr⟩ : ∃ pr, pr = (moves fm i j true)[x] := ⟨_, rfl⟩
          rw [← hpr] at hmv etup
          have hd := move_done good.wf hjb (List.mem_of_getElem? hmv)
          have etk : (upd G3 D2 (.lst (nI (((moves fm i j true).take x).map fun q => t q.1 q.2)))) q = some (.tup ((kij pr.1 pr.2).map kV)) := by rw [upd_ne (dn2 etup)]; exact etup
          have gd := DGet.t (k := kij pr.1 pr.2) (show (upd G3 D2 (.lst (nI (((moves fm i j true).take x).map fun q => t q.1 q.2)))) dt = some (.dT kt) by rw [upd_ne (dn2 gt3)]; exact gt3) etk
          rw [td.get pr.1 pr.2 hd] at gd
          refine ⟨rfl, ?_⟩
          refine ⟨_, rfl, _, rfl, dt, _, rfl, gd, _, upd_same, ?_, ?_⟩
          · rw [nI_len, List.length_map, List.length_take]
            exact small1000 (by omega)
          · rw [upd_upd, nI_snoc, take_snoc hmv, List.map_append] <;> rfl
        rintro G' rfl
        rw [List.length_map, p2'.1, List.take_length]
        have s4 := same_new nD2 (.lst (nI ((moves fm i j true).map fun q => t q.1 q.2)))
        have z2 : (upd G3 D2 (.lst (nI ((moves fm i j true).map fun q => t q.1 q.2)))) D2 = some (.lst (nI ((moves fm i j true).map fun q => t q.1 q.2))) := upd_same
        generalize upd G3 D2 (.lst (nI ((moves fm i j true).map fun q => t q.1 q.2))) = G4 at s4 z2 ⊢
        have sG4 := (sG2.trans sG3).trans s4
        have y4 := yG.same sG4
        obtain ⟨dy, gy⟩ := y4.ob
        have ltl : ∀ s, ∀ k ∈ (moves fm i j s).map (fun q => t q.1 q.2), k < fy.length := fun s k hk => by
          obtain ⟨q, hq, rfl⟩ := List.mem_map.mp hk
          exact tab.lt q.1 q.2 (move_done good.wf hjb hq)
        have h600 : i * (b + 1) ≤ 23 * 24 := Nat.mul_le_mul (by omega) (by omega)
        -- _law_table[one, other] = yard.game(lefts, rights)
        refine ⟨_, rfl, y, dy, _, rfl, gy, no_game L, _, rfl, _, rfl, y, D1, D2, L, fy, _, _, rfl, y4, s4 _ _ (sG3 _ _ z1), z2, ltl false, ltl true, by rw [List.length_map]; omega, by rw [List.length_map]; omega, by omega, fun G5 g y5 hg k5 => ?_⟩
        have gt5 : G5 dt = some (.dT kt) := k5 _ _ (sG4 _ _ gt) dtS
        refine ⟨_, rfl, _, rfl, _, rfl, (by show 2 ≤ sizeLine; decide), fun tp ntp => ?_⟩
        have s6 := same_new ntp (.tup [.int (i : Int), .int (j : Int)])
        have e6 : (upd G5 tp (.tup [.int (i : Int), .int (j : Int)])) tp = some (.tup ((kij i j).map kV)) := upd_same
        generalize upd G5 tp (.tup [.int (i : Int), .int (j : Int)]) = G6 at s6 e6 ⊢
        refine ⟨dt, _, rfl, DPut.t (k := kij i j) (s6 _ _ gt5) e6 (td.small h24), ?_⟩
        have k7 : Keep [dt] G6 (upd G6 dt (.dT (putK kt (kij i j) (.int (g : Int))))) := Keep.at (List.mem_singleton_self _) _
        have km : ∀ x ∈ [dt], x ∈ dt :: L.S := fun x hx => by rw [List.mem_singleton.mp hx]; exact List.mem_cons_self
        have kall := kG.trans ((Keep.of sG4).trans ((k5.mono fun x hx => List.mem_cons_of_mem _ hx).trans ((Keep.of s6).trans (k7.mono km))))
        refine ⟨_, putT t i j g, _, _, _, _, rfl, kall, (y5.same s6).memo (s6 _ _ gt5) k7, upd_same, tab.step good.wf hjb (fun k => ?_) (fun k => ?_) hg, td.step hil hjl, ?_⟩
        · rw [List.mem_map]
          exact ⟨fun ⟨q, hq, e⟩ => ⟨q, hq, e.symm⟩, fun ⟨q, hq, e⟩ => ⟨q, hq, e.symm⟩⟩
        · rw [List.mem_map]
          exact ⟨fun ⟨q, hq, e⟩ => ⟨q, hq, e.symm⟩, fun ⟨q, hq, e⟩ => ⟨q, hq, e.symm⟩⟩
        · have := added_len fy (formOf ((moves fm i j false).map fun q => t q.1 q.2) ((moves fm i j true).map fun q => t q.1 q.2))
          omega
      rintro σ G' ⟨fy', t', kt', v2', v3', v4', rfl, kG', yG', gt', tab', td', hlen'⟩
      refine ⟨fy', t', kt', _, v2', v3', v4', rfl, kG', yG', gt', tab'.weak fun _ _ d => done_row d, td'.weak fun _ _ d => done_row d, ?_⟩
      rw [Nat.succ_mul]
      omega
    rintro σ G ⟨fy, t, kt, v1, v2, v3, v4, rfl, kG, yG, gt, tab, td, hlen⟩
    refine ⟨_, rfl, _, rfl, _, rfl, (by show 2 ≤ sizeLine; decide), fun tp ntp => ?_⟩
    have s6 := same_new ntp (.tup [.int (a : Int), .int (b : Int)])
    have e6 : (upd G tp (.tup [.int (a : Int), .int (b : Int)])) tp = some (.tup ((kij a b).map kV)) := upd_same
    generalize upd G tp (.tup [.int (a : Int), .int (b : Int)]) = G6 at s6 e6 ⊢
    have gd := DGet.t (k := kij a b) (s6 _ _ gt) e6
    rw [td.get a b (.inl ⟨by omega, Nat.le_refl _⟩)] at gd
    refine ⟨dt, _, rfl, gd, k G6 fy t (yG.same s6) tab ?_ fun x u e n => s6 _ _ (kG _ _ (s1 _ _ e) fun z => ?_)⟩
    · have h600 : (a + 1) * (b + 1) ≤ 24 * 24 := Nat.mul_le_mul (by omega) (by omega)
      omega
    · rcases List.mem_cons.mp z with z | z
      · exact ne_of_none e ndt z
      · exact n z
end
end K20
set_option Elab.async false
set_option linter.all false
set_option maxRecDepth 100000
set_option maxHeartbeats 4000000
/-! KLaw: the law. -/
namespace K20
open PySem L2
/-- all that the law calls -/
structure LD (K : PySem.W.Frag) (mg : Str → Option Value) (Y O : Addr) : Prop where
  C : OD K mg Y O
  mkY : ∃ f fd, Mk K Y f ∧ Fun K "__init__" "Yard.__init__" sYInit f fd ∧ Binds K fd ["self"] []
  mkO : ∃ f fd, Mk K O f ∧ Fun K "__init__" "Order.__init__" sOInit f fd ∧ Binds K fd ["self", "yard"] []
  game : ∃ f fd, MethD K Y "game" "Yard.game" sGame ["self", "lefts", "rights"] f fd
  atl : ∃ f fd, MethD K O "at_least" "Order.at_least" sAtLeast ["self", "one", "other"] f fd
  rek : ∃ f fd, MethD K O "_reckon" "Order._reckon" sReckon ["self", "one", "other"] f fd
  atm : ∃ f fd, MethD K O "at_most" "Order.at_most" sAtMost ["self", "one", "other"] f fd
  alk : ∃ f fd, MethD K O "alike" "Order.alike" sAlike ["self", "one", "other"] f fd
  apt : ∃ f fd, MethD K O "apart" "Order.apart" sApart ["self", "one", "other"] f fd
  can : ∃ f fd, MethD K O "can_win" "Order.can_win" sCanWin ["self", "game", "side"] f fd
  wng : ∃ f fd, MethD K O "winning" "Order.winning" sWinning ["self", "game", "side"] f fd
  out : ∃ f fd, MethD K O "outcome" "Order.outcome" sOutcome ["self", "game"] f fd
  cell : ∃ f fd, DefD K mg "_law_cell" sCell ["_law_script", "_law_k"] f fd
  digits : ∃ f fd, DefD K mg "_law_digits" sDigits ["_law_cell_here", "_law_count_here"] f fd
  put : ∃ f fd, DefD K mg "_law_put" sPut ["_law_model", "_law_heights", "_law_lefts", "_law_rights"] f fd
  drawn : ∃ f fd, DefD K mg "_law_drawn" sDrawn ["_law_model", "_law_heights", "_law_digits_here", "_law_most"] f fd
  family : ∃ f fd, DefD K mg "_law_family" sFamily ["_law_script", "_law_first", "_law_count_here", "_law_most"] f fd
  count : ∃ f fd, DefD K mg "_law_count" sCount ["_law_cell_here"] f fd
  built : ∃ f fd, DefD K mg "_law_built" sBuilt ["_law_yard", "_law_model"] f fd
  is_ : ∃ f fd, DefD K mg "_law_is" sIs ["_law_told", "_law_due"] f fd
  moves : ∃ f fd, DefD K mg "_law_moves" sMoves ["_law_model", "_law_one", "_law_other", "_law_side"] f fd
  wins : ∃ f fd, DefD K mg "_law_wins" sWins ["_law_model", "_law_known", "_law_one", "_law_other", "_law_side"] f fd
  sum : ∃ f fd, DefD K mg "_law_sum" sSum ["_law_yard", "_law_model", "_law_first", "_law_second"] f fd
/-- what stands while the law asks -/
structure Stage (P : Program) (w : World) (Y O : Addr) (H0 G : Hp) (o y da dc m nm kn : Addr) (L : YA) (fm fy : List Form) (ka kc kw : List (List Key × V)) : Prop where
  old : Same H0 G
  ord : OrderAt O G o y da dc ka kc
  ma : MemoA fm ka
  mc : MemoC fy kc
  yd : YardAt P w Y G y L fy
  md : ModelAt G L.S m fm
  num : G nm = some (.lst (nI (List.range fm.length)))
  kno : G kn = some (.dT kw)
  mw : MemoW fm kw
  ak : da ≠ kn
  ck : dc ≠ kn
  nmS : nm ∉ L.S
  fa : H0 da = none
  fc : H0 dc = none
  fk : H0 kn = none
  fl : ∀ x ∈ L.S, H0 x = none
section
variable {P : Program} {w : World} {K : PySem.W.Frag} {mg : Str → Option Value} {base : Heap} {Y O : Addr} {H0 G G' : Hp} {o y da dc m nm kn : Addr} {L : YA} {fm fy : List Form} {ka kc kw : List (List Key × V)}
theorem Stage.same (x : Stage P w Y O H0 G o y da dc m nm kn L fm fy ka kc kw) (s : Same G G') : Stage P w Y O H0 G' o y da dc m nm kn L fm fy ka kc kw :=
  ⟨x.old.trans s, ⟨let ⟨dx, h⟩ := x.ord.ob; ⟨dx, s _ _ h⟩, s _ _ x.ord.a, s _ _ x.ord.c, x.ord.ne⟩, x.ma, x.mc, x.yd.same s, x.md.same s, s _ _ x.num, s _ _ x.kno, x.mw, x.ak, x.ck, x.nmS, x.fa, x.fc, x.fk, x.fl⟩
theorem one_new {d : Addr} (h : H0 d = none) : ∀ a ∈ [d], H0 a = none := fun a ha => by rw [List.mem_singleton.mp ha]; exact h
theorem not_one {d b : Addr} (h : b ≠ d) : b ∉ [d] := fun z => h (List.mem_singleton.mp z)
theorem Stage.atl {ka' : List (List Key × V)} (x : Stage P w Y O H0 G o y da dc m nm kn L fm fy ka kc kw) (od : OrderAt O G' o y da dc ka' kc) (ma : MemoA fm ka') (k : Keep [da] G G') : Stage P w Y O H0 G' o y da dc m nm kn L fm fy ka' kc kw :=
  ⟨same_over x.old k (one_new x.fa), od, ma, x.mc, x.yd.memo x.ord.a k, x.md.dict k x.ord.a, k _ _ x.num (not_one (ne_of x.num x.ord.a (fun z => nomatch z))), k _ _ x.kno (not_one x.ak.symm), x.mw, x.ak, x.ck, x.nmS, x.fa, x.fc, x.fk, x.fl⟩
theorem Stage.can {kc' : List (List Key × V)} (x : Stage P w Y O H0 G o y da dc m nm kn L fm fy ka kc kw) (od : OrderAt O G' o y da dc ka kc') (mc : MemoC fy kc') (k : Keep [dc] G G') : Stage P w Y O H0 G' o y da dc m nm kn L fm fy ka kc' kw :=
  ⟨same_over x.old k (one_new x.fc), od, x.ma, mc, x.yd.memo x.ord.c k, x.md.dict k x.ord.c, k _ _ x.num (not_one (ne_of x.num x.ord.c (fun z => nomatch z))), k _ _ x.kno (not_one x.ck.symm), x.mw, x.ak, x.ck, x.nmS, x.fa, x.fc, x.fk, x.fl⟩
theorem Stage.win {kw' : List (List Key × V)} (x : Stage P w Y O H0 G o y da dc m nm kn L fm fy ka kc kw) (h : G' kn = some (.dT kw')) (mw : MemoW fm kw') (k : Keep [kn] G G') : Stage P w Y O H0 G' o y da dc m nm kn L fm fy ka kc kw' := by
  obtain ⟨dx, h1⟩ := x.ord.ob
  exact ⟨same_over x.old k (one_new x.fk), ⟨⟨dx, k _ _ h1 (not_one (ne_of h1 x.kno (fun z => nomatch z)))⟩, k _ _ x.ord.a (not_one x.ak), k _ _ x.ord.c (not_one x.ck), x.ord.ne⟩, x.ma, x.mc, x.yd.memo x.kno k, x.md.dict k x.kno,
    k _ _ x.num (not_one (ne_of x.num x.kno (fun z => nomatch z))), h, mw, x.ak, x.ck, x.nmS, x.fa, x.fc, x.fk, x.fl⟩
theorem Stage.sum {fy' : List Form} (x : Stage P w Y O H0 G o y da dc m nm kn L fm fm ka [] kw) (yd : YardAt P w Y G' y L fy') (k : Keep L.S G G') : Stage P w Y O H0 G' o y da dc m nm kn L fm fy' ka [] kw := by
  obtain ⟨dx, h1⟩ := x.ord.ob
  have away : ∀ {b : Addr} {u : HO}, G b = some u → (∀ xs, u ≠ .lst xs) → (∀ φ, u ≠ .ext φ) → G' b = some u := fun {b u} e n1 n2 => k _ _ e (x.yd.notin e n1 n2)
  refine ⟨same_over x.old k x.fl, ⟨⟨dx, away h1 (fun _ z => nomatch z) (fun _ z => nomatch z)⟩, away x.ord.a (fun _ z => nomatch z) (fun _ z => nomatch z), away x.ord.c (fun _ z => nomatch z) (fun _ z => nomatch z), x.ord.ne⟩, x.ma, Memo.empty, yd,
    x.md.keep k (fun z hz => .inl hz) (fun z hz xs e => x.yd.notin e (fun _ q => nomatch q) (fun _ q => nomatch q) hz), k _ _ x.num x.nmS, away x.kno (fun _ z => nomatch z) (fun _ z => nomatch z), x.mw, x.ak, x.ck, x.nmS, x.fa, x.fc, x.fk, x.fl⟩
theorem out_second (a b : Bool) : decide (V.str (outS a b) = V.str ("second" : Str)) = (!a && !b) := by cases a <;> cases b <;> decide +kernel
theorem out_first (a b : Bool) : decide (V.str (outS a b) = V.str ("first" : Str)) = (a && b) := by cases a <;> cases b <;> decide +kernel
def spLaw (K : PySem.W.Frag) : Sp := fun vs H Q _ => ∃ (a : Addr) (ns : List Int), vs = [.ref a] ∧ SqL K H a (ns.map V.int) ∧ ns.length ≤ 63 ∧ ∀ H', Q (.bl true) H'
theorem scLaw : FnScope ["_law_script", "_law_yard", "_law_order", "_law_model", "_law_numbers", "_law_known", "_law_one", "_law_other", "_law_due", "_law_both", "_law_digits_here", "_law_found"] ["_law_script"] (defScope sLaw) := ⟨rfl, rfl, rfl, by decide +kernel, rfl, by decide +kernel, by decide +kernel⟩
set_option maxHeartbeats 16000000 in
theorem ok_law {f : Addr} {fd : FuncData} (D : DefD K mg "law" sLaw ["_law_script"] f fd) (X : LD K mg Y O) : FnOk P w K mg base CX0 102 f fd ["_law_script"] (spLaw K) := by
  have T := X.C.T
  obtain ⟨fYI, dYI, MY, FYI, bYI⟩ := X.mkY
  obtain ⟨fOI, dOI, MO, FOI, bOI⟩ := X.mkO
  obtain ⟨fck, dck, Dck⟩ := X.C.check
  obtain ⟨fgm, dgm, Dgm⟩ := X.game
  obtain ⟨fal, dal, Dal⟩ := X.atl
  obtain ⟨frk, drk, Drk⟩ := X.rek
  obtain ⟨fam, dam, Dam⟩ := X.atm
  obtain ⟨flk, dlk, Dlk⟩ := X.alk
  obtain ⟨fap, dap, Dap⟩ := X.apt
  obtain ⟨fcn, dcn, Dcn⟩ := X.can
  obtain ⟨fwg, dwg, Dwg⟩ := X.wng
  obtain ⟨fou, dou, Dou⟩ := X.out
  obtain ⟨fce, dce, Dce⟩ := X.cell
  obtain ⟨fdi, ddi, Ddi⟩ := X.digits
  obtain ⟨fpu, dpu, Dpu⟩ := X.put
  obtain ⟨fdr, ddr, Ddr⟩ := X.drawn
  obtain ⟨ffa, dfa, Dfa⟩ := X.family
  obtain ⟨fco, dco, Dco⟩ := X.count
  obtain ⟨fbu, dbu, Dbu⟩ := X.built
  obtain ⟨fis, dis, Dis⟩ := X.is_
  obtain ⟨fmo, dmo, Dmo⟩ := X.moves
  obtain ⟨fwi, dwi, Dwi⟩ := X.wins
  obtain ⟨fsu, dsu, Dsu⟩ := X.sum
  have GYI : FnOk P w K mg base CX0 1 fYI dYI ["self"] (spYInit P w Y) := ok_yinit FYI T
  have GOI : FnOk P w K mg base CX0 1 fOI dOI ["self", "yard"] (spOInit O) := ok_oinit FOI T
  have Gal : FnOk P w K mg base CX0 100 fal dal ["self", "one", "other"] (spRel P w Y O ge) := atl_rel (all_at Dal Drk X.C 48)
  have Gam : FnOk P w K mg base CX0 101 fam dam ["self", "one", "other"] (spRel P w Y O atMostF) := ok_atmost Dam T Dal Gal
  have Glk : FnOk P w K mg base CX0 101 flk dlk ["self", "one", "other"] (spRel P w Y O alikeF) := ok_alike Dlk T Dal Gal
  have Gap : FnOk P w K mg base CX0 101 fap dap ["self", "one", "other"] (spRel P w Y O apartF) := ok_apart Dap T Dal Gal
  have Gcn : FnOk P w K mg base CX0 100 fcn dcn ["self", "game", "side"] (spCan P w Y O 48) := all_can Dcn Dwg X.C 48
  have Gou : FnOk P w K mg base CX0 101 fou dou ["self", "game"] (spOutcome P w Y O 48) := ok_outcome Dou Dcn T Gcn
  have Gce : FnOk P w K mg base CX0 1 fce dce ["_law_script", "_law_k"] (spCell K) := ok_cell Dce T
  have Gdi : FnOk P w K mg base CX0 1 fdi ddi ["_law_cell_here", "_law_count_here"] spDigits := ok_digits Ddi T
  have Gfa : FnOk P w K mg base CX0 2 ffa dfa ["_law_script", "_law_first", "_law_count_here", "_law_most"] (spFamily K) := ok_family Dfa T Dce Ddi Dpu Ddr
  have Gco : FnOk P w K mg base CX0 1 fco dco ["_law_cell_here"] spCount := ok_count Dco T
  have Gbu : FnOk P w K mg base CX0 3 fbu dbu ["_law_yard", "_law_model"] (spBuilt P w Y) := ok_built Dbu T Dgm Dck
  have Gis : FnOk P w K mg base CX0 1 fis dis ["_law_told", "_law_due"] spIs := ok_is Dis T
  have Gwi : FnOk P w K mg base CX0 50 fwi dwi ["_law_model", "_law_known", "_law_one", "_law_other", "_law_side"] (spWins 48) := all_wins Dwi T Dmo 48
  have Gsu : FnOk P w K mg base CX0 3 fsu dsu ["_law_yard", "_law_model", "_law_first", "_law_second"] (spSum P w Y) := ok_sum Dsu T Dgm Dck Dmo
  refine D.F.ok scLaw (fun vs H Q E h => ?_) (fun cdv A outer s H vs Q E hr h => ?_)
  · obtain ⟨a, ns, rfl, _⟩ := h
    rfl
  · obtain ⟨a, ns, rfl, hS, h63, k⟩ := h
    have r1 : Room 1 _ := hr.mono (by omega)
    have r2 : Room 2 _ := hr.mono (by omega)
    have r3 : Room 3 _ := hr.mono (by omega)
    have r50 : Room 50 _ := hr.mono (by omega)
    have r100 : Room 100 _ := hr.mono (by omega)
    have hu := hu_of hr
    refine ⟨_, pss_cons (ps_set (i := 1) scLaw.nd rfl (Or.inl rfl) (pe_make0 MY GYI r2 (by rfl) T.mgY bYI .nil pass0))
      (pss_cons (ps_set (i := 2) scLaw.nd rfl (Or.inl rfl) (pe_make MO GOI r2 (by rfl) T.mgO bOI .nil pass0 (pa_cons (pv 1) pa_nil)))
      (pss_cons (ps_set (i := 3) scLaw.nd rfl (Or.inl rfl) (pe_ix ix_tup (pe_call Gfa r2 (by rfl) Dfa.m Dfa.F.kp Dfa.b .nil pass0 (pa_cons (pv 0) (pa_cons pe_int (pa_cons (pe_call Gco r1 (by rfl) Dco.m Dco.F.kp Dco.b .nil pass0 (pa_cons (pe_call Gce r1 (by rfl) Dce.m Dce.F.kp Dce.b .nil pass0 (pa_cons (pv 0) (pa_cons pe_int pa_nil))) pa_nil)) (pa_cons pe_int pa_nil))))) pe_int (fun _ _ => rfl)))
      (pss_cons (ps_set (i := 4) scLaw.nd rfl (Or.inl rfl) (pe_call Gbu r3 (by rfl) Dbu.m Dbu.F.kp Dbu.b .nil pass0 (pa_cons (pv 1) (pa_cons (pv 3) pa_nil))))
      (pss_cons (ps_set (i := 5) scLaw.nd rfl (Or.inl rfl) pe_dnewT)
      (pss_cons (ps_for PassesOwn.never rfl (pi_range1 (by rfl) T.range (pa_cons (pe_callB cr_lenL (by rfl) T.len PySem.boot_len (pa_cons (pv 3) pa_nil)) pa_nil)) (pg_name (i := 6) scLaw.nd rfl (Or.inl rfl)) (pss_one (ps_for PassesOwn.never rfl (pi_range1 (by rfl) T.range (pa_cons (pe_callB cr_lenL (by rfl) T.len PySem.boot_len (pa_cons (pv 3) pa_nil)) pa_nil)) (pg_name (i := 7) scLaw.nd rfl (Or.inl rfl)) (pss_cons (ps_set (i := 8) scLaw.nd rfl (Or.inl rfl) (pe_not (pe_call Gwi r50 (by rfl) Dwi.m Dwi.F.kp Dwi.b .nil pass0 (pa_cons (pv 3) (pa_cons (pv 5) (pa_cons (pv 6) (pa_cons (pv 7) (pa_cons pe_int pa_nil))))))))
      (pss_cons (ps_if (pt_not (pt_val (pe_call Gis r1 (by rfl) Dis.m Dis.F.kp Dis.b .nil pass0 (pa_cons (pe_meth (pv 2) T.clO Dal.m Gal r100 Dal.b .nil pass0 (pa_cons (pe_ix ix_list (pv 4) (pv 6) (fun _ _ => rfl)) (pa_cons (pe_ix ix_list (pv 4) (pv 7) (fun _ _ => rfl)) pa_nil))) (pa_cons (pv 8) pa_nil))))) (pss_one (ps_ret pe_bl)) pss_nil)
      (C8.pss_cut (ps_set (i := 9) scLaw.nd rfl (Or.inl rfl) (pe_and (pv 8) (pe_one (pe_not (pe_call Gwi r50 (by rfl) Dwi.m Dwi.F.kp Dwi.b .nil pass0 (pa_cons (pv 3) (pa_cons (pv 5) (pa_cons (pv 6) (pa_cons (pv 7) (pa_cons pe_int pa_nil))))))))))
      (pss_one (ps_if (pt_not (pt_val (pe_call Gis r1 (by rfl) Dis.m Dis.F.kp Dis.b .nil pass0 (pa_cons (pe_meth (pv 2) T.clO Dlk.m Glk hr Dlk.b .nil pass0 (pa_cons (pe_ix ix_list (pv 4) (pv 6) (fun _ _ => rfl)) (pa_cons (pe_ix ix_list (pv 4) (pv 7) (fun _ _ => rfl)) pa_nil))) (pa_cons (pv 9) pa_nil))))) (pss_one (ps_ret pe_bl)) pss_nil))))))))
      (pss_cons (ps_set (i := 10) scLaw.nd rfl (Or.inl rfl) (pe_call Gdi r1 (by rfl) Ddi.m Ddi.F.kp Ddi.b .nil pass0 (pa_cons (pe_call Gce r1 (by rfl) Dce.m Dce.F.kp Dce.b .nil pass0 (pa_cons (pv 0) (pa_cons pe_int pa_nil))) (pa_cons pe_int pa_nil))))
      (pss_cons (ps_set (i := 6) scLaw.nd rfl (Or.inl rfl) (pe_op op_sub (pe_op op_sub (pe_callB cr_lenL (by rfl) T.len PySem.boot_len (pa_cons (pv 3) pa_nil)) pe_int) (pe_op op_mod (pe_callTy cr_int (by rfl) T.int PyProof.Rows.boot_int (pa_cons (pe_ix ix_list (pv 10) pe_int (fun _ _ => rfl)) pa_nil)) (pe_callB cr_lenL (by rfl) T.len PySem.boot_len (pa_cons (pv 3) pa_nil)))))
      (pss_cons (ps_set (i := 7) scLaw.nd rfl (Or.inl rfl) (pe_op op_sub (pe_op op_sub (pe_callB cr_lenL (by rfl) T.len PySem.boot_len (pa_cons (pv 3) pa_nil)) pe_int) (pe_op op_mod (pe_callTy cr_int (by rfl) T.int PyProof.Rows.boot_int (pa_cons (pe_ix ix_list (pv 10) pe_int (fun _ _ => rfl)) pa_nil)) (pe_callB cr_lenL (by rfl) T.len PySem.boot_len (pa_cons (pv 3) pa_nil)))))
      (pss_cons (ps_set (i := 11) scLaw.nd rfl (Or.inl rfl) (pe_call Gsu r3 (by rfl) Dsu.m Dsu.F.kp Dsu.b .nil pass0 (pa_cons (pv 1) (pa_cons (pv 3) (pa_cons (pv 6) (pa_cons (pv 7) pa_nil))))))
      (pss_cons (ps_if (pt_not (pt_val (pe_call Gis r1 (by rfl) Dis.m Dis.F.kp Dis.b .nil pass0 (pa_cons (pe_meth (pv 2) T.clO Dcn.m Gcn r100 Dcn.b .nil pass0 (pa_cons (pv 11) (pa_cons pe_str pa_nil))) (pa_cons (pe_not (pe_meth (pv 2) T.clO Dal.m Gal r100 Dal.b .nil pass0 (pa_cons (pe_ix ix_list (pv 4) (pv 6) (fun _ _ => rfl)) (pa_cons (pe_ix ix_list (pv 4) (pv 7) (fun _ _ => rfl)) pa_nil)))) pa_nil))))) (pss_one (ps_ret pe_bl)) pss_nil)
      (pss_cons (ps_if (pt_not (pt_val (pe_call Gis r1 (by rfl) Dis.m Dis.F.kp Dis.b .nil pass0 (pa_cons (pe_meth (pv 2) T.clO Dcn.m Gcn r100 Dcn.b .nil pass0 (pa_cons (pv 11) (pa_cons pe_str pa_nil))) (pa_cons (pe_not (pe_meth (pv 2) T.clO Dam.m Gam hr Dam.b .nil pass0 (pa_cons (pe_ix ix_list (pv 4) (pv 6) (fun _ _ => rfl)) (pa_cons (pe_ix ix_list (pv 4) (pv 7) (fun _ _ => rfl)) pa_nil)))) pa_nil))))) (pss_one (ps_ret pe_bl)) pss_nil)
      (pss_cons (ps_if (pt_not (pt_val (pe_call Gis r1 (by rfl) Dis.m Dis.F.kp Dis.b .nil pass0 (pa_cons (pe_meth (pv 2) T.clO Dlk.m Glk hr Dlk.b .nil pass0 (pa_cons (pe_ix ix_list (pv 4) (pv 6) (fun _ _ => rfl)) (pa_cons (pe_ix ix_list (pv 4) (pv 7) (fun _ _ => rfl)) pa_nil))) (pa_cons (pe_cmpR op_eq (pe_meth (pv 2) T.clO Dou.m Gou hr Dou.b .nil pass0 (pa_cons (pv 11) pa_nil)) pe_str (nomark _)) pa_nil))))) (pss_one (ps_ret pe_bl)) pss_nil)
      (pss_one (ps_ret (pe_call Gis r1 (by rfl) Dis.m Dis.F.kp Dis.b .nil pass0 (pa_cons (pe_meth (pv 2) T.clO Dap.m Gap hr Dap.b .nil pass0 (pa_cons (pe_ix ix_list (pv 4) (pv 6) (fun _ _ => rfl)) (pa_cons (pe_ix ix_list (pv 4) (pv 7) (fun _ _ => rfl)) pa_nil))) (pa_cons (pe_cmpR op_eq (pe_meth (pv 2) T.clO Dou.m Gou hr Dou.b .nil pass0 (pa_cons (pv 11) pa_nil)) pe_str (nomark _)) pa_nil))))))))))))))))), ?_⟩
    -- _law_yard = Yard()
    intro y dy ny ndy ney
    have sy : Same H (upd (upd H dy (.own y)) y (.ins Y dy [])) := fun b u e => by
      rw [upd_ne (ne_of_none e ny), upd_ne (ne_of_none e ndy)]
      exact e
    have y0 : (upd (upd H dy (.own y)) y (.ins Y dy [])) y = some (.ins Y dy []) := upd_same
    generalize upd (upd H dy (.own y)) y (.ins Y dy []) = Hy at sy y0 ⊢
    refine ⟨y, dy, rfl, y0, fun H1 L yd1 k1 fl1 => ⟨rfl, ?_⟩⟩
    have s1 : Same H H1 := same_over sy k1 (one_new ny)
    have flH : ∀ x ∈ L.S, H x = none := fun x hx => sy.free (fl1 x hx)
    -- _law_order = Order(_law_yard)
    refine ⟨_, rfl, ?_⟩
    intro o d_o no ndo neo
    have so : Same H1 (upd (upd H1 d_o (.own o)) o (.ins O d_o [])) := fun b u e => by
      rw [upd_ne (ne_of_none e no), upd_ne (ne_of_none e ndo)]
      exact e
    have o0 : (upd (upd H1 d_o (.own o)) o (.ins O d_o [])) o = some (.ins O d_o []) := upd_same
    generalize upd (upd H1 d_o (.own o)) o (.ins O d_o []) = Ho at so o0 ⊢
    refine ⟨o, y, d_o, rfl, o0, fun H2 da dc od2 k2 fa2 fc2 => ⟨rfl, ?_⟩⟩
    have s12 : Same H1 H2 := same_over so k2 (one_new no)
    have s2 := s1.trans s12
    have fda : H da = none := s1.free (so.free fa2)
    have fdc : H dc = none := s1.free (so.free fc2)
    have yd2 := yd1.same s12
    -- _law_model = _law_family(..)[0]
    refine ⟨_, rfl, _, rfl, a, ns, 0, rfl, s2.seq hS, by decide, fun z => ?_⟩
    refine ⟨z, rfl, fun c hc => ?_⟩
    refine ⟨a, ns, c, L.S, rfl, s2.seq hS, hc, yd2.live, fun H3 t3 m hg fm s3 e3 md3 good h24 => ?_⟩
    refine ⟨t3, _, 0, _, rfl, rfl, SqT.of e3, rfl, ?_⟩
    -- _law_numbers = _law_built(_law_yard, _law_model)
    have yd3 := yd2.same s3
    refine ⟨_, rfl, _, rfl, y, m, L, L.S, fm, rfl, yd3, md3, fun x hx => hx, good, h24, fun H4 nm nnm num4 yd4 k4 => ?_⟩
    have s03 := s2.trans s3
    have s4 : Same H H4 := same_over s03 k4 flH
    have notup : ∀ z ∈ L.S, ∀ xs, H3 z ≠ some (.tup xs) := fun z hz xs e => yd3.notin e (fun _ q => nomatch q) (fun _ q => nomatch q) hz
    have md4 : ModelAt H4 L.S m fm := md3.keep k4 (fun z hz => .inl hz) notup
    have aw4 : ∀ {b : Addr} {u : HO}, H3 b = some u → (∀ xs, u ≠ .lst xs) → (∀ φ, u ≠ .ext φ) → H4 b = some u := fun {b u} e n1 n2 => k4 _ _ e (yd3.notin e n1 n2)
    obtain ⟨dx2, o2⟩ := od2.ob
    have od4 : OrderAt O H4 o y da dc [] [] := ⟨⟨dx2, aw4 (s3 _ _ o2) (fun _ z => nomatch z) (fun _ z => nomatch z)⟩, aw4 (s3 _ _ od2.a) (fun _ z => nomatch z) (fun _ z => nomatch z), aw4 (s3 _ _ od2.c) (fun _ z => nomatch z) (fun _ z => nomatch z), od2.ne⟩
    have nmS : nm ∉ L.S := yd3.live.fresh nnm
    -- _law_known = {}
    intro kn nkn
    have s5 := same_new nkn (.dT [])
    have x5 : (upd H4 kn (.dT [])) kn = some (.dT []) := upd_same
    have ak : da ≠ kn := ne_of_none od4.a nkn
    have ck : dc ≠ kn := ne_of_none od4.c nkn
    have fkn : H kn = none := s4.free nkn
    generalize upd H4 kn (.dT []) = H5 at s5 x5 ⊢
    obtain ⟨dx4, o4⟩ := od4.ob
    have st5 : Stage P w Y O H H5 o y da dc m nm kn L fm fm [] [] [] :=
      ⟨s4.trans s5, ⟨⟨dx4, s5 _ _ o4⟩, s5 _ _ od4.a, s5 _ _ od4.c, od4.ne⟩, Memo.empty, Memo.empty, yd4.same s5, md4.same s5, s5 _ _ num4, x5, Memo.empty, ak, ck, nmS, fda, fdc, fkn, flH⟩
    have pick : ∀ {b : Nat}, b < fm.length → (nI (List.range fm.length))[b]? = some (.int (b : Int)) := fun {b} hb => nI_get (by rw [List.getElem?_range hb])
    have mlist : ∀ {G : Hp} {fy : List Form} {ka kc kw : List (List Key × V)}, Stage P w Y O H G o y da dc m nm kn L fm fy ka kc kw → ∃ xs : List V, G m = some (.lst xs) ∧ xs.length = fm.length := fun st => by
      obtain ⟨ts, e, _, hF⟩ := st.md.ex
      exact ⟨_, e, by rw [List.length_map, hF.1]⟩
    have preFF := Pre.refl fm
    -- the loops
    obtain ⟨xs5, em5, el5⟩ := mlist st5
    refine ⟨_, rfl, m, _, rfl, SqL.of em5, _, rfl, by omega, by omega, ?_⟩
    rw [Int.toNat_natCast, el5]
    refine for_range (lo := 0) (n := fm.length) (fun i σ G => ∃ (ka kw : List (List Key × V)) (v6 v7 v8 v9 : Option V), σ = [some (.ref a), some (.ref y), some (.ref o), some (.ref m), some (.ref nm), some (.ref kn), v6, v7, v8, v9, none, none] ∧
        Stage P w Y O H G o y da dc m nm kn L fm fm ka [] kw) ⟨[], [], none, none, none, none, rfl, st5⟩ ?_ ?_
    · rintro i σ G hi ⟨ka, kw, v6, v7, v8, v9, rfl, st⟩
      rw [Int.zero_add]
      obtain ⟨xs, em, el⟩ := mlist st
      refine ⟨_, rfl, m, _, rfl, SqL.of em, _, rfl, by omega, by omega, ?_⟩
      rw [Int.toNat_natCast, el]
      refine for_range (lo := 0) (n := fm.length) (fun j σ G => ∃ (ka kw : List (List Key × V)) (v7 v8 v9 : Option V), σ = [some (.ref a), some (.ref y), some (.ref o), some (.ref m), some (.ref nm), some (.ref kn), some (.int (i : Int)), v7, v8, v9, none, none] ∧
          Stage P w Y O H G o y da dc m nm kn L fm fm ka [] kw) ⟨ka, kw, v7, v8, v9, rfl, st⟩ ?_ ?_
      · clear st em
        rintro j σ G hj ⟨ka, kw, v7, v8, v9, rfl, st⟩
        rw [Int.zero_add]
        -- _law_due
        refine ⟨_, rfl, _, rfl, _, rfl, _, rfl, m, kn, L.S, fm, kw, i, j, true, rfl, st.md, good, h24, st.kno, st.mw, hi, hj, by omega, fun G1 kw1 h1 mw1 k1 => ⟨_, rfl, ?_⟩⟩
        have st1 := st.win h1 mw1 k1
        -- at_least
        obtain ⟨dx, g1⟩ := st1.ord.ob
        refine ⟨_, rfl, o, dx, _, rfl, g1, no_of y da dc, _, rfl, _, rfl, nm, _, _, _, rfl, rfl, SqL.of st1.num, atI_nat (pick hi), _, rfl, _, rfl, nm, _, _, _, rfl, rfl, SqL.of st1.num, atI_nat (pick hj),
          o, y, da, dc, L, fm, fm, ka, [], i, j, rfl, st1.ord, st1.yd, preFF, good.wf, h24, st1.ma, hi, hj, fun G2 ka2 od2 ma2 k2 => ?_⟩
        have st2 := st1.atl od2 ma2 k2
        refine ⟨_, rfl, _, _, rfl, _, rfl, ?_⟩
        have b1 : (ge fm i j == !win fm i j true) = true := beq_self_eq_true _
        rw [b1]
        refine iteF ?_
        -- _law_both
        refine ⟨fun σ G => ∃ (ka kw : List (List Key × V)), σ = [some (.ref a), some (.ref y), some (.ref o), some (.ref m), some (.ref nm), some (.ref kn), some (.int (i : Int)), some (.int (j : Int)), some (.bl (!win fm i j true)), some (.bl (alikeF fm i j)), none, none] ∧
          Stage P w Y O H G o y da dc m nm kn L fm fm ka [] kw, ?_, ?_⟩
        · refine ⟨_, rfl, _, rfl, ?_⟩
          have ea : alikeF fm i j = (!win fm i j true && !win fm i j false) := by
            unfold alikeF ge
            rw [win_swap good.wf j i true] <;> rfl
          rw [ea]
          cases ew : win fm i j true with
          | true => exact iteF ⟨ka2, kw1, rfl, st2⟩
          | false =>
            refine iteT ?_
            refine ⟨_, rfl, _, rfl, _, rfl, _, rfl, m, kn, L.S, fm, kw1, i, j, false, rfl, st2.md, good, h24, st2.kno, st2.mw, hi, hj, by omega, fun G3 kw3 h3 mw3 k3 => ⟨_, rfl, ?_⟩⟩
            exact ⟨ka2, kw3, rfl, st2.win h3 mw3 k3⟩
        rintro σ G3 ⟨ka3, kw3, rfl, st3⟩
        obtain ⟨dx3, g3⟩ := st3.ord.ob
        refine ⟨_, rfl, o, dx3, _, rfl, g3, no_of y da dc, _, rfl, _, rfl, nm, _, _, _, rfl, rfl, SqL.of st3.num, atI_nat (pick hi), _, rfl, _, rfl, nm, _, _, _, rfl, rfl, SqL.of st3.num, atI_nat (pick hj),
          o, y, da, dc, L, fm, fm, ka3, [], i, j, rfl, st3.ord, st3.yd, preFF, good.wf, h24, st3.ma, hi, hj, fun G4 ka4 od4 ma4 k4 => ?_⟩
        refine ⟨_, rfl, _, _, rfl, _, rfl, ?_⟩
        have b2 : (alikeF fm i j == alikeF fm i j) = true := beq_self_eq_true _
        rw [b2]
        exact iteF ⟨ka4, kw3, _, _, _, rfl, st3.atl od4 ma4 k4⟩
      rintro σ G' ⟨ka', kw', v7', v8', v9', rfl, st'⟩
      exact ⟨ka', kw', _, _, _, _, rfl, st'⟩
    rintro σ G ⟨ka, kw, v6, v7, v8, v9, rfl, st⟩
    -- the two drawn games
    refine ⟨_, rfl, a, ns, 25, rfl, st.old.seq hS, by decide, fun z => ?_⟩
    refine ⟨z, 2, rfl, by decide, fun dg ds ndg hd2 => ?_⟩
    have s6 := same_new ndg (.lst (ds.map V.int))
    have d6 : (upd G dg (.lst (ds.map V.int))) dg = some (.lst (ds.map V.int)) := upd_same
    have st6 := st.same s6
    generalize upd G dg (.lst (ds.map V.int)) = G6 at s6 d6 st6 ⊢
    obtain ⟨z0, e0⟩ := ints_at hd2 0 (by decide)
    obtain ⟨z1, e1⟩ := ints_at hd2 1 (by decide)
    obtain ⟨xs6, em6, el6⟩ := mlist st6
    have hpos := good.len
    have place : ∀ u : Int, ∃ p : Nat, p < fm.length ∧ (((xs6.length : Nat) : Int) - 1 - u % ((xs6.length : Nat) : Int)) = (p : Int) := fun u => by
      have q1 := Int.emod_nonneg u (show ((xs6.length : Nat) : Int) ≠ 0 by omega)
      have q2 := Int.emod_lt_of_pos u (show (0 : Int) < ((xs6.length : Nat) : Int) by omega)
      exact ⟨(((xs6.length : Nat) : Int) - 1 - u % ((xs6.length : Nat) : Int)).toNat, by omega, by omega⟩
    obtain ⟨p, hp, ep⟩ := place z0
    obtain ⟨q, hq, eq⟩ := place z1
    have xpos : (0 : Int) < ((xs6.length : Nat) : Int) := by omega
    refine ⟨_, rfl, m, _, rfl, SqL.of em6, _, _, rfl, rfl, _, rfl, dg, _, _, _, rfl, rfl, SqL.of d6, atI_nat (j := 0) e0, _, rfl, _, rfl, m, _, rfl, SqL.of em6, _, _, rfl, rfl, xpos, _, _, rfl, rfl, ?_⟩
    simp only [ep]
    refine ⟨_, rfl, m, _, rfl, SqL.of em6, _, _, rfl, rfl, _, rfl, dg, _, _, _, rfl, rfl, SqL.of d6, atI_nat (j := 1) e1, _, rfl, _, rfl, m, _, rfl, SqL.of em6, _, _, rfl, rfl, xpos, _, _, rfl, rfl, ?_⟩
    simp only [eq]
    -- the sum
    refine ⟨_, rfl, _, rfl, _, rfl, _, rfl, y, m, L, fm, p, q, rfl, st6.yd, st6.md, good, h24, hp, hq, fun G7 fy t yd7 tab h1000 k7 => ?_⟩
    have st7 := st6.sum yd7 k7
    have rank : Rank fy (fun d g => ∃ i j, i ≤ p ∧ j ≤ q ∧ i + j = d ∧ g = t i j) := fun d g h => by
      obtain ⟨i, j, hi, hj, rfl, rfl⟩ := h
      have hd : Done q (p + 1) 0 i j := .inl ⟨by omega, hj⟩
      refine ⟨tab.lt i j hd, fun s o ho => ?_⟩
      obtain ⟨mv, hmv, rfl⟩ := (tab.op i j hd s o).mp ho
      obtain ⟨h1, h2, h3⟩ := moves_mem good.wf hmv
      exact ⟨mv.1 + mv.2, h1, mv.1, mv.2, by omega, by omega, rfl, rfl⟩
    have tbl : Tbl fm fy t p q := fun i j hi hj s k => tab.op i j (.inl ⟨by omega, hj⟩) s k
    have cwt : ∀ s, cw fy (t p q) s = win fm p q s := fun s => cw_sum good.wf yd7.good.wf tbl s
    have top : (fun d g => ∃ i j, i ≤ p ∧ j ≤ q ∧ i + j = d ∧ g = t i j) (p + q) (t p q) := ⟨p, q, Nat.le_refl _, Nat.le_refl _, rfl, rfl⟩
    have hpq : p + q < 48 := by omega
    have pre7 := tab.pre
    -- can_win, right begins
    obtain ⟨dx7, g7⟩ := st7.ord.ob
    refine ⟨_, rfl, o, dx7, _, rfl, g7, no_of y da dc, _, rfl, o, y, da, dc, L, fy, ka, [], t p q, true, _, p + q, rfl, st7.ord, st7.yd, rank, top, hpq, h1000, st7.mc, fun G8 kc8 od8 mc8 k8 => ?_⟩
    have st8 := st7.can od8 mc8 k8
    obtain ⟨dx8, g8⟩ := st8.ord.ob
    refine ⟨_, rfl, o, dx8, _, rfl, g8, no_of y da dc, _, rfl, _, rfl, nm, _, _, _, rfl, rfl, SqL.of st8.num, atI_nat (pick hp), _, rfl, _, rfl, nm, _, _, _, rfl, rfl, SqL.of st8.num, atI_nat (pick hq),
      o, y, da, dc, L, fy, fm, ka, kc8, p, q, rfl, st8.ord, st8.yd, pre7, good.wf, h24, st8.ma, hp, hq, fun G9 ka9 od9 ma9 k9 => ⟨_, rfl, ?_⟩⟩
    have st9 := st8.atl od9 ma9 k9
    refine ⟨_, _, rfl, _, rfl, ?_⟩
    have b3 : (cw fy (t p q) true == !ge fm p q) = true := by
      rw [cwt]
      unfold ge
      rw [Bool.not_not]
      exact beq_self_eq_true _
    rw [b3]
    refine iteF ?_
    -- can_win, left begins
    obtain ⟨dx9, g9⟩ := st9.ord.ob
    refine ⟨_, rfl, o, dx9, _, rfl, g9, no_of y da dc, _, rfl, o, y, da, dc, L, fy, ka9, kc8, t p q, false, _, p + q, rfl, st9.ord, st9.yd, rank, top, hpq, h1000, st9.mc, fun G10 kc10 od10 mc10 k10 => ?_⟩
    have st10 := st9.can od10 mc10 k10
    obtain ⟨dx10, g10⟩ := st10.ord.ob
    refine ⟨_, rfl, o, dx10, _, rfl, g10, no_of y da dc, _, rfl, _, rfl, nm, _, _, _, rfl, rfl, SqL.of st10.num, atI_nat (pick hp), _, rfl, _, rfl, nm, _, _, _, rfl, rfl, SqL.of st10.num, atI_nat (pick hq),
      o, y, da, dc, L, fy, fm, ka9, kc10, p, q, rfl, st10.ord, st10.yd, pre7, good.wf, h24, st10.ma, hp, hq, fun G11 ka11 od11 ma11 k11 => ⟨_, rfl, ?_⟩⟩
    have st11 := st10.atl od11 ma11 k11
    refine ⟨_, _, rfl, _, rfl, ?_⟩
    have b4 : (cw fy (t p q) false == !atMostF fm p q) = true := by
      rw [cwt]
      unfold atMostF ge
      rw [Bool.not_not, win_swap good.wf q p true]
      exact beq_self_eq_true _
    rw [b4]
    refine iteF ?_
    -- alike, and the outcome is second
    obtain ⟨dx11, g11⟩ := st11.ord.ob
    refine ⟨_, rfl, o, dx11, _, rfl, g11, no_of y da dc, _, rfl, _, rfl, nm, _, _, _, rfl, rfl, SqL.of st11.num, atI_nat (pick hp), _, rfl, _, rfl, nm, _, _, _, rfl, rfl, SqL.of st11.num, atI_nat (pick hq),
      o, y, da, dc, L, fy, fm, ka11, kc10, p, q, rfl, st11.ord, st11.yd, pre7, good.wf, h24, st11.ma, hp, hq, fun G12 ka12 od12 ma12 k12 => ?_⟩
    have st12 := st11.atl od12 ma12 k12
    obtain ⟨dx12, g12⟩ := st12.ord.ob
    refine ⟨_, rfl, o, dx12, _, rfl, g12, no_of y da dc, _, rfl, o, y, da, dc, L, fy, ka12, kc10, t p q, _, p + q, rfl, st12.ord, st12.yd, rank, top, hpq, h1000, st12.mc, fun G13 kc13 od13 mc13 k13 => ⟨rfl, ?_⟩⟩
    have st13 := st12.can od13 mc13 k13
    refine ⟨_, _, rfl, _, rfl, ?_⟩
    have b5 : (alikeF fm p q == decide (V.str (outS (cw fy (t p q) false) (cw fy (t p q) true)) = V.str ("second" : Str))) = true := by
      rw [out_second, cwt, cwt]
      unfold alikeF ge
      rw [win_swap good.wf q p true, Bool.and_comm]
      exact beq_self_eq_true _
    rw [b5]
    refine iteF ?_
    -- apart, and the outcome is first
    obtain ⟨dx13, g13⟩ := st13.ord.ob
    refine ⟨_, rfl, o, dx13, _, rfl, g13, no_of y da dc, _, rfl, _, rfl, nm, _, _, _, rfl, rfl, SqL.of st13.num, atI_nat (pick hp), _, rfl, _, rfl, nm, _, _, _, rfl, rfl, SqL.of st13.num, atI_nat (pick hq),
      o, y, da, dc, L, fy, fm, ka12, kc13, p, q, rfl, st13.ord, st13.yd, pre7, good.wf, h24, st13.ma, hp, hq, fun G14 ka14 od14 ma14 k14 => ?_⟩
    have st14 := st13.atl od14 ma14 k14
    obtain ⟨dx14, g14⟩ := st14.ord.ob
    refine ⟨_, rfl, o, dx14, _, rfl, g14, no_of y da dc, _, rfl, o, y, da, dc, L, fy, ka14, kc13, t p q, _, p + q, rfl, st14.ord, st14.yd, rank, top, hpq, h1000, st14.mc, fun G15 kc15 od15 mc15 k15 => ⟨rfl, ?_⟩⟩
    refine ⟨_, _, rfl, ?_⟩
    have b6 : (apartF fm p q == decide (V.str (outS (cw fy (t p q) false) (cw fy (t p q) true)) = V.str ("first" : Str))) = true := by
      rw [out_first, cwt, cwt]
      unfold apartF ge
      rw [Bool.not_not, Bool.not_not, win_swap good.wf q p true, Bool.and_comm]
      exact beq_self_eq_true _
    rw [b6]
    exact k _
end
end K20
set_option Elab.async false
set_option linter.all false
set_option maxRecDepth 100000
set_option maxHeartbeats 16000000
/-! KEnd: what the top has left, the walk, the head. -/
namespace K20
open PySem L2
theorem all_mk {l : PySem.W.OpenLaw} {w : World} {K : PySem.W.Frag} {h : Heap} {mg : Str → Option Value} {fa Y O p : Addr} {rest : List Value} {f0 f1 f2 f3 f4 f5 f6 f7 f8 f9 f10 f11 f12 f13 f14 f15 f16 f17 f18 f19 f20 f21 f22 f23 f24 f25 f26 f27 f28 f29 : Addr} (X : K.In h) (G : h.Ns mainGlobals mg) (hfa : mg "law" = some (.ref fa))
    {od0 od1 od2 od3 od4 od5 od6 od7 od8 od9 od10 od11 od12 od13 od14 od15 od16 od17 od18 od19 od20 od21 od22 od23 od24 od25 od26 od27 od28 od29 an0 an1 an2 an3 an4 an5 an6 an7 an8 an9 an10 an11 an12 an13 an14 an15 an16 an17 an18 an19 an20 an21 an22 an23 an24 an25 an26 an27 an28 an29 : Option Addr} {sl0 sl1 sl2 sl3 sl4 sl5 sl6 sl7 sl8 sl9 sl10 sl11 sl12 sl13 sl14 sl15 sl16 sl17 sl18 sl19 sl20 sl21 sl22 sl23 sl24 sl25 sl26 sl27 sl28 sl29 : Array (Option Value)}
    {oc0 oc1 oc2 oc3 oc4 oc5 oc6 oc7 oc8 oc9 oc10 oc11 oc12 oc13 oc14 oc15 oc16 oc17 oc18 oc19 oc20 oc21 oc22 oc23 oc24 oc25 oc26 oc27 oc28 oc29 kV0 kV1 kV2 kV3 kV4 kV5 kV6 kV7 kV8 kV9 kV10 kV11 kV12 kV13 kV14 kV15 kV16 kV17 kV18 kV19 kV20 kV21 kV22 kV23 kV24 kV25 kV26 kV27 kV28 kV29 dc0 dc1 dc2 dc3 dc4 dc5 dc6 dc7 dc8 dc9 dc10 dc11 dc12 dc13 dc14 dc15 dc16 dc17 dc18 dc19 dc20 dc21 dc22 dc23 dc24 dc25 dc26 dc27 dc28 dc29 pm0 pm1 pm2 pm3 pm4 pm5 pm6 pm7 pm8 pm9 pm10 pm11 pm12 pm13 pm14 pm15 pm16 pm17 pm18 pm19 pm20 pm21 pm22 pm23 pm24 pm25 pm26 pm27 pm28 pm29 cd0 cd1 cd2 cd3 cd4 cd5 cd6 cd7 cd8 cd9 cd10 cd11 cd12 cd13 cd14 cd15 cd16 cd17 cd18 cd19 cd20 cd21 cd22 cd23 cd24 cd25 cd26 cd27 cd28 cd29 ct0 ct1 ct2 ct3 ct4 ct5 ct6 ct7 ct8 ct9 ct10 ct11 ct12 ct13 ct14 ct15 ct16 ct17 ct18 ct19 ct20 ct21 ct22 ct23 ct24 ct25 ct26 ct27 ct28 ct29 : Value}
    (a0 : PySem.W.nsIn K mainGlobals "other_side" = some (some (.ref f0)))
    (l0 : K.lookup f0 = some ⟨oc0, od0, .func (PySem.W.fnOf "other_side" "other_side" (defArgs sOtherSide) (defBody sOtherSide) (defScope sOtherSide) .none kV0 dc0 pm0 an0 cd0 ct0), sl0⟩)
    (c0 : PySem.W.codeIn K cd0 "other_side" = true)
    (k0 : PySem.W.keepIn K (.ref f0) = true)
    (a1 : PySem.W.nsIn K mainGlobals "_law_cell" = some (some (.ref f1)))
    (l1 : K.lookup f1 = some ⟨oc1, od1, .func (PySem.W.fnOf "_law_cell" "_law_cell" (defArgs sCell) (defBody sCell) (defScope sCell) .none kV1 dc1 pm1 an1 cd1 ct1), sl1⟩)
    (c1 : PySem.W.codeIn K cd1 "_law_cell" = true)
    (k1 : PySem.W.keepIn K (.ref f1) = true)
    (a2 : PySem.W.nsIn K mainGlobals "_law_digits" = some (some (.ref f2)))
    (l2 : K.lookup f2 = some ⟨oc2, od2, .func (PySem.W.fnOf "_law_digits" "_law_digits" (defArgs sDigits) (defBody sDigits) (defScope sDigits) .none kV2 dc2 pm2 an2 cd2 ct2), sl2⟩)
    (c2 : PySem.W.codeIn K cd2 "_law_digits" = true)
    (k2 : PySem.W.keepIn K (.ref f2) = true)
    (a3 : PySem.W.nsIn K mainGlobals "_law_put" = some (some (.ref f3)))
    (l3 : K.lookup f3 = some ⟨oc3, od3, .func (PySem.W.fnOf "_law_put" "_law_put" (defArgs sPut) (defBody sPut) (defScope sPut) .none kV3 dc3 pm3 an3 cd3 ct3), sl3⟩)
    (c3 : PySem.W.codeIn K cd3 "_law_put" = true)
    (k3 : PySem.W.keepIn K (.ref f3) = true)
    (a4 : PySem.W.nsIn K mainGlobals "_law_drawn" = some (some (.ref f4)))
    (l4 : K.lookup f4 = some ⟨oc4, od4, .func (PySem.W.fnOf "_law_drawn" "_law_drawn" (defArgs sDrawn) (defBody sDrawn) (defScope sDrawn) .none kV4 dc4 pm4 an4 cd4 ct4), sl4⟩)
    (c4 : PySem.W.codeIn K cd4 "_law_drawn" = true)
    (k4 : PySem.W.keepIn K (.ref f4) = true)
    (a5 : PySem.W.nsIn K mainGlobals "_law_family" = some (some (.ref f5)))
    (l5 : K.lookup f5 = some ⟨oc5, od5, .func (PySem.W.fnOf "_law_family" "_law_family" (defArgs sFamily) (defBody sFamily) (defScope sFamily) .none kV5 dc5 pm5 an5 cd5 ct5), sl5⟩)
    (c5 : PySem.W.codeIn K cd5 "_law_family" = true)
    (k5 : PySem.W.keepIn K (.ref f5) = true)
    (a6 : PySem.W.nsIn K mainGlobals "_law_count" = some (some (.ref f6)))
    (l6 : K.lookup f6 = some ⟨oc6, od6, .func (PySem.W.fnOf "_law_count" "_law_count" (defArgs sCount) (defBody sCount) (defScope sCount) .none kV6 dc6 pm6 an6 cd6 ct6), sl6⟩)
    (c6 : PySem.W.codeIn K cd6 "_law_count" = true)
    (k6 : PySem.W.keepIn K (.ref f6) = true)
    (a7 : PySem.W.nsIn K mainGlobals "_law_built" = some (some (.ref f7)))
    (l7 : K.lookup f7 = some ⟨oc7, od7, .func (PySem.W.fnOf "_law_built" "_law_built" (defArgs sBuilt) (defBody sBuilt) (defScope sBuilt) .none kV7 dc7 pm7 an7 cd7 ct7), sl7⟩)
    (c7 : PySem.W.codeIn K cd7 "_law_built" = true)
    (k7 : PySem.W.keepIn K (.ref f7) = true)
    (a8 : PySem.W.nsIn K mainGlobals "_law_is" = some (some (.ref f8)))
    (l8 : K.lookup f8 = some ⟨oc8, od8, .func (PySem.W.fnOf "_law_is" "_law_is" (defArgs sIs) (defBody sIs) (defScope sIs) .none kV8 dc8 pm8 an8 cd8 ct8), sl8⟩)
    (c8 : PySem.W.codeIn K cd8 "_law_is" = true)
    (k8 : PySem.W.keepIn K (.ref f8) = true)
    (a9 : PySem.W.nsIn K mainGlobals "_law_moves" = some (some (.ref f9)))
    (l9 : K.lookup f9 = some ⟨oc9, od9, .func (PySem.W.fnOf "_law_moves" "_law_moves" (defArgs sMoves) (defBody sMoves) (defScope sMoves) .none kV9 dc9 pm9 an9 cd9 ct9), sl9⟩)
    (c9 : PySem.W.codeIn K cd9 "_law_moves" = true)
    (k9 : PySem.W.keepIn K (.ref f9) = true)
    (a10 : PySem.W.nsIn K mainGlobals "_law_wins" = some (some (.ref f10)))
    (l10 : K.lookup f10 = some ⟨oc10, od10, .func (PySem.W.fnOf "_law_wins" "_law_wins" (defArgs sWins) (defBody sWins) (defScope sWins) .none kV10 dc10 pm10 an10 cd10 ct10), sl10⟩)
    (c10 : PySem.W.codeIn K cd10 "_law_wins" = true)
    (k10 : PySem.W.keepIn K (.ref f10) = true)
    (a11 : PySem.W.nsIn K mainGlobals "_law_sum" = some (some (.ref f11)))
    (l11 : K.lookup f11 = some ⟨oc11, od11, .func (PySem.W.fnOf "_law_sum" "_law_sum" (defArgs sSum) (defBody sSum) (defScope sSum) .none kV11 dc11 pm11 an11 cd11 ct11), sl11⟩)
    (c11 : PySem.W.codeIn K cd11 "_law_sum" = true)
    (k11 : PySem.W.keepIn K (.ref f11) = true)
    (a12 : PySem.W.nsIn K mainGlobals "law" = some (some (.ref f12)))
    (l12 : K.lookup f12 = some ⟨oc12, od12, .func (PySem.W.fnOf "law" "law" (defArgs sLaw) (defBody sLaw) (defScope sLaw) .none kV12 dc12 pm12 an12 cd12 ct12), sl12⟩)
    (c12 : PySem.W.codeIn K cd12 "law" = true)
    (k12 : PySem.W.keepIn K (.ref f12) = true)
    (a13 : PySem.W.findIn K (.ref Y) "__init__" = some (some (.ref f13)))
    (i13 : PySem.W.isFn K (.ref f13) = true)
    (l13 : K.lookup f13 = some ⟨oc13, od13, .func (PySem.W.fnOf "__init__" "Yard.__init__" (defArgs sYInit) (defBody sYInit) (defScope sYInit) .none kV13 dc13 pm13 an13 cd13 ct13), sl13⟩)
    (c13 : PySem.W.codeIn K cd13 "Yard.__init__" = true)
    (k13 : PySem.W.keepIn K (.ref f13) = true)
    (a14 : PySem.W.findIn K (.ref Y) "game" = some (some (.ref f14)))
    (i14 : PySem.W.isFn K (.ref f14) = true)
    (l14 : K.lookup f14 = some ⟨oc14, od14, .func (PySem.W.fnOf "game" "Yard.game" (defArgs sGame) (defBody sGame) (defScope sGame) .none kV14 dc14 pm14 an14 cd14 ct14), sl14⟩)
    (c14 : PySem.W.codeIn K cd14 "Yard.game" = true)
    (k14 : PySem.W.keepIn K (.ref f14) = true)
    (a15 : PySem.W.findIn K (.ref Y) "_check" = some (some (.ref f15)))
    (i15 : PySem.W.isFn K (.ref f15) = true)
    (l15 : K.lookup f15 = some ⟨oc15, od15, .func (PySem.W.fnOf "_check" "Yard._check" (defArgs sCheck) (defBody sCheck) (defScope sCheck) .none kV15 dc15 pm15 an15 cd15 ct15), sl15⟩)
    (c15 : PySem.W.codeIn K cd15 "Yard._check" = true)
    (k15 : PySem.W.keepIn K (.ref f15) = true)
    (a16 : PySem.W.findIn K (.ref Y) "height" = some (some (.ref f16)))
    (i16 : PySem.W.isFn K (.ref f16) = true)
    (l16 : K.lookup f16 = some ⟨oc16, od16, .func (PySem.W.fnOf "height" "Yard.height" (defArgs sHeight) (defBody sHeight) (defScope sHeight) .none kV16 dc16 pm16 an16 cd16 ct16), sl16⟩)
    (c16 : PySem.W.codeIn K cd16 "Yard.height" = true)
    (k16 : PySem.W.keepIn K (.ref f16) = true)
    (a17 : PySem.W.findIn K (.ref Y) "lefts" = some (some (.ref f17)))
    (i17 : PySem.W.isFn K (.ref f17) = true)
    (l17 : K.lookup f17 = some ⟨oc17, od17, .func (PySem.W.fnOf "lefts" "Yard.lefts" (defArgs sLefts) (defBody sLefts) (defScope sLefts) .none kV17 dc17 pm17 an17 cd17 ct17), sl17⟩)
    (c17 : PySem.W.codeIn K cd17 "Yard.lefts" = true)
    (k17 : PySem.W.keepIn K (.ref f17) = true)
    (a18 : PySem.W.findIn K (.ref Y) "rights" = some (some (.ref f18)))
    (i18 : PySem.W.isFn K (.ref f18) = true)
    (l18 : K.lookup f18 = some ⟨oc18, od18, .func (PySem.W.fnOf "rights" "Yard.rights" (defArgs sRights) (defBody sRights) (defScope sRights) .none kV18 dc18 pm18 an18 cd18 ct18), sl18⟩)
    (c18 : PySem.W.codeIn K cd18 "Yard.rights" = true)
    (k18 : PySem.W.keepIn K (.ref f18) = true)
    (a19 : PySem.W.findIn K (.ref Y) "options" = some (some (.ref f19)))
    (i19 : PySem.W.isFn K (.ref f19) = true)
    (l19 : K.lookup f19 = some ⟨oc19, od19, .func (PySem.W.fnOf "options" "Yard.options" (defArgs sOptions) (defBody sOptions) (defScope sOptions) .none kV19 dc19 pm19 an19 cd19 ct19), sl19⟩)
    (c19 : PySem.W.codeIn K cd19 "Yard.options" = true)
    (k19 : PySem.W.keepIn K (.ref f19) = true)
    (a20 : PySem.W.findIn K (.ref O) "__init__" = some (some (.ref f20)))
    (i20 : PySem.W.isFn K (.ref f20) = true)
    (l20 : K.lookup f20 = some ⟨oc20, od20, .func (PySem.W.fnOf "__init__" "Order.__init__" (defArgs sOInit) (defBody sOInit) (defScope sOInit) .none kV20 dc20 pm20 an20 cd20 ct20), sl20⟩)
    (c20 : PySem.W.codeIn K cd20 "Order.__init__" = true)
    (k20 : PySem.W.keepIn K (.ref f20) = true)
    (a21 : PySem.W.findIn K (.ref O) "at_least" = some (some (.ref f21)))
    (i21 : PySem.W.isFn K (.ref f21) = true)
    (l21 : K.lookup f21 = some ⟨oc21, od21, .func (PySem.W.fnOf "at_least" "Order.at_least" (defArgs sAtLeast) (defBody sAtLeast) (defScope sAtLeast) .none kV21 dc21 pm21 an21 cd21 ct21), sl21⟩)
    (c21 : PySem.W.codeIn K cd21 "Order.at_least" = true)
    (k21 : PySem.W.keepIn K (.ref f21) = true)
    (a22 : PySem.W.findIn K (.ref O) "_reckon" = some (some (.ref f22)))
    (i22 : PySem.W.isFn K (.ref f22) = true)
    (l22 : K.lookup f22 = some ⟨oc22, od22, .func (PySem.W.fnOf "_reckon" "Order._reckon" (defArgs sReckon) (defBody sReckon) (defScope sReckon) .none kV22 dc22 pm22 an22 cd22 ct22), sl22⟩)
    (c22 : PySem.W.codeIn K cd22 "Order._reckon" = true)
    (k22 : PySem.W.keepIn K (.ref f22) = true)
    (a23 : PySem.W.findIn K (.ref O) "at_most" = some (some (.ref f23)))
    (i23 : PySem.W.isFn K (.ref f23) = true)
    (l23 : K.lookup f23 = some ⟨oc23, od23, .func (PySem.W.fnOf "at_most" "Order.at_most" (defArgs sAtMost) (defBody sAtMost) (defScope sAtMost) .none kV23 dc23 pm23 an23 cd23 ct23), sl23⟩)
    (c23 : PySem.W.codeIn K cd23 "Order.at_most" = true)
    (k23 : PySem.W.keepIn K (.ref f23) = true)
    (a24 : PySem.W.findIn K (.ref O) "alike" = some (some (.ref f24)))
    (i24 : PySem.W.isFn K (.ref f24) = true)
    (l24 : K.lookup f24 = some ⟨oc24, od24, .func (PySem.W.fnOf "alike" "Order.alike" (defArgs sAlike) (defBody sAlike) (defScope sAlike) .none kV24 dc24 pm24 an24 cd24 ct24), sl24⟩)
    (c24 : PySem.W.codeIn K cd24 "Order.alike" = true)
    (k24 : PySem.W.keepIn K (.ref f24) = true)
    (a25 : PySem.W.findIn K (.ref O) "apart" = some (some (.ref f25)))
    (i25 : PySem.W.isFn K (.ref f25) = true)
    (l25 : K.lookup f25 = some ⟨oc25, od25, .func (PySem.W.fnOf "apart" "Order.apart" (defArgs sApart) (defBody sApart) (defScope sApart) .none kV25 dc25 pm25 an25 cd25 ct25), sl25⟩)
    (c25 : PySem.W.codeIn K cd25 "Order.apart" = true)
    (k25 : PySem.W.keepIn K (.ref f25) = true)
    (a26 : PySem.W.findIn K (.ref O) "can_win" = some (some (.ref f26)))
    (i26 : PySem.W.isFn K (.ref f26) = true)
    (l26 : K.lookup f26 = some ⟨oc26, od26, .func (PySem.W.fnOf "can_win" "Order.can_win" (defArgs sCanWin) (defBody sCanWin) (defScope sCanWin) .none kV26 dc26 pm26 an26 cd26 ct26), sl26⟩)
    (c26 : PySem.W.codeIn K cd26 "Order.can_win" = true)
    (k26 : PySem.W.keepIn K (.ref f26) = true)
    (a27 : PySem.W.findIn K (.ref O) "winning" = some (some (.ref f27)))
    (i27 : PySem.W.isFn K (.ref f27) = true)
    (l27 : K.lookup f27 = some ⟨oc27, od27, .func (PySem.W.fnOf "winning" "Order.winning" (defArgs sWinning) (defBody sWinning) (defScope sWinning) .none kV27 dc27 pm27 an27 cd27 ct27), sl27⟩)
    (c27 : PySem.W.codeIn K cd27 "Order.winning" = true)
    (k27 : PySem.W.keepIn K (.ref f27) = true)
    (a28 : PySem.W.findIn K (.ref O) "outcome" = some (some (.ref f28)))
    (i28 : PySem.W.isFn K (.ref f28) = true)
    (l28 : K.lookup f28 = some ⟨oc28, od28, .func (PySem.W.fnOf "outcome" "Order.outcome" (defArgs sOutcome) (defBody sOutcome) (defScope sOutcome) .none kV28 dc28 pm28 an28 cd28 ct28), sl28⟩)
    (c28 : PySem.W.codeIn K cd28 "Order.outcome" = true)
    (k28 : PySem.W.keepIn K (.ref f28) = true)
    (ap : PySem.W.findIn K (.ref O) "yard" = some (some (.ref p)))
    (gp : PySem.W.specialIn K (.ref p) "__get__" = some (some (.builtin "property.__get__")))
    (tp : PySem.W.takesIn K (.ref p) = some true)
    (rp : PySem.W.recIn K p "property" = some (.ref f29 :: rest))
    (l29 : K.lookup f29 = some ⟨oc29, od29, .func (PySem.W.fnOf "yard" "Order.yard" (defArgs sOYard) (defBody sOYard) (defScope sOYard) .none kV29 dc29 pm29 an29 cd29 ct29), sl29⟩)
    (c29 : PySem.W.codeIn K cd29 "Order.yard" = true)
    (k29 : PySem.W.keepIn K (.ref f29) = true)
    (mY : PySem.W.nsIn K mainGlobals "Yard" = some (some (.ref Y)))
    (pgY : PySem.W.plainGet K Y Str.empty = true)
    (hdY : PySem.W.hasDictIn K Y = true)
    (poY : PySem.W.plainOver K Y = true)
    (saY : PySem.W.findIn K (.ref Y) "__setattr__" = some (some (.builtin "object.__setattr__")))
    (mkY : PySem.W.makesIn K Y = true)
    (kcY : PySem.W.keepIn K (.ref Y) = true)
    (nY_lefts : PySem.W.findIn K (.ref Y) "_lefts" = some none)
    (nY_rights : PySem.W.findIn K (.ref Y) "_rights" = some none)
    (nY_heights : PySem.W.findIn K (.ref Y) "_heights" = some none)
    (nY_numbers : PySem.W.findIn K (.ref Y) "_numbers" = some none)
    (nY_turned : PySem.W.findIn K (.ref Y) "_turned" = some none)
    (mO : PySem.W.nsIn K mainGlobals "Order" = some (some (.ref O)))
    (pgO : PySem.W.plainGet K O Str.empty = true)
    (hdO : PySem.W.hasDictIn K O = true)
    (poO : PySem.W.plainOver K O = true)
    (saO : PySem.W.findIn K (.ref O) "__setattr__" = some (some (.builtin "object.__setattr__")))
    (mkO : PySem.W.makesIn K O = true)
    (kcO : PySem.W.keepIn K (.ref O) = true)
    (nO_yard : PySem.W.findIn K (.ref O) "_yard" = some none)
    (nO_at_least : PySem.W.findIn K (.ref O) "_at_least" = some none)
    (nO_can_win : PySem.W.findIn K (.ref O) "_can_win" = some none)
    (zlen : PySem.W.nsIn K mainGlobals "len" = some none)
    (ztuple : PySem.W.nsIn K mainGlobals "tuple" = some none)
    (zsorted : PySem.W.nsIn K mainGlobals "sorted" = some none)
    (zset : PySem.W.nsIn K mainGlobals "set" = some none)
    (zmax : PySem.W.nsIn K mainGlobals "max" = some none)
    (zlist : PySem.W.nsIn K mainGlobals "list" = some none)
    (zrange : PySem.W.nsIn K mainGlobals "range" = some none)
    (zint : PySem.W.nsIn K mainGlobals "int" = some none)
    (zisinstance : PySem.W.nsIn K mainGlobals "isinstance" = some none)
    (zbool : PySem.W.nsIn K mainGlobals "bool" = some none)
    : ∃ fd : FuncData, (∀ (s : Shared) (v : Value), BindsTo s fd ⟨[v], []⟩ [("_law_script", v)]) ∧ ∀ base : Heap, K.In base → base.Ns mainGlobals mg → FnOk l.prog w K mg base CX0 102 fa fd ["_law_script"] (spLaw K) := by
  have e := hfa.symm.trans (PySem.W.mg_of X G a12)
  cases e
  have F0 := fun_mk (st := sOtherSide) l0 c0 k0
  have b0 := F0.binds (ps := ["side"]) fun _ _ _ _ _ _ us hl => match us, hl with | [_], _ => rfl
  have D0 : DefD K mg "other_side" sOtherSide ["side"] _ _ := ⟨F0, b0, PySem.W.mg_of X G a0⟩
  have F1 := fun_mk (st := sCell) l1 c1 k1
  have b1 := F1.binds (ps := ["_law_script", "_law_k"]) fun _ _ _ _ _ _ us hl => match us, hl with | [_, _], _ => rfl
  have D1 : DefD K mg "_law_cell" sCell ["_law_script", "_law_k"] _ _ := ⟨F1, b1, PySem.W.mg_of X G a1⟩
  have F2 := fun_mk (st := sDigits) l2 c2 k2
  have b2 := F2.binds (ps := ["_law_cell_here", "_law_count_here"]) fun _ _ _ _ _ _ us hl => match us, hl with | [_, _], _ => rfl
  have D2 : DefD K mg "_law_digits" sDigits ["_law_cell_here", "_law_count_here"] _ _ := ⟨F2, b2, PySem.W.mg_of X G a2⟩
  have F3 := fun_mk (st := sPut) l3 c3 k3
  have b3 := F3.binds (ps := ["_law_model", "_law_heights", "_law_lefts", "_law_rights"]) fun _ _ _ _ _ _ us hl => match us, hl with | [_, _, _, _], _ => rfl
  have D3 : DefD K mg "_law_put" sPut ["_law_model", "_law_heights", "_law_lefts", "_law_rights"] _ _ := ⟨F3, b3, PySem.W.mg_of X G a3⟩
  have F4 := fun_mk (st := sDrawn) l4 c4 k4
  have b4 := F4.binds (ps := ["_law_model", "_law_heights", "_law_digits_here", "_law_most"]) fun _ _ _ _ _ _ us hl => match us, hl with | [_, _, _, _], _ => rfl
  have D4 : DefD K mg "_law_drawn" sDrawn ["_law_model", "_law_heights", "_law_digits_here", "_law_most"] _ _ := ⟨F4, b4, PySem.W.mg_of X G a4⟩
  have F5 := fun_mk (st := sFamily) l5 c5 k5
  have b5 := F5.binds (ps := ["_law_script", "_law_first", "_law_count_here", "_law_most"]) fun _ _ _ _ _ _ us hl => match us, hl with | [_, _, _, _], _ => rfl
  have D5 : DefD K mg "_law_family" sFamily ["_law_script", "_law_first", "_law_count_here", "_law_most"] _ _ := ⟨F5, b5, PySem.W.mg_of X G a5⟩
  have F6 := fun_mk (st := sCount) l6 c6 k6
  have b6 := F6.binds (ps := ["_law_cell_here"]) fun _ _ _ _ _ _ us hl => match us, hl with | [_], _ => rfl
  have D6 : DefD K mg "_law_count" sCount ["_law_cell_here"] _ _ := ⟨F6, b6, PySem.W.mg_of X G a6⟩
  have F7 := fun_mk (st := sBuilt) l7 c7 k7
  have b7 := F7.binds (ps := ["_law_yard", "_law_model"]) fun _ _ _ _ _ _ us hl => match us, hl with | [_, _], _ => rfl
  have D7 : DefD K mg "_law_built" sBuilt ["_law_yard", "_law_model"] _ _ := ⟨F7, b7, PySem.W.mg_of X G a7⟩
  have F8 := fun_mk (st := sIs) l8 c8 k8
  have b8 := F8.binds (ps := ["_law_told", "_law_due"]) fun _ _ _ _ _ _ us hl => match us, hl with | [_, _], _ => rfl
  have D8 : DefD K mg "_law_is" sIs ["_law_told", "_law_due"] _ _ := ⟨F8, b8, PySem.W.mg_of X G a8⟩
  have F9 := fun_mk (st := sMoves) l9 c9 k9
  have b9 := F9.binds (ps := ["_law_model", "_law_one", "_law_other", "_law_side"]) fun _ _ _ _ _ _ us hl => match us, hl with | [_, _, _, _], _ => rfl
  have D9 : DefD K mg "_law_moves" sMoves ["_law_model", "_law_one", "_law_other", "_law_side"] _ _ := ⟨F9, b9, PySem.W.mg_of X G a9⟩
  have F10 := fun_mk (st := sWins) l10 c10 k10
  have b10 := F10.binds (ps := ["_law_model", "_law_known", "_law_one", "_law_other", "_law_side"]) fun _ _ _ _ _ _ us hl => match us, hl with | [_, _, _, _, _], _ => rfl
  have D10 : DefD K mg "_law_wins" sWins ["_law_model", "_law_known", "_law_one", "_law_other", "_law_side"] _ _ := ⟨F10, b10, PySem.W.mg_of X G a10⟩
  have F11 := fun_mk (st := sSum) l11 c11 k11
  have b11 := F11.binds (ps := ["_law_yard", "_law_model", "_law_first", "_law_second"]) fun _ _ _ _ _ _ us hl => match us, hl with | [_, _, _, _], _ => rfl
  have D11 : DefD K mg "_law_sum" sSum ["_law_yard", "_law_model", "_law_first", "_law_second"] _ _ := ⟨F11, b11, PySem.W.mg_of X G a11⟩
  have F12 := fun_mk (st := sLaw) l12 c12 k12
  have b12 := F12.binds (ps := ["_law_script"]) fun _ _ _ _ _ _ us hl => match us, hl with | [_], _ => rfl
  have D12 : DefD K mg "law" sLaw ["_law_script"] _ _ := ⟨F12, b12, PySem.W.mg_of X G a12⟩
  have F13 := fun_mk (st := sYInit) l13 c13 k13
  have b13 := F13.binds (ps := ["self"]) fun _ _ _ _ _ _ us hl => match us, hl with | [_], _ => rfl
  have MY : Mk K Y f13 := ⟨mkY, a13, i13, kcY⟩
  have F14 := fun_mk (st := sGame) l14 c14 k14
  have b14 := F14.binds (ps := ["self", "lefts", "rights"]) fun _ _ _ _ _ _ us hl => match us, hl with | [_, _, _], _ => rfl
  have D14 : MethD K Y "game" "Yard.game" sGame ["self", "lefts", "rights"] f14 _ := ⟨F14, b14, ⟨a14, i14, k14⟩⟩
  have F15 := fun_mk (st := sCheck) l15 c15 k15
  have b15 := F15.binds (ps := ["self", "game"]) fun _ _ _ _ _ _ us hl => match us, hl with | [_, _], _ => rfl
  have D15 : MethD K Y "_check" "Yard._check" sCheck ["self", "game"] f15 _ := ⟨F15, b15, ⟨a15, i15, k15⟩⟩
  have F16 := fun_mk (st := sHeight) l16 c16 k16
  have b16 := F16.binds (ps := ["self", "game"]) fun _ _ _ _ _ _ us hl => match us, hl with | [_, _], _ => rfl
  have D16 : MethD K Y "height" "Yard.height" sHeight ["self", "game"] f16 _ := ⟨F16, b16, ⟨a16, i16, k16⟩⟩
  have F17 := fun_mk (st := sLefts) l17 c17 k17
  have b17 := F17.binds (ps := ["self", "game"]) fun _ _ _ _ _ _ us hl => match us, hl with | [_, _], _ => rfl
  have D17 : MethD K Y "lefts" "Yard.lefts" sLefts ["self", "game"] f17 _ := ⟨F17, b17, ⟨a17, i17, k17⟩⟩
  have F18 := fun_mk (st := sRights) l18 c18 k18
  have b18 := F18.binds (ps := ["self", "game"]) fun _ _ _ _ _ _ us hl => match us, hl with | [_, _], _ => rfl
  have D18 : MethD K Y "rights" "Yard.rights" sRights ["self", "game"] f18 _ := ⟨F18, b18, ⟨a18, i18, k18⟩⟩
  have F19 := fun_mk (st := sOptions) l19 c19 k19
  have b19 := F19.binds (ps := ["self", "game", "side"]) fun _ _ _ _ _ _ us hl => match us, hl with | [_, _, _], _ => rfl
  have D19 : MethD K Y "options" "Yard.options" sOptions ["self", "game", "side"] f19 _ := ⟨F19, b19, ⟨a19, i19, k19⟩⟩
  have F20 := fun_mk (st := sOInit) l20 c20 k20
  have b20 := F20.binds (ps := ["self", "yard"]) fun _ _ _ _ _ _ us hl => match us, hl with | [_, _], _ => rfl
  have MO : Mk K O f20 := ⟨mkO, a20, i20, kcO⟩
  have F21 := fun_mk (st := sAtLeast) l21 c21 k21
  have b21 := F21.binds (ps := ["self", "one", "other"]) fun _ _ _ _ _ _ us hl => match us, hl with | [_, _, _], _ => rfl
  have D21 : MethD K O "at_least" "Order.at_least" sAtLeast ["self", "one", "other"] f21 _ := ⟨F21, b21, ⟨a21, i21, k21⟩⟩
  have F22 := fun_mk (st := sReckon) l22 c22 k22
  have b22 := F22.binds (ps := ["self", "one", "other"]) fun _ _ _ _ _ _ us hl => match us, hl with | [_, _, _], _ => rfl
  have D22 : MethD K O "_reckon" "Order._reckon" sReckon ["self", "one", "other"] f22 _ := ⟨F22, b22, ⟨a22, i22, k22⟩⟩
  have F23 := fun_mk (st := sAtMost) l23 c23 k23
  have b23 := F23.binds (ps := ["self", "one", "other"]) fun _ _ _ _ _ _ us hl => match us, hl with | [_, _, _], _ => rfl
  have D23 : MethD K O "at_most" "Order.at_most" sAtMost ["self", "one", "other"] f23 _ := ⟨F23, b23, ⟨a23, i23, k23⟩⟩
  have F24 := fun_mk (st := sAlike) l24 c24 k24
  have b24 := F24.binds (ps := ["self", "one", "other"]) fun _ _ _ _ _ _ us hl => match us, hl with | [_, _, _], _ => rfl
  have D24 : MethD K O "alike" "Order.alike" sAlike ["self", "one", "other"] f24 _ := ⟨F24, b24, ⟨a24, i24, k24⟩⟩
  have F25 := fun_mk (st := sApart) l25 c25 k25
  have b25 := F25.binds (ps := ["self", "one", "other"]) fun _ _ _ _ _ _ us hl => match us, hl with | [_, _, _], _ => rfl
  have D25 : MethD K O "apart" "Order.apart" sApart ["self", "one", "other"] f25 _ := ⟨F25, b25, ⟨a25, i25, k25⟩⟩
  have F26 := fun_mk (st := sCanWin) l26 c26 k26
  have b26 := F26.binds (ps := ["self", "game", "side"]) fun _ _ _ _ _ _ us hl => match us, hl with | [_, _, _], _ => rfl
  have D26 : MethD K O "can_win" "Order.can_win" sCanWin ["self", "game", "side"] f26 _ := ⟨F26, b26, ⟨a26, i26, k26⟩⟩
  have F27 := fun_mk (st := sWinning) l27 c27 k27
  have b27 := F27.binds (ps := ["self", "game", "side"]) fun _ _ _ _ _ _ us hl => match us, hl with | [_, _, _], _ => rfl
  have D27 : MethD K O "winning" "Order.winning" sWinning ["self", "game", "side"] f27 _ := ⟨F27, b27, ⟨a27, i27, k27⟩⟩
  have F28 := fun_mk (st := sOutcome) l28 c28 k28
  have b28 := F28.binds (ps := ["self", "game"]) fun _ _ _ _ _ _ us hl => match us, hl with | [_, _], _ => rfl
  have D28 : MethD K O "outcome" "Order.outcome" sOutcome ["self", "game"] f28 _ := ⟨F28, b28, ⟨a28, i28, k28⟩⟩
  have F29 := fun_mk (st := sOYard) l29 c29 k29
  have b29 := F29.binds (ps := ["self"]) fun _ _ _ _ _ _ us hl => match us, hl with | [_], _ => rfl
  have Dp : PropD K O "yard" "Order.yard" sOYard p f29 _ := ⟨F29, b29, ⟨ap, gp, tp, ⟨rest, rp⟩⟩⟩
  have T : Txt K mg Y O := ⟨⟨pgY, hdY, poY, saY⟩, nY_lefts, nY_rights, nY_heights, nY_numbers, nY_turned, PySem.W.mg_of X G mY, ⟨pgO, hdO, poO, saO⟩, nO_yard, nO_at_least, nO_can_win, PySem.W.mg_of X G mO, PySem.W.mg_none_of X G zlen, PySem.W.mg_none_of X G ztuple, PySem.W.mg_none_of X G zsorted, PySem.W.mg_none_of X G zset, PySem.W.mg_none_of X G zmax, PySem.W.mg_none_of X G zlist, PySem.W.mg_none_of X G zrange, PySem.W.mg_none_of X G zint, PySem.W.mg_none_of X G zisinstance, PySem.W.mg_none_of X G zbool⟩
  have CC : OD K mg Y O := ⟨T, ⟨_, _, _, Dp⟩, ⟨_, _, D15⟩, ⟨_, _, D16⟩, ⟨_, _, D17⟩, ⟨_, _, D18⟩, ⟨_, _, D19⟩, ⟨_, _, D0⟩⟩
  have LL : LD K mg Y O := ⟨CC, ⟨_, _, MY, F13, b13⟩, ⟨_, _, MO, F20, b20⟩, ⟨_, _, D14⟩, ⟨_, _, D21⟩, ⟨_, _, D22⟩, ⟨_, _, D23⟩, ⟨_, _, D24⟩, ⟨_, _, D25⟩, ⟨_, _, D26⟩, ⟨_, _, D27⟩, ⟨_, _, D28⟩, ⟨_, _, D1⟩, ⟨_, _, D2⟩, ⟨_, _, D3⟩, ⟨_, _, D4⟩, ⟨_, _, D5⟩, ⟨_, _, D6⟩, ⟨_, _, D7⟩, ⟨_, _, D8⟩, ⟨_, _, D9⟩, ⟨_, _, D10⟩, ⟨_, _, D11⟩⟩
  exact ⟨PySem.W.fnOf "law" "law" (defArgs sLaw) (defBody sLaw) (defScope sLaw) .none kV12 dc12 pm12 an12 cd12 ct12, fun s v => .of_eq rfl, fun base _ _ => ok_law D12 LL⟩
theorem walk {l : PySem.W.OpenLaw} {q : Program} {loose : List Str} {XP : (Str → Option Value) → Heap → Prop} {YP : World → Heap → Prop} {d : DefRec} {K : Params → PySem.W.Frag} (hn : l.most = some 63) (hdf : d.params.defaults = [])
    (hY : ∀ (w : World) (h : Heap), YP w h → (K w.params).In h)
    (F : ∀ (w : World) (mg : Str → Option Value) (fa : Addr) (h : Heap), (K w.params).In h → h.Ns mainGlobals mg → mg d.name = some (.ref fa) →
      ∃ fd : FuncData, (∀ (s : Shared) (u : Value), BindsTo s fd ⟨[u], []⟩ [("_law_script", u)]) ∧ ∀ base : Heap, (K w.params).In base → base.Ns mainGlobals mg → FnOk l.prog w (K w.params) mg base CX0 102 fa fd ["_law_script"] (spLaw (K w.params))) :
    PySem.W.WalkO q loose XP YP l.row.toRowW d [] (fun f vs => PySem.call f vs) :=
  L2.walk_of (n := 63) (k := 102) (x := "_law_script") (CX := fun _ => CX0) (sp := fun w => spLaw (K w.params)) hn (by decide) hdf ⟨rfl, by decide, by decide⟩ hY F (fun _ _ a ns hl _ hS => ⟨a, ns, rfl, hS, hl, fun _ => rfl⟩) fun _ _ _ _ _ z => z
end K20
set_option Elab.async false
set_option linter.all false
set_option maxRecDepth 100000
open PySem PySem.W PyProof.Rows in
set_option maxRecDepth 100000 in
set_option maxHeartbeats 0 in
theorem PySem.Challenge.cw_sumsplay_k20_whole_order_by_play_holds : PySem.Challenge.rw_sumsplay_k20_whole_order_by_play.Holds := by
  w_on; o_law; k_head; (case hw => w_witness2)
  k_fill
  refine K20.walk (l := PySem.Challenge.rw_sumsplay_k20_whole_order_by_play) rfl rfl (fun w h Y => PySem.W.kIn_of Y) ?F
  case F =>
    intro w mg fa h KX G hmg0
    have hmg : mg ("law" : PySem.Str) = some (.ref fa) := hmg0
    clear hmg0
    refine' K20.all_mk KX G hmg ?a0 ?l0 ?c0 ?k0 ?a1 ?l1 ?c1 ?k1 ?a2 ?l2 ?c2 ?k2 ?a3 ?l3 ?c3 ?k3 ?a4 ?l4 ?c4 ?k4 ?a5 ?l5 ?c5 ?k5 ?a6 ?l6 ?c6 ?k6 ?a7 ?l7 ?c7 ?k7 ?a8 ?l8 ?c8 ?k8 ?a9 ?l9 ?c9 ?k9 ?a10 ?l10 ?c10 ?k10 ?a11 ?l11 ?c11 ?k11 ?a12 ?l12 ?c12 ?k12 ?a13 ?i13 ?l13 ?c13 ?k13 ?a14 ?i14 ?l14 ?c14 ?k14 ?a15 ?i15 ?l15 ?c15 ?k15 ?a16 ?i16 ?l16 ?c16 ?k16 ?a17 ?i17 ?l17 ?c17 ?k17 ?a18 ?i18 ?l18 ?c18 ?k18 ?a19 ?i19 ?l19 ?c19 ?k19 ?a20 ?i20 ?l20 ?c20 ?k20 ?a21 ?i21 ?l21 ?c21 ?k21 ?a22 ?i22 ?l22 ?c22 ?k22 ?a23 ?i23 ?l23 ?c23 ?k23 ?a24 ?i24 ?l24 ?c24 ?k24 ?a25 ?i25 ?l25 ?c25 ?k25 ?a26 ?i26 ?l26 ?c26 ?k26 ?a27 ?i27 ?l27 ?c27 ?k27 ?a28 ?i28 ?l28 ?c28 ?k28 ?ap ?gp ?tp ?rp ?l29 ?c29 ?k29 ?mY ?pgY ?hdY ?poY ?saY ?mkY ?kcY ?nY_lefts ?nY_rights ?nY_heights ?nY_numbers ?nY_turned ?mO ?pgO ?hdO ?poO ?saO ?mkO ?kcO ?nO_yard ?nO_at_least ?nO_can_win ?zlen ?ztuple ?zsorted ?zset ?zmax ?zlist ?zrange ?zint ?zisinstance ?zbool
    (case mY => k_is)
    (case mO => k_is)
    (case a0 => k_is)
    (case l0 => k_is)
    (case c0 => k_is)
    (case k0 => k_is)
    (case a1 => k_is)
    (case l1 => k_is)
    (case c1 => k_is)
    (case k1 => k_is)
    (case a2 => k_is)
    (case l2 => k_is)
    (case c2 => k_is)
    (case k2 => k_is)
    (case a3 => k_is)
    (case l3 => k_is)
    (case c3 => k_is)
    (case k3 => k_is)
    (case a4 => k_is)
    (case l4 => k_is)
    (case c4 => k_is)
    (case k4 => k_is)
    (case a5 => k_is)
    (case l5 => k_is)
    (case c5 => k_is)
    (case k5 => k_is)
    (case a6 => k_is)
    (case l6 => k_is)
    (case c6 => k_is)
    (case k6 => k_is)
    (case a7 => k_is)
    (case l7 => k_is)
    (case c7 => k_is)
    (case k7 => k_is)
    (case a8 => k_is)
    (case l8 => k_is)
    (case c8 => k_is)
    (case k8 => k_is)
    (case a9 => k_is)
    (case l9 => k_is)
    (case c9 => k_is)
    (case k9 => k_is)
    (case a10 => k_is)
    (case l10 => k_is)
    (case c10 => k_is)
    (case k10 => k_is)
    (case a11 => k_is)
    (case l11 => k_is)
    (case c11 => k_is)
    (case k11 => k_is)
    (case a12 => k_is)
    (case l12 => k_is)
    (case c12 => k_is)
    (case k12 => k_is)
    (case a13 => k_is)
    (case i13 => k_is)
    (case l13 => k_is)
    (case c13 => k_is)
    (case k13 => k_is)
    (case a14 => k_is)
    (case i14 => k_is)
    (case l14 => k_is)
    (case c14 => k_is)
    (case k14 => k_is)
    (case a15 => k_is)
    (case i15 => k_is)
    (case l15 => k_is)
    (case c15 => k_is)
    (case k15 => k_is)
    (case a16 => k_is)
    (case i16 => k_is)
    (case l16 => k_is)
    (case c16 => k_is)
    (case k16 => k_is)
    (case a17 => k_is)
    (case i17 => k_is)
    (case l17 => k_is)
    (case c17 => k_is)
    (case k17 => k_is)
    (case a18 => k_is)
    (case i18 => k_is)
    (case l18 => k_is)
    (case c18 => k_is)
    (case k18 => k_is)
    (case a19 => k_is)
    (case i19 => k_is)
    (case l19 => k_is)
    (case c19 => k_is)
    (case k19 => k_is)
    (case a20 => k_is)
    (case i20 => k_is)
    (case l20 => k_is)
    (case c20 => k_is)
    (case k20 => k_is)
    (case a21 => k_is)
    (case i21 => k_is)
    (case l21 => k_is)
    (case c21 => k_is)
    (case k21 => k_is)
    (case a22 => k_is)
    (case i22 => k_is)
    (case l22 => k_is)
    (case c22 => k_is)
    (case k22 => k_is)
    (case a23 => k_is)
    (case i23 => k_is)
    (case l23 => k_is)
    (case c23 => k_is)
    (case k23 => k_is)
    (case a24 => k_is)
    (case i24 => k_is)
    (case l24 => k_is)
    (case c24 => k_is)
    (case k24 => k_is)
    (case a25 => k_is)
    (case i25 => k_is)
    (case l25 => k_is)
    (case c25 => k_is)
    (case k25 => k_is)
    (case a26 => k_is)
    (case i26 => k_is)
    (case l26 => k_is)
    (case c26 => k_is)
    (case k26 => k_is)
    (case a27 => k_is)
    (case i27 => k_is)
    (case l27 => k_is)
    (case c27 => k_is)
    (case k27 => k_is)
    (case a28 => k_is)
    (case i28 => k_is)
    (case l28 => k_is)
    (case c28 => k_is)
    (case k28 => k_is)
    (case ap => k_is)
    (case gp => k_is)
    (case tp => k_is)
    (case rp => k_is)
    (case l29 => k_is)
    (case c29 => k_is)
    (case k29 => k_is)
    (case pgY => k_is)
    (case hdY => k_is)
    (case poY => k_is)
    (case saY => k_is)
    (case mkY => k_is)
    (case kcY => k_is)
    (case nY_lefts => k_is)
    (case nY_rights => k_is)
    (case nY_heights => k_is)
    (case nY_numbers => k_is)
    (case nY_turned => k_is)
    (case pgO => k_is)
    (case hdO => k_is)
    (case poO => k_is)
    (case saO => k_is)
    (case mkO => k_is)
    (case kcO => k_is)
    (case nO_yard => k_is)
    (case nO_at_least => k_is)
    (case nO_can_win => k_is)
    (case zlen => k_is)
    (case ztuple => k_is)
    (case zsorted => k_is)
    (case zset => k_is)
    (case zmax => k_is)
    (case zlist => k_is)
    (case zrange => k_is)
    (case zint => k_is)
    (case zisinstance => k_is)
    (case zbool => k_is)
