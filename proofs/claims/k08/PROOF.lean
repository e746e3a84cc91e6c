import PyProof.Rows.All
import Wide.All
import OpenK.AllK
import Wide.FinOn
import HandS.ForMost
import HandS.Wide
import HandS.WideBits
import HandS.Zip
import HandS.TupMul
import HandS.Strs
import HandS.SortOrd
import HandS.Rev
import HandS.Flow
import PySem.Challenge.RW_farcords_k08_whole_weighings_keep_sums
import HandS.SetFor
import HandS.SortRule
import HandS.More
import HandS.Codes
import HandS.Walk
import HandS.Defaults
import HandS.Head0
import HandS.Head1
import HandS.Head2
import HandS.HeadEnd
import HandS.HeadHook1
import HandS.HeadHook2
set_option linter.all false
/-! the plain law: weighings as stretches, told place by place -/
namespace K8
abbrev Wt := List Int
abbrev Pc := Int × List Int

section
variable {α β : Type}
/-- place by place -/
def flat : List (Int × α) → List α
  | [] => []
  | p :: r => List.replicate p.1.toNat p.2 ++ flat r
theorem flat_nil : flat ([] : List (Int × α)) = [] := rfl
theorem flat_cons (p : Int × α) (r : List (Int × α)) : flat (p :: r) = List.replicate p.1.toNat p.2 ++ flat r := rfl
theorem flat_append : ∀ (a b : List (Int × α)), flat (a ++ b) = flat a ++ flat b
  | [], _ => rfl
  | p :: r, b => by
    show List.replicate p.1.toNat p.2 ++ flat (r ++ b) = _
    rw [flat_append r b, flat_cons, List.append_assoc]
theorem flat_one (n : Int) (v : α) : flat [(n, v)] = List.replicate n.toNat v := by
  rw [flat_cons, flat_nil, List.append_nil]
theorem mem_flat {w : α} : ∀ {a : List (Int × α)}, w ∈ flat a → ∃ n, (n, w) ∈ a ∧ 1 ≤ n
  | p :: r, h => by
    rw [flat_cons, List.mem_append] at h
    rcases h with h | h
    · obtain ⟨h1, h2⟩ := List.mem_replicate.mp h
      refine ⟨p.1, ?_, by omega⟩
      rw [h2]
      exact List.mem_cons_self
    · obtain ⟨n, h1, h2⟩ := mem_flat h
      exact ⟨n, List.mem_cons_of_mem _ h1, h2⟩
theorem flat_mem {n : Int} {w : α} (hn : 1 ≤ n) : ∀ {a : List (Int × α)}, (n, w) ∈ a → w ∈ flat a
  | p :: r, h => by
    rw [flat_cons, List.mem_append]
    rcases List.mem_cons.mp h with h | h
    · left
      rw [← h]
      exact List.mem_replicate.mpr ⟨by show n.toNat ≠ 0; omega, rfl⟩
    · exact .inr (flat_mem hn h)

/-- how many places, by the manys -/
def total : List (Int × α) → Int
  | [] => 0
  | p :: r => p.1 + total r
theorem total_append : ∀ (a b : List (Int × α)), total (a ++ b) = total a + total b
  | [], b => by show total b = 0 + total b; omega
  | p :: r, b => by
    show p.1 + total (r ++ b) = p.1 + total r + total b
    rw [total_append r b]
    omega
theorem total_len : ∀ {a : List (Int × α)}, (∀ p ∈ a, 0 ≤ p.1) → total a = ((flat a).length : Int)
  | [], _ => rfl
  | p :: r, h => by
    have h1 := h p List.mem_cons_self
    have h2 := total_len (a := r) fun q hq => h q (List.mem_cons_of_mem _ hq)
    rw [flat_cons, List.length_append, List.length_replicate]
    show p.1 + total r = _
    rw [h2]
    omega
theorem total_sum : ∀ (a : List (Int × α)), total a = (a.map (·.1)).sum
  | [] => rfl
  | p :: r => by
    rw [List.map_cons, List.sum_cons, ← total_sum r]
    rfl

/-- two stretches side by side are unlike -/
def Adj : List (Int × α) → Prop
  | [] => True
  | [_] => True
  | p :: q :: r => p.2 ≠ q.2 ∧ Adj (q :: r)
def Pos (a : List (Int × α)) : Prop := ∀ p ∈ a, 1 ≤ p.1
def Canon (a : List (Int × α)) : Prop := Pos a ∧ Adj a
theorem Pos.nil : Pos ([] : List (Int × α)) := fun _ h => nomatch h
theorem Canon.nil : Canon ([] : List (Int × α)) := ⟨Pos.nil, trivial⟩
theorem Pos.tail {p : Int × α} {r : List (Int × α)} (h : Pos (p :: r)) : Pos r := fun q hq => h q (List.mem_cons_of_mem _ hq)
theorem Pos.head {p : Int × α} {r : List (Int × α)} (h : Pos (p :: r)) : 1 ≤ p.1 := h p List.mem_cons_self
theorem Pos.append {a b : List (Int × α)} (h : Pos a) (h' : Pos b) : Pos (a ++ b) := fun q hq => (List.mem_append.mp hq).elim (h q) (h' q)
theorem Pos.nonneg {a : List (Int × α)} (h : Pos a) : ∀ p ∈ a, 0 ≤ p.1 := fun p hp => by have := h p hp; omega
theorem Adj.tail : ∀ {p : Int × α} {r : List (Int × α)}, Adj (p :: r) → Adj r
  | _, [], _ => trivial
  | _, _ :: _, h => h.2
theorem Canon.tail {p : Int × α} {r : List (Int × α)} (h : Canon (p :: r)) : Canon r := ⟨h.1.tail, h.2.tail⟩
theorem Canon.one {n : Int} {v : α} (h : 1 ≤ n) : Canon [(n, v)] := ⟨fun q hq => by rw [List.mem_singleton.mp hq]; exact h, trivial⟩
theorem Adj.snoc : ∀ {a : List (Int × α)} {p : Int × α}, Adj a → (∀ q, a.getLast? = some q → q.2 ≠ p.2) → Adj (a ++ [p])
  | [], _, _, _ => trivial
  | [q], p, _, h => ⟨h q rfl, trivial⟩
  | q :: q' :: r, p, h1, h2 => ⟨h1.1, Adj.snoc (a := q' :: r) h1.2 fun x hx => h2 x (by rw [List.getLast?_cons_cons]; exact hx)⟩
theorem Adj.relast : ∀ {a : List (Int × α)} {n m : Int} {v : α}, Adj (a ++ [(n, v)]) → Adj (a ++ [(m, v)])
  | [], _, _, _, _ => trivial
  | [q], _, _, _, h => ⟨h.1, trivial⟩
  | q :: q' :: r, n, m, v, h => ⟨h.1, Adj.relast (a := q' :: r) (n := n) h.2⟩
theorem Canon.snoc {a : List (Int × α)} {n : Int} {v : α} (h : Canon a) (hn : 1 ≤ n) (hl : ∀ q, a.getLast? = some q → q.2 ≠ v) : Canon (a ++ [(n, v)]) :=
  ⟨h.1.append fun q hq => by rw [List.mem_singleton.mp hq]; exact hn, h.2.snoc hl⟩
theorem Canon.relast {a : List (Int × α)} {n m : Int} {v : α} (h : Canon (a ++ [(n, v)])) (hm : 1 ≤ m) : Canon (a ++ [(m, v)]) :=
  ⟨fun q hq => by
    rcases List.mem_append.mp hq with z | z
    · exact h.1 q (List.mem_append_left _ z)
    · rw [List.mem_singleton.mp z]; exact hm, h.2.relast⟩
theorem flat_relast {a : List (Int × α)} {n m : Int} {v : α} (hn : 0 ≤ n) (hm : 0 ≤ m) : flat (a ++ [(n + m, v)]) = flat (a ++ [(n, v)]) ++ List.replicate m.toNat v := by
  rw [flat_append, flat_append, flat_one, flat_one, List.append_assoc, List.replicate_append_replicate, show (n + m).toNat = n.toNat + m.toNat by omega]

theorem rep_cancel {v : α} : ∀ {n m : Nat} {X Y : List α}, X.head? ≠ some v → Y.head? ≠ some v → List.replicate n v ++ X = List.replicate m v ++ Y → n = m ∧ X = Y
  | 0, 0, _, _, _, _, h => ⟨rfl, h⟩
  | 0, m + 1, X, Y, hx, _, h => by
    exfalso
    apply hx
    have h' : X = List.replicate (m + 1) v ++ Y := h
    rw [h']
    rfl
  | n + 1, 0, X, Y, _, hy, h => by
    exfalso
    apply hy
    have h' : List.replicate (n + 1) v ++ X = Y := h
    rw [← h']
    rfl
  | n + 1, m + 1, X, Y, hx, hy, h => by
    have h' : v :: (List.replicate n v ++ X) = v :: (List.replicate m v ++ Y) := h
    obtain ⟨e1, e2⟩ := rep_cancel hx hy (List.cons.inj h').2
    exact ⟨by omega, e2⟩
theorem flat_head {p : Int × α} {r : List (Int × α)} (h : 1 ≤ p.1) : (flat (p :: r)).head? = some p.2 := by
  rw [flat_cons]
  obtain ⟨k, e⟩ : ∃ k, p.1.toNat = k + 1 := ⟨p.1.toNat - 1, by omega⟩
  rw [e]
  rfl
theorem flat_rest {p : Int × α} {r : List (Int × α)} (h : Canon (p :: r)) : (flat r).head? ≠ some p.2 := by
  cases r with
  | nil => intro z; cases z
  | cons q r =>
    rw [flat_head h.1.tail.head]
    intro z
    exact h.2.1 (Option.some.inj z).symm
/-- a weighing is told by its places -/
theorem canon_uniq : ∀ {a b : List (Int × α)}, Canon a → Canon b → flat a = flat b → a = b
  | [], [], _, _, _ => rfl
  | [], q :: b, _, hb, h => by
    have := flat_head (r := b) hb.1.head
    rw [← h] at this
    cases this
  | p :: a, [], ha, _, h => by
    have := flat_head (r := a) ha.1.head
    rw [h] at this
    cases this
  | p :: a, q :: b, ha, hb, h => by
    have e1 := flat_head (r := a) ha.1.head
    have e2 := flat_head (r := b) hb.1.head
    rw [h, e2] at e1
    have e : q.2 = p.2 := Option.some.inj e1
    rw [flat_cons, flat_cons, e] at h
    obtain ⟨h1, h2⟩ := rep_cancel (flat_rest ha) (by rw [← e]; exact flat_rest hb) h
    have h3 := ha.1.head
    have h4 := hb.1.head
    have h5 : p.1 = q.1 := by omega
    rw [canon_uniq ha.tail hb.tail h2]
    cases p
    cases q
    cases h5
    cases e
    rfl

/-! ### shaped -/
/-- one piece more -/
def push [DecidableEq α] (a : List (Int × α)) (p : Int × α) : List (Int × α) :=
  if 0 < p.1 then
    match a.getLast? with
    | some q => if q.2 = p.2 then a.dropLast ++ [(q.1 + p.1, p.2)] else a ++ [p]
    | none => a ++ [p]
  else a
theorem push_no [DecidableEq α] {a : List (Int × α)} {p : Int × α} (h : ¬ 0 < p.1) : push a p = a := by
  unfold push
  rw [if_neg h]
theorem push_nil [DecidableEq α] {p : Int × α} (h : 0 < p.1) : push [] p = [p] := by
  unfold push
  rw [if_pos h]
  rfl
theorem push_same [DecidableEq α] {a : List (Int × α)} {n : Int} {p : Int × α} (h : 0 < p.1) : push (a ++ [(n, p.2)]) p = a ++ [(n + p.1, p.2)] := by
  unfold push
  rw [if_pos h, List.getLast?_append, List.dropLast_concat]
  show (if p.2 = p.2 then a ++ [(n + p.1, p.2)] else _) = _
  rw [if_pos rfl]
theorem push_other [DecidableEq α] {a : List (Int × α)} {q p : Int × α} (h : 0 < p.1) (hn : q.2 ≠ p.2) : push (a ++ [q]) p = a ++ [q] ++ [p] := by
  unfold push
  rw [if_pos h, List.getLast?_append]
  show (if q.2 = p.2 then _ else _) = _
  rw [if_neg hn]
theorem snoc_cases (a : List β) : a = [] ∨ ∃ b q, a = b ++ [q] := by
  by_cases h : a = []
  · exact .inl h
  · exact .inr ⟨a.dropLast, a.getLast h, (List.dropLast_concat_getLast h).symm⟩
theorem last_snoc (a : List β) (q x : β) : (a ++ [q]).getLast? = some x ↔ x = q := by
  rw [List.getLast?_append]
  constructor
  · intro h
    exact (Option.some.inj h).symm
  · intro h
    rw [h]
    rfl
theorem push_ok [DecidableEq α] {a : List (Int × α)} {p : Int × α} (h : Canon a) : Canon (push a p) ∧ flat (push a p) = flat a ++ List.replicate p.1.toNat p.2 ∧ (push a p).length ≤ a.length + 1 := by
  by_cases h0 : 0 < p.1
  · rcases snoc_cases a with rfl | ⟨b, q, rfl⟩
    · rw [push_nil h0]
      exact ⟨Canon.one (by omega), flat_one p.1 p.2, by simp⟩
    · by_cases e : q.2 = p.2
      · obtain ⟨n, v⟩ := q
        have e' : v = p.2 := e
        subst e'
        have hn : 1 ≤ n := h.1 (n, p.2) (by simp)
        rw [push_same h0]
        refine ⟨h.relast (by omega), flat_relast (by omega) (by omega), by simp⟩
      · rw [push_other h0 e]
        refine ⟨h.snoc (by omega) fun x hx => ?_, ?_, by simp⟩
        · rw [(last_snoc b q x).mp hx]
          exact e
        · rw [flat_append, flat_one]
  · rw [push_no h0]
    refine ⟨h, ?_, by omega⟩
    rw [show p.1.toNat = 0 by omega]
    simp
theorem pushs_ok [DecidableEq α] : ∀ (ps a : List (Int × α)), Canon a → Canon (ps.foldl push a) ∧ flat (ps.foldl push a) = flat a ++ flat ps ∧ (ps.foldl push a).length ≤ a.length + ps.length
  | [], a, h => ⟨h, by rw [flat_nil, List.append_nil]; rfl, by simp⟩
  | p :: ps, a, h => by
    obtain ⟨h1, h2, h3⟩ := push_ok (p := p) h
    obtain ⟨k1, k2, k3⟩ := pushs_ok ps (push a p) h1
    rw [List.foldl_cons]
    refine ⟨k1, ?_, ?_⟩
    · rw [k2, h2, flat_cons, List.append_assoc]
    · rw [List.length_cons]
      omega

/-! ### part -/
def partM (b e : Int) : Int → List (Int × α) → List (Int × α)
  | _, [] => []
  | ahead, p :: r => (if max b ahead < min e (ahead + p.1) then [(min e (ahead + p.1) - max b ahead, p.2)] else []) ++ partM b e (ahead + p.1) r
theorem partM_pos {b e : Int} : ∀ {ahead : Int} {ps : List (Int × α)}, Pos (partM b e ahead ps)
  | _, [] => Pos.nil
  | ahead, p :: r => by
    show Pos ((if max b ahead < min e (ahead + p.1) then [(min e (ahead + p.1) - max b ahead, p.2)] else []) ++ partM b e (ahead + p.1) r)
    refine Pos.append ?_ partM_pos
    split
    · exact (Canon.one (by omega)).1
    · exact Pos.nil
theorem partM_out {b e : Int} : ∀ {ahead : Int} {ps : List (Int × α)}, Pos ps → e ≤ ahead → partM b e ahead ps = []
  | _, [], _, _ => rfl
  | ahead, p :: r, hp, h => by
    have h1 := hp.head
    show (if max b ahead < min e (ahead + p.1) then [(min e (ahead + p.1) - max b ahead, p.2)] else []) ++ partM b e (ahead + p.1) r = []
    rw [if_neg (by omega), partM_out hp.tail (by omega)]
    rfl
theorem partM_head {b e ahead : Int} {p : Int × α} {r : List (Int × α)} (hp : Pos (p :: r)) (h : b ≤ ahead) : ∀ q, (partM b e ahead (p :: r)).head? = some q → q.2 = p.2 := by
  intro q hq
  by_cases he : e ≤ ahead
  · rw [partM_out hp he] at hq
    cases hq
  · have h1 := hp.head
    have e1 : partM b e ahead (p :: r) = (min e (ahead + p.1) - max b ahead, p.2) :: partM b e (ahead + p.1) r := by
      show (if max b ahead < min e (ahead + p.1) then [(min e (ahead + p.1) - max b ahead, p.2)] else []) ++ partM b e (ahead + p.1) r = _
      rw [if_pos (by omega)]
      rfl
    rw [e1] at hq
    have := Option.some.inj hq
    rw [← this]
theorem Adj.cons {p : Int × α} {r : List (Int × α)} (h : Adj r) (hh : ∀ q, r.head? = some q → p.2 ≠ q.2) : Adj (p :: r) := by
  cases r with
  | nil => trivial
  | cons q r => exact ⟨hh q rfl, h⟩
theorem partM_adj {b e : Int} : ∀ {ahead : Int} {ps : List (Int × α)}, Canon ps → Adj (partM b e ahead ps)
  | _, [], _ => trivial
  | ahead, p :: r, h => by
    have ih := partM_adj (b := b) (e := e) (ahead := ahead + p.1) h.tail
    show Adj ((if max b ahead < min e (ahead + p.1) then [(min e (ahead + p.1) - max b ahead, p.2)] else []) ++ partM b e (ahead + p.1) r)
    by_cases hc : max b ahead < min e (ahead + p.1)
    · rw [if_pos hc]
      refine Adj.cons ih fun q hq => ?_
      cases r with
      | nil => cases hq
      | cons p' r =>
        rw [partM_head h.1.tail (by omega) q hq]
        exact h.2.1
    · rw [if_neg hc]
      exact ih
theorem partM_len {b e : Int} : ∀ {ahead : Int} {ps : List (Int × α)}, (partM b e ahead ps).length ≤ ps.length
  | _, [] => Nat.le_refl _
  | ahead, p :: r => by
    show ((if max b ahead < min e (ahead + p.1) then [(min e (ahead + p.1) - max b ahead, p.2)] else []) ++ partM b e (ahead + p.1) r).length ≤ r.length + 1
    rw [List.length_append]
    have := partM_len (b := b) (e := e) (ahead := ahead + p.1) (ps := r)
    split <;> simp <;> omega
theorem partM_flat {b e : Int} : ∀ {ahead : Int} {ps : List (Int × α)}, Pos ps → flat (partM b e ahead ps) = ((flat ps).take (e - ahead).toNat).drop (b - ahead).toNat
  | _, [], _ => by simp [partM, flat]
  | ahead, p :: r, h => by
    have h1 := h.head
    show flat ((if max b ahead < min e (ahead + p.1) then [(min e (ahead + p.1) - max b ahead, p.2)] else []) ++ partM b e (ahead + p.1) r) = _
    rw [flat_append, partM_flat h.tail, flat_cons, List.take_append, List.drop_append, List.length_take, List.length_replicate, List.take_replicate, List.drop_replicate]
    have a1 : (e - (ahead + p.1)).toNat = (e - ahead).toNat - p.1.toNat := by omega
    rw [a1]
    by_cases hc : max b ahead < min e (ahead + p.1)
    · rw [if_pos hc, flat_one]
      have a2 : (b - (ahead + p.1)).toNat = 0 := by omega
      have a3 : (b - ahead).toNat - min (e - ahead).toNat p.1.toNat = 0 := by omega
      have a4 : (min e (ahead + p.1) - max b ahead).toNat = min (e - ahead).toNat p.1.toNat - (b - ahead).toNat := by omega
      rw [a2, a3, a4]
    · rw [if_neg hc, flat_nil]
      have a4 : min (e - ahead).toNat p.1.toNat - (b - ahead).toNat = 0 := by omega
      rw [a4]
      by_cases hb : ahead + p.1 ≤ e
      · have a5 : (b - (ahead + p.1)).toNat = (b - ahead).toNat - min (e - ahead).toNat p.1.toNat := by omega
        rw [a5]
        rfl
      · have a6 : (e - ahead).toNat - p.1.toNat = 0 := by omega
        rw [a6]
        simp
theorem partM_canon {b e ahead : Int} {ps : List (Int × α)} (h : Canon ps) : Canon (partM b e ahead ps) := ⟨partM_pos, partM_adj h⟩

/-! ### backward -/
theorem flat_reverse : ∀ (a : List (Int × α)), flat a.reverse = (flat a).reverse
  | [] => rfl
  | p :: r => by
    rw [List.reverse_cons, flat_append, flat_reverse r, flat_one p.1 p.2, flat_cons, List.reverse_append, List.reverse_replicate]
theorem Adj.reverse : ∀ {a : List (Int × α)}, Adj a → Adj a.reverse
  | [], _ => trivial
  | [p], _ => trivial
  | p :: q :: r, h => by
    rw [List.reverse_cons]
    refine Adj.snoc (Adj.reverse h.2) fun x hx => ?_
    rw [List.reverse_cons, last_snoc] at hx
    rw [hx]
    exact fun z => h.1 z.symm
theorem Canon.reverse {a : List (Int × α)} (h : Canon a) : Canon a.reverse := ⟨fun q hq => h.1 q (List.mem_reverse.mp hq), h.2.reverse⟩
end

/-! ### added place by place -/
section
variable {α : Type}
/-- two stretches laid side by side, the shorter one's length -/
theorem zip_step (f : α → α → α) (x y : α) (n m : Nat) (X Y : List α) :
    List.zipWith f (List.replicate n x ++ X) (List.replicate m y ++ Y) =
      List.replicate (min n m) (f x y) ++ List.zipWith f (List.replicate (n - min n m) x ++ X) (List.replicate (m - min n m) y ++ Y) := by
  induction n generalizing m with
  | zero => simp
  | succ n ih =>
    cases m with
    | zero => simp
    | succ m =>
      have e : min (n + 1) (m + 1) = min n m + 1 := by omega
      rw [e, List.replicate_succ, List.replicate_succ, List.replicate_succ, List.cons_append, List.cons_append, List.cons_append, List.zipWith_cons_cons, ih m]
      congr 3 <;> (congr 2; omega)
end

/-! ### weights -/
def zadd (a b : Wt) : Wt := List.zipWith (· + ·) a b
def vz (a b : List Wt) : List Wt := List.zipWith zadd a b
theorem zadd_len {a b : Wt} (h : a.length = b.length) : (zadd a b).length = a.length := by
  unfold zadd
  rw [List.length_zipWith]
  omega
theorem getD_zadd : ∀ {a b : Wt} (j : Nat), a.length = b.length → (zadd a b).getD j 0 = a.getD j 0 + b.getD j 0
  | [], [], _, _ => rfl
  | x :: a, y :: b, 0, _ => rfl
  | x :: a, y :: b, j + 1, h => by
    have h' : a.length = b.length := by simpa using h
    exact getD_zadd (a := a) (b := b) j h'
def col (j : Nat) (xs : List Wt) : List Int := xs.map (·.getD j 0)
/-- all of width d -/
def Wd (d : Nat) (xs : List Wt) : Prop := ∀ w ∈ xs, w.length = d
theorem Wd.append {d : Nat} {a b : List Wt} (h : Wd d a) (h' : Wd d b) : Wd d (a ++ b) := fun w hw => (List.mem_append.mp hw).elim (h w) (h' w)
theorem Wd.tail {d : Nat} {x : Wt} {b : List Wt} (h : Wd d (x :: b)) : Wd d b := fun w hw => h w (List.mem_cons_of_mem _ hw)
theorem Wd.rep {d n : Nat} {x : Wt} (h : x.length = d) : Wd d (List.replicate n x) := fun w hw => by rw [(List.mem_replicate.mp hw).2]; exact h
theorem Wd.take {d n : Nat} {xs : List Wt} (h : Wd d xs) : Wd d (xs.take n) := fun w hw => h w (List.mem_of_mem_take hw)
theorem Wd.drop {d n : Nat} {xs : List Wt} (h : Wd d xs) : Wd d (xs.drop n) := fun w hw => h w (List.mem_of_mem_drop hw)
theorem wt_ext {d : Nat} {a b : Wt} (ha : a.length = d) (hb : b.length = d) (h : ∀ j, j < d → a.getD j 0 = b.getD j 0) : a = b := by
  refine List.ext_getElem (by omega) fun i h1 h2 => ?_
  have := h i (by omega)
  rw [List.getD_eq_getElem?_getD, List.getD_eq_getElem?_getD, List.getElem?_eq_getElem h1, List.getElem?_eq_getElem h2] at this
  exact this
/-- two lists of weights of one width are one where their columns are -/
theorem col_ext {d : Nat} : ∀ {xs ys : List Wt}, Wd d xs → Wd d ys → xs.length = ys.length → (∀ j, j < d → col j xs = col j ys) → xs = ys
  | [], [], _, _, _, _ => rfl
  | x :: xs, y :: ys, hx, hy, hl, h => by
    have e1 : x = y := wt_ext (hx x List.mem_cons_self) (hy y List.mem_cons_self) fun j hj => (List.cons.inj (h j hj)).1
    have e2 : xs = ys := col_ext hx.tail hy.tail (by simpa using hl) fun j hj => (List.cons.inj (h j hj)).2
    rw [e1, e2]
theorem vz_len {a b : List Wt} (h : a.length = b.length) : (vz a b).length = a.length := by
  unfold vz
  rw [List.length_zipWith]
  omega
theorem vz_wd {d : Nat} : ∀ {a b : List Wt}, Wd d a → Wd d b → Wd d (vz a b)
  | [], _, _, _ => fun w hw => by cases hw
  | _ :: _, [], _, _ => fun w hw => by cases hw
  | x :: a, y :: b, h, h' => fun w hw => by
    rcases List.mem_cons.mp (show w ∈ zadd x y :: vz a b from hw) with e | hw
    · rw [e]
      have h1 := h x List.mem_cons_self
      have h2 := h' y List.mem_cons_self
      rw [zadd_len (by omega)]
      exact h1
    · exact vz_wd h.tail h'.tail w hw
theorem col_vz {d : Nat} (j : Nat) : ∀ {a b : List Wt}, Wd d a → Wd d b → col j (vz a b) = List.zipWith (· + ·) (col j a) (col j b)
  | [], _, _, _ => rfl
  | _ :: _, [], _, _ => rfl
  | x :: a, y :: b, h, h' => by
    have h1 := h x List.mem_cons_self
    have h2 := h' y List.mem_cons_self
    show (zadd x y).getD j 0 :: col j (vz a b) = (x.getD j 0 + y.getD j 0) :: List.zipWith (· + ·) (col j a) (col j b)
    rw [getD_zadd j (by omega), col_vz j h.tail h'.tail]
theorem vz_take (n : Nat) (a b : List Wt) : (vz a b).take n = vz (a.take n) (b.take n) := by
  unfold vz
  rw [List.take_zipWith]
theorem vz_drop (n : Nat) (a b : List Wt) : (vz a b).drop n = vz (a.drop n) (b.drop n) := by
  unfold vz
  rw [List.drop_zipWith]

/-! ### sums over places -/
def sumR : Nat → (Nat → Int) → Int
  | 0, _ => 0
  | n + 1, f => sumR n f + f n
theorem sumR_congr : ∀ {n : Nat} {f g : Nat → Int}, (∀ i, i < n → f i = g i) → sumR n f = sumR n g
  | 0, _, _, _ => rfl
  | n + 1, f, g, h => by
    show sumR n f + f n = sumR n g + g n
    rw [sumR_congr fun i hi => h i (by omega), h n (by omega)]
theorem sumR_add : ∀ (n : Nat) (f g : Nat → Int), sumR n (fun i => f i + g i) = sumR n f + sumR n g
  | 0, _, _ => rfl
  | n + 1, f, g => by
    show sumR n (fun i => f i + g i) + (f n + g n) = sumR n f + f n + (sumR n g + g n)
    rw [sumR_add n f g]
    omega
theorem sumR_zero : ∀ {n : Nat} {f : Nat → Int}, (∀ i, i < n → f i = 0) → sumR n f = 0
  | 0, _, _ => rfl
  | n + 1, f, h => by
    show sumR n f + f n = 0
    rw [sumR_zero fun i hi => h i (by omega), h n (by omega)]
    rfl
theorem sumR_delta : ∀ {n q : Nat} {x : Int} {f : Nat → Int}, q < n → f q = x → (∀ i, i ≠ q → f i = 0) → sumR n f = x
  | n + 1, q, x, f, hq, h, h0 => by
    show sumR n f + f n = x
    by_cases e : q = n
    · subst e
      rw [sumR_zero fun i hi => h0 i (by omega), h]
      omega
    · rw [sumR_delta (n := n) (q := q) (x := x) (by omega) h h0, h0 n (fun z => e z.symm)]
      omega
theorem sum_range (g : Nat → Int) : ∀ n, ((List.range n).map g).sum = sumR n g
  | 0 => rfl
  | n + 1 => by
    rw [List.range_succ, List.map_append, List.sum_append, sum_range g n]
    show sumR n g + (g n + 0) = sumR n g + g n
    omega

/-! ### wound -/
/-- what the places of xs that stand on p round t give, the first one on h -/
def wnd (t : Nat) : Nat → List Int → Nat → Int
  | _, [], _ => 0
  | h, x :: xs, p => (if h % t = p then x else 0) + wnd t (h + 1) xs p
theorem wnd_append (t p : Nat) : ∀ (h : Nat) (xs ys : List Int), wnd t h (xs ++ ys) p = wnd t h xs p + wnd t (h + xs.length) ys p
  | h, [], ys => by
    show wnd t h ys p = 0 + wnd t (h + 0) ys p
    rw [Nat.add_zero]
    omega
  | h, x :: xs, ys => by
    show (if h % t = p then x else 0) + wnd t (h + 1) (xs ++ ys) p = (if h % t = p then x else 0) + wnd t (h + 1) xs p + wnd t (h + (xs.length + 1)) ys p
    rw [wnd_append t p (h + 1) xs ys, show h + 1 + xs.length = h + (xs.length + 1) by omega]
    omega
theorem wnd_zip (t p : Nat) : ∀ (h : Nat) (xs ys : List Int), xs.length = ys.length → wnd t h (List.zipWith (· + ·) xs ys) p = wnd t h xs p + wnd t h ys p
  | _, [], [], _ => rfl
  | h, x :: xs, y :: ys, e => by
    have ih := wnd_zip t p (h + 1) xs ys (by simpa using e)
    show (if h % t = p then x + y else 0) + wnd t (h + 1) (List.zipWith (· + ·) xs ys) p = (if h % t = p then x else 0) + wnd t (h + 1) xs p + ((if h % t = p then y else 0) + wnd t (h + 1) ys p)
    rw [ih]
    split <;> omega
theorem wnd_sum {t : Nat} (ht : 0 < t) : ∀ (h : Nat) (xs : List Int), sumR t (wnd t h xs) = xs.sum
  | _, [] => sumR_zero fun _ _ => rfl
  | h, x :: xs => by
    have e : sumR t (wnd t h (x :: xs)) = sumR t (fun p => if h % t = p then x else 0) + sumR t (wnd t (h + 1) xs) := sumR_add t _ _
    rw [e, wnd_sum ht (h + 1) xs, List.sum_cons, sumR_delta (q := h % t) (x := x) (Nat.mod_lt _ ht) (if_pos rfl) fun i hi => if_neg fun z => hi z.symm]
theorem wnd_range (t p : Nat) (g : Nat → Int) : ∀ n, wnd t 0 ((List.range n).map g) p = sumR n fun q => if q % t = p then g q else 0
  | 0 => rfl
  | n + 1 => by
    rw [List.range_succ, List.map_append, wnd_append, wnd_range t p g n, List.length_map, List.length_range]
    show sumR n _ + ((if (0 + n) % t = p then g n else 0) + 0) = sumR n _ + (if n % t = p then g n else 0)
    rw [Nat.zero_add]
    omega
theorem wnd_wnd {t m : Nat} (ht : 0 < t) (hm : 0 < m) (p : Nat) : ∀ (h : Nat) (xs : List Int), sumR (t * m) (fun q => if q % t = p then wnd (t * m) h xs q else 0) = wnd t h xs p
  | _, [] => sumR_zero fun i _ => by split <;> rfl
  | h, x :: xs => by
    have ih := wnd_wnd ht hm p (h + 1) xs
    have e : sumR (t * m) (fun q => if q % t = p then wnd (t * m) h (x :: xs) q else 0) =
        sumR (t * m) (fun q => (if q % t = p then (if h % (t * m) = q then x else 0) else 0) + (if q % t = p then wnd (t * m) (h + 1) xs q else 0)) := sumR_congr fun q _ => by
      show (if q % t = p then (if h % (t * m) = q then x else 0) + wnd (t * m) (h + 1) xs q else 0) = _
      split <;> rfl
    rw [e, sumR_add, ih]
    show _ = (if h % t = p then x else 0) + wnd t (h + 1) xs p
    rw [sumR_delta (q := h % (t * m)) (x := if h % t = p then x else 0) (Nat.mod_lt _ (Nat.mul_pos ht hm))]
    · show (if h % (t * m) % t = p then (if h % (t * m) = h % (t * m) then x else 0) else 0) = _
      rw [if_pos rfl, Nat.mod_mul_right_mod]
    · intro i hi
      show (if i % t = p then (if h % (t * m) = i then x else 0) else 0) = 0
      rw [if_neg (show ¬ h % (t * m) = i from fun z => hi z.symm)]
      split <;> rfl
theorem wnd_bound {t p B : Nat} : ∀ (h : Nat) {xs : List Int}, (∀ x ∈ xs, x.natAbs ≤ B) → (wnd t h xs p).natAbs ≤ xs.length * B
  | _, [], _ => by simp [wnd]
  | h, x :: xs, hb => by
    have ih := wnd_bound (t := t) (p := p) (h + 1) fun y hy => hb y (List.mem_cons_of_mem _ hy)
    have h1 := hb x List.mem_cons_self
    have e : (x :: xs).length * B = xs.length * B + B := by rw [List.length_cons, Nat.add_mul, Nat.one_mul]
    rw [e]
    show ((if h % t = p then x else 0) + wnd t (h + 1) xs p).natAbs ≤ _
    have h2 := Int.natAbs_add_le (if h % t = p then x else 0) (wnd t (h + 1) xs p)
    have h3 : (if h % t = p then x else 0 : Int).natAbs ≤ B := by
      split
      · exact h1
      · simp
    omega
/-- whether p lies in the r places from h on, round t -/
def arc (t h r p : Nat) : Bool := if h + r ≤ t then decide (h ≤ p ∧ p < h + r) else decide (h ≤ p ∨ p < h + r - t)
theorem arc_iff {t a r p : Nat} : arc t a r p = true ↔ ((a + r ≤ t ∧ a ≤ p ∧ p < a + r) ∨ (t < a + r ∧ (a ≤ p ∨ p < a + r - t))) := by
  unfold arc
  by_cases q : a + r ≤ t
  · rw [if_pos q, decide_eq_true_eq]
    omega
  · rw [if_neg q, decide_eq_true_eq]
    omega
theorem add_if {P Q R : Prop} [Decidable P] [Decidable Q] [Decidable R] {x : Int} (h1 : ¬ (P ∧ Q)) (h2 : R ↔ P ∨ Q) : (if P then x else 0) + (if Q then x else 0) = if R then x else 0 := by
  by_cases p : P
  · by_cases q : Q
    · exact absurd ⟨p, q⟩ h1
    · rw [if_pos p, if_neg q, if_pos (h2.mpr (.inl p))]
      omega
  · by_cases q : Q
    · rw [if_neg p, if_pos q, if_pos (h2.mpr (.inr q))]
      omega
    · rw [if_neg p, if_neg q, if_neg fun z => (h2.mp z).elim p q]
      rfl
theorem mod_add' {t h n p : Nat} (ht : 0 < t) : (h + n) % t = p ↔ ((h % t + n % t < t ∧ h % t + n % t = p) ∨ (t ≤ h % t + n % t ∧ h % t + n % t - t = p)) := by
  have hh := Nat.mod_lt h ht
  have hr := Nat.mod_lt n ht
  rw [Nat.add_mod]
  by_cases q : h % t + n % t < t
  · rw [Nat.mod_eq_of_lt q]
    omega
  · rw [Nat.mod_eq_sub_mod (by omega), Nat.mod_eq_of_lt (by omega)]
    omega
theorem arc_step {t h n p : Nat} (ht : 0 < t) (hp : p < t) (x : Int) (hc : n % t + 1 < t) :
    (if arc t (h % t) (n % t) p = true then x else 0) + (if (h + n) % t = p then x else 0) = (if arc t (h % t) (n % t + 1) p = true then x else 0) := by
  have hh := Nat.mod_lt h ht
  have hr := Nat.mod_lt n ht
  refine add_if ?_ ?_
  · rw [arc_iff, mod_add' ht]
    generalize h % t = a at *
    generalize n % t = r at *
    omega
  · rw [arc_iff, arc_iff, mod_add' ht]
    generalize h % t = a at *
    generalize n % t = r at *
    omega
theorem arc_full {t h n p : Nat} (ht : 0 < t) (hp : p < t) (x : Int) (hc : n % t + 1 = t) :
    (if arc t (h % t) (n % t) p = true then x else 0) + (if (h + n) % t = p then x else 0) = x := by
  have hh := Nat.mod_lt h ht
  have hr := Nat.mod_lt n ht
  have e : (if arc t (h % t) (n % t) p = true then x else 0) + (if (h + n) % t = p then x else 0) = if True then x else 0 := by
    refine add_if ?_ ?_
    · rw [arc_iff, mod_add' ht]
      generalize h % t = a at *
      generalize n % t = r at *
      omega
    · refine iff_of_true trivial ?_
      rw [arc_iff, mod_add' ht]
      generalize h % t = a at *
      generalize n % t = r at *
      omega
  rw [e, if_pos trivial]
theorem arc_zero {t a p : Nat} (h : a < t) : arc t a 0 p = false := by
  unfold arc
  rw [if_pos (by omega)]
  exact decide_eq_false (by omega)
theorem wnd_rep {t p : Nat} (ht : 0 < t) (hp : p < t) (x : Int) (h : Nat) : ∀ n, wnd t h (List.replicate n x) p = ((n / t : Nat) : Int) * x + (if arc t (h % t) (n % t) p = true then x else 0)
  | 0 => by
    rw [Nat.zero_div, Nat.zero_mod, arc_zero (Nat.mod_lt h ht)]
    simp [wnd]
  | n + 1 => by
    have one : wnd t (h + n) [x] p = (if (h + n) % t = p then x else 0) := by
      show (if (h + n) % t = p then x else 0) + 0 = _
      omega
    rw [List.replicate_succ', wnd_append, wnd_rep ht hp x h n, List.length_replicate, one, Int.add_assoc]
    have hd := Nat.div_add_mod n t
    have hr := Nat.mod_lt n ht
    by_cases hc : n % t + 1 < t
    · have d1 : (n + 1) / t = n / t := by
        have : n + 1 = (n % t + 1) + t * (n / t) := by omega
        rw [this, Nat.add_mul_div_left _ _ ht, Nat.div_eq_of_lt hc]
        omega
      have d2 : (n + 1) % t = n % t + 1 := by
        have : n + 1 = (n % t + 1) + t * (n / t) := by omega
        rw [this, Nat.add_mul_mod_self_left, Nat.mod_eq_of_lt hc]
      rw [d1, d2, arc_step ht hp x hc]
    · have e1 : n % t + 1 = t := by omega
      have d1 : (n + 1) / t = n / t + 1 := by
        have : n + 1 = t * (n / t + 1) := by rw [Nat.mul_add]; omega
        rw [this, Nat.mul_div_cancel_left _ ht]
      have d2 : (n + 1) % t = 0 := by
        have : n + 1 = t * (n / t + 1) := by rw [Nat.mul_add]; omega
        rw [this, Nat.mul_mod_right]
      have e2 : (((n / t + 1 : Nat)) : Int) * x = ((n / t : Nat) : Int) * x + x := by
        rw [Int.natCast_add, Int.add_mul]
        simp
      rw [d1, d2, arc_full ht hp x e1, arc_zero (Nat.mod_lt h ht), e2]
      simp
end K8
set_option linter.all false
/-! the plain law, continued: wound weighings, sorts, what the law asks -/
namespace K8

/-! ### wound, by weights -/
/-- wound round t places, weights of width d -/
def wv (d t : Nat) (xs : List Wt) : List Wt := (List.range t).map fun p => (List.range d).map fun j => wnd t 0 (col j xs) p
theorem wv_len {d t : Nat} {xs : List Wt} : (wv d t xs).length = t := by simp [wv]
theorem wv_wd {d t : Nat} {xs : List Wt} : Wd d (wv d t xs) := fun w hw => by
  obtain ⟨p, _, e⟩ := List.mem_map.mp hw
  rw [← e]
  simp
theorem getD_mapRange (g : Nat → Int) {d j : Nat} (h : j < d) : ((List.range d).map g).getD j 0 = g j := by
  rw [List.getD_eq_getElem?_getD, List.getElem?_map, List.getElem?_range h]
  rfl
theorem col_wv {d t j : Nat} {xs : List Wt} (h : j < d) : col j (wv d t xs) = (List.range t).map (wnd t 0 (col j xs)) := by
  unfold col wv
  rw [List.map_map]
  refine List.map_congr_left fun p _ => ?_
  exact getD_mapRange (fun j => wnd t 0 (col j xs) p) h
theorem col_append (j : Nat) (a b : List Wt) : col j (a ++ b) = col j a ++ col j b := List.map_append
theorem col_rep (j n : Nat) (w : Wt) : col j (List.replicate n w) = List.replicate n (w.getD j 0) := List.map_replicate
theorem col_len (j : Nat) (a : List Wt) : (col j a).length = a.length := List.length_map _
theorem zip_map (t : Nat) (f g : Nat → Int) : List.zipWith (· + ·) ((List.range t).map f) ((List.range t).map g) = (List.range t).map fun p => f p + g p := by
  rw [List.zipWith_map, List.zipWith_self]
theorem rep_range (t : Nat) (x : Int) : List.replicate t x = (List.range t).map fun _ => x := by
  rw [List.map_const', List.length_range]
theorem wv_nil {d t : Nat} : wv d t [] = List.replicate t (List.replicate d 0) := by
  show (List.range t).map (fun _ => (List.range d).map fun _ => (0 : Int)) = _
  rw [List.map_const', List.length_range, List.map_const', List.length_range]
/-- the places of the arc -/
def arcs (t h r : Nat) (w b : Wt) : List Wt := (List.range t).map fun p => if arc t h r p = true then w else b
theorem arcs_one {t h r : Nat} {w b : Wt} (h1 : h + r ≤ t) : arcs t h r w b = List.replicate h b ++ (List.replicate r w ++ List.replicate (t - h - r) b) := by
  refine List.ext_getElem (by simp [arcs]; omega) fun i hi _ => ?_
  have hi' : i < t := by simpa [arcs] using hi
  have e : (arcs t h r w b)[i] = if arc t h r i = true then w else b := by simp [arcs]
  rw [e]
  by_cases q1 : i < h
  · rw [if_neg (by rw [arc_iff]; omega), List.getElem_append_left (by simpa using q1), List.getElem_replicate]
  · rw [List.getElem_append_right (by simpa using q1)]
    by_cases q2 : i < h + r
    · rw [if_pos (by rw [arc_iff]; omega), List.getElem_append_left (by simp; omega), List.getElem_replicate]
    · rw [if_neg (by rw [arc_iff]; omega), List.getElem_append_right (by simp; omega), List.getElem_replicate]
theorem arcs_two {t h r : Nat} {w b : Wt} (h1 : t < h + r) (h2 : h < t) (h3 : r < t) : arcs t h r w b = List.replicate (h + r - t) w ++ (List.replicate (t - r) b ++ List.replicate (t - h) w) := by
  refine List.ext_getElem (by simp [arcs]; omega) fun i hi _ => ?_
  have hi' : i < t := by simpa [arcs] using hi
  have e : (arcs t h r w b)[i] = if arc t h r i = true then w else b := by simp [arcs]
  rw [e]
  by_cases q1 : i < h + r - t
  · rw [if_pos (by rw [arc_iff]; omega), List.getElem_append_left (by simpa using q1), List.getElem_replicate]
  · rw [List.getElem_append_right (by simpa using q1)]
    by_cases q2 : i < h
    · rw [if_neg (by rw [arc_iff]; omega), List.getElem_append_left (by simp; omega), List.getElem_replicate]
    · rw [if_pos (by rw [arc_iff]; omega), List.getElem_append_right (by simp; omega), List.getElem_replicate]
/-- one stretch more -/
theorem wv_more {d t n : Nat} {xs : List Wt} {w : Wt} (ht : 0 < t) (hx : Wd d xs) (hw : w.length = d) :
    vz (vz (wv d t xs) (List.replicate t (w.map fun x => ((n / t : Nat) : Int) * x))) (arcs t (xs.length % t) (n % t) w (w.map fun x => 0 * x)) = wv d t (xs ++ List.replicate n w) := by
  have w1 : Wd d (List.replicate t (w.map fun x => ((n / t : Nat) : Int) * x)) := Wd.rep (by rw [List.length_map]; exact hw)
  have w2 : Wd d (arcs t (xs.length % t) (n % t) w (w.map fun x => 0 * x)) := fun u hu => by
    obtain ⟨p, _, e⟩ := List.mem_map.mp hu
    rw [← e]
    split
    · exact hw
    · rw [List.length_map]; exact hw
  have w3 : Wd d (vz (wv d t xs) (List.replicate t (w.map fun x => ((n / t : Nat) : Int) * x))) := vz_wd wv_wd w1
  refine col_ext (d := d) (vz_wd w3 w2) wv_wd ?_ fun j hj => ?_
  · rw [vz_len, vz_len, wv_len, wv_len]
    · rw [wv_len, List.length_replicate]
    · rw [vz_len, wv_len]
      · simp [arcs]
      · rw [wv_len, List.length_replicate]
  · have gm : ∀ c : Int, (w.map fun x => c * x).getD j 0 = c * w.getD j 0 := fun c => by
      rw [List.getD_eq_getElem?_getD, List.getElem?_map, List.getD_eq_getElem?_getD]
      cases w[j]? with
      | none => simp
      | some x => rfl
    have ea : col j (arcs t (xs.length % t) (n % t) w (w.map fun x => 0 * x)) = (List.range t).map fun p => if arc t (xs.length % t) (n % t) p = true then w.getD j 0 else 0 := by
      unfold col arcs
      rw [List.map_map]
      refine List.map_congr_left fun p _ => ?_
      show (if arc t (xs.length % t) (n % t) p = true then w else w.map fun x => 0 * x).getD j 0 = _
      split
      · rfl
      · rw [gm 0]
        omega
    rw [col_vz j w3 w2, col_vz j wv_wd w1, col_wv hj, col_wv hj, col_rep, gm, rep_range, zip_map, ea, zip_map]
    refine List.map_congr_left fun p hp => ?_
    have hp' := List.mem_range.mp hp
    show wnd t 0 (col j xs) p + ((n / t : Nat) : Int) * w.getD j 0 + (if arc t (xs.length % t) (n % t) p = true then w.getD j 0 else 0) = wnd t 0 (col j (xs ++ List.replicate n w)) p
    rw [col_append, col_rep, wnd_append, wnd_rep ht hp', Nat.zero_add, col_len]
    omega
theorem wv_wv {d t m : Nat} {xs : List Wt} (ht : 0 < t) (hm : 0 < m) : wv d t (wv d (t * m) xs) = wv d t xs := by
  refine col_ext (d := d) wv_wd wv_wd (by rw [wv_len, wv_len]) fun j hj => ?_
  rw [col_wv hj, col_wv hj, col_wv hj]
  refine List.map_congr_left fun p _ => ?_
  rw [wnd_range, wnd_wnd ht hm]
theorem wv_vz {d t : Nat} {xs ys : List Wt} (hx : Wd d xs) (hy : Wd d ys) (hl : xs.length = ys.length) : wv d t (vz xs ys) = vz (wv d t xs) (wv d t ys) := by
  refine col_ext (d := d) wv_wd (vz_wd wv_wd wv_wd) ?_ fun j hj => ?_
  · rw [vz_len, wv_len, wv_len]
    rw [wv_len, wv_len]
  · rw [col_vz j wv_wd wv_wd, col_wv hj, col_wv hj, col_wv hj, zip_map, col_vz j hx hy]
    refine List.map_congr_left fun p _ => ?_
    rw [wnd_zip t p 0 _ _ (by rw [col_len, col_len]; exact hl)]

/-! ### the sum of all places -/
def tot (d : Nat) (xs : List Wt) : Wt := (List.range d).map fun j => (col j xs).sum
theorem tot_len {d : Nat} {xs : List Wt} : (tot d xs).length = d := by simp [tot]
theorem tot_wv {d t : Nat} {xs : List Wt} (ht : 0 < t) : tot d (wv d t xs) = tot d xs := by
  unfold tot
  refine List.map_congr_left fun j hj => ?_
  rw [col_wv (List.mem_range.mp hj), sum_range, wnd_sum ht]
theorem sum_zip : ∀ {a b : List Int}, a.length = b.length → (List.zipWith (· + ·) a b).sum = a.sum + b.sum
  | [], [], _ => rfl
  | x :: a, y :: b, h => by
    rw [List.zipWith_cons_cons, List.sum_cons, List.sum_cons, List.sum_cons, sum_zip (a := a) (b := b) (by simpa using h)]
    omega
theorem tot_vz {d : Nat} {xs ys : List Wt} (hx : Wd d xs) (hy : Wd d ys) (hl : xs.length = ys.length) : tot d (vz xs ys) = zadd (tot d xs) (tot d ys) := by
  refine wt_ext (d := d) tot_len (by rw [zadd_len, tot_len]; rw [tot_len, tot_len]) fun j hj => ?_
  rw [getD_zadd j (by rw [tot_len, tot_len])]
  unfold tot
  rw [getD_mapRange _ hj, getD_mapRange _ hj, getD_mapRange _ hj, col_vz j hx hy, sum_zip (by rw [col_len, col_len]; exact hl)]
theorem sum_rev (a : List Int) : a.reverse.sum = a.sum := by
  induction a with
  | nil => rfl
  | cons x a ih =>
    rw [List.reverse_cons, List.sum_append, ih]
    show a.sum + (x + 0) = (x :: a).sum
    rw [List.sum_cons]
    omega
theorem tot_rev {d : Nat} {xs : List Wt} : tot d xs.reverse = tot d xs := by
  unfold tot col
  refine List.map_congr_left fun j _ => ?_
  rw [List.map_reverse, sum_rev]

/-! ### sorts -/
/-- the tally's sum in a column -/
def wsum (j : Nat) : List (Wt × Int) → Int
  | [] => 0
  | p :: r => p.2 * p.1.getD j 0 + wsum j r
theorem wsum_append (j : Nat) : ∀ (a b : List (Wt × Int)), wsum j (a ++ b) = wsum j a + wsum j b
  | [], b => by show wsum j b = 0 + wsum j b; omega
  | p :: r, b => by
    show p.2 * p.1.getD j 0 + wsum j (r ++ b) = p.2 * p.1.getD j 0 + wsum j r + wsum j b
    rw [wsum_append j r b]
    omega
theorem wsum_perm (j : Nat) {a b : List (Wt × Int)} (h : a.Perm b) : wsum j a = wsum j b := by
  induction h with
  | nil => rfl
  | cons x _ ih =>
    show x.2 * x.1.getD j 0 + _ = x.2 * x.1.getD j 0 + _
    rw [ih]
  | swap x y l =>
    show y.2 * y.1.getD j 0 + (x.2 * x.1.getD j 0 + wsum j l) = x.2 * x.1.getD j 0 + (y.2 * y.1.getD j 0 + wsum j l)
    omega
  | trans _ _ h1 h2 => exact h1.trans h2
def tget (ts : List (Wt × Int)) (w : Wt) : Option Int := match ts with
  | [] => none
  | p :: r => if p.1 = w then some p.2 else tget r w
def tput : List (Wt × Int) → Wt → Int → List (Wt × Int)
  | [], w, n => [(w, n)]
  | p :: r, w, n => if p.1 = w then (w, n) :: r else p :: tput r w n
theorem tput_keys {x w : Wt} {n : Int} : ∀ {ts : List (Wt × Int)}, x ∈ (tput ts w n).map (·.1) → x = w ∨ x ∈ ts.map (·.1)
  | [], h => by
    have h' : x ∈ [w] := h
    exact .inl (List.mem_singleton.mp h')
  | p :: r, h => by
    unfold tput at h
    split at h
    · rename_i e
      rcases List.mem_cons.mp h with h | h
      · exact .inl h
      · exact .inr (List.mem_cons_of_mem _ h)
    · rcases List.mem_cons.mp h with h | h
      · exact .inr (by rw [h]; exact List.mem_cons_self)
      · rcases tput_keys h with h | h
        · exact .inl h
        · exact .inr (List.mem_cons_of_mem _ h)
theorem tput_nodup {w : Wt} {n : Int} : ∀ {ts : List (Wt × Int)}, (ts.map (·.1)).Nodup → ((tput ts w n).map (·.1)).Nodup
  | [], _ => by simp [tput]
  | p :: r, h => by
    have h' : p.1 ∉ r.map (·.1) ∧ (r.map (·.1)).Nodup := List.nodup_cons.mp h
    unfold tput
    split
    · rename_i e
      exact List.nodup_cons.mpr ⟨by rw [← e]; exact h'.1, h'.2⟩
    · rename_i e
      refine List.nodup_cons.mpr ⟨fun z => ?_, tput_nodup h'.2⟩
      rcases tput_keys z with z | z
      · exact e z
      · exact h'.1 z
theorem tput_sum {j : Nat} {w : Wt} {n : Int} : ∀ {ts : List (Wt × Int)}, wsum j (tput ts w ((tget ts w).getD 0 + n)) = wsum j ts + n * w.getD j 0
  | [] => by
    show (0 + n) * w.getD j 0 + 0 = 0 + n * w.getD j 0
    rw [Int.zero_add]
    omega
  | p :: r => by
    by_cases e : p.1 = w
    · have e1 : tget (p :: r) w = some p.2 := if_pos e
      have e2 : ∀ m, tput (p :: r) w m = (w, m) :: r := fun m => if_pos e
      rw [e1, e2]
      show (p.2 + n) * w.getD j 0 + wsum j r = p.2 * p.1.getD j 0 + wsum j r + n * w.getD j 0
      rw [e, Int.add_mul]
      omega
    · have e1 : tget (p :: r) w = tget r w := if_neg e
      have e2 : ∀ m, tput (p :: r) w m = p :: tput r w m := fun m => if_neg e
      rw [e1, e2]
      show p.2 * p.1.getD j 0 + wsum j (tput r w _) = p.2 * p.1.getD j 0 + wsum j r + n * w.getD j 0
      rw [tput_sum (ts := r)]
      omega
theorem tget_mem {w : Wt} {m : Int} : ∀ {ts : List (Wt × Int)}, tget ts w = some m → (w, m) ∈ ts
  | p :: r, h => by
    unfold tget at h
    split at h
    · rename_i e
      rw [← e, ← Option.some.inj h]
      exact List.mem_cons_self
    · exact List.mem_cons_of_mem _ (tget_mem h)
theorem tput_mem {q : Wt × Int} {w : Wt} {n : Int} : ∀ {ts : List (Wt × Int)}, q ∈ tput ts w n → q = (w, n) ∨ q ∈ ts
  | [], h => .inl (List.mem_singleton.mp h)
  | p :: r, h => by
    unfold tput at h
    split at h
    · rcases List.mem_cons.mp h with h | h
      · exact .inl h
      · exact .inr (List.mem_cons_of_mem _ h)
    · rcases List.mem_cons.mp h with h | h
      · exact .inr (by rw [h]; exact List.mem_cons_self)
      · rcases tput_mem h with h | h
        · exact .inl h
        · exact .inr (List.mem_cons_of_mem _ h)
theorem tput_len {w : Wt} {n : Int} : ∀ {ts : List (Wt × Int)}, (tput ts w n).length ≤ ts.length + 1
  | [] => Nat.le_refl _
  | p :: r => by
    unfold tput
    split
    · simp
    · have := tput_len (w := w) (n := n) (ts := r)
      simp only [List.length_cons]
      omega
/-- a tally of some pieces -/
structure Tally (ps : List Pc) (ts : List (Wt × Int)) : Prop where
  nodup : (ts.map (·.1)).Nodup
  sum : ∀ j, wsum j ts = wsum j (ps.map fun p => (p.2, p.1))
  keys : ∀ q ∈ ts, q.1 ∈ ps.map (·.2)
  range : ∀ q ∈ ts, 0 ≤ q.2 ∧ q.2 ≤ total ps
  len : ts.length ≤ ps.length
theorem Tally.nil : Tally [] [] := ⟨List.nodup_nil, fun _ => rfl, fun _ h => (nomatch h), fun _ h => (nomatch h), Nat.le_refl _⟩
theorem Tally.more {ps : List Pc} {ts : List (Wt × Int)} {n : Int} {w : Wt} (t : Tally ps ts) (h0 : ∀ p ∈ ps, 0 ≤ p.1) (hn : 0 ≤ n) : Tally (ps ++ [(n, w)]) (tput ts w ((tget ts w).getD 0 + n)) := by
  have ht : 0 ≤ total ps := by
    rw [total_len h0]
    exact Int.natCast_nonneg _
  have et : total (ps ++ [(n, w)]) = total ps + n := by
    rw [total_append]
    show _ + (n + 0) = _
    omega
  have hg : 0 ≤ (tget ts w).getD 0 ∧ (tget ts w).getD 0 ≤ total ps := by
    cases e : tget ts w with
    | none => exact ⟨Int.le_refl _, ht⟩
    | some m => exact t.range (w, m) (tget_mem e)
  refine ⟨tput_nodup t.nodup, fun j => ?_, fun q hq => ?_, fun q hq => ?_, ?_⟩
  · rw [tput_sum, t.sum, List.map_append, wsum_append]
    show _ = _ + (n * w.getD j 0 + 0)
    omega
  · rw [List.map_append]
    rcases tput_mem hq with h | h
    · rw [h]
      exact List.mem_append_right _ (List.mem_singleton.mpr rfl)
    · exact List.mem_append_left _ (t.keys q h)
  · rw [et]
    rcases tput_mem hq with h | h
    · rw [h]
      show 0 ≤ (tget ts w).getD 0 + n ∧ (tget ts w).getD 0 + n ≤ total ps + n
      omega
    · have := t.range q h
      omega
  · have := tput_len (ts := ts) (w := w) (n := (tget ts w).getD 0 + n)
    have := t.len
    rw [List.length_append]
    show _ ≤ _ + 1
    omega
/-- what a tally comes to -/
theorem wsum_flat {j : Nat} : ∀ {ps : List Pc}, (∀ p ∈ ps, 0 ≤ p.1) → wsum j (ps.map fun p => (p.2, p.1)) = (col j (flat ps)).sum
  | [], _ => rfl
  | p :: r, h => by
    have h1 := h p List.mem_cons_self
    have sr : ∀ (n : Nat) (x : Int), (List.replicate n x).sum = (n : Int) * x := fun n x => by
      induction n with
      | zero => simp
      | succ n ih =>
        rw [List.replicate_succ, List.sum_cons, ih, Int.natCast_add, Int.add_mul]
        simp
        omega
    rw [flat_cons, col_append, List.sum_append, col_rep, sr, ← wsum_flat fun q hq => h q (List.mem_cons_of_mem _ hq)]
    show p.1 * p.2.getD j 0 + _ = _
    rw [show ((p.1.toNat : Nat) : Int) = p.1 by omega]
/-- the law's way: one after another -/
def allM (d : Nat) (ts : List (Wt × Int)) : Wt := ts.foldl (fun acc q => zadd acc (q.1.map fun x => q.2 * x)) (List.replicate d 0)
theorem allM_from {d : Nat} : ∀ (ts : List (Wt × Int)) (acc : Wt), acc.length = d → (∀ q ∈ ts, q.1.length = d) →
    (ts.foldl (fun acc q => zadd acc (q.1.map fun x => q.2 * x)) acc).length = d ∧ ∀ j, (ts.foldl (fun acc q => zadd acc (q.1.map fun x => q.2 * x)) acc).getD j 0 = acc.getD j 0 + wsum j ts
  | [], acc, h, _ => ⟨h, fun j => by show _ = _ + 0; simp⟩
  | q :: r, acc, h, hq => by
    have h1 := hq q List.mem_cons_self
    have hl : acc.length = (q.1.map fun x => q.2 * x).length := by rw [List.length_map]; omega
    obtain ⟨k1, k2⟩ := allM_from r (zadd acc (q.1.map fun x => q.2 * x)) (by rw [zadd_len hl]; exact h) fun q' hq' => hq q' (List.mem_cons_of_mem _ hq')
    refine ⟨k1, fun j => ?_⟩
    rw [List.foldl_cons, k2 j, getD_zadd j hl]
    have gm : (q.1.map fun x => q.2 * x).getD j 0 = q.2 * q.1.getD j 0 := by
      rw [List.getD_eq_getElem?_getD, List.getElem?_map, List.getD_eq_getElem?_getD]
      cases q.1[j]? with
      | none => simp
      | some x => rfl
    rw [gm]
    show _ = _ + (q.2 * q.1.getD j 0 + wsum j r)
    omega
theorem allM_sorts {d : Nat} {ps : List Pc} {ts ts' : List (Wt × Int)} (h0 : ∀ p ∈ ps, 0 ≤ p.1) (hw : ∀ p ∈ ps, p.2.length = d) (t : Tally ps ts) (hp : ts'.Perm ts) : allM d ts' = tot d (flat ps) := by
  have hk : ∀ q ∈ ts', q.1.length = d := fun q hq => by
    obtain ⟨p, h1, h2⟩ := List.mem_map.mp (t.keys q (hp.mem_iff.mp hq))
    rw [← h2]
    exact hw p h1
  obtain ⟨k1, k2⟩ := allM_from ts' (List.replicate d 0) List.length_replicate hk
  refine wt_ext (d := d) k1 tot_len fun j hj => ?_
  unfold allM
  rw [k2 j, wsum_perm j hp, t.sum, wsum_flat h0]
  unfold tot
  rw [getD_mapRange _ hj]
  have e : (List.replicate d (0 : Int)).getD j 0 = 0 := by
    rw [List.getD_eq_getElem?_getD, List.getElem?_replicate]
    split <;> rfl
  rw [e]
  omega
end K8
set_option Elab.async false
set_option linter.all false
set_option maxRecDepth 100000
set_option maxHeartbeats 4000000
/-! what stands in the heap: weights, pieces, weighings -/
namespace K8
open PySem PySem.Spec PyProof.Rows L2

def topS (i : Nat) : Stmt := PySem.Challenge.pw_farcords_k08_whole_weighings_keep_sums.main.body.getD i (.Pass ⟨0, 0, 0, 0⟩)

/-- tuples stay -/
def Tups (H H' : Hp) : Prop := ∀ b xs, H b = some (.tup xs) → H' b = some (.tup xs)
theorem Tups.refl (H : Hp) : Tups H H := fun _ _ h => h
theorem Tups.trans {H H1 H2 : Hp} (a : Tups H H1) (b : Tups H1 H2) : Tups H H2 := fun c xs h => b c xs (a c xs h)
theorem same_tups {H H' : Hp} (s : Same H H') : Tups H H' := fun b xs h => s b _ h
theorem same_new {H : Hp} {p : Addr} {o : HO} (h : H p = none) : Same H (upd H p o) := fun b x e => by
  rw [upd_ne (ne_of_none e h)]
  exact e
theorem tups_new {H : Hp} {p : Addr} {o : HO} (h : H p = none) : Tups H (upd H p o) := same_tups (same_new h)
theorem tups_lst {H : Hp} {p : Addr} {xs : List V} {o : HO} (h : H p = some (.lst xs)) : Tups H (upd H p o) := fun b ys e => by
  have n : b ≠ p := ne_of e h (by intro z; cases z)
  rw [upd_ne n]
  exact e
theorem tups_dT {H : Hp} {p : Addr} {xs : List (List Key × V)} {o : HO} (h : H p = some (.dT xs)) : Tups H (upd H p o) := fun b ys e => by
  have n : b ≠ p := ne_of e h (by intro z; cases z)
  rw [upd_ne n]
  exact e
/-- the weights w at r -/
def WtAt (H : Hp) (r : Addr) (w : Wt) : Prop := H r = some (.tup (w.map V.int))
theorem WtAt.mono {H H' : Hp} {r : Addr} {w : Wt} (h : WtAt H r w) (e : Tups H H') : WtAt H' r w := e _ _ h
/-- a piece: a tuple of a many and weights -/
def PcAt (H : Hp) (v : V) (p : Pc) : Prop := ∃ q r, v = .ref q ∧ H q = some (.tup [.int p.1, .ref r]) ∧ WtAt H r p.2
theorem PcAt.mono {H H' : Hp} {v : V} {p : Pc} (h : PcAt H v p) (e : Tups H H') : PcAt H' v p :=
  let ⟨q, r, a, b, c⟩ := h
  ⟨q, r, a, e _ _ b, e _ _ c⟩
inductive PcsAt (H : Hp) : List V → List Pc → Prop
  | nil : PcsAt H [] []
  | cons {v : V} {p : Pc} {vs : List V} {ps : List Pc} : PcAt H v p → PcsAt H vs ps → PcsAt H (v :: vs) (p :: ps)
theorem PcsAt.mono {H H' : Hp} (e : Tups H H') : ∀ {vs : List V} {ps : List Pc}, PcsAt H vs ps → PcsAt H' vs ps
  | _, _, .nil => .nil
  | _, _, .cons h t => .cons (h.mono e) (t.mono e)
theorem PcsAt.length {H : Hp} : ∀ {vs : List V} {ps : List Pc}, PcsAt H vs ps → vs.length = ps.length
  | _, _, .nil => rfl
  | _, _, .cons _ t => congrArg (· + 1) t.length
theorem PcsAt.append {H : Hp} : ∀ {vs us : List V} {ps qs : List Pc}, PcsAt H vs ps → PcsAt H us qs → PcsAt H (vs ++ us) (ps ++ qs)
  | _, _, _, _, .nil, t => t
  | _, _, _, _, .cons h t, u => .cons h (t.append u)
theorem PcsAt.one {H : Hp} {v : V} {p : Pc} (h : PcAt H v p) : PcsAt H [v] [p] := .cons h .nil
theorem PcsAt.snoc {H : Hp} {vs : List V} {v : V} {ps : List Pc} {p : Pc} (h : PcsAt H vs ps) (h' : PcAt H v p) : PcsAt H (vs ++ [v]) (ps ++ [p]) := h.append (.one h')
theorem PcsAt.get {H : Hp} : ∀ {vs : List V} {ps : List Pc} {i : Nat} {v : V}, PcsAt H vs ps → vs[i]? = some v → ∃ p, ps[i]? = some p ∧ PcAt H v p
  | _, _, 0, _, .cons h _, e => ⟨_, rfl, by cases e; exact h⟩
  | _, _, i + 1, _, .cons _ t, e => PcsAt.get (i := i) t e
theorem PcsAt.unsnoc {H : Hp} : ∀ {vs : List V} {ps : List Pc} {p : Pc}, PcsAt H vs (ps ++ [p]) → ∃ us v, vs = us ++ [v] ∧ PcsAt H us ps ∧ PcAt H v p
  | _, [], _, .cons h .nil => ⟨[], _, rfl, .nil, h⟩
  | _, _ :: _, _, .cons h t => by
    obtain ⟨us, v, rfl, a, b⟩ := PcsAt.unsnoc t
    exact ⟨_ :: us, v, rfl, .cons h a, b⟩
theorem PcsAt.reverse {H : Hp} : ∀ {vs : List V} {ps : List Pc}, PcsAt H vs ps → PcsAt H vs.reverse ps.reverse
  | _, _, .nil => .nil
  | _, _, .cons h t => by
    rw [List.reverse_cons, List.reverse_cons]
    exact t.reverse.snoc h
/-- a list of pieces -/
def WgAt (H : Hp) (a : Addr) (ps : List Pc) : Prop := ∃ vs, H a = some (.lst vs) ∧ PcsAt H vs ps
theorem WgAt.mono {H H' : Hp} {a : Addr} {ps : List Pc} (h : WgAt H a ps) (e : Same H H') : WgAt H' a ps :=
  let ⟨vs, x, y⟩ := h
  ⟨vs, e _ _ x, y.mono (same_tups e)⟩

/-! ### == of these -/
def dWt (w : Wt) : PyData := .tuple (w.map .int)
def dPc (p : Pc) : PyData := .tuple [.int p.1, dWt p.2]
def dWg (ps : List Pc) : PyData := .list (ps.map dPc)
section
variable {K : PySem.W.Frag} {H : Hp}
theorem dp_ints : ∀ w : Wt, DpAll K H (w.map V.int) (w.map .int)
  | [] => .nil
  | x :: w => .cons (.int x) (dp_ints w)
theorem WtAt.dp {r : Addr} {w : Wt} (h : WtAt H r w) : Dp K H (.ref r) (dWt w) := .tup (SqT.of h) (dp_ints w)
theorem PcAt.dp {v : V} {p : Pc} (h : PcAt H v p) : Dp K H v (dPc p) := by
  obtain ⟨q, r, rfl, a, b⟩ := h
  exact .tup (SqT.of a) (.cons (.int _) (.cons b.dp .nil))
theorem PcsAt.dp : ∀ {vs : List V} {ps : List Pc}, PcsAt H vs ps → DpAll K H vs (ps.map dPc)
  | _, _, .nil => .nil
  | _, _, .cons h t => .cons h.dp t.dp
theorem WgAt.dp {a : Addr} {ps : List Pc} (h : WgAt H a ps) : Dp K H (.ref a) (dWg ps) :=
  let ⟨_, x, y⟩ := h
  .lst (SqL.of x) y.dp
end
theorem lay_ints : ∀ w : Wt, PyData.canLayAll0 (w.map .int) = true
  | [] => by simp [PyData.canLayAll0]
  | x :: w => by simp [PyData.canLayAll0, PyData.canLay0, lay_ints w]
theorem depth_ints : ∀ w : Wt, PyData.depthAll (w.map .int) = 0
  | [] => by simp [PyData.depthAll]
  | x :: w => by simp [PyData.depthAll, PyData.depth, depth_ints w]
theorem lay_pcs : ∀ ps : List Pc, PyData.canLayAll0 (ps.map dPc) = true
  | [] => by simp [PyData.canLayAll0]
  | p :: ps => by simp [PyData.canLayAll0, PyData.canLay0, dPc, dWt, lay_ints, lay_pcs ps]
theorem depth_pcs : ∀ ps : List Pc, PyData.depthAll (ps.map dPc) ≤ 2
  | [] => by simp [PyData.depthAll]
  | p :: ps => by
    have := depth_pcs ps
    simp [PyData.depthAll, PyData.depth, dPc, dWt, depth_ints]
    omega
theorem shaped_wt (w : Wt) : SeqAt.shaped (dWt w) = true := by
  unfold SeqAt.shaped dWt
  simp [PyData.canLay0, PyData.depth, lay_ints, depth_ints]
theorem shaped_wg (ps : List Pc) : SeqAt.shaped (dWg ps) = true := by
  have := depth_pcs ps
  unfold SeqAt.shaped dWg
  simp [PyData.canLay0, PyData.depth, lay_pcs]
  omega
theorem eqv_ints : ∀ a b : Wt, PyData.eqvAll (a.map .int) (b.map .int) = decide (a = b)
  | [], [] => by simp [PyData.eqvAll]
  | [], _ :: _ => by simp [PyData.eqvAll]
  | _ :: _, [] => by simp [PyData.eqvAll]
  | x :: a, y :: b => by
    rw [List.map_cons, List.map_cons, PyData.eqvAll, eqv_ints a b, PyData.eqv]
    by_cases e : x = y <;> by_cases e2 : a = b <;> simp [e, e2]
theorem eqv_wt (a b : Wt) : PyData.eqv (dWt a) (dWt b) = decide (a = b) := by
  unfold dWt
  rw [PyData.eqv, eqv_ints]
theorem eqv_pc (a b : Pc) : PyData.eqv (dPc a) (dPc b) = decide (a = b) := by
  obtain ⟨n, v⟩ := a
  obtain ⟨m, u⟩ := b
  unfold dPc
  rw [PyData.eqv, PyData.eqvAll, PyData.eqvAll, PyData.eqvAll, eqv_wt, PyData.eqv]
  by_cases e : n = m <;> by_cases e2 : v = u <;> simp [e, e2]
theorem eqv_pcs : ∀ a b : List Pc, PyData.eqvAll (a.map dPc) (b.map dPc) = decide (a = b)
  | [], [] => by simp [PyData.eqvAll]
  | [], _ :: _ => by simp [PyData.eqvAll]
  | _ :: _, [] => by simp [PyData.eqvAll]
  | x :: a, y :: b => by
    rw [List.map_cons, List.map_cons, PyData.eqvAll, eqv_pcs a b, eqv_pc]
    by_cases e : x = y <;> by_cases e2 : a = b <;> simp [e, e2]
theorem eqv_wg (a b : List Pc) : PyData.eqv (dWg a) (dWg b) = decide (a = b) := by
  unfold dWg
  rw [PyData.eqv, eqv_pcs]

/-! ### small words -/
theorem line_big {n : Nat} (h : n ≤ 100000) : n < sizeLine := Nat.lt_of_le_of_lt h (by decide)
theorem atI_end {α : Type} {a : List α} {x : α} : atI (a ++ [x]) (-1) = some x := atI_last a x
theorem ixN_end {n : Nat} : ixN (n + 1) (-1) = some n := by
  unfold ixN
  rw [if_neg (by decide), if_pos (by omega)]
  congr 1
  omega
theorem set_end {α : Type} (a : List α) (x y : α) : (a ++ [x]).set a.length y = a ++ [y] := by
  rw [List.set_append_right _ _ (Nat.le_refl _), Nat.sub_self]
  rfl
end K8
set_option Elab.async false
set_option linter.all false
set_option maxRecDepth 100000
set_option maxHeartbeats 4000000
/-! times, plus, length -/
namespace K8
open PySem PySem.Spec PyProof.Rows L2
theorem same_set {H H' : Hp} {D : Addr} {o : HO} (s : Same H H') (n : H D = none) : Same H (upd H' D o) := fun b x e => by
  rw [upd_ne (ne_of_none e n)]
  exact s _ _ e
/-- of so many bits at most -/
def Bt (k : Nat) (x : Int) : Prop := x.natAbs < 2 ^ k
def Bts (k : Nat) (w : Wt) : Prop := ∀ x ∈ w, Bt k x
theorem map_next {α β : Type} {f : α → β} {w : List α} {i : Nat} {x : α} (h : w[i]? = some x) : (w.take (i + 1)).map f = (w.take i).map f ++ [f x] := by
  rw [List.take_add_one, h, List.map_append]
  rfl
theorem map_all {α β : Type} {f : α → β} {w : List α} {i : Nat} (h : i = w.length) : (w.take i).map f = w.map f := by
  rw [h, List.take_length]
theorem ints_get {w : Wt} {i : Nat} {v : V} (h : (w.map V.int)[i]? = some v) : ∃ x, w[i]? = some x ∧ v = .int x := by
  rw [List.getElem?_map] at h
  cases e : w[i]? with
  | none =>
    rw [e] at h
    cases h
  | some x =>
    rw [e] at h
    exact ⟨x, rfl, (Option.some.inj h).symm⟩
section
variable {P : Program} {w : World} {K : PySem.W.Frag} {mg : Str → Option Value} {base : Heap}

/-! ### times -/
abbrev sTimes : Stmt := topS 9
theorem scTimes : FnScope ["number", "weights", "weight"] ["number", "weights"] (defScope sTimes) := ⟨rfl, rfl, rfl, by decide +kernel, rfl, by decide +kernel, by decide +kernel⟩
def spTimes : Sp := fun vs H Q _ => ∃ (n : Int) (r : Addr) (u : Wt), vs = [.int n, .ref r] ∧ WtAt H r u ∧ Bt 1000 n ∧ Bts 3000 u ∧ u.length ≤ 24 ∧
  ∀ H' p, Same H H' → WtAt H' p (u.map fun x => n * x) → Q (.ref p) H'
theorem ok_times {f : Addr} {fd : FuncData} {k : Nat} (F : Fun K "times" "times" sTimes f fd) (mt : mg "tuple" = none) : FnOk P w K mg base CX0 (k + 1) f fd ["number", "weights"] spTimes := by
  refine F.ok scTimes (fun vs H Q E h => ?_) (fun cdv A outer s H vs Q E hr h => ?_)
  · obtain ⟨n, r, u, rfl, _⟩ := h
    rfl
  · obtain ⟨n, r, u, rfl, hu, bn, bu, hl, q⟩ := h
    refine ⟨_, pss_one (ps_ret (pe_callTy call_tuple_of (by rfl) mt boot_tuple (pa_cons
      (pe_lc (own := [("weight", 2)]) (g := gName 2) (tt := tYes) rfl scTimes.nd (pi_tup (pv 1)) (blkOk_by (N := ["number", "weights", "weight"]) (sc := defScope sTimes) (by decide +kernel))
        (fun _ _ _ _ _ => pg_name (i := 2) scTimes.nd rfl (Or.inl rfl)) (fun _ _ _ _ _ => pts_nil) (fun _ _ _ _ _ => pe_op op_mulW (pv 0) (pv 2))) pa_nil))), ?_⟩
    refine ⟨.ref r, rfl, r, rfl, ⟨_, SqT.of hu⟩, fun D hD => lc_tup (K := K) (a := r) (xs := u.map V.int) (fun i H' => Same H H' ∧ H' D = some (.lst (((u.take i).map fun x => n * x).map V.int)))
      ⟨same_new hD, upd_same⟩ (fun i H' _ hp => SqT.of (hp.1 _ _ hu)) (fun i v H' hv hp => ?_) (fun H' hp => ?_)⟩
    · obtain ⟨x, hx, rfl⟩ := ints_get hv
      obtain ⟨sm, hDl⟩ := hp
      refine ⟨rfl, .int n, rfl, .int x, rfl, n, x, rfl, rfl, ?_, _, hDl, ?_, same_set sm hD, ?_⟩
      · exact wide_mul bn (bu x (List.mem_of_getElem? hx)) (by omega) (by omega) (by omega)
      · refine line_big ?_
        rw [List.length_map, List.length_map, List.length_take]
        omega
      · rw [upd_same, map_next hx, List.map_append]
        rfl
    · obtain ⟨sm, hDl⟩ := hp
      rw [map_all (List.length_map _)] at hDl
      refine ⟨D, _, rfl, .inl ⟨SqL.of hDl, fun p hp => ?_⟩⟩
      exact q _ p (sm.trans (same_new hp)) upd_same

/-! ### plus -/
abbrev sPlus : Stmt := topS 6
theorem scPlus : FnScope ["one", "other", "a", "b"] ["one", "other"] (defScope sPlus) := ⟨rfl, rfl, rfl, by decide +kernel, rfl, by decide +kernel, by decide +kernel⟩
def spPlus : Sp := fun vs H Q _ => ∃ (r r' : Addr) (u v : Wt), vs = [.ref r, .ref r'] ∧ WtAt H r u ∧ WtAt H r' v ∧ u.length = v.length ∧ u.length ≤ 24 ∧
  ∀ H' p, Same H H' → WtAt H' p (zadd u v) → Q (.ref p) H'
/-- a comprehension over zip of two tuples of one length -/
theorem lc_zipT {K : PySem.W.Frag} {a b : Addr} {xs ys : List V} {g : TG} {tt : TT} {te : TE} {vs : List Nat} {σ : L2.St} {H1 : Hp} {D : Addr} {Qd : Hp → Prop} (hl : xs.length = ys.length) (Pv : Nat → Hp → Prop) (h0 : Pv 0 (upd H1 D (.lst [])))
    (hq : ∀ i H, Pv i H → SqT K H a xs ∧ SqT K H b ys)
    (hs : ∀ i x y T H, xs[i]? = some x → ys[i]? = some y → Pv i H → H T = none → g (.ref T) (wipe σ vs) (upd H T (.tup [x, y])) fun σ2 H2 => wipe σ2 vs = wipe σ vs ∧ tt σ2 H2 fun b H3 =>
      if b = true then te σ2 H3 fun y H4 => ∃ acc, H4 D = some (.lst acc) ∧ acc.length < sizeLine ∧ Pv (i + 1) (upd H4 D (.lst (acc ++ [y]))) else Pv (i + 1) H3) (hd : ∀ H, Pv xs.length H → Qd H) :
    ∃ W : Nat → Nat → Hp → Prop, (∃ m, W 0 m (upd H1 D (.lst []))) ∧ ∀ i m H, W i m H →
      ((RZ.ItzT K a b).stop i H ∧ Qd H) ∨ ((RZ.ItzT K a b).go i H ∧ ∃ Nx : Hp → Prop, (∀ H', Nx H' → ∃ m', m' < m ∧ W (i + 1) m' H') ∧ ∀ x H', (RZ.ItzT K a b).yld i H x H' → g x (wipe σ vs) H' fun σ2 H2 => wipe σ2 vs = wipe σ vs ∧ tt σ2 H2 fun b H3 =>
        if b = true then te σ2 H3 fun y H4 => ∃ acc, H4 D = some (.lst acc) ∧ acc.length < sizeLine ∧ Nx (upd H4 D (.lst (acc ++ [y]))) else Nx H3) := by
  refine ⟨fun i m H => m = xs.length - i ∧ i ≤ xs.length ∧ Pv i H, ⟨xs.length, rfl, Nat.zero_le _, h0⟩, fun i m H hw => ?_⟩
  obtain ⟨rfl, hi, p⟩ := hw
  obtain ⟨qx, qy⟩ := hq i H p
  by_cases hlt : i < xs.length
  · refine .inr ⟨⟨xs, ys, _, _, qx, qy, List.getElem?_eq_getElem hlt, List.getElem?_eq_getElem (by omega : i < ys.length)⟩, Pv (i + 1), fun H' p' => ⟨xs.length - (i + 1), by omega, rfl, hlt, p'⟩, fun v H' hy => ?_⟩
    obtain ⟨T, x', y', rfl, hT, rfl, f1, f2⟩ := hy
    exact hs i x' y' T H (f1 xs qx) (f2 ys qy) p hT
  · have e : i = xs.length := by omega
    subst e
    exact .inl ⟨⟨xs, ys, qx, qy, .inl (Nat.le_refl _)⟩, hd H p⟩
theorem zadd_next {u v : Wt} {i : Nat} {x y : Int} (hx : u[i]? = some x) (hy : v[i]? = some y) : (zadd u v).take (i + 1) = (zadd u v).take i ++ [x + y] := by
  have e : (zadd u v)[i]? = some (x + y) := by
    unfold zadd
    rw [List.getElem?_zipWith, hx, hy]
  rw [List.take_add_one, e]
  rfl
theorem ok_plus {f : Addr} {fd : FuncData} {k : Nat} (F : Fun K "plus" "plus" sPlus f fd) (mt : mg "tuple" = none) (mz : mg "zip" = none) : FnOk P w K mg base CX0 (k + 1) f fd ["one", "other"] spPlus := by
  refine F.ok scPlus (fun vs H Q E h => ?_) (fun cdv A outer s H vs Q E hr h => ?_)
  · obtain ⟨r, r', u, v, rfl, _⟩ := h
    rfl
  · obtain ⟨r, r', u, v, rfl, hu, hv, hl, h24, q⟩ := h
    refine ⟨_, pss_one (ps_ret (pe_callTy call_tuple_of (by rfl) mt boot_tuple (pa_cons
      (pe_lc (own := [("a", 2), ("b", 3)]) (g := gTup K 2 (gCons (gName 2) (gCons (gName 3) gNil))) (tt := tYes) rfl scPlus.nd (RZ.pi_zipA (by rfl) mz (pa_cons (pv 0) (pa_cons (pv 1) pa_nil))) (blkOk_by (N := ["one", "other", "a", "b"]) (sc := defScope sPlus) (by decide +kernel))
        (fun _ _ _ _ _ => pg_tup rfl (pgs_cons (pg_name (i := 2) scPlus.nd rfl (Or.inl rfl)) (pgs_cons (pg_name (i := 3) scPlus.nd rfl (Or.inl rfl)) pgs_nil))) (fun _ _ _ _ _ => pts_nil) (fun _ _ _ _ _ => pe_op op_add (pv 2) (pv 3))) pa_nil))), ?_⟩
    refine ⟨.ref r, rfl, .ref r', rfl, r, r', _, _, rfl, .inr ⟨SqT.of hu, SqT.of hv, fun D hD => lc_zipT (K := K) (a := r) (b := r') (xs := u.map V.int) (ys := v.map V.int) (by rw [List.length_map, List.length_map]; exact hl)
      (fun i H' => Same H H' ∧ H' D = some (.lst (((zadd u v).take i).map V.int))) ⟨same_new hD, upd_same⟩ (fun i H' hp => ⟨SqT.of (hp.1 _ _ hu), SqT.of (hp.1 _ _ hv)⟩) (fun i x y T H' hx hy hp hT => ?_) (fun H' hp => ?_)⟩⟩
    · obtain ⟨x, hx', rfl⟩ := ints_get hx
      obtain ⟨y, hy', rfl⟩ := ints_get hy
      obtain ⟨sm, hDl⟩ := hp
      have nT : D ≠ T := ne_of_none hDl hT
      refine ⟨T, _, rfl, SqT.of upd_same, rfl, .int x, [.int y], rfl, .int y, [], rfl, rfl, rfl, .int x, rfl, .int y, rfl, x, y, rfl, rfl, _, Eq.trans (upd_ne nT) hDl, ?_, ?_, ?_⟩
      · refine line_big ?_
        rw [List.length_map, List.length_take]
        have := zadd_len hl
        omega
      · exact same_set (sm.trans (same_new hT)) hD
      · rw [upd_same, zadd_next hx' hy', List.map_append]
        rfl
    · obtain ⟨sm, hDl⟩ := hp
      have e : (zadd u v).take (u.map V.int).length = zadd u v := by
        rw [List.length_map, ← zadd_len hl, List.take_length]
      rw [e] at hDl
      refine ⟨D, _, rfl, .inl ⟨SqL.of hDl, fun p hp => ?_⟩⟩
      exact q _ p (sm.trans (same_new hp)) upd_same
end
end K8
set_option Elab.async false
set_option linter.all false
set_option maxRecDepth 100000
set_option maxHeartbeats 4000000
/-! shaped -/
namespace K8
open PySem PySem.Spec PyProof.Rows L2
theorem take_next' {α : Type} {l : List α} {i : Nat} {x : α} (h : l[i]? = some x) : l.take (i + 1) = l.take i ++ [x] := by
  rw [List.take_add_one, h]
  rfl
theorem len1 {x : V} : [x].length ≤ sizeLine := by show 1 ≤ sizeLine; decide
theorem len2 {x y : V} : [x, y].length ≤ sizeLine := by show 2 ≤ sizeLine; decide
theorem len3 {x y z : V} : [x, y, z].length ≤ sizeLine := by show 3 ≤ sizeLine; decide
theorem atI0 {x : V} {r : List V} : atI (x :: r) 0 = some x := atI_nat (j := 0) rfl
theorem atI1 {x y : V} {r : List V} : atI (x :: y :: r) 1 = some y := atI_nat (j := 1) rfl
/-- a piece of a new tuple at the end of the list at D -/
theorem wg_put {H : Hp} {D p r : Addr} {xs us : List V} {g : List Pc} {m : Int} {u : Wt} (hD : H D = some (.lst xs)) (hP : PcsAt H us g) (hu : WtAt H r u) (hp : H p = none) :
    WgAt (upd (upd H p (.tup [.int m, .ref r])) D (.lst (us ++ [.ref p]))) D (g ++ [(m, u)]) := by
  have nD : D ≠ p := ne_of_none hD hp
  have t1 : Tups H (upd H p (.tup [.int m, .ref r])) := tups_new hp
  have hD1 : (upd H p (.tup [.int m, .ref r])) D = some (.lst xs) := Eq.trans (upd_ne nD) hD
  have t2 : Tups (upd H p (.tup [.int m, .ref r])) (upd (upd H p (.tup [.int m, .ref r])) D (.lst (us ++ [.ref p]))) := tups_lst hD1
  refine ⟨_, upd_same, (hP.mono (t1.trans t2)).snoc ⟨p, r, rfl, ?_, hu.mono (t1.trans t2)⟩⟩
  rw [upd_ne (Ne.symm nD), upd_same]
section
variable {P : Program} {w : World} {K : PySem.W.Frag} {mg : Str → Option Value} {base : Heap}
abbrev sShaped : Stmt := topS 1
theorem scShaped : FnScope ["pieces", "found", "many", "weights"] ["pieces"] (defScope sShaped) := ⟨rfl, rfl, rfl, by decide +kernel, rfl, by decide +kernel, by decide +kernel⟩
def spShaped : Sp := fun vs H Q _ => ∃ (a : Addr) (ps : List Pc), vs = [.ref a] ∧ WgAt H a ps ∧ ps.length ≤ 50000 ∧
  ∀ H' p r, Same H H' → WgAt H' p r → Canon r → flat r = flat ps → r.length ≤ ps.length → Q (.ref p) H'
theorem ok_shaped {f : Addr} {fd : FuncData} {k : Nat} (F : Fun K "shaped" "shaped" sShaped f fd) : FnOk P w K mg base CX0 (k + 1) f fd ["pieces"] spShaped := by
  refine F.ok scShaped (fun vs H Q E h => ?_) (fun cdv A outer s H vs Q E hr h => ?_)
  · obtain ⟨a, ps, rfl, _⟩ := h
    rfl
  · obtain ⟨a, ps, rfl, ⟨vs, hA, hP⟩, hl, q⟩ := h
    refine ⟨_, pss_cons (ps_set (i := 1) scShaped.nd rfl (.inl rfl) (pe_lst pa_nil))
      (pss_cons (ps_for PassesOwn.never rfl (pi_list (pv 0)) (pg_tup rfl (pgs_cons (pg_name (i := 2) scShaped.nd rfl (.inl rfl)) (pgs_cons (pg_name (i := 3) scShaped.nd rfl (.inl rfl)) pgs_nil)))
        (pss_one (ps_if (PW.pt (pw_and (pt_cmpR op_gt (pv 2) pe_int (nomark _)) (pw_and (pt_cmpR (op_neD hr.units) (pv 1) (pe_lst pa_nil) (nomark _))
            (pw_and1 (pt_cmpR (op_eqD hr.units) (pe_ix ix_tup (pe_ix ix_list (pv 1) (pe_un un_neg pe_int) (fun _ _ => rfl)) pe_int (fun _ _ => rfl)) (pv 3) (nomark _))))))
          (pss_one (ps_asg (pe_tup (pa_cons (pe_op op_add (pe_ix ix_tup (pe_ix ix_list (pv 1) (pe_un un_neg pe_int) (fun _ _ => rfl)) pe_int (fun _ _ => rfl)) (pv 2)) (pa_cons (pv 3) pa_nil))) (pg_sub (pv 1) (pe_un un_neg pe_int) set_list)))
          (pss_one (ps_if (pt_cmpR op_gt (pv 2) pe_int (nomark _)) (pss_one (ps_expr (pe_bm PySem.F.plainAttrs_list PySem.F.slot_list_append PySem.F.type_list_append mt_append (pv 1) (pa_cons (pe_tup (pa_cons (pv 2) (pa_cons (pv 3) pa_nil))) pa_nil)))) pss_nil)))))
      (pss_one (ps_ret (pv 1)))), ?_⟩
    refine ⟨Nat.zero_le _, fun D hD => ?_⟩
    have hAD : a ≠ D := ne_of_none hA hD
    refine ⟨.ref a, rfl, a, rfl, ⟨_, SqL.of (Eq.trans (upd_ne hAD) hA)⟩, for_list (K := K) (a := a) (xs := vs)
      (fun i σ H' => ∃ x2 x3, σ = [some (.ref a), some (.ref D), x2, x3] ∧ Same H H' ∧ ∃ f, WgAt H' D f ∧ f = (ps.take i).foldl push [])
      ⟨none, none, rfl, same_new hD, [], ⟨[], upd_same, .nil⟩, rfl⟩ (fun i σ H' _ hp => ?_) (fun i v σ H' hv hp => ?_) (fun σ H' hp => ?_)⟩
    · obtain ⟨_, _, _, sm, _⟩ := hp
      exact SqL.of (sm _ _ hA)
    · obtain ⟨x2, x3, rfl, sm, f, hf, ef⟩ := hp
      obtain ⟨p, hpi, hpc⟩ := hP.get hv
      obtain ⟨n, u⟩ := p
      obtain ⟨t, r, rfl, ht, hru⟩ := hpc.mono (same_tups sm)
      have nx : (ps.take (i + 1)).foldl push [] = push f (n, u) := by
        rw [take_next' hpi, List.foldl_append, ← ef]
        rfl
      obtain ⟨cf, _, lf⟩ := pushs_ok (ps.take i) [] Canon.nil
      rw [← ef] at cf lf
      have hlf : f.length ≤ 50000 := by
        have : (ps.take i).length ≤ ps.length := by rw [List.length_take]; omega
        rw [List.length_nil] at lf
        omega
      refine ⟨t, _, rfl, SqT.of ht, rfl, .int n, [.ref r], rfl, .ref r, [], rfl, rfl, ?_⟩
      refine ⟨_, rfl, n, 0, rfl, rfl, _, rfl, ite2 (fun c => ?_) (fun c => ?_)⟩
      · have h0 : 0 < n := of_decide_eq_true c
        -- found != []
        refine ⟨_, rfl, Nat.zero_le _, fun p hp => ?_⟩
        have s1 : Same H' (upd H' p (.lst [])) := same_new hp
        have hf1 := hf.mono s1
        refine ⟨dWg f, dWg [], hf1.dp, WgAt.dp (show WgAt (upd H' p (.lst [])) p [] from ⟨[], upd_same, .nil⟩), shaped_wg _, shaped_wg _, _, rfl, ?_⟩
        rw [eqv_wg]
        obtain ⟨us, hus, hPus⟩ := hf1
        have hru1 := hru.mono (same_tups s1)
        refine ite2 (fun c1 => ?_) (fun c1 => ?_)
        · rcases snoc_cases f with e | ⟨g, q', e⟩
          · rw [e] at c1
            exact absurd c1 (by decide)
          · obtain ⟨m, u'⟩ := q'
            subst e
            obtain ⟨vs', v', rfl, hg, hv'⟩ := hPus.unsnoc
            obtain ⟨t', r', rfl, ht', hr'⟩ := hv'
            -- found[-1][1] == weights
            refine ⟨.ref D, rfl, 1, rfl, D, _, -1, _, rfl, rfl, SqL.of hus, atI_last _ _, t', _, 1, _, rfl, rfl, SqT.of ht', atI1, _, rfl, dWt u', dWt u, hr'.dp, hru1.dp, shaped_wt _, shaped_wt _, _, rfl, ?_⟩
            rw [eqv_wt]
            refine ite2 (fun c2 => ?_) (fun c2 => ?_)
            · have e2 : u' = u := of_decide_eq_true c2
              refine ⟨.ref D, rfl, 1, rfl, D, _, -1, _, rfl, rfl, SqL.of hus, atI_last _ _, t', _, 0, _, rfl, rfl, SqT.of ht', atI0, .int n, rfl, m, n, rfl, rfl, _, rfl, len2, fun p2 hp2 => ?_⟩
              have nD : D ≠ p2 := ne_of_none hus hp2
              refine ⟨.ref D, rfl, 1, rfl, D, _, -1, vs'.length, rfl, rfl, Eq.trans (upd_ne nD) hus, by rw [List.length_append]; exact ixN_end, ?_⟩
              rw [set_end]
              refine ⟨_, _, rfl, same_set (sm.trans (s1.trans (same_new hp2))) hD, _, wg_put hus hg hru1 hp2, ?_⟩
              rw [nx, ← e2]
              exact (push_same (p := (n, u')) h0).symm
            · have e2 : ¬ u' = u := fun z => c2 (decide_eq_true z)
              refine ⟨_, rfl, n, 0, rfl, rfl, _, rfl, ite2 (fun c => ?_) (fun c' => absurd c c')⟩
              refine ⟨.ref D, rfl, .inl ⟨rfl, _, SqL.of hus⟩, .int n, rfl, .ref r, rfl, len2, fun p2 hp2 => ?_⟩
              have nD : D ≠ p2 := ne_of_none hus hp2
              refine ⟨D, _, _, rfl, rfl, Eq.trans (upd_ne nD) hus, ?_, ?_⟩
              · have := hPus.length
                exact line_big (by omega)
              refine ⟨_, _, rfl, same_set (sm.trans (s1.trans (same_new hp2))) hD, _, wg_put hus hPus hru1 hp2, ?_⟩
              rw [nx]
              exact (push_other (p := (n, u)) h0 e2).symm
        · have e : f = [] := by
            cases f with
            | nil => rfl
            | cons x y => exact absurd rfl c1
          refine ⟨_, rfl, n, 0, rfl, rfl, _, rfl, ite2 (fun c => ?_) (fun c' => absurd c c')⟩
          refine ⟨.ref D, rfl, .inl ⟨rfl, _, SqL.of hus⟩, .int n, rfl, .ref r, rfl, len2, fun p2 hp2 => ?_⟩
          have nD : D ≠ p2 := ne_of_none hus hp2
          refine ⟨D, _, _, rfl, rfl, Eq.trans (upd_ne nD) hus, ?_, ?_⟩
          · have := hPus.length
            exact line_big (by omega)
          refine ⟨_, _, rfl, same_set (sm.trans (s1.trans (same_new hp2))) hD, _, wg_put hus hPus hru1 hp2, ?_⟩
          rw [nx, e]
          exact (push_nil (p := (n, u)) h0).symm
      · have h0 : ¬ 0 < n := fun z => c (decide_eq_true z)
        refine ⟨_, rfl, n, 0, rfl, rfl, _, rfl, ite2 (fun c' => absurd c' c) (fun _ => ?_)⟩
        refine ⟨_, _, rfl, sm, f, hf, ?_⟩
        rw [nx]
        exact (push_no (p := (n, u)) h0).symm
    · obtain ⟨x2, x3, rfl, sm, f, hf, ef⟩ := hp
      obtain ⟨h1, h2, h3⟩ := pushs_ok ps [] Canon.nil
      rw [hP.length, List.take_length] at ef
      rw [← ef] at h1 h2 h3
      refine ⟨.ref D, rfl, q H' D f sm hf h1 h2 ?_⟩
      simpa using h3
end
end K8
set_option Elab.async false
set_option linter.all false
set_option maxRecDepth 100000
set_option maxHeartbeats 4000000
/-! two rules: list(reversed(a list)); a tuple taken once -/
namespace K8
open PySem PySem.Spec PyProof.Rows L2
section
variable {prog : Program} {w : World} {A : Around} {E : Value → Shared → Prop} {s : Shared}
/-- list(it), it the reverse iterator of a list, at its begin -/
theorem list_of_rev {it l : Addr} {items : Array Value} {Q : Value → Shared → Prop} (hh : A.handled = none) (hit : s.heap.IsRevIter it l ((items.size : Int) - 1)) (hl : s.heap.IsList l items) (hne : l ≠ it) (hn : items.size ≤ sizeLine)
    (hQ : ∀ (h' : Heap) (tk : Nat) (acc : Array Value) (c : Nat), (∀ b o, b ≠ it → s.heap.get? b = some o → h'.get? b = some o) →
      h'.get? s.heap.objs.size = some { cls := .type "list", dict := none, data := .seq acc c, slots := #[] } → ItemsOf (fun i v => items[items.size - 1 - i]? = some v) acc items.size → Q (.ref s.heap.objs.size) { s with heap := h', toks := tk }) :
    wpAny (model prog w) A (call (.type "list") [.ref it]) Q E s := by
  obtain ⟨oi, hoi, _⟩ := id hit
  obtain ⟨ol, hol, _⟩ := id hl
  have n1 : s.heap.objs.size ≠ it := Nat.ne_of_gt (Heap.lt_size hoi)
  have n2 : s.heap.objs.size ≠ l := Nat.ne_of_gt (Heap.lt_size hol)
  have nf : s.heap.objs.size ∉ [it, l] := fun z => (List.mem_cons.mp z).elim n1 fun z => n2 (List.mem_singleton.mp z)
  generalize hz : s.heap.objs.size = S at *
  refine callType_codes (Q₁ := fun o s1 => o = .ref S ∧ s1 = { s with heap := s.heap.push { cls := .type "list", data := .seq #[] } }) F.called_list (F.typeCall_list_1 _) F.entry_list_init
    (code_list_new _ ⟨by rw [hz], rfl⟩) fun o s1 h1 => ?_
  obtain ⟨rfl, rfl⟩ := h1
  have g0 : (s.heap.push { cls := .type "list", data := .seq #[] }).get? S = some { cls := .type "list", data := .seq #[] } := by
    rw [← hz]
    exact Heap.get?_push_size _ rfl
  refine ⟨⟨_, g0, rfl⟩, F.args_list_init_2 _ _, ?_⟩
  generalize hH : s.heap.push { cls := .type "list", data := .seq #[] } = h0 at g0
  have k0 : ∀ b o, s.heap.get? b = some o → h0.get? b = some o := fun b o e => by
    rw [← hH]
    exact Heap.get?_push_of_some _ e
  show wpAny (model prog w) _ (Builtin.List.listItems (.ref S) >>= fun old => Builtin.List.listUpdate (.ref S) (fun _ => #[]) >>= fun _ => letGo old.toList.reverse >>= fun _ => Builtin.List.listExtendWith (.ref S) (.ref it) .none) _ _ _
  refine wpAny_bind ?_
  unfold Builtin.List.listItems
  refine wpAny_bind (wpAny_seqItems g0 rfl (wpAny_pure ?_))
  refine wpAny_bind ?_
  show wpAny (model prog w) _ (updateSeq S fun _ => #[]) _ _ _
  refine wpAny_updateSeq g0 rfl ?_
  have g1 := Heap.get?_update_self (Obj.mapSeq fun _ => (#[] : Array Value)) g0 rfl
  refine wpAny_bind (wpAny_letGo ?_)
  generalize hH1 : h0.update S (Obj.mapSeq fun _ => (#[] : Array Value)) = h1 at g1
  have k1 : ∀ b o, b ≠ S → s.heap.get? b = some o → h1.get? b = some o := fun b o nb e => by
    rw [← hH1]
    exact (Heap.get?_update_other _ _ (Ne.symm nb)).trans (k0 b o e)
  have it1 : h1.IsRevIter it l ((items.size : Int) - 1) := hit.at fun o e => k1 it o (Ne.symm n1) e
  have l1 : h1.IsList l items := by
    obtain ⟨o, ho, r⟩ := hl
    exact ⟨o, k1 l o (Ne.symm n2) ho, r⟩
  have ty : ({ s with heap := h1 } : Shared).TypeIs (.ref it) "list_reverseiterator" := Heap.IsRevIter.typeIs (s := { s with heap := h1 }) it1
  unfold Builtin.List.listExtendWith
  refine wpAny_bind (wpAny_typeOf ty ?_)
  rw [if_neg (by rw [show Builtin.List.listSameRef (.ref S) (.ref it) = false by simp [Builtin.List.listSameRef, n1]]; decide)]
  refine wpAny_bind (wpAny_pyIter_revIter (s := { s with heap := h1 }) it1 ?_)
  refine wpAny_bind (wpAny_holding ?_)
  unfold Builtin.List.listLengthHint
  refine wpAny_bind (wpAny_specialOf ty RT.nolen_lri ?_)
  refine wpAny_bind (m := specialOf (Value.ref it) (Str.ofString "__length_hint__")) ?_
  refine wpAny_specialOf ty RT.hint_lri ?_
  generalize hid : ("list_reverseiterator.__length_hint__" : String) = id0
  wp_delta
  rw [show splitId id0 = some ("list_reverseiterator", "__length_hint__") by rw [← hid]; decide +kernel]
  subst hid
  refine wpAny_bind (wpAny_isInstance (b := true) ty (by rw [isSubtype_type]; kernel_rfl) ?_)
  refine wpAny_pure ?_
  rw [if_neg (by decide)]
  have W := (Walks.listRev (prog := prog) (w := w) (A := A.in1.in1) hh it l hne items).toS
  have e0 : ((items.size : Nat) : Int) - 1 - ((0 : Nat) : Int) = (items.size : Int) - 1 := by omega
  refine wpAny_pure ⟨plainId_quiet F.plain_extend_loop _, codeAny_extend_loopS W hn S nf _ items.size 0 _ _ _ rfl (Nat.zero_le _) ⟨Nat.zero_le _, by rw [e0]; exact it1, l1⟩ g1 (ItemsOf.nil _) fun s' acc c mv gS ia => ?_⟩
  rw [Moved.eq_with mv]
  refine ⟨rfl, hQ s'.heap s'.toks acc c (fun b o hb e => mv.heap b o (fun hm => ?_) (k1 b o ?_ e)) gS ia⟩
  · rcases List.mem_cons.mp hm with z | z
    · exact absurd (Heap.lt_size e) (by rw [z, hz]; exact Nat.lt_irrefl _)
    · exact hb (List.mem_singleton.mp z)
  · intro z
    exact absurd (Heap.lt_size e) (by rw [z, hz]; exact Nat.lt_irrefl _)
end
section
variable {X : Cx}
def tListRev (K : PySem.W.Frag) (te : TE) : TE := fun σ H Q => te σ H fun v H1 => ∃ (a : Addr) (xs : List V), v = .ref a ∧ SqL K H1 a xs ∧ ∀ q, H1 q = none → Q (.ref q) (upd H1 q (.lst xs.reverse))
theorem pe_listRev {e : Expr} {te : TE} {p p2 pos pos2 : PySem.Pos} (hc : X.calm = true) (hg : Gl X "list") (hm : X.mg "list" = none) (hg2 : Gl X "reversed") (hm2 : X.mg "reversed" = none) (he : PE X e te)
    (hs : starEach [e] X.env = (false, eval e X.env) :: starEach [] X.env := by rfl)
    (hs2 : starEach [.Call (.Name "reversed" p2) [e] [] pos2] X.env = (false, eval (.Call (.Name "reversed" p2) [e] [] pos2) X.env) :: starEach [] X.env := by rfl) :
    PE X (.Call (.Name "list" p) [.Call (.Name "reversed" p2) [e] [] pos2] [] pos) (tListRev X.K te) := by
  constructor
  intro pins s σ H Q I h
  refine Call_ (ld_blt I hg hm (by decide +kernel : bootBuiltins "list" = some (.type "list")) (callWith_type1 (args_cons (Call_ (ld_blt I hg2 hm2 boot_reversed (callWith_type1 (args_cons ?_ hs) hs rfl))) hs2) hs2 rfl))
  refine thn (he.run pins s σ H _ I h) fun u s1 q1 => args_nil ?_
  obtain ⟨v, H1, I1, r1, a, xs, rfl, hq, q⟩ := q1
  obtain rfl : u = Value.ref a := r1
  obtain ⟨its, rv, pl, hz⟩ := I1.list hq
  refine call_reversed_list pl.isList (args_nil ?_)
  have I2 : Inv X pins σ H1 { s1 with heap := s1.heap.push (revObj a ((its.toArray.size : Int) - 1)) } := I1.kept (t' := s1.toks) fun b o z => Heap.get?_push_of_some _ z
  have fp := I1.fpOk (H' := H1) (b := s1.heap.objs.size) (Nat.le_refl _) (I1.hok.fresh (Nat.le_refl _))
  have il := pl.isList
  obtain ⟨ol, hol, _⟩ := id il
  refine list_of_rev (s := { s1 with heap := s1.heap.push (revObj a ((its.toArray.size : Int) - 1)) }) (I1.ok.hd hc) ⟨_, Heap.get?_push_size _ rfl, rfl, rfl⟩ (il.push _) (Nat.ne_of_lt (Heap.lt_size hol))
    (by rw [List.size_toArray, ← rv.length]; exact hz) fun h' tk acc c hk hS ia => ?_
  have e1 : (s1.heap.push (revObj a ((its.toArray.size : Int) - 1))).objs.size = s1.heap.objs.size + 1 := Heap.size_push ..
  have fr : H1 (s1.heap.objs.size + 1) = none := I1.hok.fresh (Nat.le_succ _)
  rw [show ({ s1 with heap := s1.heap.push (revObj a ((its.toArray.size : Int) - 1)) } : Shared).heap.objs.size = s1.heap.objs.size + 1 from e1] at hS ⊢
  refine ⟨.ref (s1.heap.objs.size + 1), upd H1 (s1.heap.objs.size + 1) (.lst xs.reverse), I2.turnedNew (t' := tk) (ch := [s1.heap.objs.size]) (fun b o hb e => hk b o (fun z => hb (by rw [z]; exact List.mem_singleton.mpr rfl)) e)
    (fun b hb => by rw [List.mem_singleton.mp hb]; exact fp) (Nat.le_of_eq e1) ⟨by rw [List.length_reverse]; exact hz, acc.toList, c, RT.vals_rev rv ia, ?_⟩, rfl, q _ fr⟩
  rw [Array.toArray_toList]
  exact hS
/-- a tuple of one item and more, taken once: itself -/
def rOnce (K : PySem.W.Frag) : R2 := fun x y H Q => ∃ l xs, x = .ref l ∧ y = .int 1 ∧ SqT K H l xs ∧ xs ≠ [] ∧ Q (.ref l) H
theorem once_meets (l : Addr) (items : Array Value) (n : Nat) (dd : Option Addr) (sl : Array (Option Value)) (u : Tok) (hi : items.isEmpty = false) :
    Meets (Builtin.«tuple.__mul__» ⟨[.ref l, .int 1 u], []⟩) (fun _ R s => s.heap.get? l = some { cls := .type "tuple", dict := dd, data := .seq items n, slots := sl } ∧ R (.ok (.ret (Value.ref l))) s) :=
  .of_wp fun prog w A R s h => by
    obtain ⟨hp, g, d, tk, os⟩ := s
    obtain ⟨hl, h⟩ := h
    have f1 := AutoSeq1.idx_int
    wp_walk using wpAny_loadPart' hl
    exact ⟨_, rfl, h⟩
theorem op_once : OpR X (binaryOp .Mult) (rOnce X.K) := by
  intro pins s σ H x y v u Q I rx ry h
  obtain ⟨l, xs, rfl, rfl, hT, hne, q⟩ := h
  cases rx
  obtain ⟨t, rfl⟩ := ry
  obtain ⟨its, r, ⟨o, ho, hc, n, hd⟩, hs⟩ := I.tuple hT
  obtain ⟨cls, dd, data, sl⟩ := o
  simp only at hc hd
  subst hc hd
  have hi : its.toArray.isEmpty = false := by
    cases r with
    | nil => exact absurd rfl hne
    | cons _ _ => rfl
  exact wpAny_binaryOp_repeat_ref (T := "tuple") (U := "int") (by decide) ⟨_, ho, rfl⟩ (fun s' => typeIs_int s' 1 t) noFill_tuple_mul F.fills_int_mul F.slot_int_rmul repeat_tuple F.slot_int_index.lookup
    (call_meets F.slot_int_rmul (typeIs_int s 1 t) F.entry_int_rmul (F.args_int_rmul_2 _ _) (int_rmul_tuple 1 t l its.toArray n dd sl)
      ⟨ho, rfl, ⟨_, ho, rfl⟩, call_meets F.slot_tuple_mul ⟨_, ho, rfl⟩ F.entry_tuple_mul (F.args_tuple_mul_2 _ _) (once_meets l its.toArray n dd sl t hi) ⟨ho, .ref l, H, I, rfl, q⟩⟩)
/-- (0,) so many times -/
def rZeros : R2 := fun x y H Q => ∃ l k, x = .ref l ∧ y = .int k ∧ H l = some (.tup [.int 0]) ∧ 1 ≤ k ∧ k ≤ 1000 ∧ ∀ H' p, Same H H' → WtAt H' p (List.replicate k.toNat 0) → Q (.ref p) H'
theorem flat_zeros (n : Nat) : (List.replicate n [V.int 0]).flatten = (List.replicate n (0 : Int)).map V.int := by
  induction n with
  | zero => rfl
  | succ n ih =>
    rw [List.replicate_succ, List.replicate_succ, List.flatten_cons, ih]
    rfl
theorem op_zeros : OpR X (binaryOp .Mult) rZeros := by
  intro pins s σ H x y v u Q I rx ry h
  obtain ⟨l, k, rfl, rfl, hl, h1, h2, q⟩ := h
  by_cases e : k = 1
  · subst e
    exact op_once pins s σ H _ _ v u Q I rx ry ⟨l, _, rfl, rfl, SqT.of hl, List.cons_ne_nil _ _, q H l (Same.refl H) hl⟩
  · refine op_repT pins s σ H _ _ v u Q I rx ry ⟨l, k, _, rfl, rfl, SqT.of hl, List.cons_ne_nil _ _, by omega, h2, by decide, fun p hp => ?_⟩
    refine q _ p (fun b x z => by rw [upd_ne (ne_of_none z hp)]; exact z) ?_
    unfold WtAt
    rw [upd_same, flat_zeros]
end
end K8
set_option Elab.async false
set_option linter.all false
set_option maxRecDepth 100000
set_option maxHeartbeats 4000000
/-! set(a list of ints), sorted -/
namespace K8
open PySem PySem.Spec PyProof.Rows L2
section
variable {P : Program} {w : World} {A : Around} {E : Value → Shared → Prop} {s : Shared}
/-- a built-in class called with one thing: made, then its __init__, whose check of the arguments is told by what it asks -/
theorem class_call {T newId initId : String} {Bi : Builtin} {x : Value} {Q Q1 : Value → Shared → Prop} (ft : TypeCalled T newId initId) (hct : checkTypeCall T ⟨[x], []⟩ = pure ()) (entryI : entryFor table initId = some Bi)
    (hnew : codeAny (model P w) A.in1 (.call (.builtin newId) ⟨[.type T, x], []⟩) (wants Q1 E) s)
    (hnext : ∀ obj s1, Q1 obj s1 → s1.TypeIs obj T ∧ codeAny (model P w) A.in1 (.call (.builtin initId) ⟨[obj, x], []⟩) (wants (fun r s2 => r = .none ∧ Q obj s2) E) s1) :
    wpAny (model P w) A (call (.type T) [x]) Q E s := by
  obtain ⟨c, tl, hmro⟩ := ft.mro
  have a1 := ft.made
  have a2 := ft.sub
  have a3 := ft.notType
  have a4 := ft.canCreate
  refine wpAny_call (codeAny_of_tree ?_)
  show wpAny (model P w) _ (callAny (.type T) _) _ _ _
  refine wpAny_pure ⟨Code.quiet_builtin _ (by decide +kernel), codeAny_builtin F.entry_type_call ?_⟩
  rw [Around.under_plain (weight_type_call_type T [x] []) rfl]
  repeat (any_goals (first | assumption | wp_step))
  refine codeAny_mono hnew fun r s1 h1 => ?_
  match r, h1 with
  | .error e, h1 => exact h1
  | .ok (.ret obj), h1 =>
    obtain ⟨hT, h2⟩ := hnext _ _ h1
    have b1 := ft.init.lookup
    have b2 := ft.init.bind obj
    repeat (any_goals (first | assumption | wp_step))
    refine codeAny_mono h2 fun r2 s2 h3 => ?_
    match r2, h3 with
    | .error e, h3 => exact h3
    | .ok (.ret v), h3 =>
      obtain ⟨rfl, hq⟩ := h3
      repeat (any_goals (first | assumption | wp_step))
theorem set_of_list {l : Addr} {items : Array Value} (ns : List Int) {Q : Value → Shared → Prop} (hh : A.handled = none) (hl : s.heap.IsList l items) (hit : IntsAre items.toList ns) (hb : ns.length + 1 < scanBound)
    (h : ∀ (h' : Heap) (tk c : Nat), SetR w h' s.heap.objs.size (fun j => decide (j ∈ ns)) c → c ≤ ns.length → (∀ b o, s.heap.get? b = some o → h'.get? b = some o) → Q (.ref s.heap.objs.size) { s with heap := h', toks := tk }) :
    wpAny (model P w) A (call (.type "set") [.ref l]) Q E s := by
  have hsz : items.size = ns.length := by
    have q := hit.length
    rwa [Array.length_toList] at q
  obtain ⟨ol, hol, _⟩ := id hl
  have hlS : l < s.heap.objs.size := Heap.lt_size hol
  refine class_call (Q1 := fun o s1 => o = .ref s.heap.objs.size ∧ s1 = { s with heap := s.heap.push { cls := .type "set", dict := none, data := .set #[] 0 (.fresh 0 0 (!w.params.followText "set-order")) } }) F.called_set (F.typeCall_set_1 _) F.entry_set_init
    (code_set_led1 _ ⟨rfl, rfl⟩) fun o s1 h1 => ?_
  obtain ⟨rfl, rfl⟩ := h1
  have g0 : (s.heap.push { cls := .type "set", dict := none, data := .set #[] 0 (.fresh 0 0 (!w.params.followText "set-order")) }).get? s.heap.objs.size = some { cls := .type "set", dict := none, data := .set #[] 0 (.fresh 0 0 (!w.params.followText "set-order")) } :=
    Heap.get?_push_size _ rfl
  have hz : (s.heap.push { cls := .type "set", dict := none, data := .set #[] 0 (.fresh 0 0 (!w.params.followText "set-order")) }).objs.size = s.heap.objs.size + 1 := Heap.size_push ..
  have l1 : (s.heap.push { cls := .type "set", dict := none, data := .set #[] 0 (.fresh 0 0 (!w.params.followText "set-order")) }).IsList l items := hl.push _
  have k1 : ∀ b o, s.heap.get? b = some o → (s.heap.push { cls := .type "set", dict := none, data := .set #[] 0 (.fresh 0 0 (!w.params.followText "set-order")) }).get? b = some o := fun b o e => Heap.get?_push_of_some _ e
  generalize hS : s.heap.objs.size = S at *
  generalize hH : s.heap.push { cls := .type "set", dict := none, data := .set #[] 0 (.fresh 0 0 (!w.params.followText "set-order")) } = h0 at *
  have hT : ({ s with heap := h0 } : Shared).TypeIs (.ref S) "set" := ⟨_, g0, rfl⟩
  refine ⟨hT, codeAny_call_builtin F.called_set.init.plain F.entry_set_init (check_set_init_1 hT ?_)⟩
  have hsub := F.sub_list_set
  have hsuf := F.sub_list_frozenset
  have hnd : (Value.type "list" == Value.type "dict") = false := by decide
  unfold Builtin.«set.__init__» noKeywords Builtin.Frozenset.updateFrom
  generalize hPI : pyIter = PI
  obtain ⟨o1, ho1, hc1, n1, hd1⟩ := id l1
  obtain ⟨oc, od, oda, osl⟩ := o1
  simp only at hc1 hd1
  subst hc1
  subst hd1
  wp_walk
  subst hPI
  refine wpAny_pyIter_list l1 (wpAny_bind (wpAny_runValue ?_))
  have ni : l ≠ h0.objs.size := by
    rw [hz]
    exact Nat.ne_of_lt (Nat.lt_succ_of_lt hlS)
  have nS : S ∉ [h0.objs.size, l] := fun z => by
    rcases List.mem_cons.mp z with z | z
    · rw [hz] at z
      exact Nat.ne_of_lt (Nat.lt_succ_self _) z
    · exact Nat.ne_of_gt hlS (List.mem_singleton.mp z)
  have val : ∀ (i : Nat) (v : Value), items[i]? = some v → ∃ k t, ns[i]? = some k ∧ v = .int k t := fun i v hv => by
    have hi : i < ns.length := by rw [← hsz]; exact (Array.getElem?_eq_some_iff.mp hv).1
    obtain ⟨t, e⟩ := IntsAre.int_at hit i v (by rw [Array.getElem?_toList]; exact hv)
    refine ⟨ns[i], t, List.getElem?_eq_getElem hi, ?_⟩
    rw [e, List.getD_eq_getElem?_getD, List.getElem?_eq_getElem hi]
    rfl
  refine set_update_ints ((Walks.list (A := A.in1.in1.in1) hh _ l ni items).toS) S nS ns hsz hb val (items.size - 0) 0 _ rfl (Nat.zero_le _) ⟨⟨_, Heap.get?_push_size _ rfl, rfl, rfl⟩, l1.push _⟩ ⟨0, Nat.le_refl 0, setR_new_at (Heap.get?_push_of_some _ g0)⟩ fun s' c mv hc hR => ?_
  refine wpAny_pure (wpAny_pure ?_)
  rw [Moved.eq_with mv]
  refine ⟨rfl, h s'.heap s'.toks c hR (by rw [← hsz]; exact hc) fun b o e => mv.heap b o (fun hm => ?_) (Heap.get?_push_of_some _ (k1 b o e))⟩
  have hb0 : b < S := by
    rw [← hS]
    exact Heap.lt_size e
  rcases List.mem_cons.mp hm with z | z
  · exact Nat.ne_of_lt hb0 z
  · have z' := List.mem_singleton.mp z
    rw [hz] at z'
    exact Nat.ne_of_lt (Nat.lt_succ_of_lt hb0) z'
end
section
variable {X : Cx}
/-- set(xs), xs a list of ints -/
def rSetL (K : PySem.W.Frag) (w : World) : List V → Hp → VK → Prop := fun xs H Q => ∃ (l : Addr) (ns : List Int), xs = [V.ref l] ∧ SqL K H l (ns.map V.int) ∧ ns.length ≤ 1000 ∧
  ∀ p c, H p = none → c ≤ ns.length → Q (.ref p) (upd H p (SetO w p (fun j => decide (j ∈ ns)) c))
theorem cr_setL (hc : X.calm = true) : CallR X (.type "set") (rSetL X.K X.w) := by
  intro pins s σ H xs us Q I r h
  obtain ⟨l, ns, rfl, hq, hn, q⟩ := h
  rw [Vals.ref1 r]
  obtain ⟨its, rv, pl, hz⟩ := I.list hq
  refine set_of_list ns (I.ok.hd hc) pl.isList (by simpa using ints_of_vals rv) (by unfold scanBound; omega) fun h' tk c R hc' hk => ?_
  have fr : H s.heap.objs.size = none := I.hok.fresh (Nat.le_refl _)
  exact ⟨.ref _, _, I.laid (t' := tk) hk (Nat.le_refl _) (setO_new R), rfl, q _ c fr hc'⟩
end
end K8
set_option Elab.async false
set_option linter.all false
set_option maxRecDepth 100000
set_option maxHeartbeats 4000000
/-! sorted(a list of tuples (weights, many)), any number of them -/
namespace K8
open PySem PySem.Spec PyProof.Rows L2
open HT (lexLt)

/-! ### the order -/
theorem lex_irr : ∀ x : List Int, lexLt x x = false
  | [] => rfl
  | a :: x => by
    rw [HT.lexLt_cons, if_pos rfl]
    exact lex_irr x
theorem lex_asym : ∀ {x y : List Int}, lexLt x y = true → lexLt y x = false
  | [], [], _ => rfl
  | [], _ :: _, _ => rfl
  | _ :: _, [], h => nomatch h
  | a :: x, b :: y, h => by
    rw [HT.lexLt_cons] at h ⊢
    by_cases e : a = b
    · rw [if_pos e] at h
      rw [if_pos e.symm]
      exact lex_asym h
    · rw [if_neg e] at h
      rw [if_neg fun z => e z.symm]
      have := of_decide_eq_true h
      exact decide_eq_false (by omega)
theorem lex_eq : ∀ {x y : List Int}, lexLt x y = false → lexLt y x = false → x = y
  | [], [], _, _ => rfl
  | [], _ :: _, h, _ => nomatch h
  | _ :: _, [], _, h => nomatch h
  | a :: x, b :: y, h, h' => by
    rw [HT.lexLt_cons] at h h'
    by_cases e : a = b
    · rw [if_pos e] at h
      rw [if_pos e.symm] at h'
      rw [e, lex_eq h h']
    · rw [if_neg e] at h
      rw [if_neg fun z => e z.symm] at h'
      have h1 := of_decide_eq_false h
      have h2 := of_decide_eq_false h'
      omega
theorem lex_tr : ∀ {x y z : List Int}, lexLt y x = false → lexLt z y = false → lexLt z x = false
  | [], _, [], _, _ => rfl
  | [], _, _ :: _, _, _ => rfl
  | _ :: _, [], _, h, _ => nomatch h
  | _ :: _, _ :: _, [], _, h => nomatch h
  | a :: x, b :: y, c :: z, h, h' => by
    rw [HT.lexLt_cons] at h h' ⊢
    by_cases e1 : b = a
    · by_cases e2 : c = b
      · rw [if_pos e1] at h
        rw [if_pos e2] at h'
        rw [if_pos (e2.trans e1)]
        exact lex_tr h h'
      · rw [if_neg e2] at h'
        rw [if_neg fun q => e2 (q.trans e1.symm), ← e1]
        exact h'
    · rw [if_neg e1] at h
      have h1 := of_decide_eq_false h
      by_cases e2 : c = b
      · rw [if_neg fun q => e1 (e2.symm.trans q), e2]
        exact h
      · rw [if_neg e2] at h'
        have h2 := of_decide_eq_false h'
        rw [if_neg (show ¬ c = a by omega)]
        exact decide_eq_false (by omega)
def lexP (p q : List Int × Int) : Bool := if p.1 = q.1 then decide (p.2 < q.2) else lexLt p.1 q.1
theorem lexP_asym {p q : List Int × Int} (h : lexP p q = true) : lexP q p = false := by
  unfold lexP at h ⊢
  by_cases e : p.1 = q.1
  · rw [if_pos e] at h
    rw [if_pos e.symm]
    have := of_decide_eq_true h
    exact decide_eq_false (by omega)
  · rw [if_neg e] at h
    rw [if_neg fun z => e z.symm]
    exact lex_asym h
theorem lexP_le {p q : List Int × Int} (h : lexP p q = false) : lexLt p.1 q.1 = false := by
  unfold lexP at h
  by_cases e : p.1 = q.1
  · rw [e]
    exact lex_irr _
  · rw [if_neg e] at h
    exact h
theorem lexP_tr {x y z : List Int × Int} (h : lexP y x = false) (h' : lexP z y = false) : lexP z x = false := by
  have a := lexP_le h
  have b := lexP_le h'
  by_cases e : z.1 = x.1
  · have e1 : y.1 = x.1 := lex_eq a (by rw [← e]; exact b)
    have e2 : z.1 = y.1 := e.trans e1.symm
    unfold lexP at h h' ⊢
    rw [if_pos e1] at h
    rw [if_pos e2] at h'
    rw [if_pos e]
    have h1 := of_decide_eq_false h
    have h2 := of_decide_eq_false h'
    exact decide_eq_false (by omega)
  · unfold lexP
    rw [if_neg e]
    exact lex_tr a b
theorem swo_nest {α : Type} (k : α → List Int × Int) : SrtO.Swo fun v u => lexP (k v) (k u) := ⟨fun _ _ h => lexP_asym h, fun _ _ _ h h' => lexP_tr h h'⟩

/-! ### the sort's questions -/
section
variable {prog : Program} {w : World} {A : Around} {E : Value → Shared → Prop} {s : Shared}
open SrtO
theorem items_of {k : List Int} : ∀ {us : List Value}, IntsAre us k → ItemsAre (intKind prog w) k us
  | _, .nil => .nil
  | _, .cons n t h => .cons (intKind_is prog w n t) (items_of h)
/-- v is a tuple of a tuple of the ints ks, and n -/
def NestIn (h : Heap) (v : Value) (ks : List Int) (n : Int) : Prop := ∃ a r t its, v = .ref a ∧ IsTup h a #[.ref r, .int n t] ∧ IsTup h r its ∧ IntsAre its.toList ks
theorem NestIn.keeps {h h' : Heap} {v : Value} {ks : List Int} {n : Int} (x : NestIn h v ks n) (k : ∀ b o, h.get? b = some o → o.cls = .type "tuple" → h'.get? b = some o) : NestIn h' v ks n := by
  obtain ⟨a, r, t, its, e, ⟨o, ho, hc, z⟩, ⟨o2, ho2, hc2, z2⟩, i⟩ := x
  exact ⟨a, r, t, its, e, ⟨o, k _ _ ho hc, hc, z⟩, ⟨o2, k _ _ ho2 hc2, hc2, z2⟩, i⟩
theorem nest_firsts {h : Heap} {k : Value → List Int × Int} : ∀ vs : List Value, (∀ v ∈ vs, NestIn h v (k v).1 (k v).2) → ∃ fs : List Value, PySem.W.KatTups h vs fs ∧ fs.length = vs.length ∧ ∀ f ∈ fs, ∃ (q : Addr) (o : Obj), f = Value.ref q ∧ h.get? q = some o ∧ o.cls = .type "tuple"
  | [], _ => ⟨[], PySem.W.KatTups.nil, rfl, fun f hf => nomatch hf⟩
  | v :: vs, x => by
    obtain ⟨fs, kt, hl, hi⟩ := nest_firsts vs fun u hu => x u (List.mem_cons_of_mem _ hu)
    obtain ⟨a, r, t, its, e, ⟨o, ho, hc, n, hd⟩, ⟨o2, ho2, hc2, _⟩, _⟩ := x v List.mem_cons_self
    rw [e]
    refine ⟨.ref r :: fs, PySem.W.KatTups.cons ho hc hd rfl kt, congrArg (· + 1) hl, fun f hf => ?_⟩
    rcases List.mem_cons.mp hf with z | hf
    · exact ⟨r, o2, z, ho2, hc2⟩
    · exact hi f hf
theorem nest_cmp {vs : List Value} {k : Value → List Int × Int} (hu : A.units < cLine) (hp : ∀ v ∈ vs, NestIn s.heap v (k v).1 (k v).2) : Cmp prog w A s (tuples' false) (fun p => p.1 ∈ vs) (lt2 fun v u => lexP (k v) (k u)) := by
  intro p q hm hm'
  have h1 := hp _ hm
  have h2 := hp _ hm'
  show wpAny (model prog w) A (keyLt' (tuples' false) p.1 q.1) (fun r s' => s' = s ∧ r = lexP (k p.1) (k q.1)) (fun _ _ => False) s
  generalize k p.1 = kp at h1 ⊢
  generalize k q.1 = kq at h2 ⊢
  obtain ⟨ks, n⟩ := kp
  obtain ⟨ms, m⟩ := kq
  obtain ⟨a, r, t, its, e, ⟨o, ho, hc, c, hd⟩, t1, i1⟩ := h1
  obtain ⟨a', r', t', its', e', ⟨o', ho', hc', c', hd'⟩, t2, i2⟩ := h2
  rw [e, e']
  have k1 : IsTupleKey (intKind prog w) s.heap ks r := by
    obtain ⟨x, hx, cx, nx, dx⟩ := t1
    exact ⟨x, _, nx, hx, cx, dx, items_of i1⟩
  have k2 : IsTupleKey (intKind prog w) s.heap ms r' := by
    obtain ⟨x, hx, cx, nx, dx⟩ := t2
    exact ⟨x, _, nx, hx, cx, dx, items_of i2⟩
  refine PySem.W.kat_lt ho hd ho' hd' ?_
  show PySem.W.KatLex prog w A false (decide (2 < 2)) _ [(.ref r, .ref r'), (.int n t, .int m t')] 0 s
  unfold lexP
  refine PySem.W.kat_cons (wpAny_eqBool_tuple hu k1 k2 (PySem.W.kat_go (fun h => ?_) fun h => ?_))
  · have e1 : ks = ms := of_decide_eq_true h
    rw [if_pos e1]
    refine PySem.W.kat_yes (PySem.W.kat_cons (SeqAt.EqAt.int_int n t m t' prog w _ _ (PySem.W.kat_go (fun h => ?_) fun h => ?_)))
    · have e2 : n = m := by simpa using h
      refine PySem.W.kat_yes (PySem.W.kat_nil ⟨rfl, ?_⟩)
      rw [e2]
      exact (decide_eq_false (Int.lt_irrefl _)).symm
    · exact PySem.W.kat_no (PySem.W.kat_one _ _ (lt_int ⟨rfl, rfl⟩))
  · have e1 : ¬ ks = ms := of_decide_eq_false h
    rw [if_neg e1]
    exact PySem.W.kat_no (PySem.W.kat_one _ _ (HT.lt_tupInts t1 t2 i1 i2 hu ⟨rfl, rfl⟩))
theorem nest_sortable {a : Addr} {vs : List Value} {k : Value → List Int × Int} (hu : A.units < cLine) (h0 : 0 < vs.length) (hp : ∀ v ∈ vs, NestIn s.heap v (k v).1 (k v).2) (ha : ∀ o, s.heap.get? a = some o → o.cls ≠ .type "tuple") :
    SortableO prog w A s a vs fun v u => lexP (k v) (k u) := by
  intro h' keep
  have hp' : ∀ v ∈ vs, NestIn h' v (k v).1 (k v).2 := fun v hm => (hp v hm).keeps fun b o e c => keep b o (fun z => ha o (by rw [← z]; exact e) c) e
  obtain ⟨fs, kt, hl, hi⟩ := nest_firsts vs hp'
  refine ⟨tuples' false, fun Q E hq => ?_, nest_cmp (s := { s with heap := h' }) hu hp'⟩
  refine PySem.W.kat_kind (s := { s with heap := h' }) (T := .type "tuple") kt (by omega) (fun f hm => ?_) rfl ?_
  · obtain ⟨q, o, rfl, ho, hc⟩ := hi f hm
    rw [← hc]
    exact (PySem.W.Looks.ld ho).andThen .now
  · rw [show (Value.type "tuple" != Value.type "tuple") = false by decide]
    exact hq
end
section
variable {X : Cx}
/-- sorted(xs), xs a list of tuples (weights, many): a new list of them, in some order -/
def rSortN (K : PySem.W.Frag) : List V → Hp → VK → Prop := fun vs H Q => ∃ (a : Addr) (xs : List V) (k : V → Wt × Int), vs = [V.ref a] ∧ SqL K H a xs ∧ (∀ x ∈ xs, ∃ t r, x = V.ref t ∧ H t = some (.tup [.ref r, .int (k x).2]) ∧ WtAt H r (k x).1) ∧
  ∀ ys p, ys.Perm xs → H p = none → Q (.ref p) (upd H p (.lst ys))
theorem cr_sortN (hu : X.A.units + 64 < cLine) : CallR X (.builtin "sorted") (rSortN X.K) := by
  intro pins s σ H vs us Q I r h
  obtain ⟨a, xs, k, rfl, hs, hx, q⟩ := h
  obtain ⟨its, rv, hl, hz⟩ := I.list hs
  rw [Vals.ref1 r]
  obtain ⟨e1, e2⟩ := refs_back rv fun x m => by
    obtain ⟨t, _, e, _⟩ := hx x m
    exact ⟨t, e⟩
  have nest : ∀ v ∈ its, NestIn s.heap v (k (backV v)).1 (k (backV v)).2 := fun v hv => by
    obtain ⟨t, rfl⟩ := e2 v hv
    obtain ⟨t', r', e, ht, hr⟩ := hx (V.ref t) (by rw [e1]; exact List.mem_map.mpr ⟨_, hv, rfl⟩)
    cases e
    obtain ⟨_, i2, r2, tup⟩ := I.hok _ _ ht
    obtain ⟨u1, u2, rfl, ri, rj⟩ := vals2 r2
    obtain ⟨t2, rfl⟩ := rj
    obtain rfl : u1 = Value.ref r' := ri
    obtain ⟨_, i3, r3, tup3⟩ := I.hok _ _ hr
    exact ⟨t, r', t2, i3.toArray, rfl, tup, tup3, ints_of_vals r3⟩
  have hun : X.A.in1.in1.units < cLine := by
    show X.A.units + 1 + 1 < cLine
    omega
  refine SrtO.sorted_ord (swo_nest fun v => k (backV v)) hl.isList (by rw [← rv.length]; exact hz) (fun h2 h1 d hd kk => ?_) fun out hs hb => ?_
  · refine nest_sortable (s := { s with heap := h1 }) hun (by omega) (fun v hv => (nest v hv).keeps fun b o e _ => (kk b o e).2) fun o e => ?_
    have e' : some o = some (seqObj "list" its.toArray 0) := e.symm.trans hd
    cases e'
    intro c
    exact absurd (Value.type.inj c) (by decide)
  · have h3 : ∀ u ∈ out, ∃ a, u = Value.ref a := fun u hu => e2 u (hb.perm.mem_iff.mp hu)
    obtain ⟨n, hn⟩ := PyProof.Rows.sortedAll_at s.heap its out.toArray
    have pm : (out.map backV).Perm xs := by
      rw [e1]
      exact hb.perm.map backV
    have fr : H (s.heap.objs.size + 1) = none := I.hok.fresh (Nat.le_succ _)
    exact ⟨.ref (s.heap.objs.size + 1), upd H (s.heap.objs.size + 1) (.lst (out.map backV)), I.laid (t' := s.toks) (fun b o e => PyProof.Rows.sortedAll_old e) (Nat.le_succ _) ⟨by rw [pm.length_eq]; exact hz, out, n, vals_back h3, hn⟩, rfl, q _ _ pm fr⟩
end
end K8
set_option Elab.async false
set_option linter.all false
set_option maxRecDepth 100000
set_option maxHeartbeats 4000000
/-! length, weights_at, part, backward -/
namespace K8
open PySem PySem.Spec PyProof.Rows L2
section
variable {P : Program} {w : World} {K : PySem.W.Frag} {mg : Str → Option Value} {base : Heap}

/-! ### length -/
abbrev sLength : Stmt := topS 2
theorem scLength : FnScope ["weighing", "many", "weights"] ["weighing"] (defScope sLength) := ⟨rfl, rfl, rfl, by decide +kernel, rfl, by decide +kernel, by decide +kernel⟩
def spLength : Sp := fun vs H Q _ => ∃ (a : Addr) (ps : List Pc), vs = [.ref a] ∧ WgAt H a ps ∧ ps.length ≤ 50000 ∧ ∀ H', Same H H' → Q (.int (total ps)) H'
theorem ok_length {f : Addr} {fd : FuncData} {k : Nat} (F : Fun K "length" "length" sLength f fd) (ms : mg "sum" = none) : FnOk P w K mg base CX0 (k + 1) f fd ["weighing"] spLength := by
  refine F.ok scLength (fun vs H Q E h => ?_) (fun cdv A outer s H vs Q E hr h => ?_)
  · obtain ⟨a, ps, rfl, _⟩ := h
    rfl
  · obtain ⟨a, ps, rfl, ⟨vs, hA, hP⟩, hl, q⟩ := h
    refine ⟨_, pss_one (ps_ret (pe_callB (cr_sum rfl) (by rfl) ms (by decide +kernel) (pa_cons
      (pe_lc (own := [("many", 1), ("weights", 2)]) (g := gTup K 2 (gCons (gName 1) (gCons (gName 2) gNil))) (tt := tYes) rfl scLength.nd (pi_list (pv 0)) (blkOk_by (N := ["weighing", "many", "weights"]) (sc := defScope sLength) (by decide +kernel))
        (fun _ _ _ _ _ => pg_tup rfl (pgs_cons (pg_name (i := 1) scLength.nd rfl (Or.inl rfl)) (pgs_cons (pg_name (i := 2) scLength.nd rfl (Or.inl rfl)) pgs_nil))) (fun _ _ _ _ _ => pts_nil) (fun _ _ _ _ _ => pv 1)) pa_nil))), ?_⟩
    refine ⟨.ref a, rfl, a, rfl, ⟨_, SqL.of hA⟩, fun D hD => lc_list (K := K) (a := a) (xs := vs) (fun i H' => Same H H' ∧ H' D = some (.lst (((ps.take i).map (·.1)).map V.int)))
      ⟨same_new hD, upd_same⟩ (fun i H' _ hp => SqL.of (hp.1 _ _ hA)) (fun i v H' hv hp => ?_) (fun H' hp => ?_)⟩
    · obtain ⟨sm, hDl⟩ := hp
      obtain ⟨p, hpi, hpc⟩ := hP.get hv
      obtain ⟨t, r, rfl, ht, hru⟩ := hpc.mono (same_tups sm)
      refine ⟨t, _, rfl, SqT.of ht, rfl, .int p.1, [.ref r], rfl, .ref r, [], rfl, rfl, rfl, .int p.1, rfl, _, hDl, ?_, same_set sm hD, ?_⟩
      · refine line_big ?_
        rw [List.length_map, List.length_map, List.length_take]
        omega
      · rw [upd_same, map_next hpi, List.map_append]
        rfl
    · obtain ⟨sm, hDl⟩ := hp
      rw [map_all hP.length] at hDl
      refine ⟨D, _, rfl, SqL.of hDl, ?_⟩
      rw [← total_sum]
      exact q H' sm

/-! ### weights_at -/
abbrev sWat : Stmt := topS 3
theorem scWat : FnScope ["weighing", "place", "left", "many", "weights"] ["weighing", "place"] (defScope sWat) := ⟨rfl, rfl, rfl, by decide +kernel, rfl, by decide +kernel, by decide +kernel⟩
def spWat : Sp := fun vs H Q _ => ∃ (a : Addr) (pl : Int) (ps : List Pc) (u : Wt), vs = [.ref a, .int pl] ∧ WgAt H a ps ∧ Pos ps ∧ 0 ≤ pl ∧ (flat ps)[pl.toNat]? = some u ∧ ∀ H' r, Same H H' → WtAt H' r u → Q (.ref r) H'
theorem ok_wat {f : Addr} {fd : FuncData} {k : Nat} (F : Fun K "weights_at" "weights_at" sWat f fd) : FnOk P w K mg base CX0 (k + 1) f fd ["weighing", "place"] spWat := by
  refine F.ok scWat (fun vs H Q E h => ?_) (fun cdv A outer s H vs Q E hr h => ?_)
  · obtain ⟨a, pl, ps, u, rfl, _⟩ := h
    rfl
  · obtain ⟨a, pl, ps, u, rfl, ⟨vs, hA, hP⟩, hpos, h0, hu, q⟩ := h
    refine ⟨_, pss_cons (ps_set (i := 2) scWat.nd rfl (.inl rfl) (pv 1))
      (pss_cons (ps_for PassesOwn.never rfl (pi_list (pv 0)) (pg_tup rfl (pgs_cons (pg_name (i := 3) scWat.nd rfl (.inl rfl)) (pgs_cons (pg_name (i := 4) scWat.nd rfl (.inl rfl)) pgs_nil)))
        (pss_cons (ps_if (pt_cmpR op_lt (pv 2) (pv 3) (nomark _)) (pss_one (ps_ret (pv 4))) pss_nil)
          (pss_one (ps_set (i := 2) scWat.nd rfl (.inl rfl) (pe_op op_sub (pv 2) (pv 3))))))
      (pss_one (ps_ret (pe_tup pa_nil)))), ?_⟩
    refine ⟨_, rfl, .ref a, rfl, a, rfl, ⟨_, SqL.of hA⟩, for_list (K := K) (a := a) (xs := vs)
      (fun i σ H' => ∃ x3 x4 l, σ = [some (.ref a), some (.int pl), some (.int l), x3, x4] ∧ 0 ≤ l ∧ (flat (ps.drop i))[l.toNat]? = some u ∧ H' = H)
      ⟨none, none, pl, rfl, h0, hu, rfl⟩ (fun i σ H' _ hp => ?_) (fun i v σ H' hv hp => ?_) (fun σ H' hp => ?_)⟩
    · obtain ⟨_, _, _, _, _, _, rfl⟩ := hp
      exact SqL.of hA
    · obtain ⟨x3, x4, l, rfl, l0, hlu, rfl⟩ := hp
      obtain ⟨p, hpi, hpc⟩ := hP.get hv
      obtain ⟨n, z⟩ := p
      obtain ⟨t, r, rfl, ht, hru⟩ := hpc
      have hd : ps.drop i = (n, z) :: ps.drop (i + 1) := by
        obtain ⟨hi, e⟩ := List.getElem?_eq_some_iff.mp hpi
        rw [List.drop_eq_getElem_cons hi, e]
      have hn : 1 ≤ n := hpos (n, z) (List.mem_of_getElem? hpi)
      rw [hd, flat_cons] at hlu
      refine ⟨t, _, rfl, SqT.of ht, rfl, .int n, [.ref r], rfl, .ref r, [], rfl, rfl, ?_⟩
      refine ⟨_, rfl, _, rfl, l, n, rfl, rfl, _, rfl, ite2 (fun c => ?_) (fun c => ?_)⟩
      · have c' : l < n := of_decide_eq_true c
        rw [List.getElem?_append_left (by rw [List.length_replicate]; omega), List.getElem?_replicate, if_pos (show l.toNat < n.toNat by omega)] at hlu
        have e : z = u := Option.some.inj hlu
        rw [e] at hru
        exact ⟨_, rfl, q H' r (Same.refl _) hru⟩
      · have c' : ¬ l < n := fun x => c (decide_eq_true x)
        rw [List.getElem?_append_right (by rw [List.length_replicate]; omega), List.length_replicate] at hlu
        refine ⟨_, rfl, _, rfl, l, n, rfl, rfl, _, _, l - n, rfl, by omega, ?_, rfl⟩
        rw [show (l - n).toNat = l.toNat - n.toNat by omega]
        exact hlu
    · obtain ⟨x3, x4, l, rfl, l0, hlu, rfl⟩ := hp
      rw [hP.length, List.drop_length] at hlu
      cases hlu

/-! ### part -/
abbrev sPart : Stmt := topS 4
theorem scPart : FnScope ["weighing", "begin", "end", "pieces", "ahead", "many", "weights", "first", "last"] ["weighing", "begin", "end"] (defScope sPart) := ⟨rfl, rfl, rfl, by decide +kernel, rfl, by decide +kernel, by decide +kernel⟩
def spPart : Sp := fun vs H Q _ => ∃ (a : Addr) (b e : Int) (ps : List Pc), vs = [.ref a, .int b, .int e] ∧ WgAt H a ps ∧ ps.length ≤ 50000 ∧
  ∀ H' p, Same H H' → WgAt H' p (partM b e 0 ps) → Q (.ref p) H'
theorem ok_part {f : Addr} {fd : FuncData} {k : Nat} (F : Fun K "part" "part" sPart f fd) (mx : mg "max" = none) (mn : mg "min" = none) : FnOk P w K mg base CX0 (k + 1) f fd ["weighing", "begin", "end"] spPart := by
  refine F.ok scPart (fun vs H Q E h => ?_) (fun cdv A outer s H vs Q E hr h => ?_)
  · obtain ⟨a, b, e, ps, rfl, _⟩ := h
    rfl
  · obtain ⟨a, b, e, ps, rfl, ⟨vs, hA, hP⟩, hl, q⟩ := h
    refine ⟨_, pss_cons (ps_set (i := 3) scPart.nd rfl (.inl rfl) (pe_lst pa_nil)) (pss_cons (ps_set (i := 4) scPart.nd rfl (.inl rfl) pe_int)
      (pss_cons (ps_for PassesOwn.never rfl (pi_list (pv 0)) (pg_tup rfl (pgs_cons (pg_name (i := 5) scPart.nd rfl (.inl rfl)) (pgs_cons (pg_name (i := 6) scPart.nd rfl (.inl rfl)) pgs_nil)))
        (pss_cons (ps_set (i := 7) scPart.nd rfl (.inl rfl) (pe_callB (call_max2 rfl) (by rfl) mx (by decide +kernel) (pa_cons (pv 1) (pa_cons (pv 4) pa_nil))))
        (pss_cons (ps_set (i := 8) scPart.nd rfl (.inl rfl) (pe_callB (call_min2 rfl) (by rfl) mn (by decide +kernel) (pa_cons (pv 2) (pa_cons (pe_op op_add (pv 4) (pv 5)) pa_nil))))
        (pss_cons (ps_if (pt_cmpR op_lt (pv 7) (pv 8) (nomark _)) (pss_one (ps_expr (pe_bm PySem.F.plainAttrs_list PySem.F.slot_list_append PySem.F.type_list_append mt_append (pv 3) (pa_cons (pe_tup (pa_cons (pe_op op_sub (pv 8) (pv 7)) (pa_cons (pv 6) pa_nil))) pa_nil)))) pss_nil)
          (pss_one (ps_set (i := 4) scPart.nd rfl (.inl rfl) (pe_op op_add (pv 4) (pv 5))))))))
      (pss_one (ps_ret (pv 3))))), ?_⟩
    refine ⟨Nat.zero_le _, fun D hD => ?_⟩
    have hAD : a ≠ D := ne_of_none hA hD
    refine ⟨.ref a, rfl, a, rfl, ⟨_, SqL.of (Eq.trans (upd_ne hAD) hA)⟩, for_list (K := K) (a := a) (xs := vs)
      (fun i σ H' => ∃ x5 x6 x7 x8 ah, σ = [some (.ref a), some (.int b), some (.int e), some (.ref D), some (.int ah), x5, x6, x7, x8] ∧ Same H H' ∧
        ∃ acc, WgAt H' D acc ∧ acc ++ partM b e ah (ps.drop i) = partM b e 0 ps ∧ acc.length ≤ i)
      ⟨none, none, none, none, 0, rfl, same_new hD, [], ⟨[], upd_same, .nil⟩, rfl, Nat.le_refl _⟩ (fun i σ H' _ hp => ?_) (fun i v σ H' hv hp => ?_) (fun σ H' hp => ?_)⟩
    · obtain ⟨_, _, _, _, _, _, sm, _⟩ := hp
      exact SqL.of (sm _ _ hA)
    · obtain ⟨x5, x6, x7, x8, ah, rfl, sm, acc, hacc, ea, la⟩ := hp
      obtain ⟨p, hpi, hpc⟩ := hP.get hv
      obtain ⟨n, z⟩ := p
      obtain ⟨t, r, rfl, ht, hru⟩ := hpc.mono (same_tups sm)
      have hi : i < ps.length := (List.getElem?_eq_some_iff.mp hpi).1
      have hd : ps.drop i = (n, z) :: ps.drop (i + 1) := by
        obtain ⟨hi, e⟩ := List.getElem?_eq_some_iff.mp hpi
        rw [List.drop_eq_getElem_cons hi, e]
      rw [hd] at ea
      have mm : (if ah > b then ah else b) = max b ah := by
        split <;> omega
      have mn' : (if ah + n < e then ah + n else e) = min e (ah + n) := by
        split <;> omega
      refine ⟨t, _, rfl, SqT.of ht, rfl, .int n, [.ref r], rfl, .ref r, [], rfl, rfl, ?_⟩
      refine ⟨_, rfl, _, rfl, b, ah, rfl, ?_⟩
      rw [mm]
      refine ⟨_, rfl, _, rfl, _, rfl, ah, n, rfl, rfl, e, ah + n, rfl, ?_⟩
      rw [mn']
      refine ⟨_, rfl, _, rfl, max b ah, min e (ah + n), rfl, rfl, _, rfl, ite2 (fun c => ?_) (fun c => ?_)⟩
      · have c' : max b ah < min e (ah + n) := of_decide_eq_true c
        obtain ⟨us, hus, hPus⟩ := hacc
        refine ⟨.ref D, rfl, .inl ⟨rfl, _, SqL.of hus⟩, _, rfl, _, rfl, min e (ah + n), max b ah, rfl, rfl, .ref r, rfl, len2, fun p2 hp2 => ?_⟩
        have nD : D ≠ p2 := ne_of_none hus hp2
        refine ⟨D, _, _, rfl, rfl, Eq.trans (upd_ne nD) hus, ?_, ?_⟩
        · have := hPus.length
          exact line_big (by omega)
        refine ⟨_, rfl, _, rfl, ah, n, rfl, rfl, _, _, _, _, ah + n, rfl, same_set (sm.trans (same_new hp2)) hD, _, wg_put hus hPus hru hp2, ?_, by rw [List.length_append]; exact Nat.add_le_add_right la 1⟩
        rw [← ea, List.append_assoc]
        show _ = acc ++ ((if max b ah < min e (ah + n) then [(min e (ah + n) - max b ah, z)] else []) ++ partM b e (ah + n) (ps.drop (i + 1)))
        rw [if_pos c']
      · have c' : ¬ max b ah < min e (ah + n) := fun x => c (decide_eq_true x)
        refine ⟨_, rfl, _, rfl, ah, n, rfl, rfl, _, _, _, _, ah + n, rfl, sm, acc, hacc, ?_, by omega⟩
        rw [← ea]
        show _ = acc ++ ((if max b ah < min e (ah + n) then [(min e (ah + n) - max b ah, z)] else []) ++ partM b e (ah + n) (ps.drop (i + 1)))
        rw [if_neg c']
        rfl
    · obtain ⟨x5, x6, x7, x8, ah, rfl, sm, acc, hacc, ea, la⟩ := hp
      rw [hP.length, List.drop_length] at ea
      have e' : acc = partM b e 0 ps := by
        rw [← ea]
        exact (List.append_nil acc).symm
      rw [e'] at hacc
      exact ⟨.ref D, rfl, q H' D sm hacc⟩

/-! ### backward -/
abbrev sBackward : Stmt := topS 5
theorem scBackward : FnScope ["weighing"] ["weighing"] (defScope sBackward) := ⟨rfl, rfl, rfl, by decide +kernel, rfl, by decide +kernel, by decide +kernel⟩
def spBackward : Sp := fun vs H Q _ => ∃ (a : Addr) (ps : List Pc), vs = [.ref a] ∧ WgAt H a ps ∧ ∀ H' p, Same H H' → WgAt H' p ps.reverse → Q (.ref p) H'
theorem ok_backward {f : Addr} {fd : FuncData} {k : Nat} (F : Fun K "backward" "backward" sBackward f fd) (ml : mg "list" = none) (mr : mg "reversed" = none) : FnOk P w K mg base CX0 (k + 1) f fd ["weighing"] spBackward := by
  refine F.ok scBackward (fun vs H Q E h => ?_) (fun cdv A outer s H vs Q E hr h => ?_)
  · obtain ⟨a, ps, rfl, _⟩ := h
    rfl
  · obtain ⟨a, ps, rfl, ⟨vs, hA, hP⟩, q⟩ := h
    refine ⟨_, pss_one (ps_ret (pe_listRev rfl (by rfl) ml (by rfl) mr (pv 0))), ?_⟩
    refine ⟨.ref a, rfl, a, vs, rfl, SqL.of hA, fun p hp => ?_⟩
    exact q _ p (same_new hp) ⟨_, upd_same, hP.reverse.mono (tups_new hp)⟩
end
end K8
set_option Elab.async false
set_option linter.all false
set_option maxRecDepth 100000
set_option maxHeartbeats 4000000
/-! added -/
namespace K8
open PySem PySem.Spec PyProof.Rows L2
/-- a def of the module, with its promise, as a caller wants it -/
structure Dfn (P : Program) (w : World) (K : PySem.W.Frag) (mg : Str → Option Value) (base : Heap) (k : Nat) (x : Str) (ps : List Str) (sp : Sp) : Prop where
  ex : ∃ f fd, FnOk P w K mg base CX0 k f fd ps sp ∧ mg x = some (.ref f) ∧ PySem.W.keepIn K (.ref f) = true ∧ Binds K fd ps []
theorem drop_of {α : Type} {l : List α} {i : Nat} {x : α} (h : l[i]? = some x) : l.drop i = x :: l.drop (i + 1) := by
  obtain ⟨hi, e⟩ := List.getElem?_eq_some_iff.mp h
  rw [List.drop_eq_getElem_cons hi, e]
/-- in the midst of adding: what is made, what is left of both -/
def AddSt (H H' : Hp) (D : Addr) (d i : Nat) (A B restA : List Wt) (qs : List Pc) (pend k : Nat) (left : Int) (x7 : Option V) : Prop :=
  Same H H' ∧ k ≤ qs.length ∧ 0 ≤ left ∧ ∃ acc mw, WgAt H' D acc ∧ (0 < left → ∃ rm, x7 = some (.ref rm) ∧ WtAt H' rm mw ∧ mw.length = d) ∧
    flat acc ++ vz restA (List.replicate left.toNat mw ++ flat (qs.drop k)) = vz A B ∧ restA.length = left.toNat + (flat (qs.drop k)).length ∧
    acc.length + pend + (if 0 < left then 1 else 0) ≤ i + k
theorem vz_nil (B : List Wt) : vz [] B = [] := rfl
section
variable {P : Program} {w : World} {K : PySem.W.Frag} {mg : Str → Option Value} {base : Heap}
abbrev sAdded : Stmt := topS 7
theorem scAdded : FnScope ["one", "other", "pieces", "at", "left", "many", "weights", "more", "step"] ["one", "other"] (defScope sAdded) := ⟨rfl, rfl, rfl, by decide +kernel, rfl, by decide +kernel, by decide +kernel⟩
def spAdded : Sp := fun vs H Q _ => ∃ (a b : Addr) (d : Nat) (ps qs : List Pc), vs = [.ref a, .ref b] ∧ WgAt H a ps ∧ WgAt H b qs ∧ Pos ps ∧ Pos qs ∧ (flat ps).length = (flat qs).length ∧ Wd d (flat ps) ∧ Wd d (flat qs) ∧ d ≤ 24 ∧
  ps.length + qs.length ≤ 50000 ∧ ∀ H' p r, Same H H' → WgAt H' p r → Canon r → flat r = vz (flat ps) (flat qs) → r.length ≤ ps.length + qs.length → Q (.ref p) H'
theorem ok_added {f : Addr} {fd : FuncData} (F : Fun K "added" "added" sAdded f fd) (mn : mg "min" = none) (Dp : Dfn P w K mg base 1 "plus" ["one", "other"] spPlus) (Ds : Dfn P w K mg base 1 "shaped" ["pieces"] spShaped) :
    FnOk P w K mg base CX0 2 f fd ["one", "other"] spAdded := by
  obtain ⟨f1, fd1, G1, g1, k1, b1⟩ := Dp.ex
  obtain ⟨f2, fd2, G2, g2, k2, b2⟩ := Ds.ex
  refine F.ok scAdded (fun vs H Q E h => ?_) (fun cdv A outer s H vs Q E hr h => ?_)
  · obtain ⟨a, b, d, ps, qs, rfl, _⟩ := h
    rfl
  · obtain ⟨a, b, d, ps, qs, rfl, ⟨vs, hA, hP⟩, ⟨ws, hB, hQ⟩, pp, pq, hlen, wa, wb, h24, hl, q⟩ := h
    refine ⟨_, pss_cons (ps_set (i := 2) scAdded.nd rfl (.inl rfl) (pe_lst pa_nil)) (pss_cons (ps_set (i := 3) scAdded.nd rfl (.inl rfl) pe_int) (pss_cons (ps_set (i := 4) scAdded.nd rfl (.inl rfl) pe_int)
      (pss_cons (ps_for PassesOwn.never rfl (pi_list (pv 0)) (pg_tup rfl (pgs_cons (pg_name (i := 5) scAdded.nd rfl (.inl rfl)) (pgs_cons (pg_name (i := 6) scAdded.nd rfl (.inl rfl)) pgs_nil)))
        (pss_one (ps_while PassesOwn.never (pt_cmpR op_gt (pv 5) pe_int (nomark _))
          (C8.pss_cut (ps_if (pt_cmpR op_eq (pv 4) pe_int (nomark _))
              (pss_cons (ps_asg (pe_ix ix_list (pv 1) (pv 3) (fun _ _ => rfl)) (pg_tup rfl (pgs_cons (pg_name (i := 4) scAdded.nd rfl (.inl rfl)) (pgs_cons (pg_name (i := 7) scAdded.nd rfl (.inl rfl)) pgs_nil))))
                (pss_one (ps_set (i := 3) scAdded.nd rfl (.inl rfl) (pe_op op_add (pv 3) pe_int)))) pss_nil)
          (pss_cons (ps_set (i := 8) scAdded.nd rfl (.inl rfl) (pe_callB (call_min2 rfl) (by rfl) mn (by decide +kernel) (pa_cons (pv 5) (pa_cons (pv 4) pa_nil))))
          (pss_cons (ps_expr (pe_bm PySem.F.plainAttrs_list PySem.F.slot_list_append PySem.F.type_list_append mt_append (pv 2) (pa_cons (pe_tup (pa_cons (pv 8) (pa_cons (pe_call G1 hr (by rfl) g1 k1 b1 .nil pass0 (pa_cons (pv 6) (pa_cons (pv 7) pa_nil))) pa_nil))) pa_nil)))
          (pss_cons (ps_set (i := 5) scAdded.nd rfl (.inl rfl) (pe_op op_sub (pv 5) (pv 8))) (pss_one (ps_set (i := 4) scAdded.nd rfl (.inl rfl) (pe_op op_sub (pv 4) (pv 8)))))))))))
      (pss_one (ps_ret (pe_call G2 hr (by rfl) g2 k2 b2 .nil pass0 (pa_cons (pv 2) pa_nil))))))), ?_⟩
    refine ⟨Nat.zero_le _, fun D hD => ?_⟩
    have hAD : a ≠ D := ne_of_none hA hD
    refine ⟨.ref a, rfl, a, rfl, ⟨_, SqL.of (Eq.trans (upd_ne hAD) hA)⟩, for_list (K := K) (a := a) (xs := vs)
      (fun i σ H' => ∃ x5 x6 x7 x8 k left, σ = [some (.ref a), some (.ref b), some (.ref D), some (.int ((k : Nat) : Int)), some (.int left), x5, x6, x7, x8] ∧
        AddSt H H' D d i (flat ps) (flat qs) (flat (ps.drop i)) qs 0 k left x7)
      ⟨none, none, none, none, 0, 0, rfl, same_new hD, Nat.zero_le _, Int.le_refl _, [], [], ⟨[], upd_same, .nil⟩, fun z => absurd z (by decide), rfl, by rw [List.drop_zero, List.drop_zero]; simpa using hlen, by simp⟩ (fun i σ H' _ hp => ?_) (fun i v σ H' hv hp => ?_) (fun σ H' hp => ?_)⟩
    · obtain ⟨_, _, _, _, _, _, _, sm, _⟩ := hp
      exact SqL.of (sm _ _ hA)
    · obtain ⟨x5, x6, x7, x8, k, left, rfl, st⟩ := hp
      obtain ⟨p, hpi, hpc⟩ := hP.get hv
      obtain ⟨n, u⟩ := p
      obtain ⟨t, r, rfl, ht, hru⟩ := hpc.mono (same_tups st.1)
      have hi : i < ps.length := (List.getElem?_eq_some_iff.mp hpi).1
      have hn : 1 ≤ n := pp (n, u) (List.mem_of_getElem? hpi)
      have hud : u.length = d := wa u (flat_mem hn (List.mem_of_getElem? hpi))
      have hru0 : WtAt H r u := by
        obtain ⟨t', r', e, ht', hr'⟩ := hpc
        cases e
        have := (st.1 _ _ ht').symm.trans ht
        cases this
        exact hr'
      refine ⟨t, _, rfl, SqT.of ht, rfl, .int n, [.ref r], rfl, .ref r, [], rfl, rfl, ?_⟩
      refine ⟨fun m σ H' => ∃ x7 x8 k left nn, σ = [some (.ref a), some (.ref b), some (.ref D), some (.int ((k : Nat) : Int)), some (.int left), some (.int nn), some (.ref r), x7, x8] ∧ 0 ≤ nn ∧ nn.toNat = m ∧
        AddSt H H' D d (i + 1) (flat ps) (flat qs) (List.replicate nn.toNat u ++ flat (ps.drop (i + 1))) qs (if 0 < nn then 1 else 0) k left x7, ⟨n.toNat, x7, x8, k, left, n, rfl, by omega, rfl, ?_⟩, fun m σ1 H1 hw => ?_⟩
      · obtain ⟨sm, hk, h0, acc, mw, hacc, hm, e1, e2, e3⟩ := st
        rw [drop_of hpi, flat_cons] at e1 e2
        refine ⟨sm, hk, h0, acc, mw, hacc, hm, e1, e2, ?_⟩
        split <;> omega
      · obtain ⟨x7, x8, k, left, nn, rfl, hnn, rfl, st⟩ := hw
        refine ⟨_, rfl, nn, 0, rfl, rfl, _, rfl, ite2 (fun c => ?_) (fun c => ?_)⟩
        · have hnp : 0 < nn := of_decide_eq_true c
          refine ⟨_, fun σ' H' z => z, ?_⟩
          -- if left == 0: left, more = other[at]; at = at + 1
          refine ⟨fun σ' H' => ∃ x7 k left, σ' = [some (.ref a), some (.ref b), some (.ref D), some (.int ((k : Nat) : Int)), some (.int left), some (.int nn), some (.ref r), x7, x8] ∧ 0 < left ∧
            AddSt H H' D d (i + 1) (flat ps) (flat qs) (List.replicate nn.toNat u ++ flat (ps.drop (i + 1))) qs 1 k left x7, ?_, fun σ' H' hm => ?_⟩
          · obtain ⟨sm, hk, h0, acc, mw, hacc, hm, e1, e2, e3⟩ := st
            rw [if_pos hnp] at e3
            refine ⟨_, rfl, rfl, _, rfl, ite2 (fun c => ?_) (fun c => ?_)⟩
            · have e0 : left = 0 := V.int.inj (of_decide_eq_true c)
              subst e0
              have hne : flat (qs.drop k) ≠ [] := fun z => by
                rw [z, List.length_append, List.length_replicate] at e2
                simp at e2
                omega
              have hk' : k < qs.length := by
                refine Nat.lt_of_not_le fun z => hne ?_
                rw [List.drop_of_length_le z]
                rfl
              have hqi : qs[k]? = some qs[k] := List.getElem?_eq_getElem hk'
              have hwk : k < ws.length := by rw [hQ.length]; exact hk'
              obtain ⟨p', hp', hpc'⟩ := hQ.get (List.getElem?_eq_getElem hwk)
              generalize hwv : ws[k] = wv at hpc'
              have hwi : ws[k]? = some wv := by rw [List.getElem?_eq_getElem hwk, hwv]
              obtain ⟨n', u'⟩ := p'
              obtain ⟨t', r', rfl, ht', hr'⟩ := hpc'.mono (same_tups sm)
              have hn' : 1 ≤ n' := pq (n', u') (List.mem_of_getElem? hp')
              refine ⟨.ref b, rfl, _, rfl, b, ws, (k : Nat), _, rfl, rfl, SqL.of (sm _ _ hB), atI_nat hwi, ?_⟩
              refine ⟨t', _, rfl, SqT.of ht', rfl, .int n', [.ref r'], rfl, .ref r', [], rfl, rfl, ?_⟩
              refine ⟨_, rfl, (k : Nat), 1, rfl, rfl, some (.ref r'), k + 1, n', rfl, by omega, sm, by omega, by omega, acc, u', hacc, fun _ => ⟨r', rfl, hr', wb u' (flat_mem hn' (List.mem_of_getElem? hp'))⟩, ?_, ?_, ?_⟩
              · rw [drop_of hp', flat_cons] at e1
                exact e1
              · rw [drop_of hp', flat_cons] at e2
                rw [e2, List.length_append, List.length_replicate]
                simp
              · rw [if_pos (by omega)]
                have : ¬ (0 : Int) < 0 := by decide
                rw [if_neg this] at e3
                omega
            · have e0 : left ≠ 0 := fun z => c (decide_eq_true (by rw [z]))
              exact ⟨x7, k, left, rfl, by omega, sm, hk, h0, acc, mw, hacc, hm, e1, e2, e3⟩
          · clear st
            obtain ⟨x7, k, left, rfl, hlp, sm, hk, h0, acc, mw, hacc, hm, e1, e2, e3⟩ := hm
            obtain ⟨rm, rfl, hrm, hmd⟩ := hm hlp
            rw [if_pos hlp] at e3
            have mm : (if left < nn then left else nn) = min nn left := by
              split <;> omega
            refine ⟨_, rfl, _, rfl, nn, left, rfl, ?_⟩
            rw [mm]
            obtain ⟨us, hus, hPus⟩ := hacc
            refine ⟨.ref D, rfl, .inl ⟨rfl, _, SqL.of hus⟩, _, rfl, .ref r, rfl, .ref rm, rfl, r, rm, u, mw, rfl, hru0.mono (same_tups sm), hrm, by omega, by omega, fun H2 p2 s2 hw2 => ?_⟩
            have hus2 := s2 _ _ hus
            refine ⟨len2, fun p3 hp3 => ?_⟩
            have nD : D ≠ p3 := ne_of_none hus2 hp3
            refine ⟨D, _, _, rfl, rfl, Eq.trans (upd_ne nD) hus2, ?_, ?_⟩
            · have := hPus.length
              exact line_big (by omega)
            refine ⟨_, rfl, _, rfl, nn, min nn left, rfl, rfl, _, rfl, _, rfl, left, min nn left, rfl, rfl, (nn - min nn left).toNat, by omega, some (.ref rm), _, k, left - min nn left, nn - min nn left, rfl, by omega, rfl, ?_⟩
            refine ⟨same_set (sm.trans (s2.trans (same_new hp3))) hD, hk, by omega, _, mw, wg_put hus2 (hPus.mono (same_tups s2)) hw2 hp3, fun _ => ⟨rm, rfl, ?_, hmd⟩, ?_, ?_, ?_⟩
            · have t1 : Tups H2 (upd H2 p3 (.tup [.int (min nn left), .ref p2])) := tups_new hp3
              have t2 := tups_lst (o := .lst (us ++ [.ref p3])) (Eq.trans (upd_ne (o := .tup [.int (min nn left), .ref p2]) nD) hus2)
              exact hrm.mono ((same_tups s2).trans (t1.trans t2))
            · rw [← e1, flat_append, flat_one, List.append_assoc]
              congr 1
              unfold vz
              rw [zip_step zadd u mw nn.toNat left.toNat, show (min nn left).toNat = min nn.toNat left.toNat by omega, show (nn - min nn left).toNat = nn.toNat - min nn.toNat left.toNat by omega,
                show (left - min nn left).toNat = left.toNat - min nn.toNat left.toNat by omega]
            · rw [List.length_append, List.length_replicate] at e2 ⊢
              omega
            · rw [List.length_append]
              show acc.length + 1 + _ + _ ≤ _
              split <;> split <;> omega
        · have hnz : ¬ 0 < nn := fun z => c (decide_eq_true z)
          obtain ⟨sm, hk, h0, acc, mw, hacc, hm, e1, e2, e3⟩ := st
          have z : nn.toNat = 0 := by omega
          rw [z] at e1 e2
          rw [if_neg hnz] at e3
          exact ⟨_, _, x7, x8, k, left, rfl, sm, hk, h0, acc, mw, hacc, hm, e1, e2, e3⟩
    · obtain ⟨x5, x6, x7, x8, k, left, rfl, sm, hk, h0, acc, mw, hacc, hm, e1, e2, e3⟩ := hp
      rw [hP.length] at e1 e2 e3
      rw [List.drop_length, flat_nil, vz_nil, List.append_nil] at e1
      have la : acc.length ≤ ps.length + qs.length := by omega
      refine ⟨.ref D, rfl, D, acc, rfl, hacc, by omega, fun H2 p2 r2 s2 hg2 c2 f2 l2 => ?_⟩
      exact q H2 p2 r2 (sm.trans s2) hg2 c2 (f2.trans e1) (by omega)
end
end K8
set_option Elab.async false
set_option linter.all false
set_option maxRecDepth 100000
set_option maxHeartbeats 4000000
/-! put_to, once_more, wound -/
namespace K8
open PySem PySem.Spec PyProof.Rows L2
theorem flat3 {a b c : Int} {na nb nc : Nat} {x y z : Wt} (ha : a.toNat = na) (hb : b.toNat = nb) (hc : c.toNat = nc) : flat [(a, x), (b, y), (c, z)] = List.replicate na x ++ (List.replicate nb y ++ List.replicate nc z) := by
  subst ha hb hc
  rw [flat_cons, flat_cons, flat_cons, flat_nil, List.append_nil]
theorem pc_new {H : Hp} {p r : Addr} {m : Int} {u : Wt} (hu : WtAt H r u) (hp : H p = none) : PcAt (upd H p (.tup [.int m, .ref r])) (.ref p) (m, u) := ⟨p, r, rfl, upd_same, hu.mono (tups_new hp)⟩
/-- a list of one piece -/
theorem wg_one {H : Hp} {p D r : Addr} {m : Int} {u : Wt} (hu : WtAt H r u) (hp : H p = none) (hD : (upd H p (.tup [.int m, .ref r])) D = none) :
    WgAt (upd (upd H p (.tup [.int m, .ref r])) D (.lst [.ref p])) D [(m, u)] ∧ Same H (upd (upd H p (.tup [.int m, .ref r])) D (.lst [.ref p])) :=
  ⟨⟨_, upd_same, (PcsAt.one (pc_new hu hp)).mono (tups_new hD)⟩, (same_new hp).trans (same_new hD)⟩
/-- a list of three -/
theorem wg_three {H : Hp} {p1 p2 p3 D r1 r2 r3 : Addr} {a b c : Int} {u1 u2 u3 : Wt} (h1 : WtAt H r1 u1) (h2 : WtAt H r2 u2) (h3 : WtAt H r3 u3) (n1 : H p1 = none) (n2 : (upd H p1 (.tup [.int a, .ref r1])) p2 = none)
    (n3 : (upd (upd H p1 (.tup [.int a, .ref r1])) p2 (.tup [.int b, .ref r2])) p3 = none) (nD : (upd (upd (upd H p1 (.tup [.int a, .ref r1])) p2 (.tup [.int b, .ref r2])) p3 (.tup [.int c, .ref r3])) D = none) :
    WgAt (upd (upd (upd (upd H p1 (.tup [.int a, .ref r1])) p2 (.tup [.int b, .ref r2])) p3 (.tup [.int c, .ref r3])) D (.lst [.ref p1, .ref p2, .ref p3])) D [(a, u1), (b, u2), (c, u3)] ∧
      Same H (upd (upd (upd (upd H p1 (.tup [.int a, .ref r1])) p2 (.tup [.int b, .ref r2])) p3 (.tup [.int c, .ref r3])) D (.lst [.ref p1, .ref p2, .ref p3])) := by
  have t1 := tups_new (o := .tup [.int a, .ref r1]) n1
  have t2 := tups_new (o := .tup [.int b, .ref r2]) n2
  have t3 := tups_new (o := .tup [.int c, .ref r3]) n3
  have t4 := tups_new (o := .lst [.ref p1, .ref p2, .ref p3]) nD
  refine ⟨⟨_, upd_same, .cons ((pc_new h1 n1).mono (t2.trans (t3.trans t4))) (.cons ((pc_new (h2.mono t1) n2).mono (t3.trans t4)) (.cons ((pc_new (h3.mono (t1.trans t2)) n3).mono t4) .nil))⟩, (same_new n1).trans ((same_new n2).trans ((same_new n3).trans (same_new nD)))⟩
section
variable {P : Program} {w : World} {K : PySem.W.Frag} {mg : Str → Option Value} {base : Heap}

/-! ### put_to -/
abbrev sPutTo : Stmt := topS 8
theorem scPutTo : FnScope ["weighing", "begin", "other", "end", "middle"] ["weighing", "begin", "other"] (defScope sPutTo) := ⟨rfl, rfl, rfl, by decide +kernel, rfl, by decide +kernel, by decide +kernel⟩
def spPutTo : Sp := fun vs H Q _ => ∃ (a c : Addr) (b d : Nat) (ps qs : List Pc), vs = [.ref a, .int ((b : Nat) : Int), .ref c] ∧ WgAt H a ps ∧ WgAt H c qs ∧ Pos ps ∧ Pos qs ∧ b + (flat qs).length ≤ (flat ps).length ∧ Wd d (flat ps) ∧ Wd d (flat qs) ∧ d ≤ 24 ∧
  ps.length + qs.length ≤ 10000 ∧ ∀ H' p r, Same H H' → WgAt H' p r → Canon r → flat r = (flat ps).take b ++ vz (((flat ps).drop b).take (flat qs).length) (flat qs) ++ (flat ps).drop (b + (flat qs).length) → r.length ≤ 3 * ps.length + qs.length → Q (.ref p) H'
theorem ok_putTo {f : Addr} {fd : FuncData} (F : Fun K "put_to" "put_to" sPutTo f fd) (Dl : Dfn P w K mg base 1 "length" ["weighing"] spLength) (Dp : Dfn P w K mg base 1 "part" ["weighing", "begin", "end"] spPart)
    (Ds : Dfn P w K mg base 1 "shaped" ["pieces"] spShaped) (Da : Dfn P w K mg base 2 "added" ["one", "other"] spAdded) : FnOk P w K mg base CX0 3 f fd ["weighing", "begin", "other"] spPutTo := by
  obtain ⟨f1, fd1, G1, g1, k1, b1⟩ := Dl.ex
  obtain ⟨f2, fd2, G2, g2, k2, b2⟩ := Dp.ex
  obtain ⟨f3, fd3, G3, g3, k3, b3⟩ := Ds.ex
  obtain ⟨f4, fd4, G4, g4, k4, b4⟩ := Da.ex
  refine F.ok scPutTo (fun vs H Q E h => ?_) (fun cdv A outer s H vs Q E hr h => ?_)
  · obtain ⟨a, c, b, d, ps, qs, rfl, _⟩ := h
    rfl
  · obtain ⟨a, c, b, d, ps, qs, rfl, hA, hC, pp, pq, hle, wa, wb, h24, hl, q⟩ := h
    have r1 := hr.mono (show 1 ≤ 2 by decide)
    refine ⟨_, pss_cons (ps_set (i := 3) scPutTo.nd rfl (.inl rfl) (pe_op op_add (pv 1) (pe_call G1 r1 (by rfl) g1 k1 b1 .nil pass0 (pa_cons (pv 2) pa_nil))))
      (pss_cons (ps_set (i := 4) scPutTo.nd rfl (.inl rfl) (pe_call G4 hr (by rfl) g4 k4 b4 .nil pass0 (pa_cons (pe_call G2 r1 (by rfl) g2 k2 b2 .nil pass0 (pa_cons (pv 0) (pa_cons (pv 1) (pa_cons (pv 3) pa_nil)))) (pa_cons (pv 2) pa_nil))))
      (pss_one (ps_ret (pe_call G3 r1 (by rfl) g3 k3 b3 .nil pass0 (pa_cons (pe_op op_cat (pe_op op_cat (pe_call G2 r1 (by rfl) g2 k2 b2 .nil pass0 (pa_cons (pv 0) (pa_cons pe_int (pa_cons (pv 1) pa_nil)))) (pv 4))
        (pe_call G2 r1 (by rfl) g2 k2 b2 .nil pass0 (pa_cons (pv 0) (pa_cons (pv 3) (pa_cons (pe_call G1 r1 (by rfl) g1 k1 b1 .nil pass0 (pa_cons (pv 0) pa_nil)) pa_nil))))) pa_nil))))), ?_⟩
    have tq : total qs = ((flat qs).length : Int) := total_len pq.nonneg
    have tp : total ps = ((flat ps).length : Int) := total_len pp.nonneg
    refine ⟨_, rfl, .ref c, rfl, c, qs, rfl, hC, by omega, fun H1 s1 => ⟨_, _, rfl, rfl, ?_⟩⟩
    have hA1 := hA.mono s1
    refine ⟨.ref a, rfl, _, rfl, _, rfl, a, _, _, ps, rfl, hA1, by omega, fun H2 p2 s2 w2 => ?_⟩
    have fp : flat (partM ((b : Nat) : Int) (((b : Nat) : Int) + total qs) 0 ps) = ((flat ps).drop b).take (flat qs).length := by
      rw [partM_flat pp, tq, show ((((b : Nat) : Int) + ((flat qs).length : Int)) - 0).toNat = b + (flat qs).length by omega, show (((b : Nat) : Int) - 0).toNat = b by omega, List.drop_take]
      congr 1
      omega
    have lp := partM_len (b := ((b : Nat) : Int)) (e := ((b : Nat) : Int) + total qs) (ahead := 0) (ps := ps)
    have hC2 := hC.mono (s1.trans s2)
    refine ⟨.ref c, rfl, p2, c, d, _, qs, rfl, w2, hC2, partM_pos, pq, ?_, ?_, wb, h24, by omega, fun H3 p3 r3 s3 w3 c3 f3 l3 => ?_⟩
    · rw [fp, List.length_take, List.length_drop]
      omega
    · rw [fp]
      exact (wa.drop).take
    have hA3 := hA1.mono (s2.trans s3)
    refine ⟨.ref a, rfl, _, rfl, a, 0, _, ps, rfl, hA3, by omega, fun H4 p4 s4 w4 => ?_⟩
    obtain ⟨us3, hus3, hP3⟩ := w3
    obtain ⟨us4, hus4, hP4⟩ := w4
    have l0 := partM_len (b := 0) (e := ((b : Nat) : Int)) (ahead := 0) (ps := ps)
    have e4 := hP4.length
    have e3 := hP3.length
    refine ⟨.ref p3, rfl, p4, p3, _, _, rfl, rfl, hus4, s4 _ _ hus3, Nat.le_of_lt (line_big (by omega)), fun p5 n5 => ?_⟩
    have hA5 := hA3.mono (s4.trans (same_new (o := .lst (us4 ++ us3)) n5))
    refine ⟨.ref a, rfl, _, rfl, .ref a, rfl, a, ps, rfl, hA5, by omega, fun H6 s6 => ?_⟩
    refine ⟨a, _, _, ps, rfl, hA5.mono s6, by omega, fun H7 p7 s7 w7 => ?_⟩
    obtain ⟨us7, hus7, hP7⟩ := w7
    have e7 := hP7.length
    have l7 := partM_len (b := ((b : Nat) : Int) + total qs) (e := total ps) (ahead := 0) (ps := ps)
    have hus5 : H7 p5 = some (.lst (us4 ++ us3)) := (s6.trans s7) _ _ upd_same
    refine ⟨p5, p7, _, _, rfl, rfl, hus5, hus7, Nat.le_of_lt (line_big (by rw [List.length_append]; omega)), fun p8 n8 => ?_⟩
    have sm4 : Same H4 (upd H7 p8 (.lst (us4 ++ us3 ++ us7))) := (same_new n5).trans (s6.trans (s7.trans (same_new n8)))
    have hP : PcsAt (upd H7 p8 (.lst (us4 ++ us3 ++ us7))) (us4 ++ us3 ++ us7) (partM 0 ((b : Nat) : Int) 0 ps ++ r3 ++ partM (((b : Nat) : Int) + total qs) (total ps) 0 ps) :=
      ((hP4.mono (same_tups sm4)).append (hP3.mono ((same_tups s4).trans (same_tups sm4)))).append (hP7.mono (tups_new n8))
    refine ⟨p8, _, rfl, ⟨_, upd_same, hP⟩, ?_, fun H9 p9 r9 s9 w9 c9 f9 l9 => ?_⟩
    · rw [List.length_append, List.length_append]
      omega
    · refine q H9 p9 r9 (s1.trans (s2.trans (s3.trans (s4.trans ((same_new n5).trans (s6.trans (s7.trans ((same_new n8).trans s9)))))))) w9 c9 ?_ ?_
      · rw [f9, flat_append, flat_append, f3, fp, partM_flat pp, partM_flat pp, tq, tp, show (((b : Nat) : Int) - 0).toNat = b by omega, show ((0 : Int) - 0).toNat = 0 by rfl, List.drop_zero,
          show (((flat ps).length : Int) - 0).toNat = (flat ps).length by omega, List.take_length, show ((((b : Nat) : Int) + ((flat qs).length : Int)) - 0).toNat = b + (flat qs).length by omega]
      · rw [List.length_append, List.length_append] at l9
        omega

/-! ### once_more -/
abbrev sOnce : Stmt := topS 10
theorem scOnce : FnScope ["found", "here", "many", "weights", "t", "whole", "rest", "bare", "ring", "arc"] ["found", "here", "many", "weights", "t"] (defScope sOnce) := ⟨rfl, rfl, rfl, by decide +kernel, rfl, by decide +kernel, by decide +kernel⟩
theorem Bt.div {n t : Nat} {k : Nat} (h : Bt k ((n : Nat) : Int)) : Bt k (((n / t : Nat)) : Int) := by
  have h' : (((n : Nat) : Int)).natAbs < 2 ^ k := h
  show ((((n / t : Nat)) : Int)).natAbs < 2 ^ k
  rw [Int.natAbs_natCast] at h' ⊢
  exact Nat.lt_of_le_of_lt (Nat.div_le_self n t) h'
theorem Bt.zero {k : Nat} : Bt k 0 := Nat.pow_pos (by decide)
def spOnce : Sp := fun vs H Q _ => ∃ (a r : Addr) (d n t : Nat) (u : Wt) (xs : List Wt) (fs : List Pc), vs = [.ref a, .int ((xs.length % t : Nat) : Int), .int ((n : Nat) : Int), .ref r, .int ((t : Nat) : Int)] ∧ WgAt H a fs ∧ Canon fs ∧ flat fs = wv d t xs ∧ WtAt H r u ∧
  0 < t ∧ Wd d xs ∧ u.length = d ∧ d ≤ 24 ∧ Bt 1000 ((t : Nat) : Int) ∧ Bt 1000 ((n : Nat) : Int) ∧ Bts 3000 u ∧ fs.length ≤ 20000 ∧
  ∀ H' p g, Same H H' → WgAt H' p g → Canon g → flat g = wv d t (xs ++ List.replicate n u) → g.length ≤ fs.length + 4 → Q (.ref p) H'
theorem ok_once {f : Addr} {fd : FuncData} (F : Fun K "once_more" "once_more" sOnce f fd) (Dt : Dfn P w K mg base 1 "times" ["number", "weights"] spTimes) (Ds : Dfn P w K mg base 1 "shaped" ["pieces"] spShaped)
    (Da : Dfn P w K mg base 2 "added" ["one", "other"] spAdded) : FnOk P w K mg base CX0 3 f fd ["found", "here", "many", "weights", "t"] spOnce := by
  obtain ⟨f1, fd1, G1, g1, k1, b1⟩ := Dt.ex
  obtain ⟨f3, fd3, G3, g3, k3, b3⟩ := Ds.ex
  obtain ⟨f4, fd4, G4, g4, k4, b4⟩ := Da.ex
  refine F.ok scOnce (fun vs H Q E h => ?_) (fun cdv A outer s H vs Q E hr h => ?_)
  · obtain ⟨a, r, d, n, t, u, xs, fs, rfl, _⟩ := h
    rfl
  · obtain ⟨a, r, d, n, t, u, xs, fs, rfl, hA, hcan, hfl, hu, ht, hx, hud, h24, bt, bn, bu, hl, q⟩ := h
    have r1 := hr.mono (show 1 ≤ 2 by decide)
    refine ⟨_, pss_cons (ps_set (i := 5) scOnce.nd rfl (.inl rfl) (pe_call G1 r1 (by rfl) g1 k1 b1 .nil pass0 (pa_cons (pe_op op_fdivW (pv 2) (pv 4)) (pa_cons (pv 3) pa_nil))))
      (pss_cons (ps_set (i := 6) scOnce.nd rfl (.inl rfl) (pe_op op_mod (pv 2) (pv 4)))
      (pss_cons (ps_set (i := 7) scOnce.nd rfl (.inl rfl) (pe_call G1 r1 (by rfl) g1 k1 b1 .nil pass0 (pa_cons pe_int (pa_cons (pv 3) pa_nil))))
      (pss_cons (ps_set (i := 8) scOnce.nd rfl (.inl rfl) (pe_lst (pa_cons (pe_tup (pa_cons (pv 4) (pa_cons (pv 5) pa_nil))) pa_nil)))
      (C8.pss_cut (ps_if (pt_cmpR op_le (pe_op op_add (pv 1) (pv 6)) (pv 4) (nomark _))
          (pss_one (ps_set (i := 9) scOnce.nd rfl (.inl rfl) (pe_lst (pa_cons (pe_tup (pa_cons (pv 1) (pa_cons (pv 7) pa_nil))) (pa_cons (pe_tup (pa_cons (pv 6) (pa_cons (pv 3) pa_nil))) (pa_cons (pe_tup (pa_cons (pe_op op_sub (pe_op op_sub (pv 4) (pv 1)) (pv 6)) (pa_cons (pv 7) pa_nil))) pa_nil))))))
          (pss_one (ps_set (i := 9) scOnce.nd rfl (.inl rfl) (pe_lst (pa_cons (pe_tup (pa_cons (pe_op op_sub (pe_op op_add (pv 1) (pv 6)) (pv 4)) (pa_cons (pv 3) pa_nil))) (pa_cons (pe_tup (pa_cons (pe_op op_sub (pv 4) (pv 6)) (pa_cons (pv 7) pa_nil))) (pa_cons (pe_tup (pa_cons (pe_op op_sub (pv 4) (pv 1)) (pa_cons (pv 3) pa_nil))) pa_nil)))))))
      (pss_one (ps_ret (pe_call G4 hr (by rfl) g4 k4 b4 .nil pass0 (pa_cons (pe_call G4 hr (by rfl) g4 k4 b4 .nil pass0 (pa_cons (pv 0) (pa_cons (pv 8) pa_nil))) (pa_cons (pe_call G3 r1 (by rfl) g3 k3 b3 .nil pass0 (pa_cons (pv 9) pa_nil)) pa_nil))))))))), ?_⟩
    have hti : (0 : Int) < ((t : Nat) : Int) := by omega
    -- whole, rest, bare
    refine ⟨_, rfl, _, rfl, _, _, rfl, rfl, wide_div hti bt (by decide) (by decide), .ref r, rfl, ?_⟩
    refine ⟨((n / t : Nat) : Int), r, u, rfl, hu, bn.div, bu, by omega, fun H1 p1 s1 w1 => ?_⟩
    refine ⟨_, rfl, _, rfl, _, _, rfl, rfl, hti, ?_⟩
    refine ⟨.ref r, rfl, _, r, u, rfl, hu.mono (same_tups s1), Bt.zero, bu, by omega, fun H2 p2 s2 w2 => ?_⟩
    -- ring
    refine ⟨_, rfl, .ref p1, rfl, len2, fun p3 n3 => ⟨len1, fun p4 n4 => ?_⟩⟩
    have w1' := w1.mono (same_tups s2)
    obtain ⟨ringW, s3⟩ := wg_one (m := ((t : Nat) : Int)) w1' n3 n4
    generalize hH3 : upd (upd H2 p3 (.tup [.int ((t : Nat) : Int), .ref p1])) p4 (.lst [.ref p3]) = H3 at ringW s3
    have hh := Nat.mod_lt xs.length ht
    have hrt := Nat.mod_lt n ht
    have hu3 : WtAt H3 r u := hu.mono ((same_tups s1).trans ((same_tups s2).trans (same_tups s3)))
    have hb3 : WtAt H3 p2 (u.map fun x => 0 * x) := w2.mono (same_tups s3)
    -- arc
    refine ⟨fun σ' H' => ∃ x9 gs, σ' = [some (.ref a), some (.int ((xs.length % t : Nat) : Int)), some (.int ((n : Nat) : Int)), some (.ref r), some (.int ((t : Nat) : Int)), some (.ref p1), some (.int ((n % t : Nat) : Int)), some (.ref p2), some (.ref p4), some (.ref x9)] ∧
      Same H3 H' ∧ WgAt H' x9 gs ∧ gs.length = 3 ∧ flat gs = arcs t (xs.length % t) (n % t) u (u.map fun x => 0 * x), ?_, fun σ' H' hm => ?_⟩
    · show tIfS _ _ _ _ _ H3
      refine ⟨_, rfl, _, rfl, _, _, rfl, rfl, _, rfl, _, _, rfl, rfl, _, rfl, ite2 (fun c => ?_) (fun c => ?_)⟩
      · have c' := of_decide_eq_true c
        refine ⟨_, rfl, _, rfl, len2, fun q1 m1 => ⟨_, rfl, _, rfl, len2, fun q2 m2 => ⟨_, rfl, _, rfl, _, _, rfl, rfl, _, rfl, _, _, rfl, rfl, _, rfl, len2, fun q3 m3 => ⟨len3, fun q4 m4 => ?_⟩⟩⟩⟩
        obtain ⟨aw, s4⟩ := wg_three hb3 hu3 hb3 m1 m2 m3 m4
        refine ⟨_, _, rfl, s4, aw, rfl, ?_⟩
        rw [arcs_one (by omega)]
        exact flat3 (by omega) (by omega) (by omega)
      · have c' : ¬ _ := fun z => c (decide_eq_true z)
        refine ⟨_, rfl, _, rfl, _, _, rfl, rfl, _, rfl, _, _, rfl, rfl, _, rfl, len2, fun q1 m1 => ⟨_, rfl, _, rfl, _, _, rfl, rfl, _, rfl, len2, fun q2 m2 => ⟨_, rfl, _, rfl, _, _, rfl, rfl, _, rfl, len2, fun q3 m3 => ⟨len3, fun q4 m4 => ?_⟩⟩⟩⟩
        obtain ⟨aw, s4⟩ := wg_three hu3 hb3 hu3 m1 m2 m3 m4
        refine ⟨_, _, rfl, s4, aw, rfl, ?_⟩
        rw [arcs_two (by omega) hh hrt]
        exact flat3 (by omega) (by omega) (by omega)
    · obtain ⟨x9, gs, rfl, s4, aw, gl, gf⟩ := hm
      have hA4 := hA.mono (s1.trans (s2.trans (s3.trans s4)))
      have rw4 := ringW.mono s4
      have fr : flat [(((t : Nat) : Int), u.map fun x => ((n / t : Nat) : Int) * x)] = List.replicate t (u.map fun x => ((n / t : Nat) : Int) * x) := by
        rw [flat_one]
        rfl
      have wr : Wd d (List.replicate t (u.map fun x => ((n / t : Nat) : Int) * x)) := Wd.rep (by rw [List.length_map]; exact hud)
      have wc : Wd d (arcs t (xs.length % t) (n % t) u (u.map fun x => 0 * x)) := fun z hz => by
        obtain ⟨p, _, e⟩ := List.mem_map.mp hz
        rw [← e]
        split
        · exact hud
        · rw [List.length_map]
          exact hud
      refine ⟨.ref a, rfl, .ref p4, rfl, a, p4, d, fs, _, rfl, hA4, rw4, hcan.1, (Canon.one (by omega)).1, ?_, ?_, ?_, h24, by show fs.length + 1 ≤ 50000; omega, fun H5 p5 r5 s5 w5 c5 f5 l5 => ?_⟩
      · rw [hfl, fr, wv_len, List.length_replicate]
      · rw [hfl]
        exact wv_wd
      · rw [fr]
        exact wr
      rw [hfl, fr] at f5
      have l5' : r5.length ≤ fs.length + 1 := l5
      refine ⟨.ref x9, rfl, x9, gs, rfl, aw.mono s5, by omega, fun H6 p6 r6 s6 w6 c6 f6 l6 => ?_⟩
      rw [gf] at f6
      refine ⟨p5, p6, d, r5, r6, rfl, w5.mono s6, w6, c5.1, c6.1, ?_, ?_, ?_, h24, by omega, fun H7 p7 r7 s7 w7 c7 f7 l7 => ?_⟩
      · rw [f5, f6, vz_len, wv_len]
        · simp [arcs]
        · rw [wv_len, List.length_replicate]
      · rw [f5]
        exact vz_wd wv_wd wr
      · rw [f6]
        exact wc
      refine q H7 p7 r7 (s1.trans (s2.trans (s3.trans (s4.trans (s5.trans (s6.trans s7)))))) w7 c7 ?_ (by omega)
      rw [f7, f5, f6]
      exact wv_more ht hx hud
end
end K8
set_option Elab.async false
set_option linter.all false
set_option maxRecDepth 100000
set_option maxHeartbeats 4000000
/-! wound, sorts -/
namespace K8
open PySem PySem.Spec PyProof.Rows L2
section
variable {P : Program} {w : World} {K : PySem.W.Frag} {mg : Str → Option Value} {base : Heap}

/-! ### wound -/
abbrev sWound : Stmt := topS 11
theorem scWound : FnScope ["weighing", "t", "found", "here", "many", "weights"] ["weighing", "t"] (defScope sWound) := ⟨rfl, rfl, rfl, by decide +kernel, rfl, by decide +kernel, by decide +kernel⟩
def spWound : Sp := fun vs H Q _ => ∃ (a : Addr) (d t : Nat) (ps : List Pc), vs = [.ref a, .int ((t : Nat) : Int)] ∧ WgAt H a ps ∧ Pos ps ∧ ps ≠ [] ∧ Wd d (flat ps) ∧ d ≤ 24 ∧ 0 < t ∧ Bt 1000 ((t : Nat) : Int) ∧ (∀ p ∈ ps, Bt 1000 p.1) ∧ (∀ p ∈ ps, Bts 3000 p.2) ∧ ps.length ≤ 4000 ∧
  ∀ H' p g, Same H H' → WgAt H' p g → Canon g → flat g = wv d t (flat ps) → g.length ≤ 1 + 4 * ps.length → Q (.ref p) H'
theorem zero_map (u : Wt) : (u.map fun x => 0 * x) = List.replicate u.length 0 := by
  rw [← List.map_const' (l := u) (b := (0 : Int))]
  exact List.map_congr_left fun x _ => Int.zero_mul x
theorem ok_wound {f : Addr} {fd : FuncData} (F : Fun K "wound" "wound" sWound f fd) (Dt : Dfn P w K mg base 1 "times" ["number", "weights"] spTimes) (Do : Dfn P w K mg base 3 "once_more" ["found", "here", "many", "weights", "t"] spOnce) :
    FnOk P w K mg base CX0 4 f fd ["weighing", "t"] spWound := by
  obtain ⟨f1, fd1, G1, g1, k1, b1⟩ := Dt.ex
  obtain ⟨f3, fd3, G3, g3, k3, b3⟩ := Do.ex
  refine F.ok scWound (fun vs H Q E h => ?_) (fun cdv A outer s H vs Q E hr h => ?_)
  · obtain ⟨a, d, t, ps, rfl, _⟩ := h
    rfl
  · obtain ⟨a, d, t, ps, rfl, hA, pp, hne, wa, h24, ht, bt, bn, bu, hl, q⟩ := h
    have r1 := hr.mono (show 1 ≤ 3 by decide)
    refine ⟨_, pss_cons (ps_set (i := 2) scWound.nd rfl (.inl rfl) (pe_lst (pa_cons (pe_tup (pa_cons (pv 1) (pa_cons (pe_call G1 r1 (by rfl) g1 k1 b1 .nil pass0 (pa_cons pe_int (pa_cons (pe_ix ix_tup (pe_ix ix_list (pv 0) pe_int (fun _ _ => rfl)) pe_int (fun _ _ => rfl)) pa_nil))) pa_nil))) pa_nil)))
      (pss_cons (ps_set (i := 3) scWound.nd rfl (.inl rfl) pe_int)
      (pss_cons (ps_for PassesOwn.never rfl (pi_list (pv 0)) (pg_tup rfl (pgs_cons (pg_name (i := 4) scWound.nd rfl (.inl rfl)) (pgs_cons (pg_name (i := 5) scWound.nd rfl (.inl rfl)) pgs_nil)))
        (pss_cons (ps_set (i := 2) scWound.nd rfl (.inl rfl) (pe_call G3 hr (by rfl) g3 k3 b3 .nil pass0 (pa_cons (pv 2) (pa_cons (pv 3) (pa_cons (pv 4) (pa_cons (pv 5) (pa_cons (pv 1) pa_nil)))))))
          (pss_one (ps_set (i := 3) scWound.nd rfl (.inl rfl) (pe_op op_mod (pe_op op_add (pv 3) (pv 4)) (pv 1))))))
      (pss_one (ps_ret (pv 2))))), ?_⟩
    obtain ⟨vs, hvs, hP⟩ := id hA
    obtain ⟨p0, ps', rfl⟩ : ∃ p r, ps = p :: r := by
      cases ps with
      | nil => exact absurd rfl hne
      | cons p r => exact ⟨p, r, rfl⟩
    cases hP with
    | @cons v0 _ vs' _ hp0 hP' =>
    obtain ⟨n0, u0⟩ := p0
    obtain ⟨t0, r0, rfl, ht0, hr0⟩ := id hp0
    have hd0 : u0.length = d := wa u0 (by rw [flat_cons]; exact List.mem_append_left _ (List.mem_replicate.mpr ⟨by have := pp.head; show n0.toNat ≠ 0; have : 1 ≤ n0 := this; omega, rfl⟩))
    refine ⟨_, rfl, .ref a, rfl, a, _, 0, _, rfl, rfl, SqL.of hvs, atI0, t0, _, 1, _, rfl, rfl, SqT.of ht0, atI1, 0, r0, u0, rfl, hr0, Bt.zero, bu (n0, u0) List.mem_cons_self, by omega, fun H1 p1 s1 w1 => ?_⟩
    refine ⟨len2, fun p3 n3 => ⟨len1, fun p4 n4 => ?_⟩⟩
    obtain ⟨fW, s2⟩ := wg_one (m := ((t : Nat) : Int)) w1 n3 n4
    generalize upd (upd H1 p3 (.tup [.int ((t : Nat) : Int), .ref p1])) p4 (.lst [.ref p3]) = H2 at fW s2
    have s12 := s1.trans s2
    refine ⟨.ref a, rfl, a, rfl, ⟨_, SqL.of (s12 _ _ hvs)⟩, for_list (K := K) (a := a) (xs := V.ref t0 :: vs')
      (fun i σ H' => ∃ fa x4 x5, σ = [some (.ref a), some (.int ((t : Nat) : Int)), some (.ref fa), some (.int (((flat (((n0, u0) :: ps').take i)).length % t : Nat) : Int)), x4, x5] ∧ Same H H' ∧
        ∃ g, WgAt H' fa g ∧ Canon g ∧ flat g = wv d t (flat (((n0, u0) :: ps').take i)) ∧ g.length ≤ 1 + 4 * i)
      ⟨p4, none, none, by rw [List.take_zero, flat_nil, List.length_nil, Nat.zero_mod]; rfl, s12, _, fW, Canon.one (by omega), ?_, by simp⟩ (fun i σ H' _ hp => ?_) (fun i v σ H' hv hp => ?_) (fun σ H' hp => ?_)⟩
    · rw [List.take_zero, flat_nil, wv_nil, flat_one, zero_map, hd0]
      rfl
    · obtain ⟨_, _, _, _, sm, _⟩ := hp
      exact SqL.of (sm _ _ hvs)
    · obtain ⟨fa, x4, x5, rfl, sm, g, hg, cg, fg, lg⟩ := hp
      obtain ⟨p, hpi, hpc⟩ := (PcsAt.cons hp0 hP').get hv
      obtain ⟨n, u⟩ := p
      have hmem := List.mem_of_getElem? hpi
      have hn : 1 ≤ n := pp (n, u) hmem
      have hb := bn (n, u) hmem
      have hbu := bu (n, u) hmem
      have hud : u.length = d := wa u (flat_mem hn hmem)
      have hi : i < ((n0, u0) :: ps').length := (List.getElem?_eq_some_iff.mp hpi).1
      obtain ⟨t', r, rfl, ht', hru⟩ := hpc.mono (same_tups sm)
      obtain ⟨m, rfl⟩ : ∃ m : Nat, n = ((m : Nat) : Int) := ⟨n.toNat, by omega⟩
      have ft : flat (((n0, u0) :: ps').take (i + 1)) = flat (((n0, u0) :: ps').take i) ++ List.replicate m u := by
        rw [take_next' hpi, flat_append, flat_one]
        rfl
      have wt : Wd d (flat (((n0, u0) :: ps').take i)) := fun z hz => by
        obtain ⟨c, hc, h1⟩ := mem_flat hz
        exact wa z (flat_mem h1 (List.mem_of_mem_take hc))
      refine ⟨t', _, rfl, SqT.of ht', rfl, .int ((m : Nat) : Int), [.ref r], rfl, .ref r, [], rfl, rfl, ?_⟩
      refine ⟨.ref fa, rfl, _, rfl, _, rfl, .ref r, rfl, _, rfl, fa, r, d, m, t, u, _, g, rfl, hg, cg, fg, hru, ht, wt, hud, h24, bt, hb, hbu, by omega, fun H3 p5 g5 s3 w5 c5 f5 l5 => ?_⟩
      refine ⟨_, rfl, _, rfl, _, _, rfl, rfl, _, rfl, _, _, rfl, rfl, (by omega : (0 : Int) < ((t : Nat) : Int)), p5, some (.int ((m : Nat) : Int)), some (.ref r), ?_, sm.trans s3, g5, w5, c5, ?_, by omega⟩
      · have e : ((((flat (((n0, u0) :: ps').take i)).length % t : Nat) : Int) + ((m : Nat) : Int)) % ((t : Nat) : Int) = (((flat (((n0, u0) :: ps').take (i + 1))).length % t : Nat) : Int) := by
          rw [ft, List.length_append, List.length_replicate, ← Nat.mod_add_mod]
          rfl
        rw [← e]
        rfl
      · rw [ft]
        exact f5
    · obtain ⟨fa, x4, x5, rfl, sm, g, hg, cg, fg, lg⟩ := hp
      have el : (V.ref t0 :: vs').length = ((n0, u0) :: ps').length := (PcsAt.cons hp0 hP').length
      rw [el] at fg lg
      rw [List.take_length] at fg
      exact ⟨.ref fa, rfl, q H' fa g sm hg cg fg (by omega)⟩

/-! ### sorts -/
/-- a tuple of weights and a many -/
def StAt (H : Hp) (v : V) (q : Wt × Int) : Prop := ∃ t r, v = .ref t ∧ H t = some (.tup [.ref r, .int q.2]) ∧ WtAt H r q.1
theorem StAt.mono {H H' : Hp} {v : V} {q : Wt × Int} (h : StAt H v q) (e : Tups H H') : StAt H' v q :=
  let ⟨t, r, a, b, c⟩ := h
  ⟨t, r, a, e _ _ b, e _ _ c⟩
inductive StsAt (H : Hp) : List V → List (Wt × Int) → Prop
  | nil : StsAt H [] []
  | cons {v : V} {q : Wt × Int} {vs : List V} {qs : List (Wt × Int)} : StAt H v q → StsAt H vs qs → StsAt H (v :: vs) (q :: qs)
theorem StsAt.mono {H H' : Hp} (e : Tups H H') : ∀ {vs : List V} {qs : List (Wt × Int)}, StsAt H vs qs → StsAt H' vs qs
  | _, _, .nil => .nil
  | _, _, .cons h t => .cons (h.mono e) (t.mono e)
theorem StsAt.length {H : Hp} : ∀ {vs : List V} {qs : List (Wt × Int)}, StsAt H vs qs → vs.length = qs.length
  | _, _, .nil => rfl
  | _, _, .cons _ t => congrArg (· + 1) t.length
theorem StsAt.snoc {H : Hp} : ∀ {vs : List V} {qs : List (Wt × Int)} {v : V} {q : Wt × Int}, StsAt H vs qs → StAt H v q → StsAt H (vs ++ [v]) (qs ++ [q])
  | _, _, _, _, .nil, h => .cons h .nil
  | _, _, _, _, .cons a t, h => .cons a (t.snoc h)
theorem StsAt.get {H : Hp} : ∀ {vs : List V} {qs : List (Wt × Int)} {i : Nat} {v : V}, StsAt H vs qs → vs[i]? = some v → ∃ q, qs[i]? = some q ∧ StAt H v q
  | _, _, 0, _, .cons h _, e => ⟨_, rfl, by cases e; exact h⟩
  | _, _, i + 1, _, .cons _ t, e => StsAt.get (i := i) t e
theorem StsAt.perm {H : Hp} {ys xs : List V} (p : ys.Perm xs) : ∀ {ts : List (Wt × Int)}, StsAt H xs ts → ∃ ts', StsAt H ys ts' ∧ ts'.Perm ts := by
  induction p with
  | nil => intro ts h; exact ⟨ts, h, List.Perm.refl _⟩
  | cons x _ ih =>
    intro ts h
    cases h with
    | cons a t =>
      obtain ⟨ts', h1, h2⟩ := ih t
      exact ⟨_ :: ts', .cons a h1, h2.cons _⟩
  | swap x y l =>
    intro ts h
    cases h with
    | cons a t =>
      cases t with
      | cons b t => exact ⟨_ :: _ :: _, .cons b (.cons a t), List.Perm.swap _ _ _⟩
  | trans _ _ ih1 ih2 =>
    intro ts h
    obtain ⟨t2, h1, h2⟩ := ih2 h
    obtain ⟨t3, h3, h4⟩ := ih1 h1
    exact ⟨t3, h3, h4.trans h2⟩
/-- the tally as the dict holds it -/
def keyW (u : Wt) : List Key := u.map Sum.inl
def encT (ts : List (Wt × Int)) : List (List Key × V) := ts.map fun q => (keyW q.1, V.int q.2)
theorem keyW_inj : ∀ {u v : Wt}, keyW u = keyW v → u = v
  | [], [], _ => rfl
  | [], _ :: _, h => nomatch h
  | _ :: _, [], h => nomatch h
  | x :: u, y :: v, h => by
    have h' : (Sum.inl x : Key) :: keyW u = Sum.inl y :: keyW v := h
    obtain ⟨a, b⟩ := List.cons.inj h'
    rw [Sum.inl.inj a, keyW_inj b]
theorem keyW_kV (u : Wt) : (keyW u).map kV = u.map V.int := by
  unfold keyW
  rw [List.map_map]
  rfl
theorem valV_enc (u : Wt) : ∀ ts : List (Wt × Int), valV (encT ts) (keyW u) = (tget ts u).map V.int
  | [] => rfl
  | q :: r => by
    by_cases e : q.1 = u
    · rw [show tget (q :: r) u = some q.2 from if_pos e]
      exact valV_pos (p := (keyW q.1, V.int q.2)) (by show keyW q.1 = _; rw [e])
    · rw [show tget (q :: r) u = tget r u from if_neg e, ← valV_enc u r]
      exact valV_neg (p := (keyW q.1, V.int q.2)) fun z => e (keyW_inj z)
theorem any_enc (u : Wt) (ts : List (Wt × Int)) : ((encT ts).any fun kv => decide (kv.1 = keyW u)) = (tget ts u).isSome := by
  rw [valV_any, valV_enc]
  cases tget ts u <;> rfl
theorem map_enc (u : Wt) (n : Int) : ∀ {ts : List (Wt × Int)}, (ts.map (·.1)).Nodup → (tget ts u).isSome = true → ((encT ts).map fun kv => if kv.1 = keyW u then (kv.1, V.int n) else kv) = encT (tput ts u n)
  | [], _, h => nomatch h
  | q :: r, nd, h => by
    have nd' : q.1 ∉ r.map (·.1) ∧ (r.map (·.1)).Nodup := List.nodup_cons.mp nd
    show (if keyW q.1 = keyW u then (keyW q.1, V.int n) else (keyW q.1, V.int q.2)) :: ((encT r).map fun kv => if kv.1 = keyW u then (kv.1, V.int n) else kv) = _
    by_cases e : q.1 = u
    · rw [if_pos (by rw [e]), show tput (q :: r) u n = (u, n) :: r from if_pos e]
      show _ = (keyW u, V.int n) :: encT r
      rw [e]
      congr 1
      rw [List.map_congr_left (g := id)]
      · exact List.map_id _
      · intro kv hkv
        obtain ⟨q', hq', rfl⟩ := List.mem_map.mp hkv
        have : ¬ keyW q'.1 = keyW u := fun z => nd'.1 (by rw [e, ← keyW_inj z]; exact List.mem_map.mpr ⟨q', hq', rfl⟩)
        show (if keyW q'.1 = keyW u then _ else _) = _
        rw [if_neg this]
        rfl
    · have h' : (tget r u).isSome = true := by
        rw [show tget (q :: r) u = tget r u from if_neg e] at h
        exact h
      rw [if_neg fun z => e (keyW_inj z), show tput (q :: r) u n = q :: tput r u n from if_neg e, map_enc u n nd'.2 h']
      rfl
theorem tput_new (u : Wt) (n : Int) : ∀ {ts : List (Wt × Int)}, tget ts u = none → tput ts u n = ts ++ [(u, n)]
  | [], _ => rfl
  | q :: r, h => by
    by_cases e : q.1 = u
    · rw [show tget (q :: r) u = some q.2 from if_pos e] at h
      cases h
    · rw [show tget (q :: r) u = tget r u from if_neg e] at h
      rw [show tput (q :: r) u n = q :: tput r u n from if_neg e, tput_new u n h]
      rfl
theorem putK_enc {u : Wt} {n : Int} {ts : List (Wt × Int)} (nd : (ts.map (·.1)).Nodup) : putK (encT ts) (keyW u) (V.int n) = encT (tput ts u n) := by
  unfold putK
  rw [any_enc]
  cases e : tget ts u with
  | none =>
    rw [if_neg (by simp), tput_new u n e]
    unfold encT
    rw [List.map_append]
    rfl
  | some m =>
    rw [if_pos (show (some m).isSome = true by rfl)]
    exact map_enc u n nd (by rw [e]; rfl)
theorem tget_nodup : ∀ {ts : List (Wt × Int)} {q : Wt × Int}, (ts.map (·.1)).Nodup → q ∈ ts → tget ts q.1 = some q.2
  | p :: r, q, nd, h => by
    have nd' : p.1 ∉ r.map (·.1) ∧ (r.map (·.1)).Nodup := List.nodup_cons.mp nd
    rcases List.mem_cons.mp h with h | h
    · rw [h]
      exact if_pos rfl
    · have : ¬ p.1 = q.1 := fun z => nd'.1 (by rw [z]; exact List.mem_map.mpr ⟨q, h, rfl⟩)
      rw [show tget (p :: r) q.1 = tget r q.1 from if_neg this]
      exact tget_nodup nd'.2 h
theorem tups_upd {H : Hp} {p : Addr} {o : HO} (h : ∀ xs, H p ≠ some (.tup xs)) : Tups H (upd H p o) := fun b ys e => by
  have n : b ≠ p := fun z => h ys (by rw [← z]; exact e)
  rw [upd_ne n]
  exact e
abbrev sSorts : Stmt := topS 12
theorem scSorts : FnScope ["weighing", "manys", "many", "weights"] ["weighing"] (defScope sSorts) := ⟨rfl, rfl, rfl, by decide +kernel, rfl, by decide +kernel, by decide +kernel⟩
def spSorts : Sp := fun vs H Q _ => ∃ (a : Addr) (ps : List Pc), vs = [.ref a] ∧ WgAt H a ps ∧ Pos ps ∧ ps.length ≤ 50000 ∧
  ∀ H' p ys ts ts', Same H H' → H' p = some (.lst ys) → StsAt H' ys ts' → ts'.Perm ts → Tally ps ts → Q (.ref p) H'
theorem ok_sorts {f : Addr} {fd : FuncData} {k : Nat} (F : Fun K "sorts" "sorts" sSorts f fd) (mS : mg "sorted" = none) : FnOk P w K mg base CX0 (k + 1) f fd ["weighing"] spSorts := by
  refine F.ok scSorts (fun vs H Q E h => ?_) (fun cdv A outer s H vs Q E hr h => ?_)
  · obtain ⟨a, ps, rfl, _⟩ := h
    rfl
  · obtain ⟨a, ps, rfl, ⟨vs, hA, hP⟩, pp, hl, q⟩ := h
    have hu := hu_of hr
    refine ⟨_, pss_cons (ps_set (i := 1) scSorts.nd rfl (.inr rfl) pe_dnewT)
      (pss_cons (ps_for PassesOwn.never rfl (pi_list (pv 0)) (pg_tup rfl (pgs_cons (pg_name (i := 2) scSorts.nd rfl (.inl rfl)) (pgs_cons (pg_name (i := 3) scSorts.nd rfl (.inl rfl)) pgs_nil)))
        (pss_one (ps_dput hu (pv 1) (pv 3) (pe_op op_add (pe_dget2 hu (pv 1) (pv 3) pe_int ⟨rfl, rfl, rfl, rfl⟩) (pv 2)) rfl)))
      (pss_one (ps_ret (pe_callB (cr_sortN hr.units) (by rfl) mS boot_sorted (pa_cons (pe_lock
        (pe_lc (own := [("weights", 3)]) (g := gName 3) (tt := tYes) rfl scSorts.nd (pi_keys (pv 1)) (blkOk_by (N := ["weighing", "manys", "many", "weights"]) (sc := defScope sSorts) (by decide +kernel))
          (fun _ _ _ _ _ => pg_name (i := 3) scSorts.nd rfl (Or.inl rfl)) (fun _ _ _ _ _ => pts_nil) (fun _ _ _ _ _ => pe_tup (pa_cons (pv 3) (pa_cons (pe_dget hu (pv 1) (pv 3) (fun _ _ => rfl)) pa_nil))))) pa_nil))))), ?_⟩
    intro M hM
    have hAM : a ≠ M := ne_of_none hA hM
    refine ⟨.ref a, rfl, a, rfl, ⟨_, SqL.of (Eq.trans (upd_ne hAM) hA)⟩, for_list (K := K) (a := a) (xs := vs)
      (fun i σ H' => ∃ x2 x3, σ = [some (.ref a), some (.ref M), x2, x3] ∧ Same H H' ∧ ∃ ts, H' M = some (.dT (encT ts)) ∧ Tally (ps.take i) ts)
      ⟨none, none, rfl, same_new hM, [], upd_same, Tally.nil⟩ (fun i σ H' _ hp => ?_) (fun i v σ H' hv hp => ?_) (fun σ H' hp => ?_)⟩
    · obtain ⟨_, _, _, sm, _⟩ := hp
      exact SqL.of (sm _ _ hA)
    · obtain ⟨x2, x3, rfl, sm, ts, hd, ty⟩ := hp
      obtain ⟨p, hpi, hpc⟩ := hP.get hv
      obtain ⟨n, u⟩ := p
      obtain ⟨t, r, rfl, ht, hru⟩ := hpc.mono (same_tups sm)
      have hn : 1 ≤ n := pp (n, u) (List.mem_of_getElem? hpi)
      have hkey : H' r = some (.tup ((keyW u).map kV)) := by
        rw [keyW_kV]
        exact hru
      have hi : i < ps.length := (List.getElem?_eq_some_iff.mp hpi).1
      have hlen := ty.len
      rw [List.length_take] at hlen
      refine ⟨t, _, rfl, SqT.of ht, rfl, .int n, [.ref r], rfl, .ref r, [], rfl, rfl, ?_⟩
      refine ⟨.ref M, rfl, M, rfl, .inr ⟨_, .inl hd⟩, .ref r, rfl, valV (encT ts) (keyW u), DGet.t hd hkey, .int n, rfl, (tget ts u).getD 0, n, ?_, rfl, ?_⟩
      · rw [valV_enc]
        cases tget ts u <;> rfl
      refine ⟨.ref M, rfl, .ref r, rfl, M, _, rfl, DPut.t hd hkey (line_big (by unfold encT; rw [List.length_map]; omega)), ?_⟩
      refine ⟨_, _, rfl, same_set sm hM, tput ts u ((tget ts u).getD 0 + n), ?_, ?_⟩
      · rw [upd_same]
        congr 2
        exact putK_enc ty.nodup
      · rw [take_next' hpi]
        exact ty.more (fun p hp => pp.nonneg p (List.mem_of_mem_take hp)) (by omega)
    · obtain ⟨x2, x3, rfl, sm, ts, hd, ty⟩ := hp
      rw [hP.length, List.take_length] at ty
      have hlen := ty.len
      refine ⟨M, _, hd, trivial, fun od => ?_⟩
      have nf : ∀ xs, H' M ≠ some (.tup xs) := fun xs z => by
        rw [hd] at z
        cases z
      have tL : Tups H' (upd H' M (.frz od (.dT (encT ts)))) := tups_upd nf
      refine ⟨.ref M, rfl, M, od, rfl, .inr ⟨encT ts, upd_same, fun D hD => ?_⟩⟩
      have nDM : M ≠ D := fun z => by
        rw [← z, upd_same] at hD
        cases hD
      refine lc_it walk_keysT (fun i H2 => Tups H' H2 ∧ (∀ b o, b ≠ M → H' b = some o → H2 b = some o) ∧ H2 M = some (.frz od (.dT (encT ts))) ∧ ∃ ys, H2 D = some (.lst ys) ∧ StsAt H2 ys (ts.take i))
        ⟨tL.trans (tups_new hD), fun b o nb e => ?_, Eq.trans (upd_ne nDM) upd_same, [], upd_same, .nil⟩ (fun i H2 _ hp => hp.2.2.1) (fun i x H2 H3 hi hp hy => ?_) (fun H2 hp => ?_)
      · have e1 : upd H' M (.frz od (.dT (encT ts))) b = some o := Eq.trans (upd_ne nb) e
        exact same_new hD b o e1
      · obtain ⟨t2, o2, m2, ys, hys, sy⟩ := hp
        obtain ⟨rfl, kk, vv, z, hkv, rfl, hz⟩ := hy
        have hi' : i < ts.length := by
          unfold encT at hi
          rw [List.length_map] at hi
          exact hi
        have hti : ts[i]? = some ts[i] := List.getElem?_eq_getElem hi'
        generalize hqq : ts[i] = qq at hti
        have hkv2 : (encT ts)[i]? = some (keyW qq.1, V.int qq.2) := by
          unfold encT
          rw [List.getElem?_map, hti]
          rfl
        rw [hkv2] at hkv
        cases hkv
        have hw : WtAt H3 z qq.1 := by
          rw [keyW_kV] at hz
          exact hz
        refine ⟨rfl, .ref z, rfl, .ref M, rfl, .ref z, rfl, M, .int qq.2, rfl, .inr ⟨encT ts, keyW qq.1, z, .inr ⟨od, m2⟩, rfl, hz, ?_⟩, len2, fun p2 hp2 => ?_⟩
        · rw [valV_enc, tget_nodup ty.nodup (List.mem_of_getElem? hti)]
          rfl
        have nD2 : D ≠ p2 := ne_of_none hys hp2
        have hys2 : (upd H3 p2 (.tup [.ref z, .int qq.2])) D = some (.lst ys) := Eq.trans (upd_ne nD2) hys
        have t3 : Tups H3 (upd H3 p2 (.tup [.ref z, .int qq.2])) := tups_new hp2
        have t4 : Tups (upd H3 p2 (.tup [.ref z, .int qq.2])) (upd (upd H3 p2 (.tup [.ref z, .int qq.2])) D (.lst (ys ++ [.ref p2]))) := tups_lst hys2
        refine ⟨ys, hys2, ?_, t2.trans (t3.trans t4), fun b o nb e => ?_, ?_, _, upd_same, ?_⟩
        · have := sy.length
          rw [List.length_take] at this
          exact line_big (by omega)
        · have hb := o2 b o nb e
          have nbp : b ≠ p2 := ne_of_none hb hp2
          have nbD : b ≠ D := fun z => by
            have : upd H' M (.frz od (.dT (encT ts))) b = some o := Eq.trans (upd_ne nb) e
            rw [z, hD] at this
            cases this
          rw [upd_ne nbD, upd_ne nbp]
          exact hb
        · have nMp : M ≠ p2 := ne_of_none m2 hp2
          rw [upd_ne nDM, upd_ne nMp]
          exact m2
        · rw [take_next' hti]
          refine (sy.mono (t3.trans t4)).snoc ⟨p2, z, rfl, ?_, hw.mono (t3.trans t4)⟩
          rw [upd_ne (Ne.symm nD2), upd_same]
      · obtain ⟨t2, o2, m2, ys, hys, sy⟩ := hp
        have el : (encT ts).length = ts.length := List.length_map _
        rw [el, List.take_length] at sy
        have nf2 : ∀ xs, H2 M ≠ some (.tup xs) := fun xs z => by
          rw [m2] at z
          cases z
        have t5 : Tups H2 (upd H2 M (.dT (encT ts))) := tups_upd nf2
        have sy2 := sy.mono t5
        refine ⟨m2, ?_⟩
        have hys2 : upd H2 M (.dT (encT ts)) D = some (.lst ys) := Eq.trans (upd_ne (Ne.symm nDM)) hys
        have sM : Same H (upd H2 M (.dT (encT ts))) := fun b o e => by
          have nb : b ≠ M := ne_of_none e hM
          rw [upd_ne nb]
          exact o2 b o nb (sm b o e)
        obtain ⟨kf, hkf⟩ : ∃ kf : V → Wt × Int, ∀ x, (∃ q, StAt (upd H2 M (.dT (encT ts))) x q) → StAt (upd H2 M (.dT (encT ts))) x (kf x) :=
          ⟨fun x => Classical.epsilon fun q => StAt (upd H2 M (.dT (encT ts))) x q, fun x h => Classical.epsilon_spec h⟩
        refine ⟨D, ys, kf, rfl, SqL.of hys2, fun x hx => ?_, fun zs p pm hp => ?_⟩
        · obtain ⟨i, hi⟩ := List.mem_iff_getElem?.mp hx
          obtain ⟨q', _, hq'⟩ := sy2.get hi
          exact hkf x ⟨q', hq'⟩
        · obtain ⟨ts', h1, h2⟩ := sy2.perm pm
          exact q _ p zs ts ts' (sM.trans (same_new hp)) upd_same (h1.mono (tups_new hp)) h2 ty
end
end K8
set_option Elab.async false
set_option linter.all false
set_option maxRecDepth 100000
set_option maxHeartbeats 4000000
/-! the law's drawing: cells, purses, draws -/
namespace K8
open PySem PySem.Spec PyProof.Rows L2
theorem pos1 : (0 : Int) < 2147483647 := by decide
theorem pos2 : (0 : Int) < 2147483629 := by decide
/-- the purse at d -/
def Dr (H : Hp) (d : Addr) : Prop := ∃ x y : Int, H d = some (.lst [.int x, .int y]) ∧ 0 ≤ y ∧ y < 2147483648
/-- all stays but the purse, which stays one -/
def Go (d : Addr) (H H' : Hp) : Prop := (∀ b o, b ≠ d → H b = some o → H' b = some o) ∧ Dr H' d
theorem Go.refl {d : Addr} {H : Hp} (h : Dr H d) : Go d H H := ⟨fun _ _ _ e => e, h⟩
theorem Go.trans {d : Addr} {H H1 H2 : Hp} (a : Go d H H1) (b : Go d H1 H2) : Go d H H2 := ⟨fun c o n e => b.1 c o n (a.1 c o n e), b.2⟩
theorem Go.same {d : Addr} {H H1 H2 : Hp} (a : Go d H H1) (b : Same H1 H2) : Go d H H2 :=
  ⟨fun c o n e => b c o (a.1 c o n e), let ⟨x, y, h, r⟩ := a.2; ⟨x, y, b _ _ h, r⟩⟩
theorem Go.of_same {d : Addr} {H H1 : Hp} (h : Dr H d) (b : Same H H1) : Go d H H1 := (Go.refl h).same b
theorem Go.tups {d : Addr} {H H' : Hp} (h : Dr H d) (g : Go d H H') : Tups H H' := fun b xs e => by
  obtain ⟨x, y, hd, _⟩ := h
  exact g.1 b _ (ne_of e hd (by intro z; cases z)) e
theorem Go.put {d D : Addr} {H H' : Hp} {o : HO} (g : Go d H H') (n : H D = none) (nd : D ≠ d) : Go d H (upd H' D o) := by
  refine ⟨fun b x nb e => ?_, ?_⟩
  · rw [upd_ne (ne_of_none e n)]
    exact g.1 b x nb e
  · obtain ⟨x, y, hd, r⟩ := g.2
    exact ⟨x, y, by rw [upd_ne (Ne.symm nd)]; exact hd, r⟩
theorem Dr.ne {d D : Addr} {H : Hp} (h : Dr H d) (n : H D = none) : D ≠ d := by
  obtain ⟨x, y, hd, _⟩ := h
  exact (ne_of_none hd n).symm
theorem Go.lst {d D : Addr} {H H' : Hp} {xs : List V} (g : Go d H H') (nd : D ≠ d) (h : H D = some (.lst xs)) : H' D = some (.lst xs) := g.1 D _ nd h
theorem Bt.of_le {a b : Nat} {x : Int} (h : Bt a x) (l : a ≤ b) : Bt b x := Nat.lt_of_lt_of_le h (Nat.pow_le_pow_right (by decide) l)
theorem Bts.of_le {a b : Nat} {w : Wt} (h : Bts a w) (l : a ≤ b) : Bts b w := fun x hx => (h x hx).of_le l
theorem Bt.of_lt {k : Nat} {x y : Int} (h0 : 0 ≤ x) (h : x ≤ y) (hy : Bt k y) : Bt k x := by
  unfold Bt at *
  refine Nat.lt_of_le_of_lt ?_ hy
  omega
theorem bits_le {m : Int} (h : Bt 1000 m) : Builtin.Int.intBits m ≤ 1000 := by
  have := PySem.Flt.log2_lt_of (by decide) h
  unfold Builtin.Int.intBits
  split <;> omega
section
variable {P : Program} {w : World} {K : PySem.W.Frag} {mg : Str → Option Value} {base : Heap}

/-! ### a cell -/
abbrev sCell : Stmt := topS 14
theorem scCell : FnScope ["_law_script", "_law_k"] ["_law_script", "_law_k"] (defScope sCell) := ⟨rfl, rfl, rfl, by decide +kernel, rfl, by decide +kernel, by decide +kernel⟩
def spCell (K : PySem.W.Frag) : Sp := fun vs H Q _ => ∃ (a : Addr) (k : Nat) (ns : List Int), vs = [.ref a, .int ((k : Nat) : Int)] ∧ SqL K H a (ns.map V.int) ∧ ∀ i, Q (.int i) H
theorem ok_cell {f : Addr} {fd : FuncData} {l : Nat} (F : Fun K "_law_cell_at" "_law_cell_at" sCell f fd) (ml : mg "len" = none) : FnOk P w K mg base CX0 (l + 1) f fd ["_law_script", "_law_k"] (spCell K) := by
  refine F.ok scCell (fun vs H Q E h => ?_) (fun cdv A outer s H vs Q E hr h => ?_)
  · obtain ⟨a, k, ns, rfl, _⟩ := h
    rfl
  · obtain ⟨a, k, ns, rfl, hA, q⟩ := h
    refine ⟨_, pss_cons (ps_if (pt_cmpR op_lt (pv 1) (pe_callB call_len_seq (by rfl) ml boot_len (pa_cons (pv 0) pa_nil)) (nomark _)) (pss_one (ps_ret (pe_ix ix_list (pv 0) (pv 1) (fun _ _ => rfl)))) pss_nil) (pss_one (ps_ret pe_int)), ?_⟩
    refine ⟨_, rfl, .ref a, rfl, a, _, rfl, .inl hA, _, _, rfl, rfl, _, rfl, ite2 (fun c => ?_) (fun c => q 0)⟩
    have c' := of_decide_eq_true c
    rw [List.length_map] at c'
    have hk : k < ns.length := by omega
    refine ⟨.ref a, rfl, _, rfl, a, _, _, .int ns[k], rfl, rfl, hA, atI_nat (j := k) ?_, q _⟩
    rw [List.getElem?_map, List.getElem?_eq_getElem hk]
    rfl

/-! ### a purse -/
abbrev sPurse : Stmt := topS 15
theorem scPurse : FnScope ["_law_script", "_law_at", "_law_cell", "_law_seed", "_law_k"] ["_law_script", "_law_at"] (defScope sPurse) := ⟨rfl, rfl, rfl, by decide +kernel, rfl, by decide +kernel, by decide +kernel⟩
def spPurse (K : PySem.W.Frag) : Sp := fun vs H Q _ => ∃ (a : Addr) (k : Nat) (ns : List Int), vs = [.ref a, .int ((k : Nat) : Int)] ∧ SqL K H a (ns.map V.int) ∧ k ≤ 10 ∧ ∀ H' p, Same H H' → Dr H' p → H p = none → Q (.ref p) H'
theorem ok_purse {f : Addr} {fd : FuncData} (F : Fun K "_law_purse" "_law_purse" sPurse f fd) (mr : mg "range" = none) (Dc : Dfn P w K mg base 1 "_law_cell_at" ["_law_script", "_law_k"] (spCell K)) : FnOk P w K mg base CX0 2 f fd ["_law_script", "_law_at"] (spPurse K) := by
  obtain ⟨f1, fd1, G1, g1, k1, b1⟩ := Dc.ex
  refine F.ok scPurse (fun vs H Q E h => ?_) (fun cdv A outer s H vs Q E hr h => ?_)
  · obtain ⟨a, k, ns, rfl, _⟩ := h
    rfl
  · obtain ⟨a, k, ns, rfl, hA, hk, q⟩ := h
    refine ⟨_, pss_cons (ps_set (i := 2) scPurse.nd rfl (.inl rfl) (pe_call G1 hr (by rfl) g1 k1 b1 .nil pass0 (pa_cons (pv 0) (pa_cons (pv 1) pa_nil))))
      (pss_cons (ps_if (pt_cmpR op_ge (pv 2) (pe_op op_pow pe_int pe_int) (nomark _)) (pss_one (ps_ret (pe_lst (pa_cons (pv 2) (pa_cons pe_int pa_nil))))) pss_nil)
      (pss_cons (ps_set (i := 3) scPurse.nd rfl (.inl rfl) (pe_op op_add (pe_op op_mul pe_int (pv 1)) pe_int))
      (pss_cons (ps_for PassesOwn.never rfl (pi_range1 (by rfl) mr (pa_cons pe_int pa_nil)) (pg_name (i := 4) scPurse.nd rfl (.inl rfl))
        (pss_cons (ps_set (i := 3) scPurse.nd rfl (.inl rfl) (pe_op op_add (pe_op op_add (pe_op op_mul (pv 3) pe_int) (pe_op op_mod (pe_call G1 hr (by rfl) g1 k1 b1 .nil pass0 (pa_cons (pv 0) (pa_cons (pe_op op_add (pv 1) (pv 4)) pa_nil))) pe_int)) (pe_op op_mul pe_int (pv 4))))
          (pss_one (ps_set (i := 3) scPurse.nd rfl (.inl rfl) (pe_op op_mod (pv 3) pe_int)))))
      (pss_one (ps_ret (pe_lst (pa_cons pe_int (pa_cons (pe_op op_add (pv 3) pe_int) pa_nil)))))))), ?_⟩
    refine ⟨.ref a, rfl, _, rfl, a, k, ns, rfl, hA, fun cell => ?_⟩
    refine ⟨_, rfl, _, _, rfl, rfl, ⟨by decide, by decide, by decide⟩, _, _, rfl, rfl, _, rfl, ite2 (fun _ => ?_) (fun _ => ?_)⟩
    · exact ⟨_, rfl, len2, fun p hp => q _ p (same_new hp) ⟨cell, 0, upd_same, by decide, by decide⟩ hp⟩
    · refine ⟨_, rfl, _, _, rfl, rfl, .inl ⟨by decide, by decide⟩, _, _, rfl, rfl, 9, rfl, by decide, by decide, for_range (lo := 0) (n := 9)
        (fun i σ H' => ∃ x2 x4 sd, σ = [some (.ref a), some (.int ((k : Nat) : Int)), x2, some (.int sd), x4] ∧ H' = H ∧ 0 ≤ sd ∧ sd < 2147483629)
        ⟨_, none, _, rfl, rfl, by show 0 ≤ 17 * ((k : Nat) : Int) + 5; omega, by show 17 * ((k : Nat) : Int) + 5 < _; omega⟩ (fun i σ H' hi hp => ?_) (fun σ H' hp => ?_)⟩
      · obtain ⟨x2, x4, sd, rfl, rfl, h0, h1⟩ := hp
        refine ⟨_, rfl, _, _, rfl, rfl, .inr ⟨by decide, by decide⟩, .ref a, rfl, _, rfl, _, rfl, _, _, rfl, rfl, a, k + i, ns, ?_, hA, fun c => ?_⟩
        · show [V.ref a, V.int (((k : Nat) : Int) + (0 + ((i : Nat) : Int)))] = _
          rw [show ((k : Nat) : Int) + (0 + ((i : Nat) : Int)) = (((k + i : Nat)) : Int) by omega]
        refine ⟨_, _, rfl, rfl, pos1, _, _, rfl, rfl, _, rfl, _, _, rfl, rfl, .inl ⟨by decide, by decide⟩, _, _, rfl, rfl, _, rfl, _, _, rfl, rfl, pos2, _, _, _, rfl, rfl, ?_, ?_⟩
        · exact Int.emod_nonneg _ (by decide)
        · exact Int.emod_lt_of_pos _ (by decide)
      · obtain ⟨x2, x4, sd, rfl, rfl, h0, h1⟩ := hp
        exact ⟨_, rfl, _, _, rfl, rfl, len2, fun p hp => q _ p (same_new hp) ⟨0, sd + 1, upd_same, by omega, by omega⟩ hp⟩

/-! ### a draw -/
abbrev sTake : Stmt := topS 16
theorem scTake : FnScope ["_law_draw", "_law_many_here", "_law_digit", "_law_found", "_law_k"] ["_law_draw", "_law_many_here"] (defScope sTake) := ⟨rfl, rfl, rfl, by decide +kernel, rfl, by decide +kernel, by decide +kernel⟩
def spTake : Sp := fun vs H Q _ => ∃ (d : Addr) (m : Int), vs = [.ref d, .int m] ∧ Dr H d ∧ 0 < m ∧ Bt 1000 m ∧ ∀ r H', 0 ≤ r → r < m → Go d H H' → Q (.int r) H'
theorem go_lst {d : Addr} {H H' : Hp} {o : HO} (h : ∀ b o, b ≠ d → H b = some o → H' b = some o) : ∀ b x, b ≠ d → H b = some x → (upd H' d o) b = some x := fun b x nb e => by
  rw [upd_ne nb]
  exact h b x nb e
theorem ok_take {f : Addr} {fd : FuncData} {l : Nat} (F : Fun K "_law_take" "_law_take" sTake f fd) (mr : mg "range" = none) : FnOk P w K mg base CX0 (l + 1) f fd ["_law_draw", "_law_many_here"] spTake := by
  refine F.ok scTake (fun vs H Q E h => ?_) (fun cdv A outer s H vs Q E hr h => ?_)
  · obtain ⟨d, m, rfl, _⟩ := h
    rfl
  · obtain ⟨d, m, rfl, ⟨x, y, hd, y0, y1⟩, hm, bm, q⟩ := h
    refine ⟨_, pss_cons (ps_if (pt_cmpR op_eq (pe_ix ix_list (pv 0) pe_int (fun _ _ => rfl)) pe_int (nomark _))
        (pss_cons (ps_set (i := 2) scTake.nd rfl (.inl rfl) (pe_op op_mod (pe_ix ix_list (pv 0) pe_int (fun _ _ => rfl)) (pv 1)))
        (pss_cons (ps_asg (pe_op op_fdivW (pe_ix ix_list (pv 0) pe_int (fun _ _ => rfl)) (pv 1)) (pg_sub (pv 0) pe_int set_list))
        (pss_one (ps_ret (pv 2))))) pss_nil)
      (pss_cons (ps_set (i := 3) scTake.nd rfl (.inl rfl) pe_int)
      (pss_cons (ps_for PassesOwn.never rfl (pi_range1 (by rfl) mr (pa_cons (pe_op op_add pe_int (pe_op op_fdiv (pe_bits (pv 1)) pe_int)) pa_nil)) (pg_name (i := 4) scTake.nd rfl (.inl rfl))
        (pss_cons (ps_asg (pe_op op_mod (pe_op op_mul (pe_ix ix_list (pv 0) pe_int (fun _ _ => rfl)) pe_int) pe_int) (pg_sub (pv 0) pe_int set_list))
          (pss_one (ps_set (i := 3) scTake.nd rfl (.inl rfl) (pe_op op_add (pe_op op_mul (pv 3) pe_int) (pe_op op_mod (pe_op op_mul (pe_ix ix_list (pv 0) pe_int (fun _ _ => rfl)) (pe_ix ix_list (pv 0) pe_int (fun _ _ => rfl))) pe_int))))))
      (pss_one (ps_ret (pe_op op_mod (pe_op op_fdiv (pv 3) pe_int) (pv 1)))))), ?_⟩
    refine ⟨.ref d, rfl, d, _, 1, _, rfl, rfl, SqL.of hd, atI1, rfl, _, rfl, ite2 (fun _ => ?_) (fun _ => ?_)⟩
    · refine ⟨.ref d, rfl, d, _, 0, _, rfl, rfl, SqL.of hd, atI0, _, rfl, x, m, rfl, rfl, hm, .ref d, rfl, d, _, 0, _, rfl, rfl, SqL.of hd, atI0, _, rfl, x, m, rfl, rfl, wide_div hm bm (by decide) (by decide), .ref d, rfl, d, _, 0, 0, rfl, rfl, hd, rfl, _, rfl, ?_⟩
      exact q _ _ (Int.emod_nonneg _ (by omega)) (Int.emod_lt_of_pos _ hm) ⟨go_lst fun _ _ _ e => e, x / m, y, upd_same, y0, y1⟩
    · have hb := bits_le bm
      refine ⟨_, rfl, m, rfl, _, _, rfl, rfl, ⟨by decide, by decide⟩, _, _, rfl, rfl, _, rfl, ?_, ?_, for_range (lo := 0) (n := ((1 : Int) + ((Builtin.Int.intBits m : Nat) : Int) / 28).toNat)
        (fun i σ H' => ∃ x4 f, σ = [some (.ref d), some (.int m), none, some (.int f), x4] ∧ Go d H H')
        ⟨none, 0, rfl, fun _ _ _ e => e, x, y, hd, y0, y1⟩ (fun i σ H' hi hp => ?_) (fun σ H' hp => ?_)⟩
      · omega
      · omega
      · obtain ⟨x4, f', rfl, g, x', y', hd', z0, z1⟩ := hp
        have hs : (upd H' d (.lst [.int x', .int (y' * 48271 % 2147483647)])) d = some (.lst [.int x', .int (y' * 48271 % 2147483647)]) := upd_same
        have p0 : 0 ≤ y' * 48271 % 2147483647 := Int.emod_nonneg _ (by decide)
        have p1 : y' * 48271 % 2147483647 < 2147483647 := Int.emod_lt_of_pos _ (by decide)
        refine ⟨.ref d, rfl, d, _, 1, _, rfl, rfl, SqL.of hd', atI1, y', 48271, rfl, rfl, .inr ⟨by decide, by decide⟩, _, _, rfl, rfl, pos1, .ref d, rfl, d, _, 1, 1, rfl, rfl, hd', rfl, ?_⟩
        refine ⟨_, rfl, f', 2147483647, rfl, rfl, .inr ⟨by decide, by decide⟩, .ref d, rfl, d, _, 1, _, rfl, rfl, SqL.of hs, atI1, .ref d, rfl, d, _, 1, _, rfl, rfl, SqL.of hs, atI1, _, _, rfl, rfl, .inl ⟨by omega, by omega⟩, _, _, rfl, rfl, pos2, _, _, rfl, rfl, _, _, rfl, ?_⟩
        exact ⟨go_lst g, x', _, upd_same, p0, by omega⟩
      · obtain ⟨x4, f', rfl, g⟩ := hp
        refine ⟨_, rfl, f', 7, rfl, rfl, ⟨by decide, by decide⟩, _, rfl, _, m, rfl, rfl, hm, ?_⟩
        exact q _ _ (Int.emod_nonneg _ (by omega)) (Int.emod_lt_of_pos _ hm) g
end
end K8
set_option Elab.async false
set_option linter.all false
set_option maxRecDepth 100000
set_option maxHeartbeats 4000000
/-! numbers, weights, manys, the shape, the width -/
namespace K8
open PySem PySem.Spec PyProof.Rows L2
section
variable {P : Program} {w : World} {K : PySem.W.Frag} {mg : Str → Option Value} {base : Heap}

/-! ### a number -/
abbrev sNumber : Stmt := topS 17
theorem scNumber : FnScope ["_law_draw", "_law_way", "_law_figure"] ["_law_draw"] (defScope sNumber) := ⟨rfl, rfl, rfl, by decide +kernel, rfl, by decide +kernel, by decide +kernel⟩
def spNumber : Sp := fun vs H Q _ => ∃ d, vs = [.ref d] ∧ Dr H d ∧ ∀ i H', Bt 206 i → Go d H H' → Q (.int i) H'
abbrev DTake (P : Program) (w : World) (K : PySem.W.Frag) (mg : Str → Option Value) (base : Heap) : Prop := Dfn P w K mg base 1 "_law_take" ["_law_draw", "_law_many_here"] spTake
theorem bt_small {m : Int} (h0 : 0 < m) (h : m ≤ 1000) : Bt 1000 m := by
  refine Bt.of_le (a := 10) ?_ (by decide)
  show m.natAbs < 1024
  omega
theorem ok_number {f : Addr} {fd : FuncData} (F : Fun K "_law_number" "_law_number" sNumber f fd) (Dt : DTake P w K mg base) : FnOk P w K mg base CX0 2 f fd ["_law_draw"] spNumber := by
  obtain ⟨f1, fd1, G1, g1, k1, b1⟩ := Dt.ex
  refine F.ok scNumber (fun vs H Q E h => ?_) (fun cdv A outer s H vs Q E hr h => ?_)
  · obtain ⟨d, rfl, _⟩ := h
    rfl
  · obtain ⟨d, rfl, hd, q⟩ := h
    refine ⟨_, pss_cons (ps_set (i := 1) scNumber.nd rfl (.inl rfl) (pe_call G1 hr (by rfl) g1 k1 b1 .nil pass0 (pa_cons (pv 0) (pa_cons pe_int pa_nil))))
      (pss_cons (ps_if (pt_cmpR op_lt (pv 1) pe_int (nomark _)) (pss_one (ps_ret (pe_op op_sub (pe_call G1 hr (by rfl) g1 k1 b1 .nil pass0 (pa_cons (pv 0) (pa_cons pe_int pa_nil))) pe_int))) pss_nil)
      (pss_cons (ps_set (i := 2) scNumber.nd rfl (.inl rfl) (pe_call G1 hr (by rfl) g1 k1 b1 .nil pass0 (pa_cons (pv 0) (pa_cons
        (pe_ix ix_list (pe_lst (pa_cons (pe_op op_pow pe_int pe_int) (pa_cons (pe_op op_pow pe_int pe_int) (pa_cons (pe_op op_pow pe_int pe_int) pa_nil)))) (pe_op op_sub (pv 1) pe_int) (fun _ _ => rfl)) pa_nil))))
      (pss_one (ps_ret (pe_op op_mul (pv 2) (pe_op op_sub pe_int (pe_op op_mul pe_int (pe_call G1 hr (by rfl) g1 k1 b1 .nil pass0 (pa_cons (pv 0) (pa_cons pe_int pa_nil)))))))))), ?_⟩
    refine ⟨.ref d, rfl, d, 8, rfl, hd, by decide, bt_small (by decide) (by decide), fun way H1 w0 w1 g1 => ?_⟩
    refine ⟨_, rfl, way, 5, rfl, rfl, _, rfl, ite2 (fun c => ?_) (fun c => ?_)⟩
    · refine ⟨.ref d, rfl, d, 9, rfl, g1.2, by decide, bt_small (by decide) (by decide), fun r H2 r0 r1 g2 => ?_⟩
      refine ⟨r, 3, rfl, rfl, q _ _ ?_ (g1.trans g2)⟩
      refine Bt.of_le (a := 10) ?_ (by decide)
      show (r - 3).natAbs < 1024
      omega
    · have c' : ¬ way < 5 := fun z => c (decide_eq_true z)
      obtain ⟨m, hm, m0, m1⟩ : ∃ m : Int, atI [V.int (10 ^ (3 : Int).toNat), V.int (10 ^ (20 : Int).toNat), V.int (10 ^ (62 : Int).toNat)] (way - 5) = some (.int m) ∧ 0 < m ∧ Bt 206 m := by
        rcases (by omega : way = 5 ∨ way = 6 ∨ way = 7) with rfl | rfl | rfl
        · exact ⟨_, rfl, by decide +kernel, by unfold Bt; decide +kernel⟩
        · exact ⟨_, rfl, by decide +kernel, by unfold Bt; decide +kernel⟩
        · exact ⟨_, rfl, by decide +kernel, by unfold Bt; decide +kernel⟩
      refine ⟨.ref d, rfl, _, _, rfl, rfl, ⟨by decide, by decide, by decide⟩, _, _, rfl, rfl, ⟨by decide, by decide, by decide⟩, _, _, rfl, rfl, ⟨by decide, by decide, by decide⟩, len3, fun p hp => ?_⟩
      have gp := g1.same (same_new (o := .lst [.int (10 ^ (3 : Int).toNat), .int (10 ^ (20 : Int).toNat), .int (10 ^ (62 : Int).toNat)]) hp)
      refine ⟨_, rfl, way, 5, rfl, rfl, p, _, _, _, rfl, rfl, SqL.of upd_same, hm, d, m, rfl, gp.2, m0, m1.of_le (by decide), fun fig H2 f0 f1 g2 => ?_⟩
      refine ⟨_, rfl, .ref d, rfl, d, 2, rfl, g2.2, by decide, bt_small (by decide) (by decide), fun r H3 r0 r1 g3 => ?_⟩
      refine ⟨_, r, rfl, rfl, .inl ⟨by decide, by decide⟩, _, _, rfl, rfl, fig, _, rfl, rfl, .inr ⟨by omega, by omega⟩, q _ _ ?_ (gp.trans (g2.trans g3))⟩
      have bf : Bt 206 fig := Bt.of_lt f0 (by omega) m1
      rcases (by omega : r = 0 ∨ r = 1) with rfl | rfl
      · show (fig * (1 - 2 * 0)).natAbs < _
        rw [show fig * (1 - 2 * 0) = fig by omega]
        exact bf
      · show (fig * (1 - 2 * 1)).natAbs < _
        rw [show fig * (1 - 2 * 1) = -fig by omega, Int.natAbs_neg]
        exact bf

/-! ### weights -/
abbrev sWts : Stmt := topS 18
theorem scWts : FnScope ["_law_draw", "_law_wide_here", "_law_k"] ["_law_draw", "_law_wide_here"] (defScope sWts) := ⟨rfl, rfl, rfl, by decide +kernel, rfl, by decide +kernel, by decide +kernel⟩
def spWts : Sp := fun vs H Q _ => ∃ d n, vs = [.ref d, .int ((n : Nat) : Int)] ∧ Dr H d ∧ 1 ≤ n ∧ n ≤ 24 ∧ ∀ p u H', Go d H H' → WtAt H' p u → u.length = n → Bts 206 u → Q (.ref p) H'
theorem ok_wts {f : Addr} {fd : FuncData} (F : Fun K "_law_weights" "_law_weights" sWts f fd) (mt : mg "tuple" = none) (mr : mg "range" = none) (Dn : Dfn P w K mg base 2 "_law_number" ["_law_draw"] spNumber) : FnOk P w K mg base CX0 3 f fd ["_law_draw", "_law_wide_here"] spWts := by
  obtain ⟨f1, fd1, G1, g1, k1, b1⟩ := Dn.ex
  refine F.ok scWts (fun vs H Q E h => ?_) (fun cdv A outer s H vs Q E hr h => ?_)
  · obtain ⟨d, n, rfl, _⟩ := h
    rfl
  · obtain ⟨d, n, rfl, hd, n1, n24, q⟩ := h
    refine ⟨_, pss_one (ps_ret (pe_callTy call_tuple_of (by rfl) mt boot_tuple (pa_cons
      (pe_lc (own := [("_law_k", 2)]) (g := gName 2) (tt := tYes) rfl scWts.nd (pi_range1 (by rfl) mr (pa_cons (pv 1) pa_nil)) (blkOk_by (N := ["_law_draw", "_law_wide_here", "_law_k"]) (sc := defScope sWts) (by decide +kernel))
        (fun _ _ _ _ _ => pg_name (i := 2) scWts.nd rfl (Or.inl rfl)) (fun _ _ _ _ _ => pts_nil) (fun _ _ _ _ _ => pe_call G1 hr (by rfl) g1 k1 b1 .nil pass0 (pa_cons (pv 0) pa_nil))) pa_nil))), ?_⟩
    refine ⟨_, rfl, _, rfl, by omega, by omega, fun D hD => ?_⟩
    have nd := hd.ne hD
    rw [show (((n : Nat) : Int)).toNat = n by omega]
    refine lc_range (lo := 0) (n := n) (fun i H' => Go d H H' ∧ ∃ u, H' D = some (.lst (u.map V.int)) ∧ u.length = i ∧ Bts 206 u)
      ⟨Go.of_same hd (same_new hD), [], upd_same, rfl, fun _ h => nomatch h⟩ (fun i H' hi hp => ?_) (fun H' hp => ?_)
    · obtain ⟨g, u, hu, lu, bu⟩ := hp
      refine ⟨rfl, .ref d, rfl, d, rfl, g.2, fun x H2 bx g2 => ⟨_, g2.lst nd hu, ?_, (g.trans g2).put hD nd, u ++ [x], ?_, ?_, fun y hy => ?_⟩⟩
      · rw [List.length_map]
        exact line_big (by omega)
      · rw [upd_same, List.map_append]
        rfl
      · rw [List.length_append, lu]
        rfl
      · rcases List.mem_append.mp hy with h | h
        · exact bu y h
        · rw [List.mem_singleton.mp h]
          exact bx
    · obtain ⟨g, u, hu, lu, bu⟩ := hp
      refine ⟨D, _, rfl, .inl ⟨SqL.of hu, fun p hp => ?_⟩⟩
      exact q p u _ (g.same (same_new hp)) upd_same lu bu

/-! ### a many -/
abbrev sMany : Stmt := topS 19
theorem scMany : FnScope ["_law_draw"] ["_law_draw"] (defScope sMany) := ⟨rfl, rfl, rfl, by decide +kernel, rfl, by decide +kernel, by decide +kernel⟩
def spMany : Sp := fun vs H Q _ => ∃ d, vs = [.ref d] ∧ Dr H d ∧ ∀ n H', 1 ≤ n → Bt 197 n → Go d H H' → Q (.int n) H'
theorem len6 {a b c d e f : V} : [a, b, c, d, e, f].length ≤ sizeLine := by show 6 ≤ sizeLine; decide
theorem ok_many {f : Addr} {fd : FuncData} (F : Fun K "_law_many" "_law_many" sMany f fd) (Dt : DTake P w K mg base) : FnOk P w K mg base CX0 2 f fd ["_law_draw"] spMany := by
  obtain ⟨f1, fd1, G1, g1, k1, b1⟩ := Dt.ex
  refine F.ok scMany (fun vs H Q E h => ?_) (fun cdv A outer s H vs Q E hr h => ?_)
  · obtain ⟨d, rfl, _⟩ := h
    rfl
  · obtain ⟨d, rfl, hd, q⟩ := h
    refine ⟨_, pss_one (ps_ret (pe_op op_add pe_int (pe_call G1 hr (by rfl) g1 k1 b1 .nil pass0 (pa_cons (pv 0) (pa_cons
      (pe_ix ix_list (pe_lst (pa_cons pe_int (pa_cons pe_int (pa_cons pe_int (pa_cons (pe_op op_pow pe_int pe_int) (pa_cons (pe_op op_pow pe_int pe_int) (pa_cons (pe_op op_pow pe_int pe_int) pa_nil)))))))
        (pe_call G1 hr (by rfl) g1 k1 b1 .nil pass0 (pa_cons (pv 0) (pa_cons pe_int pa_nil))) (fun _ _ => rfl)) pa_nil))))), ?_⟩
    refine ⟨.ref d, rfl, _, _, rfl, rfl, ⟨by decide, by decide, by decide⟩, _, _, rfl, rfl, ⟨by decide, by decide, by decide⟩, _, _, rfl, rfl, ⟨by decide, by decide, by decide⟩, len6, fun p hp => ?_⟩
    have np := hd.ne hp
    refine ⟨.ref d, rfl, d, 6, rfl, (Go.of_same hd (same_new hp)).2, by decide, bt_small (by decide) (by decide), fun r H1 r0 r1 g1 => ?_⟩
    obtain ⟨m, hm, m0, m1⟩ : ∃ m : Int, atI [V.int 3, V.int 3, V.int 40, V.int (10 ^ (6 : Int).toNat), V.int (10 ^ (30 : Int).toNat), V.int (10 ^ (59 : Int).toNat)] r = some (.int m) ∧ 0 < m ∧ Bt 197 m := by
      rcases (by omega : r = 0 ∨ r = 1 ∨ r = 2 ∨ r = 3 ∨ r = 4 ∨ r = 5) with rfl | rfl | rfl | rfl | rfl | rfl
      · exact ⟨_, rfl, by decide +kernel, by unfold Bt; decide +kernel⟩
      · exact ⟨_, rfl, by decide +kernel, by unfold Bt; decide +kernel⟩
      · exact ⟨_, rfl, by decide +kernel, by unfold Bt; decide +kernel⟩
      · exact ⟨_, rfl, by decide +kernel, by unfold Bt; decide +kernel⟩
      · exact ⟨_, rfl, by decide +kernel, by unfold Bt; decide +kernel⟩
      · exact ⟨_, rfl, by decide +kernel, by unfold Bt; decide +kernel⟩
    refine ⟨p, _, _, _, rfl, rfl, SqL.of (g1.lst np upd_same), hm, d, m, rfl, g1.2, m0, m1.of_le (by decide), fun n H2 n0 n1 g2 => ?_⟩
    refine ⟨1, n, rfl, rfl, q _ _ (by omega) (Bt.of_lt (by omega) (by omega) m1) ((Go.of_same hd (same_new hp)).trans (g1.trans g2))⟩

/-! ### the shape -/
abbrev sShape : Stmt := topS 21
theorem scShape : FnScope ["_law_pieces_here", "_law_found", "_law_many_here", "_law_weights_here"] ["_law_pieces_here"] (defScope sShape) := ⟨rfl, rfl, rfl, by decide +kernel, rfl, by decide +kernel, by decide +kernel⟩
theorem ok_shape {f : Addr} {fd : FuncData} {k : Nat} (F : Fun K "_law_shape" "_law_shape" sShape f fd) : FnOk P w K mg base CX0 (k + 1) f fd ["_law_pieces_here"] spShaped := by
  refine F.ok scShape (fun vs H Q E h => ?_) (fun cdv A outer s H vs Q E hr h => ?_)
  · obtain ⟨a, ps, rfl, _⟩ := h
    rfl
  · obtain ⟨a, ps, rfl, ⟨vs, hA, hP⟩, hl, q⟩ := h
    refine ⟨_, pss_cons (ps_set (i := 1) scShape.nd rfl (.inl rfl) (pe_lst pa_nil))
      (pss_cons (ps_for PassesOwn.never rfl (pi_list (pv 0)) (pg_tup rfl (pgs_cons (pg_name (i := 2) scShape.nd rfl (.inl rfl)) (pgs_cons (pg_name (i := 3) scShape.nd rfl (.inl rfl)) pgs_nil)))
        (pss_one (ps_if (pt_cmpR op_gt (pv 2) pe_int (nomark _))
          (C8.pss_cut (ps_if (PW.pt (pw_and (pt_cmpR (op_neD hr.units) (pv 1) (pe_lst pa_nil) (nomark _))
              (pw_and1 (pt_cmpR (op_eqD hr.units) (pe_ix ix_tup (pe_ix ix_list (pv 1) (pe_un un_neg pe_int) (fun _ _ => rfl)) pe_int (fun _ _ => rfl)) (pv 3) (nomark _)))))
              (pss_one (ps_set (i := 2) scShape.nd rfl (.inl rfl) (pe_op op_add (pv 2) (pe_ix ix_tup (pe_bm0 PySem.F.plainAttrs_list PySem.F.slot_list_pop PySem.F.type_list_pop mt_pop (pv 1)) pe_int (fun _ _ => rfl))))) pss_nil)
            (pss_one (ps_expr (pe_bm PySem.F.plainAttrs_list PySem.F.slot_list_append PySem.F.type_list_append mt_append (pv 1) (pa_cons (pe_tup (pa_cons (pv 2) (pa_cons (pv 3) pa_nil))) pa_nil))))) pss_nil)))
      (pss_one (ps_ret (pv 1)))), ?_⟩
    refine ⟨Nat.zero_le _, fun D hD => ?_⟩
    have hAD : a ≠ D := ne_of_none hA hD
    refine ⟨.ref a, rfl, a, rfl, ⟨_, SqL.of (Eq.trans (upd_ne hAD) hA)⟩, for_list (K := K) (a := a) (xs := vs)
      (fun i σ H' => ∃ x2 x3, σ = [some (.ref a), some (.ref D), x2, x3] ∧ Same H H' ∧ ∃ f, WgAt H' D f ∧ f = (ps.take i).foldl push [])
      ⟨none, none, rfl, same_new hD, [], ⟨[], upd_same, .nil⟩, rfl⟩ (fun i σ H' _ hp => ?_) (fun i v σ H' hv hp => ?_) (fun σ H' hp => ?_)⟩
    · obtain ⟨_, _, _, sm, _⟩ := hp
      exact SqL.of (sm _ _ hA)
    · obtain ⟨x2, x3, rfl, sm, f, hf, ef⟩ := hp
      obtain ⟨p, hpi, hpc⟩ := hP.get hv
      obtain ⟨n, u⟩ := p
      obtain ⟨t, r, rfl, ht, hru⟩ := hpc.mono (same_tups sm)
      have hru0 : WtAt H r u := by
        obtain ⟨t', r', e, ht', hr'⟩ := hpc
        cases e
        have := (sm _ _ ht').symm.trans ht
        cases this
        exact hr'
      have nx : (ps.take (i + 1)).foldl push [] = push f (n, u) := by
        rw [take_next' hpi, List.foldl_append, ← ef]
        rfl
      obtain ⟨cf, _, lf⟩ := pushs_ok (ps.take i) [] Canon.nil
      rw [← ef] at cf lf
      have hlf : f.length ≤ 50000 := by
        have : (ps.take i).length ≤ ps.length := by rw [List.length_take]; omega
        rw [List.length_nil] at lf
        omega
      refine ⟨t, _, rfl, SqT.of ht, rfl, .int n, [.ref r], rfl, .ref r, [], rfl, rfl, ?_⟩
      refine ⟨_, rfl, n, 0, rfl, rfl, _, rfl, ite2 (fun c => ?_) (fun c => ?_)⟩
      · have h0 : 0 < n := of_decide_eq_true c
        refine ⟨fun σ' H2 => ∃ m g, σ' = [some (.ref a), some (.ref D), some (.int m), some (.ref r)] ∧ Same H H2 ∧ WgAt H2 D g ∧ push f (n, u) = g ++ [(m, u)] ∧ g.length ≤ 50000, ?_, fun σ' H2 hm => ?_⟩
        · refine ⟨_, rfl, Nat.zero_le _, fun p hp => ?_⟩
          have s1 : Same H' (upd H' p (.lst [])) := same_new hp
          have hf1 := hf.mono s1
          refine ⟨dWg f, dWg [], hf1.dp, WgAt.dp (show WgAt (upd H' p (.lst [])) p [] from ⟨[], upd_same, .nil⟩), shaped_wg _, shaped_wg _, _, rfl, ?_⟩
          rw [eqv_wg]
          obtain ⟨us, hus, hPus⟩ := id hf1
          have hru1 := hru.mono (same_tups s1)
          refine ite2 (fun c1 => ?_) (fun c1 => ?_)
          · rcases snoc_cases f with e | ⟨g, q', e⟩
            · rw [e] at c1
              exact absurd c1 (by decide)
            · obtain ⟨m, u'⟩ := q'
              subst e
              obtain ⟨vs', v', rfl, hg, hv'⟩ := hPus.unsnoc
              obtain ⟨t', r', rfl, ht', hr'⟩ := hv'
              refine ⟨.ref D, rfl, 1, rfl, D, _, -1, _, rfl, rfl, SqL.of hus, atI_last _ _, t', _, 1, _, rfl, rfl, SqT.of ht', atI1, _, rfl, dWt u', dWt u, hr'.dp, hru1.dp, shaped_wt _, shaped_wt _, _, rfl, ?_⟩
              rw [eqv_wt]
              refine ite2 (fun c2 => ?_) (fun c2 => ?_)
              · have e2 : u' = u := of_decide_eq_true c2
                have tl := tups_lst (o := .lst vs') hus
                refine ⟨_, rfl, .ref D, rfl, .inl ⟨rfl, _, SqL.of hus⟩, D, _, .ref t', rfl, rfl, hus, by simp, ?_⟩
                rw [List.dropLast_concat]
                refine ⟨t', _, 0, _, rfl, rfl, SqT.of (tl _ _ ht'), atI0, n, m, rfl, rfl, n + m, g, rfl, same_set (sm.trans s1) hD, ⟨vs', upd_same, hg.mono tl⟩, ?_, by rw [List.length_append] at hlf; omega⟩
                rw [← e2, Int.add_comm]
                exact push_same (p := (n, u')) h0
              · have e2 : ¬ u' = u := fun z => c2 (decide_eq_true z)
                exact ⟨n, _, rfl, sm.trans s1, hf1, push_other (p := (n, u)) h0 e2, hlf⟩
          · have e : f = [] := by
              cases f with
              | nil => rfl
              | cons x y => exact absurd rfl c1
            subst e
            exact ⟨n, [], rfl, sm.trans s1, hf1, push_nil (p := (n, u)) h0, by decide⟩
        · obtain ⟨m, g, rfl, s2, ⟨us, hus, hPus⟩, e, lg⟩ := hm
          refine ⟨.ref D, rfl, .inl ⟨rfl, _, SqL.of hus⟩, .int m, rfl, .ref r, rfl, len2, fun p2 hp2 => ?_⟩
          have nD : D ≠ p2 := ne_of_none hus hp2
          refine ⟨D, _, _, rfl, rfl, Eq.trans (upd_ne nD) hus, ?_, ?_⟩
          · have := hPus.length
            exact line_big (by omega)
          refine ⟨_, _, rfl, same_set (s2.trans (same_new hp2)) hD, _, wg_put hus hPus (hru0.mono (same_tups s2)) hp2, ?_⟩
          rw [nx, e]
      · have h0 : ¬ 0 < n := fun z => c (decide_eq_true z)
        refine ⟨_, _, rfl, sm, f, hf, ?_⟩
        rw [nx]
        exact (push_no (p := (n, u)) h0).symm
    · obtain ⟨x2, x3, rfl, sm, f, hf, ef⟩ := hp
      obtain ⟨h1, h2, h3⟩ := pushs_ok ps [] Canon.nil
      rw [hP.length, List.take_length] at ef
      rw [← ef] at h1 h2 h3
      refine ⟨.ref D, rfl, q H' D f sm hf h1 h2 ?_⟩
      simpa using h3

/-! ### the width -/
abbrev sWide : Stmt := topS 22
theorem scWide : FnScope ["_law_draw"] ["_law_draw"] (defScope sWide) := ⟨rfl, rfl, rfl, by decide +kernel, rfl, by decide +kernel, by decide +kernel⟩
def spWide : Sp := fun vs H Q _ => ∃ d, vs = [.ref d] ∧ Dr H d ∧ ∀ n H', 1 ≤ n → n ≤ 24 → Go d H H' → Q (.int ((n : Nat) : Int)) H'
theorem ok_wide {f : Addr} {fd : FuncData} (F : Fun K "_law_wide" "_law_wide" sWide f fd) (mi : mg "int" = none) (Dt : DTake P w K mg base) : FnOk P w K mg base CX0 2 f fd ["_law_draw"] spWide := by
  obtain ⟨f1, fd1, G1, g1, k1, b1⟩ := Dt.ex
  refine F.ok scWide (fun vs H Q E h => ?_) (fun cdv A outer s H vs Q E hr h => ?_)
  · obtain ⟨d, rfl, _⟩ := h
    rfl
  · obtain ⟨d, rfl, hd, q⟩ := h
    refine ⟨_, pss_one (ps_ret (pe_ix ix_list (pe_lst (pa_cons (pe_op op_add pe_int (pe_call G1 hr (by rfl) g1 k1 b1 .nil pass0 (pa_cons (pv 0) (pa_cons pe_int pa_nil))))
        (pa_cons (pe_op op_add pe_int (pe_call G1 hr (by rfl) g1 k1 b1 .nil pass0 (pa_cons (pv 0) (pa_cons pe_int pa_nil)))) pa_nil)))
      (pe_callTy call_int1 (by rfl) mi boot_int (pa_cons (pe_cmpR op_eq (pe_call G1 hr (by rfl) g1 k1 b1 .nil pass0 (pa_cons (pv 0) (pa_cons pe_int pa_nil))) pe_int (nomark _)) pa_nil)) (fun _ _ => rfl))), ?_⟩
    refine ⟨.ref d, rfl, d, 3, rfl, hd, by decide, bt_small (by decide) (by decide), fun r1 H1 r10 r11 g1 => ?_⟩
    refine ⟨1, r1, rfl, rfl, .ref d, rfl, d, 24, rfl, g1.2, by decide, bt_small (by decide) (by decide), fun r2 H2 r20 r21 g2 => ?_⟩
    refine ⟨1, r2, rfl, rfl, len2, fun p hp => ?_⟩
    have g3 := (g1.trans g2).same (same_new (o := .lst [.int (1 + r1), .int (1 + r2)]) hp)
    refine ⟨.ref d, rfl, d, 8, rfl, g3.2, by decide, bt_small (by decide) (by decide), fun r3 H3 r30 r31 g4 => ?_⟩
    have hl := g4.lst (g2.2.ne hp) upd_same
    refine ⟨rfl, .inr ⟨_, rfl, ?_⟩⟩
    by_cases c : decide (V.int r3 = V.int 5) = true
    · rw [c]
      refine ⟨p, _, 1, _, rfl, rfl, SqL.of hl, atI1, ?_⟩
      have := q (1 + r2).toNat H3 (by omega) (by omega) (g3.trans g4)
      rw [show (((1 + r2).toNat : Nat) : Int) = 1 + r2 by omega] at this
      exact this
    · rw [show decide (V.int r3 = V.int 5) = false by simpa using c]
      refine ⟨p, _, 0, _, rfl, rfl, SqL.of hl, atI0, ?_⟩
      have := q (1 + r1).toNat H3 (by omega) (by omega) (g3.trans g4)
      rw [show (((1 + r1).toNat : Nat) : Int) = 1 + r1 by omega] at this
      exact this

/-! ### the ends -/
abbrev sEnds : Stmt := topS 24
theorem scEnds : FnScope ["_law_weighing_here", "_law_found", "_law_many_here", "_law_weights_here"] ["_law_weighing_here"] (defScope sEnds) := ⟨rfl, rfl, rfl, by decide +kernel, rfl, by decide +kernel, by decide +kernel⟩
def spEnds : Sp := fun vs H Q _ => ∃ (a : Addr) (ps : List Pc), vs = [.ref a] ∧ WgAt H a ps ∧ ps.length ≤ 50000 ∧ ∀ H' p ls, Same H H' → H' p = some (.lst (ls ++ [.int (total ps)])) → Q (.ref p) H'
theorem ok_ends {f : Addr} {fd : FuncData} {k : Nat} (F : Fun K "_law_ends" "_law_ends" sEnds f fd) : FnOk P w K mg base CX0 (k + 1) f fd ["_law_weighing_here"] spEnds := by
  refine F.ok scEnds (fun vs H Q E h => ?_) (fun cdv A outer s H vs Q E hr h => ?_)
  · obtain ⟨a, ps, rfl, _⟩ := h
    rfl
  · obtain ⟨a, ps, rfl, ⟨vs, hA, hP⟩, hl, q⟩ := h
    refine ⟨_, pss_cons (ps_set (i := 1) scEnds.nd rfl (.inl rfl) (pe_lst (pa_cons pe_int pa_nil)))
      (pss_cons (ps_for PassesOwn.never rfl (pi_list (pv 0)) (pg_tup rfl (pgs_cons (pg_name (i := 2) scEnds.nd rfl (.inl rfl)) (pgs_cons (pg_name (i := 3) scEnds.nd rfl (.inl rfl)) pgs_nil)))
        (pss_one (ps_expr (pe_bm PySem.F.plainAttrs_list PySem.F.slot_list_append PySem.F.type_list_append mt_append (pv 1) (pa_cons (pe_op op_add (pe_ix ix_list (pv 1) (pe_un un_neg pe_int) (fun _ _ => rfl)) (pv 2)) pa_nil)))))
      (pss_one (ps_ret (pv 1)))), ?_⟩
    refine ⟨len1, fun D hD => ?_⟩
    have hAD : a ≠ D := ne_of_none hA hD
    refine ⟨.ref a, rfl, a, rfl, ⟨_, SqL.of (Eq.trans (upd_ne hAD) hA)⟩, for_list (K := K) (a := a) (xs := vs)
      (fun i σ H' => ∃ x2 x3, σ = [some (.ref a), some (.ref D), x2, x3] ∧ Same H H' ∧ ∃ ls, H' D = some (.lst (ls ++ [.int (total (ps.take i))])) ∧ ls.length ≤ i)
      ⟨none, none, rfl, same_new hD, [], upd_same, Nat.le_refl _⟩ (fun i σ H' _ hp => ?_) (fun i v σ H' hv hp => ?_) (fun σ H' hp => ?_)⟩
    · obtain ⟨_, _, _, sm, _⟩ := hp
      exact SqL.of (sm _ _ hA)
    · obtain ⟨x2, x3, rfl, sm, ls, hls, ll⟩ := hp
      obtain ⟨p, hpi, hpc⟩ := hP.get hv
      obtain ⟨n, u⟩ := p
      obtain ⟨t, r, rfl, ht, hru⟩ := hpc.mono (same_tups sm)
      have hi : i < ps.length := (List.getElem?_eq_some_iff.mp hpi).1
      have tt : total (ps.take (i + 1)) = total (ps.take i) + n := by
        rw [take_next' hpi, total_append]
        show _ + (n + 0) = _
        omega
      refine ⟨t, _, rfl, SqT.of ht, rfl, .int n, [.ref r], rfl, .ref r, [], rfl, rfl, ?_⟩
      refine ⟨.ref D, rfl, .inl ⟨rfl, _, SqL.of hls⟩, .ref D, rfl, 1, rfl, D, _, -1, _, rfl, rfl, SqL.of hls, atI_last _ _, _, rfl, _, n, rfl, rfl, D, _, _, rfl, rfl, hls, ?_, ?_⟩
      · rw [List.length_append]
        exact line_big (by show ls.length + 1 ≤ _; omega)
      · refine ⟨_, _, rfl, same_set sm hD, ls ++ [.int (total (ps.take i))], ?_, ?_⟩
        · rw [upd_same, tt]
        · rw [List.length_append]
          show ls.length + 1 ≤ i + 1
          omega
    · obtain ⟨x2, x3, rfl, sm, ls, hls, ll⟩ := hp
      rw [hP.length, List.take_length] at hls
      exact ⟨.ref D, rfl, q H' D ls sm hls⟩

/-! ### the law's own sum of weights -/
abbrev sLPlus : Stmt := topS 25
theorem scLPlus : FnScope ["_law_one", "_law_other", "_law_a", "_law_b"] ["_law_one", "_law_other"] (defScope sLPlus) := ⟨rfl, rfl, rfl, by decide +kernel, rfl, by decide +kernel, by decide +kernel⟩
theorem ok_lplus {f : Addr} {fd : FuncData} {k : Nat} (F : Fun K "_law_plus" "_law_plus" sLPlus f fd) (mt : mg "tuple" = none) (mz : mg "zip" = none) : FnOk P w K mg base CX0 (k + 1) f fd ["_law_one", "_law_other"] spPlus := by
  refine F.ok scLPlus (fun vs H Q E h => ?_) (fun cdv A outer s H vs Q E hr h => ?_)
  · obtain ⟨r, r', u, v, rfl, _⟩ := h
    rfl
  · obtain ⟨r, r', u, v, rfl, hu, hv, hl, h24, q⟩ := h
    refine ⟨_, pss_one (ps_ret (pe_callTy call_tuple_of (by rfl) mt boot_tuple (pa_cons
      (pe_lc (own := [("_law_a", 2), ("_law_b", 3)]) (g := gTup K 2 (gCons (gName 2) (gCons (gName 3) gNil))) (tt := tYes) rfl scLPlus.nd (RZ.pi_zipA (by rfl) mz (pa_cons (pv 0) (pa_cons (pv 1) pa_nil))) (blkOk_by (N := ["_law_one", "_law_other", "_law_a", "_law_b"]) (sc := defScope sLPlus) (by decide +kernel))
        (fun _ _ _ _ _ => pg_tup rfl (pgs_cons (pg_name (i := 2) scLPlus.nd rfl (Or.inl rfl)) (pgs_cons (pg_name (i := 3) scLPlus.nd rfl (Or.inl rfl)) pgs_nil))) (fun _ _ _ _ _ => pts_nil) (fun _ _ _ _ _ => pe_op op_add (pv 2) (pv 3))) pa_nil))), ?_⟩
    refine ⟨.ref r, rfl, .ref r', rfl, r, r', _, _, rfl, .inr ⟨SqT.of hu, SqT.of hv, fun D hD => lc_zipT (K := K) (a := r) (b := r') (xs := u.map V.int) (ys := v.map V.int) (by rw [List.length_map, List.length_map]; exact hl)
      (fun i H' => Same H H' ∧ H' D = some (.lst (((zadd u v).take i).map V.int))) ⟨same_new hD, upd_same⟩ (fun i H' hp => ⟨SqT.of (hp.1 _ _ hu), SqT.of (hp.1 _ _ hv)⟩) (fun i x y T H' hx hy hp hT => ?_) (fun H' hp => ?_)⟩⟩
    · obtain ⟨x, hx', rfl⟩ := ints_get hx
      obtain ⟨y, hy', rfl⟩ := ints_get hy
      obtain ⟨sm, hDl⟩ := hp
      have nT : D ≠ T := ne_of_none hDl hT
      refine ⟨T, _, rfl, SqT.of upd_same, rfl, .int x, [.int y], rfl, .int y, [], rfl, rfl, rfl, .int x, rfl, .int y, rfl, x, y, rfl, rfl, _, Eq.trans (upd_ne nT) hDl, ?_, ?_, ?_⟩
      · refine line_big ?_
        rw [List.length_map, List.length_take]
        have := zadd_len hl
        omega
      · exact same_set (sm.trans (same_new hT)) hD
      · rw [upd_same, zadd_next hx' hy', List.map_append]
        rfl
    · obtain ⟨sm, hDl⟩ := hp
      have e : (zadd u v).take (u.map V.int).length = zadd u v := by
        rw [List.length_map, ← zadd_len hl, List.take_length]
      rw [e] at hDl
      refine ⟨D, _, rfl, .inl ⟨SqL.of hDl, fun p hp => ?_⟩⟩
      exact q _ p (sm.trans (same_new hp)) upd_same
end
end K8
set_option Elab.async false
set_option linter.all false
set_option maxRecDepth 100000
set_option maxHeartbeats 4000000
/-! pieces, the two weighings -/
namespace K8
open PySem PySem.Spec PyProof.Rows L2
theorem wg_ne {H : Hp} {d p : Addr} {ps : List Pc} (h : WgAt H p ps) (hd : Dr H d) : p ≠ d := fun z => by
  obtain ⟨vs, hv, hP⟩ := h
  obtain ⟨x, y, hx, _⟩ := hd
  rw [z, hx] at hv
  cases hv
  cases hP with
  | cons a _ =>
    obtain ⟨_, _, e, _⟩ := a
    cases e
theorem WgAt.go {H H' : Hp} {d p : Addr} {ps : List Pc} (h : WgAt H p ps) (hd : Dr H d) (g : Go d H H') : WgAt H' p ps :=
  let ⟨vs, hv, hP⟩ := h
  ⟨vs, g.lst (wg_ne ⟨vs, hv, hP⟩ hd) hv, hP.mono (g.tups hd)⟩
/-- the weights of a pool -/
inductive RefsAt (H : Hp) : List V → List Wt → Prop
  | nil : RefsAt H [] []
  | cons {r : Addr} {u : Wt} {vs : List V} {us : List Wt} : WtAt H r u → RefsAt H vs us → RefsAt H (.ref r :: vs) (u :: us)
theorem RefsAt.mono {H H' : Hp} (e : Tups H H') : ∀ {vs : List V} {us : List Wt}, RefsAt H vs us → RefsAt H' vs us
  | _, _, .nil => .nil
  | _, _, .cons h t => .cons (h.mono e) (t.mono e)
theorem RefsAt.length {H : Hp} : ∀ {vs : List V} {us : List Wt}, RefsAt H vs us → vs.length = us.length
  | _, _, .nil => rfl
  | _, _, .cons _ t => congrArg (· + 1) t.length
theorem RefsAt.snoc {H : Hp} : ∀ {vs : List V} {us : List Wt} {r : Addr} {u : Wt}, RefsAt H vs us → WtAt H r u → RefsAt H (vs ++ [.ref r]) (us ++ [u])
  | _, _, _, _, .nil, h => .cons h .nil
  | _, _, _, _, .cons a t, h => .cons a (t.snoc h)
theorem RefsAt.get {H : Hp} : ∀ {vs : List V} {us : List Wt} {i : Nat} {v : V}, RefsAt H vs us → vs[i]? = some v → ∃ r u, v = .ref r ∧ u ∈ us ∧ WtAt H r u
  | _, _, 0, _, .cons h _, e => by
    cases e
    exact ⟨_, _, rfl, List.mem_cons_self, h⟩
  | _, _, i + 1, _, .cons _ t, e =>
    let ⟨r, u, a, b, c⟩ := RefsAt.get (i := i) t e
    ⟨r, u, a, List.mem_cons_of_mem _ b, c⟩
/-- weights of width n, of few bits -/
def Wok (n : Nat) (u : Wt) : Prop := u.length = n ∧ Bts 206 u
/-- an item of a pool at a drawn place -/
theorem pool_at {H : Hp} {vs : List V} {us : List Wt} (h : RefsAt H vs us) {j : Int} (j0 : 0 ≤ j) (j1 : j < (vs.length : Int)) : ∃ r u, atI vs j = some (.ref r) ∧ u ∈ us ∧ WtAt H r u := by
  obtain ⟨k, rfl⟩ : ∃ k : Nat, j = ((k : Nat) : Int) := ⟨j.toNat, by omega⟩
  have hk : k < vs.length := by omega
  obtain ⟨r, u, e, m, a⟩ := h.get (List.getElem?_eq_getElem hk)
  refine ⟨r, u, atI_nat ?_, m, a⟩
  rw [List.getElem?_eq_getElem hk, e]
section
variable {P : Program} {w : World} {K : PySem.W.Frag} {mg : Str → Option Value} {base : Heap}
abbrev DWts (P : Program) (w : World) (K : PySem.W.Frag) (mg : Str → Option Value) (base : Heap) : Prop := Dfn P w K mg base 3 "_law_weights" ["_law_draw", "_law_wide_here"] spWts

/-! ### pieces -/
abbrev sPieces : Stmt := topS 20
abbrev nPieces : List Str := ["_law_draw", "_law_wide_here", "_law_most", "_law_k", "_law_pool", "_law_found", "_law_many_here"]
theorem scPieces : FnScope nPieces ["_law_draw", "_law_wide_here", "_law_most"] (defScope sPieces) := ⟨rfl, rfl, rfl, by decide +kernel, rfl, by decide +kernel, by decide +kernel⟩
def spPieces : Sp := fun vs H Q _ => ∃ (d : Addr) (n m : Nat), vs = [.ref d, .int ((n : Nat) : Int), .int ((m : Nat) : Int)] ∧ Dr H d ∧ 1 ≤ n ∧ n ≤ 24 ∧ m ≤ 1000 ∧
  ∀ H' p ps, Go d H H' → WgAt H' p ps → ps.length = m → (∀ q ∈ ps, 1 ≤ q.1 ∧ Bt 197 q.1 ∧ Wok n q.2) → Q (.ref p) H'
theorem ok_pieces {f : Addr} {fd : FuncData} (F : Fun K "_law_pieces" "_law_pieces" sPieces f fd) (mr : mg "range" = none) (ml : mg "len" = none) (Dt : DTake P w K mg base) (Dw : DWts P w K mg base) (Dm : Dfn P w K mg base 2 "_law_many" ["_law_draw"] spMany) :
    FnOk P w K mg base CX0 4 f fd ["_law_draw", "_law_wide_here", "_law_most"] spPieces := by
  obtain ⟨f1, fd1, G1, g1, k1, b1⟩ := Dt.ex
  obtain ⟨f2, fd2, G2, g2, k2, b2⟩ := Dw.ex
  obtain ⟨f3, fd3, G3, g3, k3, b3⟩ := Dm.ex
  refine F.ok scPieces (fun vs H Q E h => ?_) (fun cdv A outer s H vs Q E hr h => ?_)
  · obtain ⟨d, n, m, rfl, _⟩ := h
    rfl
  · obtain ⟨d, n, m, rfl, hd, n1, n24, hm, q⟩ := h
    have r1 := hr.mono (show 1 ≤ 3 by decide)
    have r2 := hr.mono (show 2 ≤ 3 by decide)
    refine ⟨_, pss_cons (ps_setLc (i := 4) (own := [("_law_k", 3)]) (g := gName 3) (tt := tYes) rfl scPieces.nd rfl rfl (sw_true rfl rfl rfl (by decide +kernel))
        (pi_range1 (by rfl) mr (pa_cons (pe_op op_add pe_int (pe_call G1 r1 (by rfl) g1 k1 b1 .nil pass0 (pa_cons (pv 0) (pa_cons pe_int pa_nil)))) pa_nil)) (blkOk_by (N := nPieces) (sc := defScope sPieces) (by decide +kernel))
        (fun _ _ _ _ _ => pg_name (i := 3) scPieces.nd rfl (Or.inl rfl)) (fun _ _ _ _ _ => pts_nil) (fun _ _ _ _ _ => pe_call G2 hr (by rfl) g2 k2 b2 .nil pass0 (pa_cons (pv 0) (pa_cons (pv 1) pa_nil))))
      (pss_cons (ps_set (i := 5) scPieces.nd rfl (.inl rfl) (pe_lst pa_nil))
      (pss_cons (ps_for PassesOwn.never rfl (pi_range1 (by rfl) mr (pa_cons (pv 2) pa_nil)) (pg_name (i := 3) scPieces.nd rfl (.inl rfl))
        (pss_cons (ps_set (i := 6) scPieces.nd rfl (.inl rfl) (pe_call G3 r2 (by rfl) g3 k3 b3 .nil pass0 (pa_cons (pv 0) pa_nil)))
          (pss_one (ps_expr (pe_bm PySem.F.plainAttrs_list PySem.F.slot_list_append PySem.F.type_list_append mt_append (pv 5) (pa_cons (pe_tup (pa_cons (pv 6) (pa_cons
            (pe_ix ix_list (pv 4) (pe_call G1 r1 (by rfl) g1 k1 b1 .nil pass0 (pa_cons (pv 0) (pa_cons (pe_callB call_len_seq (by rfl) ml boot_len (pa_cons (pv 4) pa_nil)) pa_nil))) (fun _ _ => rfl)) pa_nil))) pa_nil))))))
      (pss_one (ps_ret (pv 5))))), ?_⟩
    refine ⟨.ref d, rfl, d, 4, rfl, hd, by decide, bt_small (by decide) (by decide), fun r H1 r0 r3 gA => ?_⟩
    refine ⟨1, r, rfl, rfl, _, rfl, by show -(2 ^ 62) ≤ 1 + r; omega, by show 1 + r < 2 ^ 62; omega, fun D hD => ?_⟩
    have nD := gA.2.ne hD
    refine lc_range (lo := 0) (n := (1 + r).toNat) (fun i H' => Go d H1 H' ∧ ∃ vs us, H' D = some (.lst vs) ∧ RefsAt H' vs us ∧ vs.length = i ∧ ∀ u ∈ us, Wok n u)
      ⟨Go.of_same gA.2 (same_new hD), [], [], upd_same, .nil, rfl, fun _ h => nomatch h⟩ (fun i H' hi hp => ?_) (fun H' hp => ?_)
    · obtain ⟨g, vs, us, hv, hR, lv, wu⟩ := hp
      refine ⟨rfl, .ref d, rfl, _, rfl, d, n, rfl, g.2, n1, n24, fun p u H2 gB hu lu bu => ⟨vs, gB.lst nD hv, line_big (by omega), (g.trans gB).put hD nD, vs ++ [.ref p], us ++ [u], upd_same, ?_, ?_, fun z hz => ?_⟩⟩
      · have t2 := tups_lst (o := .lst (vs ++ [.ref p])) (gB.lst nD hv)
        exact (hR.mono ((gB.tups g.2).trans t2)).snoc (hu.mono t2)
      · rw [List.length_append, lv]
        rfl
      · rcases List.mem_append.mp hz with h | h
        · exact wu z h
        · rw [List.mem_singleton.mp h]
          exact ⟨lu, bu⟩
    · obtain ⟨gB, vs, us, hv, hR, lv, wu⟩ := hp
      have g12 := gA.trans gB
      refine ⟨Nat.zero_le _, fun D2 hD2 => ?_⟩
      have nD2 := gB.2.ne hD2
      have nDD : D ≠ D2 := ne_of_none hv hD2
      refine ⟨_, rfl, _, rfl, by omega, by omega, ?_⟩
      rw [show (((m : Nat) : Int)).toNat = m by omega]
      refine for_range (lo := 0) (n := m) (fun i σ H2 => ∃ x3 x6, σ = [some (.ref d), some (.int ((n : Nat) : Int)), some (.int ((m : Nat) : Int)), x3, some (.ref D), some (.ref D2), x6] ∧ Go d H H2 ∧
          H2 D = some (.lst vs) ∧ RefsAt H2 vs us ∧ ∃ ps, WgAt H2 D2 ps ∧ ps.length = i ∧ ∀ q ∈ ps, 1 ≤ q.1 ∧ Bt 197 q.1 ∧ Wok n q.2)
        ⟨_, none, rfl, g12.same (same_new hD2), same_new hD2 _ _ hv, hR.mono (tups_new hD2), [], ⟨[], upd_same, .nil⟩, rfl, fun _ h => nomatch h⟩ (fun i σ H2 hi hp => ?_) (fun σ H2 hp => ?_)
      · obtain ⟨x3, x6, rfl, g, hv2, hR2, ps, hw, lp, op⟩ := hp
        refine ⟨.ref d, rfl, d, rfl, g.2, fun mm H3 m1 m2 gC => ?_⟩
        have hw3 := hw.go g.2 gC
        have hv3 := gC.lst nD hv2
        have hR3 := hR2.mono (gC.tups g.2)
        obtain ⟨zs, hzs, hPz⟩ := id hw3
        refine ⟨.ref D2, rfl, .inl ⟨rfl, _, SqL.of hzs⟩, _, rfl, .ref D, rfl, .ref d, rfl, .ref D, rfl, D, vs, rfl, .inl (SqL.of hv3), d, _, rfl, gC.2, by omega, bt_small (by omega) (by omega), fun j H4 j0 j1 gD => ?_⟩
        have hR4 := hR3.mono (gD.tups gC.2)
        obtain ⟨r', u, ha, hmem, hu⟩ := pool_at hR4 j0 j1
        have hzs4 := gD.lst nD2 hzs
        refine ⟨D, vs, j, _, rfl, rfl, SqL.of (gD.lst nD hv3), ha, len2, fun p2 hp2 => ?_⟩
        have n2 : D2 ≠ p2 := ne_of_none hzs4 hp2
        have hv4 := gD.lst nD hv3
        have n3 : D ≠ p2 := ne_of_none hv4 hp2
        have tA : Tups H4 (upd H4 p2 (.tup [.int mm, .ref r'])) := tups_new hp2
        have hz5 : (upd H4 p2 (.tup [.int mm, .ref r'])) D2 = some (.lst zs) := Eq.trans (upd_ne n2) hzs4
        have tB := tups_lst (o := .lst (zs ++ [.ref p2])) hz5
        refine ⟨D2, _, _, rfl, rfl, hz5, ?_, ?_⟩
        · have := hPz.length
          exact line_big (by omega)
        refine ⟨_, _, rfl, ?_, ?_, hR4.mono (tA.trans tB), _, wg_put hzs4 (hPz.mono (gD.tups gC.2)) hu hp2, ?_, fun q' hq' => ?_⟩
        · have hfree : H D2 = none := by
            cases e : H D2 with
            | none => rfl
            | some o =>
              have := g12.1 D2 o nD2 e
              rw [hD2] at this
              cases this
          exact (((g.trans (gC.trans gD)).same (same_new hp2))).put hfree nD2
        · rw [upd_ne nDD, upd_ne n3]
          exact hv4
        · rw [List.length_append, lp]
          rfl
        · rcases List.mem_append.mp hq' with h | h
          · exact op q' h
          · rw [List.mem_singleton.mp h]
            exact ⟨m1, m2, wu u hmem⟩
      · obtain ⟨x3, x6, rfl, g, hv2, hR2, ps, hw, lp, op⟩ := hp
        exact ⟨.ref D2, rfl, q H2 D2 ps g hw lp op⟩
end
end K8
set_option Elab.async false
set_option linter.all false
set_option maxRecDepth 100000
set_option maxHeartbeats 4000000
/-! the two weighings, the sum of all sorts -/
namespace K8
open PySem PySem.Spec PyProof.Rows L2
theorem total_le {B : Int} : ∀ {ps : List Pc}, (∀ q ∈ ps, 0 ≤ q.1 ∧ q.1 ≤ B) → 0 ≤ total ps ∧ total ps ≤ (ps.length : Int) * B
  | [], _ => ⟨Int.le_refl _, by show (0 : Int) ≤ ((0 : Nat) : Int) * B; rw [show (((0 : Nat)) : Int) = 0 by rfl, Int.zero_mul]; exact Int.le_refl _⟩
  | p :: r, h => by
    obtain ⟨h1, h2⟩ := h p List.mem_cons_self
    obtain ⟨h3, h4⟩ := total_le (ps := r) fun q hq => h q (List.mem_cons_of_mem _ hq)
    have e : (((p :: r).length : Nat) : Int) * B = (r.length : Int) * B + B := by
      rw [List.length_cons, Int.natCast_add, Int.add_mul]
      simp
    rw [e]
    show 0 ≤ p.1 + total r ∧ p.1 + total r ≤ _
    omega
theorem many_le : ∀ {ps : List Pc}, Pos ps → ∀ q ∈ ps, q.1 ≤ total ps
  | p :: r, h, q, hq => by
    have h1 := h.head
    have h2 : 0 ≤ total r := by
      rw [total_len h.tail.nonneg]
      exact Int.natCast_nonneg _
    show q.1 ≤ p.1 + total r
    rcases List.mem_cons.mp hq with e | hq
    · rw [e]
      omega
    · have := many_le h.tail q hq
      omega
theorem many_le_len {ps : List Pc} (h : Pos ps) : ∀ q ∈ ps, 1 ≤ q.1 ∧ q.1 ≤ ((flat ps).length : Int) := fun q hq => by
  refine ⟨h q hq, ?_⟩
  rw [← total_len h.nonneg]
  exact many_le h q hq
theorem len_lt {ps : List Pc} (h : ∀ q ∈ ps, 1 ≤ q.1 ∧ Bt 197 q.1) (hl : ps.length ≤ 40) : (flat ps).length < 2 ^ 210 := by
  have hb : ∀ q ∈ ps, 0 ≤ q.1 ∧ q.1 ≤ ((2 ^ 197 : Nat) : Int) := fun q hq => by
    obtain ⟨a, b⟩ := h q hq
    have b' : q.1.natAbs < 2 ^ 197 := b
    omega
  obtain ⟨t0, t1⟩ := total_le hb
  have hp : Pos ps := fun q hq => (h q hq).1
  rw [total_len hp.nonneg] at t1
  have t2 : (ps.length : Int) * ((2 ^ 197 : Nat) : Int) ≤ 40 * ((2 ^ 197 : Nat) : Int) := Int.mul_le_mul_of_nonneg_right (by omega) (Int.natCast_nonneg _)
  have t3 : ((flat ps).length : Int) ≤ ((40 * 2 ^ 197 : Nat) : Int) := by
    rw [Int.natCast_mul]
    exact Int.le_trans t1 t2
  have t4 : (flat ps).length ≤ 40 * 2 ^ 197 := Int.ofNat_le.mp t3
  exact Nat.lt_of_le_of_lt t4 (by decide +kernel)
section
variable {P : Program} {w : World} {K : PySem.W.Frag} {mg : Str → Option Value} {base : Heap}
abbrev DShape (P : Program) (w : World) (K : PySem.W.Frag) (mg : Str → Option Value) (base : Heap) : Prop := Dfn P w K mg base 1 "_law_shape" ["_law_pieces_here"] spShaped

/-! ### the first weighing -/
abbrev sWeighing : Stmt := topS 23
theorem scWeighing : FnScope ["_law_draw", "_law_wide_here", "_law_most"] ["_law_draw", "_law_wide_here"] (defScope sWeighing) := ⟨rfl, rfl, rfl, by decide +kernel, rfl, by decide +kernel, by decide +kernel⟩
def spWeighing : Sp := fun vs H Q _ => ∃ (d : Addr) (n : Nat), vs = [.ref d, .int ((n : Nat) : Int)] ∧ Dr H d ∧ 1 ≤ n ∧ n ≤ 24 ∧
  ∀ H' p r, Go d H H' → WgAt H' p r → Canon r → r.length ≤ 40 → (∀ u ∈ flat r, Wok n u) → (flat r).length < 2 ^ 210 → Q (.ref p) H'
theorem ok_weighing {f : Addr} {fd : FuncData} (F : Fun K "_law_weighing" "_law_weighing" sWeighing f fd) (mi : mg "int" = none) (Dt : DTake P w K mg base) (Ds : DShape P w K mg base) (Dp : Dfn P w K mg base 4 "_law_pieces" ["_law_draw", "_law_wide_here", "_law_most"] spPieces) :
    FnOk P w K mg base CX0 5 f fd ["_law_draw", "_law_wide_here"] spWeighing := by
  obtain ⟨f1, fd1, G1, g1, k1, b1⟩ := Dt.ex
  obtain ⟨f2, fd2, G2, g2, k2, b2⟩ := Ds.ex
  obtain ⟨f3, fd3, G3, g3, k3, b3⟩ := Dp.ex
  refine F.ok scWeighing (fun vs H Q E h => ?_) (fun cdv A outer s H vs Q E hr h => ?_)
  · obtain ⟨d, n, rfl, _⟩ := h
    rfl
  · obtain ⟨d, n, rfl, hd, n1, n24, q⟩ := h
    have r1 := hr.mono (show 1 ≤ 4 by decide)
    refine ⟨_, pss_cons (ps_set (i := 2) scWeighing.nd rfl (.inl rfl) (pe_ix ix_list (pe_lst (pa_cons (pe_call G1 r1 (by rfl) g1 k1 b1 .nil pass0 (pa_cons (pv 0) (pa_cons pe_int pa_nil)))
        (pa_cons (pe_call G1 r1 (by rfl) g1 k1 b1 .nil pass0 (pa_cons (pv 0) (pa_cons pe_int pa_nil))) pa_nil)))
      (pe_callTy call_int1 (by rfl) mi boot_int (pa_cons (pe_cmpR op_eq (pe_call G1 r1 (by rfl) g1 k1 b1 .nil pass0 (pa_cons (pv 0) (pa_cons pe_int pa_nil))) pe_int (nomark _)) pa_nil)) (fun _ _ => rfl)))
      (pss_one (ps_ret (pe_call G2 r1 (by rfl) g2 k2 b2 .nil pass0 (pa_cons (pe_call G3 hr (by rfl) g3 k3 b3 .nil pass0 (pa_cons (pv 0) (pa_cons (pv 1) (pa_cons (pv 2) pa_nil)))) pa_nil)))), ?_⟩
    refine ⟨.ref d, rfl, d, 7, rfl, hd, by decide, bt_small (by decide) (by decide), fun x1 H1 x10 x11 gA => ?_⟩
    refine ⟨.ref d, rfl, d, 41, rfl, gA.2, by decide, bt_small (by decide) (by decide), fun x2 H2 x20 x21 gB => ?_⟩
    refine ⟨len2, fun p hp => ?_⟩
    have gC := (gA.trans gB).same (same_new (o := .lst [.int x1, .int x2]) hp)
    refine ⟨.ref d, rfl, d, 8, rfl, gC.2, by decide, bt_small (by decide) (by decide), fun x3 H3 x30 x31 gD => ?_⟩
    have hl := gD.lst (gB.2.ne hp) upd_same
    have gE := gC.trans gD
    -- what follows, for any number of pieces
    obtain ⟨z, hz, z0, z1⟩ : ∃ z : Int, atI [V.int x1, V.int x2] (if decide (V.int x3 = V.int 3) = true then 1 else 0) = some (.int z) ∧ 0 ≤ z ∧ z < 41 := by
      by_cases c : decide (V.int x3 = V.int 3) = true
      · rw [if_pos c]
        exact ⟨x2, atI1, x20, x21⟩
      · rw [if_neg c]
        exact ⟨x1, atI0, x10, by omega⟩
    refine ⟨rfl, .inr ⟨_, rfl, p, _, _, _, rfl, rfl, SqL.of hl, hz, ?_⟩⟩
    obtain ⟨m, rfl⟩ : ∃ m : Nat, z = ((m : Nat) : Int) := ⟨z.toNat, by omega⟩
    refine ⟨.ref d, rfl, _, rfl, _, rfl, d, n, m, rfl, gE.2, n1, n24, by omega, fun H4 p4 ps gF hw lp op => ?_⟩
    refine ⟨p4, ps, rfl, hw, by omega, fun H5 p5 r s5 w5 c5 f5 l5 => ?_⟩
    refine q H5 p5 r ((gE.trans gF).same s5) w5 c5 (by omega) (fun u hu => ?_) ?_
    · rw [f5] at hu
      obtain ⟨c, hc, _⟩ := mem_flat hu
      exact (op _ hc).2.2
    · rw [f5]
      exact len_lt (fun q' hq' => ⟨(op q' hq').1, (op q' hq').2.1⟩) (by omega)
end
end K8
set_option Elab.async false
set_option linter.all false
set_option maxRecDepth 100000
set_option maxHeartbeats 4000000
/-! the second weighing, fitted to the first one's length; the sum of all sorts -/
namespace K8
open PySem PySem.Spec PyProof.Rows L2
/-- a rising list that holds 0 and L and nothing beyond -/
theorem rise_first {ns : List Int} {L : Int} (hs : ns.Pairwise (· < ·)) (h0 : (0 : Int) ∈ ns) (hb : ∀ x ∈ ns, 0 ≤ x ∧ x ≤ L) : ns[0]? = some 0 := by
  cases ns with
  | nil => cases h0
  | cons x r =>
    have h1 := (hb x List.mem_cons_self).1
    rcases List.mem_cons.mp h0 with e | h
    · rw [e]
      rfl
    · have := (List.pairwise_cons.mp hs).1 0 h
      omega
theorem rise_last {L : Int} : ∀ {ns : List Int}, ns.Pairwise (· < ·) → L ∈ ns → (∀ x ∈ ns, 0 ≤ x ∧ x ≤ L) → ns[ns.length - 1]? = some L
  | [x], _, h, _ => by
    rw [List.mem_singleton.mp h]
    rfl
  | x :: y :: r, hs, h, hb => by
    have hs' := List.pairwise_cons.mp hs
    have hy := (hb y (List.mem_cons_of_mem _ List.mem_cons_self)).2
    have hxy := hs'.1 y List.mem_cons_self
    have h' : L ∈ y :: r := by
      rcases List.mem_cons.mp h with e | h
      · omega
      · exact h
    have ih := rise_last (ns := y :: r) hs'.2 h' fun z hz => hb z (List.mem_cons_of_mem _ hz)
    show (x :: y :: r)[(y :: r).length + 1 - 1]? = some L
    rw [Nat.add_sub_cancel]
    show (y :: r)[r.length]? = some L
    exact ih
theorem rise_step {ns : List Int} (hs : ns.Pairwise (· < ·)) {i : Nat} {x y : Int} (hx : ns[i]? = some x) (hy : ns[i + 1]? = some y) : x < y := by
  obtain ⟨a, e1⟩ := List.getElem?_eq_some_iff.mp hx
  obtain ⟨b, e2⟩ := List.getElem?_eq_some_iff.mp hy
  have := List.pairwise_iff_getElem.mp hs i (i + 1) a b (by omega)
  rw [← e1, ← e2]
  exact this
theorem ints_at {ns : List Int} {i : Nat} {x : Int} (h : ns[i]? = some x) : (ns.map V.int)[i]? = some (.int x) := by
  rw [List.getElem?_map, h]
  rfl
section
variable {P : Program} {w : World} {K : PySem.W.Frag} {mg : Str → Option Value} {base : Heap}
abbrev sFitted : Stmt := topS 26
abbrev nFitted : List Str := ["_law_draw", "_law_wide_here", "_law_long", "_law_spots", "_law_k", "_law_pool", "_law_found"]
theorem scFitted : FnScope nFitted ["_law_draw", "_law_wide_here", "_law_long"] (defScope sFitted) := ⟨rfl, rfl, rfl, by decide +kernel, rfl, by decide +kernel, by decide +kernel⟩
def spFitted : Sp := fun vs H Q _ => ∃ (d : Addr) (n : Nat) (L : Int), vs = [.ref d, .int ((n : Nat) : Int), .int L] ∧ Dr H d ∧ 1 ≤ n ∧ n ≤ 24 ∧ 1 ≤ L ∧ Bt 1000 L ∧
  ∀ H' p r, Go d H H' → WgAt H' p r → Canon r → ((flat r).length : Int) = L → (∀ u ∈ flat r, Wok n u) → r.length ≤ 45 → Q (.ref p) H'
theorem ok_fitted {f : Addr} {fd : FuncData} (F : Fun K "_law_fitted" "_law_fitted" sFitted f fd) (mi : mg "int" = none) (mr : mg "range" = none) (ml : mg "len" = none) (mn : mg "min" = none) (mS : mg "sorted" = none) (mT : mg "set" = none)
    (Dt : DTake P w K mg base) (Dw : DWts P w K mg base) (Ds : DShape P w K mg base) : FnOk P w K mg base CX0 4 f fd ["_law_draw", "_law_wide_here", "_law_long"] spFitted := by
  obtain ⟨f1, fd1, G1, g1, k1, b1⟩ := Dt.ex
  obtain ⟨f2, fd2, G2, g2, k2, b2⟩ := Dw.ex
  obtain ⟨f3, fd3, G3, g3, k3, b3⟩ := Ds.ex
  refine F.ok scFitted (fun vs H Q E h => ?_) (fun cdv A outer s H vs Q E hr h => ?_)
  · obtain ⟨d, n, L, rfl, _⟩ := h
    rfl
  · obtain ⟨d, n, L, rfl, hd, n1, n24, hL, bL, q⟩ := h
    have r1 := hr.mono (show 1 ≤ 3 by decide)
    refine ⟨_, pss_cons (ps_if (pt_cmpR op_eq (pv 2) pe_int (nomark _)) (pss_one (ps_ret (pe_lst pa_nil))) pss_nil)
      (pss_cons (ps_set (i := 3) scFitted.nd rfl (.inl rfl) (pe_lst (pa_cons pe_int (pa_cons (pv 2) pa_nil))))
      (pss_cons (ps_for PassesOwn.never rfl (pi_range1 (by rfl) mr (pa_cons (pe_ix ix_list (pe_lst (pa_cons (pe_call G1 r1 (by rfl) g1 k1 b1 .nil pass0 (pa_cons (pv 0) (pa_cons pe_int pa_nil))) (pa_cons (pe_call G1 r1 (by rfl) g1 k1 b1 .nil pass0 (pa_cons (pv 0) (pa_cons pe_int pa_nil))) pa_nil)))
            (pe_callTy call_int1 (by rfl) mi boot_int (pa_cons (pe_cmpR op_eq (pe_call G1 r1 (by rfl) g1 k1 b1 .nil pass0 (pa_cons (pv 0) (pa_cons pe_int pa_nil))) pe_int (nomark _)) pa_nil)) (fun _ _ => rfl)) pa_nil)) (pg_name (i := 4) scFitted.nd rfl (.inl rfl))
        (pss_one (ps_expr (pe_bm PySem.F.plainAttrs_list PySem.F.slot_list_append PySem.F.type_list_append mt_append (pv 3) (pa_cons (pe_call G1 r1 (by rfl) g1 k1 b1 .nil pass0 (pa_cons (pv 0) (pa_cons
          (pe_ix ix_list (pe_lst (pa_cons (pv 2) (pa_cons (pe_callB (call_min2 rfl) (by rfl) mn (by decide +kernel) (pa_cons (pv 2) (pa_cons pe_int pa_nil))) pa_nil))) (pe_call G1 r1 (by rfl) g1 k1 b1 .nil pass0 (pa_cons (pv 0) (pa_cons pe_int pa_nil))) (fun _ _ => rfl)) pa_nil))) pa_nil)))))
      (pss_cons (ps_set (i := 3) scFitted.nd rfl (.inl rfl) (pe_callB (cr_sortedSet rfl) (by rfl) mS boot_sorted (pa_cons (pe_callTy (cr_setL rfl) (by rfl) mT boot_set (pa_cons (pv 3) pa_nil)) pa_nil)))
      (pss_cons (ps_setLc (i := 5) (own := [("_law_k", 4)]) (g := gName 4) (tt := tYes) rfl scFitted.nd rfl rfl (sw_true rfl rfl rfl (by decide +kernel))
        (pi_range1 (by rfl) mr (pa_cons (pe_op op_add pe_int (pe_call G1 r1 (by rfl) g1 k1 b1 .nil pass0 (pa_cons (pv 0) (pa_cons pe_int pa_nil)))) pa_nil)) (blkOk_by (N := nFitted) (sc := defScope sFitted) (by decide +kernel))
        (fun _ _ _ _ _ => pg_name (i := 4) scFitted.nd rfl (Or.inl rfl)) (fun _ _ _ _ _ => pts_nil) (fun _ _ _ _ _ => pe_call G2 hr (by rfl) g2 k2 b2 .nil pass0 (pa_cons (pv 0) (pa_cons (pv 1) pa_nil))))
      (pss_cons (ps_set (i := 6) scFitted.nd rfl (.inl rfl) (pe_lst pa_nil))
      (pss_cons (ps_for PassesOwn.never rfl (pi_range2 (by rfl) mr (pa_cons pe_int (pa_cons (pe_callB call_len_seq (by rfl) ml boot_len (pa_cons (pv 3) pa_nil)) pa_nil))) (pg_name (i := 4) scFitted.nd rfl (.inl rfl))
        (pss_one (ps_expr (pe_bm PySem.F.plainAttrs_list PySem.F.slot_list_append PySem.F.type_list_append mt_append (pv 6) (pa_cons (pe_tup (pa_cons (pe_op op_sub (pe_ix ix_list (pv 3) (pv 4) (fun _ _ => rfl)) (pe_ix ix_list (pv 3) (pe_op op_sub (pv 4) pe_int) (fun _ _ => rfl))) (pa_cons
            (pe_ix ix_list (pv 5) (pe_call G1 r1 (by rfl) g1 k1 b1 .nil pass0 (pa_cons (pv 0) (pa_cons (pe_callB call_len_seq (by rfl) ml boot_len (pa_cons (pv 5) pa_nil)) pa_nil))) (fun _ _ => rfl)) pa_nil))) pa_nil)))))
      (pss_one (ps_ret (pe_call G3 r1 (by rfl) g3 k3 b3 .nil pass0 (pa_cons (pv 6) pa_nil)))))))))), ?_⟩
    refine ⟨_, rfl, rfl, _, rfl, ite2 (fun c => ?_) (fun _ => ?_)⟩
    · have := V.int.inj (of_decide_eq_true c)
      omega
    -- spots
    refine ⟨_, rfl, len2, fun S hS => ?_⟩
    have nS := hd.ne hS
    have gS := Go.of_same hd (same_new (o := .lst [.int 0, .int L]) hS)
    refine ⟨.ref d, rfl, d, 6, rfl, gS.2, by decide, bt_small (by decide) (by decide), fun x1 H1 x10 x11 gA => ?_⟩
    refine ⟨.ref d, rfl, d, 40, rfl, gA.2, by decide, bt_small (by decide) (by decide), fun x2 H2 x20 x21 gB => ?_⟩
    refine ⟨len2, fun p hp => ?_⟩
    have gC := (gA.trans gB).same (same_new (o := .lst [.int x1, .int x2]) hp)
    refine ⟨.ref d, rfl, d, 8, rfl, gC.2, by decide, bt_small (by decide) (by decide), fun x3 H3 x30 x31 gD => ?_⟩
    have hl := gD.lst (gB.2.ne hp) upd_same
    have gE := gC.trans gD
    obtain ⟨z, hz, z0, z1⟩ : ∃ z : Int, atI [V.int x1, V.int x2] (if decide (V.int x3 = V.int 3) = true then 1 else 0) = some (.int z) ∧ 0 ≤ z ∧ z < 40 := by
      by_cases c : decide (V.int x3 = V.int 3) = true
      · rw [if_pos c]
        exact ⟨x2, atI1, x20, x21⟩
      · rw [if_neg c]
        exact ⟨x1, atI0, x10, by omega⟩
    refine ⟨rfl, .inr ⟨_, rfl, p, _, _, _, rfl, rfl, SqL.of hl, hz, z, rfl, by omega, by omega, ?_⟩⟩
    have hfree : ∀ {D : Addr} {H1 : Hp}, Go d H H1 → H1 D = none → D ≠ d → H D = none := fun {D H1} g hD nD => by
      cases e : H D with
      | none => rfl
      | some o =>
        have := g.1 D o nD e
        rw [hD] at this
        cases this
    refine for_range (lo := 0) (n := z.toNat) (fun i σ H' => ∃ x4, σ = [some (.ref d), some (.int ((n : Nat) : Int)), some (.int L), some (.ref S), x4, none, none] ∧ Go d H H' ∧
        ∃ ls : List Int, H' S = some (.lst (ls.map V.int)) ∧ ls.length = 2 + i ∧ (0 : Int) ∈ ls ∧ L ∈ ls ∧ ∀ x ∈ ls, 0 ≤ x ∧ x ≤ L)
      ⟨none, rfl, gS.trans gE, [0, L], gE.lst nS upd_same, rfl, by simp, by simp, fun x hx => by
        rcases List.mem_cons.mp hx with e | hx
        · omega
        · rw [List.mem_singleton.mp hx]
          omega⟩ (fun i σ H' hi hp => ?_) (fun σ H' hp => ?_)
    · obtain ⟨x4, rfl, g, ls, hls, ll, m0, mL, mb⟩ := hp
      refine ⟨.ref S, rfl, .inl ⟨rfl, _, SqL.of hls⟩, .ref d, rfl, _, rfl, _, rfl, L, 12, rfl, len2, fun p2 hp2 => ?_⟩
      have gp := g.same (same_new (o := .lst [.int L, .int (if 12 < L then 12 else L)]) hp2)
      refine ⟨.ref d, rfl, d, 2, rfl, gp.2, by decide, bt_small (by decide) (by decide), fun y H4 y0 y1 gF => ?_⟩
      have hl2 := gF.lst (g.2.ne hp2) upd_same
      obtain ⟨m, hm, mm0, mm1⟩ : ∃ m : Int, atI [V.int L, V.int (if 12 < L then 12 else L)] y = some (.int m) ∧ 0 < m ∧ m ≤ L := by
        rcases (by omega : y = 0 ∨ y = 1) with rfl | rfl
        · exact ⟨L, atI0, by omega, Int.le_refl _⟩
        · refine ⟨_, atI1, ?_, ?_⟩ <;> (split <;> omega)
      refine ⟨p2, _, y, _, rfl, rfl, SqL.of hl2, hm, d, m, rfl, gF.2, mm0, Bt.of_lt (by omega) mm1 bL, fun v H5 v0 v1 gG => ?_⟩
      have hs5 : H5 S = some (.lst (ls.map V.int)) := (gF.trans gG).lst nS (same_new hp2 _ _ hls)
      refine ⟨S, _, _, rfl, rfl, hs5, ?_, ?_⟩
      · rw [List.length_map]
        exact line_big (by omega)
      refine ⟨_, rfl, (gp.trans (gF.trans gG)).put hS nS, ls ++ [v], ?_, ?_, List.mem_append_left _ m0, List.mem_append_left _ mL, fun x hx => ?_⟩
      · rw [upd_same, List.map_append]
        rfl
      · rw [List.length_append, ll]
        rfl
      · rcases List.mem_append.mp hx with h | h
        · exact mb x h
        · rw [List.mem_singleton.mp h]
          omega
    · obtain ⟨x4, rfl, g, ls, hls, ll, m0, mL, mb⟩ := hp
      -- sorted(set(spots))
      refine ⟨.ref S, rfl, S, ls, rfl, SqL.of hls, by omega, fun p1 c hp1 hc => ?_⟩
      have gp := g.same (same_new (o := SetO w p1 (fun j => decide (j ∈ ls)) c) hp1)
      refine ⟨p1, _, c, rfl, upd_same, by omega, fun ns T rise mem ln hT => ?_⟩
      have gT := gp.same (same_new (o := .lst (ns.map V.int)) hT)
      have nT := gp.2.ne hT
      have mem' : ∀ x, x ∈ ns ↔ x ∈ ls := fun x => by
        rw [mem x]
        exact decide_eq_true_iff
      have nb : ∀ x ∈ ns, 0 ≤ x ∧ x ≤ L := fun x hx => mb x ((mem' x).mp hx)
      have first := rise_first rise ((mem' 0).mpr m0) nb
      have last := rise_last rise ((mem' L).mpr mL) nb
      have ln2 : 2 ≤ ns.length := by
        refine Nat.lt_of_not_le fun z => ?_
        have z1 : ns.length - 1 = 0 := by omega
        rw [z1, first] at last
        have := Option.some.inj last
        omega
      have hT6 : (upd (upd H' p1 (SetO w p1 (fun j => decide (j ∈ ls)) c)) T (.lst (ns.map V.int))) T = some (.lst (ns.map V.int)) := upd_same
      -- pool
      refine ⟨.ref d, rfl, d, 3, rfl, gT.2, by decide, bt_small (by decide) (by decide), fun r H7 r0 r3 gH => ?_⟩
      refine ⟨1, r, rfl, rfl, _, rfl, by show -(2 ^ 62) ≤ 1 + r; omega, by show 1 + r < 2 ^ 62; omega, fun D hD => ?_⟩
      have nD := gH.2.ne hD
      refine lc_range (lo := 0) (n := (1 + r).toNat) (fun i H' => Go d H7 H' ∧ ∃ vs us, H' D = some (.lst vs) ∧ RefsAt H' vs us ∧ vs.length = i ∧ ∀ u ∈ us, Wok n u)
        ⟨Go.of_same gH.2 (same_new hD), [], [], upd_same, .nil, rfl, fun _ h => nomatch h⟩ (fun i H' hi hp => ?_) (fun H' hp => ?_)
      · obtain ⟨g', vs, us, hv, hR, lv, wu⟩ := hp
        refine ⟨rfl, .ref d, rfl, _, rfl, d, n, rfl, g'.2, n1, n24, fun p u H2 gB hu lu bu => ⟨vs, gB.lst nD hv, line_big (by omega), (g'.trans gB).put hD nD, vs ++ [.ref p], us ++ [u], upd_same, ?_, ?_, fun z hz => ?_⟩⟩
        · have t2 := tups_lst (o := .lst (vs ++ [.ref p])) (gB.lst nD hv)
          exact (hR.mono ((gB.tups g'.2).trans t2)).snoc (hu.mono t2)
        · rw [List.length_append, lv]
          rfl
        · rcases List.mem_append.mp hz with h | h
          · exact wu z h
          · rw [List.mem_singleton.mp h]
            exact ⟨lu, bu⟩
      · obtain ⟨gI, vs, us, hv, hR, lv, wu⟩ := hp
        have gJ := gT.trans (gH.trans gI)
        have hT8 := (gH.trans gI).lst nT hT6
        refine ⟨Nat.zero_le _, fun D2 hD2 => ?_⟩
        have nD2 := gI.2.ne hD2
        have nDD : D ≠ D2 := ne_of_none hv hD2
        have nTD : T ≠ D2 := ne_of_none hT8 hD2
        have hT9 : (upd _ D2 (.lst [])) T = some (.lst (ns.map V.int)) := same_new hD2 _ _ hT8
        refine ⟨.ref T, rfl, T, _, rfl, .inl (SqL.of hT9), _, _, rfl, ⟨by omega, by omega, by omega, by rw [List.length_map]; omega⟩, ?_⟩
        rw [List.length_map]
        refine for_range (lo := 1) (n := (((ns.length : Nat) : Int) - 1).toNat) (fun i σ H2 => ∃ x4, σ = [some (.ref d), some (.int ((n : Nat) : Int)), some (.int L), some (.ref T), x4, some (.ref D), some (.ref D2)] ∧ Go d H H2 ∧
            H2 D = some (.lst vs) ∧ RefsAt H2 vs us ∧ H2 T = some (.lst (ns.map V.int)) ∧ ∃ ps, WgAt H2 D2 ps ∧ ps.length = i ∧ (∀ q ∈ ps, 1 ≤ q.1 ∧ Wok n q.2) ∧ ns[i]? = some (total ps))
          ⟨_, rfl, gJ.same (same_new hD2), same_new hD2 _ _ hv, hR.mono (tups_new hD2), hT9, [], ⟨[], upd_same, .nil⟩, rfl, (fun _ h => nomatch h), first⟩ (fun i σ H2 hi hp => ?_) (fun σ H2 hp => ?_)
        · obtain ⟨x4, rfl, g', hv2, hR2, hT2, ps, hw, lp, op, tp⟩ := hp
          have hi1 : i + 1 < ns.length := by omega
          have tn : ns[i + 1]? = some ns[i + 1] := List.getElem?_eq_getElem hi1
          generalize ns[i + 1] = y at tn
          have hlt := rise_step rise tp tn
          obtain ⟨zs, hzs, hPz⟩ := id hw
          have ei : (1 : Int) + ((i : Nat) : Int) = (((i + 1 : Nat)) : Int) := by omega
          have ei' : (1 : Int) + ((i : Nat) : Int) - 1 = ((i : Nat) : Int) := by omega
          refine ⟨.ref D2, rfl, .inl ⟨rfl, _, SqL.of hzs⟩, .ref T, rfl, _, rfl, T, _, _, .int y, rfl, rfl, SqL.of hT2, ?_, .ref T, rfl, _, rfl, _, _, rfl, rfl, T, _, _, .int (total ps), rfl, rfl, SqL.of hT2, ?_, y, total ps, rfl, rfl, ?_⟩
          · rw [ei]
            exact atI_nat (ints_at tn)
          · show atI (ns.map V.int) ((1 : Int) + ((i : Nat) : Int) - 1) = _
            rw [ei']
            exact atI_nat (ints_at tp)
          refine ⟨.ref D, rfl, .ref d, rfl, .ref D, rfl, D, vs, rfl, .inl (SqL.of hv2), d, _, rfl, g'.2, by omega, bt_small (by omega) (by omega), fun j H4 j0 j1 gK => ?_⟩
          have hR4 := hR2.mono (gK.tups g'.2)
          obtain ⟨r', u, ha, hmem, hu⟩ := pool_at hR4 j0 j1
          have hzs4 := gK.lst nD2 hzs
          have hv4 := gK.lst nD hv2
          have hT4 := gK.lst nT hT2
          refine ⟨D, vs, j, _, rfl, rfl, SqL.of hv4, ha, len2, fun p2 hp2 => ?_⟩
          have n2 : D2 ≠ p2 := ne_of_none hzs4 hp2
          have n3 : D ≠ p2 := ne_of_none hv4 hp2
          have n4 : T ≠ p2 := ne_of_none hT4 hp2
          have tA : Tups H4 (upd H4 p2 (.tup [.int (y - total ps), .ref r'])) := tups_new hp2
          have hz5 : (upd H4 p2 (.tup [.int (y - total ps), .ref r'])) D2 = some (.lst zs) := Eq.trans (upd_ne n2) hzs4
          have tB := tups_lst (o := .lst (zs ++ [.ref p2])) hz5
          refine ⟨D2, _, _, rfl, rfl, hz5, ?_, ?_⟩
          · have := hPz.length
            exact line_big (by omega)
          refine ⟨_, rfl, ?_, ?_, hR4.mono (tA.trans tB), ?_, _, wg_put hzs4 (hPz.mono (gK.tups g'.2)) hu hp2, ?_, fun q' hq' => ?_, ?_⟩
          · exact ((g'.trans gK).same (same_new hp2)).put (hfree gJ hD2 nD2) nD2
          · rw [upd_ne nDD, upd_ne n3]
            exact hv4
          · rw [upd_ne nTD, upd_ne n4]
            exact hT4
          · rw [List.length_append, lp]
            rfl
          · rcases List.mem_append.mp hq' with h | h
            · exact op q' h
            · rw [List.mem_singleton.mp h]
              exact ⟨by show 1 ≤ y - total ps; omega, wu u hmem⟩
          · rw [tn, total_append]
            show some y = some (total ps + (y - total ps + 0))
            congr 1
            omega
        · obtain ⟨x4, rfl, g', hv2, hR2, hT2, ps, hw, lp, op, tp⟩ := hp
          have e1 : (((ns.length : Nat) : Int) - 1).toNat = ns.length - 1 := by omega
          rw [e1, last] at tp
          have pp : Pos ps := fun q' hq' => (op q' hq').1
          refine ⟨.ref D2, rfl, D2, ps, rfl, hw, by omega, fun H5 p5 r5 s5 w5 c5 f5 l5 => ?_⟩
          refine q H5 p5 r5 (g'.same s5) w5 c5 ?_ (fun u hu => ?_) (by omega)
          · rw [f5, ← total_len pp.nonneg]
            exact (Option.some.inj tp).symm
          · rw [f5] at hu
            obtain ⟨c', hc', _⟩ := mem_flat hu
            exact (op _ hc').2
end
end K8
set_option Elab.async false
set_option linter.all false
set_option maxRecDepth 100000
set_option maxHeartbeats 4000000
/-! the sum of all sorts -/
namespace K8
open PySem PySem.Spec PyProof.Rows L2
section
variable {P : Program} {w : World} {K : PySem.W.Frag} {mg : Str → Option Value} {base : Heap}
abbrev sAll : Stmt := topS 27
abbrev nAll : List Str := ["_law_told", "_law_wide_here", "_law_total", "_law_weights_here", "_law_many_here", "_law_weight"]
theorem scAll : FnScope nAll ["_law_told", "_law_wide_here"] (defScope sAll) := ⟨rfl, rfl, rfl, by decide +kernel, rfl, by decide +kernel, by decide +kernel⟩
def spAll : Sp := fun vs H Q _ => ∃ (a : Addr) (d : Nat) (ys : List V) (ts : List (Wt × Int)), vs = [.ref a, .int ((d : Nat) : Int)] ∧ H a = some (.lst ys) ∧ StsAt H ys ts ∧ 1 ≤ d ∧ d ≤ 24 ∧ (∀ q ∈ ts, q.1.length = d ∧ Bt 1000 q.2 ∧ Bts 3000 q.1) ∧
  ∀ H' p, Same H H' → WtAt H' p (allM d ts) → Q (.ref p) H'
theorem ok_all {f : Addr} {fd : FuncData} (F : Fun K "_law_all" "_law_all" sAll f fd) (mt : mg "tuple" = none) (Dp : Dfn P w K mg base 1 "_law_plus" ["_law_one", "_law_other"] spPlus) : FnOk P w K mg base CX0 2 f fd ["_law_told", "_law_wide_here"] spAll := by
  obtain ⟨f1, fd1, G1, g1, k1, b1⟩ := Dp.ex
  refine F.ok scAll (fun vs H Q E h => ?_) (fun cdv A outer s H vs Q E hr h => ?_)
  · obtain ⟨a, d, ys, ts, rfl, _⟩ := h
    rfl
  · obtain ⟨a, d, ys, ts, rfl, hA, hS, d1, d24, hb, q⟩ := h
    refine ⟨_, pss_cons (ps_set (i := 2) scAll.nd rfl (.inl rfl) (pe_op op_zeros (pe_tup (pa_cons pe_int pa_nil)) (pv 1)))
      (pss_cons (ps_for PassesOwn.never rfl (pi_list (pv 0)) (pg_tup rfl (pgs_cons (pg_name (i := 3) scAll.nd rfl (.inl rfl)) (pgs_cons (pg_name (i := 4) scAll.nd rfl (.inr rfl)) pgs_nil)))
        (pss_one (ps_set (i := 2) scAll.nd rfl (.inl rfl) (pe_call G1 hr (by rfl) g1 k1 b1 .nil pass0 (pa_cons (pv 2) (pa_cons (pe_callTy call_tuple_of (by rfl) mt boot_tuple (pa_cons
          (pe_lc (own := [("_law_weight", 5)]) (g := gName 5) (tt := tYes) rfl scAll.nd (pi_tup (pv 3)) (blkOk_by (N := nAll) (sc := defScope sAll) (by decide +kernel))
            (fun _ _ _ _ _ => pg_name (i := 5) scAll.nd rfl (Or.inl rfl)) (fun _ _ _ _ _ => pts_nil) (fun _ _ _ _ _ => pe_op op_mulW (pv 4) (pv 5))) pa_nil)) pa_nil))))))
      (pss_one (ps_ret (pv 2)))), ?_⟩
    refine ⟨len1, fun p0 hp0 => ?_⟩
    refine ⟨_, rfl, p0, _, rfl, rfl, upd_same, by omega, by omega, fun H1 p1 s1 w1 => ?_⟩
    rw [show (((d : Nat) : Int)).toNat = d by omega] at w1
    have s01 := (same_new (o := .tup [.int 0]) hp0).trans s1
    have e1 : ∀ i, i ≤ ts.length → ((ts.take i).foldl (fun acc q => zadd acc (q.1.map fun x => q.2 * x)) (List.replicate d 0)).length = d := fun i _ =>
      (allM_from (ts.take i) (List.replicate d 0) List.length_replicate fun q hq => (hb q (List.mem_of_mem_take hq)).1).1
    refine ⟨.ref a, rfl, a, rfl, ⟨_, SqL.of (s01 _ _ hA)⟩, for_list (K := K) (a := a) (xs := ys)
      (fun i σ H' => ∃ t x3 x4 x5, σ = [some (.ref a), some (.int ((d : Nat) : Int)), some (.ref t), x3, x4, x5] ∧ Same H H' ∧ WtAt H' t ((ts.take i).foldl (fun acc q => zadd acc (q.1.map fun x => q.2 * x)) (List.replicate d 0)))
      ⟨p1, none, none, none, rfl, s01, w1⟩ (fun i σ H' _ hp => ?_) (fun i v σ H' hv hp => ?_) (fun σ H' hp => ?_)⟩
    · obtain ⟨_, _, _, _, _, sm, _⟩ := hp
      exact SqL.of (sm _ _ hA)
    · obtain ⟨t, x3, x4, x5, rfl, sm, ht⟩ := hp
      obtain ⟨qq, hqi, hqc⟩ := hS.get hv
      obtain ⟨u, n⟩ := qq
      obtain ⟨z, r, rfl, hz, hru⟩ := hqc.mono (same_tups sm)
      obtain ⟨lu, bn, bu⟩ := hb (u, n) (List.mem_of_getElem? hqi)
      have hi : i < ts.length := (List.getElem?_eq_some_iff.mp hqi).1
      refine ⟨z, _, rfl, SqT.of hz, rfl, .ref r, [.int n], rfl, .int n, [], rfl, rfl, ?_⟩
      refine ⟨.ref t, rfl, .ref r, rfl, r, rfl, ⟨_, SqT.of hru⟩, fun D hD => lc_tup (K := K) (a := r) (xs := u.map V.int) (fun i H2 => Same H' H2 ∧ H2 D = some (.lst (((u.take i).map fun x => n * x).map V.int)))
        ⟨same_new hD, upd_same⟩ (fun i H2 _ hp => SqT.of (hp.1 _ _ hru)) (fun i v H2 hv hp => ?_) (fun H2 hp => ?_)⟩
      · obtain ⟨x, hx, rfl⟩ := ints_get hv
        obtain ⟨s2, hDl⟩ := hp
        refine ⟨rfl, .int n, rfl, .int x, rfl, n, x, rfl, rfl, wide_mul bn (bu x (List.mem_of_getElem? hx)) (by omega) (by omega) (by omega), _, hDl, ?_, same_set s2 hD, ?_⟩
        · refine line_big ?_
          have : u.length = d := lu
          rw [List.length_map, List.length_map, List.length_take]
          omega
        · rw [upd_same, map_next hx, List.map_append]
          rfl
      · obtain ⟨s2, hDl⟩ := hp
        rw [map_all (List.length_map _)] at hDl
        refine ⟨D, _, rfl, .inl ⟨SqL.of hDl, fun p2 hp2 => ?_⟩⟩
        have s3 := s2.trans (same_new (o := .tup ((u.map fun x => n * x).map V.int)) hp2)
        have le := e1 i (by omega)
        have lm : (u.map fun x => n * x).length = d := by
          rw [List.length_map]
          exact lu
        refine ⟨t, p2, _, _, rfl, ht.mono (same_tups s3), upd_same, by rw [le, lm], by rw [le]; exact d24, fun H4 p4 s4 w4 => ?_⟩
        refine ⟨p4, _, _, _, rfl, sm.trans (s3.trans s4), ?_⟩
        rw [take_next' hqi, List.foldl_append]
        exact w4
    · obtain ⟨t, x3, x4, x5, rfl, sm, ht⟩ := hp
      rw [hS.length, List.take_length] at ht
      exact ⟨.ref t, rfl, q H' t sm ht⟩
end
end K8
set_option Elab.async false
set_option linter.all false
set_option maxRecDepth 100000
set_option maxHeartbeats 8000000
/-! what the law asks of two weighings -/
namespace K8
open PySem PySem.Spec PyProof.Rows L2
theorem Bt.add {k : Nat} {x y : Int} (h : Bt k x) (h' : Bt k y) : Bt (k + 1) (x + y) := by
  have h1 : x.natAbs < 2 ^ k := h
  have h2 : y.natAbs < 2 ^ k := h'
  show (x + y).natAbs < 2 ^ (k + 1)
  rw [Nat.pow_succ]
  have := Int.natAbs_add_le x y
  omega
theorem bts_zadd {k : Nat} : ∀ {u v : Wt}, Bts k u → Bts k v → Bts (k + 1) (zadd u v)
  | [], _, _, _ => fun _ h => nomatch h
  | _ :: _, [], _, _ => fun _ h => nomatch h
  | x :: u, y :: v, h, h' => fun z hz => by
    rcases List.mem_cons.mp (show z ∈ (x + y) :: zadd u v from hz) with e | hz
    · rw [e]
      exact (h x List.mem_cons_self).add (h' y List.mem_cons_self)
    · exact bts_zadd (fun a ha => h a (List.mem_cons_of_mem _ ha)) (fun a ha => h' a (List.mem_cons_of_mem _ ha)) z hz
theorem bts_vz {k : Nat} : ∀ {a b : List Wt}, (∀ u ∈ a, Bts k u) → (∀ u ∈ b, Bts k u) → ∀ u ∈ vz a b, Bts (k + 1) u
  | [], _, _, _ => fun _ h => nomatch h
  | _ :: _, [], _, _ => fun _ h => nomatch h
  | x :: a, y :: b, h, h' => fun u hu => by
    rcases List.mem_cons.mp (show u ∈ zadd x y :: vz a b from hu) with e | hu
    · rw [e]
      exact bts_zadd (h x List.mem_cons_self) (h' y List.mem_cons_self)
    · exact bts_vz (fun a ha => h a (List.mem_cons_of_mem _ ha)) (fun a ha => h' a (List.mem_cons_of_mem _ ha)) u hu
theorem bts_wv {k l d t : Nat} {a : List Wt} (h : ∀ u ∈ a, Bts k u) (hl : a.length < 2 ^ l) : ∀ u ∈ wv d t a, Bts (l + k) u := fun u hu x hx => by
  obtain ⟨p, _, rfl⟩ := List.mem_map.mp hu
  obtain ⟨j, _, rfl⟩ := List.mem_map.mp hx
  have hb : ∀ y ∈ col j a, y.natAbs ≤ 2 ^ k := fun y hy => by
    obtain ⟨w, hw, rfl⟩ := List.mem_map.mp hy
    by_cases e : j < w.length
    · have : w.getD j 0 ∈ w := by
        rw [List.getD_eq_getElem?_getD, List.getElem?_eq_getElem e]
        exact List.getElem_mem e
      exact Nat.le_of_lt (h w hw _ this)
    · rw [List.getD_eq_getElem?_getD, List.getElem?_eq_none (by omega)]
      exact Nat.zero_le _
  have := wnd_bound (t := t) (p := p) 0 hb
  rw [col_len] at this
  refine Nat.lt_of_le_of_lt this ?_
  rw [Nat.pow_add]
  exact Nat.mul_lt_mul_of_pos_right hl (Nat.pow_pos (by decide))
/-- a weighing of width d, of numbers that may be multiplied -/
structure Fine (d : Nat) (r : List Pc) : Prop where
  can : Canon r
  wd : Wd d (flat r)
  bw : ∀ u ∈ flat r, Bts 3000 u
  bl : (flat r).length < 2 ^ 1000
theorem Fine.many {d : Nat} {r : List Pc} (h : Fine d r) : ∀ p ∈ r, Bt 1000 p.1 := fun p hp => by
  obtain ⟨a, b⟩ := many_le_len h.can.1 p hp
  exact Bt.of_lt (by omega) b (by show (((flat r).length : Int)).natAbs < _; rw [Int.natAbs_natCast]; exact h.bl)
theorem Fine.wts {d : Nat} {r : List Pc} (h : Fine d r) : ∀ p ∈ r, Bts 3000 p.2 ∧ p.2.length = d := fun p hp =>
  have m : p.2 ∈ flat r := flat_mem (h.can.1 p hp) hp
  ⟨h.bw _ m, h.wd _ m⟩
theorem Fine.sorts {d : Nat} {r : List Pc} {ts ts' : List (Wt × Int)} (h : Fine d r) (ty : Tally r ts) (pm : ts'.Perm ts) : (∀ q ∈ ts', q.1.length = d ∧ Bt 1000 q.2 ∧ Bts 3000 q.1) ∧ allM d ts' = tot d (flat r) := by
  refine ⟨fun q hq => ?_, allM_sorts h.can.1.nonneg (fun p hp => (h.wts p hp).2) ty pm⟩
  have hq' := pm.mem_iff.mp hq
  obtain ⟨p, hp, e⟩ := List.mem_map.mp (ty.keys q hq')
  obtain ⟨a, b⟩ := ty.range q hq'
  rw [total_len h.can.1.nonneg] at b
  refine ⟨by rw [← e]; exact (h.wts p hp).2, Bt.of_lt a b ?_, by rw [← e]; exact (h.wts p hp).1⟩
  show (((flat r).length : Int)).natAbs < _
  rw [Int.natAbs_natCast]
  exact h.bl
theorem pow_le {a b : Nat} (h : a ≤ b) : 2 ^ a ≤ 2 ^ b := Nat.pow_le_pow_right (by decide) h
theorem Fine.of {d k : Nat} {r : List Pc} (c : Canon r) (hw : Wd d (flat r)) (hb : ∀ u ∈ flat r, Bts k u) (hk : k ≤ 3000) (hl : (flat r).length < 2 ^ 1000) : Fine d r := ⟨c, hw, fun u hu => (hb u hu).of_le hk, hl⟩
theorem Fine.rev {d : Nat} {r : List Pc} (h : Fine d r) : Fine d r.reverse := by
  have e := flat_reverse r
  refine ⟨h.can.reverse, fun u hu => h.wd u ?_, fun u hu => h.bw u ?_, ?_⟩
  · rw [e] at hu
    exact List.mem_reverse.mp hu
  · rw [e] at hu
    exact List.mem_reverse.mp hu
  · rw [e, List.length_reverse]
    exact h.bl
theorem ne_nil_of {r : List Pc} {n : Nat} (h : (flat r).length = n) (hn : 0 < n) : r ≠ [] := fun e => by
  rw [e] at h
  have : (0 : Nat) = n := h
  omega
end K8
set_option Elab.async false
set_option linter.all false
set_option maxRecDepth 100000
set_option maxHeartbeats 8000000
/-! the law over two weighings -/
namespace K8
open PySem PySem.Spec PyProof.Rows L2
theorem vz_zero {d : Nat} : ∀ {A : List Wt}, Wd d A → vz (List.replicate A.length (List.replicate d 0)) A = A
  | [], _ => rfl
  | u :: A, h => by
    have hu := h u List.mem_cons_self
    have e : zadd (List.replicate d 0) u = u := by
      refine wt_ext (d := d) (by rw [zadd_len] <;> rw [List.length_replicate]; exact hu.symm) hu fun j hj => ?_
      rw [getD_zadd j (by rw [List.length_replicate]; exact hu.symm), List.getD_eq_getElem?_getD, List.getElem?_replicate, if_pos hj]
      show 0 + _ = _
      omega
    show zadd (List.replicate d 0) u :: vz (List.replicate A.length (List.replicate d 0)) A = u :: A
    rw [e, vz_zero h.tail]
/-- nought places, then A, then three more -/
theorem laid_flat {d z : Nat} {A : List Wt} (h : Wd d A) {M : Nat} (hM : M = z + A.length + 3) :
    (List.replicate M (List.replicate d (0 : Int))).take z ++ vz (((List.replicate M (List.replicate d (0 : Int))).drop z).take A.length) A ++ (List.replicate M (List.replicate d (0 : Int))).drop (z + A.length) =
      List.replicate z (List.replicate d 0) ++ (A ++ List.replicate 3 (List.replicate d 0)) := by
  rw [List.take_replicate, List.drop_replicate, List.take_replicate, List.drop_replicate, show min z M = z by omega, show min A.length (M - z) = A.length by omega, show M - (z + A.length) = 3 by omega, vz_zero h, List.append_assoc]
theorem mul_lt {t m : Nat} (ht : t < 2 ^ 211) (hm : m ≤ 9) : t * m < 2 ^ 1000 := by
  refine Nat.lt_of_le_of_lt (Nat.mul_le_mul_left t (show m ≤ 2 ^ 4 by omega)) ?_
  refine Nat.lt_of_lt_of_le (Nat.mul_lt_mul_of_pos_right ht (by decide)) ?_
  rw [← Nat.pow_add]
  exact pow_le (by decide)
section
variable {P : Program} {w : World} {K : PySem.W.Frag} {mg : Str → Option Value} {base : Heap}
abbrev sKept : Stmt := topS 28
abbrev nKept : List Str := ["_law_one", "_law_other", "_law_wide_here", "_law_t", "_law_more", "_law_spot", "_law_mine", "_law_both", "_law_loop", "_law_long", "_law_bare", "_law_laid"]
abbrev pKept : List Str := ["_law_one", "_law_other", "_law_wide_here", "_law_t", "_law_more", "_law_spot"]
theorem scKept : FnScope nKept pKept (defScope sKept) := ⟨rfl, rfl, rfl, by decide +kernel, rfl, by decide +kernel, by decide +kernel⟩
def spKept : Sp := fun vs H Q _ => ∃ (a b : Addr) (d t m s : Nat) (ps qs : List Pc), vs = [.ref a, .ref b, .int ((d : Nat) : Int), .int ((t : Nat) : Int), .int ((m : Nat) : Int), .int ((s : Nat) : Int)] ∧ WgAt H a ps ∧ WgAt H b qs ∧ Canon ps ∧ Canon qs ∧ ps ≠ [] ∧
  (flat ps).length = (flat qs).length ∧ (∀ u ∈ flat ps, Wok d u) ∧ (∀ u ∈ flat qs, Wok d u) ∧ (flat ps).length < 2 ^ 210 ∧ ps.length ≤ 45 ∧ qs.length ≤ 45 ∧ 1 ≤ d ∧ d ≤ 24 ∧ 1 ≤ t ∧ t < 2 ^ 211 ∧ 1 ≤ m ∧ m ≤ 9 ∧ s ≤ (flat ps).length ∧ ∀ H', Same H H' → Q (.bl true) H'
theorem ok_kept {f : Addr} {fd : FuncData} (F : Fun K "_law_kept" "_law_kept" sKept f fd) (Dall : Dfn P w K mg base 2 "_law_all" ["_law_told", "_law_wide_here"] spAll) (Dso : Dfn P w K mg base 1 "sorts" ["weighing"] spSorts)
    (Dad : Dfn P w K mg base 2 "added" ["one", "other"] spAdded) (Dlp : Dfn P w K mg base 1 "_law_plus" ["_law_one", "_law_other"] spPlus) (Dwo : Dfn P w K mg base 4 "wound" ["weighing", "t"] spWound) (Dle : Dfn P w K mg base 1 "length" ["weighing"] spLength)
    (Dba : Dfn P w K mg base 1 "backward" ["weighing"] spBackward) (Dsh : Dfn P w K mg base 1 "shaped" ["pieces"] spShaped) (Dpa : Dfn P w K mg base 1 "part" ["weighing", "begin", "end"] spPart) (Dpu : Dfn P w K mg base 3 "put_to" ["weighing", "begin", "other"] spPutTo)
    (Dwa : Dfn P w K mg base 1 "weights_at" ["weighing", "place"] spWat) : FnOk P w K mg base CX0 5 f fd pKept spKept := by
  obtain ⟨f1, fd1, Gal, g1, k1, b1⟩ := Dall.ex
  obtain ⟨f2, fd2, Gso, g2, k2, b2⟩ := Dso.ex
  obtain ⟨f3, fd3, Gad, g3, k3, b3⟩ := Dad.ex
  obtain ⟨f4, fd4, Glp, g4, k4, b4⟩ := Dlp.ex
  obtain ⟨f5, fd5, Gwo, g5, k5, b5⟩ := Dwo.ex
  obtain ⟨f6, fd6, Gle, g6, k6, b6⟩ := Dle.ex
  obtain ⟨f7, fd7, Gba, g7, k7, b7⟩ := Dba.ex
  obtain ⟨f8, fd8, Gsh, g8, k8, b8⟩ := Dsh.ex
  obtain ⟨f9, fd9, Gpa, g9, k9, b9⟩ := Dpa.ex
  obtain ⟨f10, fd10, Gpu, g10, k10, b10⟩ := Dpu.ex
  obtain ⟨f11, fd11, Gwa, g11, k11, b11⟩ := Dwa.ex
  refine F.ok scKept (fun vs H Q E h => ?_) (fun cdv A outer s H vs Q E hr h => ?_)
  · obtain ⟨a, b, d, t, m, s, ps, qs, rfl, _⟩ := h
    rfl
  · obtain ⟨a, b, d, t, m, z, ps, qs, rfl, hA, hB, cA, cB, hne, hlen, wA, wB, hN, lA, lB, d1, d24, t1, tb, m1, m9, hz, q⟩ := h
    have r1 := hr.mono (show 1 ≤ 4 by decide)
    have r2 := hr.mono (show 2 ≤ 4 by decide)
    have r3 := hr.mono (show 3 ≤ 4 by decide)
    refine ⟨_, pss_cons (ps_set (i := 6) scKept.nd rfl (.inl rfl) (pe_call Gal r2 (by rfl) g1 k1 b1 .nil pass0 (pa_cons (pe_call Gso r1 (by rfl) g2 k2 b2 .nil pass0 (pa_cons (pv 0) pa_nil)) (pa_cons (pv 2) pa_nil))))
      (pss_cons (ps_set (i := 7) scKept.nd rfl (.inl rfl) (pe_call Gad r2 (by rfl) g3 k3 b3 .nil pass0 (pa_cons (pv 0) (pa_cons (pv 1) pa_nil))))
      (pss_cons (ps_if (pt_cmpR (op_neD hr.units) (pe_call Gal r2 (by rfl) g1 k1 b1 .nil pass0 (pa_cons (pe_call Gso r1 (by rfl) g2 k2 b2 .nil pass0 (pa_cons (pv 7) pa_nil)) (pa_cons (pv 2) pa_nil)))
          (pe_call Glp r1 (by rfl) g4 k4 b4 .nil pass0 (pa_cons (pv 6) (pa_cons (pe_call Gal r2 (by rfl) g1 k1 b1 .nil pass0 (pa_cons (pe_call Gso r1 (by rfl) g2 k2 b2 .nil pass0 (pa_cons (pv 1) pa_nil)) (pa_cons (pv 2) pa_nil))) pa_nil))) (nomark _)) (pss_one (ps_ret pe_bl)) pss_nil)
      (pss_cons (ps_set (i := 8) scKept.nd rfl (.inl rfl) (pe_call Gwo hr (by rfl) g5 k5 b5 .nil pass0 (pa_cons (pv 0) (pa_cons (pv 3) pa_nil))))
      (pss_cons (ps_if (PW.pt (pw_or (pt_cmpR (op_neD hr.units) (pe_call Gal r2 (by rfl) g1 k1 b1 .nil pass0 (pa_cons (pe_call Gso r1 (by rfl) g2 k2 b2 .nil pass0 (pa_cons (pv 8) pa_nil)) (pa_cons (pv 2) pa_nil))) (pv 6) (nomark _))
          (pw_or (pt_cmpR op_ne (pe_call Gle r1 (by rfl) g6 k6 b6 .nil pass0 (pa_cons (pv 8) pa_nil)) (pv 3) (nomark _))
          (pw_or1 (pt_cmpR (op_neD hr.units) (pe_call Gal r2 (by rfl) g1 k1 b1 .nil pass0 (pa_cons (pe_call Gso r1 (by rfl) g2 k2 b2 .nil pass0 (pa_cons (pe_call Gba r1 (by rfl) g7 k7 b7 .nil pass0 (pa_cons (pv 0) pa_nil)) pa_nil)) (pa_cons (pv 2) pa_nil))) (pv 6) (nomark _))))))
          (pss_one (ps_ret pe_bl)) pss_nil)
      (pss_cons (ps_if (PW.pt (pw_or (pt_cmpR (op_neD hr.units) (pe_call Gwo hr (by rfl) g5 k5 b5 .nil pass0 (pa_cons (pe_call Gwo hr (by rfl) g5 k5 b5 .nil pass0 (pa_cons (pv 0) (pa_cons (pe_op op_mul (pv 3) (pv 4)) pa_nil))) (pa_cons (pv 3) pa_nil))) (pv 8) (nomark _))
          (pw_or1 (pt_cmpR (op_neD hr.units) (pe_call Gwo hr (by rfl) g5 k5 b5 .nil pass0 (pa_cons (pv 7) (pa_cons (pv 3) pa_nil)))
            (pe_call Gad r2 (by rfl) g3 k3 b3 .nil pass0 (pa_cons (pv 8) (pa_cons (pe_call Gwo hr (by rfl) g5 k5 b5 .nil pass0 (pa_cons (pv 1) (pa_cons (pv 3) pa_nil))) pa_nil))) (nomark _)))))
          (pss_one (ps_ret pe_bl)) pss_nil)
      (pss_cons (ps_set (i := 9) scKept.nd rfl (.inl rfl) (pe_call Gle r1 (by rfl) g6 k6 b6 .nil pass0 (pa_cons (pv 0) pa_nil)))
      (pss_cons (ps_if (pt_cmpR (op_neD hr.units) (pe_call Gsh r1 (by rfl) g8 k8 b8 .nil pass0 (pa_cons (pe_op op_cat (pe_call Gpa r1 (by rfl) g9 k9 b9 .nil pass0 (pa_cons (pv 0) (pa_cons pe_int (pa_cons (pv 5) pa_nil))))
            (pe_call Gpa r1 (by rfl) g9 k9 b9 .nil pass0 (pa_cons (pv 0) (pa_cons (pv 5) (pa_cons (pv 9) pa_nil))))) pa_nil)) (pv 0) (nomark _)) (pss_one (ps_ret pe_bl)) pss_nil)
      (pss_cons (ps_if (pt_cmpR (op_neD hr.units) (pe_call Gpa r1 (by rfl) g9 k9 b9 .nil pass0 (pa_cons (pv 7) (pa_cons (pv 5) (pa_cons (pv 9) pa_nil))))
          (pe_call Gad r2 (by rfl) g3 k3 b3 .nil pass0 (pa_cons (pe_call Gpa r1 (by rfl) g9 k9 b9 .nil pass0 (pa_cons (pv 0) (pa_cons (pv 5) (pa_cons (pv 9) pa_nil)))) (pa_cons (pe_call Gpa r1 (by rfl) g9 k9 b9 .nil pass0 (pa_cons (pv 1) (pa_cons (pv 5) (pa_cons (pv 9) pa_nil)))) pa_nil))) (nomark _))
          (pss_one (ps_ret pe_bl)) pss_nil)
      (pss_cons (ps_set (i := 10) scKept.nd rfl (.inl rfl) (pe_lst (pa_cons (pe_tup (pa_cons (pe_op op_add (pe_op op_add (pv 9) (pv 5)) pe_int) (pa_cons (pe_op op_zeros (pe_tup (pa_cons pe_int pa_nil)) (pv 2)) pa_nil))) pa_nil)))
      (pss_cons (ps_set (i := 11) scKept.nd rfl (.inl rfl) (pe_call Gpu r3 (by rfl) g10 k10 b10 .nil pass0 (pa_cons (pv 10) (pa_cons (pv 5) (pa_cons (pv 0) pa_nil)))))
      (pss_one (ps_ret (pe_and (pe_cmpR (op_eqD hr.units) (pe_call Gpa r1 (by rfl) g9 k9 b9 .nil pass0 (pa_cons (pv 11) (pa_cons (pv 5) (pa_cons (pe_op op_add (pv 5) (pv 9)) pa_nil)))) (pv 0) (nomark _))
        (pe_one (pe_cmpR (op_eqD hr.units) (pe_call Gwa r1 (by rfl) g11 k11 b11 .nil pass0 (pa_cons (pv 11) (pa_cons (pe_op op_add (pv 5) (pv 9)) pa_nil))) (pe_op op_zeros (pe_tup (pa_cons pe_int pa_nil)) (pv 2)) (nomark _)))))))))))))))), ?_⟩
    have fA : Fine d ps := Fine.of (k := 206) cA (fun u hu => (wA u hu).1) (fun u hu => (wA u hu).2) (by decide) (Nat.lt_of_lt_of_le hN (pow_le (by decide)))
    have fB : Fine d qs := Fine.of (k := 206) cB (fun u hu => (wB u hu).1) (fun u hu => (wB u hu).2) (by decide) (by rw [← hlen]; exact Nat.lt_of_lt_of_le hN (pow_le (by decide)))
    have bT : Bt 1000 ((t : Nat) : Int) := by
      show (((t : Nat) : Int)).natAbs < _
      rw [Int.natAbs_natCast]
      exact Nat.lt_of_lt_of_le tb (pow_le (by decide))
    -- mine
    refine ⟨.ref a, rfl, a, ps, rfl, hA, cA.1, by omega, fun H1 p1 y1 v1 v1' s1 e1 st1 pm1 ty1 => ?_⟩
    obtain ⟨bd1, al1⟩ := fA.sorts ty1 pm1
    refine ⟨_, rfl, p1, d, y1, v1', rfl, e1, st1, d1, d24, bd1, fun H2 p2 s2 w2 => ?_⟩
    rw [al1] at w2
    have hA2 := hA.mono (s1.trans s2)
    have hB2 := hB.mono (s1.trans s2)
    -- both
    refine ⟨.ref a, rfl, .ref b, rfl, a, b, d, ps, qs, rfl, hA2, hB2, cA.1, cB.1, hlen, fA.wd, fB.wd, d24, by omega, fun H3 p3 x3 s3 w3 c3 f3' l3 => ?_⟩
    have fX : Fine d x3 := Fine.of (k := 207) c3 (by rw [f3']; exact vz_wd fA.wd fB.wd) (by rw [f3']; exact bts_vz (fun u hu => (wA u hu).2) fun u hu => (wB u hu).2) (by decide)
      (by rw [f3', vz_len hlen]; exact fA.bl)
    have lX : (flat x3).length = (flat ps).length := by rw [f3', vz_len hlen]
    -- the sums of both
    refine ⟨.ref p3, rfl, p3, x3, rfl, w3, c3.1, by omega, fun H4 p4 y4 v4 v4' s4 e4 st4 pm4 ty4 => ?_⟩
    obtain ⟨bd4, al4⟩ := fX.sorts ty4 pm4
    refine ⟨_, rfl, p4, d, y4, v4', rfl, e4, st4, d1, d24, bd4, fun H5 p5 s5 w5 => ?_⟩
    rw [al4] at w5
    have s25 := s3.trans (s4.trans s5)
    refine ⟨.ref p2, rfl, .ref b, rfl, b, qs, rfl, hB2.mono s25, cB.1, by omega, fun H6 p6 y6 v6 v6' s6 e6 st6 pm6 ty6 => ?_⟩
    obtain ⟨bd6, al6⟩ := fB.sorts ty6 pm6
    refine ⟨_, rfl, p6, d, y6, v6', rfl, e6, st6, d1, d24, bd6, fun H7 p7 s7 w7 => ?_⟩
    rw [al6] at w7
    have s27 := s25.trans (s6.trans s7)
    refine ⟨p2, p7, _, _, rfl, w2.mono (same_tups s27), w7, by rw [tot_len, tot_len], by rw [tot_len]; exact d24, fun H8 p8 s8 w8 => ?_⟩
    refine ⟨dWt _, dWt _, (w5.mono (same_tups (s6.trans (s7.trans s8)))).dp, w8.dp, shaped_wt _, shaped_wt _, _, rfl, ?_⟩
    rw [eqv_wt, f3', decide_eq_true (tot_vz fA.wd fB.wd hlen)]
    refine iteF ?_
    have s28 := s27.trans s8
    have hA8 := hA2.mono s28
    have hB8 := hB2.mono s28
    have mi8 := w2.mono (same_tups s28)
    have w3' := w3.mono (s4.trans (s5.trans (s6.trans (s7.trans s8))))
    -- loop
    refine ⟨.ref a, rfl, _, rfl, a, d, t, ps, rfl, hA8, cA.1, hne, fA.wd, d24, t1, bT, fA.many, fun p hp => (fA.wts p hp).1, by omega, fun H9 p9 x9 s9 w9 c9 f9 l9 => ?_⟩
    have tlt : t < 2 ^ 1000 := Nat.lt_of_lt_of_le tb (pow_le (by decide))
    have fL : Fine d x9 := Fine.of (k := 210 + 206) c9 (by rw [f9]; exact wv_wd) (by rw [f9]; exact bts_wv (fun u hu => (wA u hu).2) hN) (by decide) (by rw [f9, wv_len]; exact tlt)
    refine ⟨.ref p9, rfl, p9, x9, rfl, w9, c9.1, by omega, fun H10 p10 y10 v10 v10' s10 e10 st10 pm10 ty10 => ?_⟩
    obtain ⟨bd10, al10⟩ := fL.sorts ty10 pm10
    refine ⟨_, rfl, p10, d, y10, v10', rfl, e10, st10, d1, d24, bd10, fun H11 p11 s11 w11 => ?_⟩
    rw [al10] at w11
    have s9b := s9.trans (s10.trans s11)
    refine ⟨.ref p2, rfl, dWt _, dWt _, w11.dp, (mi8.mono (same_tups s9b)).dp, shaped_wt _, shaped_wt _, _, rfl, ?_⟩
    rw [eqv_wt, f9, decide_eq_true (tot_wv t1)]
    refine iteF ?_
    -- its length
    refine ⟨.ref p9, rfl, p9, x9, rfl, w9.mono (s10.trans s11), by omega, fun H12 s12 => ⟨_, rfl, rfl, _, rfl, ?_⟩⟩
    have tl9 : total x9 = ((t : Nat) : Int) := by rw [total_len c9.1.nonneg, f9, wv_len]
    rw [tl9, decide_eq_true rfl]
    refine iteF ?_
    have s9c := s9b.trans s12
    -- backward
    refine ⟨.ref a, rfl, a, ps, rfl, hA8.mono s9c, fun H13 p13 s13 w13 => ?_⟩
    refine ⟨p13, _, rfl, w13, cA.reverse.1, by rw [List.length_reverse]; omega, fun H14 p14 y14 v14 v14' s14 e14 st14 pm14 ty14 => ?_⟩
    obtain ⟨bd14, al14⟩ := fA.rev.sorts ty14 pm14
    refine ⟨_, rfl, p14, d, y14, v14', rfl, e14, st14, d1, d24, bd14, fun H15 p15 s15 w15 => ?_⟩
    rw [al14] at w15
    have s9d := s9c.trans (s13.trans (s14.trans s15))
    refine ⟨.ref p2, rfl, dWt _, dWt _, w15.dp, (mi8.mono (same_tups s9d)).dp, shaped_wt _, shaped_wt _, _, rfl, ?_⟩
    rw [eqv_wt, flat_reverse, decide_eq_true tot_rev]
    refine iteF ?_
    have hA15 := hA8.mono s9d
    have hB15 := hB8.mono s9d
    have w3'' := w3'.mono s9d
    have w9' := w9.mono (s10.trans (s11.trans (s12.trans (s13.trans (s14.trans s15)))))
    -- wound round so often more places, then round these
    have tm := mul_lt tb m9
    have tm0 : 0 < t * m := Nat.mul_pos t1 m1
    have bTm : Bt 1000 (((t * m : Nat)) : Int) := by
      show ((((t * m : Nat)) : Int)).natAbs < _
      rw [Int.natAbs_natCast]
      exact tm
    refine ⟨.ref a, rfl, _, rfl, _, rfl, _, _, rfl, rfl, .inr ⟨by omega, by omega⟩, a, d, t * m, ps, rfl, hA15, cA.1, hne, fA.wd, d24, tm0, bTm, fA.many, fun p hp => (fA.wts p hp).1, by omega, fun H16 p16 x16 s16 w16 c16 f16 l16 => ?_⟩
    have fM : Fine d x16 := Fine.of (k := 210 + 206) c16 (by rw [f16]; exact wv_wd) (by rw [f16]; exact bts_wv (fun u hu => (wA u hu).2) hN) (by decide) (by rw [f16, wv_len]; exact tm)
    refine ⟨_, rfl, p16, d, t, x16, rfl, w16, c16.1, ne_nil_of (n := t * m) (by rw [f16, wv_len]) tm0, fM.wd, d24, t1, bT, fM.many, fun p hp => (fM.wts p hp).1, by omega, fun H17 p17 x17 s17 w17 c17 f17 l17 => ?_⟩
    have w9a := w9'.mono (s16.trans s17)
    have e17 : x17 = x9 := canon_uniq c17 c9 (by rw [f17, f16, wv_wv t1 m1, f9])
    refine ⟨.ref p9, rfl, dWg _, dWg _, w17.dp, w9a.dp, shaped_wg _, shaped_wg _, _, rfl, ?_⟩
    rw [eqv_wg, decide_eq_true e17]
    refine iteF ?_
    -- both added and wound
    refine ⟨.ref p3, rfl, _, rfl, p3, d, t, x3, rfl, w3''.mono (s16.trans s17), c3.1, ne_nil_of lX (by
      cases ps with
      | nil => exact absurd rfl hne
      | cons p r =>
        have := flat_head (r := r) (cA.1.head)
        cases e : flat (p :: r) with
        | nil => rw [e] at this; cases this
        | cons _ _ => exact Nat.succ_pos _), fX.wd, d24, t1, bT, fX.many, fun p hp => (fX.wts p hp).1, by omega, fun H18 p18 x18 s18 w18 c18 f18 l18 => ?_⟩
    have hA18 := hA15.mono (s16.trans (s17.trans s18))
    have hB18 := hB15.mono (s16.trans (s17.trans s18))
    have w9b := w9a.mono s18
    have hneq : qs ≠ [] := ne_nil_of hlen.symm (by
      cases ps with
      | nil => exact absurd rfl hne
      | cons p r =>
        have := flat_head (r := r) (cA.1.head)
        cases e : flat (p :: r) with
        | nil => rw [e] at this; cases this
        | cons _ _ => exact Nat.succ_pos _)
    refine ⟨.ref p9, rfl, .ref b, rfl, _, rfl, b, d, t, qs, rfl, hB18, cB.1, hneq, fB.wd, d24, t1, bT, fB.many, fun p hp => (fB.wts p hp).1, by omega, fun H19 p19 x19 s19 w19 c19 f19 l19 => ?_⟩
    refine ⟨p9, p19, d, x9, x19, rfl, w9b.mono s19, w19, c9.1, c19.1, by rw [f9, f19, wv_len, wv_len], fL.wd, by rw [f19]; exact wv_wd, d24, by omega, fun H20 p20 x20 s20 w20 c20 f20 l20 => ?_⟩
    have e20 : x18 = x20 := canon_uniq c18 c20 (by rw [f18, f3', wv_vz fA.wd fB.wd hlen, f20, f9, f19])
    refine ⟨dWg _, dWg _, (w18.mono (s19.trans s20)).dp, w20.dp, shaped_wg _, shaped_wg _, _, rfl, ?_⟩
    rw [eqv_wg, decide_eq_true e20]
    refine iteF ?_
    have hA20 := hA18.mono (s19.trans s20)
    have hB20 := hB18.mono (s19.trans s20)
    have w3a := w3''.mono (s16.trans (s17.trans (s18.trans (s19.trans s20))))
    -- long
    have tA : total ps = ((flat ps).length : Int) := total_len cA.1.nonneg
    refine ⟨.ref a, rfl, a, ps, rfl, hA20, by omega, fun H21 s21 => ?_⟩
    have hA21 := hA20.mono s21
    have hB21 := hB20.mono s21
    have w3b := w3a.mono s21
    -- put together of its two parts
    refine ⟨.ref a, rfl, _, rfl, a, 0, _, ps, rfl, hA21, by omega, fun H22 p22 s22 w22 => ?_⟩
    have hA22 := hA21.mono s22
    refine ⟨.ref a, rfl, _, rfl, _, rfl, a, _, _, ps, rfl, hA22, by omega, fun H23 p23 s23 w23 => ?_⟩
    obtain ⟨us22, hu22, hP22⟩ := w22
    obtain ⟨us23, hu23, hP23⟩ := w23
    have n22 := partM_len (b := 0) (e := ((z : Nat) : Int)) (ahead := 0) (ps := ps)
    have n23 := partM_len (b := ((z : Nat) : Int)) (e := total ps) (ahead := 0) (ps := ps)
    have m22 := hP22.length
    have m23 := hP23.length
    refine ⟨p22, p23, _, _, rfl, rfl, s23 _ _ hu22, hu23, Nat.le_of_lt (line_big (by omega)), fun p24 h24' => ?_⟩
    have s24 := same_new (o := .lst (us22 ++ us23)) h24'
    refine ⟨p24, _, rfl, ⟨_, upd_same, (hP22.mono (same_tups (s23.trans s24))).append (hP23.mono (same_tups s24))⟩, by rw [List.length_append]; omega, fun H25 p25 x25 s25' w25 c25 f25 l25 => ?_⟩
    have hA25 := hA22.mono (s23.trans (s24.trans s25'))
    have e25 : x25 = ps := by
      refine canon_uniq c25 cA ?_
      rw [f25, flat_append, partM_flat cA.1, partM_flat cA.1, tA, show (((z : Nat) : Int) - 0).toNat = z by omega, show ((0 : Int) - 0).toNat = 0 by rfl, List.drop_zero, show (((flat ps).length : Int) - 0).toNat = (flat ps).length by omega, List.take_length, List.take_append_drop]
    refine ⟨.ref a, rfl, dWg _, dWg _, w25.dp, hA25.dp, shaped_wg _, shaped_wg _, _, rfl, ?_⟩
    rw [eqv_wg, decide_eq_true e25]
    refine iteF ?_
    have s2125 := s22.trans (s23.trans (s24.trans s25'))
    have hB25 := hB21.mono s2125
    have w3c := w3b.mono s2125
    -- parts of both
    refine ⟨.ref p3, rfl, _, rfl, _, rfl, p3, _, _, x3, rfl, w3c, by omega, fun H26 p26 s26 w26 => ?_⟩
    refine ⟨.ref a, rfl, _, rfl, _, rfl, a, _, _, ps, rfl, hA25.mono s26, by omega, fun H27 p27 s27' w27 => ?_⟩
    refine ⟨.ref b, rfl, _, rfl, _, rfl, b, _, _, qs, rfl, hB25.mono (s26.trans s27'), by omega, fun H28 p28 s28' w28 => ?_⟩
    have fpart : ∀ {r : List Pc}, Pos r → (flat r).length = (flat ps).length → flat (partM ((z : Nat) : Int) (total ps) 0 r) = (flat r).drop z := fun {r} hp hl => by
      rw [partM_flat hp, tA, ← hl, show (((z : Nat) : Int) - 0).toNat = z by omega, show (((flat r).length : Int) - 0).toNat = (flat r).length by omega, List.take_length]
    have fa := fpart cA.1 rfl
    have fb := fpart cB.1 hlen.symm
    have fx := fpart c3.1 lX
    have na := partM_len (b := ((z : Nat) : Int)) (e := total ps) (ahead := 0) (ps := ps)
    have nb := partM_len (b := ((z : Nat) : Int)) (e := total ps) (ahead := 0) (ps := qs)
    refine ⟨p27, p28, d, _, _, rfl, w27.mono s28', w28, partM_pos, partM_pos, by rw [fa, fb, List.length_drop, List.length_drop, hlen], by rw [fa]; exact fA.wd.drop, by rw [fb]; exact fB.wd.drop, d24, by omega, fun H29 p29 x29 s29 w29 c29 f29 l29 => ?_⟩
    have e29 : partM ((z : Nat) : Int) (total ps) 0 x3 = x29 := by
      refine canon_uniq (partM_canon c3) c29 ?_
      rw [fx, f29, fa, fb, f3', vz_drop]
    refine ⟨dWg _, dWg _, (w26.mono (s27'.trans (s28'.trans s29))).dp, w29.dp, shaped_wg _, shaped_wg _, _, rfl, ?_⟩
    rw [eqv_wg, decide_eq_true e29]
    refine iteF ?_
    have hA29 := hA25.mono (s26.trans (s27'.trans (s28'.trans s29)))
    -- bare
    refine ⟨_, rfl, _, rfl, _, _, rfl, rfl, _, _, rfl, rfl, len1, fun p0 h0 => ?_⟩
    refine ⟨_, rfl, p0, _, rfl, rfl, upd_same, by omega, by omega, fun H30 p30 s30 w30 => ?_⟩
    rw [show (((d : Nat) : Int)).toNat = d by omega] at w30
    refine ⟨len2, fun p31 h31 => ⟨len1, fun p32 h32 => ?_⟩⟩
    obtain ⟨w32, s32⟩ := wg_one (m := total ps + ((z : Nat) : Int) + 3) w30 h31 h32
    have hA32 := hA29.mono ((same_new (o := .tup [.int 0]) h0).trans (s30.trans s32))
    have fbare : flat [(total ps + ((z : Nat) : Int) + 3, List.replicate d (0 : Int))] = List.replicate (z + (flat ps).length + 3) (List.replicate d 0) := by
      rw [flat_one, tA, show (((flat ps).length : Int) + ((z : Nat) : Int) + 3).toNat = z + (flat ps).length + 3 by omega]
    refine ⟨.ref p32, rfl, _, rfl, .ref a, rfl, p32, a, z, d, _, ps, rfl, w32, hA32, (Canon.one (by omega)).1, cA.1, by rw [fbare, List.length_replicate]; omega, by rw [fbare]; exact Wd.rep List.length_replicate, fA.wd, d24, by show 1 + ps.length ≤ _; omega, fun H33 p33 x33 s33 w33 c33 f33 l33 => ?_⟩
    rw [fbare, laid_flat fA.wd rfl] at f33
    have l33' : x33.length ≤ 3 * 1 + ps.length := l33
    -- cut out there it is itself
    refine ⟨.ref p33, rfl, _, rfl, _, rfl, _, rfl, _, _, rfl, rfl, p33, _, _, x33, rfl, w33, by omega, fun H34 p34 s34 w34 => ?_⟩
    have e34 : partM ((z : Nat) : Int) (((z : Nat) : Int) + total ps) 0 x33 = ps := by
      refine canon_uniq (partM_canon c33) cA ?_
      rw [partM_flat c33.1, f33, tA, show (((z : Nat) : Int) + ((flat ps).length : Int) - 0).toNat = z + (flat ps).length by omega, show (((z : Nat) : Int) - 0).toNat = z by omega, List.take_append, List.length_replicate, List.drop_append, List.length_take, List.length_replicate,
        List.take_append, show z + (flat ps).length - z = (flat ps).length by omega, List.take_length, Nat.sub_self, List.take_zero, List.append_nil, show min (z + (flat ps).length) z = z by omega, Nat.sub_self, List.drop_zero, List.take_replicate, show min (z + (flat ps).length) z = z by omega, List.drop_replicate, Nat.sub_self]
      rfl
    refine ⟨.ref a, rfl, dWg _, dWg _, w34.dp, (hA32.mono (s33.trans s34)).dp, shaped_wg _, shaped_wg _, _, rfl, ?_⟩
    rw [eqv_wg, decide_eq_true e34]
    refine iteT ?_
    have at33 : (flat x33)[(((z : Nat) : Int) + total ps).toNat]? = some (List.replicate d 0) := by
      rw [f33, tA, show (((z : Nat) : Int) + ((flat ps).length : Int)).toNat = z + (flat ps).length by omega, List.getElem?_append_right (by rw [List.length_replicate]; omega), List.length_replicate, List.getElem?_append_right (by omega), show z + (flat ps).length - z - (flat ps).length = 0 by omega]
      rfl
    refine ⟨.ref p33, rfl, _, rfl, _, rfl, _, _, rfl, rfl, p33, _, x33, _, rfl, w33.mono s34, c33.1, by omega, at33, fun H35 r35 s35 w35 => ?_⟩
    refine ⟨len1, fun p36 h36 => ?_⟩
    refine ⟨_, rfl, p36, _, rfl, rfl, upd_same, by omega, by omega, fun H37 p37 s37 w37 => ?_⟩
    rw [show (((d : Nat) : Int)).toNat = d by omega] at w37
    refine ⟨dWt _, dWt _, (w35.mono (same_tups ((same_new (o := .tup [.int 0]) h36).trans s37))).dp, w37.dp, shaped_wt _, shaped_wt _, ?_⟩
    rw [eqv_wt, decide_eq_true rfl]
    exact q _ (s1.trans (s2.trans (s28.trans (s9d.trans (s16.trans (s17.trans (s18.trans (s19.trans (s20.trans (s21.trans (s2125.trans (s26.trans (s27'.trans (s28'.trans (s29.trans ((same_new (o := .tup [.int 0]) h0).trans (s30.trans (s32.trans (s33.trans (s34.trans (s35.trans ((same_new (o := .tup [.int 0]) h36).trans s37))))))))))))))))))))))
end
end K8
set_option Elab.async false
set_option linter.all false
set_option maxRecDepth 100000
set_option maxHeartbeats 8000000
/-! the law -/
namespace K8
open PySem PySem.Spec PyProof.Rows L2
theorem same_go {d : Addr} {H H1 H2 : Hp} (s : Same H H1) (n : H d = none) (g : Go d H1 H2) : Same H H2 := fun b o e => g.1 b o (ne_of_none e n) (s b o e)
theorem flat_pos {r : List Pc} (c : Canon r) (h : r ≠ []) : 0 < (flat r).length := by
  cases r with
  | nil => exact absurd rfl h
  | cons p r =>
    have := flat_head (r := r) c.1.head
    cases e : flat (p :: r) with
    | nil =>
      rw [e] at this
      cases this
    | cons _ _ => exact Nat.succ_pos _
section
variable {P : Program} {w : World} {K : PySem.W.Frag} {mg : Str → Option Value} {base : Heap}
abbrev sLaw : Stmt := topS 29
abbrev nLaw : List Str := ["_law_script", "_law_k", "_law_draw", "_law_wide_here", "_law_one", "_law_long", "_law_other", "_law_t"]
theorem scLaw : FnScope nLaw ["_law_script"] (defScope sLaw) := ⟨rfl, rfl, rfl, by decide +kernel, rfl, by decide +kernel, by decide +kernel⟩
def spLaw (K : PySem.W.Frag) : Sp := fun vs H Q _ => ∃ (a : Addr) (ns : List Int), vs = [.ref a] ∧ SqL K H a (ns.map V.int) ∧ ns.length ≤ 63 ∧ ∀ H', Q (.bl true) H'
theorem ok_law {f : Addr} {fd : FuncData} (F : Fun K "law" "law" sLaw f fd) (mr : mg "range" = none) (mn : mg "min" = none) (ml : mg "len" = none) (Dpu : Dfn P w K mg base 2 "_law_purse" ["_law_script", "_law_at"] (spPurse K))
    (Dwi : Dfn P w K mg base 2 "_law_wide" ["_law_draw"] spWide) (Dwe : Dfn P w K mg base 5 "_law_weighing" ["_law_draw", "_law_wide_here"] spWeighing) (Dma : Dfn P w K mg base 2 "_law_many" ["_law_draw"] spMany) (Dwt : DWts P w K mg base)
    (Den : Dfn P w K mg base 1 "_law_ends" ["_law_weighing_here"] spEnds) (Dfi : Dfn P w K mg base 4 "_law_fitted" ["_law_draw", "_law_wide_here", "_law_long"] spFitted) (Dta : DTake P w K mg base) (Dke : Dfn P w K mg base 5 "_law_kept" pKept spKept) :
    FnOk P w K mg base CX0 6 f fd ["_law_script"] (spLaw K) := by
  obtain ⟨f1, fd1, Gpu, g1, k1, b1⟩ := Dpu.ex
  obtain ⟨f2, fd2, Gwi, g2, k2, b2⟩ := Dwi.ex
  obtain ⟨f3, fd3, Gwe, g3, k3, b3⟩ := Dwe.ex
  obtain ⟨f4, fd4, Gma, g4, k4, b4⟩ := Dma.ex
  obtain ⟨f5, fd5, Gwt, g5, k5, b5⟩ := Dwt.ex
  obtain ⟨f6, fd6, Gen, g6, k6, b6⟩ := Den.ex
  obtain ⟨f7, fd7, Gfi, g7, k7, b7⟩ := Dfi.ex
  obtain ⟨f8, fd8, Gta, g8, k8, b8⟩ := Dta.ex
  obtain ⟨f9, fd9, Gke, g9, k9, b9⟩ := Dke.ex
  refine F.ok scLaw (fun vs H Q E h => ?_) (fun cdv A outer s H vs Q E hr h => ?_)
  · obtain ⟨a, ns, rfl, _⟩ := h
    rfl
  · obtain ⟨a, ns, rfl, hA, hl, q⟩ := h
    have r1 := hr.mono (show 1 ≤ 5 by decide)
    have r2 := hr.mono (show 2 ≤ 5 by decide)
    have r3 := hr.mono (show 3 ≤ 5 by decide)
    have r4 := hr.mono (show 4 ≤ 5 by decide)
    refine ⟨_, pss_cons (ps_for PassesOwn.never rfl (pi_range1 (by rfl) mr (pa_cons (pe_op op_add pe_int (pe_callB (call_min2 rfl) (by rfl) mn (by decide +kernel) (pa_cons pe_int (pa_cons (pe_callB call_len_seq (by rfl) ml boot_len (pa_cons (pv 0) pa_nil)) pa_nil)))) pa_nil)) (pg_name (i := 1) scLaw.nd rfl (.inl rfl))
        (pss_cons (ps_set (i := 2) scLaw.nd rfl (.inl rfl) (pe_call Gpu r2 (by rfl) g1 k1 b1 .nil pass0 (pa_cons (pv 0) (pa_cons (pv 1) pa_nil))))
        (pss_cons (ps_set (i := 3) scLaw.nd rfl (.inl rfl) (pe_call Gwi r2 (by rfl) g2 k2 b2 .nil pass0 (pa_cons (pv 2) pa_nil)))
        (pss_cons (ps_set (i := 4) scLaw.nd rfl (.inl rfl) (pe_call Gwe hr (by rfl) g3 k3 b3 .nil pass0 (pa_cons (pv 2) (pa_cons (pv 3) pa_nil))))
        (C8.pss_cut (ps_if (pt_cmpR (op_eqD hr.units) (pv 4) (pe_lst pa_nil) (nomark _))
            (pss_one (ps_set (i := 4) scLaw.nd rfl (.inl rfl) (pe_lst (pa_cons (pe_tup (pa_cons (pe_call Gma r2 (by rfl) g4 k4 b4 .nil pass0 (pa_cons (pv 2) pa_nil)) (pa_cons (pe_call Gwt r3 (by rfl) g5 k5 b5 .nil pass0 (pa_cons (pv 2) (pa_cons (pv 3) pa_nil))) pa_nil))) pa_nil)))) pss_nil)
        (pss_cons (ps_set (i := 5) scLaw.nd rfl (.inl rfl) (pe_ix ix_list (pe_call Gen r1 (by rfl) g6 k6 b6 .nil pass0 (pa_cons (pv 4) pa_nil)) (pe_un un_neg pe_int) (fun _ _ => rfl)))
        (pss_cons (ps_set (i := 6) scLaw.nd rfl (.inl rfl) (pe_call Gfi r4 (by rfl) g7 k7 b7 .nil pass0 (pa_cons (pv 2) (pa_cons (pv 3) (pa_cons (pv 5) pa_nil)))))
        (pss_cons (ps_set (i := 7) scLaw.nd rfl (.inl rfl) (pe_op op_add pe_int (pe_call Gta r1 (by rfl) g8 k8 b8 .nil pass0 (pa_cons (pv 2) (pa_cons
            (pe_ix ix_list (pe_lst (pa_cons pe_int (pa_cons (pe_op op_pow pe_int pe_int) (pa_cons (pv 5) pa_nil)))) (pe_call Gta r1 (by rfl) g8 k8 b8 .nil pass0 (pa_cons (pv 2) (pa_cons pe_int pa_nil))) (fun _ _ => rfl)) pa_nil)))))
        (pss_one (ps_if (pt_not (pt_val (pe_call Gke hr (by rfl) g9 k9 b9 .nil pass0 (pa_cons (pv 4) (pa_cons (pv 6) (pa_cons (pv 3) (pa_cons (pv 7)
            (pa_cons (pe_op op_add pe_int (pe_call Gta r1 (by rfl) g8 k8 b8 .nil pass0 (pa_cons (pv 2) (pa_cons pe_int pa_nil)))) (pa_cons (pe_call Gta r1 (by rfl) g8 k8 b8 .nil pass0 (pa_cons (pv 2) (pa_cons (pe_op op_add (pv 5) pe_int) pa_nil))) pa_nil)))))))))
          (pss_one (ps_ret pe_bl)) pss_nil)))))))))) (pss_one (ps_ret pe_bl)), ?_⟩
    have hmin : (if ((ns.map V.int).length : Int) < 4 then ((ns.map V.int).length : Int) else 4) ≤ 4 ∧ 0 ≤ (if ((ns.map V.int).length : Int) < 4 then ((ns.map V.int).length : Int) else 4) := by
      split <;> omega
    refine ⟨.ref a, rfl, a, _, rfl, .inl hA, 4, _, rfl, _, _, rfl, rfl, _, rfl, by omega, by omega, ?_⟩
    generalize (if ((ns.map V.int).length : Int) < 4 then ((ns.map V.int).length : Int) else 4) = mm at hmin
    refine for_range (lo := 0) (n := (1 + mm).toNat) (fun i σ H' => ∃ y1 y2 y3 y4 y5 y6 y7, σ = [some (.ref a), y1, y2, y3, y4, y5, y6, y7] ∧ Same H H')
      ⟨none, none, none, none, none, none, none, rfl, Same.refl _⟩ (fun i σ H' hi hp => ?_) (fun σ H' hp => q H')
    obtain ⟨y1, y2, y3, y4, y5, y6, y7, rfl, sm⟩ := hp
    refine ⟨.ref a, rfl, _, rfl, a, i, ns, ?_, sm.seq hA, by omega, fun H1 d s1 hd n0 => ?_⟩
    · show [V.ref a, V.int (0 + ((i : Nat) : Int))] = _
      rw [Int.zero_add]
    refine ⟨.ref d, rfl, d, rfl, hd, fun n H2 n1 n24 gA => ?_⟩
    refine ⟨.ref d, rfl, _, rfl, d, n, rfl, gA.2, n1, n24, fun H3 p3 x3 gB w3 c3 l3 o3 b3' => ?_⟩
    -- one, not empty
    refine ⟨fun σ' H4 => ∃ p x, σ' = [some (.ref a), some (.int (0 + ((i : Nat) : Int))), some (.ref d), some (.int ((n : Nat) : Int)), some (.ref p), y5, y6, y7] ∧ Go d H1 H4 ∧ WgAt H4 p x ∧ Canon x ∧ x ≠ [] ∧ x.length ≤ 40 ∧ (∀ u ∈ flat x, Wok n u) ∧ (flat x).length < 2 ^ 210, ?_, fun σ' H4 hm => ?_⟩
    · refine ⟨_, rfl, Nat.zero_le _, fun e0 h0 => ?_⟩
      have sE := same_new (o := .lst []) h0
      have gE := (gA.trans gB).same sE
      refine ⟨dWg x3, dWg [], (w3.mono sE).dp, WgAt.dp (show WgAt (upd H3 e0 (.lst [])) e0 [] from ⟨[], upd_same, .nil⟩), shaped_wg _, shaped_wg _, _, rfl, ?_⟩
      rw [eqv_wg]
      refine ite2 (fun _ => ?_) (fun c => ?_)
      · refine ⟨.ref d, rfl, d, rfl, gE.2, fun mn' H5 m1 m2 gF => ?_⟩
        refine ⟨.ref d, rfl, _, rfl, d, n, rfl, gF.2, n1, n24, fun pu u H6 gG hu lu bu => ?_⟩
        refine ⟨len2, fun p7 h7 => ⟨len1, fun p8 h8 => ?_⟩⟩
        obtain ⟨w8, s8⟩ := wg_one (m := mn') hu h7 h8
        have fl : flat [(mn', u)] = List.replicate mn'.toNat u := flat_one _ _
        refine ⟨p8, _, rfl, (gE.trans (gF.trans gG)).same s8, w8, Canon.one m1, List.cons_ne_nil _ _, by show 1 ≤ 40; decide, fun z hz => ?_, ?_⟩
        · rw [fl] at hz
          rw [(List.mem_replicate.mp hz).2]
          exact ⟨lu, bu⟩
        · refine len_lt (fun q' hq' => ?_) (by show 1 ≤ 40; decide)
          rw [List.mem_singleton.mp hq']
          exact ⟨m1, m2⟩
      · have ne : x3 ≠ [] := fun z => c (decide_eq_true z)
        exact ⟨p3, x3, rfl, gE, w3.mono sE, c3, ne, l3, o3, b3'⟩
    · obtain ⟨p, x, rfl, gC, wx, cx, nx, lx, ox, bx⟩ := hm
      have tx : total x = ((flat x).length : Int) := total_len cx.1.nonneg
      have px := flat_pos cx nx
      -- long
      refine ⟨.ref p, rfl, p, x, rfl, wx, by omega, fun H5 p5 ls s5 h5 => ?_⟩
      refine ⟨1, rfl, p5, _, -1, _, rfl, rfl, SqL.of h5, atI_last _ _, ?_⟩
      have gD := gC.same s5
      have wx5 := wx.mono s5
      have bL : Bt 1000 (total x) := by
        rw [tx]
        show (((flat x).length : Int)).natAbs < _
        rw [Int.natAbs_natCast]
        exact Nat.lt_of_lt_of_le bx (pow_le (by decide))
      -- other
      refine ⟨.ref d, rfl, _, rfl, _, rfl, d, n, total x, rfl, gD.2, n1, n24, by omega, bL, fun H6 p6 y gE wy cy ly oy ny => ?_⟩
      have wx6 := wx5.go gD.2 gE
      have gF := gD.trans gE
      have lxy : (flat x).length = (flat y).length := by omega
      -- t
      refine ⟨.ref d, rfl, _, _, rfl, rfl, ⟨by decide, by decide, by decide⟩, _, rfl, len3, fun p7 h7 => ?_⟩
      have np : p7 ≠ d := gF.2.ne h7
      have gG := gF.same (same_new (o := .lst [V.int 9, V.int (10 ^ (6 : Int).toNat), V.int (total x)]) h7)
      have wx7 := wx6.mono (same_new (o := .lst [V.int 9, V.int (10 ^ (6 : Int).toNat), V.int (total x)]) h7)
      have wy7 := wy.mono (same_new (o := .lst [V.int 9, V.int (10 ^ (6 : Int).toNat), V.int (total x)]) h7)
      refine ⟨.ref d, rfl, d, 3, rfl, gG.2, by decide, bt_small (by decide) (by decide), fun r H8 r0 r3' gH => ?_⟩
      obtain ⟨m, hm, m0, m1⟩ : ∃ m : Int, atI [V.int 9, V.int (10 ^ (6 : Int).toNat), V.int (total x)] r = some (.int m) ∧ 0 < m ∧ Bt 210 m := by
        rcases (by omega : r = 0 ∨ r = 1 ∨ r = 2) with rfl | rfl | rfl
        · exact ⟨_, rfl, by decide +kernel, by unfold Bt; decide +kernel⟩
        · exact ⟨_, rfl, by decide +kernel, by unfold Bt; decide +kernel⟩
        · refine ⟨_, rfl, by omega, ?_⟩
          rw [tx]
          show (((flat x).length : Int)).natAbs < _
          rw [Int.natAbs_natCast]
          exact bx
      refine ⟨p7, _, _, _, rfl, rfl, SqL.of (gH.lst np upd_same), hm, d, m, rfl, gH.2, m0, m1.of_le (by decide), fun v H9 v0 v1 gI => ?_⟩
      have gJ := gG.trans (gH.trans gI)
      have wx9 := (wx7.go gG.2 gH).go gH.2 gI
      have wy9 := (wy7.go gG.2 gH).go gH.2 gI
      have bv : v.toNat < 2 ^ 210 := by
        have h1 : m.natAbs < 2 ^ 210 := m1
        omega
      refine ⟨1, v, rfl, rfl, ?_⟩
      -- kept
      refine ⟨.ref p, rfl, .ref p6, rfl, _, rfl, _, rfl, .ref d, rfl, d, 9, rfl, gJ.2, by decide, bt_small (by decide) (by decide), fun v2 H10 v20 v21 gK => ?_⟩
      have wx10 := wx9.go gJ.2 gK
      have wy10 := wy9.go gJ.2 gK
      have gL := gJ.trans gK
      refine ⟨_, _, rfl, rfl, .ref d, rfl, _, rfl, _, _, rfl, rfl, d, total x + 1, rfl, gL.2, by omega, ?_, fun v3 H11 v30 v31 gM => ?_⟩
      · rw [tx]
        show (((flat x).length : Int) + 1).natAbs < _
        have e1 : (((flat x).length : Int) + 1).natAbs = (flat x).length + 1 := by omega
        rw [e1]
        exact Nat.lt_of_le_of_lt bx (Nat.pow_lt_pow_right (by decide) (by decide))
      have wx11 := wx10.go gL.2 gM
      have wy11 := wy10.go gL.2 gM
      have gN := gL.trans gM
      refine ⟨p, p6, n, (1 + v).toNat, (1 + v2).toNat, v3.toNat, x, y, ?_, wx11, wy11, cx, cy, nx, lxy, ox, oy, bx, by omega, by omega, n1, n24, by omega, ?_, by omega, by omega, by omega, fun H12 s12 => ?_⟩
      · rw [show (((1 + v).toNat : Nat) : Int) = 1 + v by omega, show (((1 + v2).toNat : Nat) : Int) = 1 + v2 by omega, show ((v3.toNat : Nat) : Int) = v3 by omega]
        rfl
      · have e2 : (1 + v).toNat = v.toNat + 1 := by omega
        rw [e2]
        exact Nat.lt_of_le_of_lt bv (Nat.pow_lt_pow_right (by decide) (by decide))
      refine ⟨true, rfl, iteF ?_⟩
      exact ⟨_, _, _, _, _, _, _, rfl, sm.trans ((same_go s1 n0 gN).trans s12)⟩
end
end K8
set_option Elab.async false
set_option linter.all false
set_option maxRecDepth 100000
set_option maxHeartbeats 8000000
/-! the head: what the top leaves, and the end -/
namespace K8
open PySem PySem.Spec PyProof.Rows L2
/-- no defaults: Fun -/
theorem fun_ofD {K : PySem.W.Frag} {x qual : Str} {st : Stmt} {f : Addr} {fd : FuncData} {kws : List (Str × V)} (F : FunD K x qual (defArgs st) (defBody st) (defScope st) [] kws f fd) : Fun K x qual st f fd := by
  obtain ⟨oc, od, dV, kV, doc, pm, an, cdv, ct, osl, e, l, c, hd, _⟩ := F.ex
  rcases hd with ⟨_, e2⟩ | ⟨e2, _⟩
  · subst e2
    exact ⟨⟨oc, od, kV, doc, pm, an, cdv, ct, osl, e, l, c⟩, F.kp⟩
  · exact absurd rfl e2
abbrev ofD (x : Str) (st : Stmt) : He.DefD := ⟨(x, none), x, x, defArgs st, defBody st, defScope st, [], []⟩
def fn1 : List He.DefD := [ofD "shaped" sShaped, ofD "length" sLength, ofD "weights_at" sWat, ofD "part" sPart, ofD "backward" sBackward, ofD "plus" sPlus, ofD "added" sAdded, ofD "put_to" sPutTo, ofD "times" sTimes, ofD "once_more" sOnce, ofD "wound" sWound, ofD "sorts" sSorts, ofD "_law_cell_at" sCell, ofD "_law_purse" sPurse]
def fn2 : List He.DefD := [ofD "_law_take" sTake, ofD "_law_number" sNumber, ofD "_law_weights" sWts, ofD "_law_many" sMany, ofD "_law_pieces" sPieces, ofD "_law_shape" sShape, ofD "_law_wide" sWide, ofD "_law_weighing" sWeighing, ofD "_law_ends" sEnds, ofD "_law_plus" sLPlus, ofD "_law_fitted" sFitted, ofD "_law_all" sAll, ofD "_law_kept" sKept, ofD "law" sLaw]
def fn : List He.DefD := fn1 ++ fn2
def fa1 : List He.Fa := [.glo "shaped", .glo "length", .glo "weights_at", .glo "part", .glo "backward", .glo "plus", .glo "added", .glo "put_to", .glo "times", .glo "once_more", .glo "wound", .glo "sorts", .glo "_law_cell_at", .glo "_law_purse", .glo "_law_take", .glo "_law_number", .glo "_law_weights", .glo "_law_many", .glo "_law_pieces", .glo "_law_shape", .glo "_law_wide", .glo "_law_weighing", .glo "_law_ends", .glo "_law_plus", .glo "_law_fitted", .glo "_law_all", .glo "_law_kept", .glo "law"]
def fa2 : List He.Fa := [.free "sum", .free "max", .free "min", .free "list", .free "reversed", .free "tuple", .free "zip", .free "sorted", .free "len", .free "range", .free "int", .free "set"]
def fa : List He.Fa := fa1 ++ fa2
abbrev R : PySem.W.OpenRow := PySem.W.OpenLaw.row PySem.Challenge.rw_farcords_k08_whole_weighings_keep_sums
abbrev hk : PySem.W.Hook := He.hookD 4 fa fn
def ob (s : PySem.W.SharedT) : He.AlD := He.obsDG 4 fa fn (HandSHeadRun.getT s)
theorem ob_eq (s : PySem.W.SharedT) : ob s = hk.obs s.abs := He.obsDG_eq (HandSHeadRun.getT_eq s)
def loose1 : List Str := ["shaped", "length", "weights_at", "part", "backward", "plus", "added", "put_to", "times", "once_more", "wound", "sorts", "_law_cell_at", "_law_purse"]
def loose2 : List Str := ["_law_take", "_law_number", "_law_weights", "_law_many", "_law_pieces", "_law_shape", "_law_wide", "_law_weighing", "_law_ends", "_law_plus", "_law_fitted", "_law_all", "_law_kept"]
def loose : List Str := loose1 ++ loose2
theorem run (w : World) : HandSHeadRun.RunEq R (PySem.W.view R.prog [29]) hk ob 4000 loose w := by
  intro os
  kernel_rfl
theorem facts {P : Program} {w : World} {K : PySem.W.Frag} {h : Heap} {mg : Str → Option Value} {f : Addr} (X : K.In h) (G : h.Ns mainGlobals mg) (hfa : mg ("law" : Str) = some (.ref f)) (c : He.SaysD fa fn K) :
    ∃ fd : FuncData, (∀ (s : Shared) (v : Value), BindsTo s fd ⟨[v], []⟩ [("_law_script", v)]) ∧ ∀ base : Heap, K.In base → base.Ns mainGlobals mg → FnOk P w K mg base CX0 6 f fd ["_law_script"] (spLaw K) := by
  have m_sum : mg "sum" = none := He.free_ok X G (c.fact 28 (f := .free "sum") rfl)
  have m_max : mg "max" = none := He.free_ok X G (c.fact 29 (f := .free "max") rfl)
  have m_min : mg "min" = none := He.free_ok X G (c.fact 30 (f := .free "min") rfl)
  have m_list : mg "list" = none := He.free_ok X G (c.fact 31 (f := .free "list") rfl)
  have m_reversed : mg "reversed" = none := He.free_ok X G (c.fact 32 (f := .free "reversed") rfl)
  have m_tuple : mg "tuple" = none := He.free_ok X G (c.fact 33 (f := .free "tuple") rfl)
  have m_zip : mg "zip" = none := He.free_ok X G (c.fact 34 (f := .free "zip") rfl)
  have m_sorted : mg "sorted" = none := He.free_ok X G (c.fact 35 (f := .free "sorted") rfl)
  have m_len : mg "len" = none := He.free_ok X G (c.fact 36 (f := .free "len") rfl)
  have m_range : mg "range" = none := He.free_ok X G (c.fact 37 (f := .free "range") rfl)
  have m_int : mg "int" = none := He.free_ok X G (c.fact 38 (f := .free "int") rfl)
  have m_set : mg "set" = none := He.free_ok X G (c.fact 39 (f := .free "set") rfl)
  obtain ⟨d_shaped, F_shaped⟩ := c.def_ 0 (d := ofD "shaped" sShaped) rfl
  obtain ⟨d_length, F_length⟩ := c.def_ 1 (d := ofD "length" sLength) rfl
  obtain ⟨d_weights_at, F_weights_at⟩ := c.def_ 2 (d := ofD "weights_at" sWat) rfl
  obtain ⟨d_part, F_part⟩ := c.def_ 3 (d := ofD "part" sPart) rfl
  obtain ⟨d_backward, F_backward⟩ := c.def_ 4 (d := ofD "backward" sBackward) rfl
  obtain ⟨d_plus, F_plus⟩ := c.def_ 5 (d := ofD "plus" sPlus) rfl
  obtain ⟨d_added, F_added⟩ := c.def_ 6 (d := ofD "added" sAdded) rfl
  obtain ⟨d_put_to, F_put_to⟩ := c.def_ 7 (d := ofD "put_to" sPutTo) rfl
  obtain ⟨d_times, F_times⟩ := c.def_ 8 (d := ofD "times" sTimes) rfl
  obtain ⟨d_once_more, F_once_more⟩ := c.def_ 9 (d := ofD "once_more" sOnce) rfl
  obtain ⟨d_wound, F_wound⟩ := c.def_ 10 (d := ofD "wound" sWound) rfl
  obtain ⟨d_sorts, F_sorts⟩ := c.def_ 11 (d := ofD "sorts" sSorts) rfl
  obtain ⟨d__law_cell_at, F__law_cell_at⟩ := c.def_ 12 (d := ofD "_law_cell_at" sCell) rfl
  obtain ⟨d__law_purse, F__law_purse⟩ := c.def_ 13 (d := ofD "_law_purse" sPurse) rfl
  obtain ⟨d__law_take, F__law_take⟩ := c.def_ 14 (d := ofD "_law_take" sTake) rfl
  obtain ⟨d__law_number, F__law_number⟩ := c.def_ 15 (d := ofD "_law_number" sNumber) rfl
  obtain ⟨d__law_weights, F__law_weights⟩ := c.def_ 16 (d := ofD "_law_weights" sWts) rfl
  obtain ⟨d__law_many, F__law_many⟩ := c.def_ 17 (d := ofD "_law_many" sMany) rfl
  obtain ⟨d__law_pieces, F__law_pieces⟩ := c.def_ 18 (d := ofD "_law_pieces" sPieces) rfl
  obtain ⟨d__law_shape, F__law_shape⟩ := c.def_ 19 (d := ofD "_law_shape" sShape) rfl
  obtain ⟨d__law_wide, F__law_wide⟩ := c.def_ 20 (d := ofD "_law_wide" sWide) rfl
  obtain ⟨d__law_weighing, F__law_weighing⟩ := c.def_ 21 (d := ofD "_law_weighing" sWeighing) rfl
  obtain ⟨d__law_ends, F__law_ends⟩ := c.def_ 22 (d := ofD "_law_ends" sEnds) rfl
  obtain ⟨d__law_plus, F__law_plus⟩ := c.def_ 23 (d := ofD "_law_plus" sLPlus) rfl
  obtain ⟨d__law_fitted, F__law_fitted⟩ := c.def_ 24 (d := ofD "_law_fitted" sFitted) rfl
  obtain ⟨d__law_all, F__law_all⟩ := c.def_ 25 (d := ofD "_law_all" sAll) rfl
  obtain ⟨d__law_kept, F__law_kept⟩ := c.def_ 26 (d := ofD "_law_kept" sKept) rfl
  obtain ⟨d_law, F_law⟩ := c.def_ 27 (d := ofD "law" sLaw) rfl
  have e := hfa.symm.trans (He.glo_ok X G (c.fact 27 (f := .glo "law") rfl))
  cases e
  have b := FunD.bindsA (ps := ["_law_script"]) F_law fun _ _ _ _ _ _ us hl => match us, hl with | [_], _ => rfl
  refine ⟨d_law, fun s v => b s [v] rfl, fun base _ _ => ?_⟩
  have G_times : Fun K "times" "times" sTimes _ d_times := fun_ofD F_times
  have D_times : Dfn P w K mg base 1 "times" ["number", "weights"] spTimes := ⟨_, d_times, ok_times G_times m_tuple, He.glo_ok X G (c.fact 8 (f := .glo "times") rfl), F_times.kp, G_times.binds (ps := ["number", "weights"]) fun _ _ _ _ _ _ us hl => match us, hl with | [_, _], _ => rfl⟩
  have G_plus : Fun K "plus" "plus" sPlus _ d_plus := fun_ofD F_plus
  have D_plus : Dfn P w K mg base 1 "plus" ["one", "other"] spPlus := ⟨_, d_plus, ok_plus G_plus m_tuple m_zip, He.glo_ok X G (c.fact 5 (f := .glo "plus") rfl), F_plus.kp, G_plus.binds (ps := ["one", "other"]) fun _ _ _ _ _ _ us hl => match us, hl with | [_, _], _ => rfl⟩
  have G_shaped : Fun K "shaped" "shaped" sShaped _ d_shaped := fun_ofD F_shaped
  have D_shaped : Dfn P w K mg base 1 "shaped" ["pieces"] spShaped := ⟨_, d_shaped, ok_shaped G_shaped , He.glo_ok X G (c.fact 0 (f := .glo "shaped") rfl), F_shaped.kp, G_shaped.binds (ps := ["pieces"]) fun _ _ _ _ _ _ us hl => match us, hl with | [_], _ => rfl⟩
  have G_length : Fun K "length" "length" sLength _ d_length := fun_ofD F_length
  have D_length : Dfn P w K mg base 1 "length" ["weighing"] spLength := ⟨_, d_length, ok_length G_length m_sum, He.glo_ok X G (c.fact 1 (f := .glo "length") rfl), F_length.kp, G_length.binds (ps := ["weighing"]) fun _ _ _ _ _ _ us hl => match us, hl with | [_], _ => rfl⟩
  have G_weights_at : Fun K "weights_at" "weights_at" sWat _ d_weights_at := fun_ofD F_weights_at
  have D_weights_at : Dfn P w K mg base 1 "weights_at" ["weighing", "place"] spWat := ⟨_, d_weights_at, ok_wat G_weights_at , He.glo_ok X G (c.fact 2 (f := .glo "weights_at") rfl), F_weights_at.kp, G_weights_at.binds (ps := ["weighing", "place"]) fun _ _ _ _ _ _ us hl => match us, hl with | [_, _], _ => rfl⟩
  have G_part : Fun K "part" "part" sPart _ d_part := fun_ofD F_part
  have D_part : Dfn P w K mg base 1 "part" ["weighing", "begin", "end"] spPart := ⟨_, d_part, ok_part G_part m_max m_min, He.glo_ok X G (c.fact 3 (f := .glo "part") rfl), F_part.kp, G_part.binds (ps := ["weighing", "begin", "end"]) fun _ _ _ _ _ _ us hl => match us, hl with | [_, _, _], _ => rfl⟩
  have G_backward : Fun K "backward" "backward" sBackward _ d_backward := fun_ofD F_backward
  have D_backward : Dfn P w K mg base 1 "backward" ["weighing"] spBackward := ⟨_, d_backward, ok_backward G_backward m_list m_reversed, He.glo_ok X G (c.fact 4 (f := .glo "backward") rfl), F_backward.kp, G_backward.binds (ps := ["weighing"]) fun _ _ _ _ _ _ us hl => match us, hl with | [_], _ => rfl⟩
  have G_added : Fun K "added" "added" sAdded _ d_added := fun_ofD F_added
  have D_added : Dfn P w K mg base 2 "added" ["one", "other"] spAdded := ⟨_, d_added, ok_added G_added m_min D_plus D_shaped, He.glo_ok X G (c.fact 6 (f := .glo "added") rfl), F_added.kp, G_added.binds (ps := ["one", "other"]) fun _ _ _ _ _ _ us hl => match us, hl with | [_, _], _ => rfl⟩
  have G_put_to : Fun K "put_to" "put_to" sPutTo _ d_put_to := fun_ofD F_put_to
  have D_put_to : Dfn P w K mg base 3 "put_to" ["weighing", "begin", "other"] spPutTo := ⟨_, d_put_to, ok_putTo G_put_to D_length D_part D_shaped D_added, He.glo_ok X G (c.fact 7 (f := .glo "put_to") rfl), F_put_to.kp, G_put_to.binds (ps := ["weighing", "begin", "other"]) fun _ _ _ _ _ _ us hl => match us, hl with | [_, _, _], _ => rfl⟩
  have G_once_more : Fun K "once_more" "once_more" sOnce _ d_once_more := fun_ofD F_once_more
  have D_once_more : Dfn P w K mg base 3 "once_more" ["found", "here", "many", "weights", "t"] spOnce := ⟨_, d_once_more, ok_once G_once_more D_times D_shaped D_added, He.glo_ok X G (c.fact 9 (f := .glo "once_more") rfl), F_once_more.kp, G_once_more.binds (ps := ["found", "here", "many", "weights", "t"]) fun _ _ _ _ _ _ us hl => match us, hl with | [_, _, _, _, _], _ => rfl⟩
  have G_wound : Fun K "wound" "wound" sWound _ d_wound := fun_ofD F_wound
  have D_wound : Dfn P w K mg base 4 "wound" ["weighing", "t"] spWound := ⟨_, d_wound, ok_wound G_wound D_times D_once_more, He.glo_ok X G (c.fact 10 (f := .glo "wound") rfl), F_wound.kp, G_wound.binds (ps := ["weighing", "t"]) fun _ _ _ _ _ _ us hl => match us, hl with | [_, _], _ => rfl⟩
  have G_sorts : Fun K "sorts" "sorts" sSorts _ d_sorts := fun_ofD F_sorts
  have D_sorts : Dfn P w K mg base 1 "sorts" ["weighing"] spSorts := ⟨_, d_sorts, ok_sorts G_sorts m_sorted, He.glo_ok X G (c.fact 11 (f := .glo "sorts") rfl), F_sorts.kp, G_sorts.binds (ps := ["weighing"]) fun _ _ _ _ _ _ us hl => match us, hl with | [_], _ => rfl⟩
  have G__law_cell_at : Fun K "_law_cell_at" "_law_cell_at" sCell _ d__law_cell_at := fun_ofD F__law_cell_at
  have D__law_cell_at : Dfn P w K mg base 1 "_law_cell_at" ["_law_script", "_law_k"] (spCell K) := ⟨_, d__law_cell_at, ok_cell G__law_cell_at m_len, He.glo_ok X G (c.fact 12 (f := .glo "_law_cell_at") rfl), F__law_cell_at.kp, G__law_cell_at.binds (ps := ["_law_script", "_law_k"]) fun _ _ _ _ _ _ us hl => match us, hl with | [_, _], _ => rfl⟩
  have G__law_purse : Fun K "_law_purse" "_law_purse" sPurse _ d__law_purse := fun_ofD F__law_purse
  have D__law_purse : Dfn P w K mg base 2 "_law_purse" ["_law_script", "_law_at"] (spPurse K) := ⟨_, d__law_purse, ok_purse G__law_purse m_range D__law_cell_at, He.glo_ok X G (c.fact 13 (f := .glo "_law_purse") rfl), F__law_purse.kp, G__law_purse.binds (ps := ["_law_script", "_law_at"]) fun _ _ _ _ _ _ us hl => match us, hl with | [_, _], _ => rfl⟩
  have G__law_take : Fun K "_law_take" "_law_take" sTake _ d__law_take := fun_ofD F__law_take
  have D__law_take : Dfn P w K mg base 1 "_law_take" ["_law_draw", "_law_many_here"] spTake := ⟨_, d__law_take, ok_take G__law_take m_range, He.glo_ok X G (c.fact 14 (f := .glo "_law_take") rfl), F__law_take.kp, G__law_take.binds (ps := ["_law_draw", "_law_many_here"]) fun _ _ _ _ _ _ us hl => match us, hl with | [_, _], _ => rfl⟩
  have G__law_number : Fun K "_law_number" "_law_number" sNumber _ d__law_number := fun_ofD F__law_number
  have D__law_number : Dfn P w K mg base 2 "_law_number" ["_law_draw"] spNumber := ⟨_, d__law_number, ok_number G__law_number D__law_take, He.glo_ok X G (c.fact 15 (f := .glo "_law_number") rfl), F__law_number.kp, G__law_number.binds (ps := ["_law_draw"]) fun _ _ _ _ _ _ us hl => match us, hl with | [_], _ => rfl⟩
  have G__law_weights : Fun K "_law_weights" "_law_weights" sWts _ d__law_weights := fun_ofD F__law_weights
  have D__law_weights : Dfn P w K mg base 3 "_law_weights" ["_law_draw", "_law_wide_here"] spWts := ⟨_, d__law_weights, ok_wts G__law_weights m_tuple m_range D__law_number, He.glo_ok X G (c.fact 16 (f := .glo "_law_weights") rfl), F__law_weights.kp, G__law_weights.binds (ps := ["_law_draw", "_law_wide_here"]) fun _ _ _ _ _ _ us hl => match us, hl with | [_, _], _ => rfl⟩
  have G__law_many : Fun K "_law_many" "_law_many" sMany _ d__law_many := fun_ofD F__law_many
  have D__law_many : Dfn P w K mg base 2 "_law_many" ["_law_draw"] spMany := ⟨_, d__law_many, ok_many G__law_many D__law_take, He.glo_ok X G (c.fact 17 (f := .glo "_law_many") rfl), F__law_many.kp, G__law_many.binds (ps := ["_law_draw"]) fun _ _ _ _ _ _ us hl => match us, hl with | [_], _ => rfl⟩
  have G__law_shape : Fun K "_law_shape" "_law_shape" sShape _ d__law_shape := fun_ofD F__law_shape
  have D__law_shape : Dfn P w K mg base 1 "_law_shape" ["_law_pieces_here"] spShaped := ⟨_, d__law_shape, ok_shape G__law_shape , He.glo_ok X G (c.fact 19 (f := .glo "_law_shape") rfl), F__law_shape.kp, G__law_shape.binds (ps := ["_law_pieces_here"]) fun _ _ _ _ _ _ us hl => match us, hl with | [_], _ => rfl⟩
  have G__law_wide : Fun K "_law_wide" "_law_wide" sWide _ d__law_wide := fun_ofD F__law_wide
  have D__law_wide : Dfn P w K mg base 2 "_law_wide" ["_law_draw"] spWide := ⟨_, d__law_wide, ok_wide G__law_wide m_int D__law_take, He.glo_ok X G (c.fact 20 (f := .glo "_law_wide") rfl), F__law_wide.kp, G__law_wide.binds (ps := ["_law_draw"]) fun _ _ _ _ _ _ us hl => match us, hl with | [_], _ => rfl⟩
  have G__law_ends : Fun K "_law_ends" "_law_ends" sEnds _ d__law_ends := fun_ofD F__law_ends
  have D__law_ends : Dfn P w K mg base 1 "_law_ends" ["_law_weighing_here"] spEnds := ⟨_, d__law_ends, ok_ends G__law_ends , He.glo_ok X G (c.fact 22 (f := .glo "_law_ends") rfl), F__law_ends.kp, G__law_ends.binds (ps := ["_law_weighing_here"]) fun _ _ _ _ _ _ us hl => match us, hl with | [_], _ => rfl⟩
  have G__law_plus : Fun K "_law_plus" "_law_plus" sLPlus _ d__law_plus := fun_ofD F__law_plus
  have D__law_plus : Dfn P w K mg base 1 "_law_plus" ["_law_one", "_law_other"] spPlus := ⟨_, d__law_plus, ok_lplus G__law_plus m_tuple m_zip, He.glo_ok X G (c.fact 23 (f := .glo "_law_plus") rfl), F__law_plus.kp, G__law_plus.binds (ps := ["_law_one", "_law_other"]) fun _ _ _ _ _ _ us hl => match us, hl with | [_, _], _ => rfl⟩
  have G__law_pieces : Fun K "_law_pieces" "_law_pieces" sPieces _ d__law_pieces := fun_ofD F__law_pieces
  have D__law_pieces : Dfn P w K mg base 4 "_law_pieces" ["_law_draw", "_law_wide_here", "_law_most"] spPieces := ⟨_, d__law_pieces, ok_pieces G__law_pieces m_range m_len D__law_take D__law_weights D__law_many, He.glo_ok X G (c.fact 18 (f := .glo "_law_pieces") rfl), F__law_pieces.kp, G__law_pieces.binds (ps := ["_law_draw", "_law_wide_here", "_law_most"]) fun _ _ _ _ _ _ us hl => match us, hl with | [_, _, _], _ => rfl⟩
  have G__law_weighing : Fun K "_law_weighing" "_law_weighing" sWeighing _ d__law_weighing := fun_ofD F__law_weighing
  have D__law_weighing : Dfn P w K mg base 5 "_law_weighing" ["_law_draw", "_law_wide_here"] spWeighing := ⟨_, d__law_weighing, ok_weighing G__law_weighing m_int D__law_take D__law_shape D__law_pieces, He.glo_ok X G (c.fact 21 (f := .glo "_law_weighing") rfl), F__law_weighing.kp, G__law_weighing.binds (ps := ["_law_draw", "_law_wide_here"]) fun _ _ _ _ _ _ us hl => match us, hl with | [_, _], _ => rfl⟩
  have G__law_fitted : Fun K "_law_fitted" "_law_fitted" sFitted _ d__law_fitted := fun_ofD F__law_fitted
  have D__law_fitted : Dfn P w K mg base 4 "_law_fitted" ["_law_draw", "_law_wide_here", "_law_long"] spFitted := ⟨_, d__law_fitted, ok_fitted G__law_fitted m_int m_range m_len m_min m_sorted m_set D__law_take D__law_weights D__law_shape, He.glo_ok X G (c.fact 24 (f := .glo "_law_fitted") rfl), F__law_fitted.kp, G__law_fitted.binds (ps := ["_law_draw", "_law_wide_here", "_law_long"]) fun _ _ _ _ _ _ us hl => match us, hl with | [_, _, _], _ => rfl⟩
  have G__law_all : Fun K "_law_all" "_law_all" sAll _ d__law_all := fun_ofD F__law_all
  have D__law_all : Dfn P w K mg base 2 "_law_all" ["_law_told", "_law_wide_here"] spAll := ⟨_, d__law_all, ok_all G__law_all m_tuple D__law_plus, He.glo_ok X G (c.fact 25 (f := .glo "_law_all") rfl), F__law_all.kp, G__law_all.binds (ps := ["_law_told", "_law_wide_here"]) fun _ _ _ _ _ _ us hl => match us, hl with | [_, _], _ => rfl⟩
  have G__law_kept : Fun K "_law_kept" "_law_kept" sKept _ d__law_kept := fun_ofD F__law_kept
  have D__law_kept : Dfn P w K mg base 5 "_law_kept" ["_law_one", "_law_other", "_law_wide_here", "_law_t", "_law_more", "_law_spot"] spKept := ⟨_, d__law_kept, ok_kept G__law_kept D__law_all D_sorts D_added D__law_plus D_wound D_length D_backward D_shaped D_part D_put_to D_weights_at, He.glo_ok X G (c.fact 26 (f := .glo "_law_kept") rfl), F__law_kept.kp, G__law_kept.binds (ps := ["_law_one", "_law_other", "_law_wide_here", "_law_t", "_law_more", "_law_spot"]) fun _ _ _ _ _ _ us hl => match us, hl with | [_, _, _, _, _, _], _ => rfl⟩
  exact ok_law (fun_ofD F_law) m_range m_min m_len D__law_purse D__law_wide D__law_weighing D__law_many D__law_weights D__law_ends D__law_fitted D__law_take D__law_kept
end K8

open PySem PySem.W PySem.Calls PyProof.Rows in
set_option maxRecDepth 100000 in
set_option maxHeartbeats 0 in
theorem PySem.Challenge.cw_farcords_k08_whole_weighings_keep_sums_holds : PySem.Challenge.rw_farcords_k08_whole_weighings_keep_sums.Holds := by
  w_on; o_law
  refine HandSHeadRun.head_any (r := OpenLaw.row PySem.Challenge.rw_farcords_k08_whole_weighings_keep_sums) (q := view (OpenLaw.row PySem.Challenge.rw_farcords_k08_whole_weighings_keep_sums).prog [29]) (H := K8.hk) (ob := K8.ob) (M := 4000) (loose := K8.loose) (d := HandSHeadRun.topDef (OpenLaw.row PySem.Challenge.rw_farcords_k08_whole_weighings_keep_sums).prog 29) (kwd := []) K8.ob_eq
    (by kernel_rfl) (fun s => by kernel_rfl) K8.run (by kernel_rfl) (by kernel_rfl) (by kernel_rfl) (by rfl) (by first | assumption | decide +kernel) (by decide +kernel) ⟨rfl, rfl, rfl, rfl, rfl, by decide +kernel⟩ ?hw ?hc
  case hw => w_witness2
  case hc =>
    refine L2.walk_ofE (l := PySem.Challenge.rw_farcords_k08_whole_weighings_keep_sums) (n := 63) (k := 6) (x := "_law_script") (CX := L2.CX0) rfl (by decide) (by kernel_rfl) ⟨rfl, by decide, by decide⟩ ?F (fun _ _ _ _ z => z)
    intro w mg fa h Y G hmg0
    obtain ⟨K, KX, c⟩ := Y
    have hmg : mg ("law" : PySem.Str) = some (.ref fa) := by
      have e : (HandSHeadRun.topDef (OpenLaw.row PySem.Challenge.rw_farcords_k08_whole_weighings_keep_sums).prog 29).name = ("law" : PySem.Str) := by kernel_rfl
      rw [← e]
      exact hmg0
    obtain ⟨fd, hb, hF⟩ := K8.facts (P := (PySem.Challenge.rw_farcords_k08_whole_weighings_keep_sums).prog) (w := w) KX G hmg c
    exact ⟨K, fd, K8.spLaw K, KX, hb, fun H a ns hl _ hS => ⟨a, ns, rfl, hS, hl, fun _ => rfl⟩, hF⟩
