import PyProof.Rows.All
import Wide.All
import OpenK.AllK
import Wide.FinOn
import PyProof.Draws
import PyProof.MinMaxWalk
import KE.GoesMore
import KE.DataMinMax
import KE.KDictDisplayH
import HandS.ForMost
import HandS.TupMul
import HandS.TupAny
import HandS.TupLen
import HandS.Conv
import HandS.Style
import HandS.IsInst
import HandS.Walk
import PyProof.Claim2
import HandS.Codes
import PySem.Challenge.RW_fadewords_k62_whole_patterns
set_option Elab.async false
set_option linter.all false
set_option maxRecDepth 100000
set_option maxHeartbeats 4000000
/-! The mathematics of law k62: words that fit a pattern, tables by slates. Plain Lean, no program in sight. -/
namespace K62
/-- write a letter on a slate (newest first) -/
def stp (vs : List Nat) (s : List Nat) (l : Nat) : List Nat := l :: s.eraseIdx (vs.getD l 1 - 1)
def run (vs : List Nat) (s w : List Nat) : List Nat := w.foldl (stp vs) s
theorem run_nil (vs s : List Nat) : run vs s [] = s := rfl
theorem run_cons (vs s : List Nat) (l : Nat) (w : List Nat) : run vs s (l :: w) = run vs (stp vs s l) w := rfl
theorem run_snoc (vs s : List Nat) (l : Nat) (w : List Nat) : run vs s (w ++ [l]) = stp vs (run vs s w) l := by
  unfold run; rw [List.foldl_append]; rfl

/-- values of m letters, each from 1 to 4 -/
structure VOk (m : Nat) (vs : List Nat) : Prop where
  len : vs.length = m
  m1 : 1 ≤ m
  m3 : m ≤ 3
  lo : ∀ v ∈ vs, 1 ≤ v
  hi : ∀ v ∈ vs, v ≤ 4
/-- a slate of at most 4 letters below m -/
def SOk (m : Nat) (s : List Nat) : Prop := s.length ≤ 4 ∧ ∀ l ∈ s, l < m

theorem VOk.get {m : Nat} {vs : List Nat} (h : VOk m vs) {l : Nat} (hl : l < m) : ∃ v, vs[l]? = some v ∧ vs.getD l 1 = v ∧ 1 ≤ v ∧ v ≤ 4 := by
  have h1 : l < vs.length := by rw [h.len]; exact hl
  refine ⟨vs[l], List.getElem?_eq_getElem h1, by rw [List.getD_eq_getElem?_getD, List.getElem?_eq_getElem h1]; rfl, h.lo _ (List.getElem_mem h1), h.hi _ (List.getElem_mem h1)⟩
theorem SOk.stp {m : Nat} {vs s : List Nat} {l : Nat} (hv : VOk m vs) (hs : SOk m s) (hl : l < m) : SOk m (stp vs s l) := by
  obtain ⟨v, _, e, h1, h4⟩ := hv.get hl
  unfold K62.stp
  rw [e]
  refine ⟨?_, fun x hx => ?_⟩
  · rw [List.length_cons, List.length_eraseIdx]
    have := hs.1
    split <;> omega
  · rcases List.mem_cons.mp hx with rfl | hx
    · exact hl
    · exact hs.2 x (List.mem_of_mem_eraseIdx hx)
theorem SOk.run {m : Nat} {vs : List Nat} (hv : VOk m vs) : ∀ {w s : List Nat}, SOk m s → (∀ l ∈ w, l < m) → SOk m (run vs s w)
  | [], _, hs, _ => hs
  | l :: w, _, hs, hw => SOk.run (w := w) hv (hs.stp hv (hw l List.mem_cons_self)) fun x hx => hw x (List.mem_cons_of_mem _ hx)

/-! ### words in their order -/
def lt : List Nat → List Nat → Bool
  | [], [] => false
  | [], _ :: _ => true
  | _ :: _, [] => false
  | x :: xs, y :: ys => if x = y then lt xs ys else decide (x < y)
theorem lt_irr : ∀ a : List Nat, lt a a = false
  | [] => rfl
  | x :: xs => by unfold lt; rw [if_pos rfl]; exact lt_irr xs
theorem lt_pre : ∀ w a b : List Nat, lt (w ++ a) (w ++ b) = lt a b
  | [], _, _ => rfl
  | x :: xs, a, b => by
    show (if x = x then lt (xs ++ a) (xs ++ b) else decide (x < x)) = _
    rw [if_pos rfl]; exact lt_pre xs a b
theorem lt_suf : ∀ (a b c : List Nat), a.length = b.length → lt (a ++ c) (b ++ c) = lt a b
  | [], [], c, _ => lt_irr c
  | x :: xs, y :: ys, c, h => by
    show lt (x :: (xs ++ c)) (y :: (ys ++ c)) = lt (x :: xs) (y :: ys)
    unfold lt
    rw [lt_suf xs ys c (by simpa using h)]
theorem lt_tri : ∀ a b : List Nat, lt a b = false → lt b a = false → a = b
  | [], [], _, _ => rfl
  | [], _ :: _, h, _ => by simp [lt] at h
  | _ :: _, [], _, h => by simp [lt] at h
  | x :: xs, y :: ys, h, h' => by
    unfold lt at h h'
    by_cases e : x = y
    · subst e
      rw [if_pos rfl] at h h'
      rw [lt_tri xs ys h h']
    · rw [if_neg e] at h
      rw [if_neg (Ne.symm e)] at h'
      have h := of_decide_eq_false h
      have h' := of_decide_eq_false h'
      omega
theorem lt_trans : ∀ a b c : List Nat, lt a b = true → lt b c = true → lt a c = true
  | [], [], _, h, _ => by simp [lt] at h
  | [], _ :: _, [], _, h => by simp [lt] at h
  | [], _ :: _, _ :: _, _, _ => by simp [lt]
  | _ :: _, [], _, h, _ => by simp [lt] at h
  | _ :: _, _ :: _, [], _, h => by simp [lt] at h
  | x :: xs, y :: ys, z :: zs, h, h' => by
    unfold lt at h h' ⊢
    by_cases e : x = y
    · subst e
      rw [if_pos rfl] at h
      by_cases e' : x = z
      · subst e'
        rw [if_pos rfl] at h' ⊢
        exact lt_trans xs ys zs h h'
      · rw [if_neg e'] at h' ⊢
        exact h'
    · rw [if_neg e] at h
      have h := of_decide_eq_true h
      by_cases e' : y = z
      · subst e'
        rw [if_neg e]
        exact decide_eq_true h
      · rw [if_neg e'] at h'
        have h' := of_decide_eq_true h'
        rw [if_neg (by omega)]
        exact decide_eq_true (by omega)
theorem lt_asym {a b : List Nat} (h : lt a b = true) : lt b a = false := by
  cases e : lt b a with
  | false => rfl
  | true =>
    have := lt_trans a b a h e
    rw [lt_irr] at this; cases this
/-- Python's min(a, b) -/
def wmin (a b : List Nat) : List Nat := if lt b a = true then b else a
theorem wmin_comm (a b : List Nat) : wmin a b = wmin b a := by
  unfold wmin
  cases h : lt b a with
  | true => rw [lt_asym h]; simp
  | false =>
    cases h' : lt a b with
    | true => simp
    | false => simp [lt_tri a b h' h]
theorem wmin_assoc (a b c : List Nat) : wmin (wmin a b) c = wmin a (wmin b c) := by
  unfold wmin
  cases h1 : lt b a with
  | true =>
    cases h2 : lt c b with
    | true =>
      have := lt_trans _ _ _ h2 h1
      simp [h2, this]
    | false => simp [h1, h2]
  | false =>
    cases h2 : lt c b with
    | true => simp
    | false =>
      simp only [Bool.false_eq_true, if_false]
      cases h3 : lt c a with
      | false => simp [h1]
      | true =>
        -- c < a, not c < b: b ≤ c < a, so b < a or b = c
        exfalso
        cases h4 : lt b c with
        | true => rw [lt_trans _ _ _ h4 h3] at h1; cases h1
        | false =>
          have e := lt_tri c b h2 h4
          subst e
          rw [h3] at h1; cases h1
theorem wmin_suf {a b : List Nat} (c : List Nat) (h : a.length = b.length) : wmin (a ++ c) (b ++ c) = wmin a b ++ c := by
  unfold wmin
  rw [lt_suf b a c h.symm]
  split <;> rfl
theorem wmin_len {a b : List Nat} {n : Nat} (ha : a.length = n) (hb : b.length = n) : (wmin a b).length = n := by
  unfold wmin; split <;> assumption
def omin : Option (List Nat) → Option (List Nat) → Option (List Nat)
  | none, y => y
  | some a, none => some a
  | some a, some b => some (wmin a b)
theorem omin_none (x : Option (List Nat)) : omin x none = x := by cases x <;> rfl
theorem omin_comm (x y : Option (List Nat)) : omin x y = omin y x := by
  cases x <;> cases y <;> first | rfl | exact congrArg some (wmin_comm _ _)
theorem omin_assoc (x y z : Option (List Nat)) : omin (omin x y) z = omin x (omin y z) := by
  cases x <;> cases y <;> cases z <;> first | rfl | exact congrArg some (wmin_assoc _ _ _)

/-! ### pairs of a number and a least word -/
abbrev Both := Nat × Option (List Nat)
def bop (a b : Both) : Both := (a.1 + b.1, omin a.2 b.2)
def bz : Both := (0, none)
theorem bop_comm (a b : Both) : bop a b = bop b a := by unfold bop; rw [Nat.add_comm, omin_comm]
theorem bop_assoc (a b c : Both) : bop (bop a b) c = bop a (bop b c) := by unfold bop; simp only [Nat.add_assoc, omin_assoc]
theorem bop_z (a : Both) : bop a bz = a := by unfold bop bz; simp only [Nat.add_zero, omin_none]
theorem z_bop (a : Both) : bop bz a = a := by rw [bop_comm, bop_z]

/-! ### tables -/
section
variable {β : Type}
def aget (T : List (List Nat × β)) (k : List Nat) : Option β := (T.find? fun t => decide (t.1 = k)).map (·.2)
def aput (T : List (List Nat × β)) (k : List Nat) (v : β) : List (List Nat × β) :=
  if (T.any fun t => decide (t.1 = k)) = true then T.map (fun t => if t.1 = k then (t.1, v) else t) else T ++ [(k, v)]
theorem aget_pos {p : List Nat × β} {r : List (List Nat × β)} {k : List Nat} (e : p.1 = k) : aget (p :: r) k = some p.2 := by simp [aget, List.find?_cons, e]
theorem aget_neg {p : List Nat × β} {r : List (List Nat × β)} {k : List Nat} (e : ¬ p.1 = k) : aget (p :: r) k = aget r k := by simp [aget, List.find?_cons, e]
theorem any_aget (k : List Nat) : ∀ T : List (List Nat × β), (T.any fun t => decide (t.1 = k)) = (aget T k).isSome
  | [] => rfl
  | p :: r => by
    rw [List.any_cons]
    by_cases e : p.1 = k
    · simp only [aget_pos e, decide_eq_true e, Bool.true_or, Option.isSome_some]
    · rw [aget_neg e, decide_eq_false e, Bool.false_or]; exact any_aget k r
theorem aput_new {T : List (List Nat × β)} {k : List Nat} (v : β) (h : aget T k = none) : aput T k v = T ++ [(k, v)] := by
  unfold aput; rw [any_aget, h]; exact if_neg Bool.false_ne_true
theorem aput_old {T : List (List Nat × β)} {k : List Nat} {v0 : β} (v : β) (h : aget T k = some v0) : aput T k v = T.map fun t => if t.1 = k then (t.1, v) else t := by
  unfold aput; rw [any_aget, h]; exact if_pos rfl
theorem aget_mem : ∀ {T : List (List Nat × β)} {k : List Nat} {v : β}, aget T k = some v → (k, v) ∈ T
  | [], _, _, h => by simp [aget] at h
  | p :: r, k, v, h => by
    by_cases e : p.1 = k
    · rw [aget_pos e] at h
      cases h
      rw [← e]; exact List.mem_cons_self
    · rw [aget_neg e] at h
      exact List.mem_cons_of_mem _ (aget_mem h)
theorem aget_not : ∀ {T : List (List Nat × β)} {k : List Nat}, aget T k = none → ¬ k ∈ T.map (·.1)
  | [], _, _, h => by simp at h
  | p :: r, k, h, m => by
    by_cases e : p.1 = k
    · rw [aget_pos e] at h; cases h
    · rw [aget_neg e] at h
      rcases List.mem_cons.mp m with q | q
      · exact e q.symm
      · exact aget_not h q
theorem aget_at : ∀ {T : List (List Nat × β)} {p : List Nat × β}, (T.map (·.1)).Nodup → p ∈ T → aget T p.1 = some p.2
  | [], _, _, h => by simp at h
  | q :: r, p, hn, h => by
    obtain ⟨h1, h2⟩ := List.nodup_cons.mp (show (q.1 :: r.map (·.1)).Nodup from hn)
    rcases List.mem_cons.mp h with e | h
    · rw [e]; exact aget_pos rfl
    · have : ¬ q.1 = p.1 := fun e => h1 (by rw [e]; exact List.mem_map.mpr ⟨p, h, rfl⟩)
      rw [aget_neg this]; exact aget_at h2 h
theorem aput_keys_old {T : List (List Nat × β)} {k : List Nat} {v0 v : β} (h : aget T k = some v0) : (aput T k v).map (·.1) = T.map (·.1) := by
  rw [aput_old v h, List.map_map]
  refine List.map_congr_left fun t _ => ?_
  show (if t.1 = k then (t.1, v) else t).1 = t.1
  split <;> rfl
theorem nd_snoc {α : Type} {l : List α} {k : α} (h : l.Nodup) (hk : ¬ k ∈ l) : (l ++ [k]).Nodup := by
  rw [List.nodup_append]
  exact ⟨h, List.pairwise_singleton .., fun a ha b hb e => hk (List.mem_singleton.mp hb ▸ e ▸ ha)⟩
theorem nd_aput {T : List (List Nat × β)} {k : List Nat} (v : β) (hn : (T.map (·.1)).Nodup) : ((aput T k v).map (·.1)).Nodup := by
  cases h : aget T k with
  | none =>
    rw [aput_new v h, List.map_append]
    exact nd_snoc hn (aget_not h)
  | some v0 => rw [aput_keys_old h]; exact hn
theorem mem_aput {T : List (List Nat × β)} {k : List Nat} {v : β} {p : List Nat × β} (h : p ∈ aput T k v) : p ∈ T ∨ p = (k, v) := by
  cases e : aget T k with
  | none =>
    rw [aput_new v e] at h
    rcases List.mem_append.mp h with q | q
    · exact .inl q
    · exact .inr (List.mem_singleton.mp q)
  | some v0 =>
    rw [aput_old v e] at h
    obtain ⟨t, ht, q⟩ := List.mem_map.mp h
    by_cases z : t.1 = k
    · rw [if_pos z] at q
      exact .inr (by rw [← q, z])
    · rw [if_neg z] at q
      exact .inl (q ▸ ht)

variable {A : Type} (op : A → A → A) (e : A)
def tot (φ : List Nat → β → A) (T : List (List Nat × β)) : A := (T.map fun t => φ t.1 t.2).foldr op e
variable {op e}
theorem fold_app (ha : ∀ a b c, op (op a b) c = op a (op b c)) (hz : ∀ a, op e a = a) : ∀ xs ys : List A, (xs ++ ys).foldr op e = op (xs.foldr op e) (ys.foldr op e)
  | [], ys => (hz _).symm
  | x :: xs, ys => by
    show op x ((xs ++ ys).foldr op e) = op (op x (xs.foldr op e)) _
    rw [fold_app ha hz xs ys, ha]
theorem tot_app (ha : ∀ a b c, op (op a b) c = op a (op b c)) (hz : ∀ a, op e a = a) (φ : List Nat → β → A) (T U : List (List Nat × β)) : tot op e φ (T ++ U) = op (tot op e φ T) (tot op e φ U) := by
  unfold tot; rw [List.map_append]; exact fold_app ha hz _ _
theorem tot_one (hz : ∀ a, op a e = a) (φ : List Nat → β → A) (k : List Nat) (v : β) : tot op e φ [(k, v)] = φ k v := hz _
theorem tot_new (ha : ∀ a b c, op (op a b) c = op a (op b c)) (hz : ∀ a, op e a = a) (hz' : ∀ a, op a e = a) {φ : List Nat → β → A} {T : List (List Nat × β)} {k : List Nat} (v : β) (h : aget T k = none) :
    tot op e φ (aput T k v) = op (tot op e φ T) (φ k v) := by
  rw [aput_new v h, tot_app ha hz, tot_one hz']
theorem tot_same (φ : List Nat → β → A) (k : List Nat) (v : β) : ∀ T : List (List Nat × β), ¬ k ∈ T.map (·.1) → T.map (fun t => if t.1 = k then (t.1, v) else t) = T
  | [], _ => rfl
  | p :: r, h => by
    have h1 : ¬ p.1 = k := fun q => h (by rw [← q]; exact List.mem_cons_self)
    rw [List.map_cons, if_neg h1, tot_same φ k v r fun m => h (List.mem_cons_of_mem _ m)]
theorem tot_old (ha : ∀ a b c, op (op a b) c = op a (op b c)) (hc : ∀ a b, op a b = op b a) {φ : List Nat → β → A} {k : List Nat} {v0 v : β} {x : A} (hx : φ k v = op (φ k v0) x) :
    ∀ {T : List (List Nat × β)}, (T.map (·.1)).Nodup → aget T k = some v0 → tot op e φ (aput T k v) = op (tot op e φ T) x
  | [], _, h => by simp [aget] at h
  | p :: r, hn, h => by
    obtain ⟨h1, h2⟩ := List.nodup_cons.mp (show (p.1 :: r.map (·.1)).Nodup from hn)
    rw [aput_old v h]
    by_cases q : p.1 = k
    · rw [aget_pos q] at h
      cases h
      rw [List.map_cons, if_pos q, tot_same φ k v r (q ▸ h1)]
      show op (φ p.1 v) (tot op e φ r) = op (op (φ p.1 p.2) (tot op e φ r)) x
      rw [q, hx, ha, hc x, ← ha]
    · rw [aget_neg q] at h
      rw [List.map_cons, if_neg q]
      have ih := tot_old ha hc hx h2 h
      rw [aput_old v h] at ih
      show op (φ p.1 p.2) (tot op e φ (r.map _)) = op (op (φ p.1 p.2) (tot op e φ r)) x
      rw [ih, ha]
theorem tot_end (hz : ∀ a, op e a = a) (hz' : ∀ a, op a e = a) {φ : List Nat → β → A} {g : List Nat} (ho : ∀ k v, k ≠ g → φ k v = e) : ∀ {T : List (List Nat × β)}, (T.map (·.1)).Nodup → tot op e φ T = match aget T g with | some v => φ g v | none => e
  | [], _ => rfl
  | p :: r, hn => by
    obtain ⟨h1, h2⟩ := List.nodup_cons.mp (show (p.1 :: r.map (·.1)).Nodup from hn)
    have ih := tot_end hz hz' ho h2
    show op (φ p.1 p.2) (tot op e φ r) = _
    by_cases q : p.1 = g
    · have : aget r g = none := by
        cases z : aget r g with
        | none => rfl
        | some v => exact absurd (List.mem_map.mpr ⟨_, aget_mem z, rfl⟩) (q ▸ h1)
      rw [ih, this, aget_pos q, hz', q]
    · rw [ho _ _ q, hz, ih, aget_neg q]
theorem tot_take (ha : ∀ a b c, op (op a b) c = op a (op b c)) (hz : ∀ a, op e a = a) (hz' : ∀ a, op a e = a) (φ : List Nat → β → A) {T : List (List Nat × β)} {i : Nat} {p : List Nat × β} (h : T[i]? = some p) :
    tot op e φ (T.take (i + 1)) = op (tot op e φ (T.take i)) (φ p.1 p.2) := by
  rw [List.take_add_one, h]
  show tot op e φ (T.take i ++ [p]) = _
  rw [tot_app ha hz, show [p] = [(p.1, p.2)] from rfl, tot_one hz']
end

/-! ### words that fit a pattern -/
def opts (m : Nat) : Option Nat → List Nat
  | none => List.range m
  | some a => [a]
def fit (m : Nat) : List (Option Nat) → List (List Nat)
  | [] => [[]]
  | t :: r => (opts m t).flatMap fun l => (fit m r).map (l :: ·)
/-- those of them that lead to a goal -/
def due (m : Nat) (vs g : List Nat) (r : List (Option Nat)) (s : List Nat) : List (List Nat) := (fit m r).filter fun w => decide (run vs s w = g)
theorem due_cons (m : Nat) (vs g : List Nat) (t : Option Nat) (r : List (Option Nat)) (s : List Nat) : due m vs g (t :: r) s = (opts m t).flatMap fun l => (due m vs g r (stp vs s l)).map (l :: ·) := by
  unfold due
  show ((opts m t).flatMap fun l => (fit m r).map (l :: ·)).filter _ = _
  rw [List.filter_flatMap]
  refine congrArg (fun f => List.flatMap f (opts m t)) (funext fun l => ?_)
  rw [List.filter_map]
  rfl
theorem due_nil (m : Nat) (vs g s : List Nat) : due m vs g [] s = if s = g then [[]] else [] := by
  unfold due fit
  rw [List.filter_cons]
  by_cases e : s = g
  · rw [if_pos e]; simp [run_nil, e]
  · rw [if_neg e]; simp [run_nil, e]
/-- what an entry of the table (n words, the least of them w) is worth at a slate -/
def phi (m : Nat) (vs g : List Nat) (r : List (Option Nat)) (s : List Nat) (v : Nat × List Nat) : Both := (v.1 * (due m vs g r s).length, (due m vs g r s).head?.map (v.2 ++ ·))
theorem opts_lt (m : Nat) (t : Option Nat) : (opts m t).Pairwise (· < ·) := by
  cases t with
  | none => exact List.pairwise_lt_range
  | some a => exact List.pairwise_singleton _ _
theorem phi_cons {m : Nat} {vs g : List Nat} {t : Option Nat} {r : List (Option Nat)} (s : List Nat) (v : Nat × List Nat) :
    phi m vs g (t :: r) s v = ((opts m t).map fun l => phi m vs g r (stp vs s l) (v.1, v.2 ++ [l])).foldr bop bz := by
  have key : ∀ ls : List Nat, ls.Pairwise (· < ·) → ((ls.map fun l => phi m vs g r (stp vs s l) (v.1, v.2 ++ [l])).foldr bop bz) =
      (v.1 * (ls.flatMap fun l => (due m vs g r (stp vs s l)).map (l :: ·)).length, (ls.flatMap fun l => (due m vs g r (stp vs s l)).map (l :: ·)).head?.map (v.2 ++ ·)) := by
    intro ls
    induction ls with
    | nil => intro _; simp [bz]
    | cons l ls ih =>
      intro hp
      obtain ⟨h1, h2⟩ := List.pairwise_cons.mp hp
      rw [List.map_cons, List.foldr_cons, ih h2, List.flatMap_cons]
      unfold bop phi
      refine Prod.ext ?_ ?_
      · show _ + _ = _
        rw [List.length_append, List.length_map, Nat.mul_add]
      · show omin _ _ = _
        cases hd : due m vs g r (stp vs s l) with
        | nil => simp [omin]
        | cons x xs =>
          simp only [List.head?_cons, Option.map_some, List.map_cons, List.cons_append]
          cases hr : (ls.flatMap fun l => (due m vs g r (stp vs s l)).map (l :: ·)).head? with
          | none => simp [omin]
          | some y =>
            have hy := List.mem_of_head? hr
            obtain ⟨l', hl', hy⟩ := List.mem_flatMap.mp hy
            obtain ⟨z, _, rfl⟩ := List.mem_map.mp hy
            have hlt := h1 l' hl'
            show some (wmin (v.2 ++ [l] ++ x) (v.2 ++ (l' :: z))) = some (v.2 ++ l :: x)
            have e1 : v.2 ++ [l] ++ x = v.2 ++ (l :: x) := by simp
            rw [e1]
            unfold wmin
            rw [lt_pre]
            have : lt (l' :: z) (l :: x) = false := by
              unfold lt
              rw [if_neg (by omega)]
              exact decide_eq_false (by omega)
            rw [this]
            simp
  rw [key _ (opts_lt m t), ← due_cons]
  rfl
theorem phi_add {m : Nat} {vs g : List Nat} {r : List (Option Nat)} {s : List Nat} {n0 n : Nat} {w0 w : List Nat} (h : w0.length = w.length) :
    phi m vs g r s (n0 + n, wmin w0 w) = bop (phi m vs g r s (n0, w0)) (phi m vs g r s (n, w)) := by
  unfold phi bop
  refine Prod.ext ?_ ?_
  · show _ = _ + _
    rw [Nat.add_mul]
  · cases (due m vs g r s).head? with
    | none => rfl
    | some x => exact congrArg some (wmin_suf x h).symm
theorem phi_other {m : Nat} {vs g : List Nat} (s : List Nat) (v : Nat × List Nat) (h : s ≠ g) : phi m vs g [] s v = bz := by
  unfold phi; rw [due_nil, if_neg h]; simp [bz]
theorem phi_goal {m : Nat} {vs g : List Nat} (v : Nat × List Nat) : phi m vs g [] g v = (v.1, some v.2) := by
  unfold phi; rw [due_nil, if_pos rfl]; simp
theorem phi_start {m : Nat} {vs g : List Nat} (r : List (Option Nat)) (s : List Nat) : phi m vs g r s (1, []) = ((due m vs g r s).length, (due m vs g r s).head?) := by
  unfold phi
  refine Prod.ext (Nat.one_mul _) ?_
  show Option.map (fun x => [] ++ x) _ = _
  cases (due m vs g r s).head? <;> rfl
/-- numbers alone -/
def psi (m : Nat) (vs g : List Nat) (r : List (Option Nat)) (s : List Nat) (n : Nat) : Nat := n * (due m vs g r s).length
theorem psi_cons {m : Nat} {vs g : List Nat} {t : Option Nat} {r : List (Option Nat)} (s : List Nat) (n : Nat) : psi m vs g (t :: r) s n = ((opts m t).map fun l => psi m vs g r (stp vs s l) n).foldr (· + ·) 0 := by
  have h := congrArg Prod.fst (phi_cons (m := m) (vs := vs) (g := g) (t := t) (r := r) s (n, []))
  refine Eq.trans h ?_
  generalize opts m t = ls
  induction ls with
  | nil => rfl
  | cons l ls ih => show _ + _ = _ + _; rw [ih]; rfl
theorem psi_add {m : Nat} {vs g : List Nat} {r : List (Option Nat)} {s : List Nat} {n0 n : Nat} : psi m vs g r s (n0 + n) = psi m vs g r s n0 + psi m vs g r s n := Nat.add_mul _ _ _
theorem psi_other {m : Nat} {vs g : List Nat} (s : List Nat) (n : Nat) (h : s ≠ g) : psi m vs g [] s n = 0 := by
  unfold psi; rw [due_nil, if_neg h]; rfl
theorem psi_goal {m : Nat} {vs g : List Nat} (n : Nat) : psi m vs g [] g n = n := by
  unfold psi; rw [due_nil, if_pos rfl]; exact Nat.mul_one n

/-! ### the law's own list -/
def words (m : Nat) : Nat → List (List Nat)
  | 0 => [[]]
  | n + 1 => (words m n).flatMap fun w => (List.range m).map fun l => w ++ [l]
def wordsC (m : Nat) : Nat → List (List Nat)
  | 0 => [[]]
  | n + 1 => (List.range m).flatMap fun l => (wordsC m n).map (l :: ·)
theorem words_eq (m : Nat) : ∀ n, words m n = wordsC m n
  | 0 => rfl
  | n + 1 => by
    cases n with
    | zero =>
      show ([[]] : List (List Nat)).flatMap (fun w => (List.range m).map fun l => w ++ [l]) = (List.range m).flatMap fun l => [[l]]
      rw [List.flatMap_cons, List.flatMap_nil, List.append_nil]
      induction List.range m with
      | nil => rfl
      | cons a r ih => rw [List.map_cons, List.flatMap_cons, ih]; rfl
    | succ n =>
      have ih := words_eq m (n + 1)
      have e1 : words m (n + 1 + 1) = (words m (n + 1)).flatMap fun w => (List.range m).map fun l => w ++ [l] := rfl
      have e2 : wordsC m (n + 1 + 1) = (List.range m).flatMap fun l => (wordsC m (n + 1)).map (l :: ·) := rfl
      have e3 : wordsC m (n + 1) = (List.range m).flatMap fun l => (wordsC m n).map (l :: ·) := rfl
      have ihn := words_eq m n
      have e4 : words m (n + 1) = (words m n).flatMap fun w => (List.range m).map fun l => w ++ [l] := rfl
      rw [e1, ih, e2, e3, List.flatMap_assoc]
      refine congrArg (fun f => List.flatMap f (List.range m)) (funext fun a => ?_)
      rw [← e3, ← ih, e4, ihn, List.flatMap_map, List.map_flatMap]
      refine congrArg (fun f => List.flatMap f (wordsC m n)) (funext fun w => ?_)
      rw [List.map_map]
      rfl
theorem words_len (m : Nat) : ∀ n, ∀ w ∈ words m n, w.length = n ∧ ∀ l ∈ w, l < m
  | 0, w, h => by
    have e : w = [] := by simpa [words] using h
    subst e; exact ⟨rfl, fun l hl => by simp at hl⟩
  | n + 1, w, h => by
    obtain ⟨u, hu, hw⟩ := List.mem_flatMap.mp (show w ∈ (words m n).flatMap _ from h)
    obtain ⟨l, hl, rfl⟩ := List.mem_map.mp hw
    obtain ⟨h1, h2⟩ := words_len m n u hu
    refine ⟨by rw [List.length_append, h1]; rfl, fun x hx => ?_⟩
    rcases List.mem_append.mp hx with q | q
    · exact h2 x q
    · rw [List.mem_singleton.mp q]; exact List.mem_range.mp hl
theorem words_count (m : Nat) : ∀ n, (words m n).length = m ^ n
  | 0 => rfl
  | n + 1 => by
    show ((words m n).flatMap fun w => (List.range m).map fun l => w ++ [l]).length = _
    rw [List.length_flatMap]
    have : (words m n).map (fun w => ((List.range m).map fun l => w ++ [l]).length) = (words m n).map fun _ => m := List.map_congr_left fun w _ => by simp
    rw [this, List.map_const', List.sum_replicate_nat, words_count m n, Nat.pow_succ]
/-- the open places of a pattern -/
def opens : List (Option Nat) → Nat
  | [] => 0
  | none :: r => opens r + 1
  | some _ :: r => opens r
theorem opens_snoc (t : Option Nat) : ∀ r, opens (r ++ [t]) = opens r + (if t = none then 1 else 0)
  | [] => by cases t <;> rfl
  | none :: r => by show opens (r ++ [t]) + 1 = opens r + 1 + _; rw [opens_snoc t r]; omega
  | some _ :: r => opens_snoc t r
def fillin : List (Option Nat) → List Nat → List Nat
  | [], _ => []
  | none :: r, [] => 0 :: fillin r []
  | none :: r, x :: f => x :: fillin r f
  | some a :: r, f => a :: fillin r f
theorem fill_fit (m : Nat) : ∀ r, (wordsC m (opens r)).map (fillin r) = fit m r
  | [] => rfl
  | none :: r => by
    show ((List.range m).flatMap fun l => (wordsC m (opens r)).map (l :: ·)).map _ = (List.range m).flatMap _
    rw [List.map_flatMap]
    refine congrArg (fun f => List.flatMap f (List.range m)) (funext fun l => ?_)
    rw [← fill_fit m r, List.map_map, List.map_map]
    rfl
  | some a :: r => by
    show (wordsC m (opens r)).map (fillin (some a :: r)) = [a].flatMap _
    rw [List.flatMap_cons, List.flatMap_nil, List.append_nil, ← fill_fit m r, List.map_map]
    rfl
theorem due_words (m : Nat) (vs g s : List Nat) (r : List (Option Nat)) : ((words m (opens r)).map (fillin r)).filter (fun w => decide (run vs s w = g)) = due m vs g r s := by
  rw [words_eq, fill_fit]; rfl
theorem fillin_len : ∀ (r : List (Option Nat)) (f : List Nat), (fillin r f).length = r.length
  | [], _ => rfl
  | none :: r, [] => congrArg (· + 1) (fillin_len r [])
  | none :: r, _ :: f => congrArg (· + 1) (fillin_len r f)
  | some _ :: r, f => congrArg (· + 1) (fillin_len r f)
theorem fillin_some : ∀ {r : List (Option Nat)} {f : List Nat} {j a : Nat}, r[j]? = some (some a) → (fillin r f)[j]? = some a
  | [], _, _, _, h => by simp at h
  | some b :: r, f, 0, a, h => by
    have e : b = a := by simpa using h
    subst e; rfl
  | none :: r, f, 0, a, h => by simp at h
  | some b :: r, f, j + 1, a, h => by
    show (fillin r f)[j]? = _
    exact fillin_some (by simpa using h)
  | none :: r, [], j + 1, a, h => by
    show (fillin r [])[j]? = _
    exact fillin_some (by simpa using h)
  | none :: r, x :: f, j + 1, a, h => by
    show (fillin r f)[j]? = _
    exact fillin_some (by simpa using h)
theorem fillin_none : ∀ {r : List (Option Nat)} {f : List Nat} {j : Nat}, f.length = opens r → r[j]? = some none → ∃ x, f[opens (r.take j)]? = some x ∧ (fillin r f)[j]? = some x
  | [], _, _, _, h => by simp at h
  | some b :: r, f, 0, _, h => by simp at h
  | some b :: r, f, j + 1, hf, h => fillin_none (r := r) (f := f) (j := j) hf (by simpa using h)
  | none :: r, [], _, hf, _ => by simp [opens] at hf
  | none :: r, x :: f, 0, hf, h => ⟨x, rfl, rfl⟩
  | none :: r, x :: f, j + 1, hf, h => by
    obtain ⟨y, h1, h2⟩ := fillin_none (r := r) (f := f) (j := j) (by simpa [opens] using hf) (by simpa using h)
    exact ⟨y, h1, h2⟩

/-! ### the slates are few -/
def allS (m : Nat) : Nat → List (List Nat)
  | 0 => [[]]
  | n + 1 => [] :: (List.range m).flatMap fun l => (allS m n).map (l :: ·)
theorem mem_allS (m : Nat) : ∀ (n : Nat) (s : List Nat), s.length ≤ n → (∀ l ∈ s, l < m) → s ∈ allS m n
  | 0, s, h, _ => by
    have e : s = [] := List.eq_nil_of_length_eq_zero (by omega)
    subst e; exact List.mem_cons_self
  | n + 1, [], _, _ => List.mem_cons_self
  | n + 1, x :: s, h, hl => by
    refine List.mem_cons_of_mem _ (List.mem_flatMap.mpr ⟨x, List.mem_range.mpr (hl x List.mem_cons_self), List.mem_map.mpr ⟨s, mem_allS m n s (by simpa using h) fun l q => hl l (List.mem_cons_of_mem _ q), rfl⟩⟩)
theorem len_allS (m : Nat) (h : m ≤ 3) : (allS m 4).length ≤ 121 := by
  rcases m with _ | _ | _ | _ | m
  · decide
  · decide
  · decide
  · decide +kernel
  · omega
theorem nd_len {α : Type} [DecidableEq α] : ∀ {l u : List α}, l.Nodup → (∀ x ∈ l, x ∈ u) → l.length ≤ u.length
  | [], _, _, _ => Nat.zero_le _
  | a :: l, u, h, hs => by
    obtain ⟨h1, h2⟩ := List.nodup_cons.mp h
    have ha := hs a List.mem_cons_self
    have := nd_len (l := l) (u := u.erase a) h2 fun x hx => by
      have hne : x ≠ a := fun e => h1 (e ▸ hx)
      exact (List.mem_erase_of_ne hne).mpr (hs x (List.mem_cons_of_mem _ hx))
    rw [List.length_erase_of_mem ha] at this
    have hp : 0 < u.length := List.length_pos_of_mem ha
    rw [List.length_cons]
    omega
theorem few {m : Nat} (hm : m ≤ 3) {β : Type} {T : List (List Nat × β)} (hn : (T.map (·.1)).Nodup) (hs : ∀ t ∈ T, SOk m t.1) : T.length ≤ 121 := by
  have h := nd_len (u := allS m 4) hn fun k hk => by
    obtain ⟨t, ht, rfl⟩ := List.mem_map.mp hk
    exact mem_allS m 4 _ (hs t ht).1 (hs t ht).2
  rw [List.length_map] at h
  exact Nat.le_trans h (len_allS m hm)
end K62
/-! Rules that the layer lacks: a display of one pair with a tuple key, enumerate of a tuple, min of two tuples, tuple * n for any small n. -/
namespace K62
open PySem PySem.Spec PyProof.Rows L2
open AutoSeq1 (wpAny_loadPart')

/-! ### {t: v} -/
def tDisp1 (tk tv : TE) : TE := fun σ H Q => ∀ p, H p = none → tk σ (upd H p (.dT [])) fun x H1 => tv σ H1 fun y H2 =>
  H2 p = some (.dT []) ∧ ∃ (k : List Key) (b : Addr), x = .ref b ∧ H2 b = some (.tup (k.map kV)) ∧ Q (.ref p) (upd H2 p (.dT [(k, y)]))
theorem pe_disp1 {X : Cx} {k v : Expr} {pos : Pos} {tk tv : TE} (hu : X.A.units + 1 < cLine) (hk : PE X k tk) (hv : PE X v tv) : PE X (.Dict [some k] [v] pos) (tDisp1 tk tv) := by
  refine ⟨fun pins s σ H Q I q => ?_⟩
  have hn := I.hok.fresh (Nat.le_refl s.heap.objs.size)
  have I1 := I.laid (o := .dT []) (t' := s.toks) (fun _ _ (e : s.heap.get? _ = some _) => Heap.get?_push_of_some { cls := .type "dict", data := .dict #[] } e) (Nat.le_refl s.heap.objs.size) (dt_empty s.heap I.big)
  have hpp : PPs X pos [some k] [v] [(tk, tv)] := pps_cons hk hv pps_nil
  rw [arm_eval_Dict, zip_pairTrees [some k] [v] X.env pos (by rfl) (by rfl), dictDisplay_pairs (pairTrees [some k] [v] X.env pos) (fun z => nomatch z) (by show 1 < 17; decide)]
  refine wpAny_bind (wpAny_standAt (wpAny_bind (wpAny_subDictH (knd := tupleKind (mixKind X.prog X.w)) (Q := fun d s' => wpAny (model X.prog X.w) X.A (pure (Value.ref d)) (EP X pins σ Q) X.xe s') (show X.A.units < cLine from Nat.lt_of_succ_lt hu) (by show 1 ≤ 15; decide)
    (thn (hpp.run pins _ σ _ (fun ps H2 => match ps with
        | [(x, y)] => H2 s.heap.objs.size = some (.dT []) ∧ ∃ (k : List Key) (b : Addr), x = .ref b ∧ H2 b = some (.tup (k.map kV)) ∧ Q (.ref s.heap.objs.size) (upd H2 s.heap.objs.size (.dT [(k, y)]))
        | _ => False) I1 ?_) ?_))))
  · exact q _ hn
  · rintro ws s2 ⟨ps, H2, I2, rel, hps⟩
    match ps, rel, hps with
    | [(x, y)], rel, ⟨e0, kk, b, ex, eb, q2⟩ =>
    subst ex
    cases rel with
    | @cons p1 p2 _ _ hp t =>
      cases t
      obtain ⟨u1, u2⟩ := p2
      obtain ⟨r1, r2⟩ := hp
      cases (show u1 = Value.ref b from r1)
      obtain ⟨z, hd, xs, rk, dd⟩ := dt_of I2.hok e0
      cases rk
      refine ⟨[(kk, b, u2)], ⟨rfl, rfl, key_of I2.hok eb, trivial⟩, dd, fun h' tk' dd' hs => wpAny_pure ⟨.ref s.heap.objs.size, _, ?_, rfl, q2⟩⟩
      obtain ⟨o, es, ep, ho, h2, h3, h4, _, h5⟩ := dd'
      have ne : b ≠ s.heap.objs.size := ne_of eb e0 (fun z => nomatch z)
      refine d_write I2 (by rw [e0]; exact True.intro) hs ⟨o, ho⟩ ⟨by show 1 ≤ sizeLine; decide, hd, [(kk, b, u2)], .cons ⟨rfl, ?_, r2⟩ .nil, o, es, ep, ho, h2, h3, h4, h5⟩
      rw [upd_ne ne]
      exact eb

/-! ### enumerate(tuple) -/
/-- the tuple at a, each item in a new pair -/
def IteT (K : PySem.W.Frag) (a : Addr) : It :=
  ⟨fun i H => ∃ (xs : List V) (x : V), SqT K H a xs ∧ xs[i]? = some x,
   fun i H v H' => ∃ T x, v = .ref T ∧ H T = none ∧ H' = upd H T (.tup [.int (i : Nat), x]) ∧ ∀ xs, SqT K H a xs → xs[i]? = some x,
   fun i H => ∃ xs : List V, SqT K H a xs ∧ xs.length = i⟩
theorem mem_two {α : Type} {x y z : α} (h : z ∈ [x, y]) : z = x ∨ z = y := (List.mem_cons.mp h).imp_right List.mem_singleton.mp
theorem turn_enumT {P : Program} {w : World} {K : PySem.W.Frag} {elts : List Expr} {kk : Nat} {tpos : Pos} (a e it : Addr) :
    Turn P w K (.Tuple elts kk tpos) (IteT K a) [e, it] e (fun i h => (∃ old, IsEnum h e it ((i : Nat) : Int) old) ∧ h.IsTupleIter it a i ∧ e ≠ it ∧ a ≠ it ∧ a ≠ e) where
  mem := .head _
  self := fun _ _ _ _ _ ⟨⟨_, en⟩, _⟩ h => wpAny_pyIter_enum en h
  keep := fun _ _ _ ⟨⟨old, en⟩, ti, ne⟩ k => ⟨⟨old, k e (.head _) _ en⟩, ti.at fun o q => k it (.tail _ (.head _)) o q, ne⟩
  obj := fun _ _ ⟨⟨_, en⟩, ⟨o, ho, _, hd⟩, _⟩ b hb => by
    rcases mem_two hb with rfl | rfl
    · exact ⟨_, en, nofun⟩
    · exact ⟨o, ho, fun v q => by rw [hd] at q; cases q⟩
  item := by
    rintro X rfl rfl rfl hc i pins s σ H E I hf ⟨⟨old, en⟩, ti, n1, n2, n3⟩ ⟨xs, x, hq, hx⟩
    obtain ⟨its, rv, tp, _⟩ := I.tuple hq
    have lt : i < its.toArray.size := by
      rw [List.size_toArray, ← rv.length]
      exact (List.getElem?_eq_some_iff.mp hx).1
    have le : e < s.heap.objs.size := Heap.lt_size en
    have li : it < s.heap.objs.size := let ⟨_, q, _⟩ := ti; Heap.lt_size q
    refine wpAny_pyNext_enum_itemD (Draws.tuple (A := X.A.in1) (I.ok.hd hc) it a n2 its.toArray) en ⟨ti, tp⟩ lt n1 (fun hm => (mem_two hm).elim n1 fun q => n3 q.symm) fun u h1 tk hu ho st hT _ hk => ?_
    obtain ⟨u2, hu2, ru⟩ := rv.get hx
    obtain rfl : u2 = u := Option.some.inj (hu2.symm.trans (by simpa using hu))
    refine ⟨_, rfl, wpAny_letOwnedTupleGo_enum (s := { s with heap := h1, toks := tk + 1 }) ho fun h2 en2 sb => ?_⟩
    have old2 : ∀ b ob, b ∉ [e, it] → s.heap.get? b = some ob → h2.get? b = some ob := fun b ob hb q => by
      have ne : b ≠ e := fun z => hb (z ▸ .head _)
      exact (sb.2 b ne).trans (hk b ob ne (fun z => hb (by simp [z])) q)
    have pr : ObjOk X.prog X.w (upd H s.heap.objs.size (.tup [.int (i : Nat), x])) h2 s.heap.objs.size (.tup [.int (i : Nat), x]) :=
      ⟨by show 2 ≤ sizeLine; decide, [.int i tk, u2], .cons ⟨_, rfl⟩ (.cons ru .nil), ⟨_, (sb.2 _ (Nat.ne_of_gt le)).trans hT, rfl, _, rfl⟩⟩
    refine ⟨.ref s.heap.objs.size, _, I.turnedNew (t' := tk + 1) (ch := [e, it]) old2 hf (Nat.le_refl _) pr, rfl, ⟨_, x, rfl, I.hok.fresh (Nat.le_refl _), rfl, fun ys hy => (I.tuple_inj hy hq) ▸ hx⟩,
      ⟨⟨u2, Int.natCast_succ i ▸ en2⟩, st.1.at fun o q => (sb.2 it n1.symm).trans q, n1, n2, n3⟩, fun b hb => ?_⟩
    have lb : b < s.heap.objs.size := (mem_two hb).elim (fun z => z ▸ le) fun z => z ▸ li
    exact (upd_ne (Nat.ne_of_lt lb)).trans (hf b hb).1
  done := by
    rintro X rfl rfl rfl hc i pins s σ H E I hf ⟨⟨old, en⟩, ti, n1, n2, n3⟩ ⟨xs, hq, hx⟩
    obtain ⟨its, rv, tp, _⟩ := I.tuple hq
    obtain ⟨f0, f1, _, f3, f4, f5⟩ := hf it (.tail _ (.head _))
    have hn : i = its.toArray.size := by rw [List.size_toArray, ← rv.length, hx]
    exact wpAny_pyNext_enum_endD (Draws.tuple (A := X.A.in1) (I.ok.hd hc) it a n2 its.toArray) en ⟨hn ▸ ti, tp⟩ fun h1 eb => ⟨rfl, I.turned (t' := s.toks) (fun b o hb q => eb b o hb q) f0 f1 f3 f4 f5⟩
/-- enumerate(v) lays what iter(v) lays, and itself -/
theorem enum1_meets {v : Value} {o : Obj} {Hb : Heap → Prop} (B : Begins v o Hb) : Meets (Builtin.«enumerate.__new__» ⟨[.type "enumerate", v], []⟩) (fun _ R s => Hb s.heap ∧
    R (.ok (.ret (.ref (s.heap.push o).objs.size))) { s with heap := (s.heap.push o).push { cls := .type "enumerate", data := .fields #[.none, .bool false, .ref s.heap.objs.size, rawInt 0, .none, .none] } }) := by
  refine .of_wp fun prog w A R s hs => ?_
  obtain ⟨hp, g, d, tk, os⟩ := s
  have go : ∀ {A2 : Around} {E Q : Value → Shared → Prop}, Q (.ref hp.objs.size) ⟨hp.push o, g, d, tk, os⟩ → wpAny (model prog w) A2 (pyIter v) Q E ⟨hp, g, d, tk, os⟩ := fun q => B.iter _ _ _ _ ⟨hp, g, d, tk, os⟩ _ hs.1 q
  have hsub := sub_enumerate
  wp_walk using go
  refine wpAny_stack_any fun _ => wpAny_pure ?_
  split
  case' h_1 c _ _ _ _ _ => cases (c == Value.type "enumerate")
  all_goals
    wp_walk using go
    exact ⟨_, rfl, hs.2⟩
section
variable {prog : Program} {w : World} {A : Around} {E : Value → Shared → Prop} {s : Shared}
theorem call_enum1 {v : Value} {o : Obj} {Hb : Heap → Prop} {Q : Value → Shared → Prop} (B : Begins v o Hb) (hb : Hb s.heap)
    (h : ∀ h1, IsEnum h1 (s.heap.objs.size + 1) s.heap.objs.size 0 .none → h1.get? s.heap.objs.size = some o → (∀ b ob, s.heap.get? b = some ob → h1.get? b = some ob) → Q (.ref (s.heap.objs.size + 1)) { s with heap := h1 }) :
    wpAny (model prog w) A (call (.type "enumerate") [v]) Q E s := by
  have sz : (s.heap.push o).objs.size = s.heap.objs.size + 1 := Heap.size_push ..
  have en := Heap.get?_push_size (s.heap.push o) (o := { cls := .type "enumerate", data := .fields #[.none, .bool false, .ref s.heap.objs.size, rawInt 0, .none, .none] }) rfl
  rw [sz] at en
  refine callType_new F.called_enumerate (by decide) (F.typeCall_enumerate_1 v) (F.newCall_enumerate_1 v) (fun ob => F.args_object_init_2 ob v) F.entry_enumerate_new (enum1_meets B) ⟨hb, ?_⟩
  show _ ∧ _
  rw [sz]
  exact ⟨⟨_, en, rfl⟩, h _ en (Heap.get?_push_of_some _ (Heap.get?_push_size _ B.free)) fun b ob q => Heap.get?_push_of_some _ (Heap.get?_push_of_some _ q)⟩
end
def iEnumT (K : PySem.W.Frag) (ta : TA) : TI := fun σ H R => ta σ H fun vs H1 => ∃ a xs, vs = [.ref a] ∧ SqT K H1 a xs ∧ R (IteT K a) H1
theorem pi_enumT {X : Cx} {e : Expr} {ta : TA} {p pos tpos : Pos} {elts : List Expr} {kk : Nat} (hg : Gl X "enumerate") (hm : X.mg "enumerate" = none) (ha : PA X [e] ta) (hs : starEach [e] X.env = [(false, eval e X.env)] := by rfl) :
    PI X (.Tuple elts kk tpos) (.Call (.Name "enumerate" p) [e] [] pos) (iEnumT X.K ta) := by
  constructor
  intro pins s σ H R I h
  refine Call_ (ld_blt I hg hm boot_enumerate (PyProof.Rows.callWith_type1 (thn (ha.run pos pins s σ H _ I h) fun us s1 ⟨vs, H1, I1, r1, a, xs, ex, hq, q⟩ => ?_) hs rfl))
  subst ex
  obtain ⟨_, rfl, rfl⟩ := vals1 r1
  obtain ⟨its, rv, tp, _⟩ := I1.tuple hq
  have la : a < s1.heap.objs.size := let ⟨_, ho, _⟩ := tp; Heap.lt_size ho
  refine call_enum1 (begins_tuple a its.toArray) tp fun h1 en ti hk => wpAny_pyIter_enum en ?_
  refine ⟨s1.heap.objs.size + 1, [s1.heap.objs.size + 1, s1.heap.objs.size], _, _, H1, rfl, I1.kept (t' := s1.toks) hk, turn_enumT a (s1.heap.objs.size + 1) s1.heap.objs.size,
    ⟨⟨.none, en⟩, ⟨_, ti, rfl, rfl⟩, Nat.succ_ne_self _, Nat.ne_of_lt la, Nat.ne_of_lt (Nat.lt_succ_of_lt la)⟩, fun b hb => ?_, q⟩
  have nw : s1.heap.objs.size ≤ b := by rcases mem_two hb with rfl | rfl <;> omega
  exact I1.fpOk nw (I1.hok.fresh nw)
/-- for i, x in enumerate(tuple): Pv by the turn -/
theorem walk_enumT {K : PySem.W.Frag} {a : Addr} {xs : List V} : Walk (IteT K a) xs.length (fun H => SqT K H a xs)
    (fun i H v H' => ∃ T x, v = .ref T ∧ H T = none ∧ H' = upd H T (.tup [.int (i : Nat), x]) ∧ xs[i]? = some x) :=
  ⟨fun i H hi q => ⟨xs, xs[i], q, List.getElem?_eq_getElem hi⟩, fun H q => ⟨xs, q, rfl⟩, fun i H x H' hi q ⟨T, y, e1, e2, e3, e4⟩ => ⟨T, y, e1, e2, e3, e4 xs q⟩⟩

/-! ### min of two tuples of ints -/
theorem two_at {α : Type} {a b v : α} {i : Nat} (e : (#[a, b])[i]? = some v) : (i = 0 ∧ v = a) ∨ (i ≠ 0 ∧ v = b) := by
  match i, e with
  | 0, e => exact .inl ⟨rfl, (Option.some.inj e).symm⟩
  | 1, e => exact .inr ⟨nofun, (Option.some.inj e).symm⟩
  | i + 2, e => simp at e
theorem fresh_push {h : Heap} {x y : Obj} (b : Addr) (o : Obj) (e : h.get? b = some o) : ((h.push x).push y).get? b = some o := Heap.get?_push_of_some _ (Heap.get?_push_of_some _ e)
section
variable {prog : Program} {w : World} {A : Around} {E : Value → Shared → Prop} {s : Shared}
theorem min_two_tups {a b : Addr} {ns ms : List Int} {its its2 : Array Value} {Q : Value → Shared → Prop} (hh : A.handled = none) (hu : A.units + 1 < cLine) (pa : IsTup s.heap a its) (pb : IsTup s.heap b its2) (ia : IntsAre its.toList ns) (ib : IntsAre its2.toList ms)
    (h : ∀ h' tk, (∀ c o, s.heap.get? c = some o → h'.get? c = some o) → Q (.ref (if HT.lexLt ms ns = true then b else a)) { s with heap := h', toks := tk }) :
    wpAny (model prog w) A (call (.builtin "min") [.ref a, .ref b]) Q E s := by
  have lt : CmpIn prog w A.in1 .Lt s.heap (fun i v => (#[Value.ref a, .ref b])[i]? = some v) (fun i j => HT.lexLt (if i = 0 then ns else ms) (if j = 0 then ns else ms)) := fun i j x y t Q2 E2 kp hx hy hq => by
    have qa : IsTup t.heap a its := let ⟨o, ho, r⟩ := pa; ⟨o, kp _ _ ho, r⟩
    have qb : IsTup t.heap b its2 := let ⟨o, ho, r⟩ := pb; ⟨o, kp _ _ ho, r⟩
    have u1 : A.in1.units < cLine := hu
    rcases two_at hx with ⟨n1, rfl⟩ | ⟨n1, rfl⟩ <;> rcases two_at hy with ⟨n2, rfl⟩ | ⟨n2, rfl⟩ <;> simp only [n1, n2, if_true, if_false] at hq
    · exact HT.lt_tupInts qa qa ia ia u1 hq
    · exact HT.lt_tupInts qa qb ia ib u1 hq
    · exact HT.lt_tupInts qb qa ib ia u1 hq
    · exact HT.lt_tupInts qb qb ib ib u1 hq
  have pair : (s.heap.push { cls := .type "tuple", data := .seq #[.ref a, .ref b] }).IsTuple s.heap.objs.size #[.ref a, .ref b] := ⟨_, Heap.get?_push_size _ rfl, rfl, 0, rfl⟩
  refine call_function_tree F.kind_min F.plain_min F.entry_min (F.args_min2 _ _) (wpAny_bind (wpAny_of_eq (show Builtin.Builtins.bindParams "min" ["key", "default"] 0 ⟨[], []⟩ = pure [none, none] from rfl) ?_))
  refine wpAny_bind (m := newTuple [.ref a, .ref b]) (wpAny_newObj_type (wpAny_bind (PySem.W.iter_tupleW (A := A.in1) hh pair fun s2 es W st hf hw hk => wpAny_bind (wpAny_newObj_type ?_))))
  rw [show (toString "min" ++ toString ".loop" : String) = "min.loop" by decide]
  have old : ∀ c o, s.heap.get? c = some o → s2.heap.get? c = some o := fun c o e => hk c o (Heap.get?_push_of_some _ e)
  refine wpAny_pure ⟨plainId_quiet F.plain_min_loop _, codeAny_min_loop_firstH W s.heap (fun c o e => hw c o (Heap.get?_push_of_some _ e)) _ lt s2.heap.objs.size (fun hm => Nat.lt_irrefl _ (hf _ hm)) (fresh_in old) [] (by show 0 < 2; decide)
    (fun c o e => Heap.get?_push_of_some _ (old c o e)) (W.frame 0 s2 _ s2.toks st (Nat.le_refl _) fun c _ o e => Heap.get?_push_of_some _ e) (Heap.get?_push_size _ rfl) fun v s3 hP hm => ?_⟩
  obtain ⟨h', tk, rfl, hk2⟩ := PySem.W.moved_old es rfl (Moved.drop_new (tk := s2.toks) hm (Nat.le_refl _))
  have ev : v = .ref (if HT.lexLt ms ns = true then b else a) := by
    have hv : (#[Value.ref a, .ref b])[if HT.lexLt ms ns = true then 1 else 0]? = some v := hP
    split at hv
    · rw [if_pos ‹_›]; exact (Option.some.inj hv).symm
    · rw [if_neg ‹_›]; exact (Option.some.inj hv).symm
  rw [ev]
  exact h h' tk fun c o e => hk2 c o (Heap.get?_push_of_some _ e)
end
theorem call_minT {X : Cx} (hc : X.calm = true) (hu : X.A.units + 1 < cLine) : CallR X (.builtin "min") (fun xs H Q => ∃ (a b : Addr) (ns ms : List Int), xs = [.ref a, .ref b] ∧ SqT X.K H a (ns.map V.int) ∧ SqT X.K H b (ms.map V.int) ∧ Q (.ref (if HT.lexLt ms ns = true then b else a)) H) := by
  rintro pins s σ H xs us Q I r ⟨a, b, ns, ms, rfl, ha, hb, q⟩
  obtain ⟨_, _, rfl, rfl, rfl⟩ := vals2 r
  obtain ⟨its, v1, p1, _⟩ := I.tuple ha
  obtain ⟨its2, v2, p2, _⟩ := I.tuple hb
  exact min_two_tups (I.ok.hd hc) hu p1 p2 (intsAre_of v1) (intsAre_of v2) fun h' tk k => ⟨.ref (if HT.lexLt ms ns = true then b else a), H, I.kept k, rfl, q⟩

/-! ### tuple * n -/
theorem tuple_mul1 (l : Addr) (items : Array Value) (n : Nat) (dd : Option Addr) (sl : Array (Option Value)) (u : Tok) :
    Meets (Builtin.«tuple.__mul__» ⟨[.ref l, .int 1 u], []⟩) (fun _ R s => s.heap.get? l = some { cls := .type "tuple", dict := dd, data := .seq items n, slots := sl } ∧ R (.ok (.ret (Value.ref l))) s) :=
  .of_wp fun prog w A R s h => by
    obtain ⟨hp, g, d, tk, os⟩ := s
    obtain ⟨hl, h⟩ := h
    have f1 := AutoSeq1.idx_int
    wp_walk using wpAny_loadPart' hl
    exact ⟨_, rfl, h⟩
theorem tuple_mul0 (l : Addr) (items : Array Value) (n : Nat) (dd : Option Addr) (sl : Array (Option Value)) (u : Tok) (hne : items.isEmpty = false) :
    Meets (Builtin.«tuple.__mul__» ⟨[.ref l, .int 0 u], []⟩) (fun _ R s => s.heap.get? l = some { cls := .type "tuple", dict := dd, data := .seq items n, slots := sl } ∧
      R (.ok (.ret (Value.ref s.heap.objs.size))) { s with heap := s.heap.push { cls := Value.type "tuple", data := Data.seq #[] }, toks := s.toks }) :=
  .of_wp fun prog w A R s h => by
    obtain ⟨hp, g, d, tk, os⟩ := s
    obtain ⟨hl, h⟩ := h
    have f1 := AutoSeq1.idx_int
    wp_walk using wpAny_loadPart' hl
    exact ⟨_, rfl, h⟩
/-- t * n, t not empty, n at most 1000 -/
def rRepA (K : PySem.W.Frag) : R2 := fun x y H Q => ∃ (l : Addr) (k : Nat) (xs : List V), x = .ref l ∧ y = .int (k : Int) ∧ SqT K H l xs ∧ xs ≠ [] ∧ k ≤ 1000 ∧ xs.length ≤ 1000 ∧ (k = 1 → Q (.ref l) H) ∧ (k ≠ 1 → ∀ p, H p = none → Q (.ref p) (upd H p (.tup (List.replicate k xs).flatten)))
theorem op_repA {X : Cx} : OpR X (binaryOp .Mult) (rRepA X.K) := by
  intro pins s σ H x y v u Q I rx ry h
  obtain ⟨l, k, xs, rfl, rfl, hT, hne, h2, hz, q1, q⟩ := h
  by_cases hk : 2 ≤ k
  · exact op_repT pins s σ H _ _ v u Q I rx ry ⟨l, (k : Int), xs, rfl, rfl, hT, hne, by omega, by omega, hz, fun p hp => by
      have := q (by omega) p hp
      rwa [show (k : Int).toNat = k from Int.toNat_natCast k]⟩
  · cases rx
    obtain ⟨t, rfl⟩ := ry
    obtain ⟨its, r, ⟨⟨cls, dd, data, sl⟩, ho, hc, n, hd⟩, hs⟩ := I.tuple hT
    cases (show cls = .type "tuple" from hc)
    cases (show data = .seq its.toArray n from hd)
    have hi : its.toArray.isEmpty = false := by
      cases its with
      | nil =>
        exfalso
        have e := r.length
        exact hne (List.eq_nil_of_length_eq_zero e)
      | cons a b => rfl
    have hk' : k = 0 ∨ k = 1 := by omega
    rcases hk' with rfl | rfl
    · refine wpAny_binaryOp_repeat_ref (T := "tuple") (U := "int") (by decide) ⟨_, ho, rfl⟩ (fun s' => typeIs_int s' _ t) noFill_tuple_mul F.fills_int_mul F.slot_int_rmul repeat_tuple F.slot_int_index.lookup
        (call_meets F.slot_int_rmul (typeIs_int s _ t) F.entry_int_rmul (F.args_int_rmul_2 _ _) (int_rmul_tuple _ t l its.toArray n dd sl)
          ⟨ho, rfl, ⟨_, ho, rfl⟩, call_meets F.slot_tuple_mul ⟨_, ho, rfl⟩ F.entry_tuple_mul (F.args_tuple_mul_2 _ _) (tuple_mul0 l its.toArray n dd sl t hi) ⟨ho, ?_⟩⟩)
      refine ⟨.ref s.heap.objs.size, _, I.laid (t' := s.toks) (o := .tup []) (fun b ob q => Heap.get?_push_of_some _ q) (Nat.le_refl _) ?_, rfl, q (by decide) _ (I.hok.fresh (Nat.le_refl _))⟩
      exact ⟨Nat.zero_le _, [], .nil, IsTup.new _ _⟩
    · exact wpAny_binaryOp_repeat_ref (T := "tuple") (U := "int") (by decide) ⟨_, ho, rfl⟩ (fun s' => typeIs_int s' _ t) noFill_tuple_mul F.fills_int_mul F.slot_int_rmul repeat_tuple F.slot_int_index.lookup
        (call_meets F.slot_int_rmul (typeIs_int s _ t) F.entry_int_rmul (F.args_int_rmul_2 _ _) (int_rmul_tuple _ t l its.toArray n dd sl)
          ⟨ho, rfl, ⟨_, ho, rfl⟩, call_meets F.slot_tuple_mul ⟨_, ho, rfl⟩ F.entry_tuple_mul (F.args_tuple_mul_2 _ _) (tuple_mul1 l its.toArray n dd sl t) ⟨ho, .ref l, H, I, rfl, q1 rfl⟩⟩)
end K62
/-! The text's defs by places; words and slates as tuples of ints; what callers take from a def. -/
namespace K62
open PySem PySem.Spec PyProof.Rows L2
def top (i : Nat) : Stmt := PySem.Challenge.pw_fadewords_k62_whole_patterns.main.body.getD i (.Pass ⟨0, 0, 0, 0⟩)
abbrev sWhole : Stmt := top 11
abbrev sWithin : Stmt := top 12
abbrev sNeedNumber : Stmt := top 13
abbrev sTupleOf : Stmt := top 14
abbrev sNeedValues : Stmt := top 15
abbrev sWrong : Stmt := top 16
abbrev sNeedSlate : Stmt := top 17
abbrev sStepped : Stmt := top 19
abbrev sSpread : Stmt := top 22
abbrev sSpreadTo : Stmt := top 23
abbrev sNeedPattern : Stmt := top 25
abbrev sFilled : Stmt := top 26
abbrev sCounted : Stmt := top 28
abbrev sNumberTo : Stmt := top 29
abbrev sTaken : Stmt := top 31
abbrev sValues : Stmt := top 32
abbrev sWord : Stmt := top 33
abbrev sWrite : Stmt := top 34
abbrev sSlates : Stmt := top 35
abbrev sWords : Stmt := top 36
abbrev sAlike : Stmt := top 37
abbrev sLaw : Stmt := top 38

/-! ### words and slates on the heap -/
def tn (s : List Nat) : List V := s.map fun n : Nat => V.int (n : Int)
def kn (s : List Nat) : List Key := s.map fun n : Nat => Sum.inl (n : Int)
theorem kn_kV (s : List Nat) : (kn s).map kV = tn s := by unfold kn tn; rw [List.map_map]; rfl
theorem kn_inj : ∀ {a b : List Nat}, kn a = kn b → a = b
  | [], [], _ => rfl
  | [], _ :: _, h => by simp [kn] at h
  | _ :: _, [], h => by simp [kn] at h
  | x :: xs, y :: ys, h => by
    have h' : (Sum.inl (x : Int) : Key) :: kn xs = Sum.inl (y : Int) :: kn ys := h
    injection h' with h1 h2
    have e : x = y := by injection h1 with q; omega
    rw [e, kn_inj h2]
theorem tn_len (s : List Nat) : (tn s).length = s.length := by unfold tn; rw [List.length_map]
theorem tn_get {s : List Nat} {i n : Nat} (h : s[i]? = some n) : (tn s)[i]? = some (V.int (n : Int)) := by unfold tn; rw [List.getElem?_map, h]; rfl
theorem tn_app (a b : List Nat) : tn (a ++ b) = tn a ++ tn b := List.map_append
theorem tn_cons (x : Nat) (s : List Nat) : tn (x :: s) = V.int (x : Int) :: tn s := rfl
theorem tn_nil_iff {s : List Nat} : tn s = [] ↔ s = [] := List.map_eq_nil_iff
theorem tn_ints (s : List Nat) : tn s = (s.map fun n : Nat => (n : Int)).map V.int := by unfold tn; rw [List.map_map]; rfl
/-- a tuple of the letters s stands at a -/
abbrev At (H : Hp) (a : Addr) (s : List Nat) : Prop := H a = some (.tup (tn s))
theorem At.key {H : Hp} {a : Addr} {s : List Nat} (h : At H a s) : H a = some (.tup ((kn s).map kV)) := by rw [kn_kV]; exact h
theorem _root_.L2.Same.at {H H' : Hp} (s : Same H H') {a : Addr} {w : List Nat} (h : At H a w) : At H' a w := s _ _ h
theorem same_new {H : Hp} {p : Addr} {o : HO} (h : H p = none) : Same H (upd H p o) := fun b x e => by
  rw [upd_ne (ne_of_none e h)]
  exact e

/-! ### the names of the text -/
structure Txt (mg : Str → Option Value) : Prop where
  isi : mg "isinstance" = none
  int : mg "int" = none
  bool : mg "bool" = none
  tuple : mg "tuple" = none
  list : mg "list" = none
  str : mg "str" = none
  len : mg "len" = none
  all : mg "all" = none
  enum : mg "enumerate" = none
  range : mg "range" = none
  min : mg "min" = none
  most_letters : ∃ t, mg "MOST_LETTERS" = some (.int 5 t)
  most_value : ∃ t, mg "MOST_VALUE" = some (.int 6 t)
  most_slate : ∃ t, mg "MOST_SLATE" = some (.int 12 t)
  most_slates : ∃ t, mg "MOST_SLATES" = some (.int 2000 t)
/-- a def that keeps its promise stands under its name -/
structure Has (P : Program) (w : World) (K : PySem.W.Frag) (mg : Str → Option Value) (base : Heap) (k : Nat) (x : Str) (ps : List Str) (sp : Sp) : Prop where
  ex : ∃ f fd, FnOk P w K mg base CX0 k f fd ps sp ∧ mg x = some (.ref f) ∧ PySem.W.keepIn K (.ref f) = true ∧ Binds K fd ps []
theorem Has.pe {X : Cx} {j k : Nat} {x : Str} {ps : List Str} {sp : Sp} {p pos : Pos} {e : Expr} {es : List Expr} {t : TA} (h : Has X.prog X.w X.K X.mg X.base k x ps sp) (hr : Room j X.A) (ha : PA X (e :: es) t) (hj : k ≤ j := by decide) (hg : Gl X x := by rfl)
    (hdb : (x == ("__debug__" : Str)) = false := by decide) (he : starEach (e :: es) X.env = (false, eval e X.env) :: starEach es X.env := by rfl) (hpl : (backTo pos (starEach es X.env)).any (·.1) = false := by rfl) :
    PE X (.Call (.Name x p) (e :: es) [] pos) (tCall sp [] E0 t) := by
  obtain ⟨f, fd, F, m, kp, b⟩ := h.ex
  exact pe_call F (hr.mono hj) hg m kp b .nil pass0 ha hdb he hpl
theorem Has.imp {P : Program} {w : World} {K : PySem.W.Frag} {mg : Str → Option Value} {base : Heap} {k : Nat} {x : Str} {ps : List Str} {sp sp' : Sp} (h : Has P w K mg base k x ps sp) (i : ∀ vs H Q E, sp' vs H Q E → sp vs H Q E) : Has P w K mg base k x ps sp' := by
  obtain ⟨f, fd, F, m, kp, b⟩ := h.ex
  exact ⟨f, fd, F.imp i, m, kp, b⟩
section
variable {P : Program} {w : World} {K : PySem.W.Frag} {mg : Str → Option Value} {base : Heap}

/-! ### whole, within, need_number, tuple_of -/
def spWhole : Sp := fun vs H Q _ => ∃ i : Int, vs = [.int i] ∧ Q (.bl true) H
theorem scWhole : FnScope ["value"] ["value"] (defScope sWhole) := ⟨rfl, rfl, rfl, by decide +kernel, rfl, by decide +kernel, by decide +kernel⟩
theorem ok_whole {f : Addr} {fd : FuncData} (F : Fun K "whole" "whole" sWhole f fd) (T : Txt mg) : FnOk P w K mg base CX0 1 f fd ["value"] spWhole := by
  refine F.ok scWhole (fun vs H Q E h => ?_) (fun cdv A outer s H vs Q E hr h => ?_)
  · obtain ⟨i, rfl, _⟩ := h
    rfl
  · obtain ⟨i, rfl, q⟩ := h
    refine ⟨_, pss_one (ps_ret (pe_and (pe_callB call_isi (by rfl) T.isi (by decide +kernel) (pa_cons (pv 0) (pa_cons (pe_bltn (v := .ty "int") (by rfl) T.int (by decide +kernel) rfl) pa_nil)))
      (pe_one (pe_not (pe_callB call_isi (by rfl) T.isi (by decide +kernel) (pa_cons (pv 0) (pa_cons (pe_bltn (v := .ty "bool") (by rfl) T.bool (by decide +kernel) rfl) pa_nil))))))), ?_⟩
    refine ⟨_, rfl, _, _, _, _, true, rfl, .ty "int", .base (.int i), kit_ty (by decide +kernel), true, rfl, ?_⟩
    refine iteT ⟨_, rfl, _, _, _, _, false, rfl, .ty "bool", .base (.int i), kit_ty (by decide +kernel), false, rfl, q⟩
def spWithin : Sp := fun vs H Q _ => ∃ i lo hi : Int, vs = [.int i, .int lo, .int hi] ∧ lo ≤ i ∧ i ≤ hi ∧ Q (.bl true) H
theorem scWithin : FnScope ["value", "low", "high"] ["value", "low", "high"] (defScope sWithin) := ⟨rfl, rfl, rfl, by decide +kernel, rfl, by decide +kernel, by decide +kernel⟩
theorem ok_within {f : Addr} {fd : FuncData} (F : Fun K "within" "within" sWithin f fd) (h1 : Has P w K mg base 1 "whole" ["value"] spWhole) : FnOk P w K mg base CX0 2 f fd ["value", "low", "high"] spWithin := by
  refine F.ok scWithin (fun vs H Q E h => ?_) (fun cdv A outer s H vs Q E hr h => ?_)
  · obtain ⟨i, lo, hi, rfl, _⟩ := h
    rfl
  · obtain ⟨i, lo, hi, rfl, hlo, hhi, q⟩ := h
    refine ⟨_, pss_one (ps_ret (pe_and (h1.pe hr (pa_cons (pv 0) pa_nil)) (pe_one (pe_chain op_le op_le (pv 1) (pv 0) (pv 2))))), ?_⟩
    refine ⟨_, rfl, i, rfl, true, rfl, iteT ⟨_, rfl, _, rfl, _, _, rfl, rfl, _, rfl, ?_⟩⟩
    rw [decide_eq_true hlo]
    refine iteT ⟨_, rfl, _, _, rfl, rfl, ?_⟩
    show Q (.bl (decide (i ≤ hi))) H
    rw [decide_eq_true hhi]
    exact q
def spNumber : Sp := fun vs H Q _ => ∃ i lo hi : Int, vs = [.int i, .int lo, .int hi] ∧ lo ≤ i ∧ i ≤ hi ∧ Q .non H
theorem scNumber : FnScope ["value", "low", "high"] ["value", "low", "high"] (defScope sNeedNumber) := ⟨rfl, rfl, rfl, by decide +kernel, rfl, by decide +kernel, by decide +kernel⟩
theorem ok_number {f : Addr} {fd : FuncData} (F : Fun K "need_number" "need_number" sNeedNumber f fd) (h1 : Has P w K mg base 2 "within" ["value", "low", "high"] spWithin) : FnOk P w K mg base CX0 3 f fd ["value", "low", "high"] spNumber := by
  refine F.ok scNumber (fun vs H Q E h => ?_) (fun cdv A outer s H vs Q E hr h => ?_)
  · obtain ⟨i, lo, hi, rfl, _⟩ := h
    rfl
  · obtain ⟨i, lo, hi, rfl, hlo, hhi, q⟩ := h
    refine ⟨_, pss_one (ps_if (pt_not (pt_val (h1.pe hr (pa_cons (pv 0) (pa_cons (pv 1) (pa_cons (pv 2) pa_nil)))))) (pss_one ps_never) pss_nil), ?_⟩
    exact ⟨_, rfl, _, rfl, _, rfl, i, lo, hi, rfl, hlo, hhi, true, rfl, iteF q⟩
def spTupleOf : Sp := fun vs H Q _ => ∃ (a : Addr) (xs : List V) (lo hi : Int), vs = [.ref a, .int lo, .int hi] ∧ H a = some (.tup xs) ∧ lo ≤ (xs.length : Int) ∧ (xs.length : Int) ≤ hi ∧ Q (.bl true) H
theorem scTupleOf : FnScope ["value", "low", "high"] ["value", "low", "high"] (defScope sTupleOf) := ⟨rfl, rfl, rfl, by decide +kernel, rfl, by decide +kernel, by decide +kernel⟩
theorem ok_tupleOf {f : Addr} {fd : FuncData} (F : Fun K "tuple_of" "tuple_of" sTupleOf f fd) (T : Txt mg) : FnOk P w K mg base CX0 1 f fd ["value", "low", "high"] spTupleOf := by
  refine F.ok scTupleOf (fun vs H Q E h => ?_) (fun cdv A outer s H vs Q E hr h => ?_)
  · obtain ⟨a, xs, lo, hi, rfl, _⟩ := h
    rfl
  · obtain ⟨a, xs, lo, hi, rfl, ha, hlo, hhi, q⟩ := h
    refine ⟨_, pss_one (ps_ret (pe_and (pe_callB call_isi (by rfl) T.isi (by decide +kernel) (pa_cons (pv 0) (pa_cons (pe_bltn (v := .ty "tuple") (by rfl) T.tuple (by decide +kernel) rfl) pa_nil)))
      (pe_one (pe_chain op_le op_le (pv 1) (pe_callB call_len_seq (by rfl) T.len PySem.boot_len (pa_cons (pv 0) pa_nil)) (pv 2))))), ?_⟩
    refine ⟨_, rfl, _, _, _, _, true, rfl, .ty "tuple", .base (.tup ha), kit_ty (by decide +kernel), true, rfl, ?_⟩
    refine iteT ⟨_, rfl, _, rfl, a, xs, rfl, .inr (SqT.of ha), _, _, rfl, rfl, _, rfl, ?_⟩
    rw [decide_eq_true hlo]
    refine iteT ⟨_, rfl, _, _, rfl, rfl, ?_⟩
    show Q (.bl (decide ((xs.length : Int) ≤ hi))) H
    rw [decide_eq_true hhi]
    exact q
/-- a def that checks and changes nothing that is tracked -/
def spNeedValues : Sp := fun vs H Q _ => ∃ (a : Addr) (m : Nat) (s : List Nat), vs = [.ref a] ∧ At H a s ∧ VOk m s ∧ ∀ H', Same H H' → Q .non H'
theorem scNeedValues : FnScope ["value", "told"] ["value"] (defScope sNeedValues) := ⟨rfl, rfl, rfl, by decide +kernel, rfl, by decide +kernel, by decide +kernel⟩
theorem ok_needValues {f : Addr} {fd : FuncData} (F : Fun K "need_values" "need_values" sNeedValues f fd) (T : Txt mg) (h1 : Has P w K mg base 1 "tuple_of" ["value", "low", "high"] spTupleOf)
    (h2 : Has P w K mg base 2 "within" ["value", "low", "high"] spWithin) : FnOk P w K mg base CX0 3 f fd ["value"] spNeedValues := by
  refine F.ok scNeedValues (fun vs H Q E h => ?_) (fun cdv A outer s H vs Q E hr h => ?_)
  · obtain ⟨a, m, z, rfl, _⟩ := h
    rfl
  · obtain ⟨a, m, z, rfl, ha, hv, q⟩ := h
    obtain ⟨t5, m5⟩ := T.most_letters
    obtain ⟨t6, m6⟩ := T.most_value
    refine ⟨_, pss_one (ps_if (PW.pt (pw_or (pt_not (pt_val (h1.pe hr (pa_cons (pv 0) (pa_cons pe_int (pa_cons (pe_glob (v := .int 5) (by rfl) m5 ⟨_, rfl⟩) pa_nil))))))
      (pw_or1 (pt_not (pt_val (pe_callB (cr_all rfl) (by rfl) T.all (by decide +kernel) (pa_cons
        (pe_lc (own := [("told", 1)]) (g := gName 1) (tt := tYes) rfl scNeedValues.nd (pi_tup (pv 0)) (blkOk_by (N := ["value", "told"]) (sc := defScope sNeedValues) (by decide +kernel)) (fun _ _ _ _ _ => pg_name (i := 1) scNeedValues.nd rfl (Or.inl rfl)) (fun _ _ _ _ _ => pts_nil)
          (fun _ _ _ _ _ => h2.pe hr (pa_cons (pv 1) (pa_cons pe_int (pa_cons (pe_glob (v := .int 6) (by rfl) m6 ⟨_, rfl⟩) pa_nil))))) pa_nil))))))) (pss_one ps_never) pss_nil), ?_⟩
    have hl := hv.len
    have h1 := hv.m1
    have h3 := hv.m3
    refine ⟨_, rfl, a, _, 1, 5, rfl, ha, by rw [tn_len]; omega, by rw [tn_len]; omega, true, rfl, iteF ?_⟩
    refine ⟨_, rfl, a, rfl, ⟨_, SqT.of ha⟩, fun D nD => ?_⟩
    refine lc_tup (K := K) (a := a) (xs := tn z) (fun i H' => Same H H' ∧ H' D = some (.lst ((List.replicate i true).map V.bl))) ⟨same_new nD, upd_same⟩ (fun i H' _ ⟨s1, _⟩ => SqT.of (s1 _ _ ha)) ?_ ?_
    · rintro i x H1 hx ⟨s1, hD⟩
      have hil : i < z.length := by
        have := (List.getElem?_eq_some_iff.mp hx).1
        rwa [tn_len] at this
      obtain rfl : V.int (z[i] : Int) = x := Option.some.inj ((tn_get (List.getElem?_eq_getElem hil)).symm.trans hx)
      have hm := List.getElem_mem hil
      have lo := hv.lo _ hm
      have hi := hv.hi _ hm
      refine ⟨rfl, _, rfl, _, 1, 6, rfl, by omega, by omega, _, hD, by rw [List.length_map, List.length_replicate]; exact small1000 (by omega), ?_, ?_⟩
      · intro b o e
        rw [upd_ne (ne_of_none e nD)]
        exact s1 b o e
      · rw [upd_same, List.replicate_succ', List.map_append]
        rfl
    · rintro H1 ⟨s1, hD⟩
      refine ⟨D, _, rfl, SqL.of hD, _, rfl, ?_⟩
      have e : (List.replicate (tn z).length true).all id = true := by simp
      rw [e]
      exact iteF (q H1 s1)
end
end K62
/-! wrong_letter, need_slate, need_pattern, stepped. -/
namespace K62
open PySem PySem.Spec PyProof.Rows L2
section
variable {P : Program} {w : World} {K : PySem.W.Frag} {mg : Str → Option Value} {base : Heap}
/-- what a turn of enumerate yields -/
theorem enum_tgt {K : PySem.W.Frag} {H : Hp} {T : Addr} {i : Nat} {x : V} : SqT K (upd H T (.tup [.int (i : Nat), x])) T [.int (i : Nat), x] := SqT.of upd_same
def spWrong : Sp := fun vs H Q _ => ∃ (m : Nat) (a : Addr) (s : List Nat), vs = [.int (m : Int), .ref a] ∧ At H a s ∧ (∀ l ∈ s, l < m) ∧ ∀ H', Same H H' → Q .non H'
theorem scWrong : FnScope ["many", "value", "index", "letter"] ["many", "value"] (defScope sWrong) := ⟨rfl, rfl, rfl, by decide +kernel, rfl, by decide +kernel, by decide +kernel⟩
theorem ok_wrong {f : Addr} {fd : FuncData} (F : Fun K "wrong_letter" "wrong_letter" sWrong f fd) (T : Txt mg) (h2 : Has P w K mg base 2 "within" ["value", "low", "high"] spWithin) : FnOk P w K mg base CX0 3 f fd ["many", "value"] spWrong := by
  refine F.ok scWrong (fun vs H Q E h => ?_) (fun cdv A outer s H vs Q E hr h => ?_)
  · obtain ⟨m, a, z, rfl, _⟩ := h
    rfl
  · obtain ⟨m, a, z, rfl, ha, hl, q⟩ := h
    refine ⟨_, pss_cons (ps_for PassesOwn.never rfl (pi_enumT (by rfl) T.enum (pa_cons (pv 1) pa_nil)) (pg_tup rfl (pgs_cons (pg_name (i := 2) scWrong.nd rfl (.inl rfl)) (pgs_cons (pg_name (i := 3) scWrong.nd rfl (.inl rfl)) pgs_nil)))
        (pss_one (ps_if (pt_not (pt_val (h2.pe hr (pa_cons (pv 3) (pa_cons pe_int (pa_cons (pe_op op_sub (pv 0) pe_int) pa_nil)))))) (pss_one ps_never) pss_nil)))
      (pss_one (ps_ret pe_non)), ?_⟩
    refine ⟨_, rfl, a, tn z, rfl, SqT.of ha, ?_⟩
    refine for_it walk_enumT (fun i σ H' => ∃ y2 y3, σ = [some (.int (m : Int)), some (.ref a), y2, y3] ∧ Same H H') ⟨_, _, rfl, Same.refl H⟩ (fun i σ H' _ ⟨_, _, _, s1⟩ => SqT.of (s1 _ _ ha)) ?_ ?_
    · rintro i x σ H1 H' hi ⟨y2, y3, rfl, s1⟩ ⟨p, y, rfl, np, rfl, hy⟩
      rw [tn_len] at hi
      obtain rfl : V.int (z[i] : Int) = y := Option.some.inj ((tn_get (List.getElem?_eq_getElem hi)).symm.trans hy)
      have hm := hl _ (List.getElem_mem hi)
      refine ⟨p, _, rfl, enum_tgt, rfl, _, _, rfl, _, _, rfl, rfl, ?_⟩
      refine ⟨_, rfl, _, rfl, _, _, rfl, rfl, _, 0, (m : Int) - 1, rfl, by omega, by omega, true, rfl, iteF ?_⟩
      exact ⟨_, _, rfl, s1.trans (same_new np)⟩
    · rintro σ H1 ⟨y2, y3, rfl, s1⟩
      exact q H1 s1
def spNeedSlate : Sp := fun vs H Q _ => ∃ (va a : Addr) (m : Nat) (z s : List Nat), vs = [.ref va, .ref a] ∧ At H va z ∧ VOk m z ∧ At H a s ∧ SOk m s ∧ ∀ H', Same H H' → Q .non H'
theorem scNeedSlate : FnScope ["values", "slate", "index"] ["values", "slate"] (defScope sNeedSlate) := ⟨rfl, rfl, rfl, by decide +kernel, rfl, by decide +kernel, by decide +kernel⟩
theorem ok_needSlate {f : Addr} {fd : FuncData} (F : Fun K "need_slate" "need_slate" sNeedSlate f fd) (T : Txt mg) (h1 : Has P w K mg base 1 "tuple_of" ["value", "low", "high"] spTupleOf)
    (h3 : Has P w K mg base 3 "wrong_letter" ["many", "value"] spWrong) : FnOk P w K mg base CX0 4 f fd ["values", "slate"] spNeedSlate := by
  refine F.ok scNeedSlate (fun vs H Q E h => ?_) (fun cdv A outer s H vs Q E hr h => ?_)
  · obtain ⟨va, a, m, z, sl, rfl, _⟩ := h
    rfl
  · obtain ⟨va, a, m, z, sl, rfl, hva, hv, ha, hs, q⟩ := h
    obtain ⟨t12, m12⟩ := T.most_slate
    refine ⟨_, pss_cons (ps_if (pt_not (pt_val (h1.pe hr (pa_cons (pv 1) (pa_cons pe_int (pa_cons (pe_glob (v := .int 12) (by rfl) m12 ⟨_, rfl⟩) pa_nil)))))) (pss_one ps_never) pss_nil)
      (pss_cons (ps_set (i := 2) scNeedSlate.nd rfl (.inl rfl) (h3.pe hr (pa_cons (pe_callB call_len_seq (by rfl) T.len PySem.boot_len (pa_cons (pv 0) pa_nil)) (pa_cons (pv 1) pa_nil))))
      (pss_one (ps_if (pt_cmp (pc_notN (pv 2))) (pss_one ps_never) pss_nil))), ?_⟩
    have hs4 := hs.1
    refine ⟨_, rfl, a, _, 0, 12, rfl, ha, by omega, by rw [tn_len]; omega, true, rfl, iteF ?_⟩
    refine ⟨_, rfl, va, _, rfl, .inr (SqT.of hva), _, rfl, m, a, sl, ?_, ha, hs.2, fun H1 s1 => ?_⟩
    · rw [tn_len, hv.len]
      rfl
    · exact ⟨_, rfl, false, rfl, iteF (q H1 s1)⟩
/-- a pattern on the heap -/
def pnV : Option Nat → V
  | none => .non
  | some n => .int (n : Int)
def pn (r : List (Option Nat)) : List V := r.map pnV
abbrev PAt (H : Hp) (a : Addr) (r : List (Option Nat)) : Prop := H a = some (.tup (pn r))
theorem pn_len (r : List (Option Nat)) : (pn r).length = r.length := List.length_map ..
theorem pn_get {r : List (Option Nat)} {i : Nat} {o : Option Nat} (h : r[i]? = some o) : (pn r)[i]? = some (pnV o) := by unfold pn; rw [List.getElem?_map, h]; rfl
def POk (m : Nat) (r : List (Option Nat)) : Prop := r.length ≤ 30 ∧ ∀ l, some l ∈ r → l < m
def spNeedPattern : Sp := fun vs H Q _ => ∃ (va a : Addr) (m : Nat) (z : List Nat) (r : List (Option Nat)), vs = [.ref va, .ref a] ∧ At H va z ∧ VOk m z ∧ PAt H a r ∧ POk m r ∧ ∀ H', Same H H' → Q .non H'
theorem scNeedPattern : FnScope ["values", "pattern", "index", "told"] ["values", "pattern"] (defScope sNeedPattern) := ⟨rfl, rfl, rfl, by decide +kernel, rfl, by decide +kernel, by decide +kernel⟩
theorem ok_needPattern {f : Addr} {fd : FuncData} (F : Fun K "need_pattern" "need_pattern" sNeedPattern f fd) (T : Txt mg) (h1 : Has P w K mg base 1 "tuple_of" ["value", "low", "high"] spTupleOf)
    (h2 : Has P w K mg base 2 "within" ["value", "low", "high"] spWithin) : FnOk P w K mg base CX0 3 f fd ["values", "pattern"] spNeedPattern := by
  refine F.ok scNeedPattern (fun vs H Q E h => ?_) (fun cdv A outer s H vs Q E hr h => ?_)
  · obtain ⟨va, a, m, z, r, rfl, _⟩ := h
    rfl
  · obtain ⟨va, a, m, z, r, rfl, hva, hv, ha, hs, q⟩ := h
    refine ⟨_, pss_cons (ps_if (pt_not (pt_val (h1.pe hr (pa_cons (pv 1) (pa_cons pe_int (pa_cons pe_int pa_nil)))))) (pss_one ps_never) pss_nil)
      (pss_cons (ps_for PassesOwn.never rfl (pi_enumT (by rfl) T.enum (pa_cons (pv 1) pa_nil)) (pg_tup rfl (pgs_cons (pg_name (i := 2) scNeedPattern.nd rfl (.inl rfl)) (pgs_cons (pg_name (i := 3) scNeedPattern.nd rfl (.inl rfl)) pgs_nil)))
        (pss_one (ps_if (PW.pt (pw_and (pt_cmp (pc_notN (pv 3))) (pw_and1 (pt_not (pt_val (h2.pe hr (pa_cons (pv 3) (pa_cons pe_int (pa_cons (pe_op op_sub (pe_callB call_len_seq (by rfl) T.len PySem.boot_len (pa_cons (pv 0) pa_nil)) pe_int) pa_nil)))))))))
          (pss_one ps_never) pss_nil)))
      pss_nil), ?_⟩
    have hs30 := hs.1
    refine ⟨_, rfl, a, _, 0, 30, rfl, ha, by omega, by rw [pn_len]; omega, true, rfl, iteF ?_⟩
    refine ⟨_, rfl, a, pn r, rfl, SqT.of ha, ?_⟩
    refine for_it walk_enumT (fun i σ H' => ∃ y2 y3, σ = [some (.ref va), some (.ref a), y2, y3] ∧ Same H H') ⟨_, _, rfl, Same.refl H⟩ (fun i σ H' _ ⟨_, _, _, s1⟩ => SqT.of (s1 _ _ ha)) ?_ ?_
    · rintro i x σ H1 H' hi ⟨y2, y3, rfl, s1⟩ ⟨p, y, rfl, np, rfl, hy⟩
      rw [pn_len] at hi
      obtain rfl : pnV r[i] = y := Option.some.inj ((pn_get (List.getElem?_eq_getElem hi)).symm.trans hy)
      have hm := List.getElem_mem hi
      have s2 := s1.trans (same_new (o := .tup [.int (i : Nat), pnV r[i]]) np)
      refine ⟨p, _, rfl, enum_tgt, rfl, _, _, rfl, _, _, rfl, rfl, ?_⟩
      cases e : r[i] with
      | none => exact ⟨_, rfl, false, rfl, iteF (iteF ⟨_, _, rfl, e ▸ s2⟩)⟩
      | some n =>
        have hn := hs.2 n (e ▸ hm)
        refine ⟨_, rfl, true, rfl, iteT ?_⟩
        refine ⟨_, rfl, _, rfl, va, _, rfl, .inr (SqT.of ((e ▸ s2) _ _ hva)), _, _, rfl, rfl, _, 0, _, rfl, by omega, ?_, true, rfl, iteF ⟨_, _, rfl, e ▸ s2⟩⟩
        rw [tn_len, hv.len]
        omega
    · rintro σ H1 ⟨y2, y3, rfl, s1⟩
      exact q H1 s1
/-! ### tuples: +, slices -/
theorem cat_at {K : PySem.W.Frag} {H : Hp} {Q : VK} {a b : Addr} {u v : List Nat} (ha : At H a u) (hb : At H b v) (hz : u.length + v.length ≤ 1000) (q : ∀ p H', Same H H' → At H' p (u ++ v) → Q (.ref p) H') : rCatA K (.ref a) (.ref b) H Q := by
  refine ⟨a, b, tn u, tn v, rfl, rfl, SqT.of ha, SqT.of hb, ?_, fun e => ?_, fun _ e => ?_, fun _ _ p np => ?_⟩
  · rw [tn_len, tn_len]; exact Nat.le_trans hz (by decide)
  · refine q b H (Same.refl H) ?_
    rw [tn_nil_iff.mp e]
    exact hb
  · refine q a H (Same.refl H) ?_
    rw [tn_nil_iff.mp e, List.append_nil]
    exact ha
  · refine q p _ (same_new np) ?_
    show upd H p _ p = _
    rw [upd_same, tn_app]
theorem cut_lo (xs : List V) (k : Nat) : cutV xs (some (k : Int)) none = xs.drop k := by
  unfold cutV
  rw [show HT.sIx xs.length 0 (some (k : Int)) = min k xs.length from HT.sIx_nat xs.length 0 k, HT.sIx_none]
  by_cases h : k ≤ xs.length
  · rw [Nat.min_eq_left h, List.take_of_length_le (by rw [List.length_drop]; omega)]
  · rw [Nat.min_eq_right (by omega), List.drop_eq_nil_of_le (Nat.le_refl _), List.drop_eq_nil_of_le (by omega), List.take_nil]
theorem cut_hi (xs : List V) (k : Nat) : cutV xs none (some (k : Int)) = xs.take k := by
  unfold cutV
  rw [show HT.sIx xs.length xs.length (some (k : Int)) = min k xs.length from HT.sIx_nat xs.length _ k, HT.sIx_none, List.drop_zero, Nat.sub_zero]
  by_cases h : k ≤ xs.length
  · rw [Nat.min_eq_left h]
  · rw [Nat.min_eq_right (by omega), List.take_of_length_le (Nat.le_refl _), List.take_of_length_le (by omega)]
theorem cut_whole {xs : List V} {lo hi : Option Int} (h : HT.sIx xs.length 0 lo = 0 ∧ HT.sIx xs.length xs.length hi = xs.length) : cutV xs lo hi = xs := by
  unfold cutV
  rw [h.1, h.2, List.drop_zero, Nat.sub_zero, List.take_length]
theorem slice_at {K : PySem.W.Frag} {H : Hp} {Q : VK} {a : Addr} {u v : List Nat} {lo hi : Option Int} (ha : At H a u) (hc : cutV (tn u) lo hi = tn v) (q : ∀ p H', Same H H' → At H' p v → Q (.ref p) H') : rSlA K (.ref a) lo hi H Q := by
  refine ⟨a, tn u, rfl, SqT.of ha, fun h => ?_, fun h p np => ?_⟩
  · refine q a H (Same.refl H) ?_
    show H a = _
    rw [← hc, cut_whole h]
    exact ha
  · refine q p _ (same_new np) ?_
    show upd H p _ p = _
    rw [upd_same, hc]
theorem tn_take (u : List Nat) (k : Nat) : (tn u).take k = tn (u.take k) := List.map_take.symm
theorem tn_drop (u : List Nat) (k : Nat) : (tn u).drop k = tn (u.drop k) := List.map_drop.symm
/-! ### stepped -/
def spStepped : Sp := fun vs H Q _ => ∃ (va sa : Addr) (m l : Nat) (z s : List Nat), vs = [.ref va, .ref sa, .int (l : Int)] ∧ At H va z ∧ VOk m z ∧ At H sa s ∧ SOk m s ∧ l < m ∧ ∀ H' p q v, Same H H' → H' p = some (.tup [.ref q, v]) → At H' q (stp z s l) → Q (.ref p) H'
theorem scStepped : FnScope ["values", "slate", "letter", "place"] ["values", "slate", "letter"] (defScope sStepped) := ⟨rfl, rfl, rfl, by decide +kernel, rfl, by decide +kernel, by decide +kernel⟩
theorem ok_stepped {f : Addr} {fd : FuncData} (F : Fun K "stepped" "stepped" sStepped f fd) (T : Txt mg) : FnOk P w K mg base CX0 1 f fd ["values", "slate", "letter"] spStepped := by
  refine F.ok scStepped (fun vs H Q E h => ?_) (fun cdv A outer s H vs Q E hr h => ?_)
  · obtain ⟨va, sa, m, l, z, sl, rfl, _⟩ := h
    rfl
  · obtain ⟨va, sa, m, l, z, sl, rfl, hva, hv, hsa, hs, hl, q⟩ := h
    refine ⟨_, pss_cons (ps_set (i := 3) scStepped.nd rfl (.inl rfl) (pe_ix ix_tup (pv 0) (pv 2) (fun _ _ => rfl)))
      (pss_cons (ps_if (pt_cmpR op_gt (pv 3) (pe_callB call_len_seq (by rfl) T.len PySem.boot_len (pa_cons (pv 1) pa_nil)) (nomark _))
        (pss_one (ps_ret (pe_tup (pa_cons (pe_op op_catA (pe_tup (pa_cons (pv 2) pa_nil)) (pv 1)) (pa_cons pe_non pa_nil))))) pss_nil)
      (pss_one (ps_ret (pe_tup (pa_cons (pe_op op_catA (pe_op op_catA (pe_tup (pa_cons (pv 2) pa_nil)) (pe_slice sl_tupA (pv 1) po_none (po_some (pe_op op_sub (pv 3) pe_int)))) (pe_slice sl_tupA (pv 1) (po_some (pv 3)) po_none))
        (pa_cons (pe_ix ix_tup (pv 1) (pe_op op_sub (pv 3) pe_int) (fun _ _ => rfl)) pa_nil)))))), ?_⟩
    obtain ⟨v, hzv, hgd, h1, h4⟩ := hv.get hl
    have hs4 := hs.1
    refine ⟨_, rfl, _, rfl, va, _, _, _, rfl, rfl, SqT.of hva, atI_nat (tn_get hzv), ?_⟩
    refine ⟨_, rfl, _, rfl, sa, _, rfl, .inr (SqT.of hsa), _, _, rfl, rfl, _, rfl, ite2 (fun e => ?_) (fun e => ?_)⟩
    · have e := of_decide_eq_true e
      rw [tn_len] at e
      refine ⟨_, rfl, by show 1 ≤ sizeLine; decide, fun t nt => ?_⟩
      have s1 := same_new (o := .tup [.int (l : Int)]) nt
      refine ⟨_, rfl, cat_at (u := [l]) (v := sl) upd_same (s1.at hsa) (by show 1 + sl.length ≤ 1000; omega) fun p H1 s2 hp => ?_⟩
      refine ⟨by show 2 ≤ sizeLine; decide, fun r nr => ?_⟩
      have s3 := same_new (o := .tup [.ref p, .non]) nr
      refine q _ r p .non (s1.trans (s2.trans s3)) upd_same (s3.at (w := stp z sl l) ?_)
      have : stp z sl l = [l] ++ sl := by
        unfold stp
        rw [hgd, List.eraseIdx_of_length_le (by omega)]
        rfl
      rw [this]
      exact hp
    · have e : ¬ (sl.length : Int) < (v : Int) := fun c => e (by rw [tn_len]; exact decide_eq_true c)
      have hvi : (v : Int) - 1 = ((v - 1 : Nat) : Int) := by omega
      refine ⟨_, rfl, by show 1 ≤ sizeLine; decide, fun t nt => ?_⟩
      have s1 := same_new (o := .tup [.int (l : Int)]) nt
      -- slate[:place - 1]
      refine ⟨_, rfl, _, rfl, _, _, rfl, rfl, _, rfl, ?_⟩
      refine slice_at (u := sl) (v := sl.take (v - 1)) (s1.at hsa) (by rw [hvi, cut_hi, tn_take]) fun b H1 s2 hb => ?_
      refine cat_at (u := [l]) (s2.at (w := [l]) upd_same) hb (by rw [List.length_take]; show 1 + _ ≤ 1000; omega) fun c H2 s3 hc => ?_
      refine ⟨_, rfl, _, rfl, _, rfl, ?_⟩
      dsimp only [tNoPart]
      refine slice_at (u := sl) (v := sl.drop v) (s3.at (s2.at (s1.at hsa))) (by rw [cut_lo, tn_drop]) fun d H3 s4 hd => ?_
      refine cat_at (s4.at hc) hd (by simp only [List.length_append, List.length_take, List.length_drop, List.length_cons, List.length_nil]; omega) fun p H4 s5 hp => ?_
      have s6 := (s1.trans (s2.trans (s3.trans (s4.trans s5))))
      have hi : v - 1 < sl.length := by omega
      refine ⟨_, rfl, _, rfl, _, _, rfl, rfl, sa, _, _, _, rfl, rfl, SqT.of (s6 _ _ hsa), at_of hvi (tn_get (List.getElem?_eq_getElem hi)), ?_⟩
      refine ⟨by show 2 ≤ sizeLine; decide, fun r nr => ?_⟩
      have s7 := same_new (o := .tup [.ref p, .int (sl[v - 1] : Int)]) nr
      refine q _ r p _ (s6.trans s7) upd_same (s7.at (w := stp z sl l) ?_)
      have : stp z sl l = [l] ++ sl.take (v - 1) ++ sl.drop v := by
        unfold stp
        rw [hgd, List.eraseIdx_eq_take_drop_succ, Nat.sub_add_cancel h1]
        rfl
      rw [this]
      exact hp
end
end K62
/-! tables on the heap; spread_to, spread. -/
namespace K62
open PySem PySem.Spec PyProof.Rows L2
/-! ### tables -/
section
variable {β : Type}
def ent (f : β → V) (T : List (List Nat × β)) : List (List Key × V) := T.map fun t => (kn t.1, f t.2)
theorem ent_len (f : β → V) (T : List (List Nat × β)) : (ent f T).length = T.length := List.length_map ..
theorem ent_val (f : β → V) (k : List Nat) : ∀ T : List (List Nat × β), valV (ent f T) (kn k) = (aget T k).map f
  | [] => rfl
  | t :: r => by
    show valV ((kn t.1, f t.2) :: ent f r) (kn k) = _
    by_cases e : t.1 = k
    · rw [valV_pos (show (kn t.1, f t.2).1 = kn k by rw [e]), aget_pos e]; rfl
    · rw [valV_neg (show ¬ (kn t.1, f t.2).1 = kn k from fun z => e (kn_inj z)), aget_neg e]; exact ent_val f k r
theorem ent_put (f : β → V) (k : List Nat) (v : β) (T : List (List Nat × β)) : putK (ent f T) (kn k) (f v) = ent f (aput T k v) := by
  cases h : aget T k with
  | none =>
    have hv : valV (ent f T) (kn k) = none := by rw [ent_val, h]; rfl
    rw [putK_new _ hv, aput_new v h]
    unfold ent
    rw [List.map_append]
    rfl
  | some v0 =>
    have hv : valV (ent f T) (kn k) = some (f v0) := by rw [ent_val, h]; rfl
    rw [aput_old v h]
    unfold putK
    rw [valV_any, hv, if_pos (show (some (f v0)).isSome = true from rfl)]
    unfold ent
    rw [List.map_map, List.map_map]
    refine List.map_congr_left fun t _ => ?_
    show (if kn t.1 = kn k then (kn t.1, f v) else (kn t.1, f t.2)) = (kn (if t.1 = k then (t.1, v) else t).1, f (if t.1 = k then (t.1, v) else t).2)
    by_cases e : t.1 = k
    · rw [if_pos (by rw [e]), if_pos e]
    · rw [if_neg (fun z => e (kn_inj z)), if_neg e]
theorem ent_get {f : β → V} {T : List (List Nat × β)} {i : Nat} {t : List Nat × β} (h : T[i]? = some t) : (ent f T)[i]? = some (kn t.1, f t.2) := by unfold ent; rw [List.getElem?_map, h]; rfl
end
/-! ### what is kept -/
/-- tuples are kept -/
def Keep (H H' : Hp) : Prop := ∀ b xs, H b = some (.tup xs) → H' b = some (.tup xs)
theorem Keep.refl (H : Hp) : Keep H H := fun _ _ e => e
theorem Keep.trans {H H1 H2 : Hp} (a : Keep H H1) (b : Keep H1 H2) : Keep H H2 := fun c xs e => b c xs (a c xs e)
theorem _root_.L2.Same.keep {H H' : Hp} (s : Same H H') : Keep H H' := fun b xs e => s b _ e
theorem keep_upd {H : Hp} {d : Addr} {o : HO} (h : ∀ xs, H d ≠ some (.tup xs)) : Keep H (upd H d o) := fun b xs e => by
  rw [upd_ne (fun q : b = d => h xs (q ▸ e))]
  exact e
theorem same_upd0 {H0 H : Hp} {d : Addr} {o : HO} (s : Same H0 H) (n : H0 d = none) : Same H0 (upd H d o) := fun b x e => by
  rw [upd_ne (ne_of_none e n)]
  exact s b x e

/-! ### data for != -/
def dt (s : List Nat) : PyData := .tuple (s.map fun n : Nat => .int (n : Int))
theorem dp_tn {K : PySem.W.Frag} {H : Hp} {a : Addr} {s : List Nat} (h : At H a s) : Dp K H (.ref a) (dt s) := by
  refine .tup (SqT.of h) ?_
  clear h
  induction s with
  | nil => exact .nil
  | cons x s ih => exact .cons (.int _) ih
theorem lay_ints : ∀ s : List Nat, PyData.canLayAll0 (s.map fun n : Nat => PyData.int (n : Int)) = true ∧ PyData.depthAll (s.map fun n : Nat => PyData.int (n : Int)) = 0
  | [] => ⟨rfl, rfl⟩
  | x :: s => by
    obtain ⟨h1, h2⟩ := lay_ints s
    rw [List.map_cons]
    unfold PyData.canLayAll0 PyData.depthAll
    rw [h1, h2]
    exact ⟨rfl, rfl⟩
theorem lay_dt (s : List Nat) : PyData.canLay0 (dt s) = true ∧ PyData.depth (dt s) = 1 := by
  obtain ⟨h1, h2⟩ := lay_ints s
  unfold dt PyData.canLay0 PyData.depth
  exact ⟨h1, by rw [h2]⟩
theorem shaped_dt (s : List Nat) : SeqAt.shaped (dt s) = true := by
  obtain ⟨h1, h2⟩ := lay_dt s
  unfold SeqAt.shaped
  rw [h1, h2]
  rfl
theorem lay_dts : ∀ r : List (List Nat), PyData.canLayAll0 (r.map dt) = true ∧ PyData.depthAll (r.map dt) ≤ 1
  | [] => ⟨rfl, Nat.zero_le _⟩
  | x :: s => by
    obtain ⟨h1, h2⟩ := lay_dts s
    obtain ⟨h3, h4⟩ := lay_dt x
    rw [List.map_cons]
    unfold PyData.canLayAll0 PyData.depthAll
    rw [h1, h3, h4]
    exact ⟨rfl, by omega⟩
theorem shaped_dts (r : List (List Nat)) : SeqAt.shaped (.list (r.map dt)) = true := by
  obtain ⟨h1, h2⟩ := lay_dts r
  unfold SeqAt.shaped PyData.canLay0 PyData.depth
  rw [h1, decide_eq_true (by omega)]
  rfl
theorem eqv_nil : ∀ r : List (List Nat), PyData.eqv (.list (r.map dt)) (.list []) = r.isEmpty
  | [] => by simp [PyData.eqv, PyData.eqvAll]
  | x :: s => by simp [PyData.eqv, PyData.eqvAll]
/-- a list of slates (each at its address) on the heap -/
abbrev Ls (H : Hp) (r : Addr) (R : List (Addr × List Nat)) : Prop := H r = some (.lst (R.map fun x => V.ref x.1))
theorem dp_list {K : PySem.W.Frag} {H : Hp} {r : Addr} {R : List (Addr × List Nat)} (h : Ls H r R) (hR : ∀ x ∈ R, At H x.1 x.2) : Dp K H (.ref r) (.list ((R.map (·.2)).map dt)) := by
  refine .lst (SqL.of h) ?_
  clear h
  induction R with
  | nil => exact .nil
  | cons x R ih => exact .cons (dp_tn (hR x List.mem_cons_self)) (ih fun y hy => hR y (List.mem_cons_of_mem _ hy))
end K62
/-! the slates that can come: the search's invariant; spread_to, spread. -/
namespace K62
open PySem PySem.Spec PyProof.Rows L2
/-- the search within a round: the table T at d, the rim R at r, the next rim L at l -/
structure Bfs (m : Nat) (H H1 : Hp) (d r l : Addr) (n0 : Nat) (R : List (Addr × List Nat)) (T : List (List Nat × Addr)) (L : List (Addr × List Nat)) : Prop where
  sm : Same H H1
  nd : (T.map (·.1)).Nodup
  ok : ∀ t ∈ T, SOk m t.1
  wd : ∀ t ∈ T, ∃ w, At H1 t.2 w ∧ w.length ≤ T.length
  dd : H1 d = some (.dT (ent V.ref T))
  rr : Ls H1 r R
  ll : Ls H1 l L
  rk : ∀ x ∈ R, At H1 x.1 x.2 ∧ SOk m x.2 ∧ (aget T x.2).isSome = true
  lk : ∀ x ∈ L, At H1 x.1 x.2 ∧ SOk m x.2 ∧ (aget T x.2).isSome = true
  ln : T.length = n0 + L.length
section
variable {m : Nat} {H H1 H2 : Hp} {d r l : Addr} {n0 : Nat} {R : List (Addr × List Nat)} {T : List (List Nat × Addr)} {L : List (Addr × List Nat)}
theorem Bfs.same (b : Bfs m H H1 d r l n0 R T L) (s : Same H1 H2) : Bfs m H H2 d r l n0 R T L :=
  ⟨b.sm.trans s, b.nd, b.ok, fun t ht => let ⟨w, h1, h2⟩ := b.wd t ht; ⟨w, s _ _ h1, h2⟩, s _ _ b.dd, s _ _ b.rr, s _ _ b.ll,
   fun x hx => ⟨s _ _ (b.rk x hx).1, (b.rk x hx).2⟩, fun x hx => ⟨s _ _ (b.lk x hx).1, (b.lk x hx).2⟩, b.ln⟩
theorem Bfs.few (b : Bfs m H H1 d r l n0 R T L) (hm : m ≤ 3) : T.length ≤ 121 := K62.few hm b.nd b.ok
theorem aget_aput_some {T : List (List Nat × Addr)} {k j : List Nat} {a : Addr} (h : (aget T j).isSome = true) (hn : aget T k = none) : (aget (aput T k a) j).isSome = true := by
  rw [aput_new a hn, ← any_aget, List.any_append, any_aget, h]
  rfl
theorem aget_aput_self {T : List (List Nat × Addr)} {k : List Nat} {a : Addr} (hn : aget T k = none) : (aget (aput T k a) k).isSome = true := by
  rw [aput_new a hn, ← any_aget, List.any_append]
  simp
/-- a new slate k, at q, with its word at a -/
theorem Bfs.add (b : Bfs m H H1 d r l n0 R T L) (hd : H d = none) (hl : H l = none) (rl : r ≠ l) {k w : List Nat} {q a : Addr} (hq : At H1 q k) (hk : SOk m k) (hn : aget T k = none) (ha : At H1 a w) (hw : w.length ≤ T.length + 1) :
    Bfs m H (upd (upd H1 d (.dT (ent V.ref (aput T k a)))) l (.lst ((L ++ [(q, k)]).map fun x => V.ref x.1))) d r l n0 R (aput T k a) (L ++ [(q, k)]) := by
  have dr : r ≠ d := ne_of b.rr b.dd (fun z => nomatch z)
  have dl : l ≠ d := ne_of b.ll b.dd (fun z => nomatch z)
  have kp : Keep H1 (upd (upd H1 d (.dT (ent V.ref (aput T k a)))) l (.lst ((L ++ [(q, k)]).map fun x => V.ref x.1))) :=
    (keep_upd (fun xs z => by rw [b.dd] at z; cases z)).trans (keep_upd (fun xs z => by rw [upd_ne dl, b.ll] at z; cases z))
  have le : (aput T k a).length = T.length + 1 := by rw [aput_new a hn, List.length_append]; rfl
  refine ⟨same_upd0 (same_upd0 b.sm hd) hl, nd_aput a b.nd, fun t ht => ?_, fun t ht => ?_, ?_, ?_, upd_same, fun x hx => ?_, fun x hx => ?_, ?_⟩
  · rcases mem_aput ht with ht | rfl
    · exact b.ok t ht
    · exact hk
  · rcases mem_aput ht with ht | rfl
    · obtain ⟨u, h1, h2⟩ := b.wd t ht
      exact ⟨u, kp _ _ h1, by omega⟩
    · exact ⟨w, kp _ _ ha, by omega⟩
  · rw [upd_ne dl.symm, upd_same]
  · show upd _ l _ r = _
    rw [upd_ne rl, upd_ne dr]
    exact b.rr
  · obtain ⟨h1, h2, h3⟩ := b.rk x hx
    exact ⟨kp _ _ h1, h2, aget_aput_some h3 hn⟩
  · rcases List.mem_append.mp hx with hx | hx
    · obtain ⟨h1, h2, h3⟩ := b.lk x hx
      exact ⟨kp _ _ h1, h2, aget_aput_some h3 hn⟩
    · rw [List.mem_singleton.mp hx]
      exact ⟨kp _ _ hq, hk, aget_aput_self hn⟩
  · rw [le, List.length_append, b.ln]
    rfl
end
/-- the state between two rounds -/
structure Rnd (m : Nat) (H H1 : Hp) (d r : Addr) (R : List (Addr × List Nat)) (T : List (List Nat × Addr)) : Prop where
  sm : Same H H1
  nd : (T.map (·.1)).Nodup
  ok : ∀ t ∈ T, SOk m t.1
  wd : ∀ t ∈ T, ∃ w, At H1 t.2 w ∧ w.length ≤ T.length
  dd : H1 d = some (.dT (ent V.ref T))
  rr : Ls H1 r R
  rk : ∀ x ∈ R, At H1 x.1 x.2 ∧ SOk m x.2 ∧ (aget T x.2).isSome = true
def msr (R : List (Addr × List Nat)) (T : List (List Nat × Addr)) : Nat := 2 * (121 - T.length) + (if R.isEmpty = true then 0 else 1)
section
variable {m : Nat} {H H1 H2 : Hp} {d r l : Addr} {n0 : Nat} {R : List (Addr × List Nat)} {T : List (List Nat × Addr)} {L : List (Addr × List Nat)}
theorem Rnd.same (b : Rnd m H H1 d r R T) (s : Same H1 H2) : Rnd m H H2 d r R T :=
  ⟨b.sm.trans s, b.nd, b.ok, fun t ht => let ⟨w, h1, h2⟩ := b.wd t ht; ⟨w, s _ _ h1, h2⟩, s _ _ b.dd, s _ _ b.rr, fun x hx => ⟨s _ _ (b.rk x hx).1, (b.rk x hx).2⟩⟩
theorem Rnd.open (b : Rnd m H H1 d r R T) (nl : H1 l = none) : Bfs m H (upd H1 l (.lst [])) d r l T.length R T [] :=
  have s := same_new (o := .lst []) nl
  ⟨b.sm.trans s, b.nd, b.ok, fun t ht => let ⟨w, h1, h2⟩ := b.wd t ht; ⟨w, s _ _ h1, h2⟩, s _ _ b.dd, s _ _ b.rr, upd_same, fun x hx => ⟨s _ _ (b.rk x hx).1, (b.rk x hx).2⟩, fun x hx => (nomatch hx), rfl⟩
theorem Bfs.close (b : Bfs m H H1 d r l n0 R T L) : Rnd m H H1 d l L T := ⟨b.sm, b.nd, b.ok, b.wd, b.dd, b.ll, b.lk⟩
theorem Bfs.less {T0 : List (List Nat × Addr)} (b : Bfs m H H1 d r l T0.length R T L) (hm : m ≤ 3) (hR : R.isEmpty = false) : msr L T < msr R T0 := by
  have h1 := b.few hm
  have h2 := b.ln
  unfold msr
  rw [hR]
  cases L with
  | nil =>
    have e : T.length = T0.length := h2
    rw [e]
    show 2 * (121 - T0.length) + 0 < 2 * (121 - T0.length) + 1
    omega
  | cons x L =>
    rw [List.length_cons] at h2
    show 2 * (121 - T.length) + 1 < 2 * (121 - T0.length) + 1
    omega
end
section
variable {P : Program} {w : World} {K : PySem.W.Frag} {mg : Str → Option Value} {base : Heap}
def spSpreadTo : Sp := fun vs H Q _ => ∃ (va sa : Addr) (m : Nat) (z s : List Nat), vs = [.ref va, .ref sa, .int 2000] ∧ At H va z ∧ VOk m z ∧ At H sa s ∧ SOk m s ∧ ∀ H' v, Same H H' → Q v H'
theorem scSpreadTo : FnScope ["values", "slate", "most", "found", "rim", "later", "here", "letter", "more"] ["values", "slate", "most"] (defScope sSpreadTo) := ⟨rfl, rfl, rfl, by decide +kernel, rfl, by decide +kernel, by decide +kernel⟩
theorem ok_spreadTo {f : Addr} {fd : FuncData} (F : Fun K "spread_to" "spread_to" sSpreadTo f fd) (T : Txt mg) (hS : Has P w K mg base 1 "stepped" ["values", "slate", "letter"] spStepped) : FnOk P w K mg base CX0 2 f fd ["values", "slate", "most"] spSpreadTo := by
  refine F.ok scSpreadTo (fun vs H Q E h => ?_) (fun cdv A outer s H vs Q E hr h => ?_)
  · obtain ⟨va, sa, m, z, sl, rfl, _⟩ := h
    rfl
  · obtain ⟨va, sa, m, z, sl, rfl, hva, hv, hsa, hs, q⟩ := h
    have hu := hu_of hr
    have hu64 := hr.units
    refine ⟨_, pss_cons (ps_par (i := 3) (j := 4) rfl scSpreadTo.nd rfl rfl (by decide) rfl rfl (pa_cons (pe_disp1 hu (pv 1) (pe_tup pa_nil)) (pa_cons (pe_lst (pa_cons (pv 1) pa_nil)) pa_nil)) (by rfl))
      (pss_cons (ps_while PassesOwn.never (pt_cmpR (op_neD hu64) (pv 4) (pe_lst pa_nil) (nomark _))
        (pss_cons (ps_set (i := 5) scSpreadTo.nd rfl (.inl rfl) (pe_lst pa_nil))
        (pss_cons (ps_for PassesOwn.never rfl (pi_list (pv 4)) (pg_name (i := 6) scSpreadTo.nd rfl (.inl rfl))
          (pss_one (ps_for PassesOwn.never rfl (pi_range1 rfl T.range (pa_cons (pe_callB call_len_seq (by rfl) T.len PySem.boot_len (pa_cons (pv 0) pa_nil)) pa_nil)) (pg_name (i := 7) scSpreadTo.nd rfl (.inl rfl))
            (pss_cons (ps_set (i := 8) scSpreadTo.nd rfl (.inl rfl) (pe_ix ix_tup (hS.pe hr (pa_cons (pv 0) (pa_cons (pv 6) (pa_cons (pv 7) pa_nil)))) pe_int (fun _ _ => rfl)))
            (pss_one (ps_if (pt_cmp (pc_dnotin hu (pv 8) (pv 3)))
              (pss_cons (ps_dput hu (pv 3) (pv 8) (pe_op op_catA (pe_dget hu (pv 3) (pv 6) (fun _ _ => rfl)) (pe_tup (pa_cons (pv 7) pa_nil))) rfl)
              (pss_one (ps_expr (pe_bm PySem.F.plainAttrs_list PySem.F.slot_list_append PySem.F.type_list_append mt_append (pv 5) (pa_cons (pv 8) pa_nil)))))
              pss_nil))))))
        (pss_cons (ps_if (pt_cmpR op_gt (pe_callB call_len_dT (by rfl) T.len PySem.boot_len (pa_cons (pv 3) pa_nil)) (pv 2) (nomark _)) (pss_one ps_never) pss_nil)
        (pss_one (ps_set (i := 4) scSpreadTo.nd rfl (.inl rfl) (pv 5)))))))
      (pss_one (ps_ret (pv 3)))), ?_⟩
    have hm3 := hv.m3
    have hm1 := hv.m1
    -- found, rim = {slate: ()}, [slate]
    refine fun d nd => ⟨_, rfl, Nat.zero_le _, fun e ne => ⟨?_, kn sl, sa, rfl, ?_, ?_⟩⟩
    · rw [upd_ne (fun z : d = e => by rw [← z, upd_same] at ne; cases ne), upd_same]
    · exact ((same_new (o := .tup []) ne) _ _ ((same_new (o := .dT []) nd) _ _ hsa.key))
    have s0 : Same H (upd (upd H d (.dT [])) e (.tup [])) := (same_new nd).trans (same_new ne)
    have s1 : Same H (upd (upd (upd H d (.dT [])) e (.tup [])) d (.dT [(kn sl, V.ref e)])) := same_upd0 s0 nd
    have ned : e ≠ d := fun z => by rw [z, upd_same] at ne; cases ne
    refine ⟨_, rfl, by show 1 ≤ sizeLine; decide, fun r nr => ⟨_, _, rfl, ?_⟩⟩
    have nr0 : H r = none := s1.free nr
    have R0 : Rnd m H (upd (upd (upd (upd H d (.dT [])) e (.tup [])) d (.dT [(kn sl, V.ref e)])) r (.lst [V.ref sa])) d r [(sa, sl)] [(sl, e)] := by
      refine ⟨s1.trans (same_new nr), by simp, fun t ht => ?_, fun t ht => ⟨[], ?_, Nat.zero_le _⟩, ?_, upd_same, fun x hx => ?_⟩
      · rw [List.mem_singleton.mp ht]; exact hs
      · rw [List.mem_singleton.mp ht]
        refine (same_new nr) _ _ ?_
        show upd _ d _ e = _
        rw [upd_ne ned, upd_same]
        rfl
      · rw [(same_new nr) _ _ upd_same]
        rfl
      · rw [List.mem_singleton.mp hx]
        exact ⟨(s1.trans (same_new nr)) _ _ hsa, hs, by simp [aget]⟩
    -- while rim != []
    refine ⟨fun μ σ H' => ∃ (T : List (List Nat × Addr)) (R : List (Addr × List Nat)) (r : Addr) (v5 v6 v7 v8 : Option V), σ = [some (.ref va), some (.ref sa), some (.int 2000), some (.ref d), some (.ref r), v5, v6, v7, v8] ∧ H r = none ∧ Rnd m H H' d r R T ∧ μ = msr R T,
      ⟨_, _, _, r, _, _, _, _, rfl, nr0, R0, rfl⟩, ?_⟩
    rintro μ σ H' ⟨T0, R, r, v5, v6, v7, v8, rfl, nr, B, rfl⟩
    refine ⟨_, rfl, Nat.zero_le _, fun p np => ?_⟩
    have sp := same_new (o := .lst []) np
    have B1 := B.same sp
    refine ⟨_, _, dp_list B1.rr (fun x hx => (B1.rk x hx).1), .lst (SqL.of upd_same) .nil, shaped_dts _, by rfl, _, rfl, ?_⟩
    rw [eqv_nil]
    cases hR : (R.map (·.2)).isEmpty with
    | true => exact iteF ⟨_, rfl, q _ _ B1.sm⟩
    | false =>
      have hRe : R.isEmpty = false := by
        cases R with
        | nil => simp at hR
        | cons x R => rfl
      refine iteT ⟨fun σ' H'' => ∃ (T : List (List Nat × Addr)) (L : List (Addr × List Nat)) (l : Addr) (v5 v6 v7 v8 : Option V), σ' = [some (.ref va), some (.ref sa), some (.int 2000), some (.ref d), some (.ref l), v5, v6, v7, v8] ∧ H l = none ∧ Rnd m H H'' d l L T ∧ msr L T < msr R T0,
        fun σ' H'' ⟨T, L, l, a5, a6, a7, a8, e, n, B', h⟩ => ⟨_, h, T, L, l, a5, a6, a7, a8, e, n, B', rfl⟩, ?_⟩
      -- later = []
      refine ⟨Nat.zero_le _, fun l nl => ?_⟩
      have nl0 : H l = none := B1.sm.free nl
      have rl : r ≠ l := ne_of_none B1.rr nl
      have C0 := B1.open nl
      refine ⟨_, rfl, r, rfl, ⟨_, SqL.of C0.rr⟩, for_list (K := K) (a := r) (xs := R.map fun x => V.ref x.1) (fun i σ' H'' => ∃ (T : List (List Nat × Addr)) (L : List (Addr × List Nat)) (v6 v7 v8 : Option V), σ' = [some (.ref va), some (.ref sa), some (.int 2000), some (.ref d), some (.ref r), some (.ref l), v6, v7, v8] ∧ Bfs m H H'' d r l T0.length R T L)
        ⟨_, _, _, _, _, rfl, C0⟩ (fun i σ' H'' _ ⟨_, _, _, _, _, _, C⟩ => SqL.of C.rr) ?_ ?_⟩
      · rintro i x σ' H2 hi ⟨T1, L1, a6, a7, a8, rfl, C⟩
        obtain ⟨⟨ha, hk⟩, hx, rfl⟩ : ∃ y : Addr × List Nat, R[i]? = some y ∧ V.ref y.1 = x := by
          rw [List.getElem?_map] at hi
          cases e : R[i]? with
          | none => rw [e] at hi; cases hi
          | some y => rw [e] at hi; exact ⟨y, rfl, Option.some.inj hi⟩
        have hmem : (ha, hk) ∈ R := List.mem_of_getElem? hx
        -- for letter in range(len(values))
        refine ⟨_, rfl, va, _, rfl, .inr (SqT.of (C.sm _ _ hva)), (m : Int), ?_, by omega, by omega, ?_⟩
        · rw [tn_len, hv.len]
        refine for_range (lo := 0) (n := m) (fun j σ' H'' => ∃ (T : List (List Nat × Addr)) (L : List (Addr × List Nat)) (v7 v8 : Option V), σ' = [some (.ref va), some (.ref sa), some (.int 2000), some (.ref d), some (.ref r), some (.ref l), some (.ref ha), v7, v8] ∧ Bfs m H H'' d r l T0.length R T L)
          ⟨_, _, _, _, rfl, C⟩ ?_ ?_
        · rintro j σ' H3 hj ⟨T2, L2, b7, b8, rfl, C2⟩
          obtain ⟨hat, hok, hin⟩ := C2.rk _ hmem
          have ej : (0 : Int) + (j : Nat) = (j : Int) := Int.zero_add _
          rw [ej]
          refine ⟨_, rfl, _, rfl, _, rfl, va, ha, m, j, z, hk, rfl, C2.sm _ _ hva, hv, hat, hok, hj, fun H4 p q' v s4 hp hq => ?_⟩
          refine ⟨p, _, 0, _, rfl, rfl, SqT.of hp, atI_nat (j := 0) rfl, ?_⟩
          have C3 := C2.same s4
          have hkk : SOk m (stp z hk j) := hok.stp hv hj
          refine ⟨_, rfl, _, rfl, d, _, rfl, DGet.t C3.dd hq.key, _, rfl, ?_⟩
          rw [ent_val]
          cases hg : aget T2 (stp z hk j) with
          | some a0 => exact iteF ⟨T2, L2, _, _, rfl, C3⟩
          | none =>
            refine iteT ?_
            -- found[more] = found[here] + (letter,)
            have hat3 := s4.at hat
            obtain ⟨a0, hg0⟩ := Option.isSome_iff_exists.mp hin
            obtain ⟨u, hu1, hu2⟩ := C3.wd _ (aget_mem hg0)
            have few := C3.few hm3
            refine ⟨_, rfl, _, rfl, d, .ref a0, rfl, ?_, ?_⟩
            · have := DGet.t C3.dd hat3.key
              rw [ent_val, hg0] at this
              exact this
            refine ⟨_, rfl, by show 1 ≤ sizeLine; decide, fun t nt => ?_⟩
            have s5 := same_new (o := .tup [.int (j : Int)]) nt
            refine cat_at (u := u) (v := [j]) (s5.at hu1) upd_same (by show u.length + 1 ≤ 1000; omega) fun b H5 s6 hb => ?_
            have C4 := C3.same (s5.trans s6)
            have hq4 := (s5.trans s6).at hq
            refine ⟨_, rfl, _, rfl, d, _, rfl, DPut.t C4.dd hq4.key (by rw [ent_len]; exact small1000 (by omega)), ?_⟩
            rw [ent_put]
            have dl : l ≠ d := ne_of C4.ll C4.dd (fun z => nomatch z)
            have C5 := C4.add nd nl0 rl hq4 hkk hg hb (by rw [List.length_append]; show u.length + 1 ≤ _; omega)
            have hL : (upd H5 d (.dT (ent V.ref (aput T2 (stp z hk j) b)))) l = some (.lst (L2.map fun x => V.ref x.1)) := by rw [upd_ne dl]; exact C4.ll
            have lf : L2.length ≤ 121 := by have := C4.ln; omega
            refine ⟨_, rfl, .inl ⟨rfl, _, SqL.of hL⟩, _, rfl, l, _, _, rfl, rfl, hL, by rw [List.length_map]; exact small1000 (by omega), ?_⟩
            refine ⟨aput T2 (stp z hk j) b, L2 ++ [(q', stp z hk j)], _, _, rfl, ?_⟩
            rw [List.map_append] at C5
            exact C5
        · rintro σ' H3 ⟨T2, L2, b7, b8, rfl, C2⟩
          exact ⟨T2, L2, _, _, _, rfl, C2⟩
      · rintro σ' H2 ⟨T1, L1, a6, a7, a8, rfl, C⟩
        -- if len(found) > most
        have few := C.few hm3
        refine ⟨_, rfl, d, _, rfl, C.dd, _, rfl, _, _, rfl, rfl, _, rfl, ?_⟩
        rw [ent_len, decide_eq_false (by omega)]
        refine iteF ⟨_, rfl, T1, L1, l, _, _, _, _, rfl, nl0, C.close, C.less hm3 hRe⟩
def spSpread : Sp := fun vs H Q _ => ∃ (va sa : Addr) (m : Nat) (z s : List Nat), vs = [.ref va, .ref sa] ∧ At H va z ∧ VOk m z ∧ At H sa s ∧ SOk m s ∧ ∀ H' v, Same H H' → Q v H'
theorem scSpread : FnScope ["values", "slate"] ["values", "slate"] (defScope sSpread) := ⟨rfl, rfl, rfl, by decide +kernel, rfl, by decide +kernel, by decide +kernel⟩
theorem ok_spread {f : Addr} {fd : FuncData} (F : Fun K "spread" "spread" sSpread f fd) (T : Txt mg) (hS : Has P w K mg base 2 "spread_to" ["values", "slate", "most"] spSpreadTo) : FnOk P w K mg base CX0 3 f fd ["values", "slate"] spSpread := by
  refine F.ok scSpread (fun vs H Q E h => ?_) (fun cdv A outer s H vs Q E hr h => ?_)
  · obtain ⟨va, sa, m, z, sl, rfl, _⟩ := h
    rfl
  · obtain ⟨va, sa, m, z, sl, rfl, hva, hv, hsa, hs, q⟩ := h
    obtain ⟨t, mt⟩ := T.most_slates
    refine ⟨_, pss_one (ps_ret (hS.pe hr (pa_cons (pv 0) (pa_cons (pv 1) (pa_cons (pe_glob (v := .int 2000) (by rfl) mt ⟨_, rfl⟩) pa_nil))))), ?_⟩
    exact ⟨_, rfl, _, rfl, va, sa, m, z, sl, rfl, hva, hv, hsa, hs, q⟩
end
end K62
/-! filled. -/
namespace K62
open PySem PySem.Spec PyProof.Rows L2
theorem PE_imp {X : Cx} {e : Expr} {t t' : TE} (h : PE X e t) (i : ∀ σ H Q, t' σ H Q → t σ H Q) : PE X e t' := ⟨fun pins s σ H Q I q => h.run pins s σ H Q I (i σ H Q q)⟩
theorem DGet_z {H : Hp} {a b : Addr} {kvs : List (List Key × V)} {k : List Key} {o : Obj} (e : H a = some (.frz o (.dT kvs))) (eb : H b = some (.tup (k.map kV))) : DGet H a (.ref b) (valV kvs k) := .inr ⟨kvs, k, b, .inr ⟨o, e⟩, rfl, eb, rfl⟩
theorem lex_nat : ∀ a b : List Nat, HT.lexLt (a.map fun n : Nat => (n : Int)) (b.map fun n : Nat => (n : Int)) = lt a b
  | [], [] => rfl
  | [], _ :: _ => rfl
  | _ :: _, [] => rfl
  | x :: xs, y :: ys => by
    rw [List.map_cons, List.map_cons, HT.lexLt_cons, lex_nat xs ys]
    show (if (x : Int) = y then lt xs ys else decide ((x : Int) < y)) = if x = y then lt xs ys else decide (x < y)
    by_cases e : x = y
    · rw [if_pos (by rw [e]), if_pos e]
    · rw [if_neg (by omega), if_neg e]
      by_cases h : x < y
      · rw [decide_eq_true h, decide_eq_true (by omega)]
      · rw [decide_eq_false h, decide_eq_false (by omega)]
/-! ### [letter] or all letters -/
def tOpts (iv it : Nat) : TE := fun σ H Q => ∃ (va : Addr) (z : List Nat) (o : Option Nat), σ[iv]? = some (some (.ref va)) ∧ At H va z ∧ z.length ≤ 1000 ∧ σ[it]? = some (some (pnV o)) ∧ ∀ l H1, Same H H1 → H1 l = some (.lst (tn (opts z.length o))) → Q (.ref l) H1
theorem rg_tn (m : Nat) : rgV 0 (m : Int) = tn (List.range m) := by
  unfold rgV tn
  rw [show ((m : Int) - 0).toNat = m by omega]
  exact List.map_congr_left fun i _ => by rw [Int.zero_add]
/-! ### the table of counts and least words -/
abbrev Cell := Addr × Nat × List Nat
def fC (v : Cell) : V := .ref v.1
structure Tab (m : Nat) (H : Hp) (i : Nat) (T : List (List Nat × Cell)) : Prop where
  nd : (T.map (·.1)).Nodup
  ok : ∀ t ∈ T, SOk m t.1
  vd : ∀ t ∈ T, t.2.2.2.length = i ∧ ∃ q, H t.2.1 = some (.tup [.int (t.2.2.1 : Int), .ref q]) ∧ At H q t.2.2.2
theorem Tab.keep {m : Nat} {H H' : Hp} {i : Nat} {T : List (List Nat × Cell)} (b : Tab m H i T) (k : Keep H H') : Tab m H' i T :=
  ⟨b.nd, b.ok, fun t ht => let ⟨h1, q, h2, h3⟩ := b.vd t ht; ⟨h1, q, k _ _ h2, k _ _ h3⟩⟩
theorem Tab.put {m : Nat} {H : Hp} {i : Nat} {T : List (List Nat × Cell)} (b : Tab m H i T) {k : List Nat} {p q : Addr} {n : Nat} {w : List Nat} (hk : SOk m k) (hw : w.length = i) (hp : H p = some (.tup [.int (n : Int), .ref q])) (hq : At H q w) : Tab m H i (aput T k (p, n, w)) := by
  refine ⟨nd_aput _ b.nd, fun t ht => ?_, fun t ht => ?_⟩
  · rcases mem_aput ht with ht | rfl
    · exact b.ok t ht
    · exact hk
  · rcases mem_aput ht with ht | rfl
    · exact b.vd t ht
    · exact ⟨hw, q, hp, hq⟩
def phiC (m : Nat) (vs g : List Nat) (r : List (Option Nat)) (s : List Nat) (v : Cell) : Both := phi m vs g r s v.2
abbrev totC (m : Nat) (vs g : List Nat) (r : List (Option Nat)) (T : List (List Nat × Cell)) : Both := tot bop bz (phiC m vs g r) T
theorem tot_add {m : Nat} {vs g : List Nat} {r : List (Option Nat)} {T : List (List Nat × Cell)} (k : List Nat) (p : Addr) (n : Nat) (w : List Nat) (h : aget T k = none) : totC m vs g r (aput T k (p, n, w)) = bop (totC m vs g r T) (phi m vs g r k (n, w)) :=
  tot_new bop_assoc z_bop bop_z _ h
theorem tot_upd {m : Nat} {vs g : List Nat} {r : List (Option Nat)} {T : List (List Nat × Cell)} {k : List Nat} {p p0 : Addr} {n n0 : Nat} {w w0 : List Nat} (hn : (T.map (·.1)).Nodup) (h : aget T k = some (p0, n0, w0)) (hl : w0.length = w.length) :
    totC m vs g r (aput T k (p, n0 + n, wmin w0 w)) = bop (totC m vs g r T) (phi m vs g r k (n, w)) :=
  tot_old (φ := phiC m vs g r) bop_assoc bop_comm (show phiC m vs g r k (p, n0 + n, wmin w0 w) = bop (phiC m vs g r k (p0, n0, w0)) (phi m vs g r k (n, w)) from phi_add hl) hn h
theorem fold_take (f : Nat → Both) (ls : List Nat) {j l : Nat} (h : ls[j]? = some l) : ((ls.take (j + 1)).map f).foldr bop bz = bop (((ls.take j).map f).foldr bop bz) (f l) := by
  rw [List.take_add_one, h, List.map_append, fold_app bop_assoc z_bop]
  exact congrArg (bop _) (bop_z _)
section
variable {P : Program} {w : World} {K : PySem.W.Frag} {mg : Str → Option Value} {base : Heap}
def spFilled : Sp := fun vs H Q _ => ∃ (va sa pa ga : Addr) (m : Nat) (z s g : List Nat) (r : List (Option Nat)), vs = [.ref va, .ref sa, .ref pa, .ref ga] ∧ At H va z ∧ VOk m z ∧ At H sa s ∧ SOk m s ∧ PAt H pa r ∧ POk m r ∧ At H ga g ∧ SOk m g ∧
  ∀ H' p x, Same H H' → H' p = some (.tup [.int ((due m z g r s).length : Int), x]) → (match (due m z g r s).head? with | none => x = .non | some u => ∃ q, x = .ref q ∧ At H' q u) → Q (.ref p) H'
theorem scFilled : FnScope ["values", "slate", "pattern", "goal", "table", "told", "later", "here", "many", "word", "letter", "more", "before", "own"] ["values", "slate", "pattern", "goal"] (defScope sFilled) := ⟨rfl, rfl, rfl, by decide +kernel, rfl, by decide +kernel, by decide +kernel⟩
theorem ok_filled {f : Addr} {fd : FuncData} (F : Fun K "filled" "filled" sFilled f fd) (T : Txt mg) (h1 : Has P w K mg base 3 "need_values" ["value"] spNeedValues) (h2 : Has P w K mg base 4 "need_slate" ["values", "slate"] spNeedSlate)
    (h3 : Has P w K mg base 3 "need_pattern" ["values", "pattern"] spNeedPattern) (h4 : Has P w K mg base 3 "spread" ["values", "slate"] spSpread) (hS : Has P w K mg base 1 "stepped" ["values", "slate", "letter"] spStepped) :
    FnOk P w K mg base CX0 5 f fd ["values", "slate", "pattern", "goal"] spFilled := by
  refine F.ok scFilled (fun vs H Q E h => ?_) (fun cdv A outer s H vs Q E hr h => ?_)
  · obtain ⟨va, sa, pa, ga, m, z, sl, g, r, rfl, _⟩ := h
    rfl
  · obtain ⟨va, sa, pa, ga, m, z, sl, g, r, rfl, hva, hv, hsa, hs, hpa, hp, hga, hg, q⟩ := h
    have hu := hu_of hr
    refine ⟨_, pss_cons (ps_expr (h1.pe hr (pa_cons (pv 0) pa_nil)))
      (pss_cons (ps_expr (h2.pe hr (pa_cons (pv 0) (pa_cons (pv 1) pa_nil))))
      (pss_cons (ps_expr (h3.pe hr (pa_cons (pv 0) (pa_cons (pv 2) pa_nil))))
      (pss_cons (ps_expr (h2.pe hr (pa_cons (pv 0) (pa_cons (pv 3) pa_nil))))
      (pss_cons (ps_expr (h4.pe hr (pa_cons (pv 0) (pa_cons (pv 1) pa_nil))))
      (pss_cons (ps_set (i := 4) scFilled.nd rfl (.inl rfl) (pe_disp1 hu (pv 1) (pe_tup (pa_cons pe_int (pa_cons (pe_tup pa_nil) pa_nil)))))
      (pss_cons (ps_for PassesOwn.never rfl (pi_tup (pv 2)) (pg_name (i := 5) scFilled.nd rfl (.inl rfl))
        (pss_cons (ps_set (i := 6) scFilled.nd rfl (.inl rfl) pe_dnewT)
        (pss_cons (ps_lock (ps_for PassesOwn.never rfl (pi_keys (pv 4)) (pg_name (i := 7) scFilled.nd rfl (.inl rfl))
          (pss_cons (ps_asg (pe_dget hu (pv 4) (pv 7) (fun _ _ => rfl)) (pg_tup rfl (pgs_cons (pg_name (i := 8) scFilled.nd rfl (.inl rfl)) (pgs_cons (pg_name (i := 9) scFilled.nd rfl (.inl rfl)) pgs_nil))))
          (pss_one (ps_for PassesOwn.never rfl (pi_list (PE_imp (t' := tOpts 0 5) (pe_ifExp (pt_cmp (pc_isN (pv 5))) (pe_listRg rfl (by rfl) T.list (prg_1 (by rfl) T.range (pe_callB call_len_seq (by rfl) T.len PySem.boot_len (pa_cons (pv 0) pa_nil)))) (pe_lst (pa_cons (pv 5) pa_nil))) ?o1)) (pg_name (i := 10) scFilled.nd rfl (.inl rfl))
            (pss_cons (ps_set (i := 11) scFilled.nd rfl (.inl rfl) (pe_ix ix_tup (hS.pe hr (pa_cons (pv 0) (pa_cons (pv 7) (pa_cons (pv 10) pa_nil)))) pe_int (fun _ _ => rfl)))
            (pss_cons (ps_set (i := 12) scFilled.nd rfl (.inl rfl) (pe_dget1 hu (pv 6) (pv 11) ⟨rfl, rfl, rfl, rfl⟩))
            (pss_cons (ps_set (i := 13) scFilled.nd rfl (.inl rfl) (pe_op op_catA (pv 9) (pe_tup (pa_cons (pv 10) pa_nil))))
            (pss_one (ps_dput hu (pv 6) (pv 11) (pe_ifExp (pt_cmp (pc_isN (pv 12))) (pe_tup (pa_cons (pv 8) (pa_cons (pv 13) pa_nil)))
              (pe_tup (pa_cons (pe_op op_add (pe_ix ix_tup (pv 12) pe_int (fun _ _ => rfl)) (pv 8)) (pa_cons (pe_callB (call_minT rfl hu) (by rfl) T.min (by decide +kernel) (pa_cons (pe_ix ix_tup (pv 12) pe_int (fun _ _ => rfl)) (pa_cons (pv 13) pa_nil))) pa_nil)))) rfl))))))))))
        (pss_one (ps_set (i := 4) scFilled.nd rfl (.inl rfl) (pv 6))))))
      (pss_one (ps_ret (pe_dget2 hu (pv 4) (pv 3) (pe_tup (pa_cons pe_int (pa_cons pe_non pa_nil))) ⟨rfl, rfl, rfl, rfl⟩))))))))), ?_⟩
    case o1 =>
      rintro σ H0 Q0 ⟨va', z', o, e0, hz0, hz1, e5, k⟩
      refine ⟨_, e5, _, rfl, ?_⟩
      cases o with
      | none =>
        refine iteT ⟨_, e0, va', _, rfl, .inr (SqT.of hz0), _, rfl, ?_⟩
        refine ⟨RgOk.of_le (Int.le_refl _) ?_ (by decide) ?_, fun l nl => k l _ (same_new nl) ?_⟩
        · rw [tn_len]; omega
        · omega
        · rw [upd_same, tn_len, rg_tn]
          rfl
      | some a => exact iteF ⟨_, e5, by show 1 ≤ sizeLine; decide, fun l nl => k l _ (same_new nl) upd_same⟩
    have hm3 := hv.m3
    have hm1 := hv.m1
    have hl := hv.len
    refine ⟨_, rfl, va, m, z, rfl, hva, hv, fun H1 s1 => ?_⟩
    refine ⟨_, rfl, _, rfl, va, sa, m, z, sl, rfl, s1.at hva, hv, s1.at hsa, hs, fun H2 s2 => ?_⟩
    have s12 := s1.trans s2
    refine ⟨_, rfl, _, rfl, va, pa, m, z, r, rfl, s12.at hva, hv, s12 _ _ hpa, hp, fun H3 s3 => ?_⟩
    have s13 := s12.trans s3
    refine ⟨_, rfl, _, rfl, va, ga, m, z, g, rfl, s13.at hva, hv, s13.at hga, hg, fun H4 s4 => ?_⟩
    have s14 := s13.trans s4
    refine ⟨_, rfl, _, rfl, va, sa, m, z, sl, rfl, s14.at hva, hv, s14.at hsa, hs, fun H5 v5 s5 => ?_⟩
    have s15 := s14.trans s5
    -- table = {slate: (1, ())}
    refine fun d nd => ⟨_, rfl, Nat.zero_le _, fun e ne => ⟨by show 2 ≤ sizeLine; decide, fun p np => ⟨?_, kn sl, sa, rfl, ?_, ?_⟩⟩⟩
    · rw [upd_ne (fun z : d = p => by rw [← z, upd_ne (fun y : d = e => by rw [← y, upd_same] at ne; cases ne), upd_same] at np; cases np), upd_ne (fun z : d = e => by rw [← z, upd_same] at ne; cases ne), upd_same]
    · exact (same_new (o := .tup [.int 1, .ref e]) np) _ _ ((same_new (o := .tup []) ne) _ _ ((same_new (o := .dT []) nd) _ _ (s15.at hsa).key))
    have ned : e ≠ d := fun z => by rw [z, upd_same] at ne; cases ne
    have npd : p ≠ d := fun z => by rw [z, upd_ne (Ne.symm ned), upd_same] at np; cases np
    have nep : e ≠ p := fun z => by rw [← z, upd_same] at np; cases np
    have nd0 : H d = none := s15.free nd
    have s0 : Same H (upd (upd (upd H5 d (.dT [])) e (.tup [])) p (.tup [.int 1, .ref e])) := s15.trans ((same_new nd).trans ((same_new ne).trans (same_new np)))
    refine ⟨_, rfl, pa, rfl, ⟨_, SqT.of ((same_upd0 s0 nd0) _ _ hpa)⟩, for_tup (K := K) (a := pa) (xs := pn r) (fun i σ H' => ∃ (T : List (List Nat × Cell)) (d : Addr) (v5 v6 v7 v8 v9 v10 v11 v12 v13 : Option V),
        σ = [some (.ref va), some (.ref sa), some (.ref pa), some (.ref ga), some (.ref d), v5, v6, v7, v8, v9, v10, v11, v12, v13] ∧ Same H H' ∧ H d = none ∧ H' d = some (.dT (ent fC T)) ∧ Tab m H' i T ∧ totC m z g (r.drop i) T = ((due m z g r sl).length, (due m z g r sl).head?))
      ⟨[(sl, (p, 1, []))], d, _, _, _, _, _, _, _, _, _, rfl, same_upd0 s0 nd0, nd0, upd_same, ?_, ?_⟩ (fun i σ H' _ ⟨_, _, _, _, _, _, _, _, _, _, _, _, sm, _⟩ => SqT.of (sm _ _ hpa)) ?_ ?_⟩
    · refine ⟨by simp, fun t ht => ?_, fun t ht => ?_⟩
      · rw [List.mem_singleton.mp ht]; exact hs
      · rw [List.mem_singleton.mp ht]
        refine ⟨rfl, e, ?_, ?_⟩
        · show upd _ d _ p = _
          rw [upd_ne npd, upd_same]
          rfl
        · show upd _ d _ e = _
          rw [upd_ne ned, upd_ne nep, upd_same]
          rfl
    · show bop (phi m z g r sl (1, [])) bz = _
      rw [bop_z, phi_start]
    · rintro i x σ H' hi ⟨T, d, v5, v6, v7, v8, v9, v10, v11, v12, v13, rfl, sm, nd, hd, tb, htot⟩
      obtain ⟨o, ho, rfl⟩ : ∃ o, r[i]? = some o ∧ pnV o = x := by
        unfold pn at hi
        rw [List.getElem?_map] at hi
        cases e : r[i]? with
        | none => rw [e] at hi; cases hi
        | some y => rw [e] at hi; exact ⟨y, rfl, Option.some.inj hi⟩
      have hdrop : r.drop i = o :: r.drop (i + 1) := by
        obtain ⟨h1, h2⟩ := List.getElem?_eq_some_iff.mp ho
        rw [← h2]
        exact List.drop_eq_getElem_cons h1
      have hom := List.mem_of_getElem? ho
      have hopt : ∀ l ∈ opts m o, l < m := fun l hl' => by
        cases o with
        | none => exact List.mem_range.mp hl'
        | some a => rw [List.mem_singleton.mp hl']; exact hp.2 a hom
      have hi30 : i < 30 := Nat.lt_of_lt_of_le (List.getElem?_eq_some_iff.mp ho).1 hp.1
      -- later = {}
      refine fun l nl => ?_
      have nl0 : H l = none := sm.free nl
      have ndl : d ≠ l := ne_of_none hd nl
      have sl1 := same_new (o := .dT []) nl
      -- for here in table
      refine ⟨d, _, sl1 _ _ hd, trivial, fun od => ?_⟩
      have kd : Keep H' (upd (upd H' l (.dT [])) d (.frz od (.dT (ent fC T)))) := sl1.keep.trans (keep_upd fun xs q => by rw [upd_ne ndl, hd] at q; cases q)
      refine ⟨_, rfl, d, od, rfl, .inr ⟨_, upd_same, for_it walk_keysT (fun c σ H2 => ∃ (L : List (List Nat × Cell)) (v7 v8 v9 v10 v11 v12 v13 : Option V),
          σ = [some (.ref va), some (.ref sa), some (.ref pa), some (.ref ga), some (.ref d), some (pnV o), some (.ref l), v7, v8, v9, v10, v11, v12, v13] ∧ Same H H2 ∧ H2 d = some (.frz od (.dT (ent fC T))) ∧ H2 l = some (.dT (ent fC L)) ∧ Tab m H2 i T ∧ Tab m H2 (i + 1) L ∧
          totC m z g (r.drop (i + 1)) L = totC m z g (r.drop i) (T.take c))
        ⟨[], _, _, _, _, _, _, _, rfl, same_upd0 (sm.trans sl1) nd, upd_same, ?_, tb.keep kd, ⟨by simp, fun t ht => (nomatch ht), fun t ht => (nomatch ht)⟩, rfl⟩ (fun c σ H2 _ ⟨_, _, _, _, _, _, _, _, _, _, hd2, _⟩ => hd2) ?_ ?_⟩⟩
      · rw [upd_ne ndl.symm, upd_same]
        rfl
      · rintro c x σ H2 H2' hc ⟨L, v7, v8, v9, v10, v11, v12, v13, rfl, sm2, hd2, hl2, tb2, tl2, htot2⟩ ⟨rfl, kk, vv, ha, hkv, rfl, hha⟩
        rw [ent_len] at hc
        have hT : T[c]? = some T[c] := List.getElem?_eq_getElem hc
        generalize T[c] = te at hT
        obtain ⟨k, pc, n, u⟩ := te
        rw [ent_get hT] at hkv
        obtain ⟨rfl, rfl⟩ : kn k = kk ∧ V.ref pc = vv := by
          have := Option.some.inj hkv
          exact ⟨congrArg Prod.fst this, congrArg Prod.snd this⟩
        have hmem := List.mem_of_getElem? hT
        obtain ⟨hul, wa, hpc, hwa⟩ := tb2.vd _ hmem
        have hkok := tb2.ok _ hmem
        have hul : u.length = i := hul
        have hha' : At H2' ha k := by rw [kn_kV] at hha; exact hha
        -- many, word = table[here]
        have hget : aget T k = some (pc, n, u) := aget_at tb2.nd hmem
        refine ⟨_, rfl, _, rfl, d, .ref pc, rfl, ?_, ?_⟩
        · have := DGet_z hd2 hha
          rw [ent_val, hget] at this
          exact this
        refine ⟨pc, _, rfl, SqT.of hpc, rfl, _, _, rfl, _, _, rfl, rfl, ?_⟩
        -- for letter in ..
        refine ⟨va, z, o, rfl, sm2.at hva, by omega, rfl, fun ol H3 s3 hol => ?_⟩
        rw [hl] at hol
        refine ⟨ol, rfl, ⟨_, SqL.of hol⟩, for_list (K := K) (a := ol) (xs := tn (opts m o)) (fun j σ H4 => ∃ (L : List (List Nat × Cell)) (v10 v11 v12 v13 : Option V),
            σ = [some (.ref va), some (.ref sa), some (.ref pa), some (.ref ga), some (.ref d), some (pnV o), some (.ref l), some (.ref ha), some (.int (n : Int)), some (.ref wa), v10, v11, v12, v13] ∧ Same H H4 ∧ H4 d = some (.frz od (.dT (ent fC T))) ∧ H4 l = some (.dT (ent fC L)) ∧
            H4 ol = some (.lst (tn (opts m o))) ∧ At H4 ha k ∧ At H4 wa u ∧ Tab m H4 i T ∧ Tab m H4 (i + 1) L ∧ totC m z g (r.drop (i + 1)) L = bop (totC m z g (r.drop i) (T.take c)) ((((opts m o).take j).map fun lt => phi m z g (r.drop (i + 1)) (stp z k lt) (n, u ++ [lt])).foldr bop bz))
          ⟨L, _, _, _, _, rfl, sm2.trans s3, s3 _ _ hd2, s3 _ _ hl2, hol, s3.at hha', s3.at hwa, tb2.keep s3.keep, tl2.keep s3.keep, ?_⟩ (fun j σ H4 _ ⟨_, _, _, _, _, _, _, _, _, h, _⟩ => SqL.of h) ?_ ?_⟩
        · rw [htot2]
          exact (bop_z _).symm
        · rintro j x σ H4 hj ⟨L, v10, v11, v12, v13, rfl, sm4, hd4, hl4, hol4, hha4, hwa4, tb4, tl4, htot4⟩
          obtain ⟨lx, hlt, rfl⟩ : ∃ lx : Nat, (opts m o)[j]? = some lx ∧ V.int (lx : Int) = x := by
            unfold tn at hj
            rw [List.getElem?_map] at hj
            cases e : (opts m o)[j]? with
            | none => rw [e] at hj; cases hj
            | some y => rw [e] at hj; exact ⟨y, rfl, Option.some.inj hj⟩
          have hltm := hopt lx (List.mem_of_getElem? hlt)
          -- more = stepped(values, here, letter)[0]
          refine ⟨_, rfl, _, rfl, _, rfl, va, ha, m, lx, z, k, rfl, sm4.at hva, hv, hha4, hkok, hltm, fun H5 p q' v s5 hp5 hq5 => ?_⟩
          refine ⟨p, _, 0, _, rfl, rfl, SqT.of hp5, atI_nat (j := 0) rfl, ?_⟩
          have hkk : SOk m (stp z k lx) := hkok.stp hv hltm
          -- before = later.get(more)
          have hl5 := s5 _ _ hl4
          refine ⟨_, rfl, l, rfl, .inr ⟨_, .inl hl5⟩, _, rfl, _, DGet.t hl5 hq5.key, ?_⟩
          rw [ent_val]
          -- own = word + (letter,)
          refine ⟨_, rfl, _, rfl, by show 1 ≤ sizeLine; decide, fun t1 nt1 => ?_⟩
          have s6 := same_new (o := .tup [.int (lx : Int)]) nt1
          refine cat_at (u := u) (v := [lx]) (s6.at (s5.at hwa4)) upd_same (by show u.length + 1 ≤ 1000; omega) fun oa H6 s7 hoa => ?_
          have s56 := s5.trans (s6.trans s7)
          have hl6 := (s6.trans s7) _ _ hl5
          have hq6 := (s6.trans s7).at hq5
          have tl6 := tl4.keep s56.keep
          have tb6 := tb4.keep s56.keep
          have hlen : (u ++ [lx]).length = i + 1 := by rw [List.length_append, hul]; rfl
          have few := few hm3 tl6.nd tl6.ok
          have hld : l ≠ d := Ne.symm (ne_of hd4 hl4 (fun y => nomatch y))
          have holl : ol ≠ l := ne_of hol4 hl4 (fun y => nomatch y)
          -- what both ways end with
          have fin : ∀ (H7 : Hp) (pn' : Addr) (n' : Nat) (w' : List Nat) (qn : Addr), Same H6 H7 → H7 pn' = some (.tup [.int (n' : Int), .ref qn]) → At H7 qn w' → w'.length = i + 1 →
              totC m z g (r.drop (i + 1)) (aput L (stp z k lx) (pn', n', w')) = bop (totC m z g (r.drop (i + 1)) L) (phi m z g (r.drop (i + 1)) (stp z k lx) (n, u ++ [lx])) →
              ∃ (L' : List (List Nat × Cell)) (w10 w11 w12 w13 : Option V),
                [some (V.ref va), some (.ref sa), some (.ref pa), some (.ref ga), some (.ref d), some (pnV o), some (.ref l), some (.ref ha), some (.int (n : Int)), some (.ref wa), some (.int (lx : Int)), some (.ref q'), some (((aget L (stp z k lx)).map fC).getD .non), some (.ref oa)] =
                  [some (V.ref va), some (.ref sa), some (.ref pa), some (.ref ga), some (.ref d), some (pnV o), some (.ref l), some (.ref ha), some (.int (n : Int)), some (.ref wa), w10, w11, w12, w13] ∧
                Same H (upd H7 l (.dT (putK (ent fC L) (kn (stp z k lx)) (.ref pn')))) ∧ (upd H7 l (.dT (putK (ent fC L) (kn (stp z k lx)) (.ref pn')))) d = some (.frz od (.dT (ent fC T))) ∧
                (upd H7 l (.dT (putK (ent fC L) (kn (stp z k lx)) (.ref pn')))) l = some (.dT (ent fC L')) ∧ (upd H7 l (.dT (putK (ent fC L) (kn (stp z k lx)) (.ref pn')))) ol = some (.lst (tn (opts m o))) ∧ At (upd H7 l (.dT (putK (ent fC L) (kn (stp z k lx)) (.ref pn')))) ha k ∧
                At (upd H7 l (.dT (putK (ent fC L) (kn (stp z k lx)) (.ref pn')))) wa u ∧ Tab m (upd H7 l (.dT (putK (ent fC L) (kn (stp z k lx)) (.ref pn')))) i T ∧ Tab m (upd H7 l (.dT (putK (ent fC L) (kn (stp z k lx)) (.ref pn')))) (i + 1) L' ∧
                totC m z g (r.drop (i + 1)) L' = bop (totC m z g (r.drop i) (T.take c)) ((((opts m o).take (j + 1)).map fun lx => phi m z g (r.drop (i + 1)) (stp z k lx) (n, u ++ [lx])).foldr bop bz) := by
            intro H7 pn' n' w' qn s8 hpn hqn hw' htot'
            have hl7 := s8 _ _ hl6
            have k7 : Keep H7 (upd H7 l (.dT (putK (ent fC L) (kn (stp z k lx)) (.ref pn')))) := keep_upd fun xs y => by rw [hl7] at y; cases y
            have s58 := s56.trans s8
            refine ⟨aput L (stp z k lx) (pn', n', w'), _, _, _, _, rfl, same_upd0 (sm4.trans s58) nl0, ?_, ?_, ?_, k7 _ _ (s58.at hha4), k7 _ _ (s58.at hwa4), (tb6.keep s8.keep).keep k7, ((tl6.keep s8.keep).put hkk hw' hpn hqn).keep k7, ?_⟩
            · rw [upd_ne hld.symm]; exact s58 _ _ hd4
            · rw [upd_same, show V.ref pn' = fC (pn', n', w') from rfl, ent_put]
            · rw [upd_ne holl]; exact s58 _ _ hol4
            · rw [htot', htot4, bop_assoc, fold_take (fun lx => phi m z g (r.drop (i + 1)) (stp z k lx) (n, u ++ [lx])) _ hlt]
          cases hb : aget L (stp z k lx) with
          | none =>
            rw [hb] at fin
            refine ⟨_, rfl, true, rfl, iteT ⟨_, rfl, _, rfl, by show 2 ≤ sizeLine; decide, fun pn' np' => ?_⟩⟩
            have s8 := same_new (o := .tup [.int (n : Int), .ref oa]) np'
            refine ⟨_, rfl, _, rfl, l, _, rfl, DPut.t (s8 _ _ hl6) (s8.at hq6).key (by rw [ent_len]; exact small1000 (by omega)), ?_⟩
            exact fin _ pn' n (u ++ [lx]) oa s8 upd_same (s8.at hoa) hlen (tot_add _ _ _ _ hb)
          | some c0 =>
            obtain ⟨p0, n0, w0⟩ := c0
            rw [hb] at fin
            obtain ⟨hw0, q0, hp0, hq0⟩ := tl6.vd _ (aget_mem hb)
            have hmin : At H6 (if lt (u ++ [lx]) w0 = true then oa else q0) (wmin w0 (u ++ [lx])) := by
              unfold wmin
              split
              · exact hoa
              · exact hq0
            refine ⟨_, rfl, false, rfl, iteF ?_⟩
            refine ⟨_, rfl, p0, _, 0, _, rfl, rfl, SqT.of hp0, atI_nat (j := 0) rfl, _, rfl, _, _, rfl, rfl, ?_⟩
            refine ⟨_, rfl, p0, _, 1, _, rfl, rfl, SqT.of hp0, atI_nat (j := 1) rfl, _, rfl, ?_⟩
            refine ⟨q0, oa, w0.map fun n : Nat => (n : Int), (u ++ [lx]).map fun n : Nat => (n : Int), rfl, SqT.of (by rw [← tn_ints]; exact hq0), SqT.of (by rw [← tn_ints]; exact hoa), ?_⟩
            rw [lex_nat]
            refine ⟨by show 2 ≤ sizeLine; decide, fun pn' np' => ?_⟩
            have s8 := same_new (o := .tup [.int ((n0 : Int) + (n : Int)), .ref (if lt (u ++ [lx]) w0 = true then oa else q0)]) np'
            refine ⟨_, rfl, _, rfl, l, _, rfl, DPut.t (s8 _ _ hl6) (s8.at hq6).key (by rw [ent_len]; exact small1000 (by omega)), ?_⟩
            exact fin _ pn' (n0 + n) (wmin w0 (u ++ [lx])) (if lt (u ++ [lx]) w0 = true then oa else q0) s8 upd_same (s8.at hmin) (wmin_len hw0 hlen) (tot_upd tl6.nd hb (hw0.trans hlen.symm))
        · rintro σ H4 ⟨L, v10, v11, v12, v13, rfl, sm4, hd4, hl4, hol4, hha4, hwa4, tb4, tl4, htot4⟩
          refine ⟨L, _, _, _, _, _, _, _, rfl, sm4, hd4, hl4, tb4, tl4, ?_⟩
          rw [htot4, tn_len, List.take_length]
          refine (congrArg (bop _) (phi_cons (m := m) (vs := z) (g := g) (t := o) (r := r.drop (i + 1)) k (n, u)).symm).trans ?_
          rw [← hdrop]
          exact (tot_take bop_assoc z_bop bop_z (phiC m z g (r.drop i)) hT).symm
      · rintro σ H2 ⟨L, v7, v8, v9, v10, v11, v12, v13, rfl, sm2, hd2, hl2, tb2, tl2, htot2⟩
        refine ⟨hd2, _, rfl, L, l, _, _, _, _, _, _, _, _, _, rfl, same_upd0 sm2 nd, nl0, ?_, tl2.keep (keep_upd fun xs y => by rw [hd2] at y; cases y), ?_⟩
        · rw [upd_ne ndl.symm]; exact hl2
        · rw [htot2, ent_len, List.take_length]
          exact htot
    · rintro σ H' ⟨T, d, v5, v6, v7, v8, v9, v10, v11, v12, v13, rfl, sm, nd, hd, tb, htot⟩
      rw [pn_len, List.drop_length] at htot
      -- return table.get(goal, (0, None))
      refine ⟨_, rfl, d, rfl, .inr ⟨_, .inl hd⟩, _, rfl, by show 2 ≤ sizeLine; decide, fun t nt => ?_⟩
      have s8 := same_new (o := .tup [.int 0, .non]) nt
      refine ⟨_, DGet.t (s8 _ _ hd) (s8.at (sm.at hga)).key, ?_⟩
      rw [ent_val]
      have hend := tot_end (op := bop) (e := bz) z_bop bop_z (φ := phiC m z g []) (g := g) (fun k v h => phi_other k v.2 h) tb.nd
      have hend := hend.symm.trans htot
      cases hb : aget T g with
      | none =>
        rw [hb] at hend
        have e1 : 0 = (due m z g r sl).length := congrArg Prod.fst hend
        have e2 : none = (due m z g r sl).head? := congrArg Prod.snd hend
        refine q _ t .non (sm.trans s8) ?_ ?_
        · rw [upd_same, ← e1]
          rfl
        · rw [← e2]
      | some v =>
        obtain ⟨p0, n0, w0⟩ := v
        rw [hb] at hend
        have hend : phi m z g [] g (n0, w0) = _ := hend
        rw [phi_goal] at hend
        have e1 : n0 = (due m z g r sl).length := congrArg Prod.fst hend
        have e2 : some w0 = (due m z g r sl).head? := congrArg Prod.snd hend
        obtain ⟨_, q0, hp0, hq0⟩ := tb.vd _ (aget_mem hb)
        refine q _ p0 (.ref q0) (sm.trans s8) ?_ ?_
        · rw [← e1]
          exact s8 _ _ hp0
        · rw [← e2]
          exact ⟨q0, rfl, s8.at hq0⟩
end
end K62
/-! counted, number_to. -/
namespace K62
open PySem PySem.Spec PyProof.Rows L2
def fN (n : Nat) : V := .int (n : Int)
structure Tbn (m : Nat) (T : List (List Nat × Nat)) : Prop where
  nd : (T.map (·.1)).Nodup
  ok : ∀ t ∈ T, SOk m t.1
theorem Tbn.put {m : Nat} {T : List (List Nat × Nat)} (b : Tbn m T) {k : List Nat} (n : Nat) (hk : SOk m k) : Tbn m (aput T k n) := by
  refine ⟨nd_aput _ b.nd, fun t ht => ?_⟩
  rcases mem_aput ht with ht | rfl
  · exact b.ok t ht
  · exact hk
abbrev addN (a b : Nat) : Nat := a + b
abbrev totN (m : Nat) (vs g : List Nat) (r : List (Option Nat)) (T : List (List Nat × Nat)) : Nat := tot addN 0 (psi m vs g r) T
theorem totN_put {m : Nat} {vs g : List Nat} {r : List (Option Nat)} {T : List (List Nat × Nat)} (hn : (T.map (·.1)).Nodup) (k : List Nat) (n : Nat) : totN m vs g r (aput T k ((aget T k).getD 0 + n)) = totN m vs g r T + psi m vs g r k n := by
  cases h : aget T k with
  | none =>
    show totN m vs g r (aput T k (0 + n)) = _
    rw [Nat.zero_add]
    exact tot_new (op := addN) (e := 0) Nat.add_assoc Nat.zero_add Nat.add_zero _ h
  | some n0 => exact tot_old (op := addN) (e := 0) (φ := psi m vs g r) (x := psi m vs g r k n) Nat.add_assoc Nat.add_comm psi_add hn h
theorem foldN_take (f : Nat → Nat) (ls : List Nat) {j l : Nat} (h : ls[j]? = some l) : ((ls.take (j + 1)).map f).foldr addN 0 = ((ls.take j).map f).foldr addN 0 + f l := by
  rw [List.take_add_one, h, List.map_append, fold_app (op := addN) (e := 0) Nat.add_assoc Nat.zero_add]
  rfl
section
variable {P : Program} {w : World} {K : PySem.W.Frag} {mg : Str → Option Value} {base : Heap}
def spCounted : Sp := fun vs H Q _ => ∃ (va sa : Addr) (m L : Nat) (z s : List Nat), vs = [.ref va, .ref sa, .int (L : Int)] ∧ At H va z ∧ VOk m z ∧ At H sa s ∧ SOk m s ∧ L ≤ 60 ∧
  ∀ H' d T, Same H H' → H' d = some (.dT (ent fN T)) → Tbn m T → (∀ g, totN m z g [] T = (due m z g (List.replicate L none) s).length) → Q (.ref d) H'
theorem scCounted : FnScope ["values", "slate", "length", "table", "turn", "later", "here", "letter", "more"] ["values", "slate", "length"] (defScope sCounted) := ⟨rfl, rfl, rfl, by decide +kernel, rfl, by decide +kernel, by decide +kernel⟩
theorem ok_counted {f : Addr} {fd : FuncData} (F : Fun K "counted" "counted" sCounted f fd) (T : Txt mg) (h4 : Has P w K mg base 3 "spread" ["values", "slate"] spSpread) (hS : Has P w K mg base 1 "stepped" ["values", "slate", "letter"] spStepped) :
    FnOk P w K mg base CX0 4 f fd ["values", "slate", "length"] spCounted := by
  refine F.ok scCounted (fun vs H Q E h => ?_) (fun cdv A outer s H vs Q E hr h => ?_)
  · obtain ⟨va, sa, m, L, z, sl, rfl, _⟩ := h
    rfl
  · obtain ⟨va, sa, m, N, z, sl, rfl, hva, hv, hsa, hs, hN, q⟩ := h
    have hu := hu_of hr
    refine ⟨_, pss_cons (ps_expr (h4.pe hr (pa_cons (pv 0) (pa_cons (pv 1) pa_nil))))
      (pss_cons (ps_set (i := 3) scCounted.nd rfl (.inl rfl) (pe_disp1 hu (pv 1) pe_int))
      (pss_cons (ps_for PassesOwn.never rfl (pi_range1 (by rfl) T.range (pa_cons (pv 2) pa_nil)) (pg_name (i := 4) scCounted.nd rfl (.inl rfl))
        (pss_cons (ps_set (i := 5) scCounted.nd rfl (.inl rfl) pe_dnewT)
        (pss_cons (ps_lock (ps_for PassesOwn.never rfl (pi_keys (pv 3)) (pg_name (i := 6) scCounted.nd rfl (.inl rfl))
          (pss_one (ps_for PassesOwn.never rfl (pi_range1 (by rfl) T.range (pa_cons (pe_callB call_len_seq (by rfl) T.len PySem.boot_len (pa_cons (pv 0) pa_nil)) pa_nil)) (pg_name (i := 7) scCounted.nd rfl (.inl rfl))
            (pss_cons (ps_set (i := 8) scCounted.nd rfl (.inl rfl) (pe_ix ix_tup (hS.pe hr (pa_cons (pv 0) (pa_cons (pv 6) (pa_cons (pv 7) pa_nil)))) pe_int (fun _ _ => rfl)))
            (pss_one (ps_dput hu (pv 5) (pv 8) (pe_op op_add (pe_dget2 hu (pv 5) (pv 8) pe_int ⟨rfl, rfl, rfl, rfl⟩) (pe_dget hu (pv 3) (pv 6) (fun _ _ => rfl))) rfl)))))))
        (pss_one (ps_set (i := 3) scCounted.nd rfl (.inl rfl) (pv 5))))))
      (pss_one (ps_ret (pv 3))))), ?_⟩
    have hm3 := hv.m3
    have hm1 := hv.m1
    have hl := hv.len
    refine ⟨_, rfl, _, rfl, va, sa, m, z, sl, rfl, hva, hv, hsa, hs, fun H5 v5 s15 => ?_⟩
    -- table = {slate: 1}
    refine fun d nd => ⟨_, rfl, upd_same, kn sl, sa, rfl, ?_, ?_⟩
    · exact (same_new (o := .dT []) nd) _ _ (s15.at hsa).key
    have nd0 : H d = none := s15.free nd
    have s0 : Same H (upd (upd H5 d (.dT [])) d (.dT [(kn sl, .int 1)])) := same_upd0 (s15.trans (same_new nd)) nd0
    refine ⟨_, rfl, (N : Int), rfl, by omega, by omega, for_range (lo := 0) (n := N) (fun i σ H' => ∃ (T : List (List Nat × Nat)) (d : Addr) (v4 v5 v6 v7 v8 : Option V),
        σ = [some (.ref va), some (.ref sa), some (.int (N : Int)), some (.ref d), v4, v5, v6, v7, v8] ∧ Same H H' ∧ H d = none ∧ H' d = some (.dT (ent fN T)) ∧ Tbn m T ∧ ∀ g, totN m z g (List.replicate (N - i) none) T = (due m z g (List.replicate N none) sl).length)
      ⟨[(sl, 1)], d, _, _, _, _, _, rfl, s0, nd0, upd_same, ⟨by simp, fun t ht => by rw [List.mem_singleton.mp ht]; exact hs⟩, fun g => Nat.one_mul _⟩ ?_ ?_⟩
    · rintro i σ H' hi ⟨T, d, v4, v5, v6, v7, v8, rfl, sm, nd, hd, tb, htot⟩
      have hrep : List.replicate (N - i) (none : Option Nat) = none :: List.replicate (N - (i + 1)) none := by
        rw [show N - i = (N - (i + 1)) + 1 by omega]
        rfl
      -- later = {}
      refine fun l nl => ?_
      have nl0 : H l = none := sm.free nl
      have ndl : d ≠ l := ne_of_none hd nl
      have sl1 := same_new (o := .dT []) nl
      refine ⟨d, _, sl1 _ _ hd, trivial, fun od => ?_⟩
      refine ⟨_, rfl, d, od, rfl, .inr ⟨_, upd_same, for_it walk_keysT (fun c σ H2 => ∃ (L : List (List Nat × Nat)) (v6 v7 v8 : Option V),
          σ = [some (.ref va), some (.ref sa), some (.int (N : Int)), some (.ref d), some (.int (0 + (i : Nat))), some (.ref l), v6, v7, v8] ∧ Same H H2 ∧ H2 d = some (.frz od (.dT (ent fN T))) ∧ H2 l = some (.dT (ent fN L)) ∧ Tbn m L ∧
          ∀ g, totN m z g (List.replicate (N - (i + 1)) none) L = totN m z g (List.replicate (N - i) none) (T.take c))
        ⟨[], _, _, _, rfl, same_upd0 (sm.trans sl1) nd, upd_same, ?_, ⟨by simp, fun t ht => (nomatch ht)⟩, fun g => rfl⟩ (fun c σ H2 _ ⟨_, _, _, _, _, _, hd2, _⟩ => hd2) ?_ ?_⟩⟩
      · rw [upd_ne ndl.symm, upd_same]
        rfl
      · rintro c x σ H2 H2' hc ⟨L, v6, v7, v8, rfl, sm2, hd2, hl2, tl2, htot2⟩ ⟨rfl, kk, vv, ha, hkv, rfl, hha⟩
        rw [ent_len] at hc
        have hT : T[c]? = some T[c] := List.getElem?_eq_getElem hc
        generalize T[c] = te at hT
        obtain ⟨k, n⟩ := te
        rw [ent_get hT] at hkv
        obtain ⟨rfl, rfl⟩ : kn k = kk ∧ fN n = vv := by
          have := Option.some.inj hkv
          exact ⟨congrArg Prod.fst this, congrArg Prod.snd this⟩
        have hmem := List.mem_of_getElem? hT
        have hkok : SOk m k := tb.ok _ hmem
        have hha' : At H2' ha k := by rw [kn_kV] at hha; exact hha
        have hget : aget T k = some n := aget_at tb.nd hmem
        -- for letter in range(len(values))
        refine ⟨_, rfl, va, _, rfl, .inr (SqT.of (sm2.at hva)), (m : Int), ?_, by omega, by omega, ?_⟩
        · rw [tn_len, hl]
        refine for_range (lo := 0) (n := m) (fun j σ H4 => ∃ (L : List (List Nat × Nat)) (v7 v8 : Option V),
            σ = [some (.ref va), some (.ref sa), some (.int (N : Int)), some (.ref d), some (.int (0 + (i : Nat))), some (.ref l), some (.ref ha), v7, v8] ∧ Same H H4 ∧ H4 d = some (.frz od (.dT (ent fN T))) ∧ H4 l = some (.dT (ent fN L)) ∧ At H4 ha k ∧ Tbn m L ∧
            ∀ g, totN m z g (List.replicate (N - (i + 1)) none) L = totN m z g (List.replicate (N - i) none) (T.take c) + (((List.range m).take j).map fun lx => psi m z g (List.replicate (N - (i + 1)) none) (stp z k lx) n).foldr addN 0)
          ⟨L, _, _, rfl, sm2, hd2, hl2, hha', tl2, htot2⟩ ?_ ?_
        · rintro j σ H4 hj ⟨L, v7, v8, rfl, sm4, hd4, hl4, hha4, tl4, htot4⟩
          rw [show (0 : Int) + (j : Nat) = (j : Int) from Int.zero_add _]
          refine ⟨_, rfl, _, rfl, _, rfl, va, ha, m, j, z, k, rfl, sm4.at hva, hv, hha4, hkok, hj, fun H5 p q' v s5 hp5 hq5 => ?_⟩
          refine ⟨p, _, 0, _, rfl, rfl, SqT.of hp5, atI_nat (j := 0) rfl, ?_⟩
          have hkk : SOk m (stp z k j) := hkok.stp hv hj
          have hl5 := s5 _ _ hl4
          have hd5 := s5 _ _ hd4
          have hld : l ≠ d := Ne.symm (ne_of hd4 hl4 (fun y => nomatch y))
          have hal : ha ≠ l := ne_of hha4 hl4 (fun y => nomatch y)
          -- later.get(more, 0) + table[here]
          refine ⟨_, rfl, l, rfl, .inr ⟨_, .inl hl5⟩, _, rfl, _, DGet.t hl5 hq5.key, ?_⟩
          rw [ent_val]
          refine ⟨_, rfl, _, rfl, d, fN n, rfl, ?_, ?_⟩
          · have := DGet_z hd5 (s5.at hha4).key
            rw [ent_val, hget] at this
            exact this
          refine ⟨(((aget L (stp z k j)).getD 0 : Nat) : Int), (n : Int), ?_, rfl, ?_⟩
          · cases aget L (stp z k j) <;> rfl
          have few := few hm3 tl4.nd tl4.ok
          refine ⟨_, rfl, _, rfl, l, _, rfl, DPut.t hl5 hq5.key (by rw [ent_len]; exact small1000 (by omega)), ?_⟩
          show ∃ L' : List (List Nat × Nat), _
          refine ⟨aput L (stp z k j) ((aget L (stp z k j)).getD 0 + n), _, _, rfl, same_upd0 (sm4.trans s5) nl0, ?_, ?_, ?_, tl4.put _ hkk, fun g => ?_⟩
          · rw [upd_ne hld.symm]; exact hd5
          · rw [upd_same, ← ent_put]
            rfl
          · show upd _ l _ ha = _
            rw [upd_ne hal]
            exact s5.at hha4
          · rw [totN_put tl4.nd, htot4, Nat.add_assoc, foldN_take (fun lx => psi m z g (List.replicate (N - (i + 1)) none) (stp z k lx) n) (List.range m) (j := j) (l := j) (by rw [List.getElem?_range hj])]
        · rintro σ H4 ⟨L, v7, v8, rfl, sm4, hd4, hl4, hha4, tl4, htot4⟩
          refine ⟨L, _, _, _, rfl, sm4, hd4, hl4, tl4, fun g => ?_⟩
          have et : (List.range m).take m = List.range m := List.take_of_length_le (by rw [List.length_range]; exact Nat.le_refl _)
          rw [htot4 g, et]
          refine (congrArg (totN m z g (List.replicate (N - i) none) (T.take c) + ·) (psi_cons (m := m) (vs := z) (g := g) (t := none) (r := List.replicate (N - (i + 1)) none) k n).symm).trans ?_
          rw [← hrep]
          exact (tot_take (op := addN) (e := 0) Nat.add_assoc Nat.zero_add Nat.add_zero (psi m z g (List.replicate (N - i) none)) hT).symm
      · rintro σ H2 ⟨L, v6, v7, v8, rfl, sm2, hd2, hl2, tl2, htot2⟩
        refine ⟨hd2, _, rfl, L, l, _, _, _, _, _, rfl, same_upd0 sm2 nd, nl0, ?_, tl2, fun g => ?_⟩
        · rw [upd_ne ndl.symm]; exact hl2
        · rw [htot2 g, ent_len, List.take_length]
          exact htot g
    · rintro σ H' ⟨T, d, v4, v5, v6, v7, v8, rfl, sm, nd, hd, tb, htot⟩
      refine ⟨_, rfl, q H' d T sm hd tb fun g => ?_⟩
      have := htot g
      rw [Nat.sub_self] at this
      exact this
def spNumberTo : Sp := fun vs H Q _ => ∃ (va sa ga : Addr) (m L : Nat) (z s g : List Nat), vs = [.ref va, .ref sa, .ref ga, .int (L : Int)] ∧ At H va z ∧ VOk m z ∧ At H sa s ∧ SOk m s ∧ At H ga g ∧ SOk m g ∧ L ≤ 60 ∧
  ∀ H', Same H H' → Q (.int ((due m z g (List.replicate L none) s).length : Int)) H'
theorem scNumberTo : FnScope ["values", "slate", "goal", "length"] ["values", "slate", "goal", "length"] (defScope sNumberTo) := ⟨rfl, rfl, rfl, by decide +kernel, rfl, by decide +kernel, by decide +kernel⟩
theorem ok_numberTo {f : Addr} {fd : FuncData} (F : Fun K "number_to" "number_to" sNumberTo f fd) (h1 : Has P w K mg base 3 "need_values" ["value"] spNeedValues) (h2 : Has P w K mg base 4 "need_slate" ["values", "slate"] spNeedSlate)
    (h3 : Has P w K mg base 3 "need_number" ["value", "low", "high"] spNumber) (h4 : Has P w K mg base 4 "counted" ["values", "slate", "length"] spCounted) : FnOk P w K mg base CX0 5 f fd ["values", "slate", "goal", "length"] spNumberTo := by
  refine F.ok scNumberTo (fun vs H Q E h => ?_) (fun cdv A outer s H vs Q E hr h => ?_)
  · obtain ⟨va, sa, ga, m, L, z, sl, g, rfl, _⟩ := h
    rfl
  · obtain ⟨va, sa, ga, m, N, z, sl, g, rfl, hva, hv, hsa, hs, hga, hg, hN, q⟩ := h
    have hu := hu_of hr
    refine ⟨_, pss_cons (ps_expr (h1.pe hr (pa_cons (pv 0) pa_nil)))
      (pss_cons (ps_expr (h2.pe hr (pa_cons (pv 0) (pa_cons (pv 1) pa_nil))))
      (pss_cons (ps_expr (h2.pe hr (pa_cons (pv 0) (pa_cons (pv 2) pa_nil))))
      (pss_cons (ps_expr (h3.pe hr (pa_cons (pv 3) (pa_cons pe_int (pa_cons pe_int pa_nil)))))
      (pss_one (ps_ret (pe_dget2 hu (h4.pe hr (pa_cons (pv 0) (pa_cons (pv 1) (pa_cons (pv 3) pa_nil)))) (pv 2) pe_int ⟨rfl, rfl, rfl, rfl⟩)))))), ?_⟩
    refine ⟨_, rfl, va, m, z, rfl, hva, hv, fun H1 s1 => ?_⟩
    refine ⟨_, rfl, _, rfl, va, sa, m, z, sl, rfl, s1.at hva, hv, s1.at hsa, hs, fun H2 s2 => ?_⟩
    have s12 := s1.trans s2
    refine ⟨_, rfl, _, rfl, va, ga, m, z, g, rfl, s12.at hva, hv, s12.at hga, hg, fun H3 s3 => ?_⟩
    have s13 := s12.trans s3
    refine ⟨_, rfl, (N : Int), 0, 60, rfl, by omega, by omega, ?_⟩
    refine ⟨_, rfl, _, rfl, _, rfl, va, sa, m, N, z, sl, rfl, s13.at hva, hv, s13.at hsa, hs, hN, fun H4 d T s4 hd tb htot => ?_⟩
    have s14 := s13.trans s4
    refine ⟨d, rfl, .inr ⟨_, .inl hd⟩, _, rfl, _, DGet.t hd (s14.at hga).key, ?_⟩
    rw [ent_val]
    have hend := tot_end (op := addN) (e := 0) Nat.zero_add Nat.add_zero (φ := psi m z g []) (g := g) (fun k v h => psi_other k v h) tb.nd
    have hend := hend.symm.trans (htot g)
    have := q H4 s14
    rw [← hend] at this
    cases hb : aget T g with
    | none =>
      rw [hb] at this
      exact this
    | some n =>
      rw [hb] at this
      have this : Q (.int ((psi m z g [] g n : Nat) : Int)) H4 := this
      rw [psi_goal] at this
      exact this
end
end K62
/-! the law's draws: _law_taken, _law_values, _law_word. -/
namespace K62
open PySem PySem.Spec PyProof.Rows L2
/-- all but the object at row is kept -/
def But (row : Addr) (H H' : Hp) : Prop := ∀ b o, b ≠ row → H b = some o → H' b = some o
theorem But.refl (row : Addr) (H : Hp) : But row H H := fun _ _ _ e => e
theorem But.trans {row : Addr} {H H1 H2 : Hp} (a : But row H H1) (b : But row H1 H2) : But row H H2 := fun c o n e => b c o n (a c o n e)
theorem _root_.L2.Same.but {row : Addr} {H H' : Hp} (s : Same H H') : But row H H' := fun b o _ e => s b o e
theorem but_upd {row : Addr} {H : Hp} {o : HO} : But row H (upd H row o) := fun b x n e => by rw [upd_ne n]; exact e
theorem seq_but {K : PySem.W.Frag} {row sa : Addr} {H H' : Hp} {xs : List V} (b : But row H H') (n : sa ≠ row) (h : SqL K H sa xs) : SqL K H' sa xs := by
  rcases h with (h | ⟨o, h⟩) | h
  · exact .inl (.inl (b _ _ n h))
  · exact .inl (.inr ⟨o, b _ _ n h⟩)
  · exact .inr h
/-- the script is to be read, whatever the row becomes -/
def Scr (K : PySem.W.Frag) (H : Hp) (row sa : Addr) (ns : List Int) : Prop := ∀ H', But row H H' → SqL K H' sa (ns.map V.int)
theorem Scr.new {K : PySem.W.Frag} {H : Hp} {row sa : Addr} {ns : List Int} {o : HO} (h : SqL K H sa (ns.map V.int)) (n : H row = none) : Scr K (upd H row o) row sa ns := fun H' b => by
  rcases h with (h | ⟨u, h⟩) | h
  · exact .inl (.inl (b _ _ (ne_of_none h n) (by rw [upd_ne (ne_of_none h n)]; exact h)))
  · exact .inl (.inr ⟨u, b _ _ (ne_of_none h n) (by rw [upd_ne (ne_of_none h n)]; exact h)⟩)
  · exact .inr h
/-- the row of draws at row, over the script at sa -/
def RowAt (K : PySem.W.Frag) (H : Hp) (row sa : Addr) (ns : List Int) : Prop := Scr K H row sa ns ∧ ∃ i z t : Int, 0 ≤ i ∧ H row = some (.lst [.ref sa, .int i, .int z, .int t])
theorem RowAt.same {K : PySem.W.Frag} {H H' : Hp} {row sa : Addr} {ns : List Int} (r : RowAt K H row sa ns) (s : Same H H') : RowAt K H' row sa ns := by
  obtain ⟨q, i, z, t, h0, h⟩ := r
  exact ⟨fun H2 b => q H2 (But.trans s.but b), i, z, t, h0, s _ _ h⟩
theorem RowAt.put {K : PySem.W.Frag} {H : Hp} {row sa : Addr} {ns : List Int} (r : RowAt K H row sa ns) {i z t : Int} (h : 0 ≤ i) : RowAt K (upd H row (.lst [.ref sa, .int i, .int z, .int t])) row sa ns :=
  ⟨fun H2 b => r.1 H2 (But.trans but_upd b), i, z, t, h, upd_same⟩
theorem RowAt.keep {K : PySem.W.Frag} {H H' : Hp} {row sa : Addr} {ns : List Int} (r : RowAt K H row sa ns) (b : But row H H') : Keep H H' := fun a xs e => by
  obtain ⟨q, i, z, t, h0, h⟩ := r
  exact b a _ (fun y => by rw [y, h] at e; cases e) e
theorem RowAt.of {K : PySem.W.Frag} {H H' : Hp} {row sa : Addr} {ns : List Int} {D : Addr} {o : HO} (r : RowAt K H row sa ns) (b : But row H H') (r' : RowAt K H' row sa ns) (hD : D ≠ row) (n : H D = none) : RowAt K (upd H' D o) row sa ns ∧ But row H (upd H' D o) := by
  have bu : But row H (upd H' D o) := fun c u hc e => by
    rw [upd_ne (fun y => by rw [y, n] at e; cases e)]
    exact b c u hc e
  obtain ⟨_, i, z, t, h0, h⟩ := r'
  exact ⟨⟨fun H2 b2 => r.1 H2 (But.trans bu b2), i, z, t, h0, by rw [upd_ne hD.symm]; exact h⟩, bu⟩
theorem RowAt.free {K : PySem.W.Frag} {H H' : Hp} {row sa : Addr} {ns : List Int} {D : Addr} (b : But row H H') (r' : RowAt K H' row sa ns) (n : H' D = none) : D ≠ row ∧ H D = none := by
  obtain ⟨_, i, z, t, h0, h⟩ := r'
  have hD : D ≠ row := fun y => by rw [y, h] at n; cases n
  refine ⟨hD, ?_⟩
  cases e : H D with
  | none => rfl
  | some o => rw [b D o hD e] at n; cases n
section
variable {P : Program} {w : World} {K : PySem.W.Frag} {mg : Str → Option Value} {base : Heap}
def spTaken (K : PySem.W.Frag) : Sp := fun vs H Q _ => ∃ (row sa : Addr) (ns : List Int) (m : Nat), vs = [.ref row, .int (m : Int)] ∧ 1 ≤ m ∧ m ≤ 1000 ∧ RowAt K H row sa ns ∧ ∀ (r : Nat) H', r < m → RowAt K H' row sa ns → But row H H' → Q (.int (r : Int)) H'
theorem scTaken : FnScope ["_law_row", "_law_many", "_law_found", "_law_cell"] ["_law_row", "_law_many"] (defScope sTaken) := ⟨rfl, rfl, rfl, by decide +kernel, rfl, by decide +kernel, by decide +kernel⟩
theorem mod_ex (x : Int) {m : Nat} (h1 : 1 ≤ m) : ∃ r : Nat, r < m ∧ x % (m : Int) = (r : Int) := by
  have a := Int.emod_nonneg x (show (m : Int) ≠ 0 by omega)
  have b := Int.emod_lt_of_pos x (show (0 : Int) < (m : Int) by omega)
  exact ⟨(x % (m : Int)).toNat, by omega, (Int.toNat_of_nonneg a).symm⟩
theorem ok_taken {f : Addr} {fd : FuncData} (F : Fun K "_law_taken" "_law_taken" sTaken f fd) (T : Txt mg) : FnOk P w K mg base CX0 1 f fd ["_law_row", "_law_many"] (spTaken K) := by
  refine F.ok scTaken (fun vs H Q E h => ?_) (fun cdv A outer s H vs Q E hr h => ?_)
  · obtain ⟨row, sa, ns, m, rfl, _⟩ := h
    rfl
  · obtain ⟨row, sa, ns, m, rfl, h1, h2, hR, q⟩ := h
    refine ⟨_, pss_cons (ps_if (pt_cmpR op_gt (pe_ix ix_list (pv 0) pe_int (fun _ _ => rfl)) pe_int (nomark _))
        (pss_cons (ps_set (i := 2) scTaken.nd rfl (.inl rfl) (pe_op op_mod (pe_callTy call_int1 (by rfl) T.int (by decide +kernel) (pa_cons (pe_ix ix_list (pv 0) pe_int (fun _ _ => rfl)) pa_nil)) (pv 1)))
        (pss_cons (ps_asg (pe_op op_fdiv (pe_ix ix_list (pv 0) pe_int (fun _ _ => rfl)) (pv 1)) (pg_sub (pv 0) pe_int set_list))
        (pss_one (ps_ret (pv 2))))) pss_nil)
      (pss_cons (ps_asg (pe_op op_add (pe_ix ix_list (pv 0) pe_int (fun _ _ => rfl)) pe_int) (pg_sub (pv 0) pe_int set_list))
      (pss_cons (ps_if (pt_cmpR op_gt (pe_ix ix_list (pv 0) pe_int (fun _ _ => rfl)) (pe_callB call_len_seq (by rfl) T.len PySem.boot_len (pa_cons (pe_ix ix_list (pv 0) pe_int (fun _ _ => rfl)) pa_nil)) (nomark _))
        (pss_cons (ps_asg (pe_op op_mod (pe_callTy call_int1 (by rfl) T.int (by decide +kernel) (pa_cons (pe_op op_add (pe_op op_mul (pe_ix ix_list (pv 0) pe_int (fun _ _ => rfl)) pe_int) pe_int) pa_nil)) pe_int) (pg_sub (pv 0) pe_int set_list))
        (pss_one (ps_ret (pe_op op_mod (pe_callTy call_int1 (by rfl) T.int (by decide +kernel) (pa_cons (pe_op op_fdiv (pe_ix ix_list (pv 0) pe_int (fun _ _ => rfl)) pe_int) pa_nil)) (pv 1))))) pss_nil)
      (pss_cons (ps_set (i := 3) scTaken.nd rfl (.inl rfl) (pe_ix ix_list (pe_ix ix_list (pv 0) pe_int (fun _ _ => rfl)) (pe_op op_sub (pe_ix ix_list (pv 0) pe_int (fun _ _ => rfl)) pe_int) (fun _ _ => rfl)))
      (pss_cons (ps_asg (pe_op op_mod (pe_callTy call_int1 (by rfl) T.int (by decide +kernel) (pa_cons (pe_op op_add (pe_op op_add (pe_op op_mul (pe_ix ix_list (pv 0) pe_int (fun _ _ => rfl)) pe_int) (pv 3)) pe_int) pa_nil)) pe_int) (pg_sub (pv 0) pe_int set_list))
      (pss_cons (ps_if (pt_cmpR op_ge (pv 3) (pe_op op_pow pe_int pe_int) (nomark _))
        (pss_one (ps_asg (pe_op op_fdiv (pv 3) (pv 1)) (pg_sub (pv 0) pe_int set_list))) pss_nil)
      (pss_one (ps_ret (pe_op op_mod (pe_callTy call_int1 (by rfl) T.int (by decide +kernel) (pa_cons (pv 3) pa_nil)) (pv 1))))))))), ?_⟩
    obtain ⟨_, i, z, t, hi, hrow⟩ := id hR
    have hm0 : (0 : Int) < (m : Int) := by omega
    -- if _law_row[3] > 0
    refine ⟨_, rfl, row, _, 3, .int t, rfl, rfl, SqL.of hrow, atI_nat (j := 3) rfl, _, _, rfl, rfl, _, rfl, ite2 (fun _ => ?_) (fun _ => ?_)⟩
    · refine ⟨_, rfl, row, _, 3, .int t, rfl, rfl, SqL.of hrow, atI_nat (j := 3) rfl, .inl ⟨_, rfl, _, rfl, _, _, rfl, rfl, hm0, ?_⟩⟩
      obtain ⟨r, hr', er⟩ := mod_ex t h1
      refine ⟨_, rfl, row, _, 3, .int t, rfl, rfl, SqL.of hrow, atI_nat (j := 3) rfl, _, rfl, _, _, rfl, rfl, ⟨hm0, by omega⟩, ?_⟩
      refine ⟨_, rfl, row, _, 3, 3, rfl, rfl, hrow, rfl, _, rfl, ?_⟩
      have := q r _ hr' (hR.put (z := z) (t := t / (m : Int)) hi) but_upd
      rw [← er] at this
      exact this
    · -- _law_row[1] = _law_row[1] + 1
      refine ⟨_, rfl, row, _, 1, .int i, rfl, rfl, SqL.of hrow, atI_nat (j := 1) rfl, _, _, rfl, rfl, ?_⟩
      refine ⟨_, rfl, row, _, 1, 1, rfl, rfl, hrow, rfl, ?_⟩
      have hR1 : RowAt K (upd H row (.lst [.ref sa, .int (i + 1), .int z, .int t])) row sa ns := hR.put (by omega)
      have b1 : But row H (upd H row (.lst [.ref sa, .int (i + 1), .int z, .int t])) := but_upd
      have hr1 : (upd H row (.lst [.ref sa, .int (i + 1), .int z, .int t])) row = some (.lst [.ref sa, .int (i + 1), .int z, .int t]) := upd_same
      have hS1 := hR1.1 _ (But.refl row _)
      refine ⟨_, rfl, row, _, 1, .int (i + 1), rfl, rfl, SqL.of hr1, atI_nat (j := 1) rfl, _, rfl, row, _, 0, .ref sa, rfl, rfl, SqL.of hr1, atI_nat (j := 0) rfl, sa, _, rfl, .inl hS1, _, _, rfl, rfl, _, rfl, ite2 (fun e => ?_) (fun e => ?_)⟩
      · refine ⟨_, rfl, row, _, 2, .int z, rfl, rfl, SqL.of hr1, atI_nat (j := 2) rfl, _, _, rfl, rfl, .inr ⟨by decide, by decide⟩, _, _, rfl, rfl, .inl ⟨_, rfl, _, _, rfl, rfl, by show (0 : Int) < 2147483647; decide, ?_⟩⟩
        refine ⟨_, rfl, row, _, 2, 2, rfl, rfl, hr1, rfl, ?_⟩
        refine ⟨_, rfl, row, _, 2, .int ((z * 48271 + 11) % 2147483647), rfl, rfl, SqL.of upd_same, atI_nat (j := 2) rfl, _, _, rfl, rfl, ⟨by decide, by decide⟩, .inl ⟨_, rfl, _, rfl, _, _, rfl, rfl, hm0, ?_⟩⟩
        obtain ⟨r, hr', er⟩ := mod_ex ((z * 48271 + 11) % 2147483647 / 7) h1
        have := q r _ hr' (hR1.put (i := i + 1) (z := (z * 48271 + 11) % 2147483647) (t := t) (by omega)) (b1.trans but_upd)
        rw [← er] at this
        exact this
      · have e : ¬ (((ns.map V.int).length : Nat) : Int) < i + 1 := fun y => e (decide_eq_true y)
        rw [List.length_map] at e
        have hlt : i.toNat < ns.length := by omega
        have hx : (ns.map V.int)[i.toNat]? = some (.int ns[i.toNat]) := by
          rw [List.getElem?_map, List.getElem?_eq_getElem hlt]
          rfl
        -- _law_cell = _law_row[0][_law_row[1] - 1]
        refine ⟨_, rfl, row, _, 0, .ref sa, rfl, rfl, SqL.of hr1, atI_nat (j := 0) rfl, _, rfl, row, _, 1, .int (i + 1), rfl, rfl, SqL.of hr1, atI_nat (j := 1) rfl, _, _, rfl, rfl, sa, _, _, _, rfl, rfl, hS1, at_of (j := i.toNat) (by show i + 1 - 1 = _; omega) hx, ?_⟩
        -- _law_row[2] = ..
        refine ⟨_, rfl, row, _, 2, .int z, rfl, rfl, SqL.of hr1, atI_nat (j := 2) rfl, _, _, rfl, rfl, .inr ⟨by decide, by decide⟩, _, rfl, _, _, rfl, rfl, _, _, rfl, rfl, .inl ⟨_, rfl, _, _, rfl, rfl, by show (0 : Int) < 2147483647; decide, ?_⟩⟩
        refine ⟨_, rfl, row, _, 2, 2, rfl, rfl, hr1, rfl, ?_⟩
        have hR2 : RowAt K (upd (upd H row (.lst [.ref sa, .int (i + 1), .int z, .int t])) row (.lst [.ref sa, .int (i + 1), .int ((z * 48271 + ns[i.toNat] + 11) % 2147483647), .int t])) row sa ns := hR1.put (by omega)
        have b2 : But row (upd H row (.lst [.ref sa, .int (i + 1), .int z, .int t])) (upd (upd H row (.lst [.ref sa, .int (i + 1), .int z, .int t])) row (.lst [.ref sa, .int (i + 1), .int ((z * 48271 + ns[i.toNat] + 11) % 2147483647), .int t])) := but_upd
        have hr2 : (upd (upd H row (.lst [.ref sa, .int (i + 1), .int z, .int t])) row (.lst [.ref sa, .int (i + 1), .int ((z * 48271 + ns[i.toNat] + 11) % 2147483647), .int t])) row = some (.lst [.ref sa, .int (i + 1), .int ((z * 48271 + ns[i.toNat] + 11) % 2147483647), .int t]) := upd_same
        refine ⟨_, rfl, _, _, rfl, rfl, ⟨by decide, by decide, by decide⟩, _, _, rfl, rfl, _, rfl, ite2 (fun _ => ?_) (fun _ => ?_)⟩
        · refine ⟨_, rfl, _, rfl, _, _, rfl, rfl, ⟨hm0, by omega⟩, _, rfl, row, _, 3, 3, rfl, rfl, hr2, rfl, ?_⟩
          refine ⟨_, rfl, .inl ⟨_, rfl, _, rfl, _, _, rfl, rfl, hm0, ?_⟩⟩
          obtain ⟨r, hr', er⟩ := mod_ex ns[i.toNat] h1
          have := q r _ hr' (hR2.put (i := i + 1) (z := (z * 48271 + ns[i.toNat] + 11) % 2147483647) (t := ns[i.toNat] / (m : Int)) (by omega)) (b1.trans (b2.trans but_upd))
          rw [← er] at this
          exact this
        · refine ⟨_, rfl, .inl ⟨_, rfl, _, rfl, _, _, rfl, rfl, hm0, ?_⟩⟩
          obtain ⟨r, hr', er⟩ := mod_ex ns[i.toNat] h1
          have := q r _ hr' hR2 (b1.trans b2)
          rw [← er] at this
          exact this
def spValues (K : PySem.W.Frag) : Sp := fun vs H Q _ => ∃ (row sa : Addr) (ns : List Int), vs = [.ref row, .int 3, .int 4] ∧ RowAt K H row sa ns ∧ ∀ (m : Nat) (z : List Nat) p H', VOk m z → At H' p z → RowAt K H' row sa ns → But row H H' → Q (.ref p) H'
theorem scValues : FnScope ["_law_row", "_law_most", "_law_top", "_law_high", "_law_letter"] ["_law_row", "_law_most", "_law_top"] (defScope sValues) := ⟨rfl, rfl, rfl, by decide +kernel, rfl, by decide +kernel, by decide +kernel⟩
theorem ok_values {f : Addr} {fd : FuncData} (F : Fun K "_law_values" "_law_values" sValues f fd) (T : Txt mg) (h1 : Has P w K mg base 1 "_law_taken" ["_law_row", "_law_many"] (spTaken K)) : FnOk P w K mg base CX0 2 f fd ["_law_row", "_law_most", "_law_top"] (spValues K) := by
  refine F.ok scValues (fun vs H Q E h => ?_) (fun cdv A outer s H vs Q E hr h => ?_)
  · obtain ⟨row, sa, ns, rfl, _⟩ := h
    rfl
  · obtain ⟨row, sa, ns, rfl, hR, q⟩ := h
    refine ⟨_, pss_cons (ps_set (i := 3) scValues.nd rfl (.inr rfl) (pe_op op_add pe_int (h1.pe hr (pa_cons (pv 0) (pa_cons (pv 2) pa_nil)))))
      (pss_one (ps_ret (pe_callTy call_tuple_of (by rfl) T.tuple (by decide +kernel) (pa_cons
        (pe_lc (own := [("_law_letter", 4)]) (g := gName 4) (tt := tYes) rfl scValues.nd (pi_range1 (by rfl) T.range (pa_cons (pe_op op_add pe_int (h1.pe hr (pa_cons (pv 0) (pa_cons (pv 1) pa_nil)))) pa_nil))
          (blkOk_by (N := ["_law_row", "_law_most", "_law_top", "_law_high", "_law_letter"]) (sc := defScope sValues) (by decide +kernel)) (fun _ _ _ _ _ => pg_name (i := 4) scValues.nd rfl (Or.inl rfl)) (fun _ _ _ _ _ => pts_nil)
          (fun _ _ _ _ _ => pe_op op_add pe_int (h1.pe hr (pa_cons (pv 0) (pa_cons (pv 3) pa_nil))))) pa_nil)))), ?_⟩
    refine ⟨_, rfl, _, rfl, row, sa, ns, 4, rfl, by omega, by omega, hR, fun hi H1 hhi hR1 b1 => ⟨_, _, rfl, rfl, ?_⟩⟩
    refine ⟨_, rfl, _, rfl, row, sa, ns, 3, rfl, by omega, by omega, hR1, fun cnt H2 hcnt hR2 b2 => ⟨_, _, rfl, rfl, _, rfl, by omega, by omega, fun D nD => ?_⟩⟩
    rw [show ((1 : Int) + (cnt : Int)).toNat = cnt + 1 by omega]
    have b12 := b1.trans b2
    obtain ⟨hDr, nD0⟩ := RowAt.free b12 hR2 nD
    refine lc_range (lo := 0) (n := cnt + 1) (fun i H' => ∃ acc : List Nat, acc.length = i ∧ (∀ v ∈ acc, 1 ≤ v ∧ v ≤ 4) ∧ RowAt K H' row sa ns ∧ But row H H' ∧ H' D = some (.lst (tn acc)))
      ⟨[], rfl, fun v hv => (nomatch hv), hR2.same (same_new nD), b12.trans (same_new nD).but, upd_same⟩ ?_ ?_
    · rintro i H3 hi3 ⟨acc, hlen, hall, hR3, b3, hD⟩
      refine ⟨rfl, _, rfl, _, rfl, row, sa, ns, 1 + hi, ?_, by omega, by omega, hR3, fun v H4 hv hR4 b4 => ⟨_, _, rfl, rfl, ?_⟩⟩
      · show [V.ref row, V.int (1 + (hi : Int))] ++ [] = [V.ref row, V.int ((1 + hi : Nat) : Int)]
        rw [Int.natCast_add]
        rfl
      have hD4 := b4 _ _ hDr hD
      obtain ⟨hR5, b5⟩ := hR.of (D := D) (o := .lst (tn (acc ++ [1 + v]))) (b3.trans b4) hR4 hDr nD0
      have e : tn acc ++ [V.int (1 + (v : Int))] = tn (acc ++ [1 + v]) := by
        rw [tn_app, show tn [1 + v] = [V.int ((1 + v : Nat) : Int)] from rfl, Int.natCast_add]
        rfl
      refine ⟨_, hD4, by rw [tn_len]; exact small1000 (by omega), acc ++ [1 + v], ?_, fun u hu => ?_, e ▸ hR5, e ▸ b5, ?_⟩
      · rw [List.length_append, hlen]; rfl
      · rcases List.mem_append.mp hu with hu | hu
        · exact hall u hu
        · rw [List.mem_singleton.mp hu]
          omega
      · rw [upd_same]
        exact congrArg (fun x => some (HO.lst x)) e
    · rintro H3 ⟨acc, hlen, hall, hR3, b3, hD⟩
      refine ⟨D, _, rfl, .inl ⟨SqL.of hD, fun p np => ?_⟩⟩
      exact q (cnt + 1) acc p _ ⟨hlen, by omega, by omega, fun v hv => (hall v hv).1, fun v hv => (hall v hv).2⟩ upd_same (hR3.same (same_new np)) (b3.trans (same_new np).but)
def spWord (K : PySem.W.Frag) : Sp := fun vs H Q _ => ∃ (row sa : Addr) (ns : List Int) (m n : Nat), vs = [.ref row, .int (m : Int), .int (n : Int)] ∧ 1 ≤ m ∧ m ≤ 3 ∧ n ≤ 100 ∧ RowAt K H row sa ns ∧
  ∀ (u : List Nat) p H', u.length ≤ n → (∀ l ∈ u, l < m) → At H' p u → RowAt K H' row sa ns → But row H H' → Q (.ref p) H'
theorem scWord : FnScope ["_law_row", "_law_many", "_law_most", "_law_index"] ["_law_row", "_law_many", "_law_most"] (defScope sWord) := ⟨rfl, rfl, rfl, by decide +kernel, rfl, by decide +kernel, by decide +kernel⟩
theorem ok_word {f : Addr} {fd : FuncData} (F : Fun K "_law_word" "_law_word" sWord f fd) (T : Txt mg) (h1 : Has P w K mg base 1 "_law_taken" ["_law_row", "_law_many"] (spTaken K)) : FnOk P w K mg base CX0 2 f fd ["_law_row", "_law_many", "_law_most"] (spWord K) := by
  refine F.ok scWord (fun vs H Q E h => ?_) (fun cdv A outer s H vs Q E hr h => ?_)
  · obtain ⟨row, sa, ns, m, n, rfl, _⟩ := h
    rfl
  · obtain ⟨row, sa, ns, m, n, rfl, hm1, hm3, hn, hR, q⟩ := h
    refine ⟨_, pss_one (ps_ret (pe_callTy call_tuple_of (by rfl) T.tuple (by decide +kernel) (pa_cons
        (pe_lc (own := [("_law_index", 3)]) (g := gName 3) (tt := tYes) rfl scWord.nd (pi_range1 (by rfl) T.range (pa_cons (h1.pe hr (pa_cons (pv 0) (pa_cons (pe_op op_add (pv 2) pe_int) pa_nil))) pa_nil))
          (blkOk_by (N := ["_law_row", "_law_many", "_law_most", "_law_index"]) (sc := defScope sWord) (by decide +kernel)) (fun _ _ _ _ _ => pg_name (i := 3) scWord.nd rfl (Or.inl rfl)) (fun _ _ _ _ _ => pts_nil)
          (fun _ _ _ _ _ => h1.pe hr (pa_cons (pv 0) (pa_cons (pv 1) pa_nil)))) pa_nil))), ?_⟩
    refine ⟨_, rfl, _, rfl, _, _, rfl, rfl, row, sa, ns, n + 1, ?_, by omega, by omega, hR, fun cnt H2 hcnt hR2 b12 => ⟨_, rfl, by omega, by omega, fun D nD => ?_⟩⟩
    · show [V.ref row, V.int ((n : Int) + 1)] ++ [] = [V.ref row, V.int ((n + 1 : Nat) : Int)]
      rw [Int.natCast_add]
      rfl
    rw [show ((cnt : Int)).toNat = cnt by omega]
    obtain ⟨hDr, nD0⟩ := RowAt.free b12 hR2 nD
    refine lc_range (lo := 0) (n := cnt) (fun i H' => ∃ acc : List Nat, acc.length = i ∧ (∀ v ∈ acc, v < m) ∧ RowAt K H' row sa ns ∧ But row H H' ∧ H' D = some (.lst (tn acc)))
      ⟨[], rfl, fun v hv => (nomatch hv), hR2.same (same_new nD), b12.trans (same_new nD).but, upd_same⟩ ?_ ?_
    · rintro i H3 hi3 ⟨acc, hlen, hall, hR3, b3, hD⟩
      refine ⟨rfl, _, rfl, _, rfl, row, sa, ns, m, rfl, by omega, by omega, hR3, fun v H4 hv hR4 b4 => ?_⟩
      have hD4 := b4 _ _ hDr hD
      obtain ⟨hR5, b5⟩ := hR.of (D := D) (o := .lst (tn (acc ++ [v]))) (b3.trans b4) hR4 hDr nD0
      have e : tn acc ++ [V.int (v : Int)] = tn (acc ++ [v]) := by rw [tn_app]; rfl
      refine ⟨_, hD4, by rw [tn_len]; exact small1000 (by omega), acc ++ [v], ?_, fun u hu => ?_, e ▸ hR5, e ▸ b5, ?_⟩
      · rw [List.length_append, hlen]; rfl
      · rcases List.mem_append.mp hu with hu | hu
        · exact hall u hu
        · rw [List.mem_singleton.mp hu]
          exact hv
      · rw [upd_same]
        exact congrArg (fun x => some (HO.lst x)) e
    · rintro H3 ⟨acc, hlen, hall, hR3, b3, hD⟩
      refine ⟨D, _, rfl, .inl ⟨SqL.of hD, fun p np => ?_⟩⟩
      exact q acc p _ (by omega) hall upd_same (hR3.same (same_new np)) (b3.trans (same_new np).but)
end
end K62
/-! the law's own writing: _law_write, _law_slates. -/
namespace K62
open PySem PySem.Spec PyProof.Rows L2
theorem rev_erase {α : Type} {l : List α} {v : Nat} (h1 : 1 ≤ v) (h2 : v ≤ l.length) : l.reverse.eraseIdx (l.length - v) = (l.eraseIdx (v - 1)).reverse := by
  rw [List.eraseIdx_eq_take_drop_succ, List.eraseIdx_eq_take_drop_succ, List.reverse_append, List.take_reverse, List.drop_reverse, show l.length - (l.length - v) = v - 1 + 1 by omega, show l.length - (l.length - v + 1) = v - 1 by omega]
theorem tn_erase (s : List Nat) (k : Nat) : (tn s).eraseIdx k = tn (s.eraseIdx k) := by
  rw [List.eraseIdx_eq_take_drop_succ, List.eraseIdx_eq_take_drop_succ, tn_take, tn_drop, ← tn_app]
theorem seq_nat {k n : Nat} (h : k < n) : seqIndex? (k : Int) n = some k := by
  unfold seqIndex?
  have h1 : ¬ (k : Int) < 0 := by omega
  have h2 : (0 : Int) ≤ (k : Int) := by omega
  have h3 : (k : Int) < (n : Int) := by omega
  simp [h1, h2, h3]
section
variable {P : Program} {w : World} {K : PySem.W.Frag} {mg : Str → Option Value} {base : Heap}
def spWrite : Sp := fun vs H Q _ => ∃ (va sa wa : Addr) (m : Nat) (z s u : List Nat), vs = [.ref va, .ref sa, .ref wa] ∧ At H va z ∧ VOk m z ∧ At H sa s ∧ SOk m s ∧ At H wa u ∧ (∀ l ∈ u, l < m) ∧ ∀ H' p, Same H H' → At H' p (run z s u) → Q (.ref p) H'
theorem scWrite : FnScope ["_law_values_here", "_law_slate", "_law_word_here", "_law_here", "_law_letter", "_law_spot"] ["_law_values_here", "_law_slate", "_law_word_here"] (defScope sWrite) := ⟨rfl, rfl, rfl, by decide +kernel, rfl, by decide +kernel, by decide +kernel⟩
theorem ok_write {f : Addr} {fd : FuncData} (F : Fun K "_law_write" "_law_write" sWrite f fd) (T : Txt mg) : FnOk P w K mg base CX0 1 f fd ["_law_values_here", "_law_slate", "_law_word_here"] spWrite := by
  refine F.ok scWrite (fun vs H Q E h => ?_) (fun cdv A outer s H vs Q E hr h => ?_)
  · obtain ⟨va, sa, wa, m, z, sl, u, rfl, _⟩ := h
    rfl
  · obtain ⟨va, sa, wa, m, z, sl, u, rfl, hva, hv, hsa, hs, hwa, hu, q⟩ := h
    refine ⟨_, pss_cons (ps_set (i := 3) scWrite.nd rfl (.inl rfl) (pe_revL (pe_callTy call_list_of (by rfl) T.list (by decide +kernel) (pa_cons (pv 1) pa_nil))))
      (pss_cons (ps_for PassesOwn.never rfl (pi_tup (pv 2)) (pg_name (i := 4) scWrite.nd rfl (.inl rfl))
        (pss_cons (ps_set (i := 5) scWrite.nd rfl (.inl rfl) (pe_op op_sub (pe_callB call_len_seq (by rfl) T.len PySem.boot_len (pa_cons (pv 3) pa_nil)) (pe_ix ix_tup (pv 0) (pv 4) (fun _ _ => rfl))))
        (pss_cons (ps_if (pt_cmpR op_ge (pv 5) pe_int (nomark _)) (pss_one (ps_expr (pe_bm PySem.F.plainAttrs_list PySem.F.slot_list_pop PySem.F.type_list_pop mt_popAt (pv 3) (pa_cons (pv 5) pa_nil)))) pss_nil)
        (pss_one (ps_expr (pe_bm PySem.F.plainAttrs_list PySem.F.slot_list_append PySem.F.type_list_append mt_append (pv 3) (pa_cons (pv 4) pa_nil)))))))
      (pss_one (ps_ret (pe_callTy call_tuple_of (by rfl) T.tuple (by decide +kernel) (pa_cons (pe_revL (pv 3)) pa_nil))))), ?_⟩
    -- _law_here = list(_law_slate)[::-1]
    refine ⟨_, rfl, sa, _, rfl, .inr (SqT.of hsa), fun a na => ?_⟩
    refine ⟨a, _, rfl, SqL.of upd_same, fun b nb => ?_⟩
    have s1 := same_new (o := .lst (tn sl)) na
    have nb0 : H b = none := s1.free nb
    have s2 : Same H (upd (upd H a (.lst (tn sl))) b (.lst (tn sl).reverse)) := s1.trans (same_new nb)
    refine ⟨_, rfl, wa, rfl, ⟨_, SqT.of (s2 _ _ hwa)⟩, for_tup (K := K) (a := wa) (xs := tn u) (fun i σ H' => ∃ v4 v5 : Option V, σ = [some (.ref va), some (.ref sa), some (.ref wa), some (.ref b), v4, v5] ∧ Same H H' ∧ H' b = some (.lst (tn (run z sl (u.take i))).reverse))
      ⟨_, _, rfl, s2, upd_same⟩ (fun i σ H' _ ⟨_, _, _, sm, _⟩ => SqT.of (sm _ _ hwa)) ?_ ?_⟩
    · rintro i x σ H' hi ⟨v4, v5, rfl, sm, hb⟩
      obtain ⟨lx, hlx, rfl⟩ : ∃ lx : Nat, u[i]? = some lx ∧ V.int (lx : Int) = x := by
        unfold tn at hi
        rw [List.getElem?_map] at hi
        cases e : u[i]? with
        | none => rw [e] at hi; cases hi
        | some y => rw [e] at hi; exact ⟨y, rfl, Option.some.inj hi⟩
      have hlm := hu lx (List.mem_of_getElem? hlx)
      have hrun : SOk m (run z sl (u.take i)) := hs.run hv fun y hy => hu y (List.mem_of_mem_take hy)
      have hnext : run z sl (u.take (i + 1)) = stp z (run z sl (u.take i)) lx := by
        rw [List.take_add_one, hlx]
        exact run_snoc z sl lx (u.take i)
      generalize run z sl (u.take i) = c at hb hrun hnext
      obtain ⟨v, hzv, hgd, h1, h4⟩ := hv.get hlm
      have hc4 := hrun.1
      -- _law_spot = len(_law_here) - _law_values_here[_law_letter]
      refine ⟨_, rfl, b, _, rfl, .inl (SqL.of hb), _, rfl, _, rfl, va, _, _, _, rfl, rfl, SqT.of (sm _ _ hva), atI_nat (tn_get hzv), _, _, rfl, rfl, ?_⟩
      have el : (tn c).reverse.length = c.length := by rw [List.length_reverse, tn_len]
      refine ⟨_, rfl, _, _, rfl, rfl, _, rfl, ite2 (fun e => ?_) (fun e => ?_)⟩
      · have e : (0 : Int) ≤ ((tn c).reverse.length : Int) - (v : Int) := of_decide_eq_true e
        rw [el] at e
        have hk : c.length - v < (tn c).reverse.length := by rw [el]; omega
        have hpop := List.getElem?_eq_getElem hk
        have ei : (((tn c).reverse.length : Nat) : Int) - (v : Int) = ((c.length - v : Nat) : Int) := by rw [el]; omega
        refine ⟨_, rfl, .inl ⟨rfl, _, SqL.of hb⟩, _, rfl, b, _, _, c.length - v, _, rfl, rfl, hb, by rw [el]; omega, by rw [el]; omega, ?_, hpop, ?_⟩
        · show seqIndex? (((tn c).reverse.length : Int) - (v : Int)) (tn c).reverse.length = some (c.length - v)
          rw [ei]
          exact seq_nat hk
        have er : (tn c).reverse.eraseIdx (c.length - v) = (tn (c.eraseIdx (v - 1))).reverse := by
          have := rev_erase (l := tn c) h1 (by rw [tn_len]; omega)
          rw [tn_len, tn_erase] at this
          exact this
        rw [er]
        refine ⟨_, rfl, .inl ⟨rfl, _, SqL.of upd_same⟩, _, rfl, b, _, _, rfl, rfl, upd_same, ?_, ?_⟩
        · rw [List.length_reverse, tn_len, List.length_eraseIdx]
          exact small1000 (by split <;> omega)
        · refine ⟨_, _, rfl, same_upd0 (same_upd0 sm nb0) nb0, ?_⟩
          rw [upd_same, hnext]
          unfold stp
          rw [hgd, tn_cons, List.reverse_cons]
      · have e : ¬ (0 : Int) ≤ ((tn c).reverse.length : Int) - (v : Int) := fun y => e (decide_eq_true y)
        rw [el] at e
        refine ⟨_, rfl, .inl ⟨rfl, _, SqL.of hb⟩, _, rfl, b, _, _, rfl, rfl, hb, ?_, ?_⟩
        · rw [el]
          exact small1000 (by omega)
        · refine ⟨_, _, rfl, same_upd0 sm nb0, ?_⟩
          rw [upd_same, hnext]
          unfold stp
          rw [hgd, List.eraseIdx_of_length_le (by omega), tn_cons, List.reverse_cons]
    · rintro σ H' ⟨v4, v5, rfl, sm, hb⟩
      rw [tn_len, List.take_length] at hb
      refine ⟨_, rfl, b, _, rfl, SqL.of hb, fun c nc => ?_⟩
      rw [List.reverse_reverse]
      refine ⟨c, _, rfl, .inl ⟨SqL.of upd_same, fun p np => ?_⟩⟩
      exact q _ p (sm.trans ((same_new nc).trans (same_new np))) upd_same
def spSlates : Sp := fun vs H Q _ => ∃ (va sa : Addr) (m : Nat) (z s : List Nat), vs = [.ref va, .ref sa] ∧ At H va z ∧ VOk m z ∧ At H sa s ∧ SOk m s ∧ ∀ H' d (T : List (List Nat × Addr)), Same H H' → H' d = some (.dT (ent V.ref T)) → T.length ≤ 121 → Q (.ref d) H'
theorem scSlates : FnScope ["_law_values_here", "_law_slate", "_law_found", "_law_rim", "_law_later", "_law_here", "_law_letter", "_law_more"] ["_law_values_here", "_law_slate"] (defScope sSlates) := ⟨rfl, rfl, rfl, by decide +kernel, rfl, by decide +kernel, by decide +kernel⟩
theorem ok_slates {f : Addr} {fd : FuncData} (F : Fun K "_law_slates" "_law_slates" sSlates f fd) (T : Txt mg) (hS : Has P w K mg base 1 "_law_write" ["_law_values_here", "_law_slate", "_law_word_here"] spWrite) : FnOk P w K mg base CX0 2 f fd ["_law_values_here", "_law_slate"] spSlates := by
  refine F.ok scSlates (fun vs H Q E h => ?_) (fun cdv A outer s H vs Q E hr h => ?_)
  · obtain ⟨va, sa, m, z, sl, rfl, _⟩ := h
    rfl
  · obtain ⟨va, sa, m, z, sl, rfl, hva, hv, hsa, hs, q⟩ := h
    have hu := hu_of hr
    have hu64 := hr.units
    refine ⟨_, pss_cons (ps_par (i := 2) (j := 3) rfl scSlates.nd rfl rfl (by decide) rfl rfl (pa_cons (pe_disp1 hu (pv 1) (pe_tup pa_nil)) (pa_cons (pe_lst (pa_cons (pv 1) pa_nil)) pa_nil)) (by rfl))
      (pss_cons (ps_while PassesOwn.never (pt_cmpR (op_neD hu64) (pv 3) (pe_lst pa_nil) (nomark _))
        (pss_cons (ps_set (i := 4) scSlates.nd rfl (.inl rfl) (pe_lst pa_nil))
        (pss_cons (ps_for PassesOwn.never rfl (pi_list (pv 3)) (pg_name (i := 5) scSlates.nd rfl (.inl rfl))
          (pss_one (ps_for PassesOwn.never rfl (pi_range1 (by rfl) T.range (pa_cons (pe_callB call_len_seq (by rfl) T.len PySem.boot_len (pa_cons (pv 0) pa_nil)) pa_nil)) (pg_name (i := 6) scSlates.nd rfl (.inl rfl))
            (pss_cons (ps_set (i := 7) scSlates.nd rfl (.inl rfl) (hS.pe hr (pa_cons (pv 0) (pa_cons (pv 5) (pa_cons (pe_tup (pa_cons (pv 6) pa_nil)) pa_nil)))))
            (pss_one (ps_if (pt_cmp (pc_dnotin hu (pv 7) (pv 2)))
              (pss_cons (ps_dput hu (pv 2) (pv 7) (pe_op op_catA (pe_dget hu (pv 2) (pv 5) (fun _ _ => rfl)) (pe_tup (pa_cons (pv 6) pa_nil))) rfl)
              (pss_one (ps_expr (pe_bm PySem.F.plainAttrs_list PySem.F.slot_list_append PySem.F.type_list_append mt_append (pv 4) (pa_cons (pv 7) pa_nil)))))
              pss_nil))))))
        (pss_one (ps_set (i := 3) scSlates.nd rfl (.inl rfl) (pv 4))))))
      (pss_one (ps_ret (pv 2)))), ?_⟩
    have hm3 := hv.m3
    have hm1 := hv.m1
    refine fun d nd => ⟨_, rfl, Nat.zero_le _, fun e ne => ⟨?_, kn sl, sa, rfl, ?_, ?_⟩⟩
    · rw [upd_ne (fun y : d = e => by rw [← y, upd_same] at ne; cases ne), upd_same]
    · exact ((same_new (o := .tup []) ne) _ _ ((same_new (o := .dT []) nd) _ _ hsa.key))
    have s0 : Same H (upd (upd H d (.dT [])) e (.tup [])) := (same_new nd).trans (same_new ne)
    have s1 : Same H (upd (upd (upd H d (.dT [])) e (.tup [])) d (.dT [(kn sl, V.ref e)])) := same_upd0 s0 nd
    have ned : e ≠ d := fun y => by rw [y, upd_same] at ne; cases ne
    refine ⟨_, rfl, by show 1 ≤ sizeLine; decide, fun r nr => ⟨_, _, rfl, ?_⟩⟩
    have nr0 : H r = none := s1.free nr
    have R0 : Rnd m H (upd (upd (upd (upd H d (.dT [])) e (.tup [])) d (.dT [(kn sl, V.ref e)])) r (.lst [V.ref sa])) d r [(sa, sl)] [(sl, e)] := by
      refine ⟨s1.trans (same_new nr), by simp, fun t ht => ?_, fun t ht => ⟨[], ?_, Nat.zero_le _⟩, ?_, upd_same, fun x hx => ?_⟩
      · rw [List.mem_singleton.mp ht]; exact hs
      · rw [List.mem_singleton.mp ht]
        refine (same_new nr) _ _ ?_
        show upd _ d _ e = _
        rw [upd_ne ned, upd_same]
        rfl
      · rw [(same_new nr) _ _ upd_same]
        rfl
      · rw [List.mem_singleton.mp hx]
        exact ⟨(s1.trans (same_new nr)) _ _ hsa, hs, by simp [aget]⟩
    refine ⟨fun μ σ H' => ∃ (T : List (List Nat × Addr)) (R : List (Addr × List Nat)) (r : Addr) (v5 v6 v7 v8 : Option V), σ = [some (.ref va), some (.ref sa), some (.ref d), some (.ref r), v5, v6, v7, v8] ∧ H r = none ∧ Rnd m H H' d r R T ∧ μ = msr R T,
      ⟨_, _, _, r, _, _, _, _, rfl, nr0, R0, rfl⟩, ?_⟩
    rintro μ σ H' ⟨T0, R, r, v5, v6, v7, v8, rfl, nr, B, rfl⟩
    refine ⟨_, rfl, Nat.zero_le _, fun p np => ?_⟩
    have sp := same_new (o := .lst []) np
    have B1 := B.same sp
    refine ⟨_, _, dp_list B1.rr (fun x hx => (B1.rk x hx).1), .lst (SqL.of upd_same) .nil, shaped_dts _, by rfl, _, rfl, ?_⟩
    rw [eqv_nil]
    cases hR : (R.map (·.2)).isEmpty with
    | true => exact iteF ⟨_, rfl, q _ _ T0 B1.sm B1.dd (K62.few hm3 B1.nd B1.ok)⟩
    | false =>
      have hRe : R.isEmpty = false := by
        cases R with
        | nil => simp at hR
        | cons x R => rfl
      refine iteT ⟨fun σ' H'' => ∃ (T : List (List Nat × Addr)) (L : List (Addr × List Nat)) (l : Addr) (v5 v6 v7 v8 : Option V), σ' = [some (.ref va), some (.ref sa), some (.ref d), some (.ref l), v5, v6, v7, v8] ∧ H l = none ∧ Rnd m H H'' d l L T ∧ msr L T < msr R T0,
        fun σ' H'' ⟨T, L, l, a5, a6, a7, a8, e, n, B', h⟩ => ⟨_, h, T, L, l, a5, a6, a7, a8, e, n, B', rfl⟩, ?_⟩
      refine ⟨Nat.zero_le _, fun l nl => ?_⟩
      have nl0 : H l = none := B1.sm.free nl
      have rl : r ≠ l := ne_of_none B1.rr nl
      have C0 := B1.open nl
      refine ⟨_, rfl, r, rfl, ⟨_, SqL.of C0.rr⟩, for_list (K := K) (a := r) (xs := R.map fun x => V.ref x.1) (fun i σ' H'' => ∃ (T : List (List Nat × Addr)) (L : List (Addr × List Nat)) (v6 v7 v8 : Option V), σ' = [some (.ref va), some (.ref sa), some (.ref d), some (.ref r), some (.ref l), v6, v7, v8] ∧ Bfs m H H'' d r l T0.length R T L)
        ⟨_, _, _, _, _, rfl, C0⟩ (fun i σ' H'' _ ⟨_, _, _, _, _, _, C⟩ => SqL.of C.rr) ?_ ?_⟩
      · rintro i x σ' H2 hi ⟨T1, L1, a6, a7, a8, rfl, C⟩
        obtain ⟨⟨ha, hk⟩, hx, rfl⟩ : ∃ y : Addr × List Nat, R[i]? = some y ∧ V.ref y.1 = x := by
          rw [List.getElem?_map] at hi
          cases e : R[i]? with
          | none => rw [e] at hi; cases hi
          | some y => rw [e] at hi; exact ⟨y, rfl, Option.some.inj hi⟩
        have hmem : (ha, hk) ∈ R := List.mem_of_getElem? hx
        refine ⟨_, rfl, va, _, rfl, .inr (SqT.of (C.sm _ _ hva)), (m : Int), ?_, by omega, by omega, ?_⟩
        · rw [tn_len, hv.len]
        refine for_range (lo := 0) (n := m) (fun j σ' H'' => ∃ (T : List (List Nat × Addr)) (L : List (Addr × List Nat)) (v7 v8 : Option V), σ' = [some (.ref va), some (.ref sa), some (.ref d), some (.ref r), some (.ref l), some (.ref ha), v7, v8] ∧ Bfs m H H'' d r l T0.length R T L)
          ⟨_, _, _, _, rfl, C⟩ ?_ ?_
        · rintro j σ' H3 hj ⟨T2, L2, b7, b8, rfl, C2⟩
          obtain ⟨hat, hok, hin⟩ := C2.rk _ hmem
          have ej : (0 : Int) + (j : Nat) = (j : Int) := Int.zero_add _
          rw [ej]
          refine ⟨_, rfl, _, rfl, _, rfl, by show 1 ≤ sizeLine; decide, fun t0 nt0 => ?_⟩
          have s3 := same_new (o := .tup [.int (j : Int)]) nt0
          refine ⟨va, ha, t0, m, z, hk, [j], rfl, s3.at (C2.sm _ _ hva), hv, s3.at hat, hok, upd_same, fun x hx => by rw [List.mem_singleton.mp hx]; exact hj, fun H4 q' s4' hq => ?_⟩
          have s4 := s3.trans s4'
          have hq : At H4 q' (stp z hk j) := hq
          have C3 := C2.same s4
          have hkk : SOk m (stp z hk j) := hok.stp hv hj
          refine ⟨_, rfl, _, rfl, d, _, rfl, DGet.t C3.dd hq.key, _, rfl, ?_⟩
          rw [ent_val]
          cases hg : aget T2 (stp z hk j) with
          | some a0 => exact iteF ⟨T2, L2, _, _, rfl, C3⟩
          | none =>
            refine iteT ?_
            have hat3 := s4.at hat
            obtain ⟨a0, hg0⟩ := Option.isSome_iff_exists.mp hin
            obtain ⟨u, hu1, hu2⟩ := C3.wd _ (aget_mem hg0)
            have few := C3.few hm3
            refine ⟨_, rfl, _, rfl, d, .ref a0, rfl, ?_, ?_⟩
            · have := DGet.t C3.dd hat3.key
              rw [ent_val, hg0] at this
              exact this
            refine ⟨_, rfl, by show 1 ≤ sizeLine; decide, fun t nt => ?_⟩
            have s5 := same_new (o := .tup [.int (j : Int)]) nt
            refine cat_at (u := u) (v := [j]) (s5.at hu1) upd_same (by show u.length + 1 ≤ 1000; omega) fun b H5 s6 hb => ?_
            have C4 := C3.same (s5.trans s6)
            have hq4 := (s5.trans s6).at hq
            refine ⟨_, rfl, _, rfl, d, _, rfl, DPut.t C4.dd hq4.key (by rw [ent_len]; exact small1000 (by omega)), ?_⟩
            rw [ent_put]
            have dl : l ≠ d := ne_of C4.ll C4.dd (fun z => nomatch z)
            have C5 := C4.add nd nl0 rl hq4 hkk hg hb (by rw [List.length_append]; show u.length + 1 ≤ _; omega)
            have hL : (upd H5 d (.dT (ent V.ref (aput T2 (stp z hk j) b)))) l = some (.lst (L2.map fun x => V.ref x.1)) := by rw [upd_ne dl]; exact C4.ll
            have lf : L2.length ≤ 121 := by have := C4.ln; omega
            refine ⟨_, rfl, .inl ⟨rfl, _, SqL.of hL⟩, _, rfl, l, _, _, rfl, rfl, hL, by rw [List.length_map]; exact small1000 (by omega), ?_⟩
            refine ⟨aput T2 (stp z hk j) b, L2 ++ [(q', stp z hk j)], _, _, rfl, ?_⟩
            rw [List.map_append] at C5
            exact C5
        · rintro σ' H3 ⟨T2, L2, b7, b8, rfl, C2⟩
          exact ⟨T2, L2, _, _, _, rfl, C2⟩
      · rintro σ' H2 ⟨T1, L1, a6, a7, a8, rfl, C⟩
        exact ⟨_, rfl, T1, L1, l, _, _, _, _, rfl, nl0, C.close, C.less hm3 hRe⟩
end
end K62
/-! the law's own list of words, and its comparison: _law_words, _law_alike. -/
namespace K62
open PySem PySem.Spec PyProof.Rows L2
theorem ref_at {R : List (Addr × List Nat)} {i : Nat} {x : V} (hi : (R.map fun x => V.ref x.1)[i]? = some x) : ∃ y : Addr × List Nat, R[i]? = some y ∧ V.ref y.1 = x := by
  rw [List.getElem?_map] at hi
  cases e : R[i]? with
  | none => rw [e] at hi; cases hi
  | some y => rw [e] at hi; exact ⟨y, rfl, Option.some.inj hi⟩
theorem pow_small {m i : Nat} (hm : m ≤ 3) (hi : i ≤ 5) : m ^ i ≤ 243 := Nat.le_trans (Nat.pow_le_pow_left hm i) (Nat.le_trans (Nat.pow_le_pow_right (by decide) hi) (by decide))
theorem flat_len (m : Nat) : ∀ ws : List (List Nat), (ws.flatMap fun w => (List.range m).map fun l => w ++ [l]).length = ws.length * m
  | [] => (Nat.zero_mul _).symm
  | w :: ws => by rw [List.flatMap_cons, List.length_append, flat_len m ws, List.length_map, List.length_range, List.length_cons, Nat.succ_mul, Nat.add_comm]
section
variable {P : Program} {w : World} {K : PySem.W.Frag} {mg : Str → Option Value} {base : Heap}
def spWords : Sp := fun vs H Q _ => ∃ m n : Nat, vs = [.int (m : Int), .int (n : Int)] ∧ m ≤ 3 ∧ n ≤ 5 ∧ ∀ H' l (R : List (Addr × List Nat)), Same H H' → Ls H' l R → R.map (·.2) = words m n → (∀ x ∈ R, At H' x.1 x.2) → Q (.ref l) H'
theorem scWords : FnScope ["_law_many", "_law_length", "_law_found", "_law_turn", "_law_longer", "_law_word_here", "_law_letter"] ["_law_many", "_law_length"] (defScope sWords) := ⟨rfl, rfl, rfl, by decide +kernel, rfl, by decide +kernel, by decide +kernel⟩
theorem ok_words {f : Addr} {fd : FuncData} (F : Fun K "_law_words" "_law_words" sWords f fd) (T : Txt mg) : FnOk P w K mg base CX0 1 f fd ["_law_many", "_law_length"] spWords := by
  refine F.ok scWords (fun vs H Q E h => ?_) (fun cdv A outer s H vs Q E hr h => ?_)
  · obtain ⟨m, n, rfl, _⟩ := h
    rfl
  · obtain ⟨m, n, rfl, hm, hn, q⟩ := h
    refine ⟨_, pss_cons (ps_set (i := 2) scWords.nd rfl (.inl rfl) (pe_lst (pa_cons (pe_tup pa_nil) pa_nil)))
      (pss_cons (ps_for PassesOwn.never rfl (pi_range1 (by rfl) T.range (pa_cons (pv 1) pa_nil)) (pg_name (i := 3) scWords.nd rfl (.inl rfl))
        (pss_cons (ps_set (i := 4) scWords.nd rfl (.inl rfl) (pe_lst pa_nil))
        (pss_cons (ps_for PassesOwn.never rfl (pi_list (pv 2)) (pg_name (i := 5) scWords.nd rfl (.inr rfl))
          (pss_one (ps_set (i := 4) scWords.nd rfl (.inl rfl) (pe_op op_cat (pv 4)
            (pe_lc (own := [("_law_letter", 6)]) (g := gName 6) (tt := tYes) rfl scWords.nd (pi_range1 (by rfl) T.range (pa_cons (pv 0) pa_nil))
              (blkOk_by (N := ["_law_many", "_law_length", "_law_found", "_law_turn", "_law_longer", "_law_word_here", "_law_letter"]) (sc := defScope sWords) (by decide +kernel)) (fun _ _ _ _ _ => pg_name (i := 6) scWords.nd rfl (Or.inl rfl)) (fun _ _ _ _ _ => pts_nil)
              (fun _ _ _ _ _ => pe_op (r := rCatA K) op_catA (pv 5) (pe_tup (pa_cons (pv 6) pa_nil))))))))
        (pss_one (ps_set (i := 2) scWords.nd rfl (.inl rfl) (pv 4))))))
      (pss_one (ps_ret (pv 2)))), ?_⟩
    refine ⟨Nat.zero_le _, fun e ne => ⟨by show 1 ≤ sizeLine; decide, fun r nr => ?_⟩⟩
    have s1 := same_new (o := .tup []) ne
    have s2 := same_new (o := .lst [.ref e]) nr
    refine ⟨_, rfl, (n : Int), rfl, by omega, by omega, ?_⟩
    rw [show ((n : Int)).toNat = n by omega]
    refine for_range (lo := 0) (n := n) (fun i σ H' => ∃ (R : List (Addr × List Nat)) (r : Addr) (v3 v4 v5 v6 : Option V), σ = [some (.int (m : Int)), some (.int (n : Int)), some (.ref r), v3, v4, v5, v6] ∧ Same H H' ∧ Ls H' r R ∧ R.map (·.2) = words m i ∧ ∀ x ∈ R, At H' x.1 x.2)
      ⟨[(e, [])], r, _, _, _, _, rfl, s1.trans s2, upd_same, rfl, fun x hx => by rw [List.mem_singleton.mp hx]; exact s2 _ _ upd_same⟩ ?_ ?_
    · rintro i σ H' hi ⟨R, r, v3, v4, v5, v6, rfl, sm, hrr, hRw, hRa⟩
      refine ⟨Nat.zero_le _, fun l0 nl0 => ?_⟩
      have s3 := same_new (o := .lst []) nl0
      refine ⟨_, rfl, r, rfl, ⟨_, SqL.of (s3 _ _ hrr)⟩, for_list (K := K) (a := r) (xs := R.map fun x => V.ref x.1) (fun j σ H' => ∃ (L : List (Addr × List Nat)) (l : Addr) (v5 v6 : Option V), σ = [some (.int (m : Int)), some (.int (n : Int)), some (.ref r), some (.int (0 + (i : Nat))), some (.ref l), v5, v6] ∧ Same H H' ∧ Ls H' r R ∧ (∀ x ∈ R, At H' x.1 x.2) ∧ Ls H' l L ∧
          L.map (·.2) = ((words m i).take j).flatMap (fun w => (List.range m).map fun l => w ++ [l]) ∧ ∀ x ∈ L, At H' x.1 x.2)
        ⟨[], l0, _, _, rfl, sm.trans s3, s3 _ _ hrr, fun x hx => s3.at (hRa x hx), upd_same, rfl, fun x hx => (nomatch hx)⟩ (fun j σ H' _ ⟨_, _, _, _, _, _, h, _⟩ => SqL.of h) ?_ ?_⟩
      · rintro j x σ H2 hj ⟨L, l, v5, v6, rfl, sm2, hrr2, hRa2, hll, hLw, hLa⟩
        obtain ⟨⟨ha, u⟩, hx, rfl⟩ := ref_at hj
        have hu2 : At H2 ha u := hRa2 _ (List.mem_of_getElem? hx)
        have hwu : (words m i)[j]? = some u := by
          rw [← hRw, List.getElem?_map, hx]
          rfl
        have hul := (words_len m i u (List.mem_of_getElem? hwu)).1
        refine ⟨_, rfl, _, rfl, (m : Int), rfl, by omega, by omega, fun D nD => ?_⟩
        have s4 := same_new (o := .lst []) nD
        rw [show ((m : Int)).toNat = m by omega]
        refine lc_range (lo := 0) (n := m) (fun k H3 => ∃ Az : List (Addr × List Nat), Same H2 H3 ∧ Ls H3 D Az ∧ Az.map (·.2) = (List.range k).map (fun lx => u ++ [lx]) ∧ ∀ x ∈ Az, At H3 x.1 x.2)
          ⟨[], s4, upd_same, rfl, fun x hx => (nomatch hx)⟩ ?_ ?_
        · rintro k H3 hk ⟨Az, s5, hD, hAw, hAa⟩
          rw [show (0 : Int) + (k : Nat) = (k : Int) from Int.zero_add _]
          refine ⟨rfl, _, rfl, _, rfl, by show 1 ≤ sizeLine; decide, fun t nt => ?_⟩
          have s6 := same_new (o := .tup [.int (k : Int)]) nt
          refine cat_at (u := u) (v := [k]) (s6.at (s5.at hu2)) upd_same (by show u.length + 1 ≤ 1000; omega) fun p H4 s7 hp => ?_
          have s67 := s6.trans s7
          have hD4 := s67 _ _ hD
          have al : Az.length = k := by
            have := congrArg List.length hAw
            rwa [List.length_map, List.length_map, List.length_range] at this
          refine ⟨_, hD4, by rw [List.length_map]; exact small1000 (by omega), Az ++ [(p, u ++ [k])], same_upd0 (s5.trans s67) nD, ?_, ?_, fun x hx => ?_⟩
          · show upd _ D _ D = _
            rw [upd_same, List.map_append]
            rfl
          · rw [List.map_append, hAw, List.range_succ, List.map_append]
            rfl
          · have kp : Keep H4 (upd H4 D (.lst ((Az.map fun x => V.ref x.1) ++ [V.ref p]))) := keep_upd fun xs y => by rw [hD4] at y; cases y
            rcases List.mem_append.mp hx with hx | hx
            · exact kp _ _ (s67.at (hAa x hx))
            · rw [List.mem_singleton.mp hx]
              exact kp _ _ hp
        · rintro H3 ⟨Az, s5, hD, hAw, hAa⟩
          have ll : L.length ≤ 243 := by
            have h1 := congrArg List.length hLw
            rw [List.length_map, flat_len, List.length_take, words_count] at h1
            have h2 : min j (m ^ i) * m ≤ m ^ i * m := Nat.mul_le_mul_right m (Nat.min_le_right _ _)
            have h3 : m ^ (i + 1) ≤ 243 := pow_small hm (by omega)
            rw [Nat.pow_succ] at h3
            omega
          have al : Az.length = m := by
            have := congrArg List.length hAw
            rwa [List.length_map, List.length_map, List.length_range] at this
          refine ⟨l, D, _, _, rfl, rfl, s5 _ _ hll, hD, by rw [List.length_map, List.length_map]; exact Nat.le_of_lt (small1000 (by omega)), fun p np => ?_⟩
          have s8 := same_new (o := .lst ((L.map fun x => V.ref x.1) ++ (Az.map fun x => V.ref x.1))) np
          have s58 := s5.trans s8
          refine ⟨L ++ Az, p, _, _, rfl, sm2.trans s58, s58 _ _ hrr2, fun x hx => s58.at (hRa2 x hx), ?_, ?_, fun x hx => ?_⟩
          · show upd _ p _ p = _
            rw [upd_same, List.map_append]
          · rw [List.map_append, hLw, hAw, List.take_add_one, hwu, List.flatMap_append]
            show _ = _ ++ [u].flatMap _
            rw [List.flatMap_cons, List.flatMap_nil, List.append_nil]
          · rcases List.mem_append.mp hx with hx | hx
            · exact s58.at (hLa x hx)
            · exact s8.at (hAa x hx)
      · rintro σ H2 ⟨L, l, v5, v6, rfl, sm2, hrr2, hRa2, hll, hLw, hLa⟩
        refine ⟨_, rfl, L, l, _, _, _, _, rfl, sm2, hll, ?_, hLa⟩
        have e : (R.map fun x => V.ref x.1).length = (words m i).length := by rw [List.length_map, ← hRw, List.length_map]
        rw [hLw, e, List.take_length]
        rfl
    · rintro σ H' ⟨R, r, v3, v4, v5, v6, rfl, sm, hrr, hRw, hRa⟩
      exact ⟨_, rfl, q H' r R sm hrr hRw hRa⟩
end
end K62
/-! the law's comparison: _law_alike. -/
namespace K62
open PySem PySem.Spec PyProof.Rows L2
/-- both the same number, or both None -/
def Sc (x y : V) : Prop := (∃ i, x = .int i ∧ y = .int i) ∨ (x = .non ∧ y = .non)
/-- alike down to a depth -/
def Alk (H : Hp) : Nat → V → V → Prop
  | 0, _, _ => False
  | k + 1, x, y => Sc x y ∨ ∃ a b xs ys, x = .ref a ∧ y = .ref b ∧ H a = some (.tup xs) ∧ H b = some (.tup ys) ∧ xs.length = ys.length ∧ xs.length ≤ 100 ∧ ∀ (i : Nat) u v, xs[i]? = some u → ys[i]? = some v → Alk H k u v
theorem Alk.same {H H' : Hp} (s : Same H H') : ∀ {k : Nat} {x y : V}, Alk H k x y → Alk H' k x y
  | 0, _, _, h => h.elim
  | k + 1, x, y, h => by
    rcases h with h | ⟨a, b, xs, ys, e1, e2, h1, h2, h3, h4, h5⟩
    · exact .inl h
    · exact .inr ⟨a, b, xs, ys, e1, e2, s _ _ h1, s _ _ h2, h3, h4, fun i u v hu hv => Alk.same s (h5 i u v hu hv)⟩
theorem alk_word {H : Hp} {a b : Addr} {u : List Nat} (k : Nat) (ha : At H a u) (hb : At H b u) (hl : u.length ≤ 100) : Alk H (k + 2) (.ref a) (.ref b) := by
  refine .inr ⟨a, b, _, _, rfl, rfl, ha, hb, rfl, by rw [tn_len]; exact hl, fun i x y hx hy => .inl (.inl ?_)⟩
  rw [hx] at hy
  cases hy
  unfold tn at hx
  rw [List.getElem?_map] at hx
  cases e : u[i]? with
  | none => rw [e] at hx; cases hx
  | some n => rw [e] at hx; exact ⟨_, (Option.some.inj hx).symm, (Option.some.inj hx).symm⟩
/-- a tuple or a scalar -/
def Knd (b : Bool) (H : Hp) (v : V) : Prop := (b = true ∧ ∃ a xs, v = .ref a ∧ H a = some (.tup xs)) ∨ (b = false ∧ ((∃ i, v = .int i) ∨ v = .non))
def kndT : Bool → V → String
  | true, _ => "tuple"
  | false, .non => "NoneType"
  | false, _ => "int"
theorem Knd.ty {K : PySem.W.Frag} {H : Hp} {b : Bool} {v : V} (h : Knd b H v) : TyX K H v (.type (kndT b v)) := by
  rcases h with ⟨rfl, a, xs, rfl, ha⟩ | ⟨rfl, ⟨i, rfl⟩ | rfl⟩
  · exact .base (.tup ha)
  · exact .base (.int i)
  · exact .base .non
theorem Knd.same {H H' : Hp} {b : Bool} {v : V} (s : Same H H') (h : Knd b H v) : Knd b H' v := by
  rcases h with ⟨rfl, a, xs, rfl, ha⟩ | h
  · exact .inl ⟨rfl, a, xs, rfl, s _ _ ha⟩
  · exact .inr h
theorem kit_any2 {K : PySem.W.Frag} (b : Bool) {v : V} {H : Hp} (h : Knd b H v) : PySem.W.kitAny K (.type (kndT b v)) [.type "tuple", .type "list"] = some b := by
  have k1 : PySem.W.kitOne K (.type "tuple") (.type "tuple") = some true := kit_ty (by decide +kernel)
  have k2 : PySem.W.kitOne K (.type "int") (.type "tuple") = some false := kit_ty (by decide +kernel)
  have k3 : PySem.W.kitOne K (.type "int") (.type "list") = some false := kit_ty (by decide +kernel)
  have k4 : PySem.W.kitOne K (.type "NoneType") (.type "tuple") = some false := kit_ty (by decide +kernel)
  have k5 : PySem.W.kitOne K (.type "NoneType") (.type "list") = some false := kit_ty (by decide +kernel)
  rcases h with ⟨rfl, a, xs, rfl, ha⟩ | ⟨rfl, ⟨i, rfl⟩ | rfl⟩
  · show PySem.W.kitAny K (.type "tuple") [.type "tuple", .type "list"] = _
    unfold PySem.W.kitAny
    rw [k1]
  · show PySem.W.kitAny K (.type "int") [.type "tuple", .type "list"] = _
    unfold PySem.W.kitAny
    rw [k2]
    unfold PySem.W.kitAny
    rw [k3]
    rfl
  · show PySem.W.kitAny K (.type "NoneType") [.type "tuple", .type "list"] = _
    unfold PySem.W.kitAny
    rw [k4]
    unfold PySem.W.kitAny
    rw [k5]
    rfl
section
variable {X : Cx}
def tIs2 (i : Nat) : TE := fun σ H Q => ∃ v b, σ[i]? = some (some v) ∧ Knd b H v ∧ ∀ H', Same H H' → Q (.bl b) H'
theorem pe_is2 {i : Nat} {e : Expr} {p1 p2 p3 p4 pos : Pos} {k : Nat} (T : Txt X.mg) (he : PE X e (tVar i)) (g1 : Gl X "isinstance" := by rfl) (g2 : Gl X "tuple" := by rfl) (g3 : Gl X "list" := by rfl)
    (hs : starEach [e, .Tuple [.Name "tuple" p2, .Name "list" p3] k p4] X.env = (false, eval e X.env) :: starEach [.Tuple [.Name "tuple" p2, .Name "list" p3] k p4] X.env := by rfl) :
    PE X (.Call (.Name "isinstance" p1) [e, .Tuple [.Name "tuple" p2, .Name "list" p3] k p4] [] pos) (tIs2 i) := by
  refine PE_imp (pe_callB (he := hs) call_isiT g1 T.isi (by decide +kernel) (pa_cons he (pa_cons (pe_tup (pa_cons (pe_bltn (v := .ty "tuple") g2 T.tuple (by decide +kernel) rfl) (pa_cons (pe_bltn (v := .ty "list") g3 T.list (by decide +kernel) rfl) pa_nil))) pa_nil) hs)) ?_
  rintro σ H Q ⟨v, b, e0, hk, q⟩
  refine ⟨v, e0, by show 2 ≤ sizeLine; decide, fun p np => ?_⟩
  have s := same_new (o := .tup [.ty "tuple", .ty "list"]) np
  exact ⟨v, p, _, .type (kndT b v), [.type "tuple", .type "list"], b, rfl, upd_same, .cons (.ty _) (.cons (.ty _) .nil), (hk.same s).ty, kit_any2 b hk, q _ s⟩
def tIs1 (i : Nat) (N : String) : TE := fun σ H Q => ∃ v b r, σ[i]? = some (some v) ∧ Knd b H v ∧ kitB (kndT b v) N = some r ∧ Q (.bl r) H
theorem pe_is1 {i : Nat} {e : Expr} {x : Str} {N : String} {p1 p2 pos : Pos} (T : Txt X.mg) (he : PE X e (tVar i)) (hx : X.mg x = none) (hb : bootBuiltins x = some (.type N)) (g1 : Gl X "isinstance" := by rfl) (g2 : Gl X x := by rfl)
    (hn : x ≠ "__name__" := by decide) (hd : (x == ("__debug__" : Str)) = false := by decide)
    (hs : starEach [e, .Name x p2] X.env = (false, eval e X.env) :: starEach [.Name x p2] X.env := by rfl) (hs2 : starEach [.Name x p2] X.env = (false, eval (.Name x p2) X.env) :: starEach [] X.env := by rfl) :
    PE X (.Call (.Name "isinstance" p1) [e, .Name x p2] [] pos) (tIs1 i N) := by
  refine PE_imp (pe_callB (he := hs) call_isi g1 T.isi (by decide +kernel) (pa_cons he (pa_cons (pe_bltn (v := .ty N) g2 hx hb rfl hn hd) pa_nil hs2) hs)) ?_
  rintro σ H Q ⟨v, b, r, e0, hk, hr, q⟩
  exact ⟨v, e0, v, _, .type (kndT b v), _, r, rfl, .ty _, hk.ty, kit_ty hr, q⟩
end
section
variable {P : Program} {w : World} {K : PySem.W.Frag} {mg : Str → Option Value} {base : Heap}
def spAlike (k : Nat) : Sp := fun vs H Q _ => ∃ x y, vs = [x, y] ∧ Alk H k x y ∧ ∀ H', Same H H' → Q (.bl true) H'
theorem scAlike : FnScope ["_law_found", "_law_due", "_law_k"] ["_law_found", "_law_due"] (defScope sAlike) := ⟨rfl, rfl, rfl, by decide +kernel, rfl, by decide +kernel, by decide +kernel⟩
theorem ok_alike {f : Addr} {fd : FuncData} {k j : Nat} (F : Fun K "_law_alike" "_law_alike" sAlike f fd) (T : Txt mg) (hA : Has P w K mg base k "_law_alike" ["_law_found", "_law_due"] (spAlike j)) : FnOk P w K mg base CX0 (k + 1) f fd ["_law_found", "_law_due"] (spAlike (j + 1)) := by
  refine F.ok scAlike (fun vs H Q E h => ?_) (fun cdv A outer s H vs Q E hr h => ?_)
  · obtain ⟨x, y, rfl, _⟩ := h
    rfl
  · obtain ⟨x, y, rfl, hxy, q⟩ := h
    have hu64 := hr.units
    refine ⟨_, pss_cons (ps_if (pt_val (pe_is2 T (pv 1)))
        (pss_cons (ps_if (PW.pt (pw_or (pt_not (pt_val (pe_is2 T (pv 0)))) (pw_or1 (pt_cmpR op_ne (pe_is1 (N := "list") T (pv 0) T.list (by decide +kernel)) (pe_is1 (N := "list") T (pv 1) T.list (by decide +kernel)) (nomark _))))) (pss_one ps_never) pss_nil)
        (pss_cons (ps_if (pt_cmpR op_ne (pe_callB call_len_seq (by rfl) T.len PySem.boot_len (pa_cons (pv 0) pa_nil)) (pe_callB call_len_seq (by rfl) T.len PySem.boot_len (pa_cons (pv 1) pa_nil)) (nomark _)) (pss_one ps_never) pss_nil)
        (pss_one (ps_ret (pe_cmpR (op_eqD hu64)
          (pe_lc (own := [("_law_k", 2)]) (g := gName 2) rfl scAlike.nd (pi_range1 (by rfl) T.range (pa_cons (pe_callB call_len_seq (by rfl) T.len PySem.boot_len (pa_cons (pv 1) pa_nil)) pa_nil))
            (blkOk_by (N := ["_law_found", "_law_due", "_law_k"]) (sc := defScope sAlike) (by decide +kernel)) (fun _ _ _ _ _ => pg_name (i := 2) scAlike.nd rfl (Or.inl rfl))
            (fun _ _ _ _ _ => pts_one (pt_not (pt_val (hA.pe hr (pa_cons (pe_ix (r := rIxT K) ix_tup (pv 0) (pv 2) (fun _ _ => rfl)) (pa_cons (pe_ix (r := rIxT K) ix_tup (pv 1) (pv 2) (fun _ _ => rfl)) pa_nil)) (Nat.le_refl _)))))
            (fun _ _ _ _ _ => pv 2)) (pe_lst pa_nil) (nomark _))))))
        pss_nil)
      (pss_cons (ps_if (PW.pt (pw_or (pt_cmp (pc_isN (pv 1))) (pw_or1 (pt_val (pe_is1 (N := "str") T (pv 1) T.str (by decide +kernel))))))
        (pss_one (ps_ret (pe_and (pe_cmpR op_eq (pv 0) (pv 1) (nomark _)) (pe_one (pe_cmpR op_eq (pe_is1 (N := "str") T (pv 0) T.str (by decide +kernel)) (pe_is1 (N := "str") T (pv 1) T.str (by decide +kernel)) (nomark _)))))) pss_nil)
      (pss_one (ps_ret (pe_and (pe_is1 (N := "int") T (pv 0) T.int (by decide +kernel)) (pe_and (pe_cmpR op_eq (pe_is1 (N := "bool") T (pv 0) T.bool (by decide +kernel)) (pe_is1 (N := "bool") T (pv 1) T.bool (by decide +kernel)) (nomark _)) (pe_one (pe_cmpR op_eq (pv 0) (pv 1) (nomark _)))))))), ?_⟩
    rcases hxy with (⟨i, rfl, rfl⟩ | ⟨rfl, rfl⟩) | ⟨a, b, xs, ys, rfl, rfl, ha, hb, hl, hl100, hall⟩
    · have kx : ∀ H, Knd false H (.int i) := fun H => .inr ⟨rfl, .inl ⟨i, rfl⟩⟩
      refine ⟨_, false, rfl, kx _, fun H1 s1 => ⟨false, rfl, iteF ?_⟩⟩
      refine ⟨_, rfl, false, rfl, iteF ⟨_, false, false, rfl, kx _, show kitB "int" "str" = some false by decide +kernel, false, rfl, iteF ?_⟩⟩
      refine ⟨_, false, true, rfl, kx _, show kitB "int" "int" = some true by decide +kernel, true, rfl, iteT ?_⟩
      refine ⟨_, false, false, rfl, kx _, show kitB "int" "bool" = some false by decide +kernel, _, false, false, rfl, kx _, show kitB "int" "bool" = some false by decide +kernel, rfl, true, rfl, iteT ?_⟩
      refine ⟨_, rfl, _, rfl, rfl, ?_⟩
      rw [decide_eq_true rfl]
      exact q H1 s1
    · have kx : ∀ H, Knd false H .non := fun H => .inr ⟨rfl, .inr rfl⟩
      refine ⟨_, false, rfl, kx _, fun H1 s1 => ⟨false, rfl, iteF ?_⟩⟩
      refine ⟨_, rfl, true, rfl, iteT (iteT ?_)⟩
      refine ⟨_, rfl, _, rfl, rfl, true, rfl, iteT ?_⟩
      refine ⟨_, false, false, rfl, kx _, by decide +kernel, _, false, false, rfl, kx _, by decide +kernel, rfl, ?_⟩
      exact q H1 s1
    · have ka : ∀ H1, Same H H1 → Knd true H1 (.ref a) := fun H1 s1 => .inl ⟨rfl, a, xs, rfl, s1 _ _ ha⟩
      have kb : ∀ H1, Same H H1 → Knd true H1 (.ref b) := fun H1 s1 => .inl ⟨rfl, b, ys, rfl, s1 _ _ hb⟩
      refine ⟨_, true, rfl, kb _ (Same.refl H), fun H1 s1 => ⟨true, rfl, iteT ?_⟩⟩
      refine ⟨_, true, rfl, ka _ s1, fun H2 s2 => ⟨true, rfl, iteF ?_⟩⟩
      have s12 := s1.trans s2
      refine ⟨_, true, false, rfl, ka _ s12, show kitB "tuple" "list" = some false by decide +kernel, _, true, false, rfl, kb _ s12, show kitB "tuple" "list" = some false by decide +kernel, rfl, false, rfl, iteF ?_⟩
      refine ⟨_, rfl, a, xs, rfl, .inr (SqT.of (s12 _ _ ha)), _, rfl, b, ys, rfl, .inr (SqT.of (s12 _ _ hb)), rfl, _, rfl, ?_⟩
      rw [hl, decide_eq_true rfl]
      refine iteF ?_
      refine ⟨_, rfl, b, ys, rfl, .inr (SqT.of (s12 _ _ hb)), (ys.length : Int), rfl, by omega, by omega, fun D nD => ?_⟩
      have s3 := same_new (o := .lst []) nD
      rw [show ((ys.length : Int)).toNat = ys.length by omega]
      refine lc_range (lo := 0) (n := ys.length) (fun i H3 => Same H H3 ∧ H3 D = some (.lst [])) ⟨s12.trans s3, upd_same⟩ ?_ ?_
      · rintro i H3 hi ⟨s4, hD⟩
        rw [show (0 : Int) + (i : Nat) = (i : Int) from Int.zero_add _]
        have hix : xs[i]? = some xs[i] := List.getElem?_eq_getElem (by omega)
        have hiy : ys[i]? = some ys[i] := List.getElem?_eq_getElem hi
        refine ⟨rfl, _, rfl, _, rfl, a, xs, _, _, rfl, rfl, SqT.of (s4 _ _ ha), atI_nat hix, _, rfl, _, rfl, b, ys, _, _, rfl, rfl, SqT.of (s4 _ _ hb), atI_nat hiy, ?_⟩
        refine ⟨_, _, rfl, (hall i _ _ hix hiy).same s4, fun H4 s5 => ⟨true, rfl, iteF ⟨s4.trans s5, s5 _ _ hD⟩⟩⟩
      · rintro H3 ⟨s4, hD⟩
        refine ⟨Nat.zero_le _, fun p np => ?_⟩
        have s5 := same_new (o := .lst []) np
        refine ⟨.list [], .list [], .lst (SqL.of (s5 _ _ hD)) .nil, .lst (SqL.of upd_same) .nil, by rfl, by rfl, ?_⟩
        rw [show PyData.eqv (.list []) (.list []) = true by simp [PyData.eqv, PyData.eqvAll]]
        exact q _ (s4.trans s5)
/-- alike at any small depth -/
theorem has_alike {f : Addr} {fd : FuncData} (F : Fun K "_law_alike" "_law_alike" sAlike f fd) (T : Txt mg) (g : mg "_law_alike" = some (.ref f)) (b : Binds K fd ["_law_found", "_law_due"] []) : ∀ k, Has P w K mg base k "_law_alike" ["_law_found", "_law_due"] (spAlike k)
  | 0 => ⟨f, fd, ⟨fun vs H Q E h => by obtain ⟨_, _, rfl, h, _⟩ := h; exact h.elim, fun _ _ _ _ _ _ _ _ _ _ _ _ _ h => by obtain ⟨_, _, _, h, _⟩ := h; exact h.elim⟩, g, F.kp, b⟩
  | k + 1 => ⟨f, fd, ok_alike F T (has_alike F T g b k), g, F.kp, b⟩
end
end K62
/-! the law. -/
namespace K62
open PySem PySem.Spec PyProof.Rows L2
theorem pn_app (a b : List (Option Nat)) : pn (a ++ b) = pn a ++ pn b := List.map_append
theorem pn_rep (n : Nat) : (List.replicate n [V.non]).flatten = pn (List.replicate n none) := by
  induction n with
  | zero => rfl
  | succ n ih => rw [List.replicate_succ, List.flatten_cons, ih]; rfl
theorem eqv_ints : ∀ a b : List Nat, PyData.eqvAll (a.map fun n : Nat => PyData.int (n : Int)) (b.map fun n : Nat => PyData.int (n : Int)) = decide (a = b)
  | [], [] => by simp [PyData.eqvAll]
  | [], _ :: _ => by simp [PyData.eqvAll]
  | _ :: _, [] => by simp [PyData.eqvAll]
  | x :: xs, y :: ys => by
    rw [List.map_cons, List.map_cons]
    unfold PyData.eqvAll
    rw [eqv_ints xs ys, Bool.eq_iff_iff]
    simp [PyData.eqv]
    intro _
    omega
theorem eqv_dt (a b : List Nat) : PyData.eqv (dt a) (dt b) = decide (a = b) := by
  unfold dt PyData.eqv
  exact eqv_ints a b
theorem fit_lt {m : Nat} : ∀ {r : List (Option Nat)}, (∀ l, some l ∈ r → l < m) → ∀ w ∈ fit m r, ∀ l ∈ w, l < m
  | [], _, w, hw, l, hl => by
    have e : w = [] := by simpa [fit] using hw
    subst e
    exact nomatch hl
  | t :: r, h, w, hw, l, hl => by
    obtain ⟨x, hx, hw⟩ := List.mem_flatMap.mp hw
    obtain ⟨u, hu, rfl⟩ := List.mem_map.mp hw
    rcases List.mem_cons.mp hl with rfl | hl
    · cases t with
      | none => exact List.mem_range.mp hx
      | some a => rw [List.mem_singleton.mp hx]; exact h a List.mem_cons_self
    · exact fit_lt (fun l hl => h l (List.mem_cons_of_mem _ hl)) u hu l hl
theorem fit_len {m : Nat} : ∀ {r : List (Option Nat)}, ∀ w ∈ fit m r, w.length = r.length
  | [], w, hw => by
    have e : w = [] := by simpa [fit] using hw
    rw [e]
    rfl
  | t :: r, w, hw => by
    obtain ⟨x, hx, hw⟩ := List.mem_flatMap.mp hw
    obtain ⟨u, hu, rfl⟩ := List.mem_map.mp hw
    exact congrArg (· + 1) (fit_len u hu)
theorem fill_lt {m : Nat} {r : List (Option Nat)} (h : ∀ l, some l ∈ r → l < m) {f : List Nat} (hf : f ∈ words m (opens r)) : ∀ l ∈ fillin r f, l < m := fun l hl =>
  fit_lt h (fillin r f) (by rw [← fill_fit, ← words_eq]; exact List.mem_map.mpr ⟨f, hf, rfl⟩) l hl
theorem rep_at {K : PySem.W.Frag} {H : Hp} {Q : VK} {t : Addr} {n : Nat} (ht : H t = some (.tup [.non])) (hn : n ≤ 1000) (q : ∀ p H', Same H H' → PAt H' p (List.replicate n none) → Q (.ref p) H') : rRepA K (.ref t) (.int (n : Int)) H Q := by
  refine ⟨t, n, [.non], rfl, rfl, SqT.of ht, by simp, hn, by decide, fun e => ?_, fun _ p np => ?_⟩
  · subst e
    exact q t H (Same.refl H) ht
  · refine q p _ (same_new np) ?_
    show upd H p _ p = _
    rw [upd_same, pn_rep]
section
variable {P : Program} {w : World} {K : PySem.W.Frag} {mg : Str → Option Value} {base : Heap}
def spLaw (K : PySem.W.Frag) : Sp := fun vs H Q _ => ∃ (a : Addr) (ns : List Int), vs = [.ref a] ∧ SqL K H a (ns.map V.int) ∧ ∀ H', Q (.bl true) H'
abbrev nmLaw : List Str := ["_law_script", "_law_row", "_law_values_here", "_law_many", "_law_slate", "_law_word_here", "_law_pattern", "_law_opened", "_law_letter", "_law_is_open", "_law_goal", "_law_due", "_law_fill", "_law_told", "_law_at", "_law_length"]
theorem scLaw : FnScope nmLaw ["_law_script"] (defScope sLaw) := ⟨rfl, rfl, rfl, by decide +kernel, rfl, by decide +kernel, by decide +kernel⟩
theorem ok_law {f : Addr} {fd : FuncData} (F : Fun K "law" "law" sLaw f fd) (T : Txt mg) (hTk : Has P w K mg base 1 "_law_taken" ["_law_row", "_law_many"] (spTaken K)) (hVa : Has P w K mg base 2 "_law_values" ["_law_row", "_law_most", "_law_top"] (spValues K))
    (hWd : Has P w K mg base 2 "_law_word" ["_law_row", "_law_many", "_law_most"] (spWord K)) (hWr : Has P w K mg base 1 "_law_write" ["_law_values_here", "_law_slate", "_law_word_here"] spWrite) (hSl : Has P w K mg base 2 "_law_slates" ["_law_values_here", "_law_slate"] spSlates)
    (hWs : Has P w K mg base 1 "_law_words" ["_law_many", "_law_length"] spWords) (hAl : Has P w K mg base 3 "_law_alike" ["_law_found", "_law_due"] (spAlike 3)) (hFi : Has P w K mg base 5 "filled" ["values", "slate", "pattern", "goal"] spFilled)
    (hNu : Has P w K mg base 5 "number_to" ["values", "slate", "goal", "length"] spNumberTo) : FnOk P w K mg base CX0 6 f fd ["_law_script"] (spLaw K) := by
  refine F.ok scLaw (fun vs H Q E h => ?_) (fun cdv A outer s H vs Q E hr h => ?_)
  · obtain ⟨a, ns, rfl, _⟩ := h
    rfl
  · obtain ⟨a, ns, rfl, hS, q⟩ := h
    have hu := hu_of hr
    have hu64 := hr.units
    refine ⟨_, pss_cons (ps_set (i := 1) scLaw.nd rfl (.inl rfl) (pe_lst (pa_cons (pv 0) (pa_cons pe_int (pa_cons pe_int (pa_cons pe_int pa_nil))))))
      (pss_cons (ps_set (i := 2) scLaw.nd rfl (.inl rfl) (hVa.pe hr (pa_cons (pv 1) (pa_cons pe_int (pa_cons pe_int pa_nil)))))
      (pss_cons (ps_set (i := 3) scLaw.nd rfl (.inl rfl) (pe_callB call_len_seq (by rfl) T.len PySem.boot_len (pa_cons (pv 2) pa_nil)))
      (pss_cons (ps_par (i := 4) (j := 5) rfl scLaw.nd rfl rfl (by decide) rfl rfl (pa_cons (hWd.pe hr (pa_cons (pv 1) (pa_cons (pv 3) (pa_cons pe_int pa_nil)))) (pa_cons (hWd.pe hr (pa_cons (pv 1) (pa_cons (pv 3) (pa_cons pe_int pa_nil)))) pa_nil)) (by rfl))
      (pss_cons (ps_if (pt_cmpR op_gt (pe_callB call_len_dT (by rfl) T.len PySem.boot_len (pa_cons (hSl.pe hr (pa_cons (pv 2) (pa_cons (pv 4) pa_nil))) pa_nil)) pe_int (nomark _)) (pss_one ps_never) pss_nil)
      (pss_cons (ps_par (i := 6) (j := 7) rfl scLaw.nd rfl rfl (by decide) rfl rfl (pa_cons (pe_lst pa_nil) (pa_cons pe_int pa_nil)) (by rfl))
      (C8.pss_cut (ps_for PassesOwn.never rfl (pi_tup (pv 5)) (pg_name (i := 8) scLaw.nd rfl (.inl rfl))
        (C8.pss_cut (ps_set (i := 9) scLaw.nd rfl (.inl rfl) (pe_and (pe_cmpR op_lt (pv 7) pe_int (nomark _)) (pe_one (pe_cmpR op_eq (hTk.pe hr (pa_cons (pv 1) (pa_cons pe_int pa_nil))) pe_int (nomark _)))))
        (pss_cons (ps_expr (pe_bm PySem.F.plainAttrs_list PySem.F.slot_list_append PySem.F.type_list_append mt_append (pv 6) (pa_cons (pe_ifExp (pt_val (pv 9)) pe_non (pv 8)) pa_nil)))
        (pss_one (ps_set (i := 7) scLaw.nd rfl (.inl rfl) (pe_op op_add (pv 7) (pe_callTy call_int1 (by rfl) T.int (by decide +kernel) (pa_cons (pv 9) pa_nil))))))))
      (C8.pss_cut (ps_set (i := 10) scLaw.nd rfl (.inl rfl) (pe_ifExp (pt_cmpR op_gt (hTk.pe hr (pa_cons (pv 1) (pa_cons pe_int pa_nil))) pe_int (nomark _)) (hWr.pe hr (pa_cons (pv 2) (pa_cons (pv 4) (pa_cons (pv 5) pa_nil)))) (hWd.pe hr (pa_cons (pv 1) (pa_cons (pv 3) (pa_cons pe_int pa_nil))))))
      (pss_cons (ps_set (i := 11) scLaw.nd rfl (.inl rfl) (pe_lst pa_nil))
      (C8.pss_cut (ps_for PassesOwn.never rfl (pi_list (hWs.pe hr (pa_cons (pv 3) (pa_cons (pv 7) pa_nil)))) (pg_name (i := 12) scLaw.nd rfl (.inl rfl))
        (pss_cons (ps_asg (pe_tup (pa_cons (pe_tup pa_nil) (pa_cons pe_int pa_nil))) (pg_tup rfl (pgs_cons (pg_name (i := 13) scLaw.nd rfl (.inl rfl)) (pgs_cons (pg_name (i := 14) scLaw.nd rfl (.inl rfl)) pgs_nil))))
        (pss_cons (ps_for PassesOwn.never rfl (pi_list (pv 6)) (pg_name (i := 8) scLaw.nd rfl (.inl rfl))
          (pss_one (ps_par (i := 13) (j := 14) rfl scLaw.nd rfl rfl (by decide) rfl rfl (pa_cons (pe_op op_catA (pv 13) (pe_tup (pa_cons (pe_ifExp (pt_cmp (pc_isN (pv 8))) (pe_ix ix_tup (pv 12) (pv 14) (fun _ _ => rfl)) (pv 8)) pa_nil)))
            (pa_cons (pe_op op_add (pv 14) (pe_callTy call_int1 (by rfl) T.int (by decide +kernel) (pa_cons (pe_cmp (pc_isN (pv 8)) rfl) pa_nil))) pa_nil)) (by rfl))))
        (pss_one (ps_if (pt_cmpR (op_eqD hu64) (hWr.pe hr (pa_cons (pv 2) (pa_cons (pv 4) (pa_cons (pv 13) pa_nil)))) (pv 10) (nomark _))
          (pss_one (ps_expr (pe_bm PySem.F.plainAttrs_list PySem.F.slot_list_append PySem.F.type_list_append mt_append (pv 11) (pa_cons (pv 13) pa_nil)))) pss_nil)))))
      (C8.pss_cut (ps_if (pt_not (pt_val (hAl.pe hr (pa_cons (hFi.pe hr (pa_cons (pv 2) (pa_cons (pv 4) (pa_cons (pe_callTy call_tuple_of (by rfl) T.tuple (by decide +kernel) (pa_cons (pv 6) pa_nil)) (pa_cons (pv 10) pa_nil)))))
          (pa_cons (pe_tup (pa_cons (pe_callB call_len_seq (by rfl) T.len PySem.boot_len (pa_cons (pv 11) pa_nil)) (pa_cons (pe_ifExp (pt_cmpR (op_neD hu64) (pv 11) (pe_lst pa_nil) (nomark _)) (pe_ix ix_list (pv 11) pe_int (fun _ _ => rfl)) pe_non) pa_nil))) pa_nil))))) (pss_one ps_never) pss_nil)
      (pss_cons (ps_set (i := 15) scLaw.nd rfl (.inl rfl) (hTk.pe hr (pa_cons (pv 1) (pa_cons pe_int pa_nil))))
      (pss_one (ps_ret (pe_cmpR op_eq (pe_ix ix_tup (hFi.pe hr (pa_cons (pv 2) (pa_cons (pv 4) (pa_cons (pe_op op_repA (pe_tup (pa_cons pe_non pa_nil)) (pv 15)) (pa_cons (pv 10) pa_nil))))) pe_int (fun _ _ => rfl)) (hNu.pe hr (pa_cons (pv 2) (pa_cons (pv 4) (pa_cons (pv 10) (pa_cons (pv 15) pa_nil))))) (nomark _))))))))))))))), ?_⟩
    -- the row
    refine ⟨_, rfl, by show 4 ≤ sizeLine; decide, fun row nrow => ?_⟩
    have hR1 : RowAt K (upd H row (.lst [.ref a, .int 0, .int 6662, .int 0])) row a ns := ⟨Scr.new hS nrow, 0, 6662, 0, Int.le_refl _, upd_same⟩
    refine ⟨_, rfl, row, a, ns, rfl, hR1, fun m z va H2 hv hva2 hR2 b2 => ?_⟩
    have hm1 := hv.m1
    have hm3 := hv.m3
    refine ⟨_, rfl, va, _, rfl, .inr (SqT.of hva2), ?_⟩
    rw [show (tn z).length = m from (tn_len z).trans hv.len]
    -- slate, word
    refine ⟨_, rfl, _, rfl, row, a, ns, m, 4, rfl, hm1, hm3, by decide, hR2, fun sl sa H3 hs4 hsm hsa3 hR3 b3 => ?_⟩
    refine ⟨_, rfl, _, rfl, row, a, ns, m, 8, rfl, hm1, hm3, by decide, hR3, fun u wa H4 hu8 hum hwa4 hR4 b4 => ⟨_, _, rfl, ?_⟩⟩
    have k34 := hR3.keep b4
    have hva4 : At H4 va z := k34 _ _ (hR2.keep b3 _ _ hva2)
    have hsa4 : At H4 sa sl := k34 _ _ hsa3
    have hs : SOk m sl := ⟨hs4, hsm⟩
    refine ⟨_, rfl, _, rfl, va, sa, m, z, sl, rfl, hva4, hv, hsa4, hs, fun H5 d T5 s5 hd hT => ?_⟩
    refine ⟨d, _, rfl, hd, _, _, rfl, rfl, _, rfl, ?_⟩
    rw [ent_len, decide_eq_false (by omega)]
    refine iteF ?_
    have hR5 := hR4.same s5
    have hva5 := s5.at hva4
    have hsa5 := s5.at hsa4
    have hwa5 := s5.at hwa4
    -- pattern, opened
    refine ⟨Nat.zero_le _, fun pl npl => ⟨_, _, rfl, ?_⟩⟩
    have sp := same_new (o := .lst []) npl
    have plr : pl ≠ row := by
      obtain ⟨_, i, y, t, _, e⟩ := hR5
      exact Ne.symm (ne_of_none e npl)
    refine ⟨fun σ' H' => ∃ (r : List (Option Nat)) (v8 v9 : Option V), σ' = [some (.ref a), some (.ref row), some (.ref va), some (.int (m : Int)), some (.ref sa), some (.ref wa), some (.ref pl), some (.int (opens r : Int)), v8, v9, none, none, none, none, none, none] ∧
      r.length = u.length ∧ opens r ≤ 5 ∧ (∀ l, some l ∈ r → l < m) ∧ H' pl = some (.lst (pn r)) ∧ RowAt K H' row a ns ∧ Keep H5 H', ?_, ?_⟩
    · refine ⟨_, rfl, wa, rfl, ⟨_, SqT.of (sp.at hwa5)⟩, for_tup (K := K) (a := wa) (xs := tn u) (fun i σ' H' => ∃ (r : List (Option Nat)) (v8 v9 : Option V), σ' = [some (.ref a), some (.ref row), some (.ref va), some (.int (m : Int)), some (.ref sa), some (.ref wa), some (.ref pl), some (.int (opens r : Int)), v8, v9, none, none, none, none, none, none] ∧
        r.length = i ∧ opens r ≤ 5 ∧ (∀ l, some l ∈ r → l < m) ∧ H' pl = some (.lst (pn r)) ∧ RowAt K H' row a ns ∧ But row H5 H')
        ⟨[], _, _, rfl, rfl, Nat.zero_le _, fun l hl => (nomatch hl), upd_same, hR5.same sp, sp.but⟩ (fun i σ' H' _ ⟨_, _, _, _, _, _, _, _, _, b⟩ => SqT.of (hR5.keep b _ _ hwa5)) ?_ ?_⟩
      · rintro i x σ' H' hi ⟨r, v8, v9, rfl, hrl, ho, hrm, hpl, hR', b'⟩
        have hil : i < u.length := by
          have := (List.getElem?_eq_some_iff.mp hi).1
          rwa [tn_len] at this
        obtain rfl : V.int (u[i] : Int) = x := Option.some.inj ((tn_get (List.getElem?_eq_getElem hil)).symm.trans hi)
        have hux := hum _ (List.getElem_mem hil)
        generalize u[i] = lx at hux
        refine ⟨fun σ'' H'' => ∃ bo : Bool, σ'' = [some (.ref a), some (.ref row), some (.ref va), some (.int (m : Int)), some (.ref sa), some (.ref wa), some (.ref pl), some (.int (opens r : Int)), some (.int (lx : Int)), some (.bl bo), none, none, none, none, none, none] ∧
          (bo = true → opens r < 5) ∧ H'' pl = some (.lst (pn r)) ∧ RowAt K H'' row a ns ∧ But row H5 H'', ?_, ?_⟩
        · refine ⟨_, rfl, _, _, rfl, rfl, _, rfl, ite2 (fun e => ?_) (fun e => ?_)⟩
          · have e : (opens r : Int) < 5 := of_decide_eq_true e
            refine ⟨_, rfl, row, a, ns, 2, rfl, by decide, by decide, hR', fun rr H'' hrr hR'' b'' => ⟨rfl, ?_⟩⟩
            exact ⟨_, rfl, fun _ => by omega, b'' _ _ plr hpl, hR'', b'.trans b''⟩
          · exact ⟨false, rfl, fun y => (nomatch y), hpl, hR', b'⟩
        · rintro σ'' H'' ⟨bo, rfl, hbo, hpl, hR'', b''⟩
          have hpll : (pn r).length < sizeLine := by rw [pn_len]; exact small1000 (by omega)
          cases bo with
          | true =>
            have ho5 := hbo rfl
            refine ⟨_, rfl, .inl ⟨rfl, _, SqL.of hpl⟩, _, rfl, _, rfl, iteT ⟨pl, _, _, rfl, rfl, hpl, hpll, ?_⟩⟩
            refine ⟨_, rfl, _, rfl, .inr ⟨_, rfl, _, _, rfl, rfl, ?_⟩⟩
            obtain ⟨hR6, b6⟩ := hR5.of (o := .lst (pn r ++ [V.non])) b'' hR'' plr npl
            refine ⟨r ++ [none], some (.int (lx : Int)), some (.bl true), ?_, by rw [List.length_append, hrl]; rfl, ?_, fun l hl => ?_, ?_, hR6, b6⟩
            · rw [opens_snoc]
              rfl
            · rw [opens_snoc]
              show opens r + 1 ≤ 5
              omega
            · rcases List.mem_append.mp hl with hl | hl
              · exact hrm l hl
              · simp at hl
            · rw [upd_same, pn_app]
              rfl
          | false =>
            refine ⟨_, rfl, .inl ⟨rfl, _, SqL.of hpl⟩, _, rfl, _, rfl, iteF ⟨_, rfl, pl, _, _, rfl, rfl, hpl, hpll, ?_⟩⟩
            refine ⟨_, rfl, _, rfl, .inr ⟨_, rfl, _, _, rfl, rfl, ?_⟩⟩
            obtain ⟨hR6, b6⟩ := hR5.of (o := .lst (pn r ++ [V.int (lx : Int)])) b'' hR'' plr npl
            refine ⟨r ++ [some lx], some (.int (lx : Int)), some (.bl false), ?_, by rw [List.length_append, hrl]; rfl, ?_, fun l hl => ?_, ?_, hR6, b6⟩
            · rw [opens_snoc]
              rfl
            · rw [opens_snoc]
              exact ho
            · rcases List.mem_append.mp hl with hl | hl
              · exact hrm l hl
              · have : l = lx := by simpa using hl
                rw [this]
                exact hux
            · rw [upd_same, pn_app]
              rfl
      · rintro σ' H' ⟨r, v8, v9, rfl, hrl, ho, hrm, hpl, hR', b'⟩
        exact ⟨r, v8, v9, rfl, by rw [hrl, tn_len], ho, hrm, hpl, hR', hR5.keep b'⟩
    rintro σ' H6 ⟨r, v8, v9, rfl, hrl, ho5, hrm, hpl6, hR6, k6⟩
    -- goal
    refine ⟨fun σ' H' => ∃ (g : List Nat) (ga : Addr), σ' = [some (.ref a), some (.ref row), some (.ref va), some (.int (m : Int)), some (.ref sa), some (.ref wa), some (.ref pl), some (.int (opens r : Int)), v8, v9, some (.ref ga), none, none, none, none, none] ∧
      At H' ga g ∧ SOk m g ∧ H' pl = some (.lst (pn r)) ∧ RowAt K H' row a ns ∧ Keep H5 H', ?_, ?_⟩
    · refine ⟨_, rfl, row, a, ns, 5, rfl, by decide, by decide, hR6, fun rr H7 hrr hR7 b7 => ⟨_, _, rfl, rfl, _, rfl, ite2 (fun _ => ?_) (fun _ => ?_)⟩⟩
      · have k7 := k6.trans (hR6.keep b7)
        refine ⟨_, rfl, _, rfl, _, rfl, va, sa, wa, m, z, sl, u, rfl, k7 _ _ hva5, hv, k7 _ _ hsa5, hs, k7 _ _ hwa5, hum, fun H8 p s8 hp => ?_⟩
        exact ⟨run z sl u, p, rfl, hp, hs.run hv hum, s8 _ _ (b7 _ _ plr hpl6), hR7.same s8, k7.trans s8.keep⟩
      · refine ⟨_, rfl, _, rfl, row, a, ns, m, 4, rfl, hm1, hm3, by decide, hR7, fun g ga H8 hg4 hgm hga hR8 b8 => ?_⟩
        exact ⟨g, ga, rfl, hga, ⟨hg4, hgm⟩, b8 _ _ plr (b7 _ _ plr hpl6), hR8, k6.trans ((hR6.keep b7).trans (hR7.keep b8))⟩
    rintro σ' Hb ⟨g, ga, rfl, hga, hg, hpl, hRb, kb⟩
    have hva := kb _ _ hva5
    have hsa := kb _ _ hsa5
    -- due = []
    refine ⟨Nat.zero_le _, fun dl ndl => ?_⟩
    have sd := same_new (o := .lst []) ndl
    refine ⟨fun σ' H' => ∃ (Dn : List (Addr × List Nat)) (v8 v12 v13 v14 : Option V), σ' = [some (.ref a), some (.ref row), some (.ref va), some (.int (m : Int)), some (.ref sa), some (.ref wa), some (.ref pl), some (.int (opens r : Int)), v8, v9, some (.ref ga), some (.ref dl), v12, v13, v14, none] ∧
      Same Hb H' ∧ Ls H' dl Dn ∧ (∀ x ∈ Dn, At H' x.1 x.2) ∧ Dn.map (·.2) = due m z g r sl, ?_, ?_⟩
    · refine ⟨_, rfl, _, rfl, m, opens r, rfl, hm3, ho5, fun H7 fl R s7 hfl hRw hRa => ⟨fl, rfl, ⟨_, SqL.of hfl⟩, ?_⟩⟩
      have hdl7 := s7 _ _ (show (upd Hb dl (.lst [])) dl = some (.lst []) from upd_same)
      have hRne : R ≠ [] := fun e => by
        rw [e] at hRw
        have h1 := congrArg List.length hRw
        rw [words_count] at h1
        have h2 : 0 < m ^ opens r := Nat.pow_pos hm1
        rw [← h1] at h2
        exact absurd h2 (Nat.lt_irrefl 0)
      have dfl : fl ≠ dl := ne_of hfl hdl7 (fun e => by
        injection e with e
        exact hRne (List.map_eq_nil_iff.mp e))
      have sb7 : Same Hb H7 := sd.trans s7
      refine for_list (K := K) (a := fl) (xs := R.map fun x => V.ref x.1) (fun i σ' H' => ∃ (Dn : List (Addr × List Nat)) (v8 v12 v13 v14 : Option V), σ' = [some (.ref a), some (.ref row), some (.ref va), some (.int (m : Int)), some (.ref sa), some (.ref wa), some (.ref pl), some (.int (opens r : Int)), v8, v9, some (.ref ga), some (.ref dl), v12, v13, v14, none] ∧
          Same Hb H' ∧ Ls H' fl R ∧ (∀ x ∈ R, At H' x.1 x.2) ∧ Ls H' dl Dn ∧ (∀ x ∈ Dn, At H' x.1 x.2) ∧ Dn.length ≤ i ∧ Dn.map (·.2) = (((words m (opens r)).take i).map (fillin r)).filter fun w => decide (run z sl w = g))
        ⟨[], _, _, _, _, rfl, sb7, hfl, hRa, hdl7, fun x hx => (nomatch hx), Nat.le_refl _, rfl⟩ (fun i σ' H' _ ⟨_, _, _, _, _, _, _, h, _⟩ => SqL.of h) ?_ ?_
      · rintro i x σ' H' hi ⟨Dn, v8, v12, v13, v14, rfl, sb, hfl', hRa', hdl', hDa, hDl, hDw⟩
        obtain ⟨⟨fa, fw⟩, hx, rfl⟩ := ref_at hi
        have hfw : (words m (opens r))[i]? = some fw := by
          rw [← hRw, List.getElem?_map, hx]
          rfl
        have hmem := List.mem_of_getElem? hfw
        obtain ⟨hfl2, _⟩ := words_len m _ fw hmem
        have hfa : At H' fa fw := hRa' _ (List.mem_of_getElem? hx)
        have hin : i < 243 := by
          have h1 := (List.getElem?_eq_some_iff.mp hfw).1
          rw [words_count] at h1
          exact Nat.lt_of_lt_of_le h1 (pow_small hm3 ho5)
        -- told, at = (), 0
        refine ⟨Nat.zero_le _, fun e ne => ⟨by show 2 ≤ sizeLine; decide, fun t nt => ?_⟩⟩
        have s1 := same_new (o := .tup []) ne
        have s2 := same_new (o := .tup [.ref e, .int 0]) nt
        refine ⟨t, _, rfl, SqT.of upd_same, rfl, _, _, rfl, _, _, rfl, rfl, ?_⟩
        have s12 := s1.trans s2
        have hpl' := s12 _ _ (sb _ _ hpl)
        refine ⟨_, rfl, pl, rfl, ⟨_, SqL.of hpl'⟩, for_list (K := K) (a := pl) (xs := pn r) (fun j σ' H'' => ∃ (ta : Addr) (v8 : Option V), σ' = [some (.ref a), some (.ref row), some (.ref va), some (.int (m : Int)), some (.ref sa), some (.ref wa), some (.ref pl), some (.int (opens r : Int)), v8, v9, some (.ref ga), some (.ref dl), some (.ref fa), some (.ref ta), some (.int (opens (r.take j) : Int)), none] ∧
            Same H' H'' ∧ At H'' ta ((fillin r fw).take j))
          ⟨e, _, rfl, s12, s2 _ _ upd_same⟩ (fun j σ' H'' _ ⟨_, _, _, sj, _⟩ => SqL.of (sj _ _ (sb _ _ hpl))) ?_ ?_⟩
        · rintro j x σ' H'' hj ⟨ta, v8, rfl, sj, hta⟩
          have hjl : j < r.length := by
            have := (List.getElem?_eq_some_iff.mp hj).1
            rwa [pn_len] at this
          obtain ⟨o, ho, rfl⟩ : ∃ o, r[j]? = some o ∧ pnV o = x := ⟨r[j], List.getElem?_eq_getElem hjl, Option.some.inj ((pn_get (List.getElem?_eq_getElem hjl)).symm.trans hj)⟩
          have hop : opens (r.take (j + 1)) = opens (r.take j) + (if o = none then 1 else 0) := by
            rw [List.take_add_one, ho]
            exact opens_snoc o (r.take j)
          have hfl' : (fillin r fw).length = r.length := fillin_len r fw
          have step : ∀ (x1 : Nat) (t2 : Addr) (H3 : Hp), (fillin r fw)[j]? = some x1 → Same H'' H3 → H3 t2 = some (.tup [.int (x1 : Int)]) → ∀ (Q2 : VK), (∀ p H4, Same H'' H4 → At H4 p ((fillin r fw).take (j + 1)) → Q2 (.ref p) H4) → rCatA K (.ref ta) (.ref t2) H3 Q2 := by
            intro x1 t2 H3 hx1 s3 ht2 Q2 hq
            refine cat_at (u := (fillin r fw).take j) (v := [x1]) (s3.at hta) ht2 (by rw [List.length_take]; show _ + 1 ≤ 1000; omega) fun p H4 s4 hp => hq p H4 (s3.trans s4) ?_
            rw [List.take_add_one, hx1]
            exact hp
          cases o with
          | none =>
            obtain ⟨x1, hf1, hf2⟩ := fillin_none (f := fw) hfl2 ho
            refine ⟨_, rfl, _, rfl, true, rfl, iteT ?_⟩
            refine ⟨_, rfl, _, rfl, fa, _, _, _, rfl, rfl, SqT.of (sj _ _ hfa), atI_nat (tn_get hf1), ?_⟩
            refine ⟨by show 1 ≤ sizeLine; decide, fun t2 nt2 => ?_⟩
            refine step x1 t2 _ hf2 (same_new nt2) upd_same _ fun p H4 s4 hp => ?_
            refine ⟨_, rfl, _, rfl, .inr ⟨true, rfl, _, _, rfl, rfl, _, _, rfl, ?_⟩⟩
            refine ⟨p, some (pnV none), ?_, sj.trans s4, hp⟩
            rw [hop]
            rfl
          | some b =>
            have hf2 : (fillin r fw)[j]? = some b := fillin_some ho
            refine ⟨_, rfl, _, rfl, false, rfl, iteF ?_⟩
            refine ⟨_, rfl, by show 1 ≤ sizeLine; decide, fun t2 nt2 => ?_⟩
            refine step b t2 _ hf2 (same_new nt2) upd_same _ fun p H4 s4 hp => ?_
            refine ⟨_, rfl, _, rfl, .inr ⟨false, rfl, _, _, rfl, rfl, _, _, rfl, ?_⟩⟩
            refine ⟨p, some (pnV (some b)), ?_, sj.trans s4, hp⟩
            rw [hop]
            rfl
        · rintro σ' H'' ⟨ta, v8, rfl, sj, hta⟩
          rw [pn_len, ← fillin_len r fw, List.take_length] at hta
          have hflt := fill_lt hrm hmem
          have sbj := sb.trans sj
          refine ⟨_, rfl, _, rfl, _, rfl, va, sa, ta, m, z, sl, fillin r fw, rfl, sbj.at hva, hv, sbj.at hsa, hs, hta, hflt, fun H3 p s3 hp => ?_⟩
          have sb3 := sbj.trans s3
          have sj3 := sj.trans s3
          refine ⟨_, rfl, _, _, dp_tn hp, dp_tn (sb3.at hga), shaped_dt _, shaped_dt _, _, rfl, ?_⟩
          rw [eqv_dt]
          have hnext : (((words m (opens r)).take (i + 1)).map (fillin r)).filter (fun w => decide (run z sl w = g)) = (((words m (opens r)).take i).map (fillin r)).filter (fun w => decide (run z sl w = g)) ++ (if run z sl (fillin r fw) = g then [fillin r fw] else []) := by
            rw [List.take_add_one, hfw, List.map_append, List.filter_append]
            refine congrArg (fun y => List.filter (fun w => decide (run z sl w = g)) (List.map (fillin r) (List.take i (words m (opens r)))) ++ y) ?_
            show List.filter _ [fillin r fw] = _
            rw [List.filter_cons, List.filter_nil]
            by_cases e : run z sl (fillin r fw) = g
            · simp [e]
            · simp [e]
          refine ite2 (fun e => ?_) (fun e => ?_)
          · have e := of_decide_eq_true e
            have hdl3 := sj3 _ _ hdl'
            refine ⟨_, rfl, .inl ⟨rfl, _, SqL.of hdl3⟩, _, rfl, dl, _, _, rfl, rfl, hdl3, by rw [List.length_map]; exact small1000 (by omega), ?_⟩
            have kd : Keep H3 (upd H3 dl (.lst ((Dn.map fun x => V.ref x.1) ++ [V.ref ta]))) := keep_upd fun xs y => by rw [hdl3] at y; cases y
            refine ⟨Dn ++ [(ta, fillin r fw)], _, _, _, _, rfl, same_upd0 sb3 ndl, ?_, fun x hx => kd _ _ (sj3.at (hRa' x hx)), ?_, fun x hx => ?_, ?_, ?_⟩
            · show upd _ dl _ fl = _
              rw [upd_ne dfl]
              exact sj3 _ _ hfl'
            · show upd _ dl _ dl = _
              rw [upd_same, List.map_append]
              rfl
            · rcases List.mem_append.mp hx with hx | hx
              · exact kd _ _ (sj3.at (hDa x hx))
              · rw [List.mem_singleton.mp hx]
                exact kd _ _ (s3.at hta)
            · rw [List.length_append]
              show Dn.length + 1 ≤ i + 1
              omega
            · rw [hnext, if_pos e, List.map_append, hDw]
              rfl
          · have e : ¬ run z sl (fillin r fw) = g := fun y => e (decide_eq_true y)
            refine ⟨Dn, _, _, _, _, rfl, sb3, sj3 _ _ hfl', fun x hx => sj3.at (hRa' x hx), sj3 _ _ hdl', fun x hx => sj3.at (hDa x hx), by omega, ?_⟩
            rw [hnext, if_neg e, List.append_nil]
            exact hDw
      · rintro σ' H' ⟨Dn, v8, v12, v13, v14, rfl, sb, hfl', hRa', hdl', hDa, hDl, hDw⟩
        refine ⟨Dn, _, _, _, _, rfl, sb, hdl', hDa, ?_⟩
        have e : (R.map fun x => V.ref x.1).length = (words m (opens r)).length := by rw [List.length_map, ← hRw, List.length_map]
        rw [hDw, e, List.take_length]
        exact due_words m z g sl r
    rintro σ' H9 ⟨Dn, v8, v12, v13, v14, rfl, s9, hdl, hDa, hDw⟩
    refine ⟨fun σ' H' => σ' = [some (.ref a), some (.ref row), some (.ref va), some (.int (m : Int)), some (.ref sa), some (.ref wa), some (.ref pl), some (.int (opens r : Int)), v8, v9, some (.ref ga), some (.ref dl), v12, v13, v14, none] ∧ Same Hb H', ?_, ?_⟩
    · have hpl9 := s9 _ _ hpl
      refine ⟨_, rfl, _, rfl, _, rfl, pl, _, rfl, .inl ⟨SqL.of hpl9, fun pa npa => ?_⟩⟩
      have sq := same_new (o := .tup (pn r)) npa
      have s9q := s9.trans sq
      refine ⟨_, rfl, va, sa, pa, ga, m, z, sl, g, r, rfl, s9q.at hva, hv, s9q.at hsa, hs, upd_same, ⟨by omega, hrm⟩, s9q.at hga, hg, fun HB fp fx sB hfp hfx => ?_⟩
      have s9B := sq.trans sB
      have hdlB := s9B _ _ hdl
      refine ⟨_, rfl, dl, _, rfl, .inl (SqL.of hdlB), _, rfl, Nat.zero_le _, fun e ne => ?_⟩
      have se := same_new (o := .lst []) ne
      refine ⟨_, _, dp_list (R := Dn) (se _ _ hdlB) (fun x hx => (s9B.trans se).at (hDa x hx)), .lst (SqL.of upd_same) .nil, shaped_dts _, by rfl, _, rfl, ?_⟩
      rw [eqv_nil]
      have hcnt : (Dn.map fun x => V.ref x.1).length = (due m z g r sl).length := by rw [← hDw, List.length_map, List.length_map]
      have fin : ∀ (y : V) (HC : Hp), Same HB HC → (match (due m z g r sl).head? with | none => y = .non | some u => ∃ q, y = .ref q ∧ At HC q u) → ∀ p, HC p = none →
          Alk (upd HC p (.tup [.int (((Dn.map fun x => V.ref x.1).length : Nat) : Int), y])) 3 (.ref fp) (.ref p) := by
        intro y HC sC hy p np
        have sp := same_new (o := .tup [.int (((Dn.map fun x => V.ref x.1).length : Nat) : Int), y]) np
        refine .inr ⟨fp, p, _, _, rfl, rfl, sp _ _ (sC _ _ hfp), upd_same, rfl, by show 2 ≤ 100; decide, fun i x1 y1 hx1 hy1 => ?_⟩
        match i, hx1, hy1 with
        | 0, hx1, hy1 =>
          cases hx1
          cases hy1
          rw [hcnt]
          exact .inl (.inl ⟨_, rfl, rfl⟩)
        | 1, hx1, hy1 =>
          cases hx1
          cases hy1
          cases hh : (due m z g r sl).head? with
          | none =>
            rw [hh] at hfx hy
            rw [show fx = V.non from hfx, show y = V.non from hy]
            exact .inl (.inr ⟨rfl, rfl⟩)
          | some w1 =>
            rw [hh] at hfx hy
            obtain ⟨q1, rfl, hq1⟩ := hfx
            obtain ⟨q2, rfl, hq2⟩ := hy
            have hw1 := fit_len w1 (List.mem_filter.mp (List.mem_of_head? hh)).1
            exact alk_word 0 (sp.at (sC.at hq1)) (sp.at hq2) (by omega)
        | i + 2, hx1, hy1 => exact nomatch hx1
      cases hE : Dn with
      | nil =>
        rw [hE] at fin hDw
        refine iteF ⟨by show 2 ≤ sizeLine; decide, fun p np => ?_⟩
        refine ⟨_, _, rfl, fin .non _ se ?_ p np, fun HD sD => ⟨true, rfl, iteF ⟨rfl, (s9.trans (s9B.trans (se.trans ((same_new np).trans sD))))⟩⟩⟩
        rw [← hDw]
        rfl
      | cons x0 Dr =>
        rw [hE] at fin hDw
        have hx0 := hDa x0 (by rw [hE]; exact List.mem_cons_self)
        have hdlE := (s9B.trans se) _ _ hdl
        rw [hE] at hdlE
        refine iteT ⟨_, rfl, dl, _, 0, _, rfl, rfl, SqL.of hdlE, atI_nat (j := 0) rfl, by show 2 ≤ sizeLine; decide, fun p np => ?_⟩
        refine ⟨_, _, rfl, fin (.ref x0.1) _ se ?_ p np, fun HD sD => ⟨true, rfl, iteF ⟨rfl, (s9.trans (s9B.trans (se.trans ((same_new np).trans sD))))⟩⟩⟩
        rw [← hDw]
        exact ⟨x0.1, rfl, (s9B.trans se).at hx0⟩
    rintro σ' HA ⟨rfl, sA⟩
    -- _law_length
    have hRA := hRb.same sA
    refine ⟨_, rfl, row, a, ns, 31, rfl, by decide, by decide, hRA, fun L HB hL hRB bB => ?_⟩
    have kB := hRA.keep bB
    have hvaB : At HB va z := kB _ _ (sA.at hva)
    have hsaB : At HB sa sl := kB _ _ (sA.at hsa)
    have hgaB : At HB ga g := kB _ _ (sA.at hga)
    refine ⟨_, rfl, _, rfl, by show 1 ≤ sizeLine; decide, fun t nt => ⟨_, rfl, ?_⟩⟩
    have st := same_new (o := .tup [.non]) nt
    refine rep_at upd_same (by omega) fun pa HC sC hpa => ?_
    have sBC := st.trans sC
    refine ⟨_, rfl, va, sa, pa, ga, m, z, sl, g, List.replicate L none, rfl, sBC.at hvaB, hv, sBC.at hsaB, hs, hpa, ⟨by rw [List.length_replicate]; omega, fun l hl => ?_⟩, sBC.at hgaB, hg, fun HD p x sD hp hx => ?_⟩
    · exact nomatch (List.mem_replicate.mp hl).2
    refine ⟨p, _, 0, _, rfl, rfl, SqT.of hp, atI_nat (j := 0) rfl, ?_⟩
    have sBD := sBC.trans sD
    refine ⟨_, rfl, _, rfl, _, rfl, _, rfl, va, sa, ga, m, L, z, sl, g, rfl, sBD.at hvaB, hv, sBD.at hsaB, hs, sBD.at hgaB, hg, by omega, fun HE sE => ⟨rfl, ?_⟩⟩
    rw [decide_eq_true rfl]
    exact q HE
end
end K62
/-! what the top has written; the law's theorem. -/
namespace K62
open PySem PySem.Spec PyProof.Rows L2
theorem all_mk {l : PySem.W.OpenLaw} {w : World} {K : PySem.W.Frag} {h : Heap} {mg : Str → Option Value} {fa : Addr} (X : K.In h) (G : h.Ns mainGlobals mg) (hfa : mg "law" = some (.ref fa))
    {f0 : Addr} {od0 an0 : Option Addr} {sl0 : Array (Option Value)} {oc0 kV0 dc0 pm0 cd0 ct0 : Value} (a0 : PySem.W.nsIn K mainGlobals "whole" = some (some (.ref f0)))
    (l0 : K.lookup f0 = some ⟨oc0, od0, .func (PySem.W.fnOf "whole" "whole" (defArgs sWhole) (defBody sWhole) (defScope sWhole) .none kV0 dc0 pm0 an0 cd0 ct0), sl0⟩) (c0 : PySem.W.codeIn K cd0 "whole" = true) (k0 : PySem.W.keepIn K (.ref f0) = true)
    {f1 : Addr} {od1 an1 : Option Addr} {sl1 : Array (Option Value)} {oc1 kV1 dc1 pm1 cd1 ct1 : Value} (a1 : PySem.W.nsIn K mainGlobals "within" = some (some (.ref f1)))
    (l1 : K.lookup f1 = some ⟨oc1, od1, .func (PySem.W.fnOf "within" "within" (defArgs sWithin) (defBody sWithin) (defScope sWithin) .none kV1 dc1 pm1 an1 cd1 ct1), sl1⟩) (c1 : PySem.W.codeIn K cd1 "within" = true) (k1 : PySem.W.keepIn K (.ref f1) = true)
    {f2 : Addr} {od2 an2 : Option Addr} {sl2 : Array (Option Value)} {oc2 kV2 dc2 pm2 cd2 ct2 : Value} (a2 : PySem.W.nsIn K mainGlobals "need_number" = some (some (.ref f2)))
    (l2 : K.lookup f2 = some ⟨oc2, od2, .func (PySem.W.fnOf "need_number" "need_number" (defArgs sNeedNumber) (defBody sNeedNumber) (defScope sNeedNumber) .none kV2 dc2 pm2 an2 cd2 ct2), sl2⟩) (c2 : PySem.W.codeIn K cd2 "need_number" = true) (k2 : PySem.W.keepIn K (.ref f2) = true)
    {f3 : Addr} {od3 an3 : Option Addr} {sl3 : Array (Option Value)} {oc3 kV3 dc3 pm3 cd3 ct3 : Value} (a3 : PySem.W.nsIn K mainGlobals "tuple_of" = some (some (.ref f3)))
    (l3 : K.lookup f3 = some ⟨oc3, od3, .func (PySem.W.fnOf "tuple_of" "tuple_of" (defArgs sTupleOf) (defBody sTupleOf) (defScope sTupleOf) .none kV3 dc3 pm3 an3 cd3 ct3), sl3⟩) (c3 : PySem.W.codeIn K cd3 "tuple_of" = true) (k3 : PySem.W.keepIn K (.ref f3) = true)
    {f4 : Addr} {od4 an4 : Option Addr} {sl4 : Array (Option Value)} {oc4 kV4 dc4 pm4 cd4 ct4 : Value} (a4 : PySem.W.nsIn K mainGlobals "need_values" = some (some (.ref f4)))
    (l4 : K.lookup f4 = some ⟨oc4, od4, .func (PySem.W.fnOf "need_values" "need_values" (defArgs sNeedValues) (defBody sNeedValues) (defScope sNeedValues) .none kV4 dc4 pm4 an4 cd4 ct4), sl4⟩) (c4 : PySem.W.codeIn K cd4 "need_values" = true) (k4 : PySem.W.keepIn K (.ref f4) = true)
    {f5 : Addr} {od5 an5 : Option Addr} {sl5 : Array (Option Value)} {oc5 kV5 dc5 pm5 cd5 ct5 : Value} (a5 : PySem.W.nsIn K mainGlobals "wrong_letter" = some (some (.ref f5)))
    (l5 : K.lookup f5 = some ⟨oc5, od5, .func (PySem.W.fnOf "wrong_letter" "wrong_letter" (defArgs sWrong) (defBody sWrong) (defScope sWrong) .none kV5 dc5 pm5 an5 cd5 ct5), sl5⟩) (c5 : PySem.W.codeIn K cd5 "wrong_letter" = true) (k5 : PySem.W.keepIn K (.ref f5) = true)
    {f6 : Addr} {od6 an6 : Option Addr} {sl6 : Array (Option Value)} {oc6 kV6 dc6 pm6 cd6 ct6 : Value} (a6 : PySem.W.nsIn K mainGlobals "need_slate" = some (some (.ref f6)))
    (l6 : K.lookup f6 = some ⟨oc6, od6, .func (PySem.W.fnOf "need_slate" "need_slate" (defArgs sNeedSlate) (defBody sNeedSlate) (defScope sNeedSlate) .none kV6 dc6 pm6 an6 cd6 ct6), sl6⟩) (c6 : PySem.W.codeIn K cd6 "need_slate" = true) (k6 : PySem.W.keepIn K (.ref f6) = true)
    {f7 : Addr} {od7 an7 : Option Addr} {sl7 : Array (Option Value)} {oc7 kV7 dc7 pm7 cd7 ct7 : Value} (a7 : PySem.W.nsIn K mainGlobals "stepped" = some (some (.ref f7)))
    (l7 : K.lookup f7 = some ⟨oc7, od7, .func (PySem.W.fnOf "stepped" "stepped" (defArgs sStepped) (defBody sStepped) (defScope sStepped) .none kV7 dc7 pm7 an7 cd7 ct7), sl7⟩) (c7 : PySem.W.codeIn K cd7 "stepped" = true) (k7 : PySem.W.keepIn K (.ref f7) = true)
    {f8 : Addr} {od8 an8 : Option Addr} {sl8 : Array (Option Value)} {oc8 kV8 dc8 pm8 cd8 ct8 : Value} (a8 : PySem.W.nsIn K mainGlobals "spread" = some (some (.ref f8)))
    (l8 : K.lookup f8 = some ⟨oc8, od8, .func (PySem.W.fnOf "spread" "spread" (defArgs sSpread) (defBody sSpread) (defScope sSpread) .none kV8 dc8 pm8 an8 cd8 ct8), sl8⟩) (c8 : PySem.W.codeIn K cd8 "spread" = true) (k8 : PySem.W.keepIn K (.ref f8) = true)
    {f9 : Addr} {od9 an9 : Option Addr} {sl9 : Array (Option Value)} {oc9 kV9 dc9 pm9 cd9 ct9 : Value} (a9 : PySem.W.nsIn K mainGlobals "spread_to" = some (some (.ref f9)))
    (l9 : K.lookup f9 = some ⟨oc9, od9, .func (PySem.W.fnOf "spread_to" "spread_to" (defArgs sSpreadTo) (defBody sSpreadTo) (defScope sSpreadTo) .none kV9 dc9 pm9 an9 cd9 ct9), sl9⟩) (c9 : PySem.W.codeIn K cd9 "spread_to" = true) (k9 : PySem.W.keepIn K (.ref f9) = true)
    {f10 : Addr} {od10 an10 : Option Addr} {sl10 : Array (Option Value)} {oc10 kV10 dc10 pm10 cd10 ct10 : Value} (a10 : PySem.W.nsIn K mainGlobals "need_pattern" = some (some (.ref f10)))
    (l10 : K.lookup f10 = some ⟨oc10, od10, .func (PySem.W.fnOf "need_pattern" "need_pattern" (defArgs sNeedPattern) (defBody sNeedPattern) (defScope sNeedPattern) .none kV10 dc10 pm10 an10 cd10 ct10), sl10⟩) (c10 : PySem.W.codeIn K cd10 "need_pattern" = true) (k10 : PySem.W.keepIn K (.ref f10) = true)
    {f11 : Addr} {od11 an11 : Option Addr} {sl11 : Array (Option Value)} {oc11 kV11 dc11 pm11 cd11 ct11 : Value} (a11 : PySem.W.nsIn K mainGlobals "filled" = some (some (.ref f11)))
    (l11 : K.lookup f11 = some ⟨oc11, od11, .func (PySem.W.fnOf "filled" "filled" (defArgs sFilled) (defBody sFilled) (defScope sFilled) .none kV11 dc11 pm11 an11 cd11 ct11), sl11⟩) (c11 : PySem.W.codeIn K cd11 "filled" = true) (k11 : PySem.W.keepIn K (.ref f11) = true)
    {f12 : Addr} {od12 an12 : Option Addr} {sl12 : Array (Option Value)} {oc12 kV12 dc12 pm12 cd12 ct12 : Value} (a12 : PySem.W.nsIn K mainGlobals "counted" = some (some (.ref f12)))
    (l12 : K.lookup f12 = some ⟨oc12, od12, .func (PySem.W.fnOf "counted" "counted" (defArgs sCounted) (defBody sCounted) (defScope sCounted) .none kV12 dc12 pm12 an12 cd12 ct12), sl12⟩) (c12 : PySem.W.codeIn K cd12 "counted" = true) (k12 : PySem.W.keepIn K (.ref f12) = true)
    {f13 : Addr} {od13 an13 : Option Addr} {sl13 : Array (Option Value)} {oc13 kV13 dc13 pm13 cd13 ct13 : Value} (a13 : PySem.W.nsIn K mainGlobals "number_to" = some (some (.ref f13)))
    (l13 : K.lookup f13 = some ⟨oc13, od13, .func (PySem.W.fnOf "number_to" "number_to" (defArgs sNumberTo) (defBody sNumberTo) (defScope sNumberTo) .none kV13 dc13 pm13 an13 cd13 ct13), sl13⟩) (c13 : PySem.W.codeIn K cd13 "number_to" = true) (k13 : PySem.W.keepIn K (.ref f13) = true)
    {f14 : Addr} {od14 an14 : Option Addr} {sl14 : Array (Option Value)} {oc14 kV14 dc14 pm14 cd14 ct14 : Value} (a14 : PySem.W.nsIn K mainGlobals "_law_taken" = some (some (.ref f14)))
    (l14 : K.lookup f14 = some ⟨oc14, od14, .func (PySem.W.fnOf "_law_taken" "_law_taken" (defArgs sTaken) (defBody sTaken) (defScope sTaken) .none kV14 dc14 pm14 an14 cd14 ct14), sl14⟩) (c14 : PySem.W.codeIn K cd14 "_law_taken" = true) (k14 : PySem.W.keepIn K (.ref f14) = true)
    {f15 : Addr} {od15 an15 : Option Addr} {sl15 : Array (Option Value)} {oc15 kV15 dc15 pm15 cd15 ct15 : Value} (a15 : PySem.W.nsIn K mainGlobals "_law_values" = some (some (.ref f15)))
    (l15 : K.lookup f15 = some ⟨oc15, od15, .func (PySem.W.fnOf "_law_values" "_law_values" (defArgs sValues) (defBody sValues) (defScope sValues) .none kV15 dc15 pm15 an15 cd15 ct15), sl15⟩) (c15 : PySem.W.codeIn K cd15 "_law_values" = true) (k15 : PySem.W.keepIn K (.ref f15) = true)
    {f16 : Addr} {od16 an16 : Option Addr} {sl16 : Array (Option Value)} {oc16 kV16 dc16 pm16 cd16 ct16 : Value} (a16 : PySem.W.nsIn K mainGlobals "_law_word" = some (some (.ref f16)))
    (l16 : K.lookup f16 = some ⟨oc16, od16, .func (PySem.W.fnOf "_law_word" "_law_word" (defArgs sWord) (defBody sWord) (defScope sWord) .none kV16 dc16 pm16 an16 cd16 ct16), sl16⟩) (c16 : PySem.W.codeIn K cd16 "_law_word" = true) (k16 : PySem.W.keepIn K (.ref f16) = true)
    {f17 : Addr} {od17 an17 : Option Addr} {sl17 : Array (Option Value)} {oc17 kV17 dc17 pm17 cd17 ct17 : Value} (a17 : PySem.W.nsIn K mainGlobals "_law_write" = some (some (.ref f17)))
    (l17 : K.lookup f17 = some ⟨oc17, od17, .func (PySem.W.fnOf "_law_write" "_law_write" (defArgs sWrite) (defBody sWrite) (defScope sWrite) .none kV17 dc17 pm17 an17 cd17 ct17), sl17⟩) (c17 : PySem.W.codeIn K cd17 "_law_write" = true) (k17 : PySem.W.keepIn K (.ref f17) = true)
    {f18 : Addr} {od18 an18 : Option Addr} {sl18 : Array (Option Value)} {oc18 kV18 dc18 pm18 cd18 ct18 : Value} (a18 : PySem.W.nsIn K mainGlobals "_law_slates" = some (some (.ref f18)))
    (l18 : K.lookup f18 = some ⟨oc18, od18, .func (PySem.W.fnOf "_law_slates" "_law_slates" (defArgs sSlates) (defBody sSlates) (defScope sSlates) .none kV18 dc18 pm18 an18 cd18 ct18), sl18⟩) (c18 : PySem.W.codeIn K cd18 "_law_slates" = true) (k18 : PySem.W.keepIn K (.ref f18) = true)
    {f19 : Addr} {od19 an19 : Option Addr} {sl19 : Array (Option Value)} {oc19 kV19 dc19 pm19 cd19 ct19 : Value} (a19 : PySem.W.nsIn K mainGlobals "_law_words" = some (some (.ref f19)))
    (l19 : K.lookup f19 = some ⟨oc19, od19, .func (PySem.W.fnOf "_law_words" "_law_words" (defArgs sWords) (defBody sWords) (defScope sWords) .none kV19 dc19 pm19 an19 cd19 ct19), sl19⟩) (c19 : PySem.W.codeIn K cd19 "_law_words" = true) (k19 : PySem.W.keepIn K (.ref f19) = true)
    {f20 : Addr} {od20 an20 : Option Addr} {sl20 : Array (Option Value)} {oc20 kV20 dc20 pm20 cd20 ct20 : Value} (a20 : PySem.W.nsIn K mainGlobals "_law_alike" = some (some (.ref f20)))
    (l20 : K.lookup f20 = some ⟨oc20, od20, .func (PySem.W.fnOf "_law_alike" "_law_alike" (defArgs sAlike) (defBody sAlike) (defScope sAlike) .none kV20 dc20 pm20 an20 cd20 ct20), sl20⟩) (c20 : PySem.W.codeIn K cd20 "_law_alike" = true) (k20 : PySem.W.keepIn K (.ref f20) = true)
    {f21 : Addr} {od21 an21 : Option Addr} {sl21 : Array (Option Value)} {oc21 kV21 dc21 pm21 cd21 ct21 : Value} (a21 : PySem.W.nsIn K mainGlobals "law" = some (some (.ref f21)))
    (l21 : K.lookup f21 = some ⟨oc21, od21, .func (PySem.W.fnOf "law" "law" (defArgs sLaw) (defBody sLaw) (defScope sLaw) .none kV21 dc21 pm21 an21 cd21 ct21), sl21⟩) (c21 : PySem.W.codeIn K cd21 "law" = true) (k21 : PySem.W.keepIn K (.ref f21) = true)
    (z0 : PySem.W.nsIn K mainGlobals "isinstance" = some none)
    (z1 : PySem.W.nsIn K mainGlobals "int" = some none)
    (z2 : PySem.W.nsIn K mainGlobals "bool" = some none)
    (z3 : PySem.W.nsIn K mainGlobals "tuple" = some none)
    (z4 : PySem.W.nsIn K mainGlobals "list" = some none)
    (z5 : PySem.W.nsIn K mainGlobals "str" = some none)
    (z6 : PySem.W.nsIn K mainGlobals "len" = some none)
    (z7 : PySem.W.nsIn K mainGlobals "all" = some none)
    (z8 : PySem.W.nsIn K mainGlobals "enumerate" = some none)
    (z9 : PySem.W.nsIn K mainGlobals "range" = some none)
    (z10 : PySem.W.nsIn K mainGlobals "min" = some none)
    {t0 : Tok} (m0 : PySem.W.nsIn K mainGlobals "MOST_LETTERS" = some (some (.int 5 t0)))
    {t1 : Tok} (m1 : PySem.W.nsIn K mainGlobals "MOST_VALUE" = some (some (.int 6 t1)))
    {t2 : Tok} (m2 : PySem.W.nsIn K mainGlobals "MOST_SLATE" = some (some (.int 12 t2)))
    {t3 : Tok} (m3 : PySem.W.nsIn K mainGlobals "MOST_SLATES" = some (some (.int 2000 t3)))
    : ∃ fd : FuncData, (∀ (s : Shared) (v : Value), BindsTo s fd ⟨[v], []⟩ [("_law_script", v)]) ∧ ∀ base : Heap, K.In base → base.Ns mainGlobals mg → FnOk l.prog w K mg base CX0 6 fa fd ["_law_script"] (spLaw K) := by
  have e := hfa.symm.trans (PySem.W.mg_of X G a21)
  cases e
  have T : Txt mg := ⟨PySem.W.mg_none_of X G z0, PySem.W.mg_none_of X G z1, PySem.W.mg_none_of X G z2, PySem.W.mg_none_of X G z3, PySem.W.mg_none_of X G z4, PySem.W.mg_none_of X G z5, PySem.W.mg_none_of X G z6, PySem.W.mg_none_of X G z7, PySem.W.mg_none_of X G z8, PySem.W.mg_none_of X G z9, PySem.W.mg_none_of X G z10, ⟨_, PySem.W.mg_of X G m0⟩, ⟨_, PySem.W.mg_of X G m1⟩, ⟨_, PySem.W.mg_of X G m2⟩, ⟨_, PySem.W.mg_of X G m3⟩⟩
  have F0 := fun_mk (st := sWhole) l0 c0 k0
  have b0 := F0.binds (ps := ["value"]) fun _ _ _ _ _ _ us hl => match us, hl with | [_], _ => rfl
  have F1 := fun_mk (st := sWithin) l1 c1 k1
  have b1 := F1.binds (ps := ["value", "low", "high"]) fun _ _ _ _ _ _ us hl => match us, hl with | [_, _, _], _ => rfl
  have F2 := fun_mk (st := sNeedNumber) l2 c2 k2
  have b2 := F2.binds (ps := ["value", "low", "high"]) fun _ _ _ _ _ _ us hl => match us, hl with | [_, _, _], _ => rfl
  have F3 := fun_mk (st := sTupleOf) l3 c3 k3
  have b3 := F3.binds (ps := ["value", "low", "high"]) fun _ _ _ _ _ _ us hl => match us, hl with | [_, _, _], _ => rfl
  have F4 := fun_mk (st := sNeedValues) l4 c4 k4
  have b4 := F4.binds (ps := ["value"]) fun _ _ _ _ _ _ us hl => match us, hl with | [_], _ => rfl
  have F5 := fun_mk (st := sWrong) l5 c5 k5
  have b5 := F5.binds (ps := ["many", "value"]) fun _ _ _ _ _ _ us hl => match us, hl with | [_, _], _ => rfl
  have F6 := fun_mk (st := sNeedSlate) l6 c6 k6
  have b6 := F6.binds (ps := ["values", "slate"]) fun _ _ _ _ _ _ us hl => match us, hl with | [_, _], _ => rfl
  have F7 := fun_mk (st := sStepped) l7 c7 k7
  have b7 := F7.binds (ps := ["values", "slate", "letter"]) fun _ _ _ _ _ _ us hl => match us, hl with | [_, _, _], _ => rfl
  have F8 := fun_mk (st := sSpread) l8 c8 k8
  have b8 := F8.binds (ps := ["values", "slate"]) fun _ _ _ _ _ _ us hl => match us, hl with | [_, _], _ => rfl
  have F9 := fun_mk (st := sSpreadTo) l9 c9 k9
  have b9 := F9.binds (ps := ["values", "slate", "most"]) fun _ _ _ _ _ _ us hl => match us, hl with | [_, _, _], _ => rfl
  have F10 := fun_mk (st := sNeedPattern) l10 c10 k10
  have b10 := F10.binds (ps := ["values", "pattern"]) fun _ _ _ _ _ _ us hl => match us, hl with | [_, _], _ => rfl
  have F11 := fun_mk (st := sFilled) l11 c11 k11
  have b11 := F11.binds (ps := ["values", "slate", "pattern", "goal"]) fun _ _ _ _ _ _ us hl => match us, hl with | [_, _, _, _], _ => rfl
  have F12 := fun_mk (st := sCounted) l12 c12 k12
  have b12 := F12.binds (ps := ["values", "slate", "length"]) fun _ _ _ _ _ _ us hl => match us, hl with | [_, _, _], _ => rfl
  have F13 := fun_mk (st := sNumberTo) l13 c13 k13
  have b13 := F13.binds (ps := ["values", "slate", "goal", "length"]) fun _ _ _ _ _ _ us hl => match us, hl with | [_, _, _, _], _ => rfl
  have F14 := fun_mk (st := sTaken) l14 c14 k14
  have b14 := F14.binds (ps := ["_law_row", "_law_many"]) fun _ _ _ _ _ _ us hl => match us, hl with | [_, _], _ => rfl
  have F15 := fun_mk (st := sValues) l15 c15 k15
  have b15 := F15.binds (ps := ["_law_row", "_law_most", "_law_top"]) fun _ _ _ _ _ _ us hl => match us, hl with | [_, _, _], _ => rfl
  have F16 := fun_mk (st := sWord) l16 c16 k16
  have b16 := F16.binds (ps := ["_law_row", "_law_many", "_law_most"]) fun _ _ _ _ _ _ us hl => match us, hl with | [_, _, _], _ => rfl
  have F17 := fun_mk (st := sWrite) l17 c17 k17
  have b17 := F17.binds (ps := ["_law_values_here", "_law_slate", "_law_word_here"]) fun _ _ _ _ _ _ us hl => match us, hl with | [_, _, _], _ => rfl
  have F18 := fun_mk (st := sSlates) l18 c18 k18
  have b18 := F18.binds (ps := ["_law_values_here", "_law_slate"]) fun _ _ _ _ _ _ us hl => match us, hl with | [_, _], _ => rfl
  have F19 := fun_mk (st := sWords) l19 c19 k19
  have b19 := F19.binds (ps := ["_law_many", "_law_length"]) fun _ _ _ _ _ _ us hl => match us, hl with | [_, _], _ => rfl
  have F20 := fun_mk (st := sAlike) l20 c20 k20
  have b20 := F20.binds (ps := ["_law_found", "_law_due"]) fun _ _ _ _ _ _ us hl => match us, hl with | [_, _], _ => rfl
  have F21 := fun_mk (st := sLaw) l21 c21 k21
  refine ⟨PySem.W.fnOf "law" "law" (defArgs sLaw) (defBody sLaw) (defScope sLaw) .none kV21 dc21 pm21 an21 cd21 ct21, fun s v => .of_eq rfl, fun base _ _ => ?_⟩
  have H0 : Has l.prog w K mg base 1 "whole" ["value"] spWhole := ⟨_, _, ok_whole F0 T, PySem.W.mg_of X G a0, F0.kp, b0⟩
  have H1 : Has l.prog w K mg base 2 "within" ["value", "low", "high"] spWithin := ⟨_, _, ok_within F1 H0, PySem.W.mg_of X G a1, F1.kp, b1⟩
  have H2 : Has l.prog w K mg base 3 "need_number" ["value", "low", "high"] spNumber := ⟨_, _, ok_number F2 H1, PySem.W.mg_of X G a2, F2.kp, b2⟩
  have H3 : Has l.prog w K mg base 1 "tuple_of" ["value", "low", "high"] spTupleOf := ⟨_, _, ok_tupleOf F3 T, PySem.W.mg_of X G a3, F3.kp, b3⟩
  have H4 : Has l.prog w K mg base 3 "need_values" ["value"] spNeedValues := ⟨_, _, ok_needValues F4 T H3 H1, PySem.W.mg_of X G a4, F4.kp, b4⟩
  have H5 : Has l.prog w K mg base 3 "wrong_letter" ["many", "value"] spWrong := ⟨_, _, ok_wrong F5 T H1, PySem.W.mg_of X G a5, F5.kp, b5⟩
  have H6 : Has l.prog w K mg base 4 "need_slate" ["values", "slate"] spNeedSlate := ⟨_, _, ok_needSlate F6 T H3 H5, PySem.W.mg_of X G a6, F6.kp, b6⟩
  have H7 : Has l.prog w K mg base 1 "stepped" ["values", "slate", "letter"] spStepped := ⟨_, _, ok_stepped F7 T, PySem.W.mg_of X G a7, F7.kp, b7⟩
  have H9 : Has l.prog w K mg base 2 "spread_to" ["values", "slate", "most"] spSpreadTo := ⟨_, _, ok_spreadTo F9 T H7, PySem.W.mg_of X G a9, F9.kp, b9⟩
  have H8 : Has l.prog w K mg base 3 "spread" ["values", "slate"] spSpread := ⟨_, _, ok_spread F8 T H9, PySem.W.mg_of X G a8, F8.kp, b8⟩
  have H10 : Has l.prog w K mg base 3 "need_pattern" ["values", "pattern"] spNeedPattern := ⟨_, _, ok_needPattern F10 T H3 H1, PySem.W.mg_of X G a10, F10.kp, b10⟩
  have H11 : Has l.prog w K mg base 5 "filled" ["values", "slate", "pattern", "goal"] spFilled := ⟨_, _, ok_filled F11 T H4 H6 H10 H8 H7, PySem.W.mg_of X G a11, F11.kp, b11⟩
  have H12 : Has l.prog w K mg base 4 "counted" ["values", "slate", "length"] spCounted := ⟨_, _, ok_counted F12 T H8 H7, PySem.W.mg_of X G a12, F12.kp, b12⟩
  have H13 : Has l.prog w K mg base 5 "number_to" ["values", "slate", "goal", "length"] spNumberTo := ⟨_, _, ok_numberTo F13 H4 H6 H2 H12, PySem.W.mg_of X G a13, F13.kp, b13⟩
  have H14 : Has l.prog w K mg base 1 "_law_taken" ["_law_row", "_law_many"] (spTaken K) := ⟨_, _, ok_taken F14 T, PySem.W.mg_of X G a14, F14.kp, b14⟩
  have H15 : Has l.prog w K mg base 2 "_law_values" ["_law_row", "_law_most", "_law_top"] (spValues K) := ⟨_, _, ok_values F15 T H14, PySem.W.mg_of X G a15, F15.kp, b15⟩
  have H16 : Has l.prog w K mg base 2 "_law_word" ["_law_row", "_law_many", "_law_most"] (spWord K) := ⟨_, _, ok_word F16 T H14, PySem.W.mg_of X G a16, F16.kp, b16⟩
  have H17 : Has l.prog w K mg base 1 "_law_write" ["_law_values_here", "_law_slate", "_law_word_here"] spWrite := ⟨_, _, ok_write F17 T, PySem.W.mg_of X G a17, F17.kp, b17⟩
  have H18 : Has l.prog w K mg base 2 "_law_slates" ["_law_values_here", "_law_slate"] spSlates := ⟨_, _, ok_slates F18 T H17, PySem.W.mg_of X G a18, F18.kp, b18⟩
  have H19 : Has l.prog w K mg base 1 "_law_words" ["_law_many", "_law_length"] spWords := ⟨_, _, ok_words F19 T, PySem.W.mg_of X G a19, F19.kp, b19⟩
  have HA : Has l.prog w K mg base 3 "_law_alike" ["_law_found", "_law_due"] (spAlike 3) := has_alike F20 T (PySem.W.mg_of X G a20) b20 3
  exact ok_law F21 T H14 H15 H16 H17 H18 H19 HA H11 H13
end K62
open PySem PySem.W PyProof.Rows
set_option maxRecDepth 100000 in
set_option maxHeartbeats 0 in
theorem PySem.Challenge.cw_fadewords_k62_whole_patterns_holds : PySem.Challenge.rw_fadewords_k62_whole_patterns.Holds := by
  w_on; o_law; k_head; (case hw => w_witness2)
  k_fill
  refine L2.walk_of (l := PySem.Challenge.rw_fadewords_k62_whole_patterns) (n := 63) (k := 6) (x := "_law_script") (CX := fun _ => L2.CX0) (sp := fun w => K62.spLaw _) rfl (by decide) rfl ⟨rfl, by decide, by decide⟩ (fun w h Y => PySem.W.kIn_of Y) ?F (fun _ _ a ns hl _ hS => ⟨a, ns, rfl, hS, fun _ => rfl⟩) (fun _ _ _ _ _ h => h)
  case F =>
    intro w mg fa h KX G hmg
    refine' K62.all_mk KX G hmg ?a0 ?l0 ?c0 ?k0 ?a1 ?l1 ?c1 ?k1 ?a2 ?l2 ?c2 ?k2 ?a3 ?l3 ?c3 ?k3 ?a4 ?l4 ?c4 ?k4 ?a5 ?l5 ?c5 ?k5 ?a6 ?l6 ?c6 ?k6 ?a7 ?l7 ?c7 ?k7 ?a8 ?l8 ?c8 ?k8 ?a9 ?l9 ?c9 ?k9 ?a10 ?l10 ?c10 ?k10 ?a11 ?l11 ?c11 ?k11 ?a12 ?l12 ?c12 ?k12 ?a13 ?l13 ?c13 ?k13 ?a14 ?l14 ?c14 ?k14 ?a15 ?l15 ?c15 ?k15 ?a16 ?l16 ?c16 ?k16 ?a17 ?l17 ?c17 ?k17 ?a18 ?l18 ?c18 ?k18 ?a19 ?l19 ?c19 ?k19 ?a20 ?l20 ?c20 ?k20 ?a21 ?l21 ?c21 ?k21 ?z0 ?z1 ?z2 ?z3 ?z4 ?z5 ?z6 ?z7 ?z8 ?z9 ?z10 ?m0 ?m1 ?m2 ?m3
    (case a0 => k_is); (case l0 => k_is); (case c0 => k_is); (case k0 => k_is); (case a1 => k_is); (case l1 => k_is); (case c1 => k_is); (case k1 => k_is)
    (case a2 => k_is); (case l2 => k_is); (case c2 => k_is); (case k2 => k_is); (case a3 => k_is); (case l3 => k_is); (case c3 => k_is); (case k3 => k_is)
    (case a4 => k_is); (case l4 => k_is); (case c4 => k_is); (case k4 => k_is); (case a5 => k_is); (case l5 => k_is); (case c5 => k_is); (case k5 => k_is)
    (case a6 => k_is); (case l6 => k_is); (case c6 => k_is); (case k6 => k_is); (case a7 => k_is); (case l7 => k_is); (case c7 => k_is); (case k7 => k_is)
    (case a8 => k_is); (case l8 => k_is); (case c8 => k_is); (case k8 => k_is); (case a9 => k_is); (case l9 => k_is); (case c9 => k_is); (case k9 => k_is)
    (case a10 => k_is); (case l10 => k_is); (case c10 => k_is); (case k10 => k_is); (case a11 => k_is); (case l11 => k_is); (case c11 => k_is); (case k11 => k_is)
    (case a12 => k_is); (case l12 => k_is); (case c12 => k_is); (case k12 => k_is); (case a13 => k_is); (case l13 => k_is); (case c13 => k_is); (case k13 => k_is)
    (case a14 => k_is); (case l14 => k_is); (case c14 => k_is); (case k14 => k_is); (case a15 => k_is); (case l15 => k_is); (case c15 => k_is); (case k15 => k_is)
    (case a16 => k_is); (case l16 => k_is); (case c16 => k_is); (case k16 => k_is); (case a17 => k_is); (case l17 => k_is); (case c17 => k_is); (case k17 => k_is)
    (case a18 => k_is); (case l18 => k_is); (case c18 => k_is); (case k18 => k_is); (case a19 => k_is); (case l19 => k_is); (case c19 => k_is); (case k19 => k_is)
    (case a20 => k_is); (case l20 => k_is); (case c20 => k_is); (case k20 => k_is); (case a21 => k_is); (case l21 => k_is); (case c21 => k_is); (case k21 => k_is)
    (case z0 => k_is); (case z1 => k_is); (case z2 => k_is); (case z3 => k_is); (case z4 => k_is); (case z5 => k_is); (case z6 => k_is); (case z7 => k_is)
    (case z8 => k_is); (case z9 => k_is); (case z10 => k_is); (case m0 => k_is); (case m1 => k_is); (case m2 => k_is); (case m3 => k_is)
