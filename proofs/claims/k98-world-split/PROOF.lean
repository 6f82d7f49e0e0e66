import PyProof.Rows.All
import Wide.All
import OpenK.AllK
import Wide.FinOn
import HandS.ForMost
import HandS.Defaults
import HandS.MakeKwOnly
import HandS.Deep
import HandS.Evl
import HandS.IsInst
import HandS.Codes
import HandS.Wide
import HandS.HeadHook1
import HandS.Replace
import PySem.Challenge.RW_onehand_k98_whole_a_world_split_at_its_c
import KE.KStateDown
import Lean
import HandS.Head0
import HandS.Head1
import HandS.Head2
import HandS.HeadEnd
import HandS.HeadHook2
import HandS.HeadHook3
import HandS.HeadHook4
import HandS.Walk
import KE.GoesMore
import KE.GoesEnumKw
import KE.GoesZip
import HandS.Zip
import HandS.Strs
import HandS.Dict
import HandS.DictComp
import HandS.WordsDict
import HandS.TupSets
import PyProof.P3In
import HandS.Zip0
import PyProof.Rows.CallKwBuiltin
import KE.KeyNested
import KE.KDictKeyed
import KE.KDictDisplayH
import PyProof.Rows.TupTab
import HandS.SetTxt0
import HandS.SetFor
import HandS.More
import PyProof.Rows.SortStr
set_option Elab.async false
set_option linter.all false
set_option maxRecDepth 100000
-- OhBfs
/-! A search in layers: the first row by length, then by the deeds' order. Plain Lean. -/
namespace OH
section
variable {S : Type} [DecidableEq S] (r : Nat → Nat) (D : List Nat) (step : S → Nat → Option S) (goal : S → Bool)
def lexP : List Nat → List Nat → Prop
  | a :: as, b :: bs => r a < r b ∨ (a = b ∧ lexP as bs)
  | _, _ => False
/-- v comes ahead of w -/
def sl (v w : List Nat) : Prop := v.length < w.length ∨ (v.length = w.length ∧ lexP r v w)
def le (v w : List Nat) : Prop := v = w ∨ sl r v w
variable {r}
theorem lexP_irrefl : ∀ v : List Nat, ¬ lexP r v v
  | [], h => h
  | a :: v, h => by
    rcases h with h | h
    · omega
    · exact lexP_irrefl v h.2
theorem lexP_trans : ∀ {u v w : List Nat}, lexP r u v → lexP r v w → lexP r u w
  | [], _, _, h, _ => h.elim
  | _ :: _, [], _, h, _ => h.elim
  | _ :: _, _ :: _, [], _, h => h.elim
  | a :: u, b :: v, c :: w, h, k => by
    rcases h with h | ⟨rfl, h⟩
    · rcases k with k | ⟨rfl, k⟩
      · exact .inl (by omega)
      · exact .inl h
    · rcases k with k | ⟨rfl, k⟩
      · exact .inl k
      · exact .inr ⟨rfl, lexP_trans h k⟩
theorem lexP_app : ∀ {u v : List Nat} (x y : List Nat), lexP r u v → lexP r (u ++ x) (v ++ y)
  | [], _, _, _, h => h.elim
  | _ :: _, [], _, _, h => h.elim
  | a :: u, b :: v, x, y, h => by
    rcases h with h | ⟨rfl, h⟩
    · exact .inl h
    · exact .inr ⟨rfl, lexP_app x y h⟩
theorem lexP_pre : ∀ (p : List Nat) {u v : List Nat}, lexP r u v → lexP r (p ++ u) (p ++ v)
  | [], _, _, h => h
  | _ :: p, _, _, h => .inr ⟨rfl, lexP_pre p h⟩
theorem sl_irrefl (v : List Nat) : ¬ sl r v v := fun h => by
  rcases h with h | h
  · omega
  · exact lexP_irrefl v h.2
theorem sl_trans {u v w : List Nat} (h : sl r u v) (k : sl r v w) : sl r u w := by
  rcases h with h | ⟨e, h⟩
  · rcases k with k | ⟨e', k⟩
    · exact .inl (by omega)
    · exact .inl (by omega)
  · rcases k with k | ⟨e', k⟩
    · exact .inl (by omega)
    · exact .inr ⟨by omega, lexP_trans h k⟩
theorem le_sl {u v w : List Nat} (h : le r u v) (k : sl r v w) : sl r u w := by
  rcases h with rfl | h
  · exact k
  · exact sl_trans h k
theorem sl_le {u v w : List Nat} (h : sl r u v) (k : le r v w) : sl r u w := by
  rcases k with rfl | k
  · exact h
  · exact sl_trans h k
theorem le_trans {u v w : List Nat} (h : le r u v) (k : le r v w) : le r u w := by
  rcases h with rfl | h
  · exact k
  · exact .inr (sl_le h k)
theorem sl_mid {p u v q : List Nat} (h : sl r u v) : sl r (p ++ u ++ q) (p ++ v ++ q) := by
  rcases h with h | ⟨e, h⟩
  · exact .inl (by simp only [List.length_append]; omega)
  · exact .inr ⟨by simp only [List.length_append]; omega, lexP_app q q (lexP_pre p h)⟩
theorem sl_snoc {u v : List Nat} (a b : Nat) (h : sl r u v) : sl r (u ++ [a]) (v ++ [b]) := by
  rcases h with h | ⟨e, h⟩
  · exact .inl (by simp only [List.length_append, List.length_singleton]; omega)
  · exact .inr ⟨by simp only [List.length_append, List.length_singleton]; omega, lexP_app _ _ h⟩
theorem le_snoc {u v : List Nat} (a : Nat) (h : le r u v) : le r (u ++ [a]) (v ++ [a]) := by
  rcases h with rfl | h
  · exact .inl rfl
  · exact .inr (sl_snoc a a h)
theorem sl_last {u : List Nat} {a b : Nat} (h : r a < r b) : sl r (u ++ [a]) (u ++ [b]) :=
  .inr ⟨by simp, lexP_pre u (.inl h)⟩
theorem sl_nil {v : List Nat} (h : v ≠ []) : sl r [] v := .inl (by cases v with | nil => exact absurd rfl h | cons a v => simp)
theorem le_nil (v : List Nat) : le r [] v := by
  cases v with
  | nil => exact .inl rfl
  | cons a v => exact .inr (.inl (by simp))
theorem le_pre (u v : List Nat) : le r u (u ++ v) := by
  cases v with
  | nil => exact .inl (by simp)
  | cons a v => exact .inr (.inl (by simp))
theorem lexP_total : ∀ {u v : List Nat}, u.length = v.length → (∀ a ∈ u, ∀ b ∈ v, r a = r b → a = b) → u = v ∨ lexP r u v ∨ lexP r v u
  | [], [], _, _ => .inl rfl
  | [], _ :: _, h, _ => by simp at h
  | _ :: _, [], h, _ => by simp at h
  | a :: u, b :: v, h, k => by
    have hl : u.length = v.length := by simpa using h
    rcases Nat.lt_trichotomy (r a) (r b) with z | z | z
    · exact .inr (.inl (.inl z))
    · have e := k a (by simp) b (by simp) z
      subst e
      rcases lexP_total hl fun x hx y hy => k x (by simp [hx]) y (by simp [hy]) with q | q | q
      · exact .inl (by rw [q])
      · exact .inr (.inl (.inr ⟨rfl, q⟩))
      · exact .inr (.inr (.inr ⟨rfl, q⟩))
    · exact .inr (.inr (.inl z))
theorem sl_total {u v : List Nat} (k : ∀ a ∈ u, ∀ b ∈ v, r a = r b → a = b) : u = v ∨ sl r u v ∨ sl r v u := by
  rcases Nat.lt_trichotomy u.length v.length with z | z | z
  · exact .inr (.inl (.inl z))
  · rcases lexP_total z k with q | q | q
    · exact .inl q
    · exact .inr (.inl (.inr ⟨z, q⟩))
    · exact .inr (.inr (.inr ⟨z.symm, q⟩))
  · exact .inr (.inr (.inl z))
variable (r)
/-! ### the search -/
def adds (s : S) (w : List Nat) : List Nat → List (S × List Nat) → List (S × List Nat)
  | [], seen => seen
  | d :: ds, seen => match step s d with
    | none => adds s w ds seen
    | some s' => if s' ∈ seen.map (·.1) then adds s w ds seen else adds s w ds (seen ++ [(s', w ++ [d])])
/-- none: the fuel ended; some none: no row; some (some w): the row w -/
def bfs : Nat → Nat → List (S × List Nat) → Option (Option (List Nat))
  | 0, _, _ => none
  | n + 1, i, seen => match seen[i]? with
    | none => some none
    | some p => if goal p.1 = true then some (some p.2) else bfs n (i + 1) (adds step p.1 p.2 D seen)
def run : S → List Nat → Option S
  | s, [] => some s
  | s, d :: ds => (step s d).bind fun s' => run s' ds
theorem run_app : ∀ (v w : List Nat) (s : S), run step s (v ++ w) = (run step s v).bind fun s' => run step s' w
  | [], w, s => rfl
  | d :: v, w, s => by
    show (step s d).bind (fun s' => run step s' (v ++ w)) = ((step s d).bind fun s' => run step s' v).bind fun s' => run step s' w
    cases step s d with
    | none => rfl
    | some s' => exact run_app v w s'
theorem run_snoc {s s1 s2 : S} {v : List Nat} {d : Nat} (h : run step s v = some s1) (k : step s1 d = some s2) : run step s (v ++ [d]) = some s2 := by
  rw [run_app, h]
  show (step s1 d).bind (fun s' => run step s' []) = some s2
  rw [k]
  rfl
structure AInv (s0 : S) (i : Nat) (done : List Nat) (seen : List (S × List Nat)) : Prop where
  head : seen[0]? = some (s0, [])
  runs : ∀ p ∈ seen, run step s0 p.2 = some p.1 ∧ ∀ d ∈ p.2, d ∈ D
  nodup : (seen.map (·.1)).Nodup
  inc : (seen.map (·.2)).Pairwise (sl r)
  par : ∀ k p, seen[k]? = some p → k ≠ 0 → ∃ j q d, seen[j]? = some q ∧ p.2 = q.2 ++ [d] ∧ d ∈ D ∧ (j < i ∨ (j = i ∧ d ∈ done))
  clos : ∀ j q d s', seen[j]? = some q → d ∈ D → (j < i ∨ (j = i ∧ d ∈ done)) → step q.1 d = some s' → ∃ p ∈ seen, p.1 = s' ∧ le r p.2 (q.2 ++ [d])
  nogoal : ∀ j q, j < i → seen[j]? = some q → goal q.1 = false
variable {r D step goal} {s0 : S} {i : Nat} {done : List Nat} {seen : List (S × List Nat)}
theorem AInv.start (s0 : S) : AInv r D step goal s0 0 [] [(s0, [])] where
  head := rfl
  runs := fun p hp => by
    have e : p = (s0, []) := by simpa using hp
    subst e
    exact ⟨rfl, fun d hd => by simp at hd⟩
  nodup := by simp
  inc := by simp
  par := fun k p hk hk0 => by
    cases k with
    | zero => exact absurd rfl hk0
    | succ k => simp at hk
  clos := fun j q d s' hj _ hjd _ => by
    rcases hjd with z | z
    · omega
    · simp at z
  nogoal := fun j q hj _ => by omega
theorem AInv.lt_of (A : AInv r D step goal s0 i done seen) {j k : Nat} {p q : S × List Nat} (hj : seen[j]? = some p) (hk : seen[k]? = some q) (h : j < k) : sl r p.2 q.2 := by
  obtain ⟨j1, e1⟩ := List.getElem?_eq_some_iff.mp hj
  obtain ⟨k1, e2⟩ := List.getElem?_eq_some_iff.mp hk
  have h1 := List.pairwise_iff_getElem.mp A.inc j k (by simpa using j1) (by simpa using k1) h
  simpa [e1, e2] using h1
/-- every word in seen is at most a child of the one at i by d, all of whose children by the deeds ahead of d are there -/
theorem AInv.below (A : AInv r D step goal s0 i done seen) {q : S × List Nat} (hq : seen[i]? = some q) {d : Nat} (hd : ∀ x ∈ done, r x < r d) {p : S × List Nat} (hp : p ∈ seen) : sl r p.2 (q.2 ++ [d]) := by
  obtain ⟨k, hk⟩ := List.mem_iff_getElem?.mp hp
  by_cases h0 : k = 0
  · subst h0
    rw [A.head] at hk
    cases hk
    exact sl_nil (by simp)
  · obtain ⟨j, q', d', hj, e, _, z⟩ := A.par k p hk h0
    rw [e]
    rcases z with z | ⟨rfl, z⟩
    · exact sl_snoc d' d (A.lt_of hj hq z)
    · rw [hq] at hj
      cases hj
      exact sl_last (hd d' z)
theorem AInv.step1 (A : AInv r D step goal s0 i done seen) {q : S × List Nat} (hq : seen[i]? = some q) {d : Nat} (hD : d ∈ D) (hd : ∀ x ∈ done, r x < r d) :
    AInv r D step goal s0 i (done ++ [d]) (match step q.1 d with
      | none => seen
      | some s' => if s' ∈ seen.map (·.1) then seen else seen ++ [(s', q.2 ++ [d])]) := by
  have mem_done : ∀ {x : Nat}, x ∈ done ++ [d] → x ∈ done ∨ x = d := fun {x} h => by simpa using h
  cases hs : step q.1 d with
  | none =>
    refine ⟨A.head, A.runs, A.nodup, A.inc, fun k p hk h0 => ?_, fun j q' d' s' hj hD' z hst => ?_, A.nogoal⟩
    · obtain ⟨j, q', d', h1, h2, h3, z⟩ := A.par k p hk h0
      exact ⟨j, q', d', h1, h2, h3, z.imp id fun z => ⟨z.1, List.mem_append_left _ z.2⟩⟩
    · rcases z with z | ⟨rfl, z⟩
      · exact A.clos j q' d' s' hj hD' (.inl z) hst
      · rcases mem_done z with z | rfl
        · exact A.clos j q' d' s' hj hD' (.inr ⟨rfl, z⟩) hst
        · rw [hq] at hj
          cases hj
          rw [hs] at hst
          cases hst
  | some s1 =>
    by_cases hm : s1 ∈ seen.map (·.1)
    · simp only [hm, if_true]
      refine ⟨A.head, A.runs, A.nodup, A.inc, fun k p hk h0 => ?_, fun j q' d' s' hj hD' z hst => ?_, A.nogoal⟩
      · obtain ⟨j, q', d', h1, h2, h3, z⟩ := A.par k p hk h0
        exact ⟨j, q', d', h1, h2, h3, z.imp id fun z => ⟨z.1, List.mem_append_left _ z.2⟩⟩
      · rcases z with z | ⟨rfl, z⟩
        · exact A.clos j q' d' s' hj hD' (.inl z) hst
        · rcases mem_done z with z | rfl
          · exact A.clos j q' d' s' hj hD' (.inr ⟨rfl, z⟩) hst
          · rw [hq] at hj
            cases hj
            rw [hs] at hst
            cases hst
            obtain ⟨p, hp, e⟩ := List.mem_map.mp hm
            exact ⟨p, hp, e, .inr (A.below hq hd hp)⟩
    · simp only [hm, if_false]
      have hlt : i < seen.length := (List.getElem?_eq_some_iff.mp hq).1
      have hold : ∀ {k : Nat} {p : S × List Nat}, seen[k]? = some p → (seen ++ [(s1, q.2 ++ [d])])[k]? = some p := fun {k p} h => by
        rw [List.getElem?_append_left (List.getElem?_eq_some_iff.mp h).1]; exact h
      have hcase : ∀ {k : Nat} {p : S × List Nat}, (seen ++ [(s1, q.2 ++ [d])])[k]? = some p → seen[k]? = some p ∨ (k = seen.length ∧ p = (s1, q.2 ++ [d])) := fun {k p} h => by
        by_cases hk : k < seen.length
        · rw [List.getElem?_append_left hk] at h
          exact .inl h
        · rw [List.getElem?_append_right (by omega)] at h
          have hk2 : k - seen.length = 0 := by
            have := (List.getElem?_eq_some_iff.mp h).1
            simpa using this
          rw [hk2] at h
          exact .inr ⟨by omega, by simpa using h.symm⟩
      have hq' := hold hq
      have hrun : run step s0 (q.2 ++ [d]) = some s1 := run_snoc step (A.runs q (List.mem_of_getElem? hq)).1 hs
      refine ⟨hold A.head, fun p hp => ?_, ?_, ?_, fun k p hk h0 => ?_, fun j q' d' s' hj hD' z hst => ?_, fun j q' hj hjq => ?_⟩
      · rcases List.mem_append.mp hp with hp | hp
        · exact A.runs p hp
        · have e : p = (s1, q.2 ++ [d]) := by simpa using hp
          subst e
          refine ⟨hrun, fun x hx => ?_⟩
          rcases List.mem_append.mp hx with hx | hx
          · exact (A.runs q (List.mem_of_getElem? hq)).2 x hx
          · have e : x = d := by simpa using hx
            rw [e]; exact hD
      · rw [List.map_append, List.map_singleton, List.nodup_append]
        refine ⟨A.nodup, by simp, fun a ha b hb => ?_⟩
        have e : b = s1 := by simpa using hb
        subst e
        exact fun e => hm (e ▸ ha)
      · rw [List.map_append, List.map_singleton, List.pairwise_append]
        refine ⟨A.inc, by simp, fun a ha b hb => ?_⟩
        have e : b = q.2 ++ [d] := by simpa using hb
        subst e
        obtain ⟨p, hp, e⟩ := List.mem_map.mp ha
        subst e
        exact A.below hq hd hp
      · rcases hcase hk with hk | ⟨rfl, rfl⟩
        · obtain ⟨j, q', d', h1, h2, h3, z⟩ := A.par k p hk h0
          exact ⟨j, q', d', hold h1, h2, h3, z.imp id fun z => ⟨z.1, List.mem_append_left _ z.2⟩⟩
        · exact ⟨i, q, d, hq', rfl, hD, .inr ⟨rfl, by simp⟩⟩
      · have hjl : j ≤ i := by rcases z with z | z <;> omega
        have hj1 : seen[j]? = some q' := by
          rcases hcase hj with hj | ⟨e, _⟩
          · exact hj
          · omega
        rcases z with z | ⟨rfl, z⟩
        · obtain ⟨p, hp, h1, h2⟩ := A.clos j q' d' s' hj1 hD' (.inl z) hst
          exact ⟨p, List.mem_append_left _ hp, h1, h2⟩
        · rcases mem_done z with z | rfl
          · obtain ⟨p, hp, h1, h2⟩ := A.clos j q' d' s' hj1 hD' (.inr ⟨rfl, z⟩) hst
            exact ⟨p, List.mem_append_left _ hp, h1, h2⟩
          · rw [hq] at hj1
            cases hj1
            rw [hs] at hst
            cases hst
            exact ⟨(s1, q.2 ++ [d']), by simp, rfl, .inl rfl⟩
      · rcases hcase hjq with h | ⟨e, _⟩
        · exact A.nogoal j q' hj h
        · omega
theorem adds_get : ∀ (ds : List Nat) (s : S) (w : List Nat) (seen : List (S × List Nat)) {k : Nat} {p : S × List Nat}, seen[k]? = some p → (adds step s w ds seen)[k]? = some p
  | [], _, _, _, _, _, h => h
  | d :: ds, s, w, seen, k, p, h => by
    unfold adds
    cases step s d with
    | none => exact adds_get ds s w seen h
    | some s' =>
      show (if s' ∈ seen.map (·.1) then adds step s w ds seen else adds step s w ds (seen ++ [(s', w ++ [d])]))[k]? = some p
      by_cases hm : s' ∈ seen.map (·.1)
      · rw [if_pos hm]; exact adds_get ds s w seen h
      · rw [if_neg hm]
        refine adds_get ds s w _ ?_
        rw [List.getElem?_append_left (List.getElem?_eq_some_iff.mp h).1]; exact h
theorem AInv.all (hpw : D.Pairwise fun a b => r a < r b) {q : S × List Nat} : ∀ (ds done : List Nat) (seen : List (S × List Nat)), done ++ ds = D → AInv r D step goal s0 i done seen → seen[i]? = some q → AInv r D step goal s0 i D (adds step q.1 q.2 ds seen)
  | [], done, seen, e, A, _ => by
    rw [List.append_nil] at e
    subst e
    exact A
  | d :: ds, done, seen, e, A, hq => by
    have hD : d ∈ D := by rw [← e]; simp
    have hd : ∀ x ∈ done, r x < r d := fun x hx => by
      rw [← e] at hpw
      exact (List.pairwise_append.mp hpw).2.2 x hx d (by simp)
    have A1 := A.step1 hq hD hd
    have e1 : (done ++ [d]) ++ ds = D := by rw [List.append_assoc]; exact e
    unfold adds
    cases hs : step q.1 d with
    | none =>
      rw [hs] at A1
      exact AInv.all hpw ds _ seen e1 A1 hq
    | some s' =>
      rw [hs] at A1
      show AInv r D step goal s0 i D (if s' ∈ seen.map (·.1) then adds step q.1 q.2 ds seen else adds step q.1 q.2 ds (seen ++ [(s', q.2 ++ [d])]))
      by_cases hm : s' ∈ seen.map (·.1)
      · simp only [hm, if_true] at A1
        rw [if_pos hm]; exact AInv.all hpw ds _ seen e1 A1 hq
      · simp only [hm, if_false] at A1
        rw [if_neg hm]
        refine AInv.all hpw ds _ _ e1 A1 ?_
        rw [List.getElem?_append_left (List.getElem?_eq_some_iff.mp hq).1]; exact hq
theorem AInv.next (A : AInv r D step goal s0 i D seen) {q : S × List Nat} (hq : seen[i]? = some q) (hg : goal q.1 = false) : AInv r D step goal s0 (i + 1) [] seen where
  head := A.head
  runs := A.runs
  nodup := A.nodup
  inc := A.inc
  par := fun k p hk h0 => by
    obtain ⟨j, q', d', h1, h2, h3, z⟩ := A.par k p hk h0
    exact ⟨j, q', d', h1, h2, h3, .inl (by rcases z with z | z <;> omega)⟩
  clos := fun j q' d s' hj hD z hst => by
    refine A.clos j q' d s' hj hD ?_ hst
    rcases z with z | ⟨_, z⟩
    · by_cases e : j = i
      · exact .inr ⟨e, hD⟩
      · exact .inl (by omega)
    · simp at z
  nogoal := fun j q' hj hjq => by
    by_cases e : j = i
    · subst e
      rw [hq] at hjq
      cases hjq
      exact hg
    · exact A.nogoal j q' (by omega) hjq
/-- one turn of the search keeps the word -/
theorem AInv.turn (hpw : D.Pairwise fun a b => r a < r b) (A : AInv r D step goal s0 i [] seen) {q : S × List Nat} (hq : seen[i]? = some q) (hg : goal q.1 = false) : AInv r D step goal s0 (i + 1) [] (adds step q.1 q.2 D seen) :=
  (AInv.all hpw D [] seen rfl A hq).next (adds_get D q.1 q.2 seen hq) hg
theorem AInv.reach (A : AInv r D step goal s0 i [] seen) {p : S × List Nat} (b : List Nat → Prop) (hb : ∀ u v, b (u ++ v) → b u) (hlt : ∀ q ∈ seen, b q.2 → ∃ j, j < i ∧ seen[j]? = some q) (hbl : ∀ u v, le r u v → b v → b u) :
    ∀ (v : List Nat) (s : S), (∀ d ∈ v, d ∈ D) → run step s0 v = some s → b v → ∃ q ∈ seen, q.1 = s ∧ le r q.2 v := by
  have key : ∀ (n : Nat) (v : List Nat) (s : S), v.length = n → (∀ d ∈ v, d ∈ D) → run step s0 v = some s → b v → ∃ q ∈ seen, q.1 = s ∧ le r q.2 v := by
    intro n
    induction n with
    | zero =>
      intro v s hl _ hr _
      have e : v = [] := List.eq_nil_of_length_eq_zero hl
      subst e
      have e2 : s0 = s := Option.some.inj hr
      exact ⟨(s0, []), List.mem_of_getElem? A.head, e2, .inl rfl⟩
    | succ n ih =>
      intro v s hl hD hr hv
      rcases List.eq_nil_or_concat v with e | ⟨u, d, e⟩
      · subst e; simp at hl
      · have e : v = u ++ [d] := by simpa using e
        subst e
        rw [run_app] at hr
        cases h1 : run step s0 u with
        | none => rw [h1] at hr; cases hr
        | some s1 =>
          rw [h1] at hr
          have hr2 : (step s1 d).bind (fun s' => run step s' []) = some s := hr
          cases h2 : step s1 d with
          | none => rw [h2] at hr2; cases hr2
          | some s2 =>
            rw [h2] at hr2
            have e2 : s2 = s := Option.some.inj hr2
            subst e2
            obtain ⟨q, hq, e3, e4⟩ := ih u s1 (by simp at hl; omega) (fun x hx => hD x (List.mem_append_left _ hx)) h1 (hb _ _ hv)
            obtain ⟨j, hj, hjq⟩ := hlt q hq (hbl _ _ e4 (hb _ _ hv))
            subst e3
            obtain ⟨p, hp, h3, h4⟩ := A.clos j q d s2 hjq (hD d (by simp)) (.inl hj) h2
            exact ⟨p, hp, h3, le_trans h4 (le_snoc d e4)⟩
  exact fun v s => key v.length v s rfl
/-- where the search stands at a goal, its word is the first -/
theorem AInv.first (A : AInv r D step goal s0 i [] seen) {q : S × List Nat} (hq : seen[i]? = some q) {v : List Nat} {s : S} (hD : ∀ d ∈ v, d ∈ D) (hr : run step s0 v = some s) (hg : goal s = true) : ¬ sl r v q.2 := fun hlt => by
  have hlt' : ∀ p ∈ seen, sl r p.2 q.2 → ∃ j, j < i ∧ seen[j]? = some p := fun p hp hpq => by
    obtain ⟨j, hj⟩ := List.mem_iff_getElem?.mp hp
    refine ⟨j, ?_, hj⟩
    rcases Nat.lt_trichotomy j i with z | z | z
    · exact z
    · subst z
      rw [hq] at hj
      cases hj
      exact absurd hpq (sl_irrefl _)
    · exact absurd (sl_trans hpq (A.lt_of hq hj z)) (sl_irrefl _)
  obtain ⟨p, hp, e, hl⟩ := A.reach (p := q) (fun u => sl r u q.2) (fun u w h => le_sl (le_pre u w) h) hlt' (fun u w h k => le_sl h k) v s hD hr hlt
  obtain ⟨j, hj, hjp⟩ := hlt' p hp (le_sl hl hlt)
  have := A.nogoal j p hj hjp
  rw [e, hg] at this
  cases this
/-- where all is gone through no goal comes -/
theorem AInv.never (A : AInv r D step goal s0 i [] seen) (hn : seen[i]? = none) {v : List Nat} {s : S} (hD : ∀ d ∈ v, d ∈ D) (hr : run step s0 v = some s) : goal s = false := by
  have hlt' : ∀ p ∈ seen, True → ∃ j, j < i ∧ seen[j]? = some p := fun p hp _ => by
    obtain ⟨j, hj⟩ := List.mem_iff_getElem?.mp hp
    have h1 := (List.getElem?_eq_some_iff.mp hj).1
    have h2 := List.getElem?_eq_none_iff.mp hn
    exact ⟨j, by omega, hj⟩
  obtain ⟨p, hp, e, hl⟩ := A.reach (p := (s0, [])) (fun _ => True) (fun _ _ _ => trivial) hlt' (fun _ _ _ _ => trivial) v s hD hr trivial
  obtain ⟨j, hj, hjp⟩ := hlt' p hp trivial
  rw [← e]
  exact A.nogoal j p hj hjp
theorem bfs_inv (hpw : D.Pairwise fun a b => r a < r b) : ∀ (n i : Nat) (seen : List (S × List Nat)) (o : Option (List Nat)), AInv r D step goal s0 i [] seen → bfs D step goal n i seen = some o →
    ∃ j seen', AInv r D step goal s0 j [] seen' ∧ match o with
      | none => seen'[j]? = none
      | some w => ∃ s, seen'[j]? = some (s, w) ∧ goal s = true
  | 0, _, _, _, _, h => by cases h
  | n + 1, i, seen, o, A, h => by
    unfold bfs at h
    cases hq : seen[i]? with
    | none =>
      rw [hq] at h
      have e : none = o := Option.some.inj h
      subst e
      exact ⟨i, seen, A, hq⟩
    | some q =>
      rw [hq] at h
      simp only at h
      cases hg : goal q.1 with
      | true =>
        rw [hg, if_pos rfl] at h
        have e : some q.2 = o := Option.some.inj h
        subst e
        exact ⟨i, seen, A, q.1, hq, hg⟩
      | false =>
        rw [hg, if_neg Bool.false_ne_true] at h
        exact bfs_inv hpw n (i + 1) _ o (A.turn hpw hq hg) h
theorem bfs_row (hpw : D.Pairwise fun a b => r a < r b) {n : Nat} {w : List Nat} (h : bfs D step goal n 0 [(s0, [])] = some (some w)) :
    (∃ s, run step s0 w = some s ∧ goal s = true) ∧ (∀ d ∈ w, d ∈ D) ∧ ∀ v s, (∀ d ∈ v, d ∈ D) → run step s0 v = some s → goal s = true → ¬ sl r v w := by
  obtain ⟨j, seen, A, s, hs, hg⟩ := bfs_inv hpw n 0 _ _ (AInv.start s0) h
  have h1 := A.runs _ (List.mem_of_getElem? hs)
  exact ⟨⟨s, h1.1, hg⟩, h1.2, fun v s' hD hr hg' => A.first hs hD hr hg'⟩
theorem bfs_none (hpw : D.Pairwise fun a b => r a < r b) {n : Nat} (h : bfs D step goal n 0 [(s0, [])] = some none) : ∀ v s, (∀ d ∈ v, d ∈ D) → run step s0 v = some s → goal s = false := by
  obtain ⟨j, seen, A, hs⟩ := bfs_inv hpw n 0 _ _ (AInv.start s0) h
  exact fun v s hD hr => A.never hs hD hr
/-! ### it ends -/
theorem nodup_len : ∀ (l L : List S), l.Nodup → (∀ x ∈ l, x ∈ L) → l.length ≤ L.length
  | [], _, _, _ => Nat.zero_le _
  | a :: l, L, hn, h => by
    obtain ⟨h1, h2⟩ := List.nodup_cons.mp hn
    have h3 : l.length ≤ (L.erase a).length := nodup_len l (L.erase a) h2 fun x hx => (List.mem_erase_of_ne (show x ≠ a from fun e => h1 (e ▸ hx))).mpr (h x (List.mem_cons_of_mem _ hx))
    have h4 : a ∈ L := h a (by simp)
    have h5 := List.length_erase_of_mem h4
    have h6 : 0 < L.length := List.length_pos_of_mem h4
    simp only [List.length_cons]
    omega
theorem run_in {ok : S → Prop} (hok : ∀ s d s', ok s → d ∈ D → step s d = some s' → ok s') : ∀ (v : List Nat) (s s' : S), ok s → (∀ d ∈ v, d ∈ D) → run step s v = some s' → ok s'
  | [], s, s', h, _, e => by
    have e : s = s' := Option.some.inj e
    exact e ▸ h
  | d :: v, s, s', h, hD, e => by
    have e : (step s d).bind (fun s' => run step s' v) = some s' := e
    cases hs : step s d with
    | none => rw [hs] at e; cases e
    | some s1 =>
      rw [hs] at e
      exact run_in hok v s1 s' (hok s d s1 h (hD d (by simp)) hs) (fun x hx => hD x (List.mem_cons_of_mem _ hx)) e
theorem AInv.oks (A : AInv r D step goal s0 i done seen) {ok : S → Prop} (h0 : ok s0) (hok : ∀ s d s', ok s → d ∈ D → step s d = some s' → ok s') : ∀ p ∈ seen, ok p.1 := fun p hp =>
  run_in hok p.2 s0 p.1 h0 (A.runs p hp).2 (A.runs p hp).1
theorem AInv.short (A : AInv r D step goal s0 i done seen) {ok : S → Prop} (h0 : ok s0) (hok : ∀ s d s', ok s → d ∈ D → step s d = some s' → ok s') {L : List S} (hL : ∀ s, ok s → s ∈ L) : seen.length ≤ L.length := by
  have h := nodup_len (seen.map (·.1)) L A.nodup fun x hx => by
    obtain ⟨p, hp, e⟩ := List.mem_map.mp hx
    subst e
    exact hL _ (A.oks h0 hok p hp)
  simpa using h
theorem adds_len (ds : List Nat) (s : S) (w : List Nat) (seen : List (S × List Nat)) : seen.length ≤ (adds step s w ds seen).length := by
  cases h : seen.length with
  | zero => exact Nat.zero_le _
  | succ n =>
    have h1 : seen[n]? = some (seen[n]'(by omega)) := List.getElem?_eq_getElem (by omega)
    have h2 := adds_get (step := step) ds s w seen h1
    exact (List.getElem?_eq_some_iff.mp h2).1
theorem bfs_ends (hpw : D.Pairwise fun a b => r a < r b) {ok : S → Prop} (h0 : ok s0) (hok : ∀ s d s', ok s → d ∈ D → step s d = some s' → ok s') {L : List S} (hL : ∀ s, ok s → s ∈ L) :
    ∀ (n i : Nat) (seen : List (S × List Nat)), AInv r D step goal s0 i [] seen → i ≤ seen.length → L.length < n + i → ∃ o, bfs D step goal n i seen = some o
  | 0, i, seen, A, hi, hn => by
    exfalso
    have h1 := A.short h0 hok hL
    omega
  | n + 1, i, seen, A, hi, hn => by
    unfold bfs
    cases hq : seen[i]? with
    | none => exact ⟨none, rfl⟩
    | some q =>
      simp only
      cases hg : goal q.1 with
      | true => exact ⟨some q.2, by rw [if_pos rfl]⟩
      | false =>
        rw [if_neg Bool.false_ne_true]
        refine bfs_ends hpw h0 hok hL n (i + 1) _ (A.turn hpw hq hg) ?_ (by omega)
        have h1 := (List.getElem?_eq_some_iff.mp hq).1
        have h2 := adds_len (step := step) D q.1 q.2 seen
        omega
end
end OH
-- OhMir
/-! The plain mirror: places, turns, floors, walkers. Texts are lists of codes. -/
namespace OH
abbrev Tx := List Nat
abbrev Pl := Int × Int
abbrev Sd := Option (Pl × Tx)
def DEEDS : Tx := [117, 114, 100, 108]
def TURNS : List Tx := [[117, 114, 100, 108], [114, 100, 108, 117], [100, 108, 117, 114], [108, 117, 114, 100], [117, 108, 100, 114], [100, 114, 117, 108], [108, 100, 114, 117], [114, 117, 108, 100]]
def ix (d : Nat) : Nat := DEEDS.idxOf d
def way (t : Tx) (d : Nat) : Nat := t.getD (ix d) 0
def thenT (one other : Tx) : Tx := one.map (way other)
def LETTERS : Tx := [97, 98, 99, 100]
def OPEN : Tx := [46, 97, 98, 99, 100]
def STAND : Tx := [46, 97, 98, 99, 100, 126]
def SIGNS : Tx := [35, 126, 120, 46, 97, 98, 99, 100]
def wid (rows : List Tx) : Nat := (rows.getD 0 []).length
/-- the place is one of so many rows and columns -/
def inP (h w : Nat) (p : Pl) : Bool := (decide (0 ≤ p.1) && decide (p.1 ≤ (h : Int) - 1)) && (decide (0 ≤ p.2) && decide (p.2 ≤ (w : Int) - 1))
def inF (rows : List Tx) (p : Pl) : Bool := inP rows.length (wid rows) p
def sgn (rows : List Tx) (p : Pl) : Nat := if inF rows p = true then (rows.getD p.1.toNat []).getD p.2.toNat 35 else 35
def stepD (w : Nat) : Int × Int := if w = 117 then (-1, 0) else if w = 114 then (0, 1) else if w = 100 then (1, 0) else (0, -1)
def nxt (p : Pl) (w : Nat) : Pl := (p.1 + (stepD w).1, p.2 + (stepD w).2)
def slide (rows : List Tx) (w : Nat) : Nat → Pl → Pl → Pl × Pl
  | 0, h, t => (h, t)
  | n + 1, h, t => if sgn rows t = 126 then slide rows w n t (nxt t w) else (h, t)
def goes (rows : List Tx) (p : Pl) (w : Nat) : Option Pl :=
  let z := slide rows w 7 p (nxt p w)
  if sgn rows z.2 = 35 then some z.1 else if sgn rows z.2 = 120 then none else some z.2
/-- rows of a floor -/
structure Rows (rows : List Tx) : Prop where
  h1 : 1 ≤ rows.length
  h6 : rows.length ≤ 6
  w1 : 1 ≤ wid rows
  w6 : wid rows ≤ 6
  all : ∀ r ∈ rows, r.length = wid rows ∧ ∀ c ∈ r, c ∈ SIGNS
/-- one can stand there -/
def okP (rows : List Tx) (p : Pl) : Bool := inF rows p && decide (sgn rows p ∈ STAND)
def okS (rows : List Tx) : Sd → Bool
  | none => true
  | some (p, t) => okP rows p && decide (t ∈ TURNS)
/-- the stand behind a deed; book: the turns of the letters -/
def behind (rows : List Tx) (book : List (Nat × Tx)) (s : Sd) (d : Nat) : Sd := match s with
  | none => none
  | some (p, t) => match goes rows p (way t d) with
    | none => none
    | some q => if q = p then some (p, t) else match book.lookup (sgn rows q) with
      | some b => some (q, thenT t b)
      | none => some (q, t)
def wished (goals : List Pl) (s : Sd) : Bool := match s with
  | none => false
  | some (p, _) => decide (p ∈ goals)
/-! ### sliding ends -/
def pot (rows : List Tx) (w : Nat) (p : Pl) : Nat := if w = 117 then (p.1 + 1).toNat else if w = 114 then ((wid rows : Int) - p.2).toNat else if w = 100 then ((rows.length : Int) - p.1).toNat else (p.2 + 1).toNat
theorem inF_iff {rows : List Tx} {p : Pl} : inF rows p = true ↔ (0 ≤ p.1 ∧ p.1 ≤ (rows.length : Int) - 1) ∧ (0 ≤ p.2 ∧ p.2 ≤ (wid rows : Int) - 1) := by
  unfold inF inP
  simp only [Bool.and_eq_true, decide_eq_true_eq]
theorem ice_in {rows : List Tx} {p : Pl} {c : Nat} (h : sgn rows p = c) (hc : c ≠ 35) : inF rows p = true := by
  cases e : inF rows p with
  | true => rfl
  | false =>
    unfold sgn at h
    rw [e] at h
    exact absurd h.symm hc
theorem pot_in {rows : List Tx} {w : Nat} {p : Pl} (h : inF rows p = true) : 1 ≤ pot rows w p := by
  obtain ⟨⟨a1, a2⟩, b1, b2⟩ := inF_iff.mp h
  unfold pot
  split
  · omega
  · split
    · omega
    · split <;> omega
theorem pot_next {rows : List Tx} {w : Nat} {p : Pl} (hw : w ∈ DEEDS) : pot rows w (nxt p w) ≤ pot rows w p - 1 := by
  simp only [DEEDS, List.mem_cons, List.not_mem_nil, or_false] at hw
  rcases hw with rfl | rfl | rfl | rfl <;> simp [pot, nxt, stepD] <;> omega
theorem pot_le {rows : List Tx} (R : Rows rows) {w : Nat} {p : Pl} (h : inF rows p = true) : pot rows w p ≤ 6 := by
  obtain ⟨⟨a1, a2⟩, b1, b2⟩ := inF_iff.mp h
  have h1 := R.h6
  have h2 := R.w6
  unfold pot
  split
  · omega
  · split
    · omega
    · split <;> omega
theorem slide_ice {rows : List Tx} {w n : Nat} {h t : Pl} (e : sgn rows t = 126) : slide rows w (n + 1) h t = slide rows w n t (nxt t w) := by
  show (if sgn rows t = 126 then slide rows w n t (nxt t w) else (h, t)) = _
  rw [if_pos e]
theorem slide_stop {rows : List Tx} {w n : Nat} {h t : Pl} (e : sgn rows t ≠ 126) : slide rows w n h t = (h, t) := by
  cases n with
  | zero => rfl
  | succ n =>
    show (if sgn rows t = 126 then slide rows w n t (nxt t w) else (h, t)) = _
    rw [if_neg e]
/-- where all is slid, there is no ice ahead -/
theorem slide_end {rows : List Tx} {w : Nat} (hw : w ∈ DEEDS) : ∀ (n : Nat) (h t : Pl), pot rows w t ≤ n → sgn rows (slide rows w n h t).2 ≠ 126
  | 0, h, t, hp => fun e => by
    have := pot_in (w := w) (ice_in (rows := rows) (p := t) e (by decide))
    omega
  | n + 1, h, t, hp => by
    by_cases e : sgn rows t = 126
    · rw [slide_ice e]
      refine slide_end hw n _ _ ?_
      have := pot_next (rows := rows) (p := t) hw
      omega
    · rw [slide_stop e]; exact e
theorem okP_ice {rows : List Tx} {p : Pl} (h : sgn rows p = 126) : okP rows p = true := by
  unfold okP
  rw [ice_in h (by decide), h]
  rfl
theorem slide_ok {rows : List Tx} {w : Nat} : ∀ (n : Nat) (h t : Pl), okP rows h = true → okP rows (slide rows w n h t).1 = true
  | 0, h, t, k => k
  | n + 1, h, t, k => by
    by_cases e : sgn rows t = 126
    · rw [slide_ice e]; exact slide_ok n _ _ (okP_ice e)
    · rw [slide_stop e]; exact k
theorem sgn_signs {rows : List Tx} (R : Rows rows) (p : Pl) : sgn rows p ∈ SIGNS := by
  unfold sgn
  split
  · rename_i h
    obtain ⟨⟨a1, a2⟩, b1, b2⟩ := inF_iff.mp h
    have h1 : p.1.toNat < rows.length := by omega
    have e1 : rows.getD p.1.toNat [] = rows[p.1.toNat] := by rw [List.getD_eq_getElem?_getD, List.getElem?_eq_getElem h1]; rfl
    obtain ⟨hl, hs⟩ := R.all rows[p.1.toNat] (List.getElem_mem h1)
    have h2 : p.2.toNat < (rows[p.1.toNat]).length := by omega
    rw [e1, List.getD_eq_getElem?_getD, List.getElem?_eq_getElem h2]
    exact hs _ (List.getElem_mem h2)
  · decide
theorem pot_first {rows : List Tx} (R : Rows rows) {w : Nat} (hw : w ∈ DEEDS) {p : Pl} (h : inF rows p = true) : pot rows w (nxt p w) ≤ 7 := by
  have h1 := pot_le R (w := w) h
  have h2 := pot_next (rows := rows) (p := p) hw
  omega
theorem goes_ok {rows : List Tx} (R : Rows rows) {w : Nat} (hw : w ∈ DEEDS) {p q : Pl} (hp : okP rows p = true) (h : goes rows p w = some q) : okP rows q = true := by
  have h0 : inF rows p = true := (Bool.and_eq_true_iff.mp hp).1
  have h1 := slide_end hw 7 p (nxt p w) (pot_first R hw h0)
  change (if sgn rows (slide rows w 7 p (nxt p w)).2 = 35 then some (slide rows w 7 p (nxt p w)).1 else if sgn rows (slide rows w 7 p (nxt p w)).2 = 120 then none else some (slide rows w 7 p (nxt p w)).2) = some q at h
  split at h
  · have e := Option.some.inj h
    rw [← e]; exact slide_ok _ _ _ hp
  · split at h
    · cases h
    · rename_i n1 n2
      have e := Option.some.inj h
      rw [← e]
      have h3 := sgn_signs R (slide rows w 7 p (nxt p w)).2
      unfold okP
      rw [ice_in rfl n1, Bool.true_and, decide_eq_true_eq]
      revert h1 h3 n1 n2
      generalize sgn rows (slide rows w 7 p (nxt p w)).2 = c
      intro h1 n1 n2 h3
      simp only [SIGNS, List.mem_cons, List.not_mem_nil, or_false] at h3
      rcases h3 with rfl | rfl | rfl | rfl | rfl | rfl | rfl | rfl
      · exact absurd rfl n1
      · exact absurd rfl h1
      · exact absurd rfl n2
      all_goals decide
theorem way_in' : ∀ t ∈ TURNS, ∀ d ∈ DEEDS, way t d ∈ DEEDS := by decide
theorem then_in' : ∀ t ∈ TURNS, ∀ u ∈ TURNS, thenT t u ∈ TURNS := by decide
theorem lookup_in {b : List (Nat × Tx)} {c : Nat} {t : Tx} (h : b.lookup c = some t) : (c, t) ∈ b := by
  induction b with
  | nil => cases h
  | cons x b ih =>
    obtain ⟨d, u⟩ := x
    rw [List.lookup_cons] at h
    by_cases e : c = d
    · subst e
      rw [beq_self_eq_true] at h
      cases h
      simp
    · have e2 : (c == d) = false := by simp [e]
      rw [e2] at h
      exact List.mem_cons_of_mem _ (ih h)
theorem behind_ok {rows : List Tx} (R : Rows rows) {book : List (Nat × Tx)} (hb : ∀ x ∈ book, x.2 ∈ TURNS) {s : Sd} {d : Nat} (hs : okS rows s = true) (hd : d ∈ DEEDS) : okS rows (behind rows book s d) = true := by
  match s, hs with
  | none, _ => rfl
  | some (p, t), hs =>
    obtain ⟨hp, ht⟩ := Bool.and_eq_true_iff.mp hs
    have ht := of_decide_eq_true ht
    show okS rows (match goes rows p (way t d) with
      | none => none
      | some q => if q = p then some (p, t) else match book.lookup (sgn rows q) with
        | some b => some (q, thenT t b)
        | none => some (q, t)) = true
    cases e : goes rows p (way t d) with
    | none => rfl
    | some q =>
      have hq := goes_ok R (way_in' t ht d hd) hp e
      show okS rows (if q = p then some (p, t) else match book.lookup (sgn rows q) with
        | some b => some (q, thenT t b)
        | none => some (q, t)) = true
      split
      · exact hs
      · cases e2 : book.lookup (sgn rows q) with
        | none =>
          show (okP rows q && decide (t ∈ TURNS)) = true
          rw [hq, decide_eq_true ht]; rfl
        | some b =>
          show (okP rows q && decide (thenT t b ∈ TURNS)) = true
          rw [hq, decide_eq_true (then_in' t ht b (hb _ (lookup_in e2)))]; rfl
end OH
-- OhPl
/-! The plain law of a piece. -/
namespace OH
section
variable {rows : List Tx} {book : List (Nat × Tx)} {sp go : Pl}
/-- a letter that does something -/
def strB (book : List (Nat × Tx)) (c : Nat) : Bool := !decide ((book.lookup c).getD DEEDS = DEEDS)
def bareQ (book : List (Nat × Tx)) (sp go : Pl) (p : Pl) (c : Nat) : Nat := match book.lookup c with
  | none => c
  | some b => if b ≠ DEEDS ∧ p ≠ sp ∧ p ≠ go then 120 else 46
def bareG (rows : List Tx) (book : List (Nat × Tx)) (sp go : Pl) (n : Nat) : List Tx := (List.range n).map fun y => (List.range (rows.getD y []).length).map fun (x : Nat) => bareQ book sp go (((y : Nat) : Int), ((x : Nat) : Int)) ((rows.getD y []).getD x 0)
theorem bare_none {p : Pl} {c : Nat} (h : book.lookup c = none) : bareQ book sp go p c = c := by unfold bareQ; rw [h]
theorem bare_some {p : Pl} {c : Nat} {b : Tx} (h : book.lookup c = some b) : bareQ book sp go p c = if b ≠ DEEDS ∧ p ≠ sp ∧ p ≠ go then 120 else 46 := by unfold bareQ; rw [h]
theorem look_letter (hk : ∀ x ∈ book, x.1 ∈ LETTERS) {c : Nat} (hc : c ∉ LETTERS) : book.lookup c = none := by
  cases e : book.lookup c with
  | none => rfl
  | some b => exact absurd (hk _ (lookup_in e)) hc
theorem str_look {c : Nat} : strB book c = true ↔ ∃ b, book.lookup c = some b ∧ b ≠ DEEDS := by
  unfold strB
  cases e : book.lookup c with
  | none => simp
  | some b => simp
theorem bare_row {y : Nat} (hy : y < rows.length) : (bareG rows book sp go rows.length).getD y [] = (List.range (rows.getD y []).length).map fun (x : Nat) => bareQ book sp go (((y : Nat) : Int), ((x : Nat) : Int)) ((rows.getD y []).getD x 0) := by
  unfold bareG
  rw [List.getD_eq_getElem?_getD, List.getElem?_map, List.getElem?_range hy]
  rfl
theorem bare_len : (bareG rows book sp go rows.length).length = rows.length := by unfold bareG; rw [List.length_map, List.length_range]
theorem bare_wid (R : Rows rows) : wid (bareG rows book sp go rows.length) = wid rows := by
  unfold wid
  rw [bare_row R.h1, List.length_map, List.length_range]
theorem bare_inF (R : Rows rows) (p : Pl) : inF (bareG rows book sp go rows.length) p = inF rows p := by
  unfold inF
  rw [bare_len, bare_wid R]
theorem sgn_bare (R : Rows rows) (hk : ∀ x ∈ book, x.1 ∈ LETTERS) (p : Pl) : sgn (bareG rows book sp go rows.length) p = bareQ book sp go p (sgn rows p) := by
  unfold sgn
  rw [bare_inF R]
  by_cases h : inF rows p = true
  · rw [if_pos h, if_pos h]
    obtain ⟨⟨a1, a2⟩, b1, b2⟩ := inF_iff.mp h
    have h1 : p.1.toNat < rows.length := by omega
    have e1 : rows.getD p.1.toNat [] = rows[p.1.toNat] := by rw [List.getD_eq_getElem?_getD, List.getElem?_eq_getElem h1]; rfl
    have hl := (R.all rows[p.1.toNat] (List.getElem_mem h1)).1
    have h2 : p.2.toNat < (rows.getD p.1.toNat []).length := by rw [e1]; omega
    rw [bare_row h1, List.getD_eq_getElem?_getD, List.getElem?_map, List.getElem?_range h2]
    have e2 : ((p.1.toNat : Int), (p.2.toNat : Int)) = p := by
      rw [Int.toNat_of_nonneg a1, Int.toNat_of_nonneg b1]
    have e3 : ∀ r : Tx, p.2.toNat < r.length → r.getD p.2.toNat 0 = r.getD p.2.toNat 35 := fun r hr => by
      rw [List.getD_eq_getElem?_getD, List.getD_eq_getElem?_getD, List.getElem?_eq_getElem hr]
      rfl
    show bareQ book sp go ((p.1.toNat : Int), (p.2.toNat : Int)) ((rows.getD p.1.toNat []).getD p.2.toNat 0) = _
    rw [e2, e3 _ h2]
  · rw [if_neg h, if_neg h, bare_none (look_letter hk (by decide))]
theorem bare_signs (hk : ∀ x ∈ book, x.1 ∈ LETTERS) {p : Pl} {c : Nat} (h : c ∈ SIGNS) : bareQ book sp go p c ∈ SIGNS := by
  unfold bareQ
  cases e : book.lookup c with
  | none => exact h
  | some b =>
    show (if b ≠ DEEDS ∧ p ≠ sp ∧ p ≠ go then 120 else 46) ∈ SIGNS
    split <;> decide
theorem bare_rows (R : Rows rows) (hk : ∀ x ∈ book, x.1 ∈ LETTERS) : Rows (bareG rows book sp go rows.length) where
  h1 := by rw [bare_len]; exact R.h1
  h6 := by rw [bare_len]; exact R.h6
  w1 := by rw [bare_wid R]; exact R.w1
  w6 := by rw [bare_wid R]; exact R.w6
  all := fun r hr => by
    rw [bare_wid R]
    obtain ⟨y, hy, rfl⟩ := List.mem_map.mp hr
    have hy := List.mem_range.mp hy
    have e1 : rows.getD y [] = rows[y] := by rw [List.getD_eq_getElem?_getD, List.getElem?_eq_getElem hy]; rfl
    obtain ⟨hl, hs⟩ := R.all rows[y] (List.getElem_mem hy)
    refine ⟨by rw [List.length_map, List.length_range, e1, hl], fun c hc => ?_⟩
    obtain ⟨x, hx, rfl⟩ := List.mem_map.mp hc
    have hx := List.mem_range.mp hx
    refine bare_signs hk ?_
    rw [List.getD_eq_getElem?_getD, List.getElem?_eq_getElem hx]
    refine hs _ ?_
    rw [← e1]
    exact List.getElem_mem hx
/-- what a sign becomes -/
theorem bare_kind (hk : ∀ x ∈ book, x.1 ∈ LETTERS) {p : Pl} {c : Nat} :
    (c ∉ LETTERS ∧ bareQ book sp go p c = c) ∨ (c ∈ LETTERS ∧ strB book c = true ∧ p ≠ sp ∧ p ≠ go ∧ bareQ book sp go p c = 120) ∨ (c ∈ LETTERS ∧ (strB book c = false ∨ p = sp ∨ p = go) ∧ bareQ book sp go p c ∈ OPEN) := by
  by_cases hc : c ∈ LETTERS
  · right
    cases e : book.lookup c with
    | none =>
      right
      refine ⟨hc, .inl ?_, ?_⟩
      · unfold strB; rw [e]; rfl
      · rw [bare_none e]; revert hc; simp [LETTERS, OPEN]; omega
    | some b =>
      rw [bare_some e]
      by_cases q : b ≠ DEEDS ∧ p ≠ sp ∧ p ≠ go
      · rw [if_pos q]
        exact .inl ⟨hc, str_look.mpr ⟨b, e, q.1⟩, q.2.1, q.2.2, rfl⟩
      · rw [if_neg q]
        refine .inr ⟨hc, ?_, by decide⟩
        by_cases q1 : p = sp
        · exact .inr (.inl q1)
        · by_cases q2 : p = go
          · exact .inr (.inr q2)
          · refine .inl ?_
            cases z : strB book c with
            | false => rfl
            | true =>
              obtain ⟨b', e', hb'⟩ := str_look.mp z
              rw [e] at e'
              cases e'
              exact absurd ⟨hb', q1, q2⟩ q
  · exact .inl ⟨hc, bare_none (look_letter hk hc)⟩
theorem bare_slide (R : Rows rows) (hk : ∀ x ∈ book, x.1 ∈ LETTERS) {w : Nat} : ∀ (n : Nat) (h t : Pl), slide (bareG rows book sp go rows.length) w n h t = slide rows w n h t
  | 0, h, t => rfl
  | n + 1, h, t => by
    have key : (sgn (bareG rows book sp go rows.length) t = 126) ↔ sgn rows t = 126 := by
      rw [sgn_bare R hk]
      rcases bare_kind (sp := sp) (go := go) hk (p := t) (c := sgn rows t) with ⟨_, h2⟩ | ⟨h1, _, _, _, h2⟩ | ⟨h1, _, h2⟩
      · rw [h2]
      · rw [h2]
        refine ⟨fun z => absurd z (by decide), fun z => ?_⟩
        rw [z] at h1
        exact absurd h1 (by decide)
      · refine ⟨fun z => ?_, fun z => ?_⟩
        · rw [z] at h2
          exact absurd h2 (by decide)
        · rw [z] at h1
          exact absurd h1 (by decide)
    by_cases e : sgn rows t = 126
    · rw [slide_ice e, slide_ice (key.mpr e), bare_slide R hk n]
    · rw [slide_stop e, slide_stop (fun z => e (key.mp z))]
/-- going in the bare floor -/
theorem bare_goes (R : Rows rows) (hk : ∀ x ∈ book, x.1 ∈ LETTERS) {p : Pl} {w : Nat} :
    goes (bareG rows book sp go rows.length) p w = goes rows p w ∨ ∃ q, goes rows p w = some q ∧ goes (bareG rows book sp go rows.length) p w = none ∧ strB book (sgn rows q) = true ∧ q ≠ sp ∧ q ≠ go := by
  have hB : goes (bareG rows book sp go rows.length) p w = (if sgn (bareG rows book sp go rows.length) (slide rows w 7 p (nxt p w)).2 = 35 then some (slide rows w 7 p (nxt p w)).1 else if sgn (bareG rows book sp go rows.length) (slide rows w 7 p (nxt p w)).2 = 120 then none else some (slide rows w 7 p (nxt p w)).2) := by
    rw [← bare_slide (sp := sp) (go := go) R hk]; rfl
  have hR : goes rows p w = (if sgn rows (slide rows w 7 p (nxt p w)).2 = 35 then some (slide rows w 7 p (nxt p w)).1 else if sgn rows (slide rows w 7 p (nxt p w)).2 = 120 then none else some (slide rows w 7 p (nxt p w)).2) := rfl
  rw [hB, hR, sgn_bare R hk]
  generalize (slide rows w 7 p (nxt p w)).2 = t
  generalize (slide rows w 7 p (nxt p w)).1 = h
  rcases bare_kind (sp := sp) (go := go) hk (p := t) (c := sgn rows t) with ⟨_, h2⟩ | ⟨h1, h3, h4, h5, h2⟩ | ⟨h1, _, h2⟩
  · rw [h2]; exact .inl rfl
  · refine .inr ⟨t, ?_, ?_, h3, h4, h5⟩
    · rw [if_neg (fun z => by rw [z] at h1; exact absurd h1 (by decide)), if_neg (fun z => by rw [z] at h1; exact absurd h1 (by decide))]
    · rw [h2]; rfl
  · refine .inl ?_
    rw [if_neg (fun z => by rw [z] at h2; exact absurd h2 (by decide)), if_neg (fun z => by rw [z] at h2; exact absurd h2 (by decide)), if_neg (fun z => by rw [z] at h1; exact absurd h1 (by decide)), if_neg (fun z => by rw [z] at h1; exact absurd h1 (by decide))]
theorem bare_goes_back (R : Rows rows) (hk : ∀ x ∈ book, x.1 ∈ LETTERS) {p q : Pl} {w : Nat} (h : goes (bareG rows book sp go rows.length) p w = some q) : goes rows p w = some q := by
  rcases bare_goes (sp := sp) (go := go) R hk (p := p) (w := w) with e | ⟨q', _, e, _⟩
  · rw [← e]; exact h
  · rw [h] at e; cases e
theorem bare_ok (R : Rows rows) (hk : ∀ x ∈ book, x.1 ∈ LETTERS) {q : Pl} (h : okP (bareG rows book sp go rows.length) q = true) (h1 : q ≠ sp) (h2 : q ≠ go) : strB book (sgn rows q) = false := by
  cases e : strB book (sgn rows q) with
  | false => rfl
  | true =>
    have h3 := of_decide_eq_true (Bool.and_eq_true_iff.mp h).2
    rw [sgn_bare R hk] at h3
    obtain ⟨b, hb, hne⟩ := str_look.mp e
    rw [bare_some hb, if_pos ⟨hne, h1, h2⟩] at h3
    exact absurd h3 (by decide)
theorem then_deeds : ∀ t ∈ TURNS, thenT t DEEDS = t := by decide
theorem way_deeds : ∀ d ∈ DEEDS, way DEEDS d = d := by decide
/-- the bare run: the turn stays -/
def runP (B : List Tx) (t : Tx) : Pl → Tx → Option Pl
  | p, [] => some p
  | p, d :: w => (goes B p (way t d)).bind fun q => runP B t q w
theorem runP_app {B : List Tx} {t : Tx} : ∀ (v w : Tx) (p : Pl), runP B t p (v ++ w) = (runP B t p v).bind fun q => runP B t q w
  | [], w, p => rfl
  | d :: v, w, p => by
    show (goes B p (way t d)).bind (fun q => runP B t q (v ++ w)) = ((goes B p (way t d)).bind fun q => runP B t q v).bind fun q => runP B t q w
    cases goes B p (way t d) with
    | none => rfl
    | some q => exact runP_app v w q
theorem runP_ok {B : List Tx} (R : Rows B) {t : Tx} (ht : t ∈ TURNS) : ∀ (v : Tx) {p q : Pl}, (∀ d ∈ v, d ∈ DEEDS) → okP B p = true → runP B t p v = some q → okP B q = true
  | [], p, q, _, hp, h => by cases h; exact hp
  | d :: v, p, q, hv, hp, h => by
    change (goes B p (way t d)).bind (fun q => runP B t q v) = some q at h
    cases e : goes B p (way t d) with
    | none => rw [e] at h; cases h
    | some r =>
      rw [e] at h
      exact runP_ok R ht v (fun c hc => hv c (List.mem_cons_of_mem _ hc)) (goes_ok R (way_in' t ht d (hv d (by simp))) hp e) h
/-- the bare step of a stand -/
theorem behind_bare {B : List Tx} {pages : List (Nat × Tx)} (hp : ∀ x ∈ pages, x.2 = DEEDS) {p : Pl} {t : Tx} (ht : t ∈ TURNS) (d : Nat) : behind B pages (some (p, t)) d = (goes B p (way t d)).map fun q => (q, t) := by
  show (match goes B p (way t d) with
    | none => none
    | some q => if q = p then some (p, t) else match pages.lookup (sgn B q) with
      | some b => some (q, thenT t b)
      | none => some (q, t)) = _
  cases goes B p (way t d) with
  | none => rfl
  | some q =>
    show (if q = p then some (p, t) else match pages.lookup (sgn B q) with
      | some b => some (q, thenT t b)
      | none => some (q, t)) = some (q, t)
    by_cases h : q = p
    · rw [if_pos h, h]
    · rw [if_neg h]
      cases e : pages.lookup (sgn B q) with
      | none => rfl
      | some b =>
        have hb := hp _ (lookup_in e)
        show some (q, thenT t b) = some (q, t)
        rw [show b = DEEDS from hb, then_deeds t ht]
/-- the land's own run -/
def runB (rows : List Tx) (book : List (Nat × Tx)) (s : Sd) (r : Tx) : Sd := r.foldl (behind rows book) s
theorem runB_none : ∀ (r : Tx), runB rows book none r = none
  | [] => rfl
  | _ :: r => runB_none r
theorem runB_app (s : Sd) (v w : Tx) : runB rows book s (v ++ w) = runB rows book (runB rows book s v) w := by unfold runB; rw [List.foldl_append]
theorem runB_pre {s : Sd} {v w : Tx} {y : Pl × Tx} (h : runB rows book s (v ++ w) = some y) : ∃ x, runB rows book s v = some x := by
  cases e : runB rows book s v with
  | none => rw [runB_app, e, runB_none] at h; cases h
  | some x => exact ⟨x, rfl⟩
/-- a step where nothing strange is come to -/
theorem beh_stay {p : Pl} {t : Tx} {d : Nat} (h : goes rows p (way t d) = some p) : behind rows book (some (p, t)) d = some (p, t) := by
  show (match goes rows p (way t d) with
    | none => none
    | some q => if q = p then some (p, t) else match book.lookup (sgn rows q) with
      | some b => some (q, thenT t b)
      | none => some (q, t)) = _
  rw [h]
  exact if_pos rfl
theorem beh_go {p q : Pl} {t : Tx} {d : Nat} (h : goes rows p (way t d) = some q) (hq : q ≠ p) : behind rows book (some (p, t)) d = some (q, ((book.lookup (sgn rows q)).map (thenT t)).getD t) := by
  show (match goes rows p (way t d) with
    | none => none
    | some q => if q = p then some (p, t) else match book.lookup (sgn rows q) with
      | some b => some (q, thenT t b)
      | none => some (q, t)) = _
  rw [h]
  show (if q = p then some (p, t) else match book.lookup (sgn rows q) with
    | some b => some (q, thenT t b)
    | none => some (q, t)) = _
  rw [if_neg hq]
  cases book.lookup (sgn rows q) <;> rfl
theorem plain_turn {q : Pl} {t : Tx} (ht : t ∈ TURNS) (h : strB book (sgn rows q) = false) : ((book.lookup (sgn rows q)).map (thenT t)).getD t = t := by
  cases e : book.lookup (sgn rows q) with
  | none => rfl
  | some b =>
    have hb : b = DEEDS := by
      by_cases z : b = DEEDS
      · exact z
      · have := str_look.mpr ⟨b, e, z⟩
        rw [h] at this
        cases this
    show thenT t b = t
    rw [hb, then_deeds t ht]
theorem beh_some {p : Pl} {t : Tx} {d : Nat} {y : Pl × Tx} (h : behind rows book (some (p, t)) d = some y) : ∃ q, goes rows p (way t d) = some q ∧ q = y.1 := by
  cases e : goes rows p (way t d) with
  | none =>
    have : behind rows book (some (p, t)) d = none := by
      show (match goes rows p (way t d) with
        | none => none
        | some q => if q = p then some (p, t) else match book.lookup (sgn rows q) with
          | some b => some (q, thenT t b)
          | none => some (q, t)) = none
      rw [e]
    rw [this] at h
    cases h
  | some q =>
    by_cases hq : q = p
    · subst hq
      rw [beh_stay e] at h
      cases h
      exact ⟨_, rfl, rfl⟩
    · rw [beh_go e hq] at h
      cases h
      exact ⟨_, rfl, rfl⟩
/-- a piece: from p by the turn t to another place, nothing strange come to within, none ahead of it leads to the same stand -/
structure Piece (rows : List Tx) (book : List (Nat × Tx)) (p : Pl) (t : Tx) (go : Pl) (pc : Tx) : Prop where
  ds : ∀ d ∈ pc, d ∈ DEEDS
  tt : t ∈ TURNS
  ne : go ≠ p
  op : sgn rows p ∈ OPEN
  en : ∃ u, runB rows book (some (p, t)) pc = some (go, u)
  cut : ∀ i, i + 1 < pc.length → ∀ x y, runB rows book (some (p, t)) (pc.take i) = some x → runB rows book (some (p, t)) (pc.take (i + 1)) = some y → y.1 = x.1 ∨ strB book (sgn rows y.1) = false
  last : ∀ x, runB rows book (some (p, t)) (pc.take (pc.length - 1)) = some x → x.1 ≠ go
  least : ∀ v, (∀ d ∈ v, d ∈ DEEDS) → runB rows book (some (p, t)) v = runB rows book (some (p, t)) pc → ¬ sl ix v pc
theorem take_snoc {v : Tx} {i : Nat} (h : i < v.length) : v.take (i + 1) = v.take i ++ [v[i]] := by rw [List.take_add_one, List.getElem?_eq_getElem h]; rfl
theorem runB_snoc (s : Sd) (v : Tx) (d : Nat) : runB rows book s (v ++ [d]) = behind rows book (runB rows book s v) d := by rw [runB_app]; rfl
theorem runB_take {s : Sd} {v : Tx} {y : Pl × Tx} (h : runB rows book s v = some y) (i : Nat) : ∃ x, runB rows book s (v.take i) = some x := by
  rw [← List.take_append_drop i v] at h
  exact runB_pre h
theorem runP_one {B : List Tx} {t : Tx} {p : Pl} {d : Nat} : runP B t p [d] = goes B p (way t d) := by
  show (goes B p (way t d)).bind (fun q => runP B t q []) = _
  cases goes B p (way t d) <;> rfl
theorem runP_snoc {B : List Tx} {t : Tx} {p q : Pl} {v : Tx} {d : Nat} (h : runP B t p v = some q) : runP B t p (v ++ [d]) = goes B q (way t d) := by
  rw [runP_app, h]
  exact runP_one
theorem runP_pre {B : List Tx} {t : Tx} {p q : Pl} {v w : Tx} (h : runP B t p (v ++ w) = some q) : ∃ r, runP B t p v = some r ∧ runP B t r w = some q := by
  rw [runP_app] at h
  cases e : runP B t p v with
  | none => rw [e] at h; cases h
  | some r => rw [e] at h; exact ⟨r, rfl, h⟩
section
variable {p : Pl} {t : Tx} {pc : Tx}
theorem Piece.pos (C : Piece rows book p t go pc) : 0 < pc.length := by
  cases pc with
  | nil =>
    obtain ⟨u, h⟩ := C.en
    cases h
    exact absurd rfl C.ne
  | cons a w => exact Nat.succ_pos _
theorem Piece.inner (R : Rows rows) (hk : ∀ x ∈ book, x.1 ∈ LETTERS) (C : Piece rows book p t go pc) : ∀ i, i + 1 ≤ pc.length → ∃ q, runB rows book (some (p, t)) (pc.take i) = some (q, t) ∧ runP (bareG rows book p go rows.length) t p (pc.take i) = some q ∧ (q = p ∨ strB book (sgn rows q) = false)
  | 0, _ => ⟨p, rfl, rfl, .inl rfl⟩
  | i + 1, hi => by
    obtain ⟨q, h1, h2, h3⟩ := Piece.inner R hk C i (by omega)
    obtain ⟨u, hu⟩ := C.en
    obtain ⟨y, hy⟩ := runB_take hu (i + 1)
    have hc := C.cut i (by omega) _ _ h1 hy
    rw [take_snoc (by omega : i < pc.length)] at hy ⊢
    rw [runB_snoc, h1] at hy
    obtain ⟨r, e1, rfl⟩ := beh_some hy
    rw [runB_snoc, h1, runP_snoc h2]
    have hB : goes (bareG rows book p go rows.length) q (way t pc[i]) = some y.1 := by
      rcases bare_goes (sp := p) (go := go) R hk (p := q) (w := way t pc[i]) with e | ⟨r, e, _, n1, n2, n3⟩
      · rw [e, e1]
      · rw [e1] at e
        cases e
        rcases hc with z | z
        · rw [z] at n1 n2
          rcases h3 with h3 | h3
          · exact absurd h3 n2
          · rw [h3] at n1; cases n1
        · rw [z] at n1; cases n1
    by_cases hq : y.1 = q
    · rw [hq] at e1 hB
      exact ⟨q, beh_stay e1, hB, h3⟩
    · rcases hc with z | z
      · exact absurd z hq
      · exact ⟨y.1, by rw [beh_go e1 hq, plain_turn C.tt z], hB, .inr z⟩
def finT (rows : List Tx) (book : List (Nat × Tx)) (t : Tx) (go : Pl) : Tx := ((book.lookup (sgn rows go)).map (thenT t)).getD t
theorem Piece.runs (R : Rows rows) (hk : ∀ x ∈ book, x.1 ∈ LETTERS) (C : Piece rows book p t go pc) : runP (bareG rows book p go rows.length) t p pc = some go ∧ runB rows book (some (p, t)) pc = some (go, finT rows book t go) := by
  have hp := C.pos
  obtain ⟨q, h1, h2, _⟩ := C.inner R hk (pc.length - 1) (by omega)
  have hl := C.last _ h1
  obtain ⟨u, hu⟩ := C.en
  have e : pc = pc.take (pc.length - 1) ++ [pc[pc.length - 1]] := by
    rw [← take_snoc, show pc.length - 1 + 1 = pc.length from by omega, List.take_length]
  rw [e, runB_snoc, h1] at hu
  obtain ⟨r, e1, hr⟩ := beh_some hu
  have hr : r = go := hr
  subst hr
  constructor
  · rw [e, runP_snoc h2]
    rcases bare_goes (sp := p) (go := r) R hk (p := q) (w := way t pc[pc.length - 1]) with z | ⟨r', z, _, _, _, n3⟩
    · rw [z, e1]
    · rw [e1] at z
      cases z
      exact absurd rfl n3
  · rw [e, runB_snoc, h1, beh_go e1 (fun z => hl z.symm)]
    rfl
/-- a row of the bare world that comes to no place twice -/
structure Neat (B : List Tx) (t : Tx) (p go : Pl) (v : Tx) : Prop where
  ds : ∀ d ∈ v, d ∈ DEEDS
  en : runP B t p v = some go
  n1 : ∀ i, i < v.length → runP B t p (v.take i) ≠ some go
  n2 : ∀ i, 0 < i → i ≤ v.length → runP B t p (v.take i) ≠ some p
theorem neat_of {B : List Tx} : ∀ (n : Nat) (v : Tx), v.length ≤ n → (∀ d ∈ v, d ∈ DEEDS) → runP B t p v = some go → ∃ v', Neat B t p go v' ∧ (v' = v ∨ v'.length < v.length)
  | n, v, hn, hd, he => by
    by_cases h1 : ∃ i, i < v.length ∧ runP B t p (v.take i) = some go
    · obtain ⟨i, hi, e⟩ := h1
      cases n with
      | zero => omega
      | succ n =>
        obtain ⟨v', N, z⟩ := neat_of n (v.take i) (by rw [List.length_take]; omega) (fun d h => hd d (List.mem_of_mem_take h)) e
        refine ⟨v', N, .inr ?_⟩
        have : (v.take i).length < v.length := by rw [List.length_take]; omega
        rcases z with rfl | z <;> omega
    · by_cases h2 : ∃ i, 0 < i ∧ i ≤ v.length ∧ runP B t p (v.take i) = some p
      · obtain ⟨i, h0, hi, e⟩ := h2
        cases n with
        | zero => omega
        | succ n =>
          have he2 := he
          rw [← List.take_append_drop i v] at he2
          obtain ⟨r, e1, e2⟩ := runP_pre he2
          rw [e] at e1
          cases e1
          obtain ⟨v', N, z⟩ := neat_of n (v.drop i) (by rw [List.length_drop]; omega) (fun d h => hd d (List.mem_of_mem_drop h)) e2
          refine ⟨v', N, .inr ?_⟩
          have : (v.drop i).length < v.length := by rw [List.length_drop]; omega
          rcases z with rfl | z <;> omega
      · exact ⟨v, ⟨hd, he, fun i hi z => h1 ⟨i, hi, z⟩, fun i h0 hi z => h2 ⟨i, h0, hi, z⟩⟩, .inl rfl⟩
theorem open_ok {B : List Tx} {q : Pl} (h : sgn B q ∈ OPEN) : okP B q = true := by
  unfold okP
  rw [ice_in rfl (fun z => by rw [z] at h; exact absurd h (by decide)), Bool.true_and, decide_eq_true_eq]
  revert h
  generalize sgn B q = c
  simp only [OPEN, STAND, List.mem_cons, List.not_mem_nil, or_false]
  omega
theorem bare_open (R : Rows rows) (hk : ∀ x ∈ book, x.1 ∈ LETTERS) (h : sgn rows p ∈ OPEN) : sgn (bareG rows book p go rows.length) p ∈ OPEN := by
  rw [sgn_bare R hk]
  rcases bare_kind (sp := p) (go := go) hk (p := p) (c := sgn rows p) with ⟨_, h2⟩ | ⟨_, _, n, _⟩ | ⟨_, _, h2⟩
  · rw [h2]; exact h
  · exact absurd rfl n
  · exact h2
/-- a neat row of the bare world is walked alike in the land -/
theorem Neat.inner (R : Rows rows) (hk : ∀ x ∈ book, x.1 ∈ LETTERS) (ht : t ∈ TURNS) (op : sgn rows p ∈ OPEN) {v : Tx} (N : Neat (bareG rows book p go rows.length) t p go v) : ∀ i, i + 1 ≤ v.length → ∃ q, runB rows book (some (p, t)) (v.take i) = some (q, t) ∧ runP (bareG rows book p go rows.length) t p (v.take i) = some q
  | 0, _ => ⟨p, rfl, rfl⟩
  | i + 1, hi => by
    obtain ⟨q, h1, h2⟩ := Neat.inner R hk ht op N i (by omega)
    have h3 := N.en
    rw [← List.take_append_drop (i + 1) v] at h3
    obtain ⟨r, h4, _⟩ := runP_pre h3
    have n1 := N.n1 (i + 1) (by omega)
    have n2 := N.n2 (i + 1) (by omega) (by omega)
    rw [h4] at n1 n2
    have hok : okP (bareG rows book p go rows.length) r = true := runP_ok (bare_rows R hk) ht (v.take (i + 1)) (fun d h => N.ds d (List.mem_of_mem_take h)) (open_ok (bare_open R hk op)) h4
    rw [take_snoc (by omega : i < v.length)] at h4 ⊢
    refine ⟨r, ?_, h4⟩
    rw [runP_snoc h2] at h4
    have e1 := bare_goes_back R hk h4
    rw [runB_snoc, h1]
    by_cases hq : r = q
    · rw [hq] at e1 ⊢
      exact beh_stay e1
    · rw [beh_go e1 hq, plain_turn ht (bare_ok R hk hok (fun z => n2 (by rw [z])) (fun z => n1 (by rw [z])))]
theorem Neat.runs (R : Rows rows) (hk : ∀ x ∈ book, x.1 ∈ LETTERS) (ht : t ∈ TURNS) (op : sgn rows p ∈ OPEN) (ne : go ≠ p) {v : Tx} (N : Neat (bareG rows book p go rows.length) t p go v) : runB rows book (some (p, t)) v = some (go, finT rows book t go) := by
  have hp : 0 < v.length := by
    cases v with
    | nil =>
      have := N.en
      cases this
      exact absurd rfl ne
    | cons a w => exact Nat.succ_pos _
  obtain ⟨q, h1, h2⟩ := N.inner R hk ht op (v.length - 1) (by omega)
  have n1 := N.n1 (v.length - 1) (by omega)
  rw [h2] at n1
  have h3 := N.en
  have e : v = v.take (v.length - 1) ++ [v[v.length - 1]] := by
    rw [← take_snoc, show v.length - 1 + 1 = v.length from by omega, List.take_length]
  rw [e, runP_snoc h2] at h3
  rw [e, runB_snoc, h1, beh_go (bare_goes_back R hk h3) (fun z => n1 (by rw [z]))]
  rfl
/-- the piece is the first row of the bare world -/
theorem Piece.first (R : Rows rows) (hk : ∀ x ∈ book, x.1 ∈ LETTERS) (C : Piece rows book p t go pc) {v : Tx} (hd : ∀ d ∈ v, d ∈ DEEDS) (hv : runP (bareG rows book p go rows.length) t p v = some go) : ¬ sl ix v pc := fun h => by
  obtain ⟨v', N, z⟩ := neat_of v.length v (Nat.le_refl _) hd hv
  refine C.least v' N.ds ?_ ?_
  · rw [N.runs R hk C.tt C.op C.ne, (C.runs R hk).2]
  · rcases z with rfl | z
    · exact h
    · refine .inl ?_
      rcases h with h | h <;> omega
/-! ### turned -/
theorem way_way : ∀ t ∈ TURNS, ∀ d ∈ DEEDS, way DEEDS (way t d) = way t d := by decide
theorem way_onto : ∀ t ∈ TURNS, ∀ d ∈ DEEDS, ∃ e ∈ DEEDS, way t e = d := by decide
theorem run_turned {B : List Tx} (ht : t ∈ TURNS) : ∀ (v : Tx) (p : Pl), (∀ d ∈ v, d ∈ DEEDS) → runP B DEEDS p (v.map (way t)) = runP B t p v
  | [], _, _ => rfl
  | d :: v, p, h => by
    show (goes B p (way DEEDS (way t d))).bind (fun q => runP B DEEDS q (v.map (way t))) = (goes B p (way t d)).bind fun q => runP B t q v
    rw [way_way t ht d (h d (by simp))]
    cases goes B p (way t d) with
    | none => rfl
    | some q => exact run_turned ht v q fun c hc => h c (List.mem_cons_of_mem _ hc)
theorem unturned (ht : t ∈ TURNS) : ∀ (w : Tx), (∀ d ∈ w, d ∈ DEEDS) → ∃ v : Tx, (∀ d ∈ v, d ∈ DEEDS) ∧ v.map (way t) = w
  | [], _ => ⟨[], (fun _ h => by cases h), rfl⟩
  | d :: w, h => by
    obtain ⟨e, he, hw⟩ := way_onto t ht d (h d (by simp))
    obtain ⟨v, h1, h2⟩ := unturned ht w fun c hc => h c (List.mem_cons_of_mem _ hc)
    refine ⟨e :: v, fun c hc => ?_, by rw [List.map_cons, hw, h2]⟩
    rcases List.mem_cons.mp hc with rfl | hc
    · exact he
    · exact h1 c hc
theorem map_deeds (ht : t ∈ TURNS) {v : Tx} (h : ∀ d ∈ v, d ∈ DEEDS) : ∀ d ∈ v.map (way t), d ∈ DEEDS := fun d hd => by
  obtain ⟨e, he, rfl⟩ := List.mem_map.mp hd
  exact way_in' t ht e (h e he)
/-- .. and begun with urdl the first row is as long -/
theorem Piece.turned (R : Rows rows) (hk : ∀ x ∈ book, x.1 ∈ LETTERS) (C : Piece rows book p t go pc) : runP (bareG rows book p go rows.length) DEEDS p (pc.map (way t)) = some go ∧ ∀ w, (∀ d ∈ w, d ∈ DEEDS) → runP (bareG rows book p go rows.length) DEEDS p w = some go → (∀ v, (∀ d ∈ v, d ∈ DEEDS) → runP (bareG rows book p go rows.length) DEEDS p v = some go → ¬ sl ix v w) → w.length = pc.length := by
  have h1 : runP (bareG rows book p go rows.length) DEEDS p (pc.map (way t)) = some go := by rw [run_turned C.tt pc p C.ds]; exact (C.runs R hk).1
  refine ⟨h1, fun w hd hw hm => ?_⟩
  have l1 : ¬ pc.length < w.length := fun z => hm _ (map_deeds C.tt C.ds) h1 (.inl (by rw [List.length_map]; exact z))
  obtain ⟨v, hv, rfl⟩ := unturned C.tt w hd
  rw [run_turned C.tt v p hv] at hw
  have l2 : ¬ v.length < pc.length := fun z => C.first R hk hv hw (.inl z)
  rw [List.length_map] at l1 ⊢
  omega
end
end
end OH
-- OhPr
/-! The plain law of a row: cut at its comings, each piece is one. -/
namespace OH
/-! ### cuts -/
def cutL (c : Nat → Bool) (m : Nat) : List Nat := 0 :: ((List.range m).map (· + 1)).filter c
def cutsN (c : Nat → Bool) (m : Nat) : List Nat := cutL c m ++ List.replicate (if (cutL c m).getLastD 0 < m then 1 else 0) m
theorem cutL_pw (c : Nat → Bool) (m : Nat) : (cutL c m).Pairwise (· < ·) := by
  unfold cutL
  refine List.pairwise_cons.mpr ⟨fun k hk => ?_, List.Pairwise.filter _ (List.Pairwise.map _ (fun a b h => by omega) (List.pairwise_lt_range))⟩
  obtain ⟨h1, _⟩ := List.mem_filter.mp hk
  obtain ⟨j, _, rfl⟩ := List.mem_map.mp h1
  omega
theorem cutL_mem {c : Nat → Bool} {m k : Nat} : k ∈ cutL c m ↔ k = 0 ∨ (0 < k ∧ k ≤ m ∧ c k = true) := by
  unfold cutL
  rw [List.mem_cons, List.mem_filter, List.mem_map]
  constructor
  · rintro (h | ⟨⟨j, hj, rfl⟩, h⟩)
    · exact .inl h
    · have := List.mem_range.mp hj
      exact .inr ⟨by omega, by omega, h⟩
  · rintro (h | ⟨h1, h2, h3⟩)
    · exact .inl h
    · exact .inr ⟨⟨k - 1, List.mem_range.mpr (by omega), by omega⟩, h3⟩
theorem cutL_last {c : Nat → Bool} {m k : Nat} (h : k ∈ cutL c m) : k ≤ (cutL c m).getLastD 0 := by
  have hne : cutL c m ≠ [] := by unfold cutL; exact List.cons_ne_nil _ _
  obtain ⟨ys, y, hy⟩ : ∃ ys y, cutL c m = ys ++ [y] := ⟨_, _, (List.dropLast_concat_getLast hne).symm⟩
  have hp := cutL_pw c m
  rw [hy] at h hp ⊢
  rw [List.getLastD_concat]
  rcases List.mem_append.mp h with h | h
  · exact Nat.le_of_lt ((List.pairwise_append.mp hp).2.2 k h y (by simp))
  · rw [List.mem_singleton.mp h]; exact Nat.le_refl _
theorem cutsN_pw (c : Nat → Bool) (m : Nat) : (cutsN c m).Pairwise (· < ·) := by
  unfold cutsN
  by_cases h : (cutL c m).getLastD 0 < m
  · rw [if_pos h]
    refine List.pairwise_append.mpr ⟨cutL_pw c m, by simp, fun a ha b hb => ?_⟩
    have e : b = m := by simpa using hb
    have := cutL_last ha
    omega
  · rw [if_neg h]
    simpa using cutL_pw c m
theorem cutsN_mem {c : Nat → Bool} {m k : Nat} (h : k ∈ cutsN c m) : k ≤ m ∧ (k = 0 ∨ c k = true ∨ k = m) := by
  unfold cutsN at h
  rcases List.mem_append.mp h with h | h
  · rcases cutL_mem.mp h with h | ⟨_, h1, h2⟩
    · exact ⟨by omega, .inl h⟩
    · exact ⟨h1, .inr (.inl h2)⟩
  · have e := List.eq_of_mem_replicate h
    exact ⟨by omega, .inr (.inr e)⟩
theorem cuts_pair {c : Nat → Bool} {m i a b : Nat} (ha : (cutsN c m)[i]? = some a) (hb : (cutsN c m)[i + 1]? = some b) : a < b ∧ b ≤ m ∧ (a = 0 ∨ c a = true) ∧ (c b = true ∨ b = m) ∧ ∀ k, a < k → k < b → c k = false := by
  obtain ⟨ia, ea⟩ := List.getElem?_eq_some_iff.mp ha
  obtain ⟨ib, eb⟩ := List.getElem?_eq_some_iff.mp hb
  have hp := List.pairwise_iff_getElem.mp (cutsN_pw c m)
  have hab : a < b := by
    have := hp i (i + 1) ia ib (by omega)
    omega
  obtain ⟨h1, h2⟩ := cutsN_mem (List.mem_of_getElem? ha)
  obtain ⟨h3, h4⟩ := cutsN_mem (List.mem_of_getElem? hb)
  refine ⟨hab, h3, ?_, ?_, fun k hk1 hk2 => ?_⟩
  · rcases h2 with h | h | h
    · exact .inl h
    · exact .inr h
    · omega
  · rcases h4 with h | h | h
    · omega
    · exact .inl h
    · exact .inr h
  · cases e : c k with
    | false => rfl
    | true =>
      have hm : k ∈ cutsN c m := by
        unfold cutsN
        exact List.mem_append_left _ (cutL_mem.mpr (.inr ⟨by omega, by omega, e⟩))
      obtain ⟨j, hj⟩ := List.mem_iff_getElem?.mp hm
      obtain ⟨ij, ej⟩ := List.getElem?_eq_some_iff.mp hj
      rcases Nat.lt_trichotomy j i with z | z | z
      · have := hp j i ij ia z
        omega
      · subst z
        omega
      · by_cases q : j = i + 1
        · subst q
          omega
        · have := hp (i + 1) j ib ij (by omega)
          omega
/-! ### a row -/
section
variable {rows : List Tx} {book : List (Nat × Tx)} {ws : List Pl} {line : Tx}
structure RowH (rows : List Tx) (book : List (Nat × Tx)) (ws : List Pl) (line : Tx) (st : Nat → Pl × Tx) : Prop where
  R : Rows rows
  hk : ∀ x ∈ book, x.1 ∈ LETTERS
  hb : ∀ x ∈ book, x.2 ∈ TURNS
  op : sgn rows (st 0).1 ∈ OPEN
  tt : (st 0).2 ∈ TURNS
  ds : ∀ d ∈ line, d ∈ DEEDS
  run : ∀ i, i ≤ line.length → runB rows book (some (st 0)) (line.take i) = some (st i)
  wi : (st line.length).1 ∈ ws
  least : ∀ v, (∀ d ∈ v, d ∈ DEEDS) → wished ws (runB rows book (some (st 0)) v) = true → ¬ sl ix v line
variable {st : Nat → Pl × Tx}
def cutW (rows : List Tx) (book : List (Nat × Tx)) (st : Nat → Pl × Tx) (k : Nat) : Bool := !decide ((st k).1 = (st (k - 1)).1) && strB book (sgn rows (st k).1)
theorem runB_ok (R : Rows rows) (hb : ∀ x ∈ book, x.2 ∈ TURNS) : ∀ (v : Tx) {s : Sd}, okS rows s = true → (∀ d ∈ v, d ∈ DEEDS) → okS rows (runB rows book s v) = true
  | [], s, h, _ => h
  | d :: v, s, h, hv => runB_ok R hb v (behind_ok R hb h (hv d (by simp))) fun c hc => hv c (List.mem_cons_of_mem _ hc)
theorem RowH.ok (h : RowH rows book ws line st) {i : Nat} (hi : i ≤ line.length) : okP rows (st i).1 = true ∧ (st i).2 ∈ TURNS := by
  have h0 : okS rows (some (st 0)) = true := by
    show (okP rows (st 0).1 && decide ((st 0).2 ∈ TURNS)) = true
    rw [open_ok h.op, decide_eq_true h.tt]; rfl
  have h1 := runB_ok h.R h.hb (line.take i) h0 fun d hd => h.ds d (List.mem_of_mem_take hd)
  rw [h.run i hi] at h1
  obtain ⟨h2, h3⟩ := Bool.and_eq_true_iff.mp (show (okP rows (st i).1 && decide ((st i).2 ∈ TURNS)) = true from h1)
  exact ⟨h2, of_decide_eq_true h3⟩
theorem RowH.from (h : RowH rows book ws line st) {a k : Nat} (hi : a + k ≤ line.length) : runB rows book (some (st a)) ((line.drop a).take k) = some (st (a + k)) := by
  have h1 := h.run (a + k) hi
  rw [List.take_add, runB_app, h.run a (by omega)] at h1
  exact h1
theorem RowH.early (h : RowH rows book ws line st) {i : Nat} (hi : i < line.length) : (st i).1 ∉ ws := fun hm => by
  refine h.least (line.take i) (fun d hd => h.ds d (List.mem_of_mem_take hd)) ?_ (.inl ?_)
  · rw [h.run i (by omega)]
    show decide ((st i).1 ∈ ws) = true
    exact decide_eq_true hm
  · rw [List.length_take]; omega
theorem RowH.piece (h : RowH rows book ws line st) {a b : Nat} (hab : a < b) (hb : b ≤ line.length) (ha : a = 0 ∨ cutW rows book st a = true) (hcb : cutW rows book st b = true ∨ b = line.length) (hno : ∀ k, a < k → k < b → cutW rows book st k = false) (hne : (st b).1 ≠ (st a).1) :
    Piece rows book (st a).1 (st a).2 (st b).1 ((line.drop a).take (b - a)) where
  ds := fun d hd => h.ds d (List.mem_of_mem_drop (List.mem_of_mem_take hd))
  tt := (h.ok (by omega)).2
  ne := hne
  op := by
    rcases ha with rfl | ha
    · exact h.op
    · obtain ⟨t, e, _⟩ := str_look.mp (Bool.and_eq_true_iff.mp ha).2
      have hl := h.hk _ (lookup_in e)
      exact (by decide : ∀ c ∈ LETTERS, c ∈ OPEN) _ hl
  en := by
    have h1 := h.from (a := a) (k := b - a) (by omega)
    rw [show a + (b - a) = b from by omega] at h1
    exact ⟨(st b).2, h1⟩
  cut := fun i hi x y hx hy => by
    have hl : ((line.drop a).take (b - a)).length = b - a := by rw [List.length_take, List.length_drop]; omega
    rw [hl] at hi
    rw [List.take_take, Nat.min_eq_left (by omega)] at hx hy
    have h1 := h.from (a := a) (k := i) (by omega)
    have h2 := h.from (a := a) (k := i + 1) (by omega)
    have e1 : some x = some (st (a + i)) := hx.symm.trans h1
    have e2 : some y = some (st (a + (i + 1))) := hy.symm.trans h2
    cases e1
    cases e2
    have h3 := hno (a + (i + 1)) (by omega) (by omega)
    unfold cutW at h3
    rw [show a + (i + 1) - 1 = a + i from by omega] at h3
    rcases Bool.and_eq_false_iff.mp h3 with z | z
    · exact .inl (by simpa using z)
    · exact .inr z
  last := fun x hx => by
    have hl : ((line.drop a).take (b - a)).length = b - a := by rw [List.length_take, List.length_drop]; omega
    rw [hl, List.take_take, Nat.min_eq_left (by omega)] at hx
    have h1 := h.from (a := a) (k := b - a - 1) (by omega)
    have e1 : some x = some (st (a + (b - a - 1))) := hx.symm.trans h1
    cases e1
    rw [show a + (b - a - 1) = b - 1 from by omega]
    rcases hcb with z | rfl
    · have := (Bool.and_eq_true_iff.mp z).1
      intro e
      rw [e] at this
      simp at this
    · intro e
      exact h.early (i := line.length - 1) (by omega) (e ▸ h.wi)
  least := fun v hv he hs => by
    have h1 := h.from (a := a) (k := b - a) (by omega)
    rw [show a + (b - a) = b from by omega] at h1
    have he : runB rows book (some (st a)) v = some (st b) := he.trans h1
    have e0 : line.take a ++ (line.drop a).take (b - a) ++ line.drop b = line := by
      rw [← List.take_add, show a + (b - a) = b from by omega, List.take_append_drop]
    refine h.least (line.take a ++ v ++ line.drop b) (fun d hd => ?_) ?_ ?_
    · rcases List.mem_append.mp hd with hd | hd
      · rcases List.mem_append.mp hd with hd | hd
        · exact h.ds d (List.mem_of_mem_take hd)
        · exact hv d hd
      · exact h.ds d (List.mem_of_mem_drop hd)
    · have e1 : runB rows book (some (st 0)) (line.take a ++ v ++ line.drop b) = some (st line.length) := by
        rw [runB_app, runB_app, h.run a (by omega), he]
        have h2 := h.from (a := b) (k := line.length - b) (by omega)
        rw [show b + (line.length - b) = line.length from by omega] at h2
        rw [← h2, List.take_of_length_le (by rw [List.length_drop]; exact Nat.le_refl _)]
      rw [e1]
      show decide ((st line.length).1 ∈ ws) = true
      exact decide_eq_true h.wi
    · have := sl_mid (p := line.take a) (q := line.drop b) hs
      rw [e0] at this
      exact this
end
end OH
-- OhBase
set_option maxHeartbeats 1000000
/-! What a reading evaluates to, told by a description of the value that stays true while the heap grows. -/
namespace OL
open PySem PySem.Spec PyProof.Rows L2
open Evl (Ex)
abbrev Fr' := PySem.W.Frag
/-! ### descriptions -/
abbrev Ds := V → Hp → Prop
class Mn (P : Ds) : Prop where
  mn : ∀ {v H H'}, Ex H H' → P v H → P v H'
section
variable {K : PySem.W.Frag} {H H' : Hp}
mutual
theorem dpx (e : Ex H H') : ∀ (d : PyData) (v : V), Dp K H v d → Dp K H' v d
  | .none, _, h => by cases h; exact .non
  | .bool b, _, h => by cases h; exact .bl _
  | .int i, _, h => by cases h; exact .int _
  | .str x, _, h => by cases h; exact .str _
  | .list ds, _, h => by
    cases h with
    | lst hs ha => exact .lst (Evl.ex_l e hs) (dpxs e ds _ ha)
  | .tuple ds, _, h => by
    cases h with
    | tup hs ha => exact .tup (Evl.ex_t e hs) (dpxs e ds _ ha)
  | .dict _, _, h => by cases h
theorem dpxs (e : Ex H H') : ∀ (ds : List PyData) (vs : List V), DpAll K H vs ds → DpAll K H' vs ds
  | [], _, h => by cases h; exact .nil
  | d :: ds, _, h => by
    cases h with
    | cons h1 h2 => exact .cons (dpx e d _ h1) (dpxs e ds _ h2)
end
/-- v is the data d -/
def D (K : PySem.W.Frag) (d : PyData) : Ds := fun v H => Dp K H v d
instance {d : PyData} : Mn (D K d) := ⟨fun e h => dpx e d _ h⟩
/-- v is the value x, whatever the heap -/
def Vx (x : V) : Ds := fun v _ => v = x
instance {x : V} : Mn (Vx x) := ⟨fun _ h => h⟩
theorem dInt {v : V} {i : Int} (h : D K (.int i) v H) : v = .int i := by cases h; rfl
theorem dBool {v : V} {b : Bool} (h : D K (.bool b) v H) : v = .bl b := by cases h; rfl
theorem dStr {v : V} {x : Str} (h : D K (.str x) v H) : v = .str x := by cases h; rfl
theorem dNon {v : V} (h : D K .none v H) : v = .non := by cases h; rfl
theorem dTup {v : V} {ds : List PyData} (h : D K (.tuple ds) v H) : ∃ a xs, v = .ref a ∧ SqT K H a xs ∧ DpAll K H xs ds := by
  cases h with
  | tup hs ha => exact ⟨_, _, rfl, hs, ha⟩
theorem dLst {v : V} {ds : List PyData} (h : D K (.list ds) v H) : ∃ a xs, v = .ref a ∧ SqL K H a xs ∧ DpAll K H xs ds := by
  cases h with
  | lst hs ha => exact ⟨_, _, rfl, hs, ha⟩
theorem dlen : ∀ {vs : List V} {ds : List PyData}, DpAll K H vs ds → vs.length = ds.length
  | _, _, .nil => rfl
  | _, _, .cons _ h => by simp [dlen h]
theorem dget : ∀ {vs : List V} {ds : List PyData} {i : Nat} {v : V}, DpAll K H vs ds → vs[i]? = some v → ∃ d, ds[i]? = some d ∧ D K d v H
  | _, _, i, v, .nil, e => by simp at e
  | _, _, 0, v, .cons h _, e => by
    have e : _ = v := Option.some.inj e
    subst e
    exact ⟨_, rfl, h⟩
  | _, _, i + 1, v, .cons _ h, e => dget (i := i) h (by simpa using e)
theorem dgetD : ∀ {vs : List V} {ds : List PyData} {i : Nat} {d : PyData}, DpAll K H vs ds → ds[i]? = some d → ∃ v, vs[i]? = some v ∧ D K d v H
  | _, _, i, d, .nil, e => by simp at e
  | _, _, 0, d, .cons h _, e => by
    have e : _ = d := Option.some.inj e
    subst e
    exact ⟨_, rfl, h⟩
  | _, _, i + 1, d, .cons _ h, e => dgetD (i := i) h (by simpa using e)
theorem dapp : ∀ {vs ws : List V} {ds es : List PyData}, DpAll K H vs ds → DpAll K H ws es → DpAll K H (vs ++ ws) (ds ++ es)
  | _, _, _, _, .nil, k => k
  | _, _, _, _, .cons h t, k => .cons h (dapp t k)
theorem dsnoc {vs : List V} {ds : List PyData} {v : V} {d : PyData} (h : DpAll K H vs ds) (k : D K d v H) : DpAll K H (vs ++ [v]) (ds ++ [d]) := dapp h (.cons k .nil)
/-- the data is a scalar -/
def scD : PyData → Option V
  | .none => some .non
  | .bool b => some (.bl b)
  | .int i => some (.int i)
  | .str x => some (.str x)
  | _ => none
theorem dSc {v : V} {d : PyData} {x : V} (h : D K d v H) (e : scD d = some x) : v = x := by
  cases h with
  | non => exact Option.some.inj e
  | bl b => exact Option.some.inj e
  | int i => exact Option.some.inj e
  | str y => exact Option.some.inj e
  | lst _ _ => cases e
  | tup _ _ => cases e
theorem dOf {d : PyData} {x : V} (e : scD d = some x) : D K d x H := by
  cases d with
  | none => cases e; exact Dp.non
  | bool b => cases e; exact Dp.bl _
  | int i => cases e; exact Dp.int _
  | str y => cases e; exact Dp.str _
  | list _ => cases e
  | tuple _ => cases e
  | dict _ => cases e
theorem dints : ∀ {vs : List V} {ns : List Int}, DpAll K H vs (ns.map .int) → vs = ns.map V.int
  | _, [], h => by cases h; rfl
  | _, n :: ns, h => by
    cases h with
    | cons h1 h2 =>
      have e := dInt h1
      subst e
      rw [dints h2]; rfl
theorem dbools : ∀ {vs : List V} {ns : List Bool}, DpAll K H vs (ns.map .bool) → vs = ns.map V.bl
  | _, [], h => by cases h; rfl
  | _, n :: ns, h => by
    cases h with
    | cons h1 h2 =>
      have e := dBool h1
      subst e
      rw [dbools h2]; rfl
theorem dstrs : ∀ {vs : List V} {ns : List Str}, DpAll K H vs (ns.map .str) → vs = ns.map V.str
  | _, [], h => by cases h; rfl
  | _, n :: ns, h => by
    cases h with
    | cons h1 h2 =>
      have e := dStr h1
      subst e
      rw [dstrs h2]; rfl
theorem dofStrs : ∀ (ns : List Str), DpAll K H (ns.map V.str) (ns.map .str)
  | [] => .nil
  | n :: ns => .cons (.str n) (dofStrs ns)
theorem dofInts : ∀ (ns : List Int), DpAll K H (ns.map V.int) (ns.map .int)
  | [] => .nil
  | n :: ns => .cons (.int n) (dofInts ns)
/-! ### lists of descriptions -/
def AllP : List Ds → List V → Hp → Prop
  | [], [], _ => True
  | P :: Ps, v :: vs, H => P v H ∧ AllP Ps vs H
  | _, _, _ => False
class MnL (Ps : List Ds) : Prop where
  mn : ∀ {vs H H'}, Ex H H' → AllP Ps vs H → AllP Ps vs H'
instance : MnL [] := ⟨fun {vs _ _} _ h => by cases vs with
  | nil => exact h
  | cons _ _ => exact h⟩
instance {P : Ds} {Ps : List Ds} [a : Mn P] [b : MnL Ps] : MnL (P :: Ps) := ⟨fun {vs _ _} e h => by cases vs with
  | nil => exact h
  | cons v vs => exact ⟨a.mn e h.1, b.mn e h.2⟩⟩
theorem AllP.len : ∀ {Ps : List Ds} {vs : List V} {H : Hp}, AllP Ps vs H → vs.length = Ps.length
  | [], [], _, _ => rfl
  | P :: Ps, v :: vs, _, h => by simp [AllP.len h.2]
  | [], _ :: _, _, h => h.elim
  | _ :: _, [], _, h => h.elim
theorem all1 {P : Ds} {vs : List V} {H : Hp} (h : AllP [P] vs H) : ∃ a, vs = [a] ∧ P a H := by
  match vs, h with
  | [a], h => exact ⟨a, rfl, h.1⟩
theorem all2 {P P2 : Ds} {vs : List V} {H : Hp} (h : AllP [P, P2] vs H) : ∃ a b, vs = [a, b] ∧ P a H ∧ P2 b H := by
  match vs, h with
  | [a, b], h => exact ⟨a, b, rfl, h.1, h.2.1⟩
theorem all3 {P P2 P3 : Ds} {vs : List V} {H : Hp} (h : AllP [P, P2, P3] vs H) : ∃ a b c, vs = [a, b, c] ∧ P a H ∧ P2 b H ∧ P3 c H := by
  match vs, h with
  | [a, b, c], h => exact ⟨a, b, c, rfl, h.1, h.2.1, h.2.2.1⟩
theorem all4 {P P2 P3 P4 : Ds} {vs : List V} {H : Hp} (h : AllP [P, P2, P3, P4] vs H) : ∃ a b c d, vs = [a, b, c, d] ∧ P a H ∧ P2 b H ∧ P3 c H ∧ P4 d H := by
  match vs, h with
  | [a, b, c, d], h => exact ⟨a, b, c, d, rfl, h.1, h.2.1, h.2.2.1, h.2.2.2.1⟩
theorem all5 {P P2 P3 P4 P5 : Ds} {vs : List V} {H : Hp} (h : AllP [P, P2, P3, P4, P5] vs H) : ∃ a b c d e, vs = [a, b, c, d, e] ∧ P a H ∧ P2 b H ∧ P3 c H ∧ P4 d H ∧ P5 e H := by
  match vs, h with
  | [a, b, c, d, e], h => exact ⟨a, b, c, d, e, rfl, h.1, h.2.1, h.2.2.1, h.2.2.2.1, h.2.2.2.2.1⟩
theorem allD : ∀ {ds : List PyData} {vs : List V}, AllP (ds.map (D K)) vs H → DpAll K H vs ds
  | [], [], _ => .nil
  | d :: ds, v :: vs, h => .cons h.1 (allD h.2)
  | [], _ :: _, h => h.elim
  | _ :: _, [], h => h.elim
end
/-! ### growth: F the part of the heap that stays as it is for ever, H the heap -/
structure Gr (F H F' H' : Hp) : Prop where
  hh : Ex H H'
  ff : Ex F F'
  fh : Ex F' H'
  nw : ∀ a o, H a = some o → F a = none → F' a = none
section
variable {F H F1 H1 F2 H2 F0 H0 : Hp} {p : Addr} {o : HO}
theorem Gr.refl (e : Ex F H) : Gr F H F H := ⟨Ex.refl H, Ex.refl F, e, fun _ _ _ h => h⟩
theorem Gr.trans (a : Gr F H F1 H1) (b : Gr F1 H1 F2 H2) : Gr F H F2 H2 := ⟨a.hh.trans b.hh, a.ff.trans b.ff, b.fh, fun x o h n => b.nw x o (a.hh x o h) (a.nw x o h n)⟩
theorem ex_none {F H : Hp} {p : Addr} (e : Ex F H) (h : H p = none) : F p = none := Evl.fresh_back e h
/-- a new thing that stays -/
theorem Gr.new (e : Ex F H) (h : H p = none) : Gr F H (upd F p o) (upd H p o) := by
  refine ⟨Ex.new h, Ex.new (ex_none e h), fun a u ha => ?_, fun a u ha n => ?_⟩
  · by_cases z : a = p
    · subst z; rw [upd_same] at ha ⊢; exact ha
    · rw [upd_ne z] at ha ⊢; exact e a u ha
  · rw [upd_ne (ne_of_none ha h)]; exact n
/-- a new thing of one's own -/
theorem Gr.own (e : Ex F H) (h : H p = none) : Gr F H F (upd H p o) := ⟨Ex.new h, Ex.refl F, fun a u ha => by rw [upd_ne (ne_of_none ha (ex_none e h))]; exact e a u ha, fun _ _ _ n => n⟩
/-- a thing of one's own is changed -/
theorem Gr.mut (g : Gr F0 H0 F H) (h0 : H0 p = none) (h : F p = none) : Gr F0 H0 F (upd H p o) := ⟨Ex.mut g.hh h0, g.ff, fun a u ha => by rw [upd_ne (ne_of_none ha h)]; exact g.fh a u ha, g.nw⟩
/-- a thing of one's own stays from now on -/
theorem Gr.fix (g : Gr F0 H0 F H) (h0 : H0 p = none) (h : H p = some o) : Gr F0 H0 (upd F p o) H := by
  refine ⟨g.hh, fun a u ha => ?_, fun a u ha => ?_, fun a u ha n => ?_⟩
  · have h1 := g.ff a u ha
    by_cases z : a = p
    · subst z
      have h2 := g.fh a u h1
      rw [h] at h2
      rw [upd_same]; exact h2
    · rw [upd_ne z]; exact h1
  · by_cases z : a = p
    · subst z; rw [upd_same] at ha; rw [h]; exact ha
    · rw [upd_ne z] at ha; exact g.fh a u ha
  · rw [upd_ne (ne_of_none ha h0)]; exact g.nw a u ha n
theorem Gr.less (g : Gr F H F1 H1) : Gr F H F H1 := ⟨g.hh, Ex.refl F, g.ff.trans g.fh, fun _ _ _ n => n⟩
theorem Gr.low (g : Gr F1 H F2 H2) (e : Ex F F1) (n1 : ∀ a o, H a = some o → F a = none → F1 a = none) : Gr F H F2 H2 := ⟨g.hh, e.trans g.ff, g.fh, fun a o h n => g.nw a o h (n1 a o h n)⟩
theorem ex_mut {F H : Hp} {p : Addr} {o : HO} (e : Ex F H) (h : F p = none) : Ex F (upd H p o) := fun a u ha => by rw [upd_ne (ne_of_none ha h)]; exact e a u ha
end
/-! ### evaluation -/
def EP (t : TE) (σ : L2.St) (F : Hp) (P : Ds) : Prop := ∀ F1 H1, Ex F F1 → Ex F1 H1 → ∀ Q : VK, (∀ v F2 H2, Gr F1 H1 F2 H2 → P v F2 → Q v H2) → t σ H1 Q
def EA (t : TA) (σ : L2.St) (F : Hp) (Ps : List Ds) : Prop := ∀ F1 H1, Ex F F1 → Ex F1 H1 → ∀ Q : List V → Hp → Prop, (∀ vs F2 H2, Gr F1 H1 F2 H2 → AllP Ps vs F2 → Q vs H2) → t σ H1 Q
def EvT (t : TT) (σ : L2.St) (F : Hp) (b : Bool) : Prop := ∀ F1 H1, Ex F F1 → Ex F1 H1 → ∀ Q : Bool → Hp → Prop, (∀ F2 H2, Gr F1 H1 F2 H2 → Q b H2) → t σ H1 Q
section
variable {K : PySem.W.Frag} {σ : L2.St} {F F' H H' : Hp} {ta tb te : TE} {t u : TT} {P P1 P2 : Ds}
theorem EP.mono (e : Ex F F') (h : EP te σ F P) : EP te σ F' P := fun F1 H1 a b Q q => h F1 H1 (e.trans a) b Q q
theorem EvT.mono {b : Bool} (e : Ex F F') (h : EvT t σ F b) : EvT t σ F' b := fun F1 H1 a b Q q => h F1 H1 (e.trans a) b Q q
theorem EP.imp (h : EP te σ F P) (k : ∀ v F1, Ex F F1 → P v F1 → P1 v F1) : EP te σ F P1 := fun F1 H1 a b Q q => h F1 H1 a b Q fun v F2 H2 g hp => q v F2 H2 g (k v F2 (a.trans g.ff) hp)
theorem EP.eq {d e : PyData} (h : EP te σ F (D K d)) (k : d = e) : EP te σ F (D K e) := k ▸ h
theorem EA.mono {t : TA} {Ps : List Ds} (e : Ex F F') (h : EA t σ F Ps) : EA t σ F' Ps := fun F1 H1 a b Q q => h F1 H1 (e.trans a) b Q q
theorem e_var [m : Mn P] {i : Nat} {v : V} (h : σ[i]? = some (some v)) (hp : P v F) : EP (tVar i) σ F P := fun F1 H1 e b Q q => ⟨v, h, q v F1 H1 (Gr.refl b) (m.mn e hp)⟩
theorem e_c {x : V} {d : PyData} (h : scD d = some x := by rfl) : EP (tC x) σ F (D K d) := fun F1 H1 _ b _ q => q x F1 H1 (Gr.refl b) (dOf h)
theorem e_v {x : V} : EP (tC x) σ F (Vx x) := fun F1 H1 _ b _ q => q x F1 H1 (Gr.refl b) rfl
theorem e_k {x : V} (h : ∀ F, P x F) : EP (tC x) σ F P := fun F1 H1 _ b _ q => q x F1 H1 (Gr.refl b) (h F1)
theorem ea_nil : EA tNil σ F [] := fun F1 H1 _ b _ q => q [] F1 H1 (Gr.refl b) trivial
theorem ea_cons [m : Mn P] {tr : TA} {Ps : List Ds} (h : EP ta σ F P) (hr : EA tr σ F Ps) : EA (tCons ta tr) σ F (P :: Ps) := fun F1 H1 e b Q q =>
  h F1 H1 e b _ fun v F2 H2 g hv => hr F2 H2 (e.trans g.ff) g.fh _ fun vs F3 H3 g3 hs => q (v :: vs) F3 H3 (g.trans g3) ⟨m.mn g3.ff hv, hs⟩
/-- two operands -/
theorem e_op [m : Mn P1] {r : R2} (ha : EP ta σ F P1) (hb : EP tb σ F P2) (hr : ∀ x y F1 H1, Ex F F1 → Ex F1 H1 → P1 x F1 → P2 y F1 → ∀ Q : VK, (∀ v F2 H2, Gr F1 H1 F2 H2 → P v F2 → Q v H2) → r x y H1 Q) : EP (tOp r ta tb) σ F P := fun F1 H1 e b Q q =>
  ha F1 H1 e b _ fun x F2 H2 g2 hx => hb F2 H2 (e.trans g2.ff) g2.fh _ fun y F3 H3 g3 hy => hr x y F3 H3 ((e.trans g2.ff).trans g3.ff) g3.fh (m.mn g3.ff hx) hy Q fun v F4 H4 g4 hv => q v F4 H4 ((g2.trans g3).trans g4) hv
/-- .. that make nothing new -/
theorem e_op0 [m : Mn P1] {r : R2} {d : PyData} (ha : EP ta σ F P1) (hb : EP tb σ F P2) (hr : ∀ x y F1 H1, Ex F F1 → Ex F1 H1 → P1 x F1 → P2 y F1 → ∀ Q : VK, (∀ z, D K d z F1 → Q z H1) → r x y H1 Q) : EP (tOp r ta tb) σ F (D K d) :=
  e_op ha hb fun x y F1 H1 e b hx hy Q q => hr x y F1 H1 e b hx hy Q fun z hz => q z F1 H1 (Gr.refl b) hz
theorem e_I0 {g : Int → Int → V} {i j : Int} {d : PyData} (ha : EP ta σ F (D K (.int i))) (hb : EP tb σ F (D K (.int j))) (hg : scD d = some (g i j) := by rfl) : EP (tOp (rI0 g) ta tb) σ F (D K d) :=
  e_op0 ha hb fun _ _ _ _ _ _ hx hy _ q => ⟨i, j, dInt hx, dInt hy, q _ (dOf hg)⟩
theorem e_I {C : Int → Int → Prop} {g : Int → Int → V} {i j : Int} {d : PyData} (ha : EP ta σ F (D K (.int i))) (hb : EP tb σ F (D K (.int j))) (hc : C i j) (hg : scD d = some (g i j) := by rfl) : EP (tOp (rI C g) ta tb) σ F (D K d) :=
  e_op0 ha hb fun _ _ _ _ _ _ hx hy _ q => ⟨i, j, dInt hx, dInt hy, hc, q _ (dOf hg)⟩
theorem e_neg {i : Int} (ha : EP ta σ F (D K (.int i))) : EP (tUn (rU fun i => .int (-i)) ta) σ F (D K (.int (-i))) := fun F1 H1 e b Q q =>
  ha F1 H1 e b _ fun x F2 H2 g hx => ⟨i, dInt hx, q _ F2 H2 g (Dp.int _)⟩
/-- == and != of scalars of one kind -/
theorem e_eqS {d e : PyData} {x y : V} (ha : EP ta σ F (D K d)) (hb : EP tb σ F (D K e)) (hd : scD d = some x) (he : scD e = some y) (hs : scal x y = true) : EP (tOp rEq ta tb) σ F (D K (.bool (decide (x = y)))) :=
  e_op0 ha hb fun _ _ _ _ _ _ hx hy _ q => by
    rw [dSc hx hd, dSc hy he]
    exact ⟨hs, q _ (Dp.bl _)⟩
theorem e_neS {d e : PyData} {x y : V} (ha : EP ta σ F (D K d)) (hb : EP tb σ F (D K e)) (hd : scD d = some x) (he : scD e = some y) (hs : scal x y = true) : EP (tOp rNe ta tb) σ F (D K (.bool (!decide (x = y)))) :=
  e_op0 ha hb fun _ _ _ _ _ _ hx hy _ q => by
    rw [dSc hx hd, dSc hy he]
    exact ⟨hs, q _ (Dp.bl _)⟩
theorem dec_i {i j : Int} : decide (V.int i = V.int j) = decide (i = j) := by
  by_cases h : i = j
  · subst h; simp
  · rw [decide_eq_false h, decide_eq_false (fun e => h (V.int.inj e))]
theorem dec_s {i j : Str} : decide (V.str i = V.str j) = decide (i = j) := by
  by_cases h : i = j
  · subst h; simp
  · rw [decide_eq_false h, decide_eq_false (fun e => h (V.str.inj e))]
theorem e_eqI {i j : Int} (ha : EP ta σ F (D K (.int i))) (hb : EP tb σ F (D K (.int j))) : EP (tOp rEq ta tb) σ F (D K (.bool (decide (i = j)))) := (e_eqS ha hb rfl rfl rfl).eq (by rw [dec_i])
theorem e_neI {i j : Int} (ha : EP ta σ F (D K (.int i))) (hb : EP tb σ F (D K (.int j))) : EP (tOp rNe ta tb) σ F (D K (.bool (!decide (i = j)))) := (e_neS ha hb rfl rfl rfl).eq (by rw [dec_i])
theorem e_eqT {i j : Str} (ha : EP ta σ F (D K (.str i))) (hb : EP tb σ F (D K (.str j))) : EP (tOp rEq ta tb) σ F (D K (.bool (decide (i = j)))) := (e_eqS ha hb rfl rfl rfl).eq (by rw [dec_s])
theorem e_neT {i j : Str} (ha : EP ta σ F (D K (.str i))) (hb : EP tb σ F (D K (.str j))) : EP (tOp rNe ta tb) σ F (D K (.bool (!decide (i = j)))) := (e_neS ha hb rfl rfl rfl).eq (by rw [dec_s])
/-- == and != of data -/
theorem e_eqD {d e : PyData} (ha : EP ta σ F (D K d)) (hb : EP tb σ F (D K e)) (hd : SeqAt.shaped d = true) (he : SeqAt.shaped e = true) : EP (tOp (rEqD K) ta tb) σ F (D K (.bool (PyData.eqv d e))) :=
  e_op0 ha hb fun _ _ _ _ _ b hx hy _ q => ⟨d, e, dpx b d _ hx, dpx b e _ hy, hd, he, q _ (Dp.bl _)⟩
theorem e_neD {d e : PyData} (ha : EP ta σ F (D K d)) (hb : EP tb σ F (D K e)) (hd : SeqAt.shaped d = true) (he : SeqAt.shaped e = true) : EP (tOp (rNeD K) ta tb) σ F (D K (.bool (!PyData.eqv d e))) :=
  e_op0 ha hb fun _ _ _ _ _ b hx hy _ q => ⟨d, e, dpx b d _ hx, dpx b e _ hy, hd, he, q _ (Dp.bl _)⟩
/-- is None, is not None -/
def nonD : PyData → Bool
  | .none => true
  | _ => false
theorem dNonD {v : V} {d : PyData} (h : D K d v F) : decide (v = .non) = nonD d := by
  cases h <;> rfl
theorem e_isN {d : PyData} {tn : TE} (ha : EP ta σ F (D K d)) (hb : EP tn σ F (D K .none)) : EP (tOp (fun x y H Q => y = V.non ∧ Q (.bl (decide (x = .non))) H) ta tn) σ F (D K (.bool (nonD d))) :=
  e_op0 ha hb fun _ _ _ _ _ _ hx hy _ q => ⟨dNon hy, by rw [dNonD hx]; exact q _ (Dp.bl _)⟩
theorem e_notN {d : PyData} {tn : TE} (ha : EP ta σ F (D K d)) (hb : EP tn σ F (D K .none)) : EP (tOp (fun x y H Q => y = V.non ∧ Q (.bl (!decide (x = .non))) H) ta tn) σ F (D K (.bool (!nonD d))) :=
  e_op0 ha hb fun _ _ _ _ _ _ hx hy _ q => ⟨dNon hy, by rw [dNonD hx]; exact q _ (Dp.bl _)⟩
/-- tests -/
theorem t_test {b : Bool} (h : EP te σ F (D K (.bool b))) : EvT (tTest te) σ F b := fun F1 H1 e c _ q => h F1 H1 e c _ fun v F2 H2 g hv => ⟨b, dBool hv, q F2 H2 g⟩
theorem t_B {b : Bool} (h : EP te σ F (D K (.bool b))) : EvT (tB te) σ F b := fun F1 H1 e c _ q => h F1 H1 e c _ fun v F2 H2 g hv => ⟨b, dBool hv, q F2 H2 g⟩
theorem t_eq {a b : Bool} (h : EvT t σ F a) (e : a = b) : EvT t σ F b := e ▸ h
theorem t_and {a b : Bool} (h1 : EvT t σ F a) (h2 : a = true → EvT u σ F b) : EvT (tAnd t u) σ F (a && b) := fun F1 H1 e c Q q => h1 F1 H1 e c _ fun F2 H2 g => by
  cases a with
  | true => exact h2 rfl F2 H2 (e.trans g.ff) g.fh Q fun F3 H3 g3 => q F3 H3 (g.trans g3)
  | false => exact q F2 H2 g
theorem t_or {a b : Bool} (h1 : EvT t σ F a) (h2 : a = false → EvT u σ F b) : EvT (tOr t u) σ F (a || b) := fun F1 H1 e c Q q => h1 F1 H1 e c _ fun F2 H2 g => by
  cases a with
  | true => exact q F2 H2 g
  | false => exact h2 rfl F2 H2 (e.trans g.ff) g.fh Q fun F3 H3 g3 => q F3 H3 (g.trans g3)
theorem t_not {a : Bool} (h1 : EvT t σ F a) : EvT (tNot t) σ F (!a) := fun F1 H1 e c _ q => h1 F1 H1 e c _ fun F2 H2 g => q F2 H2 g
theorem e_if {b : Bool} (h : EvT t σ F b) (h1 : b = true → EP ta σ F P) (h2 : b = false → EP tb σ F P) : EP (tIf t ta tb) σ F P := fun F1 H1 e c Q q => h F1 H1 e c _ fun F2 H2 g => by
  cases b with
  | true => exact h1 rfl F2 H2 (e.trans g.ff) g.fh Q fun v F3 H3 g3 hv => q v F3 H3 (g.trans g3) hv
  | false => exact h2 rfl F2 H2 (e.trans g.ff) g.fh Q fun v F3 H3 g3 hv => q v F3 H3 (g.trans g3) hv
theorem e_and {a b : Bool} (h1 : EP ta σ F (D K (.bool a))) (h2 : a = true → EP tb σ F (D K (.bool b))) : EP (tAndV ta tb) σ F (D K (.bool (a && b))) := fun F1 H1 e c Q q => h1 F1 H1 e c _ fun v F2 H2 g hv => ⟨a, dBool hv, by
  cases a with
  | true => exact h2 rfl F2 H2 (e.trans g.ff) g.fh Q fun v F3 H3 g3 hv => q v F3 H3 (g.trans g3) hv
  | false => exact q _ F2 H2 g (Dp.bl _)⟩
theorem e_or {a b : Bool} (h1 : EP ta σ F (D K (.bool a))) (h2 : a = false → EP tb σ F (D K (.bool b))) : EP (tOrV ta tb) σ F (D K (.bool (a || b))) := fun F1 H1 e c Q q => h1 F1 H1 e c _ fun v F2 H2 g hv => ⟨a, dBool hv, by
  cases a with
  | true => exact q _ F2 H2 g (Dp.bl _)
  | false => exact h2 rfl F2 H2 (e.trans g.ff) g.fh Q fun v F3 H3 g3 hv => q v F3 H3 (g.trans g3) hv⟩
theorem e_not {a : Bool} (h1 : EP ta σ F (D K (.bool a))) : EP (tNotV ta) σ F (D K (.bool (!a))) := fun F1 H1 e c Q q => h1 F1 H1 e c _ fun v F2 H2 g hv => ⟨a, dBool hv, q _ F2 H2 g (Dp.bl _)⟩
/-- tuples and lists written -/
theorem line_of {n : Nat} (h : n ≤ 100000) : n ≤ sizeLine := Nat.le_trans h (by decide)
theorem e_tup {ta : TA} {ds : List PyData} (h : EA ta σ F (ds.map (D K))) (hl : Nat.ble ds.length 100000 = true := by rfl) : EP (tTup ta) σ F (D K (.tuple ds)) := fun F1 H1 e c Q q =>
  h F1 H1 e c _ fun vs F2 H2 g hs => ⟨line_of (by have := dlen (allD hs); have := Nat.le_of_ble_eq_true hl; omega), fun p hp => q (.ref p) _ _ (g.trans (Gr.new g.fh hp)) (Dp.tup (Evl.st_of upd_same) (dpxs (Ex.new (ex_none g.fh hp)) _ _ (allD hs)))⟩
theorem e_lst {ta : TA} {ds : List PyData} (h : EA ta σ F (ds.map (D K))) (hl : Nat.ble ds.length 100000 = true := by rfl) : EP (tLst ta) σ F (D K (.list ds)) := fun F1 H1 e c Q q =>
  h F1 H1 e c _ fun vs F2 H2 g hs => ⟨line_of (by have := dlen (allD hs); have := Nat.le_of_ble_eq_true hl; omega), fun p hp => q (.ref p) _ _ (g.trans (Gr.new g.fh hp)) (Dp.lst (Evl.sq_of upd_same) (dpxs (Ex.new (ex_none g.fh hp)) _ _ (allD hs)))⟩
/-- subscripts -/
theorem atI_at {α : Type} {xs : List α} {i : Int} {j : Nat} {v : α} (hi : i = j) (h : xs[j]? = some v) : atI xs i = some v := by
  subst hi
  exact atI_nat h
theorem atI_D {xs : List V} {ds : List PyData} {i : Int} {d : PyData} (h : DpAll K F xs ds) (e : atI ds i = some d) : ∃ v, atI xs i = some v ∧ D K d v F := by
  unfold atI at e ⊢
  rw [dlen h]
  cases q : ixN ds.length i with
  | none => rw [q] at e; cases e
  | some j =>
    rw [q] at e
    exact dgetD h e
theorem e_ixL {ds : List PyData} {i : Int} {d : PyData} (ha : EP ta σ F (D K (.list ds))) (hb : EP tb σ F (D K (.int i))) (h : atI ds i = some d) : EP (tOp (rIxL K) ta tb) σ F (D K d) :=
  e_op0 ha hb fun _ _ _ _ _ b hx hy _ q => by
    obtain ⟨a, xs, e1, h1, h2⟩ := dLst hx
    obtain ⟨v, hv, hd⟩ := atI_D h2 h
    exact ⟨a, xs, i, v, e1, dInt hy, Evl.ex_l b h1, hv, q v hd⟩
theorem e_ixT {ds : List PyData} {i : Int} {d : PyData} (ha : EP ta σ F (D K (.tuple ds))) (hb : EP tb σ F (D K (.int i))) (h : atI ds i = some d) : EP (tOp (rIxT K) ta tb) σ F (D K d) :=
  e_op0 ha hb fun _ _ _ _ _ b hx hy _ q => by
    obtain ⟨a, xs, e1, h1, h2⟩ := dTup hx
    obtain ⟨v, hv, hd⟩ := atI_D h2 h
    exact ⟨a, xs, i, v, e1, dInt hy, Evl.ex_t b h1, hv, q v hd⟩
theorem e_ixS {z : Str} {i : Int} {c : Nat} (ha : EP ta σ F (D K (.str z))) (hb : EP tb σ F (D K (.int i))) (hz : z.length ≤ 100000) (h : atI z.cps.toList i = some c) : EP (tOp rIxS ta tb) σ F (D K (.str ⟨#[c]⟩)) :=
  e_op0 ha hb fun _ _ _ _ _ _ hx hy _ q => ⟨z, i, c, dStr hx, dInt hy, line_of hz, h, q _ (Dp.str _)⟩
/-! ### promises -/
/-- the arguments are told by Ps x in F, the answer by R x; what was tracked stays -/
def Pr {α : Type} (Ps : α → List Ds) (pre : α → Prop) (R : α → Ds) : Sp := fun vs H Q _ => ∃ (x : α) (F : Hp), Ex F H ∧ AllP (Ps x) vs F ∧ pre x ∧ ∀ v F' H', Gr F H F' H' → R x v F' → Q v H'
theorem Pr.len {α : Type} {Ps : α → List Ds} {pre : α → Prop} {R : α → Ds} {n : Nat} (hn : ∀ x, (Ps x).length = n) : ∀ vs H Q E, Pr Ps pre R vs H Q E → vs.length = n := fun _ _ _ _ ⟨x, _, _, h, _⟩ => h.len.trans (hn x)
theorem e_call {α : Type} {Ps : α → List Ds} {pre : α → Prop} {R : α → Ds} {ta : TA} {E : XK} (x : α) (h : EA ta σ F (Ps x)) (hp : pre x) : EP (tCall (Pr Ps pre R) [] E ta) σ F (R x) := fun F1 H1 e b Q q =>
  h F1 H1 e b _ fun vs F2 H2 g hs => ⟨x, F2, g.fh, by rw [List.append_nil]; exact hs, hp, fun v F3 H3 g3 hr => q v F3 H3 (g.trans g3) hr⟩
/-- a method: the receiver is an instance of C without an attribute of that name -/
def Ins (C : Addr) (m : Str) (v : V) (H : Hp) : Prop := ∃ a dx fs, v = .ref a ∧ H a = some (.ins C dx fs) ∧ fs.lookup m = none
theorem e_meth {α : Type} {Ps : α → List Ds} {pre : α → Prop} {R : α → Ds} {to : TE} {ta : TA} {E : XK} {C : Addr} {m : Str} [mp : Mn P] {As : List Ds} (x : α) (ho : EP to σ F P) (h : EA ta σ F As) (hi : ∀ v F1, P v F1 → Ins C m v F1)
    (hx : ∀ v vs F1, Ex F F1 → P v F1 → AllP As vs F1 → AllP (Ps x) (v :: vs) F1) (hp : pre x) : EP (tMeth C m (Pr Ps pre R) [] E to ta) σ F (R x) := fun F1 H1 e b Q q =>
  ho F1 H1 e b _ fun v F2 H2 g hv => by
    obtain ⟨a, dx, fs, e3, e4, e5⟩ := hi v F2 hv
    exact ⟨a, dx, fs, e3, g.fh _ _ e4, e5, h F2 H2 (e.trans g.ff) g.fh _ fun vs F3 H3 g3 hs => ⟨x, F3, g3.fh, by rw [List.append_nil]; exact hx v vs F3 ((e.trans g.ff).trans g3.ff) (mp.mn g3.ff hv) hs, hp, fun w F4 H4 g4 hr => q w F4 H4 ((g.trans g3).trans g4) hr⟩⟩
/-! ### statements -/
variable {Dn : Ends} {tz tu tw : TS}
theorem EP.go (h : EP te σ F P) (e : Ex F H) {Q : VK} (k : ∀ v F1 H1, Gr F H F1 H1 → P v F1 → Q v H1) : te σ H Q := h F H (Ex.refl F) e Q k
theorem EvT.go {b : Bool} (h : EvT t σ F b) (e : Ex F H) {Q : Bool → Hp → Prop} (k : ∀ H1, Gr F H F H1 → Q b H1) : t σ H Q := h F H (Ex.refl F) e Q fun _ H1 g => k H1 g.less
theorem s_asg {i : Nat} (e : Ex F H) (h : EP te σ F P) (k : ∀ v F1 H1, Gr F H F1 H1 → P v F1 → Dn.nx (σ.set i (some v)) H1) : tAsg te (gName i) Dn σ H := h.go e fun v F1 H1 g hv => k v F1 H1 g hv
theorem q_asg {i : Nat} (e : Ex F H) (h : EP te σ F P) (k : ∀ v F1 H1, Gr F H F1 H1 → P v F1 → tz Dn (σ.set i (some v)) H1) : tSeq (tAsg te (gName i)) tz Dn σ H := s_asg (Dn := { Dn with nx := tz Dn }) e h k
theorem s_ret (e : Ex F H) (h : EP te σ F P) (k : ∀ v F1 H1, Gr F H F1 H1 → P v F1 → Dn.rt v H1) : tRet te Dn σ H := h.go e k
theorem s_drop (e : Ex F H) (h : EP te σ F P) (k : ∀ H1, Gr F H F H1 → Dn.nx σ H1) : tDrop te Dn σ H := h.go e fun _ _ H1 g _ => k H1 g.less
theorem q_drop (e : Ex F H) (h : EP te σ F P) (k : ∀ H1, Gr F H F H1 → tz Dn σ H1) : tSeq (tDrop te) tz Dn σ H := s_drop (Dn := { Dn with nx := tz Dn }) e h k
theorem s_if {b : Bool} (e : Ex F H) (h : EvT t σ F b) (h1 : b = true → ∀ H1, Gr F H F H1 → tu Dn σ H1) (h2 : b = false → ∀ H1, Gr F H F H1 → tw Dn σ H1) : tIfS t tu tw Dn σ H := h.go e fun H1 g => by
  cases b with
  | true => exact iteT (h1 rfl H1 g)
  | false => exact iteF (h2 rfl H1 g)
theorem q_if {b : Bool} (e : Ex F H) (h : EvT t σ F b) (h1 : b = true → ∀ H1, Gr F H F H1 → tu { Dn with nx := tz Dn } σ H1) (h2 : b = false → ∀ H1, Gr F H F H1 → tw { Dn with nx := tz Dn } σ H1) : tSeq (tIfS t tu tw) tz Dn σ H := s_if (Dn := { Dn with nx := tz Dn }) e h h1 h2
/-- if .. without else -/
theorem q_when {b : Bool} (e : Ex F H) (h : EvT t σ F b) (h1 : b = true → ∀ H1, Gr F H F H1 → tu { Dn with nx := tz Dn } σ H1) (h2 : b = false → ∀ H1, Gr F H F H1 → tz Dn σ H1) : tSeq (tIfS t tu tNext) tz Dn σ H := q_if e h h1 h2
theorem s_when {b : Bool} (e : Ex F H) (h : EvT t σ F b) (h1 : b = true → ∀ H1, Gr F H F H1 → tu Dn σ H1) (h2 : b = false → ∀ H1, Gr F H F H1 → Dn.nx σ H1) : tIfS t tu tNext Dn σ H := s_if e h h1 h2
/-- a refusal that is not due -/
theorem q_fine {b : Bool} (e : Ex F H) (h : EvT t σ F b) (k : ∀ H1, Gr F H F H1 → tz Dn σ H1) (hb : b = false := by rfl) : tSeq (tIfS t tNever tNext) tz Dn σ H := q_when e (hb ▸ h : EvT t σ F false) (fun z => Bool.noConfusion z) fun _ => k
theorem s_fine {b : Bool} (e : Ex F H) (h : EvT t σ F b) (k : ∀ H1, Gr F H F H1 → Dn.nx σ H1) (hb : b = false := by rfl) : tIfS t tNever tNext Dn σ H := s_when e (hb ▸ h : EvT t σ F false) (fun z => Bool.noConfusion z) fun _ => k
/-- a, b = two values written -/
theorem s_par {i j : Nat} {ta : TA} (e : Ex F H) (h : EA ta σ F [P1, P2]) (k : ∀ v w F1 H1, Gr F H F1 H1 → P1 v F1 → P2 w F1 → Dn.nx ((σ.set i (some v)).set j (some w)) H1) : tPar i j ta Dn σ H := h F H (Ex.refl F) e _ fun vs F1 H1 g hs => by
  obtain ⟨v, w, rfl, hv, hw⟩ := all2 hs
  exact ⟨v, w, rfl, k v w F1 H1 g hv hw⟩
theorem q_par {i j : Nat} {ta : TA} (e : Ex F H) (h : EA ta σ F [P1, P2]) (k : ∀ v w F1 H1, Gr F H F1 H1 → P1 v F1 → P2 w F1 → tz Dn ((σ.set i (some v)).set j (some w)) H1) : tSeq (tPar i j ta) tz Dn σ H := s_par (Dn := { Dn with nx := tz Dn }) e h k
/-- a, b = a tuple of two -/
theorem g_unp {i j : Nat} {d1 d2 : PyData} {v : V} {Q : L2.St → Hp → Prop} (e : Ex F H) (hv : D K (.tuple [d1, d2]) v F) (k : ∀ v w, D K d1 v F → D K d2 w F → Q ((σ.set i (some v)).set j (some w)) H) : gTup K 2 (gCons (gName i) (gCons (gName j) gNil)) v σ H Q := by
  obtain ⟨a, xs, rfl, h1, h2⟩ := dTup hv
  cases h2 with
  | cons p1 r =>
    cases r with
    | cons p2 r =>
      cases r
      exact ⟨a, _, rfl, Evl.ex_t e h1, rfl, _, _, rfl, _, _, rfl, rfl, k _ _ p1 p2⟩
theorem s_unp {i j : Nat} {d1 d2 : PyData} (e : Ex F H) (h : EP te σ F (D K (.tuple [d1, d2]))) (k : ∀ v w F1 H1, Gr F H F1 H1 → D K d1 v F1 → D K d2 w F1 → Dn.nx ((σ.set i (some v)).set j (some w)) H1) : tAsg te (gTup K 2 (gCons (gName i) (gCons (gName j) gNil))) Dn σ H := h.go e fun v F1 H1 g hv => g_unp g.fh hv fun v w h1 h2 => k v w F1 H1 g h1 h2
theorem q_unp {i j : Nat} {d1 d2 : PyData} (e : Ex F H) (h : EP te σ F (D K (.tuple [d1, d2]))) (k : ∀ v w F1 H1, Gr F H F1 H1 → D K d1 v F1 → D K d2 w F1 → tz Dn ((σ.set i (some v)).set j (some w)) H1) : tSeq (tAsg te (gTup K 2 (gCons (gName i) (gCons (gName j) gNil)))) tz Dn σ H := s_unp (Dn := { Dn with nx := tz Dn }) e h k
end
/-! ### defs -/
/-- a def of the module that may be called by its name -/
structure Cal (P : Program) (w : World) (K : PySem.W.Frag) (mg : Str → Option Value) (base : Heap) (k : Nat) (x : Str) (ps : List Str) (sp : Sp) : Prop where
  ex : ∃ (f : Addr) (fd : FuncData), FnOk P w K mg base CX0 k f fd ps sp ∧ mg x = some (.ref f) ∧ PySem.W.keepIn K (.ref f) = true ∧ Binds K fd ps []
/-- a method of the class at C -/
structure Met (P : Program) (w : World) (K : PySem.W.Frag) (mg : Str → Option Value) (base : Heap) (k : Nat) (C : Addr) (m : Str) (ps : List Str) (sp : Sp) : Prop where
  ex : ∃ (f : Addr) (fd : FuncData), Cls K C ∧ Meth K C m f ∧ FnOk P w K mg base CX0 k f fd ps sp ∧ Binds K fd ps []
section
variable {P : Program} {w : World} {K : PySem.W.Frag} {mg : Str → Option Value} {base : Heap}
abbrev FunN (K : PySem.W.Frag) (x qual : Str) (st : Stmt) (f : Addr) (fd : FuncData) : Prop := FunD K x qual (defArgs st) (defBody st) (defScope st) [] [] f fd
/-- what a def's body must show -/
def BodyOk (P : Program) (w : World) (K : PySem.W.Frag) (mg : Str → Option Value) (base : Heap) (k : Nat) (qual : Str) (st : Stmt) (N : List Str) (sp : Sp) : Prop :=
  ∀ (f : Addr) (cdv : Value) (A : Around) (outer : List Env) (s : Shared) (H : Hp) (vs : List V) (Q : VK) (E : XK), Room k (A.deeper (envOfC qual (defScope st) s.heap.objs.size f cdv)) → sp vs H Q E →
      ∃ t, PSs (cxOf CX0 P w K mg base N qual (defScope st) f cdv A outer s H E).nox (defBody st) t ∧ t { nx := fun _ H' => Q .non H', rt := Q } (start N vs) H
theorem fnOk {x qual : Str} {st : Stmt} {f : Addr} {fd : FuncData} {N ps : List Str} {k : Nat} {sp : Sp} (F : FunN K x qual st f fd) (S : FnScope N ps (defScope st)) (len : ∀ vs H Q E, sp vs H Q E → vs.length = ps.length) (b : BodyOk P w K mg base k qual st N sp) : FnOk P w K mg base CX0 (k + 1) f fd ps sp :=
  F.ok S len fun cdv A outer s H vs Q E hr h => by
    obtain ⟨t, h1, h2⟩ := b f cdv A outer s H vs Q E hr h
    exact ⟨t, h1.nox, h2⟩
theorem cal {x : Str} {st : Stmt} {f : Addr} {N ps : List Str} {k : Nat} {sp : Sp} (F : ∃ fd, FunN K x x st f fd) (hm : mg x = some (.ref f)) (S : FnScope N ps (defScope st))
    (hb : ∀ (kV doc pm : Value) (an : Option Addr) (cdv ct : Value) (us : List Value), us.length = ps.length → bindArgs (PySem.W.fnOf x x (defArgs st) (defBody st) (defScope st) .none kV doc pm an cdv ct) ⟨us, []⟩ = pure (ps.zip us))
    (len : ∀ vs H Q E, sp vs H Q E → vs.length = ps.length) (b : BodyOk P w K mg base k x st N sp) : Cal P w K mg base (k + 1) x ps sp := by
  obtain ⟨fd, F⟩ := F
  exact ⟨f, fd, fnOk F S len b, hm, F.kp, F.bindsN hb⟩
theorem met {m qual : Str} {C : Addr} {st : Stmt} {f : Addr} {N ps : List Str} {k : Nat} {sp : Sp} (F : ∃ fd, FunN K m qual st f fd) (c : Cls K C) (hm : Meth K C m f) (S : FnScope N ps (defScope st))
    (hb : ∀ (kV doc pm : Value) (an : Option Addr) (cdv ct : Value) (us : List Value), us.length = ps.length → bindArgs (PySem.W.fnOf m qual (defArgs st) (defBody st) (defScope st) .none kV doc pm an cdv ct) ⟨us, []⟩ = pure (ps.zip us))
    (len : ∀ vs H Q E, sp vs H Q E → vs.length = ps.length) (b : BodyOk P w K mg base k qual st N sp) : Met P w K mg base (k + 1) C m ps sp := by
  obtain ⟨fd, F⟩ := F
  exact ⟨f, fd, c, hm, fnOk F S len b, F.bindsN hb⟩
end
section
variable {X : Cx} {k j : Nat} {C : Addr} {x m : Str} {ps : List Str} {sp : Sp} {p pos apos : Pos} {e o : Expr} {es : List Expr} {ta : TE} {t : TA}
theorem p_call (c : Cal X.prog X.w X.K X.mg X.base k x ps sp) (hr : Room j X.A) (ha : PA X (e :: es) t) (hk : k ≤ j := by decide) (hg : Gl X x := by rfl)
    (hdb : (x == ("__debug__" : Str)) = false := by decide) (he : starEach (e :: es) X.env = (false, eval e X.env) :: starEach es X.env := by rfl) (hpl : (backTo pos (starEach es X.env)).any (·.1) = false := by rfl) :
    PE X (.Call (.Name x p) (e :: es) [] pos) (tCall sp [] E0 t) := by
  obtain ⟨f, fd, F, hm, kp, b⟩ := c.ex
  exact pe_call F (hr.mono hk) hg hm kp b .nil pass0 ha hdb he hpl
theorem p_meth {pl : Sem Bool} (c : Met X.prog X.w X.K X.mg X.base k C m ps sp) (hr : Room j X.A) (he : PE X o ta) (ha : PA X (e :: es) t) (hk : k ≤ j := by decide)
    (hst : starEach (e :: es) X.env = (false, eval e X.env) :: starEach es X.env := by rfl) (hpl : (backTo pos (starEach es X.env)).any (·.1) = false := by rfl)
    (ht : eval (.Call (.Attribute o m apos) (e :: es) [] pos) X.env = (do
      let ov ← eval o X.env
      standAt apos.atName
      let (f, first) ← holding [ov] (getMethod ov m pl)
      callWith pos f first (backTo pos (starEach (e :: es) X.env)) (backToKw pos (keywordEach [] X.env))) := by rfl) :
    PE X (.Call (.Attribute o m apos) (e :: es) [] pos) (tMeth C m sp [] E0 ta t) := by
  obtain ⟨f, fd, hc, hm, F, b⟩ := c.ex
  exact pe_meth (pl := pl) he hc hm F (hr.mono hk) b .nil pass0 ha hst hpl ht
theorem p_meth0 {pl : Sem Bool} (c : Met X.prog X.w X.K X.mg X.base k C m ps sp) (hr : Room j X.A) (he : PE X o ta) (hk : k ≤ j := by decide)
    (ht : eval (.Call (.Attribute o m apos) [] [] pos) X.env = (do
      let ov ← eval o X.env
      standAt apos.atName
      let (f, first) ← holding [ov] (getMethod ov m pl)
      callWith pos f first (backTo pos (starEach [] X.env)) (backToKw pos (keywordEach [] X.env))) := by rfl) :
    PE X (.Call (.Attribute o m apos) [] [] pos) (tMeth C m sp [] E0 ta tNil) := by
  obtain ⟨f, fd, hc, hm, F, b⟩ := c.ex
  exact pe_meth0 (pl := pl) he hc hm F (hr.mono hk) b .nil pass0 ht
/-- a module's constant: a text, an int, an object -/
theorem p_gs {z : Str} (h : ∃ t, X.mg x = some (.str z t)) (hg : Gl X x := by rfl) (hd : (x == ("__debug__" : Str)) = false := by decide) : PE X (.Name x pos) (tC (.str z)) := by
  obtain ⟨t, h⟩ := h
  exact pe_glob hg h ⟨t, rfl⟩ hd
theorem p_gi {z : Int} (h : ∃ t, X.mg x = some (.int z t)) (hg : Gl X x := by rfl) (hd : (x == ("__debug__" : Str)) = false := by decide) : PE X (.Name x pos) (tC (.int z)) := by
  obtain ⟨t, h⟩ := h
  exact pe_glob hg h ⟨t, rfl⟩ hd
theorem p_gr {a : Addr} (h : X.mg x = some (.ref a)) (hg : Gl X x := by rfl) (hd : (x == ("__debug__" : Str)) = false := by decide) : PE X (.Name x pos) (tC (.ref a)) := pe_glob hg h rfl hd
end
end OL
-- OhText
set_option maxHeartbeats 1000000
namespace OL
open PySem PySem.Spec PyProof.Rows L2
open SX (S)
/-! ### the text by places -/
def top (i : Nat) : Stmt := PySem.Challenge.pw_onehand_k98_whole_a_world_split_at_its_c.main.body.getD i (.Pass ⟨0, 0, 0, 0⟩)
abbrev s_is_whole : Stmt := top 13
abbrev s_is_from : Stmt := top 14
abbrev s_is_place : Stmt := top 15
abbrev s_is_turn : Stmt := top 19
abbrev s_want_turn : Stmt := top 20
abbrev s_want_row : Stmt := top 21
abbrev s_want_deed : Stmt := top 22
abbrev s_way : Stmt := top 23
abbrev s_row_turned : Stmt := top 24
abbrev s_then : Stmt := top 25
abbrev s_is_text : Stmt := top 35
abbrev s_want_rows : Stmt := top 36
abbrev s_next_to : Stmt := top 37
abbrev s_is_stand : Stmt := top 40
abbrev s_is_book : Stmt := top 41
abbrev s_are_wishes : Stmt := top 42
abbrev s_first_wrong : Stmt := top 43
abbrev s_want_kind : Stmt := top 48
abbrev s_first_thing : Stmt := top 49
abbrev s_is_brought : Stmt := top 50
abbrev s_things_behind : Stmt := top 51
abbrev s_first_row : Stmt := top 52
abbrev s_are_worlds : Stmt := top 55
abbrev s_law_mixed : Stmt := top 58
abbrev s_law_source : Stmt := top 59
abbrev s_law_take : Stmt := top 60
abbrev s_law_one : Stmt := top 61
abbrev s_law_sense : Stmt := top 63
abbrev s_law_spots : Stmt := top 64
abbrev s_law_land : Stmt := top 65
abbrev s_law_made : Stmt := top 66
abbrev s_law_sign : Stmt := top 67
abbrev s_law_goes : Stmt := top 68
abbrev s_law_becomes : Stmt := top 69
abbrev s_law_behind : Stmt := top 70
abbrev s_law_gone : Stmt := top 71
abbrev s_law_plated : Stmt := top 73
abbrev s_law_bare : Stmt := top 74
abbrev s_law_cuts : Stmt := top 75
abbrev s_law_piece_right : Stmt := top 76
abbrev s_law_row_right : Stmt := top 77
abbrev s_law_never : Stmt := top 78
abbrev s_law : Stmt := top 79
abbrev s_Floor_init : Stmt := inClass (top 38) 0
abbrev s_Floor_size : Stmt := inClass (top 38) 4
abbrev s_Floor_has : Stmt := inClass (top 38) 5
abbrev s_Floor_seen : Stmt := inClass (top 38) 6
abbrev s_Floor_letters : Stmt := inClass (top 38) 8
abbrev s_Floor_places : Stmt := inClass (top 38) 9
abbrev s_Floor_open_places : Stmt := inClass (top 38) 10
abbrev s_Floor_can_stand : Stmt := inClass (top 38) 11
abbrev s_Floor_goes : Stmt := inClass (top 38) 12
abbrev s_World_init : Stmt := inClass (top 44) 0
abbrev s_World_floor : Stmt := inClass (top 44) 2
abbrev s_World_start : Stmt := inClass (top 44) 5
abbrev s_World_want_stand : Stmt := inClass (top 44) 6
abbrev s_World_behind : Stmt := inClass (top 44) 8
abbrev s_World_after : Stmt := inClass (top 44) 9
abbrev s_World_wished : Stmt := inClass (top 44) 15
abbrev s_Hand_init : Stmt := inClass (top 56) 0
abbrev s_Hand_worlds : Stmt := inClass (top 56) 2
abbrev s_Hand_start : Stmt := inClass (top 56) 3
abbrev s_Hand_want_stands : Stmt := inClass (top 56) 4
abbrev s_Hand_after : Stmt := inClass (top 56) 5
/-! ### the facts of the top -/
abbrev cF (K : PySem.W.Frag) : Addr := He.ga K "Floor"
abbrev cW (K : PySem.W.Frag) : Addr := He.ga K "World"
abbrev cH (K : PySem.W.Frag) : Addr := He.ga K "Hand"
structure Tt (K : PySem.W.Frag) (mg : Str → Option Value) : Prop where
  f_isinstance : mg "isinstance" = none
  f_int : mg "int" = none
  f_bool : mg "bool" = none
  f_tuple : mg "tuple" = none
  f_len : mg "len" = none
  f_str : mg "str" = none
  f_enumerate : mg "enumerate" = none
  f_list : mg "list" = none
  f_all : mg "all" = none
  f_any : mg "any" = none
  f_dict : mg "dict" = none
  f_set : mg "set" = none
  f_sorted : mg "sorted" = none
  f_zip : mg "zip" = none
  f_range : mg "range" = none
  s_DEEDS : ∃ t, mg "DEEDS" = some (.str "urdl" t)
  s_WALL : ∃ t, mg "WALL" = some (.str "#" t)
  s_ICE : ∃ t, mg "ICE" = some (.str "~" t)
  s_PIT : ∃ t, mg "PIT" = some (.str "x" t)
  s_LETTERS : ∃ t, mg "LETTERS" = some (.str "abcd" t)
  s_OPEN : ∃ t, mg "OPEN" = some (.str ".abcd" t)
  s_SIGNS : ∃ t, mg "SIGNS" = some (.str "#~x.abcd" t)
  i_MOST : ∃ t, mg "MOST" = some (.int 6 t)
  i_MOST_THINGS : ∃ t, mg "MOST_THINGS" = some (.int 3000 t)
  i_MOST_WORLDS : ∃ t, mg "MOST_WORLDS" = some (.int 4 t)
  t_TURNS : mg "TURNS" = some (.ref (He.ga K "TURNS"))
  t_KINDS : mg "KINDS" = some (.ref (He.ga K "KINDS"))
  t_STEPS : mg "STEPS" = some (.ref (He.ga K "STEPS"))
  q_TURNS : ∀ H, SqT K H (He.ga K "TURNS") ((["urdl", "rdlu", "dlur", "lurd", "uldr", "drul", "ldru", "ruld"] : List Str).map V.str)
  q_KINDS : ∀ H, SqT K H (He.ga K "KINDS") ((["at", "been", "meet"] : List Str).map V.str)
  q_STEPS : ∀ H, ∃ a b c d, SqT K H (He.ga K "STEPS") [.ref a, .ref b, .ref c, .ref d] ∧ SqT K H a [.int (-1), .int 0] ∧ SqT K H b [.int 0, .int 1] ∧ SqT K H c [.int 1, .int 0] ∧ SqT K H d [.int 0, .int (-1)]
  c_Floor : mg "Floor" = some (.ref (cF K))
  k_Floor : Cls K (cF K)
  n_texts : NoAttr K (cF K) "texts"
  m_Floor_size : ∃ f, Meth K (cF K) "size" f
  m_Floor_has : ∃ f, Meth K (cF K) "has" f
  m_Floor_seen : ∃ f, Meth K (cF K) "seen" f
  m_Floor_letters : ∃ f, Meth K (cF K) "letters" f
  m_Floor_places : ∃ f, Meth K (cF K) "places" f
  m_Floor_open_places : ∃ f, Meth K (cF K) "open_places" f
  m_Floor_can_stand : ∃ f, Meth K (cF K) "can_stand" f
  m_Floor_goes : ∃ f, Meth K (cF K) "goes" f
  mk_Floor : ∃ f, Mk K (cF K) f
  i_Floor : C8.InsC K (cF K)
  c_World : mg "World" = some (.ref (cW K))
  k_World : Cls K (cW K)
  n_ground : NoAttr K (cW K) "ground"
  n_pages : NoAttr K (cW K) "pages"
  n_goals : NoAttr K (cW K) "goals"
  n_opening : NoAttr K (cW K) "opening"
  n_first : NoAttr K (cW K) "first"
  m_World_floor : ∃ f, Meth K (cW K) "floor" f
  m_World_start : ∃ f, Meth K (cW K) "start" f
  m_World_want_stand : ∃ f, Meth K (cW K) "want_stand" f
  m_World_behind : ∃ f, Meth K (cW K) "behind" f
  m_World_after : ∃ f, Meth K (cW K) "after" f
  m_World_wished : ∃ f, Meth K (cW K) "wished" f
  mk_World : ∃ f, Mk K (cW K) f
  i_World : C8.InsC K (cW K)
  c_Hand : mg "Hand" = some (.ref (cH K))
  k_Hand : Cls K (cH K)
  n_ones : NoAttr K (cH K) "ones"
  m_Hand_worlds : ∃ f, Meth K (cH K) "worlds" f
  m_Hand_start : ∃ f, Meth K (cH K) "start" f
  m_Hand_want_stands : ∃ f, Meth K (cH K) "want_stands" f
  m_Hand_after : ∃ f, Meth K (cH K) "after" f
  mk_Hand : ∃ f, Mk K (cH K) f
end OL
-- OhHead
set_option maxHeartbeats 0
namespace OHead
open PySem PySem.Spec PyProof.Rows L2 OL
def d_is_whole : He.DefD := ⟨("is_whole", none), "is_whole", "is_whole", defArgs s_is_whole, defBody s_is_whole, defScope s_is_whole, [], []⟩
def d_is_from : He.DefD := ⟨("is_from", none), "is_from", "is_from", defArgs s_is_from, defBody s_is_from, defScope s_is_from, [], []⟩
def d_is_place : He.DefD := ⟨("is_place", none), "is_place", "is_place", defArgs s_is_place, defBody s_is_place, defScope s_is_place, [], []⟩
def d_is_turn : He.DefD := ⟨("is_turn", none), "is_turn", "is_turn", defArgs s_is_turn, defBody s_is_turn, defScope s_is_turn, [], []⟩
def d_want_turn : He.DefD := ⟨("want_turn", none), "want_turn", "want_turn", defArgs s_want_turn, defBody s_want_turn, defScope s_want_turn, [], []⟩
def d_want_row : He.DefD := ⟨("want_row", none), "want_row", "want_row", defArgs s_want_row, defBody s_want_row, defScope s_want_row, [], []⟩
def d_want_deed : He.DefD := ⟨("want_deed", none), "want_deed", "want_deed", defArgs s_want_deed, defBody s_want_deed, defScope s_want_deed, [], []⟩
def d_way : He.DefD := ⟨("way", none), "way", "way", defArgs s_way, defBody s_way, defScope s_way, [], []⟩
def d_row_turned : He.DefD := ⟨("row_turned", none), "row_turned", "row_turned", defArgs s_row_turned, defBody s_row_turned, defScope s_row_turned, [], []⟩
def d_then : He.DefD := ⟨("then", none), "then", "then", defArgs s_then, defBody s_then, defScope s_then, [], []⟩
def d_is_text : He.DefD := ⟨("is_text", none), "is_text", "is_text", defArgs s_is_text, defBody s_is_text, defScope s_is_text, [], []⟩
def d_want_rows : He.DefD := ⟨("want_rows", none), "want_rows", "want_rows", defArgs s_want_rows, defBody s_want_rows, defScope s_want_rows, [], []⟩
def d_next_to : He.DefD := ⟨("next_to", none), "next_to", "next_to", defArgs s_next_to, defBody s_next_to, defScope s_next_to, [], []⟩
def d_is_stand : He.DefD := ⟨("is_stand", none), "is_stand", "is_stand", defArgs s_is_stand, defBody s_is_stand, defScope s_is_stand, [], []⟩
def d_is_book : He.DefD := ⟨("is_book", none), "is_book", "is_book", defArgs s_is_book, defBody s_is_book, defScope s_is_book, [], []⟩
def d_are_wishes : He.DefD := ⟨("are_wishes", none), "are_wishes", "are_wishes", defArgs s_are_wishes, defBody s_are_wishes, defScope s_are_wishes, [], []⟩
def d_first_wrong : He.DefD := ⟨("first_wrong", none), "first_wrong", "first_wrong", defArgs s_first_wrong, defBody s_first_wrong, defScope s_first_wrong, [], []⟩
def d_want_kind : He.DefD := ⟨("want_kind", none), "want_kind", "want_kind", defArgs s_want_kind, defBody s_want_kind, defScope s_want_kind, [], []⟩
def d_first_thing : He.DefD := ⟨("first_thing", none), "first_thing", "first_thing", defArgs s_first_thing, defBody s_first_thing, defScope s_first_thing, [], []⟩
def d_is_brought : He.DefD := ⟨("is_brought", none), "is_brought", "is_brought", defArgs s_is_brought, defBody s_is_brought, defScope s_is_brought, [], []⟩
def d_things_behind : He.DefD := ⟨("things_behind", none), "things_behind", "things_behind", defArgs s_things_behind, defBody s_things_behind, defScope s_things_behind, [], []⟩
def d_first_row : He.DefD := ⟨("first_row", none), "first_row", "first_row", defArgs s_first_row, defBody s_first_row, defScope s_first_row, [], [("safe", .bl false)]⟩
def d_are_worlds : He.DefD := ⟨("are_worlds", none), "are_worlds", "are_worlds", defArgs s_are_worlds, defBody s_are_worlds, defScope s_are_worlds, [], []⟩
def d_law_mixed : He.DefD := ⟨("_law_mixed", none), "_law_mixed", "_law_mixed", defArgs s_law_mixed, defBody s_law_mixed, defScope s_law_mixed, [], []⟩
def d_law_source : He.DefD := ⟨("_law_source", none), "_law_source", "_law_source", defArgs s_law_source, defBody s_law_source, defScope s_law_source, [], []⟩
def d_law_take : He.DefD := ⟨("_law_take", none), "_law_take", "_law_take", defArgs s_law_take, defBody s_law_take, defScope s_law_take, [], []⟩
def d_law_one : He.DefD := ⟨("_law_one", none), "_law_one", "_law_one", defArgs s_law_one, defBody s_law_one, defScope s_law_one, [], []⟩
def d_law_sense : He.DefD := ⟨("_law_sense", none), "_law_sense", "_law_sense", defArgs s_law_sense, defBody s_law_sense, defScope s_law_sense, [], []⟩
def d_law_spots : He.DefD := ⟨("_law_spots", none), "_law_spots", "_law_spots", defArgs s_law_spots, defBody s_law_spots, defScope s_law_spots, [], []⟩
def d_law_land : He.DefD := ⟨("_law_land", none), "_law_land", "_law_land", defArgs s_law_land, defBody s_law_land, defScope s_law_land, [], []⟩
def d_law_made : He.DefD := ⟨("_law_made", none), "_law_made", "_law_made", defArgs s_law_made, defBody s_law_made, defScope s_law_made, [], []⟩
def d_law_sign : He.DefD := ⟨("_law_sign", none), "_law_sign", "_law_sign", defArgs s_law_sign, defBody s_law_sign, defScope s_law_sign, [], []⟩
def d_law_goes : He.DefD := ⟨("_law_goes", none), "_law_goes", "_law_goes", defArgs s_law_goes, defBody s_law_goes, defScope s_law_goes, [], []⟩
def d_law_becomes : He.DefD := ⟨("_law_becomes", none), "_law_becomes", "_law_becomes", defArgs s_law_becomes, defBody s_law_becomes, defScope s_law_becomes, [], []⟩
def d_law_behind : He.DefD := ⟨("_law_behind", none), "_law_behind", "_law_behind", defArgs s_law_behind, defBody s_law_behind, defScope s_law_behind, [], []⟩
def d_law_gone : He.DefD := ⟨("_law_gone", none), "_law_gone", "_law_gone", defArgs s_law_gone, defBody s_law_gone, defScope s_law_gone, [], []⟩
def d_law_plated : He.DefD := ⟨("_law_plated", none), "_law_plated", "_law_plated", defArgs s_law_plated, defBody s_law_plated, defScope s_law_plated, [], []⟩
def d_law_bare : He.DefD := ⟨("_law_bare", none), "_law_bare", "_law_bare", defArgs s_law_bare, defBody s_law_bare, defScope s_law_bare, [], []⟩
def d_law_cuts : He.DefD := ⟨("_law_cuts", none), "_law_cuts", "_law_cuts", defArgs s_law_cuts, defBody s_law_cuts, defScope s_law_cuts, [], []⟩
def d_law_piece_right : He.DefD := ⟨("_law_piece_right", none), "_law_piece_right", "_law_piece_right", defArgs s_law_piece_right, defBody s_law_piece_right, defScope s_law_piece_right, [], []⟩
def d_law_row_right : He.DefD := ⟨("_law_row_right", none), "_law_row_right", "_law_row_right", defArgs s_law_row_right, defBody s_law_row_right, defScope s_law_row_right, [], []⟩
def d_law_never : He.DefD := ⟨("_law_never", none), "_law_never", "_law_never", defArgs s_law_never, defBody s_law_never, defScope s_law_never, [], []⟩
def d_law : He.DefD := ⟨("law", none), "law", "law", defArgs s_law, defBody s_law, defScope s_law, [], []⟩
def d_Floor_init : He.DefD := ⟨("Floor", some "__init__"), "__init__", "Floor.__init__", defArgs s_Floor_init, defBody s_Floor_init, defScope s_Floor_init, [], []⟩
def d_Floor_size : He.DefD := ⟨("Floor", some "size"), "size", "Floor.size", defArgs s_Floor_size, defBody s_Floor_size, defScope s_Floor_size, [], []⟩
def d_Floor_has : He.DefD := ⟨("Floor", some "has"), "has", "Floor.has", defArgs s_Floor_has, defBody s_Floor_has, defScope s_Floor_has, [], []⟩
def d_Floor_seen : He.DefD := ⟨("Floor", some "seen"), "seen", "Floor.seen", defArgs s_Floor_seen, defBody s_Floor_seen, defScope s_Floor_seen, [], []⟩
def d_Floor_letters : He.DefD := ⟨("Floor", some "letters"), "letters", "Floor.letters", defArgs s_Floor_letters, defBody s_Floor_letters, defScope s_Floor_letters, [], []⟩
def d_Floor_places : He.DefD := ⟨("Floor", some "places"), "places", "Floor.places", defArgs s_Floor_places, defBody s_Floor_places, defScope s_Floor_places, [], []⟩
def d_Floor_open_places : He.DefD := ⟨("Floor", some "open_places"), "open_places", "Floor.open_places", defArgs s_Floor_open_places, defBody s_Floor_open_places, defScope s_Floor_open_places, [], []⟩
def d_Floor_can_stand : He.DefD := ⟨("Floor", some "can_stand"), "can_stand", "Floor.can_stand", defArgs s_Floor_can_stand, defBody s_Floor_can_stand, defScope s_Floor_can_stand, [], []⟩
def d_Floor_goes : He.DefD := ⟨("Floor", some "goes"), "goes", "Floor.goes", defArgs s_Floor_goes, defBody s_Floor_goes, defScope s_Floor_goes, [], []⟩
def d_World_init : He.DefD := ⟨("World", some "__init__"), "__init__", "World.__init__", defArgs s_World_init, defBody s_World_init, defScope s_World_init, [], [("turn", .str "urdl"), ("book", .non)]⟩
def d_World_floor : He.DefD := ⟨("World", some "floor"), "floor", "World.floor", defArgs s_World_floor, defBody s_World_floor, defScope s_World_floor, [], []⟩
def d_World_start : He.DefD := ⟨("World", some "start"), "start", "World.start", defArgs s_World_start, defBody s_World_start, defScope s_World_start, [], []⟩
def d_World_want_stand : He.DefD := ⟨("World", some "want_stand"), "want_stand", "World.want_stand", defArgs s_World_want_stand, defBody s_World_want_stand, defScope s_World_want_stand, [], []⟩
def d_World_behind : He.DefD := ⟨("World", some "behind"), "behind", "World.behind", defArgs s_World_behind, defBody s_World_behind, defScope s_World_behind, [], []⟩
def d_World_after : He.DefD := ⟨("World", some "after"), "after", "World.after", defArgs s_World_after, defBody s_World_after, defScope s_World_after, [], []⟩
def d_World_wished : He.DefD := ⟨("World", some "wished"), "wished", "World.wished", defArgs s_World_wished, defBody s_World_wished, defScope s_World_wished, [], []⟩
def d_Hand_init : He.DefD := ⟨("Hand", some "__init__"), "__init__", "Hand.__init__", defArgs s_Hand_init, defBody s_Hand_init, defScope s_Hand_init, [], []⟩
def d_Hand_worlds : He.DefD := ⟨("Hand", some "worlds"), "worlds", "Hand.worlds", defArgs s_Hand_worlds, defBody s_Hand_worlds, defScope s_Hand_worlds, [], []⟩
def d_Hand_start : He.DefD := ⟨("Hand", some "start"), "start", "Hand.start", defArgs s_Hand_start, defBody s_Hand_start, defScope s_Hand_start, [], []⟩
def d_Hand_want_stands : He.DefD := ⟨("Hand", some "want_stands"), "want_stands", "Hand.want_stands", defArgs s_Hand_want_stands, defBody s_Hand_want_stands, defScope s_Hand_want_stands, [], []⟩
def d_Hand_after : He.DefD := ⟨("Hand", some "after"), "after", "Hand.after", defArgs s_Hand_after, defBody s_Hand_after, defScope s_Hand_after, [], []⟩
def fn : List He.DefD := [d_is_whole, d_is_from, d_is_place, d_is_turn, d_want_turn, d_want_row, d_want_deed, d_way, d_row_turned, d_then, d_is_text, d_want_rows, d_next_to, d_is_stand, d_is_book, d_are_wishes, d_first_wrong, d_want_kind, d_first_thing, d_is_brought, d_things_behind, d_first_row, d_are_worlds, d_law_mixed, d_law_source, d_law_take, d_law_one, d_law_sense, d_law_spots, d_law_land, d_law_made, d_law_sign, d_law_goes, d_law_becomes, d_law_behind, d_law_gone, d_law_plated, d_law_bare, d_law_cuts, d_law_piece_right, d_law_row_right, d_law_never, d_law, d_Floor_init, d_Floor_size, d_Floor_has, d_Floor_seen, d_Floor_letters, d_Floor_places, d_Floor_open_places, d_Floor_can_stand, d_Floor_goes, d_World_init, d_World_floor, d_World_start, d_World_want_stand, d_World_behind, d_World_after, d_World_wished, d_Hand_init, d_Hand_worlds, d_Hand_start, d_Hand_want_stands, d_Hand_after]
def fa0 : List He.Fa := [.glo "is_whole", .glo "is_from", .glo "is_place", .glo "is_turn", .glo "want_turn", .glo "want_row", .glo "want_deed", .glo "way", .glo "row_turned", .glo "then", .glo "is_text", .glo "want_rows", .glo "next_to", .glo "is_stand", .glo "is_book", .glo "are_wishes", .glo "first_wrong", .glo "want_kind", .glo "first_thing", .glo "is_brought", .glo "things_behind", .glo "first_row", .glo "are_worlds", .glo "_law_mixed", .glo "_law_source", .glo "_law_take", .glo "_law_one", .glo "_law_sense", .glo "_law_spots", .glo "_law_land"]
def fa1 : List He.Fa := [.glo "_law_made", .glo "_law_sign", .glo "_law_goes", .glo "_law_becomes", .glo "_law_behind", .glo "_law_gone", .glo "_law_plated", .glo "_law_bare", .glo "_law_cuts", .glo "_law_piece_right", .glo "_law_row_right", .glo "_law_never", .glo "law", .glo "Floor", .glo "World", .glo "Hand", .free "isinstance", .free "int", .free "bool", .free "tuple", .free "len", .free "str", .free "enumerate", .free "list", .free "all", .free "any", .free "dict", .free "set", .free "sorted", .free "zip"]
def fa2 : List He.Fa := [.free "range", .int "MOST" 6, .int "MOST_THINGS" 3000, .int "MOST_WORLDS" 4, .str "DEEDS" "urdl", .str "WALL" "#", .str "ICE" "~", .str "PIT" "x", .str "LETTERS" "abcd", .str "OPEN" ".abcd", .str "SIGNS" "#~x.abcd", .glo "TURNS", .glo "KINDS", .glo "STEPS", .cls "Floor", .noat "Floor" "texts", .meth "Floor" "size", .meth "Floor" "has", .meth "Floor" "seen", .meth "Floor" "letters", .meth "Floor" "places", .meth "Floor" "open_places", .meth "Floor" "can_stand", .meth "Floor" "goes", .mkr "Floor", .cls "World", .noat "World" "ground", .noat "World" "pages", .noat "World" "goals", .noat "World" "opening"]
def fa3 : List He.Fa := [.noat "World" "first", .meth "World" "floor", .meth "World" "start", .meth "World" "want_stand", .meth "World" "behind", .meth "World" "after", .meth "World" "wished", .mkr "World", .cls "Hand", .noat "Hand" "ones", .meth "Hand" "worlds", .meth "Hand" "start", .meth "Hand" "want_stands", .meth "Hand" "after", .mkr "Hand"]
def fa : List He.Fa := fa0 ++ fa1 ++ fa2 ++ fa3
/-- the i-th item of the tuple that the name x stands for, if it is an object -/
def itAt (x : Str) (i : Nat) (K : PySem.W.Frag) : Addr := match K.lookup (He.ga K x) with
  | some ⟨_, _, .seq its _, _⟩ => (match its.toList[i]? with
    | some (.ref a) => a
    | _ => 0)
  | _ => 0
def tupAtB (K : PySem.W.Frag) (a : Addr) (vs : List He.Dv) : Bool := match K.lookup a with
  | some ⟨.type c, _, .seq its _, _⟩ => decide (c = "tuple") && (decide (its.size ≤ sizeLine) && He.relAll (vs.map (He.Dv.v K)) its.toList)
  | _ => false
theorem tupAtB_ok {K : PySem.W.Frag} {a : Addr} {vs : List He.Dv} (h : tupAtB K a vs = true) (H : Hp) : SqT K H a (vs.map (He.Dv.v K)) := by
  unfold tupAtB at h
  cases q : K.lookup a with
  | none =>
    rw [q] at h
    cases h
  | some o =>
    obtain ⟨oc, od, dt, osl⟩ := o
    rw [q] at h
    cases oc with
    | type c =>
      cases dt with
      | seq its n =>
        obtain ⟨h1, h2⟩ := He.ba (show (decide (c = "tuple") && (decide (its.size ≤ sizeLine) && He.relAll (vs.map (He.Dv.v K)) its.toList)) = true from h)
        obtain ⟨h3, h4⟩ := He.ba h2
        exact .inr ⟨_, its, n, q, congrArg Value.type (of_decide_eq_true h1), rfl, of_decide_eq_true h3, He.relAll_ok h4⟩
      | _ => cases h
    | _ => cases dt <;> cases h
/-- isinstance of the class x -/
def insB (K : PySem.W.Frag) (x : Str) : Bool :=
  He.eqO (PySem.W.findIn K (.ref (He.ga K x)) "__class__") (some (some (.builtin "object.__class__"))) &&
  (He.eqO (PySem.W.specialIn K (.builtin "object.__class__") "__get__") (some (some (.builtin "getset_descriptor.__get__"))) &&
  (decide (PySem.W.takesIn K (.builtin "object.__class__") = some true) && (decide (PySem.W.mroIn K (He.ga K x) (.type "object") = some true) && decide (PySem.W.kitOne K (.ref (He.ga K x)) (.ref (He.ga K x)) = some true))))
theorem insB_ok {K : PySem.W.Frag} {x : Str} (h : insB K x = true) (c : Cls K (He.ga K x)) : C8.InsC K (He.ga K x) := by
  obtain ⟨h1, h⟩ := He.ba h
  obtain ⟨h2, h⟩ := He.ba h
  obtain ⟨h3, h⟩ := He.ba h
  obtain ⟨h4, h5⟩ := He.ba h
  exact ⟨c, He.eqO_ok h1, He.eqO_ok h2, of_decide_eq_true h3, of_decide_eq_true h4, of_decide_eq_true h5⟩
def ex (K : PySem.W.Frag) : Bool :=
  insB K "Floor" && (insB K "World" && (
  He.tupB K "TURNS" [.str "urdl", .str "rdlu", .str "dlur", .str "lurd", .str "uldr", .str "drul", .str "ldru", .str "ruld"] &&
  (He.tupB K "KINDS" [.str "at", .str "been", .str "meet"] &&
  (He.tupB K "STEPS" [.adr (itAt "STEPS" 0), .adr (itAt "STEPS" 1), .adr (itAt "STEPS" 2), .adr (itAt "STEPS" 3)] &&
  (tupAtB K (itAt "STEPS" 0 K) [.int (-1), .int 0] && (tupAtB K (itAt "STEPS" 1 K) [.int 0, .int 1] && (tupAtB K (itAt "STEPS" 2 K) [.int 1, .int 0] && tupAtB K (itAt "STEPS" 3 K) [.int 0, .int (-1)])))))))
/-! ### a lean hook: what the named things reach, each address once forced -/
def refsM (o : Obj) : List Addr := match o.data with
  | .seq its _ => its.toList.flatMap He.refV
  | .dict es _ => es.toList.flatMap fun e => He.refV e.val
  | .func fd => He.refV fd.code ++ (He.refV fd.defaults ++ He.refV fd.kwdefaults)
  | .cls cd => cd.ns :: cd.mro.flatMap He.refV
  | _ => []
def refsA (g : Addr → Option Obj) (as : List Addr) : List Addr := as.flatMap fun a => match g a with
  | some o => refsM o
  | none => []
def startM (g : Addr → Option Obj) (gs : List Str) : List Addr := match g mainGlobals with
  | some ⟨_, _, .dict es _, _⟩ => gs.flatMap fun x => match es.toList.find? (·.key.isStr x) with
    | some e => He.refV e.val
    | none => []
  | _ => []
def frL {α : Type} : List Addr → (List Addr → α) → α
  | [], k => k []
  | a :: r, k => HandSHeadRun.frNat a fun a => frL r fun r => k (a :: r)
theorem frL_eq {α : Type} : ∀ (l : List Addr) (k : List Addr → α), frL l k = k l
  | [], _ => rfl
  | a :: r, k => by
    show HandSHeadRun.frNat a (fun a => frL r fun r => k (a :: r)) = _
    rw [HandSHeadRun.frNat_eq, frL_eq r]
def frK {α : Type} (g : Addr → Option Obj) : List Addr → (PySem.W.Frag → α) → α
  | [], k => k []
  | a :: r, k => match g a with
    | some o => frK g r fun K => k ((a, o) :: K)
    | none => frK g r k
theorem frK_eq {α : Type} (g : Addr → Option Obj) : ∀ (l : List Addr) (k : PySem.W.Frag → α), frK g l k = k (He.frG g l)
  | [], _ => rfl
  | a :: r, k => by
    unfold frK He.frG
    rw [List.filterMap_cons]
    cases e : g a with
    | none => exact frK_eq g r k
    | some o => exact frK_eq g r _
/-- what the names gs reach: themselves, their code, a class's own names, its methods, their code -/
def frA {α : Type} (g : Addr → Option Obj) (gs : List Str) (k : List Addr → α) : α :=
  frL (startM g gs) fun a0 => frL (refsA g a0) fun a1 => frL (refsA g a1) fun a2 => frL (refsA g a2) fun a3 => k (mainGlobals :: (a0 ++ (a1 ++ (a2 ++ a3))))
def asM (g : Addr → Option Obj) (gs : List Str) : List Addr := frA g gs id
theorem frA_as {α : Type} (g : Addr → Option Obj) (gs : List Str) (k : List Addr → α) : frA g gs k = k (asM g gs) := by
  unfold asM frA
  simp only [frL_eq]
  rfl
abbrev AlM : Type := He.AlD × Bool
def obsM (gs : List Str) (fa : List He.Fa) (fn : List He.DefD) (ex : PySem.W.Frag → Bool) (g : Addr → Option Obj) : AlM := frA g gs fun as => frK g as fun K => (He.obsD fa fn K, ex K)
theorem obsM_eq (gs : List Str) (fa : List He.Fa) (fn : List He.DefD) (ex : PySem.W.Frag → Bool) (g : Addr → Option Obj) : obsM gs fa fn ex g = (He.obsD fa fn (He.frG g (asM g gs)), ex (He.frG g (asM g gs))) := by
  unfold obsM
  rw [frA_as, frK_eq]
def hookM (gs : List Str) (fa : List He.Fa) (fn : List He.DefD) (ex : PySem.W.Frag → Bool) : PySem.W.Hook where
  α := AlM
  obs := fun s => obsM gs fa fn ex s.heap.get?
  val := fun _ => (He.valD fn, true)
  says := fun _ h => ∃ K : PySem.W.Frag, K.In h ∧ He.SaysD fa fn K ∧ ex K = true
  of := fun _ s e => by
    rw [obsM_eq] at e
    exact ⟨_, He.frG_in, congrArg (fun z : AlM => z.1) e, congrArg (fun z : AlM => z.2) e⟩
  keeps := fun _ _ _ ⟨K, hK, c⟩ k => ⟨K, PySem.W.Frag.In.keeps hK k, c⟩
abbrev R : PySem.W.OpenRow := PySem.W.OpenLaw.row PySem.Challenge.rw_onehand_k98_whole_a_world_split_at_its_c
def gs0 : List Str := ["is_whole", "is_from", "is_place", "is_turn", "want_turn", "want_row", "want_deed", "way", "row_turned", "then", "is_text", "want_rows", "next_to", "is_stand", "is_book", "are_wishes", "first_wrong", "want_kind", "first_thing", "is_brought", "things_behind", "first_row", "are_worlds", "_law_mixed", "_law_source"]
def gs1 : List Str := ["_law_take", "_law_one", "_law_sense", "_law_spots", "_law_land", "_law_made", "_law_sign", "_law_goes", "_law_becomes", "_law_behind", "_law_gone", "_law_plated", "_law_bare", "_law_cuts", "_law_piece_right", "_law_row_right", "_law_never", "law", "Floor", "World", "Hand", "TURNS", "KINDS", "STEPS"]
def gs : List Str := gs0 ++ gs1
abbrev hk : PySem.W.Hook := hookM gs fa fn ex
def ob (s : PySem.W.SharedT) : AlM := obsM gs fa fn ex (HandSHeadRun.getT s)
theorem ob_eq (s : PySem.W.SharedT) : ob s = hk.obs s.abs := by
  have e : HandSHeadRun.getT s = s.abs.heap.get? := funext (HandSHeadRun.getT_eq s)
  unfold ob
  rw [e]
  rfl
def names0 : List PySem.Str := ["_wall", "__name__", "HandError", "NoTurn", "NoRow", "NoFloor", "NoPlace", "NoWorld", "NoStand", "NoHand", "NoKind", "TooMany", "is_whole", "is_from", "is_place", "DEEDS", "TURNS", "is_turn", "want_turn", "want_row", "want_deed", "way", "row_turned", "then", "WALL", "ICE", "PIT", "LETTERS", "OPEN", "SIGNS"]
def names1 : List PySem.Str := ["MOST", "STEPS", "is_text", "want_rows", "next_to", "Floor", "is_stand", "is_book", "are_wishes", "first_wrong", "World", "KINDS", "MOST_THINGS", "want_kind", "first_thing", "is_brought", "things_behind", "first_row", "MOST_WORLDS", "are_worlds", "Hand", "_law_mixed", "_law_source", "_law_take", "_law_one", "_law_rows", "_law_sense", "_law_spots", "_law_land", "_law_made"]
def names2 : List PySem.Str := ["_law_sign", "_law_goes", "_law_becomes", "_law_behind", "_law_gone", "_law_line", "_law_plated", "_law_bare", "_law_cuts", "_law_piece_right", "_law_row_right", "_law_never"]
abbrev names : List PySem.Str := names0 ++ names1 ++ names2
theorem run (w : World) : HandSHeadRun.RunEq R (PySem.W.view R.prog [79]) hk ob 8000 names w := by
  intro os
  kernel_rfl
end OHead
-- OhEval
set_option maxHeartbeats 1000000
/-! Built-ins, walks and comprehensions, by data. -/
namespace OL
open PySem PySem.Spec PyProof.Rows L2
open SX (S)
open Evl (Ex)
/-- descriptors of builtin calls that the rules write out -/
def rLenQ (K : PySem.W.Frag) : List V → Hp → VK → Prop := fun xs H Q => ∃ p ys, xs = [.ref p] ∧ (SqL K H p ys ∨ SqT K H p ys) ∧ Q (.int ys.length) H
section
variable {K : PySem.W.Frag} {σ : L2.St} {F F' H H' F0 : Hp} {ta tb te tl : TE} {t u tt : TT} {P P1 P2 : Ds}
/-! ### isinstance -/
def dataTy : PyData → String
  | .none => "NoneType"
  | .bool _ => "bool"
  | .int _ => "int"
  | .str _ => "str"
  | .list _ => "list"
  | .tuple _ => "tuple"
  | .dict _ => "dict"
theorem tyx {v : V} {d : PyData} (h : D K d v H) : TyX K H v (.type (dataTy d)) := by
  cases h with
  | non => exact .base .non
  | bl b => exact .base (.bl b)
  | int i => exact .base (.int i)
  | str x => exact .base (.str x)
  | lst hs ha =>
    rcases hs with (h | ⟨o, h⟩) | ⟨o, its, n, hk, hc, _⟩
    · exact .base (.lst h)
    · exact .base (.frz h)
    · exact .kList hk hc
  | tup hs ha =>
    rcases hs with (h | ⟨o, h⟩) | ⟨o, its, n, hk, hc, _⟩
    · exact .base (.tup h)
    · exact .fTuple h
    · exact .kTuple hk hc
theorem e_isi {d : PyData} {n : String} {b : Bool} (ha : EP ta σ F (D K d)) (h : kitB (dataTy d) n = some b := by decide +kernel) : EP (tCB (rIsi K) (tCons ta (tCons (tC (.ty n)) tNil))) σ F (D K (.bool b)) := fun F1 H1 e c Q q =>
  ha F1 H1 e c _ fun v F2 H2 g hv => ⟨v, .ty n, _, .type n, b, rfl, .ty n, tyx (dpx g.fh d v hv), kit_ty h, q _ F2 H2 g (Dp.bl b)⟩
theorem e_isiI {i : Int} {n : String} {b : Bool} (ha : EP ta σ F (D K (.int i))) (h : kitB "int" n = some b := by decide +kernel) : EP (tCB (rIsi K) (tCons ta (tCons (tC (.ty n)) tNil))) σ F (D K (.bool b)) := e_isi ha h
theorem e_isiS {i : Str} {n : String} {b : Bool} (ha : EP ta σ F (D K (.str i))) (h : kitB "str" n = some b := by decide +kernel) : EP (tCB (rIsi K) (tCons ta (tCons (tC (.ty n)) tNil))) σ F (D K (.bool b)) := e_isi ha h
theorem e_isiT {i : List PyData} {n : String} {b : Bool} (ha : EP ta σ F (D K (.tuple i))) (h : kitB "tuple" n = some b := by decide +kernel) : EP (tCB (rIsi K) (tCons ta (tCons (tC (.ty n)) tNil))) σ F (D K (.bool b)) := e_isi ha h
theorem e_isiL {i : List PyData} {n : String} {b : Bool} (ha : EP ta σ F (D K (.list i))) (h : kitB "list" n = some b := by decide +kernel) : EP (tCB (rIsi K) (tCons ta (tCons (tC (.ty n)) tNil))) σ F (D K (.bool b)) := e_isi ha h
/-- isinstance(x, (T1, T2)) -/
theorem e_isiT2 {d : PyData} {n m : String} {b : Bool} (ha : EP ta σ F (D K d)) (h : PySem.W.kitAny K (.type (dataTy d)) [.type n, .type m] = some b) : EP (tCB (rIsiT K) (tCons ta (tCons (tTup (tCons (tC (.ty n)) (tCons (tC (.ty m)) tNil))) tNil))) σ F (D K (.bool b)) := fun F1 H1 e c Q q =>
  ha F1 H1 e c _ fun v F2 H2 g hv => ⟨line_of (by show 2 ≤ 100000; decide), fun p hp =>
    ⟨v, p, _, _, _, b, rfl, upd_same, .cons (.ty n) (.cons (.ty m) .nil), tyx (dpx (Gr.new g.fh hp).fh d v (dpx (Gr.new g.fh hp).ff d v hv)), h, q _ _ _ (g.trans (Gr.new g.fh hp)) (Dp.bl b)⟩⟩
/-- an instance of an own class -/
def IsC (C : Addr) : Ds := fun v H => ∃ a dx fs, v = .ref a ∧ H a = some (.ins C dx fs)
theorem e_isC {C : Addr} [m : Mn P] (ha : EP ta σ F P) (hi : ∀ v F1, P v F1 → IsC C v F1) : EP (tCB (fun xs H Q => ∃ a dx fs, xs = [V.ref a, V.ref C] ∧ H a = some (.ins C dx fs) ∧ Q (.bl true) H) (tCons ta (tCons (tC (.ref C)) tNil))) σ F (D K (.bool true)) := fun F1 H1 e c Q q =>
  ha F1 H1 e c _ fun v F2 H2 g hv => by
    obtain ⟨a, dx, fs, rfl, h⟩ := hi v F2 hv
    exact ⟨a, dx, fs, rfl, g.fh _ _ h, q _ F2 H2 g (Dp.bl true)⟩
/-! ### len, all, any, list, tuple, join, int -/
abbrev rLen (K : PySem.W.Frag) : List V → Hp → VK → Prop := fun xs H Q => ∃ p ys, xs = [V.ref p] ∧ (SqL K H p ys ∨ SqT K H p ys) ∧ Q (.int ys.length) H
theorem e_lenL {ds : List PyData} (ha : EP ta σ F (D K (.list ds))) : EP (tCB (rLen K) (tCons ta tNil)) σ F (D K (.int ds.length)) := fun F1 H1 e c Q q =>
  ha F1 H1 e c _ fun v F2 H2 g hv => by
    obtain ⟨a, xs, rfl, h1, h2⟩ := dLst hv
    exact ⟨a, xs, rfl, .inl (Evl.ex_l g.fh h1), q _ F2 H2 g (by rw [dlen h2]; exact Dp.int _)⟩
theorem e_lenT {ds : List PyData} (ha : EP ta σ F (D K (.tuple ds))) : EP (tCB (rLen K) (tCons ta tNil)) σ F (D K (.int ds.length)) := fun F1 H1 e c Q q =>
  ha F1 H1 e c _ fun v F2 H2 g hv => by
    obtain ⟨a, xs, rfl, h1, h2⟩ := dTup hv
    exact ⟨a, xs, rfl, .inr (Evl.ex_t g.fh h1), q _ F2 H2 g (by rw [dlen h2]; exact Dp.int _)⟩
theorem e_lenS {z : Str} (ha : EP ta σ F (D K (.str z))) (hz : z.length ≤ 100000) : EP (tCB (fun xs H Q => ∃ z, xs = [V.str z] ∧ z.length ≤ sizeLine ∧ Q (.int z.length) H) (tCons ta tNil)) σ F (D K (.int z.length)) := fun F1 H1 e c Q q =>
  ha F1 H1 e c _ fun v F2 H2 g hv => ⟨z, by rw [dStr hv], line_of hz, q _ F2 H2 g (Dp.int _)⟩
theorem e_all {bs : List Bool} (ha : EP ta σ F (D K (.list (bs.map .bool)))) : EP (tCB (rAll K) (tCons ta tNil)) σ F (D K (.bool (bs.all id))) := fun F1 H1 e c Q q =>
  ha F1 H1 e c _ fun v F2 H2 g hv => by
    obtain ⟨a, xs, rfl, h1, h2⟩ := dLst hv
    have e2 := dbools h2
    subst e2
    exact ⟨a, bs, rfl, Evl.ex_l g.fh h1, q _ F2 H2 g (Dp.bl _)⟩
theorem e_any {bs : List Bool} (ha : EP ta σ F (D K (.list (bs.map .bool)))) : EP (tCB (rAny K) (tCons ta tNil)) σ F (D K (.bool (bs.any id))) := fun F1 H1 e c Q q =>
  ha F1 H1 e c _ fun v F2 H2 g hv => by
    obtain ⟨a, xs, rfl, h1, h2⟩ := dLst hv
    have e2 := dbools h2
    subst e2
    exact ⟨a, bs, rfl, Evl.ex_l g.fh h1, q _ F2 H2 g (Dp.bl _)⟩
abbrev rListOf (K : PySem.W.Frag) : List V → Hp → VK → Prop := fun xs H Q => ∃ p ys, xs = [V.ref p] ∧ (SqL K H p ys ∨ SqT K H p ys) ∧ ∀ l, H l = none → Q (.ref l) (upd H l (.lst ys))
theorem e_listL {ds : List PyData} (ha : EP ta σ F (D K (.list ds))) : EP (tCB (rListOf K) (tCons ta tNil)) σ F (D K (.list ds)) := fun F1 H1 e c Q q =>
  ha F1 H1 e c _ fun v F2 H2 g hv => by
    obtain ⟨a, xs, rfl, h1, h2⟩ := dLst hv
    exact ⟨a, xs, rfl, .inl (Evl.ex_l g.fh h1), fun l hl => q _ _ _ (g.trans (Gr.new g.fh hl)) (Dp.lst (Evl.sq_of upd_same) (dpxs (Gr.new g.fh hl).ff _ _ h2))⟩
theorem e_listT {ds : List PyData} (ha : EP ta σ F (D K (.tuple ds))) : EP (tCB (rListOf K) (tCons ta tNil)) σ F (D K (.list ds)) := fun F1 H1 e c Q q =>
  ha F1 H1 e c _ fun v F2 H2 g hv => by
    obtain ⟨a, xs, rfl, h1, h2⟩ := dTup hv
    exact ⟨a, xs, rfl, .inr (Evl.ex_t g.fh h1), fun l hl => q _ _ _ (g.trans (Gr.new g.fh hl)) (Dp.lst (Evl.sq_of upd_same) (dpxs (Gr.new g.fh hl).ff _ _ h2))⟩
abbrev rTupOf (K : PySem.W.Frag) : List V → Hp → VK → Prop := fun xs H Q => ∃ p ys, xs = [V.ref p] ∧ ((SqL K H p ys ∧ ∀ l, H l = none → Q (.ref l) (upd H l (.tup ys))) ∨ (SqT K H p ys ∧ Q (.ref p) H))
theorem e_tupL {ds : List PyData} (ha : EP ta σ F (D K (.list ds))) : EP (tCB (rTupOf K) (tCons ta tNil)) σ F (D K (.tuple ds)) := fun F1 H1 e c Q q =>
  ha F1 H1 e c _ fun v F2 H2 g hv => by
    obtain ⟨a, xs, rfl, h1, h2⟩ := dLst hv
    exact ⟨a, xs, rfl, .inl ⟨Evl.ex_l g.fh h1, fun l hl => q _ _ _ (g.trans (Gr.new g.fh hl)) (Dp.tup (Evl.st_of upd_same) (dpxs (Gr.new g.fh hl).ff _ _ h2))⟩⟩
/-- sep.join(list of texts), the separator empty -/
theorem e_join {xs : List Str} {z : Str} (ha : EP ta σ F (D K (.str z))) (hb : EP tb σ F (D K (.list (xs.map .str)))) (hz : (xs.map (·.length)).sum + xs.length * z.length ≤ 16777216) :
    EP (tM1 (fun x ys H Q => ∃ a p, ∃ zs : List Str, x = V.str a ∧ ys = [V.ref p] ∧ (SqL K H p (zs.map V.str) ∨ SqT K H p (zs.map V.str)) ∧ (zs.map (·.length)).sum + zs.length * a.length ≤ 16777216 ∧ Q (.str (Txt.join a zs)) H) ta tb) σ F (D K (.str (Txt.join z xs))) := fun F1 H1 e c Q q =>
  ha F1 H1 e c _ fun v F2 H2 g hv => ⟨⟨z, dStr hv⟩, hb F2 H2 (e.trans g.ff) g.fh _ fun w F3 H3 g3 hw => by
    obtain ⟨a, ys, rfl, h1, h2⟩ := dLst hw
    have e2 := dstrs h2
    subst e2
    exact ⟨z, a, xs, dStr hv, rfl, .inl (Evl.ex_l g3.fh h1), hz, q _ F3 H3 (g.trans g3) (Dp.str _)⟩⟩
theorem e_intB {b : Bool} (ha : EP ta σ F (D K (.bool b))) : EP (tCB (fun xs H Q => (∃ i, xs = [V.int i] ∧ Q (.int i) H) ∨ ∃ k, xs = [V.bl k] ∧ Q (.int (if k = true then 1 else 0)) H) (tCons ta tNil)) σ F (D K (.int (if b = true then 1 else 0))) := fun F1 H1 e c Q q =>
  ha F1 H1 e c _ fun v F2 H2 g hv => .inr ⟨b, by rw [dBool hv], q _ F2 H2 g (Dp.int _)⟩
/-! ### walks by data -/
structure DW (K : PySem.W.Frag) (J : It) (F0 : Hp) (ds : List PyData) : Prop where
  goes : ∀ i F H, Ex F0 F → Ex F H → i < ds.length → J.go i H
  stops : ∀ F H, Ex F0 F → Ex F H → J.stop ds.length H
  yields : ∀ i F H x H' d, Ex F0 F → Ex F H → ds[i]? = some d → J.yld i H x H' → ∃ F', Gr F H F' H' ∧ D K d x F'
def EI (K : PySem.W.Frag) (wi : TI) (σ : L2.St) (F : Hp) (ds : List PyData) : Prop := ∀ F1 H1, Ex F F1 → Ex F1 H1 → ∀ R : It → Hp → Prop, (∀ J F2 H2, Gr F1 H1 F2 H2 → DW K J F2 ds → R J H2) → wi σ H1 R
theorem i_list {ds : List PyData} (h : EP tl σ F (D K (.list ds))) : EI K (iList K tl) σ F ds := fun F1 H1 e b R r =>
  h F1 H1 e b _ fun v F2 H2 g hv => by
    obtain ⟨a, xs, rfl, h1, h2⟩ := dLst hv
    have hl := dlen h2
    refine ⟨a, rfl, ⟨xs, Evl.ex_l g.fh h1⟩, r _ F2 H2 g ⟨fun i F H e1 e2 hi => ?_, fun F H e1 e2 => ?_, fun i F H x H' d e1 e2 hd hy => ?_⟩⟩
    · exact ⟨xs, xs[i]'(by omega), Evl.ex_l (e1.trans e2) h1, by simp [hl, hi]⟩
    · exact ⟨xs, Evl.ex_l (e1.trans e2) h1, by omega⟩
    · obtain ⟨rfl, hy⟩ := hy
      obtain ⟨w, hw, hdw⟩ := dgetD h2 hd
      have e3 := hy xs (Evl.ex_l (e1.trans e2) h1)
      rw [hw] at e3
      cases e3
      exact ⟨F, Gr.refl e2, dpx e1 d _ hdw⟩
theorem i_tup {ds : List PyData} (h : EP tl σ F (D K (.tuple ds))) : EI K (iTup K tl) σ F ds := fun F1 H1 e b R r =>
  h F1 H1 e b _ fun v F2 H2 g hv => by
    obtain ⟨a, xs, rfl, h1, h2⟩ := dTup hv
    have hl := dlen h2
    refine ⟨a, rfl, ⟨xs, Evl.ex_t g.fh h1⟩, r _ F2 H2 g ⟨fun i F H e1 e2 hi => ?_, fun F H e1 e2 => ?_, fun i F H x H' d e1 e2 hd hy => ?_⟩⟩
    · exact ⟨xs, xs[i]'(by omega), Evl.ex_t (e1.trans e2) h1, by simp [hl, hi]⟩
    · exact ⟨xs, Evl.ex_t (e1.trans e2) h1, by omega⟩
    · obtain ⟨rfl, hy⟩ := hy
      obtain ⟨w, hw, hdw⟩ := dgetD h2 hd
      have e3 := hy xs (Evl.ex_t (e1.trans e2) h1)
      rw [hw] at e3
      cases e3
      exact ⟨F, Gr.refl e2, dpx e1 d _ hdw⟩
/-- the signs of a text -/
def signs (z : Str) : List PyData := z.cps.toList.map fun c => .str ⟨#[c]⟩
theorem i_str {z : Str} (h : EP tl σ F (D K (.str z))) : EI K (iStr tl) σ F (signs z) := fun F1 H1 e b R r =>
  h F1 H1 e b _ fun v F2 H2 g hv => by
    refine ⟨z, dStr hv, r _ F2 H2 g ⟨fun i F H e1 e2 hi => ?_, fun F H e1 e2 => ?_, fun i F H x H' d e1 e2 hd hy => ?_⟩⟩
    · show i < z.cps.size
      simpa [signs] using hi
    · show z.cps.size ≤ (signs z).length
      simp [signs]
    · obtain ⟨rfl, c, hc, rfl⟩ := hy
      have e3 : d = .str ⟨#[c]⟩ := by
        have e4 : z.cps.toList[i]? = some c := by simpa using hc
        simp only [signs, List.getElem?_map, e4, Option.map_some, Option.some.injEq] at hd
        exact hd.symm
      subst e3
      exact ⟨F, Gr.refl e2, Dp.str _⟩
/-- lo, lo + 1, .. -/
def rngD (lo : Int) (n : Nat) : List PyData := (List.range n).map fun (k : Nat) => .int (lo + (k : Int))
theorem rng_get {lo : Int} {n i : Nat} {d : PyData} (h : (rngD lo n)[i]? = some d) : i < n ∧ d = .int (lo + (i : Int)) := by
  have h1 := (List.getElem?_eq_some_iff.mp h).1
  simp only [rngD, List.length_map, List.length_range] at h1
  refine ⟨h1, ?_⟩
  simp only [rngD, List.getElem?_map, List.getElem?_range h1, Option.map_some, Option.some.injEq] at h
  exact h.symm
theorem dw_range {lo : Int} {n : Nat} : DW K (Itr lo n) F0 (rngD lo n) := by
  refine ⟨fun i F H e1 e2 hi => ?_, fun F H e1 e2 => ?_, fun i F H x H' d e1 e2 hd hy => ?_⟩
  · show i < n
    simpa [rngD] using hi
  · show n ≤ (rngD lo n).length
    simp [rngD]
  · obtain ⟨rfl, rfl⟩ := hy
    obtain ⟨_, rfl⟩ := rng_get hd
    exact ⟨F, Gr.refl e2, Dp.int _⟩
theorem i_range1 {n : Nat} {t1 : TA} (h : EA t1 σ F [D K (.int n)]) (hn : n ≤ 1000000) : EI K (iRng1 t1) σ F (rngD 0 n) := fun F1 H1 e b R r =>
  h F1 H1 e b _ fun vs F2 H2 g hs => by
    obtain ⟨v, rfl, hv⟩ := all1 hs
    rw [dInt hv]
    exact ⟨n, rfl, by omega, by omega, r _ F2 H2 g dw_range⟩
theorem i_range2 {lo hi : Int} {t1 : TA} (h : EA t1 σ F [D K (.int lo), D K (.int hi)]) (hn : -1000000 ≤ lo ∧ lo ≤ 1000000 ∧ -1000000 ≤ hi ∧ hi ≤ 1000000) : EI K (iRng2 t1) σ F (rngD lo (hi - lo).toNat) := fun F1 H1 e b R r =>
  h F1 H1 e b _ fun vs F2 H2 g hs => by
    obtain ⟨v, w, rfl, hv, hw⟩ := all2 hs
    rw [dInt hv, dInt hw]
    exact ⟨lo, hi, rfl, by omega, r _ F2 H2 g dw_range⟩
/-- enumerate(list) -/
def enumD (ds : List PyData) : List PyData := (List.range ds.length).map fun (k : Nat) => .tuple [.int (k : Int), ds.getD k .none]
theorem enum_get {ds : List PyData} {i : Nat} {d : PyData} (h : (enumD ds)[i]? = some d) : ∃ x, ds[i]? = some x ∧ d = .tuple [.int (i : Int), x] := by
  have h1 := (List.getElem?_eq_some_iff.mp h).1
  simp only [enumD, List.length_map, List.length_range] at h1
  simp only [enumD, List.getElem?_map, List.getElem?_range h1, Option.map_some, Option.some.injEq] at h
  have e : ds[i]? = some ds[i] := List.getElem?_eq_getElem h1
  refine ⟨ds[i], e, ?_⟩
  rw [← h, List.getD_eq_getElem?_getD, e]
  rfl
theorem new_pair {a b : PyData} {x y : V} {T : Addr} (e : Ex F H) (hT : H T = none) (hx : D K a x F) (hy : D K b y F) : Gr F H (upd F T (.tup [x, y])) (upd H T (.tup [x, y])) ∧ D K (.tuple [a, b]) (.ref T) (upd F T (.tup [x, y])) :=
  ⟨Gr.new e hT, Dp.tup (Evl.st_of upd_same) (.cons (dpx (Gr.new e hT).ff _ _ hx) (.cons (dpx (Gr.new e hT).ff _ _ hy) .nil))⟩
theorem i_enum {ds : List PyData} {t1 : TA} (h : EA t1 σ F [D K (.list ds)]) : EI K (fun σ H R => t1 σ H fun vs H1 => ∃ a xs, vs = [V.ref a] ∧ SqL K H1 a xs ∧ R (Ite K a) H1) σ F (enumD ds) := fun F1 H1 e b R r =>
  h F1 H1 e b _ fun vs F2 H2 g hs => by
    obtain ⟨v, rfl, hv⟩ := all1 hs
    obtain ⟨a, xs, rfl, h1, h2⟩ := dLst hv
    have hl := dlen h2
    have hl2 : (enumD ds).length = ds.length := by simp [enumD]
    refine ⟨a, xs, rfl, Evl.ex_l g.fh h1, r _ F2 H2 g ⟨fun i F H e1 e2 hi => ?_, fun F H e1 e2 => ?_, fun i F H x H' d e1 e2 hd hy => ?_⟩⟩
    · exact ⟨xs, xs[i]'(by omega), Evl.ex_l (e1.trans e2) h1, by simp [hl, hl2 ▸ hi]⟩
    · exact ⟨xs, Evl.ex_l (e1.trans e2) h1, by omega⟩
    · obtain ⟨T, y, rfl, hT, rfl, hy⟩ := hy
      obtain ⟨z, hz, rfl⟩ := enum_get hd
      obtain ⟨w, hw, hdw⟩ := dgetD h2 hz
      have e3 := hy xs (Evl.ex_l (e1.trans e2) h1)
      rw [hw] at e3
      cases e3
      obtain ⟨q1, q2⟩ := new_pair (a := .int (i : Int)) (b := z) (x := .int (i : Int)) (y := y) e2 hT (Dp.int _) (dpx e1 _ _ hdw)
      exact ⟨_, q1, q2⟩
/-! ### for -/
variable {Dn : Ends} {tz tu tw : TS} {g : TG} {wi : TI}
/-- a for over data: Pv by the turn, the slots, the standing part, the heap -/
theorem s_for {ds : List PyData} (e : Ex F H) (h : EI K wi σ F ds)
    (k : ∀ F1 H1, Gr F H F1 H1 → ∃ Pv : Nat → L2.St → Hp → Hp → Prop, Pv 0 σ F1 H1 ∧ (∀ i σ' F' H', Pv i σ' F' H' → Ex F1 F' ∧ Ex F' H') ∧
      (∀ i d x σ' F' H' F2 H2, ds[i]? = some d → Pv i σ' F' H' → Gr F' H' F2 H2 → D K d x F2 → g x σ' H2 fun σ3 H3 => tu { Dn with nx := fun σ4 H4 => ∃ F4, Pv (i + 1) σ4 F4 H4, ct := fun σ4 H4 => ∃ F4, Pv (i + 1) σ4 F4 H4, bk := Dn.nx } σ3 H3) ∧
      (∀ σ' F' H', Pv ds.length σ' F' H' → Dn.nx σ' H')) : tFor wi g tu Dn σ H := h F H (Ex.refl F) e _ fun J F1 H1 g1 w => by
  obtain ⟨Pv, h0, hE, hs, hd⟩ := k F1 H1 g1
  refine ⟨fun i m σ' H' => m = ds.length - i ∧ i ≤ ds.length ∧ ∃ F', Pv i σ' F' H', ⟨ds.length, by simp, Nat.zero_le _, F1, h0⟩, ?_⟩
  rintro i m σ' H' ⟨rfl, hi, F', p⟩
  obtain ⟨e1, e2⟩ := hE i σ' F' H' p
  by_cases hlt : i < ds.length
  · refine .inr ⟨w.goes i F' H' e1 e2 hlt, fun σ4 H4 => ∃ F4, Pv (i + 1) σ4 F4 H4, fun σ4 H4 ⟨F4, p'⟩ => ⟨ds.length - (i + 1), by omega, rfl, hlt, F4, p'⟩, fun x H2 y => ?_⟩
    have hd' : ds[i]? = some ds[i] := List.getElem?_eq_getElem hlt
    obtain ⟨F2, g2, hx⟩ := w.yields i F' H' x H2 _ e1 e2 hd' y
    exact hs i _ x σ' F' H' F2 H2 hd' p g2 hx
  · have e3 : i = ds.length := by omega
    subst e3
    exact .inl ⟨w.stops F' H' e1 e2, hd σ' F' H' p⟩
theorem q_for {ds : List PyData} (e : Ex F H) (h : EI K wi σ F ds)
    (k : ∀ F1 H1, Gr F H F1 H1 → ∃ Pv : Nat → L2.St → Hp → Hp → Prop, Pv 0 σ F1 H1 ∧ (∀ i σ' F' H', Pv i σ' F' H' → Ex F1 F' ∧ Ex F' H') ∧
      (∀ i d x σ' F' H' F2 H2, ds[i]? = some d → Pv i σ' F' H' → Gr F' H' F2 H2 → D K d x F2 → g x σ' H2 fun σ3 H3 => tu { Dn with nx := fun σ4 H4 => ∃ F4, Pv (i + 1) σ4 F4 H4, ct := fun σ4 H4 => ∃ F4, Pv (i + 1) σ4 F4 H4, bk := tz Dn } σ3 H3) ∧
      (∀ σ' F' H', Pv ds.length σ' F' H' → tz Dn σ' H')) : tSeq (tFor wi g tu) tz Dn σ H := s_for (Dn := { Dn with nx := tz Dn }) e h k
/-! ### comprehensions -/
/-- a list that can still be told as one -/
def LstD (K : PySem.W.Frag) (ds : List PyData) : Ds := fun v H => ∃ a acc, v = .ref a ∧ H a = some (.lst acc) ∧ DpAll K H acc ds
instance {ds : List PyData} : Mn (LstD K ds) := ⟨fun e ⟨a, acc, h1, h2, h3⟩ => ⟨a, acc, h1, e _ _ h2, dpxs e _ _ h3⟩⟩
/-- the kept ones of xs by p, each by q -/
theorem e_lcH {α : Type} {vs : List Nat} (xs : List α) (enc : α → PyData) (p : α → Bool) (q : α → PyData) (h : EI K wi σ F (xs.map enc)) (hz : xs.length ≤ 40000)
    (ht : ∀ x ∈ xs, ∀ v F1 H1, Ex F F1 → Ex F1 H1 → D K (enc x) v F1 → ∀ R : L2.St → Hp → Prop, (∀ σ2, wipe σ2 vs = wipe σ vs → EvT tt σ2 F1 (p x) → (p x = true → EP te σ2 F1 (D K (q x))) → R σ2 H1) → g v (wipe σ vs) H1 R) :
    EP (tLc wi g tt te vs) σ F (LstD K ((xs.filter p).map q)) := fun F1 H1 e b Q k =>
  h F1 H1 e b _ fun J F2 H2 g2 w => by
    intro Dl hD
    have hF2 : F2 Dl = none := ex_none g2.fh hD
    refine ⟨fun i m H' => m = xs.length - i ∧ i ≤ xs.length ∧ ∃ F' acc, Gr F2 H2 F' H' ∧ H' Dl = some (.lst acc) ∧ F' Dl = none ∧ DpAll K F' acc (((xs.take i).filter p).map q), ⟨xs.length, by simp, Nat.zero_le _, F2, [], Gr.own g2.fh hD, upd_same, hF2, .nil⟩, ?_⟩
    rintro i m H' ⟨rfl, hi, F', acc, gg, hl, hn, hac⟩
    by_cases hlt : i < xs.length
    · refine .inr ⟨w.goes i F' H' gg.ff gg.fh (by simpa using hlt), fun H4 => ∃ F' acc, Gr F2 H2 F' H4 ∧ H4 Dl = some (.lst acc) ∧ F' Dl = none ∧ DpAll K F' acc (((xs.take (i + 1)).filter p).map q), fun H4 p' => ⟨xs.length - (i + 1), by omega, rfl, hlt, p'⟩, fun x H3 y => ?_⟩
      have hx : xs[i]? = some xs[i] := List.getElem?_eq_getElem hlt
      obtain ⟨F3, g3, hdx⟩ := w.yields i F' H' x H3 (enc xs[i]) gg.ff gg.fh (by simp [hx]) y
      have et : xs.take (i + 1) = xs.take i ++ [xs[i]] := by rw [List.take_add_one, hx]; rfl
      refine ht xs[i] (List.getElem_mem hlt) x F3 H3 ((e.trans g2.ff).trans (gg.ff.trans g3.ff)) g3.fh hdx _ fun σ2 hw htt hte => ⟨hw, htt.go g3.fh fun H4 g4 => ?_⟩
      have hl4 : H4 Dl = some (.lst acc) := g4.hh _ _ (g3.hh _ _ hl)
      have hn3 : F3 Dl = none := g3.nw _ _ hl hn
      have hlen : acc.length < sizeLine := by
        have h1 := dlen hac
        have h2 := List.length_filter_le p (xs.take i)
        rw [List.length_map] at h1
        rw [List.length_take] at h2
        exact Nat.lt_of_lt_of_le (show acc.length < 100000 by omega) (by decide)
      have ga := (gg.trans g3).trans g4
      cases hp : p xs[i] with
      | false =>
        refine iteF ⟨F3, acc, ga, hl4, hn3, ?_⟩
        rw [et, List.filter_append, List.filter_cons, if_neg (by rw [hp]; exact Bool.false_ne_true), List.filter_nil, List.append_nil]
        exact dpxs g3.ff _ _ hac
      | true =>
        refine iteT ((hte hp).go g4.fh fun y F5 H5 g5 hy => ⟨acc, g5.hh _ _ hl4, hlen, F5, acc ++ [y], (ga.trans g5).mut hD (g5.nw _ _ hl4 hn3), upd_same, g5.nw _ _ hl4 hn3, ?_⟩)
        rw [et, List.filter_append, List.filter_cons, if_pos hp, List.filter_nil, List.map_append, List.map_singleton]
        exact dsnoc (dpxs (g3.ff.trans g5.ff) _ _ hac) hy
    · have e3 : i = xs.length := by omega
      subst e3
      refine .inl ⟨by have := w.stops F' H' gg.ff gg.fh; simpa using this, ?_⟩
      rw [List.take_length] at hac
      exact k _ _ _ (g2.trans (gg.fix hD hl)) ⟨Dl, acc, rfl, upd_same, dpxs (Ex.new hn) _ _ hac⟩
theorem e_lc {α : Type} {vs : List Nat} (xs : List α) (enc : α → PyData) (p : α → Bool) (q : α → PyData) (h : EI K wi σ F (xs.map enc)) (hz : xs.length ≤ 40000)
    (ht : ∀ x ∈ xs, ∀ v F1 H1, Ex F F1 → Ex F1 H1 → D K (enc x) v F1 → ∀ R : L2.St → Hp → Prop, (∀ σ2, wipe σ2 vs = wipe σ vs → EvT tt σ2 F1 (p x) → (p x = true → EP te σ2 F1 (D K (q x))) → R σ2 H1) → g v (wipe σ vs) H1 R) :
    EP (tLc wi g tt te vs) σ F (D K (.list ((xs.filter p).map q))) := (e_lcH xs enc p q h hz ht).imp fun v F1 _ ⟨a, acc, e, h1, h2⟩ => e ▸ Dp.lst (Evl.sq_of h1) h2
end
end OL
namespace OL
open PySem PySem.Spec PyProof.Rows L2
open Evl (Ex)
section
variable {K : PySem.W.Frag} {σ : L2.St} {F F' H H' F0 : Hp} {ta tb tc : TE}
theorem e_chainI {i j k : Int} (ha : EP ta σ F (D K (.int i))) (hb : EP tb σ F (D K (.int j))) (hc : EP tc σ F (D K (.int k))) :
    EP (tChain (rI0 fun i j => .bl (decide (i ≤ j))) (rI0 fun i j => .bl (decide (i ≤ j))) ta tb tc) σ F (D K (.bool (decide (i ≤ j) && decide (j ≤ k)))) := fun F1 H1 e b Q q =>
  ha F1 H1 e b _ fun x F2 H2 g2 hx => hb F2 H2 (e.trans g2.ff) g2.fh _ fun y F3 H3 g3 hy => ⟨i, j, dInt hx, dInt hy, _, rfl, by
    cases zz : decide (i ≤ j) with
    | true => exact iteT (hc F3 H3 ((e.trans g2.ff).trans g3.ff) g3.fh _ fun z F4 H4 g4 hz => ⟨j, k, dInt hy, dInt hz, q _ F4 H4 ((g2.trans g3).trans g4) (by rw [zz]; exact Dp.bl _)⟩)
    | false => exact iteF (q _ F3 H3 (g2.trans g3) (by rw [zz]; exact Dp.bl _))⟩
/-- the target a name -/
theorem e_lcN {α : Type} {wi : TI} {tt : TT} {te : TE} {vs : List Nat} {j : Nat} (xs : List α) (enc : α → PyData) (p : α → Bool) (q : α → PyData) (h : EI K wi σ F (xs.map enc)) (hz : xs.length ≤ 40000)
    (ht : ∀ x ∈ xs, ∀ v F1, Ex F F1 → D K (enc x) v F1 → EvT tt ((wipe σ vs).set j (some v)) F1 (p x)) (he : ∀ x ∈ xs, p x = true → ∀ v F1, Ex F F1 → D K (enc x) v F1 → EP te ((wipe σ vs).set j (some v)) F1 (D K (q x)))
    (hw : ∀ v, wipe ((wipe σ vs).set j (some v)) vs = wipe σ vs := by intro _; rfl) : EP (tLc wi (gName j) tt te vs) σ F (D K (.list ((xs.filter p).map q))) :=
  e_lc xs enc p q h hz fun x hx v F1 H1 e1 e2 hv R kk => kk _ (hw v) (ht x hx v F1 e1 hv) fun hp => he x hx hp v F1 e1 hv
/-- .. without a test -/
theorem e_lcM {α : Type} {wi : TI} {te : TE} {vs : List Nat} {j : Nat} (xs : List α) (enc : α → PyData) (q : α → PyData) (h : EI K wi σ F (xs.map enc)) (hz : xs.length ≤ 40000)
    (he : ∀ x ∈ xs, ∀ v F1, Ex F F1 → D K (enc x) v F1 → EP te ((wipe σ vs).set j (some v)) F1 (D K (q x)))
    (hw : ∀ v, wipe ((wipe σ vs).set j (some v)) vs = wipe σ vs := by intro _; rfl) : EP (tLc wi (gName j) tYes te vs) σ F (D K (.list (xs.map q))) :=
  (e_lcN xs enc (fun _ => true) q h hz (fun _ _ _ F1 _ _ => fun F2 H2 _ b Q k => k F2 H2 (Gr.refl b)) (fun x hx _ v F1 e1 hv => he x hx v F1 e1 hv) hw).eq (by rw [List.filter_eq_self.mpr fun _ _ => rfl])
/-- the target a pair of names -/
theorem e_lcP {α : Type} {wi : TI} {tt : TT} {te : TE} {vs : List Nat} {i j : Nat} (xs : List α) (e1 e2 : α → PyData) (p : α → Bool) (q : α → PyData) (h : EI K wi σ F (xs.map fun x => .tuple [e1 x, e2 x])) (hz : xs.length ≤ 40000)
    (ht : ∀ x ∈ xs, ∀ v w F1, Ex F F1 → D K (e1 x) v F1 → D K (e2 x) w F1 → EvT tt (((wipe σ vs).set i (some v)).set j (some w)) F1 (p x)) (he : ∀ x ∈ xs, p x = true → ∀ v w F1, Ex F F1 → D K (e1 x) v F1 → D K (e2 x) w F1 → EP te (((wipe σ vs).set i (some v)).set j (some w)) F1 (D K (q x)))
    (hw : ∀ v w, wipe (((wipe σ vs).set i (some v)).set j (some w)) vs = wipe σ vs := by intro _ _; rfl) : EP (tLc wi (gTup K 2 (gCons (gName i) (gCons (gName j) gNil))) tt te vs) σ F (D K (.list ((xs.filter p).map q))) :=
  e_lc xs _ p q h hz fun x hx v F1 H1 e1 e2 hv R kk => g_unp e2 hv fun v w h1 h2 => kk _ (hw v w) (ht x hx v w F1 e1 h1 h2) fun hp => he x hx hp v w F1 e1 h1 h2
theorem e_lcPM {α : Type} {wi : TI} {te : TE} {vs : List Nat} {i j : Nat} (xs : List α) (e1 e2 : α → PyData) (q : α → PyData) (h : EI K wi σ F (xs.map fun x => .tuple [e1 x, e2 x])) (hz : xs.length ≤ 40000)
    (he : ∀ x ∈ xs, ∀ v w F1, Ex F F1 → D K (e1 x) v F1 → D K (e2 x) w F1 → EP te (((wipe σ vs).set i (some v)).set j (some w)) F1 (D K (q x)))
    (hw : ∀ v w, wipe (((wipe σ vs).set i (some v)).set j (some w)) vs = wipe σ vs := by intro _ _; rfl) : EP (tLc wi (gTup K 2 (gCons (gName i) (gCons (gName j) gNil))) tYes te vs) σ F (D K (.list (xs.map q))) :=
  (e_lcP xs e1 e2 (fun _ => true) q h hz (fun _ _ _ _ F1 _ _ _ => fun F2 H2 _ b Q k => k F2 H2 (Gr.refl b)) (fun x hx _ v w F1 e hv hw => he x hx v w F1 e hv hw) hw).eq (by rw [List.filter_eq_self.mpr fun _ _ => rfl])
end
end OL
namespace OL
open PySem PySem.Spec PyProof.Rows L2
open Evl (Ex)
section
variable {K : PySem.W.Frag} {σ : L2.St} {F F' H H' F0 : Hp}
/-- [q x y for x in xs for y in ys x], names as targets, no tests -/
theorem e_lc2 {α β : Type} {wi wi1 : TI} {te : TE} {vs vs1 : List Nat} {j j2 : Nat} (xs : List α) (enc : α → PyData) (ys : α → List β) (enc2 : β → PyData) (q : α → β → PyData) (h : EI K wi σ F (xs.map enc)) (hz : xs.length ≤ 100) (hz1 : ∀ x ∈ xs, (ys x).length ≤ 100)
    (h1 : ∀ x ∈ xs, ∀ v F1, Ex F F1 → D K (enc x) v F1 → EI K wi1 ((wipe σ vs).set j (some v)) F1 ((ys x).map enc2))
    (he : ∀ x ∈ xs, ∀ y ∈ ys x, ∀ v w F1, Ex F F1 → D K (enc x) v F1 → D K (enc2 y) w F1 → EP te ((wipe ((wipe σ vs).set j (some v)) vs1).set j2 (some w)) F1 (D K (q x y)))
    (hw : ∀ v, wipe ((wipe σ vs).set j (some v)) vs = wipe σ vs := by intro _; rfl)
    (hw1 : ∀ v w, wipe ((wipe ((wipe σ vs).set j (some v)) vs1).set j2 (some w)) vs1 = wipe ((wipe σ vs).set j (some v)) vs1 := by intro _ _; rfl) :
    EP (tLc2 wi (gName j) tYes wi1 (gName j2) tYes te vs vs1) σ F (D K (.list (xs.flatMap fun x => (ys x).map (q x)))) := fun F1 H1 e b Q k =>
  h F1 H1 e b _ fun J F2 H2 g2 w => by
    intro Dl hD
    have hF2 : F2 Dl = none := ex_none g2.fh hD
    have hsz : ∀ i, i ≤ xs.length → ((xs.take i).flatMap fun x => (ys x).map (q x)).length ≤ 100 * i := by
      intro i
      induction i with
      | zero => intro _; simp
      | succ i ih =>
        intro hi
        have hx : xs[i]? = some (xs[i]'(by omega)) := List.getElem?_eq_getElem (by omega)
        rw [List.take_add_one, hx, List.flatMap_append, List.length_append]
        have h2 := ih (by omega)
        have h3 := hz1 (xs[i]'(by omega)) (List.getElem_mem _)
        simp only [Option.toList, List.flatMap_cons, List.flatMap_nil, List.append_nil, List.length_map]
        omega
    refine ⟨fun i m H' => m = xs.length - i ∧ i ≤ xs.length ∧ ∃ F' acc, Gr F2 H2 F' H' ∧ H' Dl = some (.lst acc) ∧ F' Dl = none ∧ DpAll K F' acc ((xs.take i).flatMap fun x => (ys x).map (q x)), ⟨xs.length, by simp, Nat.zero_le _, F2, [], Gr.own g2.fh hD, upd_same, hF2, .nil⟩, ?_⟩
    rintro i m H' ⟨rfl, hi, F', acc, gg, hl, hn, hac⟩
    by_cases hlt : i < xs.length
    · refine .inr ⟨w.goes i F' H' gg.ff gg.fh (by simpa using hlt), fun H4 => ∃ F' acc, Gr F2 H2 F' H4 ∧ H4 Dl = some (.lst acc) ∧ F' Dl = none ∧ DpAll K F' acc ((xs.take (i + 1)).flatMap fun x => (ys x).map (q x)), fun H4 p' => ⟨xs.length - (i + 1), by omega, rfl, hlt, p'⟩, fun x H3 y => ?_⟩
      have hx : xs[i]? = some xs[i] := List.getElem?_eq_getElem hlt
      have hxm : xs[i] ∈ xs := List.getElem_mem hlt
      obtain ⟨F3, g3, hdx⟩ := w.yields i F' H' x H3 (enc xs[i]) gg.ff gg.fh (by simp [hx]) y
      have et : xs.take (i + 1) = xs.take i ++ [xs[i]] := by rw [List.take_add_one, hx]; rfl
      have e3 := (e.trans g2.ff).trans (gg.ff.trans g3.ff)
      refine ⟨hw x, ?_⟩
      unfold tYes
      refine iteT ?_
      refine h1 xs[i] hxm x F3 e3 hdx F3 H3 (Ex.refl _) g3.fh _ fun J1 F4 H4 g4 w1 => ?_
      have hl4 : H4 Dl = some (.lst acc) := g4.hh _ _ (g3.hh _ _ hl)
      have hn4 : F4 Dl = none := g4.nw _ _ (g3.hh _ _ hl) (g3.nw _ _ hl hn)
      refine ⟨fun jj kk H5 => kk = (ys xs[i]).length - jj ∧ jj ≤ (ys xs[i]).length ∧ ∃ F5 acc, Gr F2 H2 F5 H5 ∧ Ex F4 F5 ∧ H5 Dl = some (.lst acc) ∧ F5 Dl = none ∧ DpAll K F5 acc (((xs.take i).flatMap fun x => (ys x).map (q x)) ++ ((ys xs[i]).take jj).map (q xs[i])),
        ⟨_, rfl, Nat.zero_le _, F4, acc, (gg.trans g3).trans g4, Ex.refl _, hl4, hn4, by simpa using dpxs (g3.ff.trans g4.ff) _ _ hac⟩, ?_⟩
      rintro jj kk H5 ⟨rfl, hjj, F5, acc5, gg5, e5, hl5, hn5, hac5⟩
      by_cases hlt2 : jj < (ys xs[i]).length
      · refine .inr ⟨w1.goes jj F5 H5 e5 gg5.fh (by simpa using hlt2), fun H6 => ∃ F6 acc, Gr F2 H2 F6 H6 ∧ Ex F4 F6 ∧ H6 Dl = some (.lst acc) ∧ F6 Dl = none ∧ DpAll K F6 acc (((xs.take i).flatMap fun x => (ys x).map (q x)) ++ ((ys xs[i]).take (jj + 1)).map (q xs[i])), fun H6 p' => ⟨(ys xs[i]).length - (jj + 1), by omega, rfl, hlt2, p'⟩, fun z H6 yz => ?_⟩
        have hy : (ys xs[i])[jj]? = some (ys xs[i])[jj] := List.getElem?_eq_getElem hlt2
        have hym : (ys xs[i])[jj] ∈ ys xs[i] := List.getElem_mem hlt2
        obtain ⟨F6, g6, hdz⟩ := w1.yields jj F5 H5 z H6 (enc2 (ys xs[i])[jj]) e5 gg5.fh (by simp [hy]) yz
        have et2 : (ys xs[i]).take (jj + 1) = (ys xs[i]).take jj ++ [(ys xs[i])[jj]] := by rw [List.take_add_one, hy]; rfl
        refine ⟨hw1 x z, ?_⟩
        refine iteT ?_
        have e6 : Ex F3 F6 := (g4.ff.trans e5).trans g6.ff
        refine (he xs[i] hxm _ hym x z F6 (e3.trans e6) (dpx e6 _ _ hdx) hdz).go g6.fh fun y7 F7 H7 g7 hy7 => ?_
        have hl7 : H7 Dl = some (.lst acc5) := g7.hh _ _ (g6.hh _ _ hl5)
        have hn7 : F7 Dl = none := g7.nw _ _ (g6.hh _ _ hl5) (g6.nw _ _ hl5 hn5)
        have hlen : acc5.length < sizeLine := by
          have h2 := dlen hac5
          have h3 := hsz i hi
          have h4 := hz1 xs[i] hxm
          rw [List.length_append, List.length_map, List.length_take] at h2
          exact Nat.lt_of_lt_of_le (show acc5.length < 100000 by omega) (by decide)
        refine ⟨acc5, hl7, hlen, F7, acc5 ++ [y7], ((gg5.trans g6).trans g7).mut hD hn7, (e5.trans g6.ff).trans g7.ff, upd_same, hn7, ?_⟩
        rw [et2, List.map_append, List.map_singleton, ← List.append_assoc]
        exact dsnoc (dpxs (g6.ff.trans g7.ff) _ _ hac5) hy7
      · have e7 : jj = (ys xs[i]).length := by omega
        subst e7
        refine .inl ⟨by have := w1.stops F5 H5 e5 gg5.fh; simpa using this, F5, acc5, gg5, hl5, hn5, ?_⟩
        rw [et, List.flatMap_append]
        rw [List.take_length] at hac5
        simpa using hac5
    · have e3 : i = xs.length := by omega
      subst e3
      refine .inl ⟨by have := w.stops F' H' gg.ff gg.fh; simpa using this, ?_⟩
      rw [List.take_length] at hac
      exact k _ _ _ (g2.trans (gg.fix hD hl)) (Dp.lst (Evl.sq_of upd_same) (dpxs (Ex.new hn) _ _ hac))
end
end OL
-- OhIter
set_option maxHeartbeats 1000000
/-! Walks that the layer lacks: enumerate(text), zip(list, tuple, strict=True). -/
namespace OL
open PySem PySem.Spec PyProof.Rows L2
open SX (S)
open Evl (Ex)
/-! ### enumerate(text) -/
/-- the text's signs, each in a new pair -/
def ItS (x : Str) : It := ⟨fun i _ => i < x.cps.size, fun i H v H' => ∃ T c, v = .ref T ∧ H T = none ∧ H' = upd H T (.tup [.int (i : Nat), .str ⟨#[c]⟩]) ∧ x.cps[i]? = some c, fun i _ => i = x.cps.size⟩
theorem turn_enumS {P : Program} {w : World} {K : PySem.W.Frag} {elts : List Expr} {kk : Nat} {tpos : Pos} (x : Str) (t : Tok) (e it : Addr) :
    Turn P w K (.Tuple elts kk tpos) (ItS x) [e, it] e (fun i h => (∃ old, IsEnum h e it ((i : Nat) : Int) old) ∧ h.IsStrIter it (strIterType x) x t i ∧ e ≠ it) where
  mem := by simp
  obj := fun i h st b hb => by
    obtain ⟨⟨old, he⟩, ⟨o, ho, hc, hd⟩, _⟩ := st
    have e' : b = e ∨ b = it := by simpa using hb
    rcases e' with z | z
    · rw [z]; exact ⟨_, he, fun v q => nomatch q⟩
    · rw [z]; exact ⟨o, ho, fun v q => by rw [hd] at q; cases q⟩
  keep := fun i h h' st k => let ⟨⟨old, he⟩, ⟨o, ho, r⟩, hne⟩ := st; ⟨⟨old, k e (by simp) _ he⟩, ⟨o, k it (by simp) o ho, r⟩, hne⟩
  item := by
    intro X hP hw hK hc i pins s σ H E I hf st hg
    subst hP hw hK
    obtain ⟨⟨old, he⟩, hit, hne⟩ := st
    have hg' : i < x.cps.size := hg
    have hel : e < s.heap.objs.size := Heap.lt_size he
    have hil : it < s.heap.objs.size := by obtain ⟨_, q, _⟩ := hit; exact Heap.lt_size q
    refine wpAny_pyNext_enum_itemD (Draws.text (prog := X.prog) (w := X.w) (A := X.A.in1) (I.ok.hd hc) it x t) he hit hg' hne (by simpa using hne) fun v h' tk hP ho hit' hT hsz hk => ?_
    obtain ⟨c, u, hcx, rfl⟩ := hP
    refine ⟨_, rfl, wpAny_letOwnedTupleGo_enum (s := { s with heap := h', toks := tk + 1 }) ho fun h'' he' sb => ?_⟩
    have hT2 : h''.get? s.heap.objs.size = some { cls := .type "tuple", data := .seq #[.int i tk, .str ⟨#[c]⟩ u] } := (sb.2 _ (Nat.ne_of_gt hel)).trans hT
    have new : ObjOk X.prog X.w (upd H s.heap.objs.size (.tup [.int (i : Nat), .str ⟨#[c]⟩])) h'' s.heap.objs.size (.tup [.int (i : Nat), .str ⟨#[c]⟩]) :=
      ⟨by show 2 ≤ sizeLine; decide, [.int i tk, .str ⟨#[c]⟩ u], .cons ⟨_, rfl⟩ (.cons ⟨_, rfl⟩ .nil), ⟨_, hT2, rfl, _, rfl⟩⟩
    have I1 : Inv X pins σ (upd H s.heap.objs.size (.tup [.int (i : Nat), .str ⟨#[c]⟩])) { s with heap := h'', toks := tk + 1 } :=
      I.turnedNew (ch := [e, it]) (fun b ob hb q => (sb.2 b (fun z => hb (by simp [z]))).trans (hk b ob (fun z => hb (by simp [z])) (fun z => hb (by simp [z])) q)) hf (Nat.le_refl _) new
    obtain ⟨o2, e2, r2⟩ := hit'
    refine ⟨.ref s.heap.objs.size, _, I1, rfl, ⟨_, c, rfl, I.hok.fresh (Nat.le_refl _), rfl, hcx⟩, ⟨⟨.str ⟨#[c]⟩ u, ?_⟩, ⟨o2, (sb.2 it (Ne.symm hne)).trans e2, r2⟩, hne⟩, fun b hb => ?_⟩
    · have e1 : ((i + 1 : Nat) : Int) = (i : Int) + 1 := by omega
      rw [e1]; exact he'
    · have hb' : b < s.heap.objs.size := by
        have e' : b = e ∨ b = it := by simpa using hb
        rcases e' with z | z
        · rw [z]; exact hel
        · rw [z]; exact hil
      rw [upd_ne (Nat.ne_of_lt hb')]
      exact (hf b hb).1
  done := by
    intro X hP hw hK hc i pins s σ H E I hf st hg
    subst hP hw hK
    obtain ⟨⟨old, he⟩, hit, hne⟩ := st
    have hg' : i = x.cps.size := hg
    subst hg'
    obtain ⟨f0, f1, f2, f3, f4, f5⟩ := hf it (by simp)
    exact wpAny_pyNext_enum_endD (Draws.text (prog := X.prog) (w := X.w) (A := X.A.in1) (I.ok.hd hc) it x t) he hit fun h' eb => ⟨rfl, I.turned (t' := s.toks) (fun b o hb q => eb b o hb q) f0 f1 f3 f4 f5⟩
  self := fun A i s Q E st h => let ⟨⟨_, he⟩, _⟩ := st; wpAny_pyIter_enum he h
def iEnumS (ta : TA) : TI := fun σ H R => ta σ H fun vs H1 => ∃ x, vs = [.str x] ∧ R (ItS x) H1
theorem pi_enumS {X : Cx} {e : Expr} {ta : TA} {p pos tpos : Pos} {elts : List Expr} {kk : Nat} (hg : Gl X "enumerate") (hm : X.mg "enumerate" = none) (ha : PA X [e] ta) (hs : starEach [e] X.env = [(false, eval e X.env)] := by rfl) :
    PI X (.Tuple elts kk tpos) (.Call (.Name "enumerate" p) [e] [] pos) (iEnumS ta) := by
  refine ⟨fun pins s σ H R I h => ?_⟩
  refine Call_ (ld_blt I hg hm boot_enumerate (PyProof.Rows.callWith_type1 (thn (ha.run pos pins s σ H _ I h) fun us s1 ⟨vs, H1, I1, r1, q1⟩ => ?_) hs rfl))
  obtain ⟨x, ex, q⟩ := q1
  subst ex
  cases r1 with
  | cons r rr =>
    cases rr
    obtain ⟨t, rfl⟩ := r
    refine call_enumerate_str fun h' he hit hsz hk => wpAny_pyIter_enum he ?_
    have I2 : Inv X pins σ H1 { s1 with heap := h' } := I1.kept (t' := s1.toks) hk
    refine ⟨s1.heap.objs.size + 1, [s1.heap.objs.size + 1, s1.heap.objs.size], _, _, H1, rfl, I2, turn_enumS x t (s1.heap.objs.size + 1) s1.heap.objs.size, ⟨⟨.none, he⟩, hit, Nat.succ_ne_self _⟩, fun b hb => ?_, q⟩
    have e' : b = s1.heap.objs.size + 1 ∨ b = s1.heap.objs.size := by simpa using hb
    have hle : s1.heap.objs.size ≤ b := by
      rcases e' with z | z
      · rw [z]; exact Nat.le_add_right _ _
      · rw [z]; exact Nat.le_refl _
    exact I1.fpOk hle (I1.hok.fresh hle)
section
variable {K : PySem.W.Frag} {σ : L2.St} {F : Hp}
theorem i_enumS {z : Str} {t1 : TA} (h : EA t1 σ F [D K (.str z)]) : EI K (iEnumS t1) σ F (enumD (signs z)) := fun F1 H1 e b R r =>
  h F1 H1 e b _ fun vs F2 H2 g hs => by
    obtain ⟨v, rfl, hv⟩ := all1 hs
    rw [dStr hv]
    have hl2 : (enumD (signs z)).length = z.cps.size := by simp [enumD, signs]
    refine ⟨z, rfl, r _ F2 H2 g ⟨fun i F H e1 e2 hi => ?_, fun F H e1 e2 => ?_, fun i F H x H' d e1 e2 hd hy => ?_⟩⟩
    · show i < z.cps.size
      omega
    · exact hl2
    · obtain ⟨T, c, rfl, hT, rfl, hc⟩ := hy
      obtain ⟨y, hy, rfl⟩ := enum_get hd
      have e3 : y = .str ⟨#[c]⟩ := by
        have e4 : z.cps.toList[i]? = some c := by simpa using hc
        simp only [signs, List.getElem?_map, e4, Option.map_some, Option.some.injEq] at hy
        exact hy.symm
      subst e3
      obtain ⟨q1, q2⟩ := new_pair (K := K) (a := .int (i : Int)) (b := .str ⟨#[c]⟩) (x := .int (i : Int)) (y := .str ⟨#[c]⟩) e2 hT (Dp.int _) (Dp.str _)
      exact ⟨_, q1, q2⟩
end
end OL
namespace OL
open PySem PySem.Spec PyProof.Rows L2
open SX (S)
open Evl (Ex)
section
variable {K : PySem.W.Frag} {σ : L2.St} {F : Hp} {ta tb : TE}
/-- a text in a tuple of texts of the module -/
theorem e_inK {z : Str} {a : Addr} {zs : List Str} {b : Bool} (ha : EP ta σ F (D K (.str z))) (hq : ∀ H, SqT K H a (zs.map V.str)) (hb : inV (.str z) (zs.map V.str) = b) :
    EP (tOp (rIn K false) ta (tC (.ref a))) σ F (D K (.bool b)) := fun F1 H1 e c Q q =>
  ha F1 H1 e c _ fun v F2 H2 g hv => by
    rw [dStr hv]
    refine ⟨a, _, rfl, .inr (hq H2), rfl, flat_strs zs, ?_⟩
    rw [hb]
    exact q _ F2 H2 g (Dp.bl _)
theorem e_inSign {c : Nat} {z : Str} (ha : EP ta σ F (D K (.str ⟨#[c]⟩))) (hb : EP tb σ F (D K (.str z))) :
    EP (tOp (fun x y H Q => ∃ (c : Nat) (z : Str), x = V.str ⟨#[c]⟩ ∧ y = V.str z ∧ Q (.bl (decide (c ∈ z.cps.toList))) H) ta tb) σ F (D K (.bool (decide (c ∈ z.cps.toList)))) :=
  e_op0 ha hb fun _ _ _ _ _ _ hx hy _ q => ⟨c, z, dStr hx, dStr hy, q _ (Dp.bl _)⟩
theorem e_niSign {c : Nat} {z : Str} (ha : EP ta σ F (D K (.str ⟨#[c]⟩))) (hb : EP tb σ F (D K (.str z))) :
    EP (tOp (fun x y H Q => ∃ (c : Nat) (z : Str), x = V.str ⟨#[c]⟩ ∧ y = V.str z ∧ Q (.bl (!decide (c ∈ z.cps.toList))) H) ta tb) σ F (D K (.bool (!decide (c ∈ z.cps.toList)))) :=
  e_op0 ha hb fun _ _ _ _ _ _ hx hy _ q => ⟨c, z, dStr hx, dStr hy, q _ (Dp.bl _)⟩
/-- text.index(text) -/
theorem e_sidx {a b : Str} {i : Nat} {rest : List Nat} (ha : EP ta σ F (D K (.str a))) (hb : EP tb σ F (D K (.str b))) (h : Builtin.Str.occurrences a b 0 a.length 1 = i :: rest) :
    EP (tBM K "str" (fun x xs H Q => ∃ a b i rest, x = V.str a ∧ xs = [V.str b] ∧ Builtin.Str.occurrences a b 0 a.length 1 = i :: rest ∧ Q (.int (i : Nat)) H) ta (tCons tb tNil)) σ F (D K (.int (i : Nat))) := fun F1 H1 e c Q q =>
  ha F1 H1 e c _ fun v F2 H2 g hv => by
    rw [dStr hv]
    exact ⟨rfl, hb F2 H2 (e.trans g.ff) g.fh _ fun w F3 H3 g3 hw => ⟨a, b, i, rest, rfl, by rw [dStr hw], h, q _ F3 H3 (g.trans g3) (Dp.int _)⟩⟩
end
end OL
-- OhObj
set_option maxHeartbeats 1000000
/-! Instances: made, read. -/
namespace OL
open PySem PySem.Spec PyProof.Rows L2
open SX (S)
open Evl (Ex)
section
variable {K : PySem.W.Frag} {σ : L2.St} {F H : Hp} {ta tb tc te : TE} {P P1 : Ds}
/-- an instance of C whose attributes are told by R -/
def InsR (C : Addr) (R : List (Str × V) → Hp → Prop) : Ds := fun v H => ∃ a dx fs, v = .ref a ∧ H a = some (.ins C dx fs) ∧ R fs H
class MnF (R : List (Str × V) → Hp → Prop) : Prop where
  mn : ∀ {fs H H'}, Ex H H' → R fs H → R fs H'
instance {C : Addr} {R : List (Str × V) → Hp → Prop} [m : MnF R] : Mn (InsR C R) := ⟨fun e ⟨a, dx, fs, h1, h2, h3⟩ => ⟨a, dx, fs, h1, e _ _ h2, m.mn e h3⟩⟩
/-- what __init__ promises: the instance at x, its attributes, told by R -/
def PrI {α : Type} (C : Addr) (Ps : α → List Ds) (pre : α → Prop) (R : α → List (Str × V) → Hp → Prop) : Sp := fun vs H Q _ => ∃ (x dx : Addr) (rest : List V) (a : α) (F : Hp), vs = .ref x :: rest ∧ H x = some (.ins C dx []) ∧ Ex F H ∧ F x = none ∧ AllP (Ps a) rest F ∧ pre a ∧
  ∀ fs F' H', (∀ b o, b ≠ x → H b = some o → H' b = some o) → Ex F F' → Ex F' H' → F' x = none → (∀ b o, H b = some o → F b = none → F' b = none) → H' x = some (.ins C dx fs) → R a fs F' → Q .non H'
theorem PrI.len {α : Type} {C : Addr} {Ps : α → List Ds} {pre : α → Prop} {R : α → List (Str × V) → Hp → Prop} {n : Nat} (hn : ∀ x, (Ps x).length = n) : ∀ vs H Q E, PrI C Ps pre R vs H Q E → vs.length = n + 1 := fun vs H Q E ⟨x, dx, rest, a, F, e, _, _, _, h, _⟩ => by
  rw [e, List.length_cons, h.len, hn]
theorem make_end {α : Type} {C : Addr} {Ps : α → List Ds} {pre : α → Prop} {R : α → List (Str × V) → Hp → Prop} {a : α} [m : MnF (R a)] {vs : List V} {F1 H1 : Hp} {Q : VK} {E : XK} (b : Ex F1 H1) (hs : AllP (Ps a) vs F1) (hp : pre a)
    (q : ∀ v F2 H2, Gr F1 H1 F2 H2 → InsR C (R a) v F2 → Q v H2) (x dx : Addr) (hx : H1 x = none) (hdx : H1 dx = none) (hne : dx ≠ x) :
    PrI C Ps pre R (.ref x :: vs) (upd (upd H1 dx (.own x)) x (.ins C dx [])) (fun v H2 => v = .non ∧ Q (.ref x) H2) E := by
  have fx : F1 x = none := ex_none b hx
  refine ⟨x, dx, vs, a, F1, rfl, upd_same, ?_, fx, hs, hp, fun fs F' H' k1 k2 k3 k4 k5 k6 k7 => ⟨rfl, ?_⟩⟩
  · intro c o hc
    have h1 := b c o hc
    rw [upd_ne (ne_of_none h1 hx), upd_ne (ne_of_none h1 hdx)]; exact h1
  · have keep : ∀ c o, H1 c = some o → H' c = some o := fun c o hc => k1 c o (ne_of_none hc hx) (by rw [upd_ne (ne_of_none hc hx), upd_ne (ne_of_none hc hdx)]; exact hc)
    refine q (.ref x) (upd F' x (.ins C dx fs)) H' ⟨keep, fun c o hc => ?_, fun c o hc => ?_, fun c o hc n => ?_⟩ ⟨x, dx, fs, rfl, upd_same, m.mn (Ex.new k4) k7⟩
    · rw [upd_ne (ne_of_none hc fx)]; exact k2 c o hc
    · by_cases z : c = x
      · subst z; rw [upd_same] at hc; rw [k6]; exact hc
      · rw [upd_ne z] at hc; exact k3 c o hc
    · rw [upd_ne (ne_of_none hc hx)]
      exact k5 c o (by rw [upd_ne (ne_of_none hc hx), upd_ne (ne_of_none hc hdx)]; exact hc) n
theorem e_make {α : Type} {C : Addr} {Ps : α → List Ds} {pre : α → Prop} {R : α → List (Str × V) → Hp → Prop} {t : TA} {E : XK} (a : α) [m : MnF (R a)] (h : EA t σ F (Ps a)) (hp : pre a) : EP (tMake C (PrI C Ps pre R) [] E t) σ F (InsR C (R a)) := fun F1 H1 e b Q q =>
  h F1 H1 e b _ fun vs F2 H2 g hs => fun x dx hx hdx hne => by
    rw [List.append_nil]
    exact make_end g.fh hs hp (fun v F3 H3 g3 hv => q v F3 H3 (g.trans g3) hv) x dx hx hdx hne
/-- .. with keywords: n positional arguments, m by name; gV sets them in the parameters' order -/
theorem e_makeK {α : Type} {C : Addr} {Ps : α → List Ds} {pre : α → Prop} {R : α → List (Str × V) → Hp → Prop} {t tk : TA} {E : XK} {n m : Nat} {gV : List V → List V → List V} {As Bs : List Ds} [ma : MnL As] (a : α) [mf : MnF (R a)] (h : EA t σ F As) (hk : EA tk σ F Bs)
    (hn : As.length = n) (hm : Bs.length = m) (hg : ∀ x vs zs F1, Ex F F1 → AllP As vs F1 → AllP Bs zs F1 → ∃ ws, gV (.ref x :: vs) zs = .ref x :: ws ∧ AllP (Ps a) ws F1) (hp : pre a) : EP (tMakeK C n m (PrI C Ps pre R) gV E t tk) σ F (InsR C (R a)) := fun F1 H1 e b Q q =>
  h F1 H1 e b _ fun vs F2 H2 g hs => hk F2 H2 (e.trans g.ff) g.fh _ fun zs F3 H3 g3 hz => by
    refine ⟨hs.len.trans hn, hz.len.trans hm, fun x dx hx hdx hne => ?_⟩
    obtain ⟨ws, e1, e2⟩ := hg x vs zs F3 ((e.trans g.ff).trans g3.ff) (ma.mn g3.ff hs) hz
    rw [e1]
    exact make_end g3.fh e2 hp (fun v F4 H4 g4 hv => q v F4 H4 ((g.trans g3).trans g4) hv) x dx hx hdx hne
/-- .. and a def -/
theorem e_callN {α : Type} {Ps : α → List Ds} {pre : α → Prop} {R : α → Ds} {t tk : TA} {E : XK} {n m : Nat} {gV : List V → List V → List V} {As Bs : List Ds} [ma : MnL As] (a : α) (h : EA t σ F As) (hk : EA tk σ F Bs)
    (hn : As.length = n) (hm : Bs.length = m) (hg : ∀ vs zs F1, Ex F F1 → AllP As vs F1 → AllP Bs zs F1 → AllP (Ps a) (gV vs zs) F1) (hp : pre a) : EP (tCallN n m (Pr Ps pre R) gV E t tk) σ F (R a) := fun F1 H1 e b Q q =>
  h F1 H1 e b _ fun vs F2 H2 g hs => hk F2 H2 (e.trans g.ff) g.fh _ fun zs F3 H3 g3 hz =>
    ⟨hs.len.trans hn, hz.len.trans hm, a, F3, g3.fh, hg vs zs F3 ((e.trans g.ff).trans g3.ff) (ma.mn g3.ff hs) hz, hp, fun v F4 H4 g4 hv => q v F4 H4 ((g.trans g3).trans g4) hv⟩
/-- e.f -/
theorem e_fld {C : Addr} {f : Str} (ha : EP ta σ F P) (hc : Cls K C) (hn : NoAttr K C f) (hl : ∀ v F1, Ex F F1 → P v F1 → ∃ a dx fs y, v = .ref a ∧ F1 a = some (.ins C dx fs) ∧ fs.lookup f = some y ∧ P1 y F1) : EP (tFld K ta f) σ F P1 := fun F1 H1 e b Q q =>
  ha F1 H1 e b _ fun v F2 H2 g hv => by
    obtain ⟨a, dx, fs, y, rfl, h1, h2, h3⟩ := hl v F2 (e.trans g.ff) hv
    exact ⟨a, C, dx, fs, y, rfl, g.fh _ _ h1, hc, hn, h2, q y F2 H2 g h3⟩
theorem e_fldR {C : Addr} {R : List (Str × V) → Hp → Prop} {f : Str} (ha : EP ta σ F (InsR C R)) (hc : Cls K C) (hn : NoAttr K C f) (hl : ∀ fs F1, Ex F F1 → R fs F1 → ∃ y, fs.lookup f = some y ∧ P1 y F1) : EP (tFld K ta f) σ F P1 :=
  e_fld ha hc hn fun v F1 e ⟨a, dx, fs, h1, h2, h3⟩ => by
    obtain ⟨y, h4, h5⟩ := hl fs F1 e h3
    exact ⟨a, dx, fs, y, h1, h2, h4, h5⟩
/-- e.m(..) where e is told by InsR -/
theorem e_methR {α : Type} {Ps : α → List Ds} {pre : α → Prop} {Rr : α → Ds} {to : TE} {t : TA} {E : XK} {C : Addr} {m : Str} {R : List (Str × V) → Hp → Prop} [mp : MnF R] {As : List Ds} (x : α) (ho : EP to σ F (InsR C R)) (h : EA t σ F As) (hps : Ps x = InsR C R :: As)
    (hi : ∀ fs F1, R fs F1 → fs.lookup m = none) (hp : pre x) : EP (tMeth C m (Pr Ps pre Rr) [] E to t) σ F (Rr x) :=
  e_meth (As := As) x ho h (fun v F1 ⟨a, dx, fs, h1, h2, h3⟩ => ⟨a, dx, fs, h1, h2, hi fs F1 h3⟩) (fun v vs F1 _ hv hvs => by rw [hps]; exact ⟨hv, hvs⟩) hp
/-- chains -/
theorem e_chain {i j k : Int} {p1 p2 : Int → Int → Bool} (ha : EP ta σ F (D K (.int i))) (hb : EP tb σ F (D K (.int j))) (hc : EP tc σ F (D K (.int k))) :
    EP (tChain (rI0 fun i j => .bl (p1 i j)) (rI0 fun i j => .bl (p2 i j)) ta tb tc) σ F (D K (.bool (p1 i j && p2 j k))) := fun F1 H1 e b Q q =>
  ha F1 H1 e b _ fun x F2 H2 g2 hx => hb F2 H2 (e.trans g2.ff) g2.fh _ fun y F3 H3 g3 hy => ⟨i, j, dInt hx, dInt hy, _, rfl, by
    cases zz : p1 i j with
    | true => exact iteT (hc F3 H3 ((e.trans g2.ff).trans g3.ff) g3.fh _ fun z F4 H4 g4 hz => ⟨j, k, dInt hy, dInt hz, q _ F4 H4 ((g2.trans g3).trans g4) (by rw [zz]; exact Dp.bl _)⟩)
    | false => exact iteF (q _ F3 H3 (g2.trans g3) (by rw [zz]; exact Dp.bl _))⟩
theorem e_addS {a b : Str} (ha : EP ta σ F (D K (.str a))) (hb : EP tb σ F (D K (.str b))) (hl : a.length + b.length ≤ 100000) : EP (tOp (fun x y H Q => ∃ i j, x = V.str i ∧ y = V.str j ∧ i.length + j.length ≤ sizeLine ∧ Q (.str (i ++ j)) H) ta tb) σ F (D K (.str (a ++ b))) :=
  e_op0 ha hb fun _ _ _ _ _ _ hx hy _ q => ⟨a, b, dStr hx, dStr hy, line_of hl, q _ (Dp.str _)⟩
/-- while, by a word W of a measure, the slots, the standing part and the heap -/
theorem s_while {c : TT} {tu : TS} {Dn : Ends} (W : Nat → L2.St → Hp → Hp → Prop) (m0 : Nat) (h0 : W m0 σ F H)
    (hs : ∀ m σ' F' H', W m σ' F' H' → Ex F' H' ∧ ∃ b, EvT c σ' F' b ∧ (b = true → ∀ H1, Gr F' H' F' H1 → tu { Dn with nx := fun σ2 H2 => ∃ m' F2, m' < m ∧ W m' σ2 F2 H2, ct := fun σ2 H2 => ∃ m' F2, m' < m ∧ W m' σ2 F2 H2, bk := Dn.nx } σ' H1) ∧ (b = false → ∀ H1, Gr F' H' F' H1 → Dn.nx σ' H1)) : tWhile c tu Dn σ H := by
  refine ⟨fun m σ' H' => ∃ F', W m σ' F' H', ⟨m0, F, h0⟩, ?_⟩
  rintro m σ' H' ⟨F', p⟩
  obtain ⟨e, b, hb, h1, h2⟩ := hs m σ' F' H' p
  refine hb.go e fun H1 g => ?_
  cases b with
  | true => exact iteT ⟨fun σ2 H2 => ∃ m' F2, m' < m ∧ W m' σ2 F2 H2, fun σ2 H2 ⟨m', F2, h3, h4⟩ => ⟨m', h3, F2, h4⟩, h1 rfl H1 g⟩
  | false => exact iteF (h2 rfl H1 g)
theorem q_while {c : TT} {tu tz : TS} {Dn : Ends} (W : Nat → L2.St → Hp → Hp → Prop) (m0 : Nat) (h0 : W m0 σ F H)
    (hs : ∀ m σ' F' H', W m σ' F' H' → Ex F' H' ∧ ∃ b, EvT c σ' F' b ∧ (b = true → ∀ H1, Gr F' H' F' H1 → tu { Dn with nx := fun σ2 H2 => ∃ m' F2, m' < m ∧ W m' σ2 F2 H2, ct := fun σ2 H2 => ∃ m' F2, m' < m ∧ W m' σ2 F2 H2, bk := tz Dn } σ' H1) ∧ (b = false → ∀ H1, Gr F' H' F' H1 → tz Dn σ' H1)) : tSeq (tWhile c tu) tz Dn σ H := s_while (Dn := { Dn with nx := tz Dn }) W m0 h0 hs
/-! ### __init__ under way -/
structure Ini (x C dx : Addr) (fs : List (Str × V)) (F0 H0 F H : Hp) : Prop where
  hh : ∀ b o, b ≠ x → H0 b = some o → H b = some o
  ff : Ex F0 F
  fh : Ex F H
  fx : F x = none
  nw : ∀ a o, H0 a = some o → F0 a = none → F a = none
  hx : H x = some (.ins C dx fs)
section
variable {x C dx : Addr} {fs : List (Str × V)} {F0 H0 F1 H1 : Hp} {tz : TS} {Dn : Ends}
theorem Ini.start (hx : H x = some (.ins C dx [])) (e : Ex F H) (hn : F x = none) : Ini x C dx [] F H F H := ⟨fun _ _ _ h => h, Ex.refl F, e, hn, fun _ _ _ h => h, hx⟩
theorem Ini.gr (i : Ini x C dx fs F0 H0 F H) (g : Gr F H F1 H1) : Ini x C dx fs F0 H0 F1 H1 := by
  refine ⟨fun b o hb h => g.hh _ _ (i.hh b o hb h), i.ff.trans g.ff, g.fh, g.nw _ _ i.hx i.fx, fun a o h n => ?_, g.hh _ _ i.hx⟩
  by_cases z : a = x
  · subst z; exact g.nw _ _ i.hx i.fx
  · exact g.nw a o (i.hh a o z h) (i.nw a o h n)
theorem Ini.put (i : Ini x C dx fs F0 H0 F H) (gs : List (Str × V)) : Ini x C dx gs F0 H0 F (upd H x (.ins C dx gs)) := ⟨fun b o hb h => by rw [upd_ne hb]; exact i.hh b o hb h, i.ff, ex_mut i.fh i.fx, i.fx, i.nw, upd_same⟩
theorem s_fld {j : Nat} {f : Str} (i : Ini x C dx fs F0 H0 F H) (hs : σ[j]? = some (some (.ref x))) (hc : Cls K C) (hn : NoAttr K C f) (hl : fs.length < 1000) (h : EP te σ F P)
    (k : ∀ v F1 H1, Ini x C dx (putF f v fs) F0 H0 F1 H1 → Ex F F1 → P v F1 → Dn.nx σ H1) : sFld K (tVar j) te f Dn σ H := h.go i.fh fun v F1 H1 g hv => by
  have i1 := i.gr g
  exact ⟨.ref x, hs, x, C, dx, fs, rfl, i1.hx, hc, hn, hl, k v F1 _ (i1.put _) g.ff hv⟩
theorem q_fld {j : Nat} {f : Str} (i : Ini x C dx fs F0 H0 F H) (hs : σ[j]? = some (some (.ref x))) (hc : Cls K C) (hn : NoAttr K C f) (hl : fs.length < 1000) (h : EP te σ F P)
    (k : ∀ v F1 H1, Ini x C dx (putF f v fs) F0 H0 F1 H1 → Ex F F1 → P v F1 → tz Dn σ H1) : tSeq (sFld K (tVar j) te f) tz Dn σ H := s_fld (Dn := { Dn with nx := tz Dn }) i hs hc hn hl h k
theorem Ini.done {α : Type} {R : α → List (Str × V) → Hp → Prop} {a : α} {Q : VK} (i : Ini x C dx fs F0 H0 F H)
    (k : ∀ fs F' H', (∀ b o, b ≠ x → H0 b = some o → H' b = some o) → Ex F0 F' → Ex F' H' → F' x = none → (∀ b o, H0 b = some o → F0 b = none → F' b = none) → H' x = some (.ins C dx fs) → R a fs F' → Q .non H') (h : R a fs F) : Q .non H :=
  k fs F H i.hh i.ff i.fh i.fx i.nw i.hx h
end
end
end OL
-- OhW1
set_option maxHeartbeats 1000000
/-! The walk, part 1: plain looks and turns. -/
namespace OL
open PySem PySem.Spec PyProof.Rows L2
open SX (S)
open Evl (Ex)
open OH
section
variable {P : Program} {w : World} {K : PySem.W.Frag} {mg : Str → Option Value} {base : Heap}
abbrev dP (p : Pl) : PyData := .tuple [.int p.1, .int p.2]
abbrev dT (t : Tx) : PyData := .str (S t)
/-- is_whole(a whole number) -/
def sp_is_whole (K : PySem.W.Frag) : Sp := Pr (fun i : Int => [D K (.int i)]) (fun _ => True) (fun _ => D K (.bool true))
theorem sc_is_whole : FnScope ["thing"] ["thing"] (defScope s_is_whole) := ⟨rfl, rfl, rfl, by decide +kernel, rfl, by decide +kernel, by decide +kernel⟩
set_option maxHeartbeats 2000000 in
theorem bd_is_whole (T : Tt K mg)  : BodyOk P w K mg base 0 "is_whole" s_is_whole ["thing"] (sp_is_whole K) := by
  intro f cdv A outer s H vs Q E hr h
  have nd := sc_is_whole.nd
  have hu := hu_of hr
  have hu64 := hr.units
  have hu65 : (A.deeper (envOfC "is_whole" (defScope s_is_whole) s.heap.objs.size f cdv)).units + 65 < cLine := by have := hr.un; omega
  obtain ⟨i, F, e, hA, -, k⟩ := h
  obtain ⟨v, rfl, h1⟩ := all1 hA
  refine ⟨_, (pss_one (ps_ret (pe_and (pe_callB (id := "isinstance") call_isi (by rfl) T.f_isinstance boot_isinstance (pa_cons (pv 0) (pa_cons (pe_bltn (v := .ty "int") (by rfl) T.f_int (by decide +kernel) rfl) pa_nil))) (pe_one (pe_not (pe_callB (id := "isinstance") call_isi (by rfl) T.f_isinstance boot_isinstance (pa_cons (pv 0) (pa_cons (pe_bltn (v := .ty "bool") (by rfl) T.f_bool (by decide +kernel) rfl) pa_nil)))))))), ?_⟩
  refine s_ret e (P := D K (.bool (true && !false))) (e_and (e_isiI (e_var rfl h1)) fun _ => e_not (e_isiI (e_var rfl h1))) ?_
  exact fun v F1 H1 g hv => k v F1 H1 g hv
def sp_is_from (K : PySem.W.Frag) : Sp := Pr (fun x : Int × Int × Int => [D K (.int x.1), D K (.int x.2.1), D K (.int x.2.2)]) (fun _ => True) (fun x => D K (.bool (decide (x.2.1 ≤ x.1) && decide (x.1 ≤ x.2.2))))
theorem sc_is_from : FnScope ["thing", "least", "most"] ["thing", "least", "most"] (defScope s_is_from) := ⟨rfl, rfl, rfl, by decide +kernel, rfl, by decide +kernel, by decide +kernel⟩
set_option maxHeartbeats 2000000 in
theorem bd_is_from (T : Tt K mg) (G_is_whole : Cal P w K mg base 1 "is_whole" ["thing"] (sp_is_whole K)) : BodyOk P w K mg base 1 "is_from" s_is_from ["thing", "least", "most"] (sp_is_from K) := by
  intro f cdv A outer s H vs Q E hr h
  have nd := sc_is_from.nd
  have hu := hu_of hr
  have hu64 := hr.units
  have hu65 : (A.deeper (envOfC "is_from" (defScope s_is_from) s.heap.objs.size f cdv)).units + 65 < cLine := by have := hr.un; omega
  obtain ⟨⟨i, lo, hi⟩, F, e, hA, -, k⟩ := h
  obtain ⟨v1, v2, v3, rfl, h1, h2, h3⟩ := all3 hA
  refine ⟨_, (pss_one (ps_ret (pe_and (p_call G_is_whole hr (pa_cons (pv 0) pa_nil)) (pe_one (pe_chain op_le op_le (pv 1) (pv 0) (pv 2)))))), ?_⟩
  refine s_ret e (P := D K (.bool (true && (decide (lo ≤ i) && decide (i ≤ hi))))) (e_and (e_call i (ea_cons (e_var rfl h1) ea_nil) trivial) fun _ => e_chainI (e_var rfl h2) (e_var rfl h1) (e_var rfl h3)) ?_
  exact fun v F1 H1 g hv => k v F1 H1 g hv
/-- is_place(a tuple of two whole numbers, rows, columns) -/
def sp_is_place (K : PySem.W.Frag) : Sp := Pr (fun x : Pl × Nat × Nat => [D K (dP x.1), D K (.int x.2.1), D K (.int x.2.2)]) (fun _ => True) (fun x => D K (.bool (inP x.2.1 x.2.2 x.1)))
theorem sc_is_place : FnScope ["thing", "rows", "columns", "row", "column"] ["thing", "rows", "columns"] (defScope s_is_place) := ⟨rfl, rfl, rfl, by decide +kernel, rfl, by decide +kernel, by decide +kernel⟩
set_option maxHeartbeats 2000000 in
theorem bd_is_place (T : Tt K mg) (G_is_from : Cal P w K mg base 2 "is_from" ["thing", "least", "most"] (sp_is_from K)) : BodyOk P w K mg base 2 "is_place" s_is_place ["thing", "rows", "columns", "row", "column"] (sp_is_place K) := by
  intro f cdv A outer s H vs Q E hr h
  have nd := sc_is_place.nd
  have hu := hu_of hr
  have hu64 := hr.units
  have hu65 : (A.deeper (envOfC "is_place" (defScope s_is_place) s.heap.objs.size f cdv)).units + 65 < cLine := by have := hr.un; omega
  obtain ⟨⟨p, h, wd⟩, F, e, hA, -, k⟩ := h
  obtain ⟨v1, v2, v3, rfl, h1, h2, h3⟩ := all3 hA
  refine ⟨_, (pss_cons (ps_if (PW.pt (pw_or (pt_not (pt_val (pe_callB (id := "isinstance") call_isi (by rfl) T.f_isinstance boot_isinstance (pa_cons (pv 0) (pa_cons (pe_bltn (v := .ty "tuple") (by rfl) T.f_tuple (by decide +kernel) rfl) pa_nil))))) (pw_or1 (pt_cmpR op_ne (pe_callB (id := "len") call_len_seq (by rfl) T.f_len boot_len (pa_cons (pv 0) pa_nil)) pe_int (nomark _))))) (pss_one (ps_ret pe_bl)) pss_nil)
      (pss_cons (ps_asg (pv 0) (pg_tup (by rfl) (pgs_cons (pg_name (i := 3) nd rfl (Or.inl rfl)) (pgs_cons (pg_name (i := 4) nd rfl (Or.inl rfl)) pgs_nil))))
      (pss_one (ps_ret (pe_and (p_call G_is_from hr (pa_cons (pv 3) (pa_cons pe_int (pa_cons (pe_op op_sub (pv 1) pe_int) pa_nil)))) (pe_one (p_call G_is_from hr (pa_cons (pv 4) (pa_cons pe_int (pa_cons (pe_op op_sub (pv 2) pe_int) pa_nil)))))))))), ?_⟩
  refine q_when e (b := !true || !decide ((2 : Int) = 2)) (t_or (t_not (t_B (e_isiT (e_var rfl h1)))) fun _ => t_test (e_neI (e_lenT (e_var rfl h1)) e_c)) (fun z => ?_) fun _ H1 g1 => ?_
  · exact Bool.noConfusion z
  refine q_unp g1.fh (e_var rfl h1) fun v4 v5 F2 H2 g2 h4 h5 => ?_
  have m2 := dpx g2.ff _ _ h2
  have m3 := dpx g2.ff _ _ h3
  refine s_ret g2.fh (P := D K (.bool (inP h wd p))) ?_ fun v F3 H3 g3 hv => k v F3 H3 ((g1.trans g2).trans g3) hv
  refine e_and (e_call (p.1, 0, (h : Int) - 1) (ea_cons (e_var rfl h4) (ea_cons e_c (ea_cons (e_I0 (e_var rfl m2) e_c) ea_nil))) trivial) fun _ => ?_
  exact e_call (p.2, 0, (wd : Int) - 1) (ea_cons (e_var rfl h5) (ea_cons e_c (ea_cons (e_I0 (e_var rfl m3) e_c) ea_nil))) trivial
end
end OL
-- OhW2
set_option maxHeartbeats 1000000
/-! The walk, part 2: turns. -/
namespace OL
open PySem PySem.Spec PyProof.Rows L2
open SX (S)
open Evl (Ex)
open OH
abbrev dC (c : Nat) : PyData := .str ⟨#[c]⟩
theorem turns_in : ∀ t ∈ TURNS, inV (.str (S t)) ((["urdl", "rdlu", "dlur", "lurd", "uldr", "drul", "ldru", "ruld"] : List Str).map V.str) = true := by decide +kernel
theorem deeds_idx : ∀ d ∈ DEEDS, ∃ rest, Builtin.Str.occurrences "urdl" (⟨#[d]⟩ : Str) 0 ("urdl" : Str).length 1 = ix d :: rest := by
  intro d hd
  simp only [DEEDS, List.mem_cons, List.not_mem_nil, or_false] at hd
  rcases hd with rfl | rfl | rfl | rfl
  · exact ⟨[], by decide +kernel⟩
  · exact ⟨[], by decide +kernel⟩
  · exact ⟨[], by decide +kernel⟩
  · exact ⟨[], by decide +kernel⟩
theorem deeds_tl : ("urdl" : Str).cps.toList = DEEDS := by decide +kernel
theorem turn_len : ∀ t ∈ TURNS, t.length = 4 ∧ ∀ c ∈ t, c ∈ DEEDS := by decide
theorem turn_sub : ∀ t ∈ TURNS, ∀ c ∈ t, c ∈ DEEDS := fun t h => (turn_len t h).2
theorem way_at : ∀ t ∈ TURNS, ∀ d ∈ DEEDS, t[ix d]? = some (way t d) := by decide
theorem way_in : ∀ t ∈ TURNS, ∀ d ∈ DEEDS, way t d ∈ DEEDS := by decide
theorem thn_in : ∀ t ∈ TURNS, ∀ u ∈ TURNS, thenT t u ∈ TURNS := by decide
section
variable {P : Program} {w : World} {K : PySem.W.Frag} {mg : Str → Option Value} {base : Heap}
def sp_is_turn (K : PySem.W.Frag) : Sp := Pr (fun t : Tx => [D K (dT t)]) (fun t => t ∈ TURNS) (fun _ => D K (.bool true))
theorem sc_is_turn : FnScope ["thing"] ["thing"] (defScope s_is_turn) := ⟨rfl, rfl, rfl, by decide +kernel, rfl, by decide +kernel, by decide +kernel⟩
set_option maxHeartbeats 2000000 in
theorem bd_is_turn (T : Tt K mg)  : BodyOk P w K mg base 0 "is_turn" s_is_turn ["thing"] (sp_is_turn K) := by
  intro f cdv A outer s H vs Q E hr h
  have nd := sc_is_turn.nd
  have hu := hu_of hr
  have hu64 := hr.units
  have hu65 : (A.deeper (envOfC "is_turn" (defScope s_is_turn) s.heap.objs.size f cdv)).units + 65 < cLine := by have := hr.un; omega
  obtain ⟨t, F, e, hA, ht, k⟩ := h
  obtain ⟨v, rfl, h1⟩ := all1 hA
  refine ⟨_, (pss_one (ps_ret (pe_and (pe_callB (id := "isinstance") call_isi (by rfl) T.f_isinstance boot_isinstance (pa_cons (pv 0) (pa_cons (pe_bltn (v := .ty "str") (by rfl) T.f_str (by decide +kernel) rfl) pa_nil))) (pe_one (pe_cmpR op_in_seq (pv 0) (p_gr T.t_TURNS) (by rfl)))))), ?_⟩
  refine s_ret e (P := D K (.bool (true && true))) (e_and (e_isiS (e_var rfl h1)) fun _ => e_inK (e_var rfl h1) T.q_TURNS (turns_in t ht)) ?_
  exact fun v F1 H1 g hv => k v F1 H1 g hv
def sp_want_turn (K : PySem.W.Frag) : Sp := Pr (fun t : Tx => [D K (dT t)]) (fun t => t ∈ TURNS) (fun _ => D K .none)
theorem sc_want_turn : FnScope ["thing"] ["thing"] (defScope s_want_turn) := ⟨rfl, rfl, rfl, by decide +kernel, rfl, by decide +kernel, by decide +kernel⟩
set_option maxHeartbeats 2000000 in
theorem bd_want_turn (T : Tt K mg) (G_is_turn : Cal P w K mg base 1 "is_turn" ["thing"] (sp_is_turn K)) : BodyOk P w K mg base 1 "want_turn" s_want_turn ["thing"] (sp_want_turn K) := by
  intro f cdv A outer s H vs Q E hr h
  have nd := sc_want_turn.nd
  have hu := hu_of hr
  have hu64 := hr.units
  have hu65 : (A.deeper (envOfC "want_turn" (defScope s_want_turn) s.heap.objs.size f cdv)).units + 65 < cLine := by have := hr.un; omega
  obtain ⟨t, F, e, hA, ht, k⟩ := h
  obtain ⟨v, rfl, h1⟩ := all1 hA
  refine ⟨_, (pss_one (ps_if (pt_not (pt_val (p_call G_is_turn hr (pa_cons (pv 0) pa_nil)))) (pss_one ps_never) pss_nil)), ?_⟩
  refine s_fine e (t_not (t_B (e_call t (ea_cons (e_var rfl h1) ea_nil) ht))) fun H1 g => ?_
  exact k _ F H1 g Dp.non
/-- want_row(a row) -/
def sp_want_row (K : PySem.W.Frag) : Sp := Pr (fun t : Tx => [D K (dT t)]) (fun t => ∀ d ∈ t, d ∈ DEEDS) (fun _ => D K .none)
theorem sc_want_row : FnScope ["thing", "at", "deed"] ["thing"] (defScope s_want_row) := ⟨rfl, rfl, rfl, by decide +kernel, rfl, by decide +kernel, by decide +kernel⟩
set_option maxHeartbeats 2000000 in
theorem bd_want_row (T : Tt K mg)  : BodyOk P w K mg base 0 "want_row" s_want_row ["thing", "at", "deed"] (sp_want_row K) := by
  intro f cdv A outer s H vs Q E hr h
  have nd := sc_want_row.nd
  have hu := hu_of hr
  have hu64 := hr.units
  have hu65 : (A.deeper (envOfC "want_row" (defScope s_want_row) s.heap.objs.size f cdv)).units + 65 < cLine := by have := hr.un; omega
  obtain ⟨t, F, e, hA, ht, k⟩ := h
  obtain ⟨v, rfl, h1⟩ := all1 hA
  refine ⟨_, (pss_cons (ps_if (pt_not (pt_val (pe_callB (id := "isinstance") call_isi (by rfl) T.f_isinstance boot_isinstance (pa_cons (pv 0) (pa_cons (pe_bltn (v := .ty "str") (by rfl) T.f_str (by decide +kernel) rfl) pa_nil))))) (pss_one ps_never) pss_nil)
      (pss_one (ps_for PassesOwn.never rfl (pi_enumS (by rfl) T.f_enumerate (pa_cons (pv 0) pa_nil)) (pg_tup (by rfl) (pgs_cons (pg_name (i := 1) nd rfl (Or.inl rfl)) (pgs_cons (pg_name (i := 2) nd rfl (Or.inl rfl)) pgs_nil))) (pss_one (ps_if (pt_cmpR op_notIn_sign (pv 2) (p_gs T.s_DEEDS) (by rfl)) (pss_one ps_never) pss_nil))))), ?_⟩
  refine q_fine e (t_not (t_B (e_isiS (b := true) (e_var rfl h1)))) fun H1 g1 => ?_
  refine s_for g1.fh (i_enumS (ea_cons (e_var rfl h1) ea_nil)) fun F2 H2 g2 => ⟨fun _ σ' F' H' => Gr F H F' H' ∧ Ex F2 F' ∧ ∃ a b, σ' = [some v, a, b], ⟨g1.trans g2, Ex.refl _, none, none, rfl⟩, fun i σ' F' H' q => ⟨q.2.1, q.1.fh⟩, ?_, ?_⟩
  · rintro i d x σ' F' H' F3 H3 hd ⟨g', e', a, b, rfl⟩ g3 hx
    obtain ⟨y, hy, rfl⟩ := enum_get hd
    refine g_unp g3.fh hx fun v1 v2 q1 q2 => ?_
    obtain ⟨c, hc, rfl⟩ : ∃ c ∈ t, y = dC c := by
      have hm := List.mem_of_getElem? hy
      simp only [signs, List.mem_map] at hm
      obtain ⟨c, hc, e⟩ := hm
      exact ⟨c, by simpa using hc, e.symm⟩
    refine s_fine g3.fh (t_eq (t_test (e_niSign (e_var rfl q2) e_c)) ?_) fun H4 g4 => ⟨F3, (g'.trans g3).trans g4, e'.trans g3.ff, _, _, rfl⟩
    rw [deeds_tl, decide_eq_true (ht c hc)]
    rfl
  · rintro σ' F' H' ⟨g', e', a, b, rfl⟩
    exact k _ F' H' g' Dp.non
def sp_want_deed (K : PySem.W.Frag) : Sp := Pr (fun d : Nat => [D K (dC d)]) (fun d => d ∈ DEEDS) (fun _ => D K .none)
theorem sc_want_deed : FnScope ["thing"] ["thing"] (defScope s_want_deed) := ⟨rfl, rfl, rfl, by decide +kernel, rfl, by decide +kernel, by decide +kernel⟩
set_option maxHeartbeats 2000000 in
theorem bd_want_deed (T : Tt K mg)  : BodyOk P w K mg base 0 "want_deed" s_want_deed ["thing"] (sp_want_deed K) := by
  intro f cdv A outer s H vs Q E hr h
  have nd := sc_want_deed.nd
  have hu := hu_of hr
  have hu64 := hr.units
  have hu65 : (A.deeper (envOfC "want_deed" (defScope s_want_deed) s.heap.objs.size f cdv)).units + 65 < cLine := by have := hr.un; omega
  obtain ⟨d, F, e, hA, hd, k⟩ := h
  obtain ⟨v, rfl, h1⟩ := all1 hA
  refine ⟨_, (pss_cons (ps_if (pt_not (pt_val (pe_callB (id := "isinstance") call_isi (by rfl) T.f_isinstance boot_isinstance (pa_cons (pv 0) (pa_cons (pe_bltn (v := .ty "str") (by rfl) T.f_str (by decide +kernel) rfl) pa_nil))))) (pss_one ps_never) pss_nil)
      (pss_one (ps_if (PW.pt (pw_or (pt_cmpR op_ne (pe_callB (id := "len") call_len_str (by rfl) T.f_len boot_len (pa_cons (pv 0) pa_nil)) pe_int (nomark _)) (pw_or1 (pt_cmpR op_notIn_sign (pv 0) (p_gs T.s_DEEDS) (by rfl))))) (pss_one ps_never) pss_nil))), ?_⟩
  refine q_fine e (t_not (t_B (e_isiS (b := true) (e_var rfl h1)))) fun H1 g1 => ?_
  refine s_fine g1.fh (t_eq (t_or (b := !decide (d ∈ ("urdl" : Str).cps.toList)) (t_test (e_neI (e_lenS (e_var rfl h1) (by show 1 ≤ 100000; decide)) e_c)) fun _ => t_test (e_niSign (e_var rfl h1) e_c)) ?_) fun H2 g2 => k _ F H2 (g1.trans g2) Dp.non
  rw [deeds_tl, decide_eq_true hd]
  rfl
def sp_way (K : PySem.W.Frag) : Sp := Pr (fun x : Tx × Nat => [D K (dT x.1), D K (dC x.2)]) (fun x => x.1 ∈ TURNS ∧ x.2 ∈ DEEDS) (fun x => D K (dC (way x.1 x.2)))
theorem sc_way : FnScope ["turn", "deed"] ["turn", "deed"] (defScope s_way) := ⟨rfl, rfl, rfl, by decide +kernel, rfl, by decide +kernel, by decide +kernel⟩
set_option maxHeartbeats 2000000 in
theorem bd_way (T : Tt K mg) (G_want_turn : Cal P w K mg base 2 "want_turn" ["thing"] (sp_want_turn K)) (G_want_deed : Cal P w K mg base 1 "want_deed" ["thing"] (sp_want_deed K)) : BodyOk P w K mg base 2 "way" s_way ["turn", "deed"] (sp_way K) := by
  intro f cdv A outer s H vs Q E hr h
  have nd := sc_way.nd
  have hu := hu_of hr
  have hu64 := hr.units
  have hu65 : (A.deeper (envOfC "way" (defScope s_way) s.heap.objs.size f cdv)).units + 65 < cLine := by have := hr.un; omega
  obtain ⟨⟨t, d⟩, F, e, hA, ⟨ht, hd⟩, k⟩ := h
  obtain ⟨v, v2, rfl, h1, h2⟩ := all2 hA
  refine ⟨_, (pss_cons (ps_expr (p_call G_want_turn hr (pa_cons (pv 0) pa_nil)))
      (pss_cons (ps_expr (p_call G_want_deed hr (pa_cons (pv 1) pa_nil)))
      (pss_one (ps_ret (pe_ix ix_str (pv 0) (pe_bm PySem.F.plainAttrs_str PySem.F.slot_str_index PySem.F.type_str_index mt_sindex (p_gs T.s_DEEDS) (pa_cons (pv 1) pa_nil)) (fun _ _ => rfl)))))), ?_⟩
  refine q_drop e (e_call t (ea_cons (e_var rfl h1) ea_nil) ht) fun H1 g1 => ?_
  refine q_drop g1.fh (e_call d (ea_cons (e_var rfl h2) ea_nil) hd) fun H2 g2 => ?_
  obtain ⟨rest, hr⟩ := deeds_idx d hd
  refine s_ret g2.fh (P := D K (dC (way t d))) (e_ixS (e_var rfl h1) (e_sidx e_c (e_var rfl h2) hr) ?_ (atI_nat ?_)) fun v F3 H3 g3 hv => k v F3 H3 ((g1.trans g2).trans g3) hv
  · have h4 := (turn_len t ht).1
    show (S t).cps.size ≤ 100000
    simp [h4]
  · have h5 := way_at t ht d hd
    simpa using h5
/-- a row turned -/
def sp_row_turned (K : PySem.W.Frag) : Sp := Pr (fun x : Tx × Tx => [D K (dT x.1), D K (dT x.2)]) (fun x => x.1 ∈ TURNS ∧ (∀ d ∈ x.2, d ∈ DEEDS) ∧ x.2.length ≤ 10000) (fun x => D K (dT (thenT x.2 x.1)))
theorem joinL_signs : ∀ t : List Nat, TL.joinL [] (t.map fun c => [c]) = t
  | [] => rfl
  | [a] => rfl
  | a :: b :: t => by
    have ih := joinL_signs (b :: t)
    show [a] ++ ([] ++ TL.joinL [] ((b :: t).map fun c => [c])) = a :: b :: t
    rw [ih]
    rfl
theorem join_signs (t : List Nat) : Txt.join (S []) (t.map fun c => S [c]) = S t := by
  have e := SX.join_S [] (t.map fun c => [c])
  rw [List.map_map, joinL_signs] at e
  exact e
theorem sc_row_turned : FnScope ["turn", "row", "deed"] ["turn", "row"] (defScope s_row_turned) := ⟨rfl, rfl, rfl, by decide +kernel, rfl, by decide +kernel, by decide +kernel⟩
set_option maxHeartbeats 2000000 in
theorem bd_row_turned (T : Tt K mg) (G_want_turn : Cal P w K mg base 2 "want_turn" ["thing"] (sp_want_turn K)) (G_want_row : Cal P w K mg base 1 "want_row" ["thing"] (sp_want_row K)) (G_way : Cal P w K mg base 3 "way" ["turn", "deed"] (sp_way K)) : BodyOk P w K mg base 3 "row_turned" s_row_turned ["turn", "row", "deed"] (sp_row_turned K) := by
  intro f cdv A outer s H vs Q E hr h
  have nd := sc_row_turned.nd
  have hu := hu_of hr
  have hu64 := hr.units
  have hu65 : (A.deeper (envOfC "row_turned" (defScope s_row_turned) s.heap.objs.size f cdv)).units + 65 < cLine := by have := hr.un; omega
  obtain ⟨⟨t, r⟩, F, e, hA, ⟨ht, hr', hl⟩, k⟩ := h
  have hl4 : r.length ≤ 40000 := Nat.le_trans hl (by decide)
  obtain ⟨v, v2, rfl, h1, h2⟩ := all2 hA
  refine ⟨_, (pss_cons (ps_expr (p_call G_want_turn hr (pa_cons (pv 0) pa_nil)))
      (pss_cons (ps_expr (p_call G_want_row hr (pa_cons (pv 1) pa_nil)))
      (pss_one (ps_ret (pe_join pe_str (pe_lc (own := [("deed", 2)]) (by rfl) nd (pi_str (pv 1)) (blkOk_by (N := ["turn", "row", "deed"]) (sc := defScope s_row_turned) (own := [("deed", 2)]) (by decide +kernel)) (fun _ _ _ _ _ => (pg_name (i := 2) nd rfl (Or.inl rfl))) (fun _ _ _ _ _ => pts_nil) (fun _ _ _ _ _ => (p_call G_way hr (pa_cons (pv 0) (pa_cons (pv 2) pa_nil)))))))))), ?_⟩
  refine q_drop e (e_call t (ea_cons (e_var rfl h1) ea_nil) ht) fun H1 g1 => ?_
  refine q_drop g1.fh (e_call r (ea_cons (e_var rfl h2) ea_nil) hr') fun H2 g2 => ?_
  refine s_ret g2.fh (P := D K (dT (thenT r t))) ?_ fun v F3 H3 g3 hv => k v F3 H3 ((g1.trans g2).trans g3) hv
  refine (e_join (z := S []) (xs := (thenT r t).map fun c => S [c]) e_c ?_ ?_).eq (by rw [join_signs])
  · refine (e_lcM r dC (fun d => dC (way t d)) (i_str (e_var rfl h2)) hl4 fun d hd v F1 e1 hv => ?_).eq ?_
    · exact e_call (t, d) (ea_cons (e_var rfl (dpx e1 _ _ h1)) (ea_cons (e_var rfl hv) ea_nil)) ⟨ht, hr' d hd⟩
    · simp [thenT, List.map_map, Function.comp_def]
  · have h5 : ∀ l : List Nat, ((l.map fun c => S [c]).map (·.length)).sum = l.length := by
      intro l
      induction l with
      | nil => rfl
      | cons a l ih =>
        rw [List.map_cons, List.map_cons, List.sum_cons, ih, List.length_cons]
        show 1 + l.length = _
        omega
    rw [h5]
    show (r.map (way t)).length + ((r.map (way t)).map fun c => S [c]).length * 0 ≤ 16777216
    rw [List.length_map]
    omega
/-- one turn and then the other -/
def sp_then (K : PySem.W.Frag) : Sp := Pr (fun x : Tx × Tx => [D K (dT x.1), D K (dT x.2)]) (fun x => x.1 ∈ TURNS ∧ x.2 ∈ TURNS) (fun x => D K (dT (thenT x.1 x.2)))
theorem sc_then : FnScope ["one", "other"] ["one", "other"] (defScope s_then) := ⟨rfl, rfl, rfl, by decide +kernel, rfl, by decide +kernel, by decide +kernel⟩
set_option maxHeartbeats 2000000 in
theorem bd_then (T : Tt K mg) (G_want_turn : Cal P w K mg base 2 "want_turn" ["thing"] (sp_want_turn K)) (G_row_turned : Cal P w K mg base 4 "row_turned" ["turn", "row"] (sp_row_turned K)) : BodyOk P w K mg base 4 "then" s_then ["one", "other"] (sp_then K) := by
  intro f cdv A outer s H vs Q E hr h
  have nd := sc_then.nd
  have hu := hu_of hr
  have hu64 := hr.units
  have hu65 : (A.deeper (envOfC "then" (defScope s_then) s.heap.objs.size f cdv)).units + 65 < cLine := by have := hr.un; omega
  obtain ⟨⟨t, u⟩, F, e, hA, ⟨ht, hu'⟩, k⟩ := h
  obtain ⟨v, v2, rfl, h1, h2⟩ := all2 hA
  refine ⟨_, (pss_cons (ps_expr (p_call G_want_turn hr (pa_cons (pv 0) pa_nil)))
      (pss_cons (ps_expr (p_call G_want_turn hr (pa_cons (pv 1) pa_nil)))
      (pss_one (ps_ret (p_call G_row_turned hr (pa_cons (pv 1) (pa_cons (pv 0) pa_nil))))))), ?_⟩
  refine q_drop e (e_call t (ea_cons (e_var rfl h1) ea_nil) ht) fun H1 g1 => ?_
  refine q_drop g1.fh (e_call u (ea_cons (e_var rfl h2) ea_nil) hu') fun H2 g2 => ?_
  refine s_ret g2.fh (P := D K (dT (thenT t u))) (e_call (u, t) (ea_cons (e_var rfl h2) (ea_cons (e_var rfl h1) ea_nil)) ⟨hu', turn_sub t ht, by show t.length ≤ 10000; have := (turn_len t ht).1; omega⟩) fun v F3 H3 g3 hv => k v F3 H3 ((g1.trans g2).trans g3) hv
end
end OL
-- OhW3
set_option maxHeartbeats 1000000
/-! The walk, part 3: floors. -/
namespace OL
open PySem PySem.Spec PyProof.Rows L2
open SX (S)
open Evl (Ex)
open OH
abbrev dL (rows : List Tx) : List PyData := rows.map dT
theorem len_S (r : Tx) : (S r).length = r.length := SX.S_len r
theorem signs_tl : ("#~x.abcd" : Str).cps.toList = SIGNS := by decide +kernel
theorem letters_tl : ("abcd" : Str).cps.toList = LETTERS := by decide +kernel
theorem open_tl : (".abcd" : Str).cps.toList = OPEN := by decide +kernel
theorem stand_tl : ((".abcd" : Str) ++ ("~" : Str)).cps.toList = STAND := by decide +kernel
theorem S_tl (r : Tx) : (S r).cps.toList = r := rfl
theorem signs_S (r : Tx) : signs (S r) = r.map dC := rfl
/-- a floor of these rows -/
def RFl (K : PySem.W.Frag) (rows : List Tx) : List (Str × V) → Hp → Prop := fun fs H => ∃ t, fs = [(("texts" : Str), t)] ∧ D K (.tuple (dL rows)) t H
instance {K : PySem.W.Frag} {rows : List Tx} : MnF (RFl K rows) := ⟨fun e ⟨t, h1, h2⟩ => ⟨t, h1, dpx e _ _ h2⟩⟩
abbrev IsFl (K : PySem.W.Frag) (rows : List Tx) : Ds := InsR (cF K) (RFl K rows)
theorem RFl.no {K : PySem.W.Frag} {rows : List Tx} {fs : List (Str × V)} {H : Hp} {m : Str} (hm : (m == "texts") = false) (h : RFl K rows fs H) : fs.lookup m = none := by
  obtain ⟨t, rfl, _⟩ := h
  simp [List.lookup, hm]
def stepsD : PyData := .tuple [dP (-1, 0), dP (0, 1), dP (1, 0), dP (0, -1)]
section
variable {P : Program} {w : World} {K : PySem.W.Frag} {mg : Str → Option Value} {base : Heap}
theorem steps_d (T : Tt K mg) (H : Hp) : D K stepsD (.ref (He.ga K "STEPS")) H := by
  obtain ⟨a, b, c, d, h0, h1, h2, h3, h4⟩ := T.q_STEPS H
  exact Dp.tup h0 (.cons (.tup h1 (.cons (.int _) (.cons (.int _) .nil))) (.cons (.tup h2 (.cons (.int _) (.cons (.int _) .nil))) (.cons (.tup h3 (.cons (.int _) (.cons (.int _) .nil))) (.cons (.tup h4 (.cons (.int _) (.cons (.int _) .nil))) .nil))))
theorem steps_at : ∀ d ∈ DEEDS, [dP (-1, 0), dP (0, 1), dP (1, 0), dP (0, -1)][ix d]? = some (dP (stepD d)) := by
  intro d hd
  simp only [DEEDS, List.mem_cons, List.not_mem_nil, or_false] at hd
  rcases hd with rfl | rfl | rfl | rfl <;> rfl
/-- is_text(a row of signs) -/
def sp_is_text (K : PySem.W.Frag) : Sp := Pr (fun r : Tx => [D K (dT r)]) (fun r => 1 ≤ r.length ∧ r.length ≤ 6 ∧ ∀ c ∈ r, c ∈ SIGNS) (fun _ => D K (.bool true))
theorem sc_is_text : FnScope ["thing", "sign"] ["thing"] (defScope s_is_text) := ⟨rfl, rfl, rfl, by decide +kernel, rfl, by decide +kernel, by decide +kernel⟩
set_option maxHeartbeats 2000000 in
theorem bd_is_text (T : Tt K mg)  : BodyOk P w K mg base 0 "is_text" s_is_text ["thing", "sign"] (sp_is_text K) := by
  intro f cdv A outer s H vs Q E hr h
  have nd := sc_is_text.nd
  have hu := hu_of hr
  have hu64 := hr.units
  have hu65 : (A.deeper (envOfC "is_text" (defScope s_is_text) s.heap.objs.size f cdv)).units + 65 < cLine := by have := hr.un; omega
  obtain ⟨r, F, e, hA, ⟨h1, h6, hs⟩, k⟩ := h
  obtain ⟨v, rfl, hv⟩ := all1 hA
  refine ⟨_, (pss_cons (ps_if (PW.pt (pw_or (pt_not (pt_val (pe_callB (id := "isinstance") call_isi (by rfl) T.f_isinstance boot_isinstance (pa_cons (pv 0) (pa_cons (pe_bltn (v := .ty "str") (by rfl) T.f_str (by decide +kernel) rfl) pa_nil))))) (pw_or1 (pt_not (pt_chain op_le op_le pe_int (pe_callB (id := "len") call_len_str (by rfl) T.f_len boot_len (pa_cons (pv 0) pa_nil)) (p_gi T.i_MOST)))))) (pss_one (ps_ret pe_bl)) pss_nil)
      (pss_one (ps_ret (pe_callB (id := "all") (show CallR _ (.builtin "all") (rAll K) from cr_all rfl) (by rfl) T.f_all (by decide +kernel) (pa_cons (pe_lc (own := [("sign", 1)]) (by rfl) nd (pi_str (pv 0)) (blkOk_by (N := ["thing", "sign"]) (sc := defScope s_is_text) (own := [("sign", 1)]) (by decide +kernel)) (fun _ _ _ _ _ => (pg_name (i := 1) nd rfl (Or.inl rfl))) (fun _ _ _ _ _ => pts_nil) (fun _ _ _ _ _ => (pe_cmpR op_in_sign (pv 1) (p_gs T.s_SIGNS) (by rfl)))) pa_nil))))), ?_⟩
  refine q_when e (b := false) (t_eq (t_or (t_not (t_B (e_isiS (b := true) (e_var rfl hv)))) fun _ => t_not (t_test (e_chain (i := 1) (j := r.length) (k := 6) (p1 := fun i j => decide (i ≤ j)) (p2 := fun i j => decide (i ≤ j)) e_c ((e_lenS (e_var rfl hv) ?_).eq ?_) e_c))) ?_) (fun z => Bool.noConfusion z) fun _ H1 g1 => ?_
  · rw [len_S]; omega
  · rw [len_S]
  · rw [decide_eq_true (show (1 : Int) ≤ r.length by omega), decide_eq_true (show (r.length : Int) ≤ 6 by omega)]; rfl
  refine s_ret g1.fh (P := D K (.bool true)) (EP.eq (e_all (bs := r.map fun c => decide (c ∈ SIGNS)) (EP.eq (e_lcM r dC (fun c => .bool (decide (c ∈ SIGNS))) (i_str (e_var rfl hv)) (by omega) fun c hc v F1 e1 h2 => ?_) ?_)) ?_) fun v F3 H3 g3 hv => k v F3 H3 (g1.trans g3) hv
  · exact (e_inSign (e_var rfl h2) e_c).eq (by rw [signs_tl])
  · rw [List.map_map]; rfl
  · congr 1
    rw [List.all_map, List.all_eq_true]
    intro c hc
    exact decide_eq_true (hs c hc)
/-- want_rows(the rows of a floor) -/
def sp_want_rows (K : PySem.W.Frag) : Sp := Pr (fun rows : List Tx => [D K (.list (dL rows))]) (fun rows => Rows rows) (fun _ => D K .none)
theorem sc_want_rows : FnScope ["thing", "at", "text"] ["thing"] (defScope s_want_rows) := ⟨rfl, rfl, rfl, by decide +kernel, rfl, by decide +kernel, by decide +kernel⟩
set_option maxHeartbeats 2000000 in
theorem bd_want_rows (T : Tt K mg) (G_is_text : Cal P w K mg base 1 "is_text" ["thing"] (sp_is_text K)) : BodyOk P w K mg base 1 "want_rows" s_want_rows ["thing", "at", "text"] (sp_want_rows K) := by
  intro f cdv A outer s H vs Q E hr h
  have nd := sc_want_rows.nd
  have hu := hu_of hr
  have hu64 := hr.units
  have hu65 : (A.deeper (envOfC "want_rows" (defScope s_want_rows) s.heap.objs.size f cdv)).units + 65 < cLine := by have := hr.un; omega
  obtain ⟨rows, F, e, hA, R, k⟩ := h
  obtain ⟨v, rfl, hv⟩ := all1 hA
  have r1 := R.h1
  have r6 := R.h6
  refine ⟨_, (pss_cons (ps_if (PW.pt (pw_or (pt_not (pt_val (pe_callB (id := "isinstance") call_isi (by rfl) T.f_isinstance boot_isinstance (pa_cons (pv 0) (pa_cons (pe_bltn (v := .ty "list") (by rfl) T.f_list (by decide +kernel) rfl) pa_nil))))) (pw_or1 (pt_not (pt_chain op_le op_le pe_int (pe_callB (id := "len") call_len_seq (by rfl) T.f_len boot_len (pa_cons (pv 0) pa_nil)) (p_gi T.i_MOST)))))) (pss_one ps_never) pss_nil)
      (pss_one (ps_for PassesOwn.never rfl (pi_enum (by rfl) T.f_enumerate (pa_cons (pv 0) pa_nil)) (pg_tup (by rfl) (pgs_cons (pg_name (i := 1) nd rfl (Or.inl rfl)) (pgs_cons (pg_name (i := 2) nd rfl (Or.inl rfl)) pgs_nil))) (pss_one (ps_if (PW.pt (pw_or (pt_not (pt_val (p_call G_is_text hr (pa_cons (pv 2) pa_nil)))) (pw_or1 (pt_cmpR op_ne (pe_callB (id := "len") call_len_str (by rfl) T.f_len boot_len (pa_cons (pv 2) pa_nil)) (pe_callB (id := "len") call_len_str (by rfl) T.f_len boot_len (pa_cons (pe_ix ix_list (pv 0) pe_int (fun _ _ => rfl)) pa_nil)) (nomark _))))) (pss_one ps_never) pss_nil))))), ?_⟩
  refine q_fine e (t_or (t_not (t_B (e_isiL (b := true) (e_var rfl hv)))) fun _ => t_not (t_test (e_chain (i := 1) (j := rows.length) (k := 6) (p1 := fun i j => decide (i ≤ j)) (p2 := fun i j => decide (i ≤ j)) e_c ((e_lenL (e_var rfl hv)).eq (by rw [List.length_map])) e_c))) (fun H1 g1 => ?_) ?hb
  case hb =>
    rw [decide_eq_true (show (1 : Int) ≤ rows.length by omega), decide_eq_true (show (rows.length : Int) ≤ 6 by omega)]; rfl
  refine s_for g1.fh (i_enum (ea_cons (e_var rfl hv) ea_nil)) fun F2 H2 g2 => ⟨fun _ σ' F' H' => Gr F H F' H' ∧ Ex F2 F' ∧ ∃ a b, σ' = [some v, a, b], ⟨g1.trans g2, Ex.refl _, none, none, rfl⟩, fun i σ' F' H' q => ⟨q.2.1, q.1.fh⟩, ?_, ?_⟩
  · rintro i d x σ' F' H' F3 H3 hd ⟨g', e', a, b, rfl⟩ g3 hx
    obtain ⟨y, hy, rfl⟩ := enum_get hd
    refine g_unp g3.fh hx fun v1 v2 q1 q2 => ?_
    obtain ⟨r, hr, rfl⟩ : ∃ r ∈ rows, y = dT r := by
      have hm := List.mem_of_getElem? hy
      obtain ⟨r, hr, e⟩ := List.mem_map.mp hm
      exact ⟨r, hr, e.symm⟩
    obtain ⟨hl, hsg⟩ := R.all r hr
    have hv3 := dpx (g'.ff.trans g3.ff) _ _ hv
    have hw1 := R.w1
    have hw6 := R.w6
    have h0 : rows[0]? = some (rows.getD 0 []) := by
      rw [List.getD_eq_getElem?_getD, List.getElem?_eq_getElem (show 0 < rows.length by omega)]; rfl
    refine s_fine g3.fh (t_or (t_not (t_B (e_call r (ea_cons (e_var rfl q2) ea_nil) ⟨by omega, by omega, hsg⟩))) fun _ => t_test (e_neI (i := r.length) (j := wid rows) ((e_lenS (e_var rfl q2) ?_).eq ?_) ((e_lenS (z := S (rows.getD 0 [])) (e_ixL (e_var rfl hv3) e_c (atI_nat (j := 0) ?_)) ?_).eq ?_))) (fun H4 g4 => ⟨F3, (g'.trans g3).trans g4, e'.trans g3.ff, _, _, rfl⟩) ?_
    · rw [len_S]; omega
    · rw [len_S]
    · rw [List.getElem?_map, h0]; rfl
    · rw [len_S]; show wid rows ≤ 100000; omega
    · rw [len_S]; rfl
    · rw [hl, decide_eq_true rfl]; rfl
  · rintro σ' F' H' ⟨g', e', a, b, rfl⟩
    exact k _ F' H' g' Dp.non
def sp_next_to (K : PySem.W.Frag) : Sp := Pr (fun x : Pl × Nat => [D K (dP x.1), D K (dC x.2)]) (fun x => x.2 ∈ DEEDS) (fun x => D K (dP (nxt x.1 x.2)))
theorem sc_next_to : FnScope ["place", "way", "down", "along"] ["place", "way"] (defScope s_next_to) := ⟨rfl, rfl, rfl, by decide +kernel, rfl, by decide +kernel, by decide +kernel⟩
set_option maxHeartbeats 2000000 in
theorem bd_next_to (T : Tt K mg)  : BodyOk P w K mg base 0 "next_to" s_next_to ["place", "way", "down", "along"] (sp_next_to K) := by
  intro f cdv A outer s H vs Q E hr h
  have nd := sc_next_to.nd
  have hu := hu_of hr
  have hu64 := hr.units
  have hu65 : (A.deeper (envOfC "next_to" (defScope s_next_to) s.heap.objs.size f cdv)).units + 65 < cLine := by have := hr.un; omega
  obtain ⟨⟨p, d⟩, F, e, hA, hd, k⟩ := h
  obtain ⟨v, v2, rfl, h1, h2⟩ := all2 hA
  obtain ⟨rest, hr⟩ := deeds_idx d hd
  refine ⟨_, (pss_cons (ps_asg (pe_ix ix_tup (p_gr T.t_STEPS) (pe_bm PySem.F.plainAttrs_str PySem.F.slot_str_index PySem.F.type_str_index mt_sindex (p_gs T.s_DEEDS) (pa_cons (pv 1) pa_nil)) (fun _ _ => rfl)) (pg_tup (by rfl) (pgs_cons (pg_name (i := 2) nd rfl (Or.inl rfl)) (pgs_cons (pg_name (i := 3) nd rfl (Or.inl rfl)) pgs_nil))))
      (pss_one (ps_ret (pe_tup (pa_cons (pe_op op_add (pe_ix ix_tup (pv 0) pe_int (fun _ _ => rfl)) (pv 2)) (pa_cons (pe_op op_add (pe_ix ix_tup (pv 0) pe_int (fun _ _ => rfl)) (pv 3)) pa_nil)))))), ?_⟩
  refine q_unp (d1 := .int (stepD d).1) (d2 := .int (stepD d).2) e (e_ixT (e_k (steps_d T)) (e_sidx e_c (e_var rfl h2) hr) (atI_nat (steps_at d hd))) fun v3 v4 F2 H2 g2 h3 h4 => ?_
  have m1 := dpx g2.ff _ _ h1
  exact s_ret g2.fh (P := D K (dP (nxt p d))) (e_tup (ds := [.int (p.1 + (stepD d).1), .int (p.2 + (stepD d).2)]) (ea_cons (e_I0 (e_ixT (e_var rfl m1) e_c (atI_nat (j := 0) rfl)) (e_var rfl h3)) (ea_cons (e_I0 (e_ixT (e_var rfl m1) e_c (atI_nat (j := 1) rfl)) (e_var rfl h4)) ea_nil))) fun v F3 H3 g3 hv => k v F3 H3 (g2.trans g3) hv
/-! ### the class -/
theorem e_texts {σ : L2.St} {F : Hp} {ta : TE} {rows : List Tx} (T : Tt K mg) (h : EP ta σ F (IsFl K rows)) : EP (tFld K ta "texts") σ F (D K (.tuple (dL rows))) :=
  e_fldR h T.k_Floor T.n_texts fun fs F1 _ ⟨t, h1, h2⟩ => ⟨t, by rw [h1]; rfl, h2⟩
def sp_Floor_size (K : PySem.W.Frag) : Sp := Pr (fun rows : List Tx => [IsFl K rows]) (fun rows => Rows rows) (fun rows => D K (.tuple [.int rows.length, .int (wid rows)]))
theorem row0 {rows : List Tx} (R : Rows rows) : (dL rows)[0]? = some (dT (rows.getD 0 [])) := by
  have r1 := R.h1
  rw [List.getElem?_map, List.getD_eq_getElem?_getD, List.getElem?_eq_getElem (show 0 < rows.length by omega)]; rfl
theorem sc_Floor_size : FnScope ["self"] ["self"] (defScope s_Floor_size) := ⟨rfl, rfl, rfl, by decide +kernel, rfl, by decide +kernel, by decide +kernel⟩
set_option maxHeartbeats 2000000 in
theorem bd_Floor_size (T : Tt K mg)  : BodyOk P w K mg base 0 "Floor.size" s_Floor_size ["self"] (sp_Floor_size K) := by
  intro f cdv A outer s H vs Q E hr h
  have nd := sc_Floor_size.nd
  have hu := hu_of hr
  have hu64 := hr.units
  have hu65 : (A.deeper (envOfC "Floor.size" (defScope s_Floor_size) s.heap.objs.size f cdv)).units + 65 < cLine := by have := hr.un; omega
  obtain ⟨rows, F, e, hA, R, k⟩ := h
  obtain ⟨v, rfl, hv⟩ := all1 hA
  have r6 := R.w6
  refine ⟨_, (pss_one (ps_ret (pe_tup (pa_cons (pe_callB (id := "len") call_len_seq (by rfl) T.f_len boot_len (pa_cons (pe_fld (pv 0) rfl) pa_nil)) (pa_cons (pe_callB (id := "len") call_len_str (by rfl) T.f_len boot_len (pa_cons (pe_ix ix_tup (pe_fld (pv 0) rfl) pe_int (fun _ _ => rfl)) pa_nil)) pa_nil))))), ?_⟩
  refine s_ret e (P := D K (.tuple [.int rows.length, .int (wid rows)])) (e_tup (ds := [.int rows.length, .int (wid rows)]) (ea_cons ((e_lenT (e_texts T (e_var rfl hv))).eq (by rw [List.length_map])) (ea_cons ((e_lenS (z := S (rows.getD 0 [])) (e_ixT (e_texts T (e_var rfl hv)) e_c (atI_nat (j := 0) (row0 R))) ?_).eq ?_) ea_nil))) fun v F3 H3 g3 hv => k v F3 H3 g3 hv
  · rw [len_S]; show wid rows ≤ 100000; omega
  · rw [len_S]; rfl
def sp_Floor_has (K : PySem.W.Frag) : Sp := Pr (fun x : List Tx × Pl => [IsFl K x.1, D K (dP x.2)]) (fun x => Rows x.1) (fun x => D K (.bool (inF x.1 x.2)))
theorem sc_Floor_has : FnScope ["self", "thing", "rows", "columns"] ["self", "thing"] (defScope s_Floor_has) := ⟨rfl, rfl, rfl, by decide +kernel, rfl, by decide +kernel, by decide +kernel⟩
set_option maxHeartbeats 2000000 in
theorem bd_Floor_has (T : Tt K mg) (M_size : Met P w K mg base 1 (cF K) "size" ["self"] (sp_Floor_size K)) (G_is_place : Cal P w K mg base 3 "is_place" ["thing", "rows", "columns"] (sp_is_place K)) : BodyOk P w K mg base 3 "Floor.has" s_Floor_has ["self", "thing", "rows", "columns"] (sp_Floor_has K) := by
  intro f cdv A outer s H vs Q E hr h
  have nd := sc_Floor_has.nd
  have hu := hu_of hr
  have hu64 := hr.units
  have hu65 : (A.deeper (envOfC "Floor.has" (defScope s_Floor_has) s.heap.objs.size f cdv)).units + 65 < cLine := by have := hr.un; omega
  obtain ⟨⟨rows, p⟩, F, e, hA, R, k⟩ := h
  obtain ⟨v, v2, rfl, hv, h2⟩ := all2 hA
  refine ⟨_, (pss_cons (ps_asg (p_meth0 M_size hr (pv 0)) (pg_tup (by rfl) (pgs_cons (pg_name (i := 2) nd rfl (Or.inl rfl)) (pgs_cons (pg_name (i := 3) nd rfl (Or.inl rfl)) pgs_nil))))
      (pss_one (ps_ret (p_call G_is_place hr (pa_cons (pv 1) (pa_cons (pv 2) (pa_cons (pv 3) pa_nil))))))), ?_⟩
  refine q_unp (d1 := .int rows.length) (d2 := .int (wid rows)) e (e_methR rows (e_var rfl hv) ea_nil rfl (fun fs F1 h => h.no (by decide)) R) fun v3 v4 F2 H2 g2 h3 h4 => ?_
  exact s_ret g2.fh (P := D K (.bool (inF rows p))) (e_call (p, rows.length, wid rows) (ea_cons (e_var rfl (dpx g2.ff _ _ h2)) (ea_cons (e_var rfl h3) (ea_cons (e_var rfl h4) ea_nil))) trivial) fun v F3 H3 g3 hv => k v F3 H3 (g2.trans g3) hv
def sp_Floor_seen (K : PySem.W.Frag) : Sp := Pr (fun x : List Tx × Pl => [IsFl K x.1, D K (dP x.2)]) (fun x => Rows x.1) (fun x => D K (dC (sgn x.1 x.2)))
theorem sgn_at {rows : List Tx} (R : Rows rows) {p : Pl} (h : inF rows p = true) : ∃ r ∈ rows, (dL rows)[p.1.toNat]? = some (dT r) ∧ r[p.2.toNat]? = some (sgn rows p) := by
  obtain ⟨⟨a1, a2⟩, b1, b2⟩ := inF_iff.mp h
  have h1 : p.1.toNat < rows.length := by omega
  have e1 : rows[p.1.toNat]? = some rows[p.1.toNat] := List.getElem?_eq_getElem h1
  have hr := (R.all rows[p.1.toNat] (List.getElem_mem h1)).1
  have h2 : p.2.toNat < (rows[p.1.toNat]).length := by omega
  refine ⟨rows[p.1.toNat], List.getElem_mem h1, by rw [List.getElem?_map, e1]; rfl, ?_⟩
  unfold sgn
  rw [if_pos h, List.getD_eq_getElem?_getD (l := rows), e1, List.getD_eq_getElem?_getD]
  show (rows[p.1.toNat])[p.2.toNat]? = some (((rows[p.1.toNat])[p.2.toNat]?).getD 35)
  rw [List.getElem?_eq_getElem h2]
  rfl
theorem sc_Floor_seen : FnScope ["self", "place"] ["self", "place"] (defScope s_Floor_seen) := ⟨rfl, rfl, rfl, by decide +kernel, rfl, by decide +kernel, by decide +kernel⟩
set_option maxHeartbeats 2000000 in
theorem bd_Floor_seen (T : Tt K mg) (M_has : Met P w K mg base 4 (cF K) "has" ["self", "thing"] (sp_Floor_has K)) : BodyOk P w K mg base 4 "Floor.seen" s_Floor_seen ["self", "place"] (sp_Floor_seen K) := by
  intro f cdv A outer s H vs Q E hr h
  have nd := sc_Floor_seen.nd
  have hu := hu_of hr
  have hu64 := hr.units
  have hu65 : (A.deeper (envOfC "Floor.seen" (defScope s_Floor_seen) s.heap.objs.size f cdv)).units + 65 < cLine := by have := hr.un; omega
  obtain ⟨⟨rows, p⟩, F, e, hA, R, k⟩ := h
  obtain ⟨v, v2, rfl, hv, h2⟩ := all2 hA
  refine ⟨_, (pss_cons (ps_if (pt_not (pt_val (p_meth M_has hr (pv 0) (pa_cons (pv 1) pa_nil)))) (pss_one (ps_ret (p_gs T.s_WALL))) pss_nil)
      (pss_one (ps_ret (pe_ix ix_str (pe_ix ix_tup (pe_fld (pv 0) rfl) (pe_ix ix_tup (pv 1) pe_int (fun _ _ => rfl)) (fun _ _ => rfl)) (pe_ix ix_tup (pv 1) pe_int (fun _ _ => rfl)) (fun _ _ => rfl))))), ?_⟩
  refine q_when e (t_not (t_B (e_methR (rows, p) (e_var rfl hv) (ea_cons (e_var rfl h2) ea_nil) rfl (fun fs F1 h => h.no (by decide)) R))) (fun hb H1 g1 => ?_) fun hb H1 g1 => ?_
  · have hb' : inF rows p = false := by simpa using hb
    refine s_ret g1.fh (P := D K (dC (sgn rows p))) (e_c (by unfold sgn; rw [hb']; rfl)) fun v F3 H3 g3 hv => k v F3 H3 (g1.trans g3) hv
  · have hb' : inF rows p = true := by simpa using hb
    obtain ⟨⟨a1, a2⟩, b1, b2⟩ := inF_iff.mp hb'
    obtain ⟨r, hr, q1, q2⟩ := sgn_at R hb'
    refine s_ret g1.fh (P := D K (dC (sgn rows p))) (e_ixS (z := S r) (e_ixT (i := p.1) (e_texts T (e_var rfl hv)) (e_ixT (d := .int p.1) (e_var rfl h2) e_c (atI_nat (j := 0) rfl)) (atI_at (by omega) q1)) (e_ixT (d := .int p.2) (e_var rfl h2) e_c (atI_nat (j := 1) rfl)) ?_ (atI_at (j := p.2.toNat) (by omega) q2)) fun v F3 H3 g3 hv => k v F3 H3 (g1.trans g3) hv
    rw [len_S]
    have h3 := (R.all r hr).1
    have h4 := R.w6
    omega
end
end OL
-- OhDict
set_option maxHeartbeats 1000000
/-! Dicts and sets, by description. -/
namespace OL
open PySem PySem.Spec PyProof.Rows L2
open SX (S)
open Evl (Ex)
open OH
/-- a dict whose pairs are told by R -/
def DkR (R : List (Key × V) → Hp → Prop) : Ds := fun v H => ∃ a kvs, v = .ref a ∧ H a = some (.dK kvs) ∧ R kvs H
class MnK (R : List (Key × V) → Hp → Prop) : Prop where
  mn : ∀ {fs H H'}, Ex H H' → R fs H → R fs H'
instance {R : List (Key × V) → Hp → Prop} [m : MnK R] : Mn (DkR R) := ⟨fun e ⟨a, fs, h1, h2, h3⟩ => ⟨a, fs, h1, e _ _ h2, m.mn e h3⟩⟩
/-- the turns of the letters -/
abbrev Bk := List (Nat × Tx)
def bkV (b : Bk) : List (Key × V) := b.map fun x => (Sum.inr ⟨#[x.1]⟩, V.str (S x.2))
def RBk (b : Bk) : List (Key × V) → Hp → Prop := fun kvs _ => kvs = bkV b
instance {b : Bk} : MnK (RBk b) := ⟨fun _ h => h⟩
abbrev IsBk (b : Bk) : Ds := DkR (RBk b)
theorem val_bk (c : Nat) : ∀ b : Bk, valV (bkV b) (.inr ⟨#[c]⟩) = (b.lookup c).map fun t => V.str (S t)
  | [] => rfl
  | (d, t) :: b => by
    have ih := val_bk c b
    unfold bkV at ih ⊢
    rw [List.map_cons, List.lookup_cons]
    by_cases h : c = d
    · subst h
      rw [valV_pos rfl, beq_self_eq_true]
      rfl
    · rw [valV_neg (fun e => h (by have := congrArg (fun z : Key => match z with | .inr x => x.cps.toList | _ => []) e; simpa using this.symm)), ih]
      have h2 : (c == d) = false := by simp [h]
      rw [h2]
section
variable {K : PySem.W.Frag} {σ : L2.St} {F F' H H' F0 : Hp} {ta tb td tx ty tv : TE} {t u tt : TT} {P P1 P2 : Ds} {R : List (Key × V) → Hp → Prop}
theorem e_lenD [MnK R] {n : Nat} (ha : EP ta σ F (DkR R)) (hn : ∀ kvs F1, Ex F F1 → R kvs F1 → kvs.length = n) : EP (tCB (fun xs H Q => ∃ a kvs, xs = [V.ref a] ∧ H a = some (.dK kvs) ∧ Q (.int kvs.length) H) (tCons ta tNil)) σ F (D K (.int n)) := fun F1 H1 e b Q q =>
  ha F1 H1 e b _ fun v F2 H2 g hv => by
    obtain ⟨a, kvs, rfl, h1, h2⟩ := hv
    exact ⟨a, kvs, rfl, g.fh _ _ h1, q _ F2 H2 g (by rw [hn kvs F2 (e.trans g.ff) h2]; exact Dp.int _)⟩
theorem e_isiD {n : String} {b : Bool} (ha : EP ta σ F (DkR R)) (h : kitB "dict" n = some b := by decide +kernel) : EP (tCB (rIsi K) (tCons ta (tCons (tC (.ty n)) tNil))) σ F (D K (.bool b)) := fun F1 H1 e c Q q =>
  ha F1 H1 e c _ fun v F2 H2 g hv => by
    obtain ⟨a, kvs, rfl, h1, h2⟩ := hv
    exact ⟨.ref a, .ty n, _, .type n, b, rfl, .ty n, .base (.dK (g.fh _ _ h1)), kit_ty h, q _ F2 H2 g (Dp.bl b)⟩
theorem e_dget [m : MnK R] {z : Str} (ha : EP td σ F (DkR R)) (hb : EP ty σ F (D K (.str z))) (hv : ∀ kvs F1, Ex F F1 → R kvs F1 → ∃ y, valV kvs (.inr z) = some y ∧ P y F1) : EP (tDGet td ty) σ F P := fun F1 H1 e b Q q =>
  ha F1 H1 e b _ fun v F2 H2 g2 h2 => hb F2 H2 (e.trans g2.ff) g2.fh _ fun y F3 H3 g3 h3 => by
    obtain ⟨a, kvs, rfl, h4, h5⟩ := h2
    obtain ⟨x, hx, hp⟩ := hv kvs F3 ((e.trans g2.ff).trans g3.ff) (m.mn g3.ff h5)
    refine ⟨a, x, rfl, ?_, q x F3 H3 (g2.trans g3) hp⟩
    rw [dStr h3, ← hx]
    exact DGet.k (k := .inr z) (g3.fh _ _ (g3.ff _ _ h4))
theorem e_din [m : MnK R] {z : Str} {b : Bool} (hb : EP ty σ F (D K (.str z))) (ha : EP td σ F (DkR R)) (hv : ∀ kvs F1, Ex F F1 → R kvs F1 → (valV kvs (.inr z)).isSome = b) : EP (tDIn ty td) σ F (D K (.bool b)) := fun F1 H1 e c Q q =>
  hb F1 H1 e c _ fun y F2 H2 g2 h2 => ha F2 H2 (e.trans g2.ff) g2.fh _ fun v F3 H3 g3 h3 => by
    obtain ⟨a, kvs, rfl, h4, h5⟩ := h3
    refine ⟨a, valV kvs (.inr z), rfl, ?_, q _ F3 H3 (g2.trans g3) ?_⟩
    · rw [dStr h2]; exact DGet.k (k := .inr z) (g3.fh _ _ h4)
    · rw [hv kvs F3 ((e.trans g2.ff).trans g3.ff) h5]; exact Dp.bl _
theorem e_dget2 [m : MnK R] {z : Str} {d : PyData} (ha : EP td σ F (DkR R)) (hb : EP ty σ F (D K (.str z))) (hc : EP tx σ F (D K d)) {e' : PyData} (hv : ∀ kvs F1 y, Ex F F1 → R kvs F1 → D K d y F1 → D K e' ((valV kvs (.inr z)).getD y) F1) : EP (tDGet2 td ty tx) σ F (D K e') := fun F1 H1 e b Q q =>
  ha F1 H1 e b _ fun v F2 H2 g2 h2 => by
    obtain ⟨a, kvs, rfl, h4, h5⟩ := h2
    refine ⟨a, rfl, .inl ⟨kvs, .inl (g2.fh _ _ h4)⟩, hb F2 H2 (e.trans g2.ff) g2.fh _ fun y F3 H3 g3 h3 => hc F3 H3 ((e.trans g2.ff).trans g3.ff) g3.fh _ fun x F5 H5 g5 hx => ⟨valV kvs (.inr z), ?_, q _ F5 H5 ((g2.trans g3).trans g5) ?_⟩⟩
    · rw [dStr h3]; exact DGet.k (k := .inr z) (g5.fh _ _ (g5.ff _ _ (g3.ff _ _ h4)))
    · exact hv kvs F5 x (((e.trans g2.ff).trans g3.ff).trans g5.ff) (m.mn g5.ff (m.mn g3.ff h5)) hx
/-- {c: turn for c in ..}, the keys signs that differ -/
theorem e_dcN {wi : TI} {tk tv : TE} {vs : List Nat} {j : Nat} (xs : List Nat) (f : Nat → Tx) (h : EI K wi σ F (xs.map dC)) (hz : xs.length ≤ 1000) (hnd : xs.Nodup)
    (hk : ∀ x ∈ xs, ∀ v F1, Ex F F1 → D K (dC x) v F1 → EP tk ((wipe σ vs).set j (some v)) F1 (D K (dC x))) (he : ∀ x ∈ xs, ∀ v F1, Ex F F1 → D K (dC x) v F1 → EP tv ((wipe σ vs).set j (some v)) F1 (D K (dT (f x))))
    (hw : ∀ v, wipe ((wipe σ vs).set j (some v)) vs = wipe σ vs := by intro _; rfl) : EP (tDc wi (gName j) tYes tk tv vs) σ F (IsBk (xs.map fun c => (c, f c))) := fun F1 H1 e b Q k =>
  h F1 H1 e b _ fun J F2 H2 g2 w => by
    intro Dl hD
    have hF2 : F2 Dl = none := ex_none g2.fh hD
    refine ⟨fun i m H' => m = xs.length - i ∧ i ≤ xs.length ∧ ∃ F', Gr F2 H2 F' H' ∧ H' Dl = some (.dK (bkV ((xs.take i).map fun c => (c, f c)))) ∧ F' Dl = none, ⟨xs.length, by simp, Nat.zero_le _, F2, Gr.own g2.fh hD, upd_same, hF2⟩, ?_⟩
    rintro i m H' ⟨rfl, hi, F', gg, hl, hn⟩
    by_cases hlt : i < xs.length
    · refine .inr ⟨w.goes i F' H' gg.ff gg.fh (by simpa using hlt), fun H4 => ∃ F', Gr F2 H2 F' H4 ∧ H4 Dl = some (.dK (bkV ((xs.take (i + 1)).map fun c => (c, f c)))) ∧ F' Dl = none, fun H4 p' => ⟨xs.length - (i + 1), by omega, rfl, hlt, p'⟩, fun x H3 y => ?_⟩
      have hx : xs[i]? = some xs[i] := List.getElem?_eq_getElem hlt
      obtain ⟨F3, g3, hdx⟩ := w.yields i F' H' x H3 (dC xs[i]) gg.ff gg.fh (by simp [hx]) y
      have et : xs.take (i + 1) = xs.take i ++ [xs[i]] := by rw [List.take_add_one, hx]; rfl
      have e3 := (e.trans g2.ff).trans (gg.ff.trans g3.ff)
      refine ⟨hw x, ?_⟩
      unfold tYes
      refine iteT ((hk xs[i] (List.getElem_mem hlt) x F3 e3 hdx).go g3.fh fun y F4 H4 g4 hy => ((he xs[i] (List.getElem_mem hlt) x F3 e3 hdx).mono g4.ff).go g4.fh fun z F5 H5 g5 hz => ?_)
      have hl5 := g5.hh _ _ (g4.hh _ _ (g3.hh _ _ hl))
      have hn5 := g5.nw _ _ (g4.hh _ _ (g3.hh _ _ hl)) (g4.nw _ _ (g3.hh _ _ hl) (g3.nw _ _ hl hn))
      refine ⟨_, .inr ⟨#[xs[i]]⟩, dStr hy, hl5, ?_, F5, (((gg.trans g3).trans g4).trans g5).mut hD hn5, ?_, hn5⟩
      · unfold bkV
        rw [List.length_map, List.length_map, List.length_take]
        exact Nat.lt_of_lt_of_le (show min i xs.length < 100000 by omega) (by decide)
      · rw [upd_same, dStr hz, putK_new _ ?_]
        · rw [et]; unfold bkV; rw [List.map_append, List.map_append]; rfl
        · rw [val_bk]
          have h9 : ((xs.take i).map fun c => (c, f c)).lookup xs[i] = none := by
            rw [List.lookup_eq_none_iff]
            intro p hp
            obtain ⟨c, hc, rfl⟩ := List.mem_map.mp hp
            have h8 : xs[i] ≠ c := by
              intro e9
              obtain ⟨k', hk', e8⟩ := List.getElem_of_mem hc
              rw [List.length_take] at hk'
              rw [List.getElem_take] at e8
              have := (List.getElem_inj hnd).mp (e9.trans e8.symm)
              omega
            simpa using h8
          rw [h9]; rfl
    · have e3 : i = xs.length := by omega
      subst e3
      refine .inl ⟨by have := w.stops F' H' gg.ff gg.fh; simpa using this, ?_⟩
      rw [List.take_length] at hl
      exact k _ _ _ (g2.trans (gg.fix hD hl)) ⟨Dl, _, rfl, upd_same, rfl⟩
/-! ### sets of places -/
/-- a set of places, at least one mention of each -/
def places_ks (ps : List (Addr × Pl)) : List (Addr × List Int) := ps.map fun x => (x.1, [x.2.1, x.2.2])
theorem dPs : ∀ {vs : List V} {ps : List Pl} {H : Hp}, DpAll K H vs (ps.map dP) → ∃ as : List (Addr × Pl), as.map (·.2) = ps ∧ vs = as.map (fun x => V.ref x.1) ∧ ∀ x ∈ as, SqT K H x.1 [.int x.2.1, .int x.2.2]
  | _, [], _, .nil => ⟨[], rfl, rfl, fun _ h => by cases h⟩
  | _, p :: ps, H, .cons h1 h2 => by
    obtain ⟨as, e1, e2, e3⟩ := dPs h2
    obtain ⟨a, xs, rfl, h3, h4⟩ := dTup h1
    refine ⟨(a, p) :: as, by simp [e1], by simp [e2], fun x hx => ?_⟩
    rcases List.mem_cons.mp hx with rfl | hx
    · cases h4 with
      | cons q1 r =>
        cases r with
        | cons q2 r =>
          cases r
          rw [dInt q1, dInt q2] at h3
          exact h3
    · exact e3 x hx
theorem dPs_of : ∀ {as : List (Addr × Pl)} {H : Hp}, (∀ x ∈ as, SqT K H x.1 [.int x.2.1, .int x.2.2]) → DpAll K H (as.map fun x => V.ref x.1) (as.map fun x => dP x.2)
  | [], _, _ => .nil
  | a :: as, _, h => .cons (.tup (h a (by simp)) (.cons (.int _) (.cons (.int _) .nil))) (dPs_of fun x hx => h x (List.mem_cons_of_mem _ hx))
end
section
variable {X : Cx}
/-- len of a set of tuples -/
def rLenST (P : Program) (w : World) : List V → Hp → VK → Prop := fun xs H Q => ∃ a L, xs = [V.ref a] ∧ H a = some (SetTO P w a L) ∧ ((L.map (·.2)).Nodup → Q (.int L.length) H)
theorem cr_lenST : CallR X (.builtin "len") (rLenST X.prog X.w) := by
  intro pins s σ H vs us Q I r h
  obtain ⟨a, L, rfl, ha, q⟩ := h
  obtain ⟨es, ep, t, ⟨o, ho, hex, hd⟩, h2, h3, h4, h5, h6, h7, h8⟩ := (I.hok a _ ha).1.ex
  rw [Vals.ref1 r]
  have hs : es.size = L.length := by
    have := congrArg List.length h2
    unfold rowsOf at this
    rw [Array.length_toList, List.length_map] at this
    exact this
  have hf : t.fits es.size = true := by
    have h1 := h3.sz
    rw [List.length_map] at h1
    unfold SetTable.fits SetTable.fill
    rw [h3.dm, Bool.and_eq_true, beq_iff_eq, decide_eq_true_eq]
    show t.place.size = es.size ∧ t.place.size + 0 ≤ t.mask
    omega
  refine call_len_set ho hex hd hf (by omega) ⟨.int L.length, H, I.tok _, ⟨_, by rw [hs]⟩, q h4⟩
end
end OL
-- OhDeep
set_option maxHeartbeats 1000000
/-! Data in data; places and stands as data. -/
namespace OL
open PySem PySem.Spec PyProof.Rows L2
open SX (S)
open Evl (Ex)
open OH
def dPo : Option Pl → PyData
  | none => .none
  | some p => dP p
def dS : Sd → PyData
  | none => .none
  | some (p, t) => .tuple [dP p, dT t]
/-! ### equal data -/
theorem eqv_P (p q : Pl) : PyData.eqv (dP p) (dP q) = decide (p = q) := by
  obtain ⟨a, b⟩ := p
  obtain ⟨c, d⟩ := q
  simp only [dP, PyData.eqv, PyData.eqvAll, Bool.and_true]
  by_cases h1 : a = c
  · by_cases h2 : b = d
    · subst h1 h2; simp
    · simp [h1, h2]
  · simp [h1]
theorem S_inj {a b : Tx} (h : S a = S b) : a = b := congrArg (fun z : Str => z.cps.toList) h
theorem eqv_T (a b : Tx) : PyData.eqv (dT a) (dT b) = decide (a = b) := by
  show (S a == S b) = _
  by_cases h : a = b
  · subst h; simp
  · rw [decide_eq_false h, beq_eq_false_iff_ne]
    exact fun e => h (S_inj e)
theorem eqv_S (a b : Sd) : PyData.eqv (dS a) (dS b) = decide (a = b) := by
  match a, b with
  | none, none => rfl
  | none, some (_, _) => rfl
  | some (_, _), none => rfl
  | some (p, t), some (q, u) =>
    show (PyData.eqv (dP p) (dP q) && (PyData.eqv (dT t) (dT u) && true)) = _
    rw [eqv_P, eqv_T, Bool.and_true]
    by_cases h : p = q
    · by_cases h2 : t = u
      · subst h h2; simp
      · simp [h2]
    · simp [h]
theorem eqv_Po (a b : Option Pl) : PyData.eqv (dPo a) (dPo b) = decide (a = b) := by
  match a, b with
  | none, none => rfl
  | none, some (_, _) => rfl
  | some (_, _), none => rfl
  | some p, some q =>
    show PyData.eqv (dP p) (dP q) = _
    rw [eqv_P]
    by_cases h : p = q
    · subst h; simp
    · simp [h]
theorem any_iff {α : Type} [DecidableEq α] (enc : α → PyData) (he : ∀ a b, PyData.eqv (enc a) (enc b) = decide (a = b)) (x : α) (xs : List α) : ((xs.map enc).any fun z => PyData.eqv z (enc x)) = true ↔ x ∈ xs := by
  rw [List.any_map, List.any_eq_true]
  constructor
  · rintro ⟨y, hy, e⟩
    rw [Function.comp_apply, he] at e
    exact (of_decide_eq_true e) ▸ hy
  · intro h
    exact ⟨x, h, by rw [Function.comp_apply, he]; exact decide_eq_true rfl⟩
theorem any_of {α : Type} [DecidableEq α] (enc : α → PyData) (he : ∀ a b, PyData.eqv (enc a) (enc b) = decide (a = b)) (x : α) (xs : List α) [dec : Decidable (x ∈ xs)] : ((xs.map enc).any fun z => PyData.eqv z (enc x)) = decide (x ∈ xs) := by
  rw [Bool.eq_iff_iff, any_iff enc he, decide_eq_true_eq]
/-! ### shaped -/
def okD (n : Nat) (d : PyData) : Prop := d.canLay0 = true ∧ d.depth ≤ n
theorem okD.shaped {d : PyData} {n : Nat} (h : okD n d) (hn : n ≤ 64) : SeqAt.shaped d = true := by
  unfold SeqAt.shaped
  rw [h.1, decide_eq_true (Nat.le_trans h.2 hn)]; rfl
theorem okAll {n : Nat} : ∀ {ds : List PyData}, (∀ d ∈ ds, okD n d) → PyData.canLayAll0 ds = true ∧ PyData.depthAll ds ≤ n
  | [], _ => ⟨rfl, Nat.zero_le _⟩
  | d :: ds, h => by
    obtain ⟨h1, h2⟩ := okAll fun x hx => h x (List.mem_cons_of_mem _ hx)
    obtain ⟨h3, h4⟩ := h d (by simp)
    refine ⟨?_, Nat.max_le.mpr ⟨h4, h2⟩⟩
    show (d.canLay0 && PyData.canLayAll0 ds) = true
    rw [h3, h1]; rfl
theorem okL {n : Nat} {ds : List PyData} (h : ∀ d ∈ ds, okD n d) : okD (n + 1) (.list ds) := ⟨(okAll h).1, Nat.succ_le_succ (okAll h).2⟩
theorem okTu {n : Nat} {ds : List PyData} (h : ∀ d ∈ ds, okD n d) : okD (n + 1) (.tuple ds) := ⟨(okAll h).1, Nat.succ_le_succ (okAll h).2⟩
theorem okP_ (p : Pl) : okD 1 (dP p) := ⟨rfl, by show max 0 (max 0 0) + 1 ≤ 1; decide⟩
theorem okT_turn {t : Tx} (h : t ∈ TURNS) : okD 0 (dT t) := ⟨(by decide +kernel : ∀ t ∈ TURNS, (dT t).canLay0 = true) t h, Nat.le_refl _⟩
theorem okS_ {s : Sd} (h : ∀ p t, s = some (p, t) → t ∈ TURNS) : okD 2 (dS s) := by
  match s with
  | none => exact ⟨rfl, Nat.zero_le _⟩
  | some (p, t) =>
    refine okTu fun d hd => ?_
    have h2 := okT_turn (h p t rfl)
    simp only [List.mem_cons, List.not_mem_nil, or_false] at hd
    rcases hd with rfl | rfl
    · exact okP_ p
    · exact ⟨h2.1, Nat.le_trans h2.2 (Nat.zero_le _)⟩
section
variable {K : PySem.W.Frag} {σ : L2.St} {F F' H H' F0 : Hp} {ta tb td tx ty tv : TE} {P P1 P2 : Ds}
theorem e_inD {α : Type} [DecidableEq α] {enc : α → PyData} (he : ∀ a b, PyData.eqv (enc a) (enc b) = decide (a = b)) {x : α} {xs : List α} {n : Nat} (ha : EP ta σ F (D K (enc x))) (hb : EP tb σ F (D K (.list (xs.map enc)))) (hx : okD n (enc x)) (hxs : ∀ y ∈ xs, okD n (enc y)) (hn : n ≤ 63) [dec : Decidable (x ∈ xs)] :
    EP (tOp (rInD K) ta tb) σ F (D K (.bool (decide (x ∈ xs)))) :=
  e_op0 ha hb fun _ _ _ _ _ b h1 h2 _ q => ⟨enc x, xs.map enc, dpx b _ _ h1, dpx b _ _ h2, hx.shaped (by omega), (okL (n := n) (by simpa using hxs)).shaped (by omega), by rw [any_of enc he]; exact q _ (Dp.bl _)⟩
theorem e_niD {α : Type} [DecidableEq α] {enc : α → PyData} (he : ∀ a b, PyData.eqv (enc a) (enc b) = decide (a = b)) {x : α} {xs : List α} {n : Nat} (ha : EP ta σ F (D K (enc x))) (hb : EP tb σ F (D K (.list (xs.map enc)))) (hx : okD n (enc x)) (hxs : ∀ y ∈ xs, okD n (enc y)) (hn : n ≤ 63) [dec : Decidable (x ∈ xs)] :
    EP (tOp (rNotInD K) ta tb) σ F (D K (.bool (!decide (x ∈ xs)))) :=
  e_op0 ha hb fun _ _ _ _ _ b h1 h2 _ q => ⟨enc x, xs.map enc, dpx b _ _ h1, dpx b _ _ h2, hx.shaped (by omega), (okL (n := n) (by simpa using hxs)).shaped (by omega), by rw [any_of enc he]; exact q _ (Dp.bl _)⟩
end
/-! ### in a tuple -/
section
variable {X : Cx}
def rInDT (K : PySem.W.Frag) : R2 := fun x y H Q => ∃ d ds, Dp K H x d ∧ Dp K H y (.tuple ds) ∧ SeqAt.shaped d = true ∧ SeqAt.shaped (.tuple ds) = true ∧ Q (.bl (ds.any fun z => PyData.eqv z d)) H
def rNotInDT (K : PySem.W.Frag) : R2 := fun x y H Q => ∃ d ds, Dp K H x d ∧ Dp K H y (.tuple ds) ∧ SeqAt.shaped d = true ∧ SeqAt.shaped (.tuple ds) = true ∧ Q (.bl (!ds.any fun z => PyData.eqv z d)) H
theorem op_inDT (hu : X.A.units + 65 < cLine) : OpR X (compareOp .In) (rInDT X.K) := by
  intro pins s σ H x y v u Q I rx ry h
  obtain ⟨d, ds, hd, he, sd, se, q⟩ := h
  obtain ⟨as, r1⟩ := Dp.reads I d x v hd rx
  obtain ⟨bs, r2⟩ := Dp.reads I (.tuple ds) y u he ry
  exact SeqAt.in_tuple_reads r2 r1 (SeqAt.canLay_of_shaped se) (SeqAt.canLay_of_shaped sd) (room_in_shaped sd hu) ⟨.bl _, H, I, rfl, q⟩
theorem op_notInDT (hu : X.A.units + 65 < cLine) : OpR X (compareOp .NotIn) (rNotInDT X.K) := by
  intro pins s σ H x y v u Q I rx ry h
  obtain ⟨d, ds, hd, he, sd, se, q⟩ := h
  obtain ⟨as, r1⟩ := Dp.reads I d x v hd rx
  obtain ⟨bs, r2⟩ := Dp.reads I (.tuple ds) y u he ry
  exact SeqAt.notIn_tuple_reads r2 r1 (SeqAt.canLay_of_shaped se) (SeqAt.canLay_of_shaped sd) (room_in_shaped sd hu) ⟨.bl _, H, I, rfl, q⟩
end
section
variable {K : PySem.W.Frag} {σ : L2.St} {F F' H H' F0 : Hp} {ta tb td tx ty tv : TE} {P P1 P2 : Ds}
theorem e_inDT {α : Type} [DecidableEq α] {enc : α → PyData} (he : ∀ a b, PyData.eqv (enc a) (enc b) = decide (a = b)) {x : α} {xs : List α} {n : Nat} (ha : EP ta σ F (D K (enc x))) (hb : EP tb σ F (D K (.tuple (xs.map enc)))) (hx : okD n (enc x)) (hxs : ∀ y ∈ xs, okD n (enc y)) (hn : n ≤ 63) [dec : Decidable (x ∈ xs)] :
    EP (tOp (rInDT K) ta tb) σ F (D K (.bool (decide (x ∈ xs)))) :=
  e_op0 ha hb fun _ _ _ _ _ b h1 h2 _ q => ⟨enc x, xs.map enc, dpx b _ _ h1, dpx b _ _ h2, hx.shaped (by omega), (okTu (n := n) (by simpa using hxs)).shaped (by omega), by rw [any_of enc he]; exact q _ (Dp.bl _)⟩
theorem e_niDT {α : Type} [DecidableEq α] {enc : α → PyData} (he : ∀ a b, PyData.eqv (enc a) (enc b) = decide (a = b)) {x : α} {xs : List α} {n : Nat} (ha : EP ta σ F (D K (enc x))) (hb : EP tb σ F (D K (.tuple (xs.map enc)))) (hx : okD n (enc x)) (hxs : ∀ y ∈ xs, okD n (enc y)) (hn : n ≤ 63) [dec : Decidable (x ∈ xs)] :
    EP (tOp (rNotInDT K) ta tb) σ F (D K (.bool (!decide (x ∈ xs)))) :=
  e_op0 ha hb fun _ _ _ _ _ b h1 h2 _ q => ⟨enc x, xs.map enc, dpx b _ _ h1, dpx b _ _ h2, hx.shaped (by omega), (okTu (n := n) (by simpa using hxs)).shaped (by omega), by rw [any_of enc he]; exact q _ (Dp.bl _)⟩
/-! ### sets -/
theorem perm_map {α β : Type} {f : α → β} : ∀ {as : List α} {ys : List β}, ys.Perm (as.map f) → ∃ bs : List α, ys = bs.map f ∧ bs.Perm as := by
  intro as ys h
  generalize e : as.map f = zs at h
  induction h generalizing as with
  | nil => exact ⟨[], rfl, by have : as = [] := by simpa using e
                              subst this; exact .nil⟩
  | cons x _ ih =>
    cases as with
    | nil => cases e
    | cons a as =>
      obtain ⟨bs, e2, p⟩ := ih (List.cons.inj e).2
      exact ⟨a :: bs, by rw [e2, List.map_cons, (List.cons.inj e).1], p.cons a⟩
  | swap x y l =>
    match as, e with
    | a :: b :: as, e =>
      have h1 := List.cons.inj e
      have h2 := List.cons.inj h1.2
      exact ⟨b :: a :: as, by rw [List.map_cons, List.map_cons, h1.1, h2.1, h2.2], .swap _ _ _⟩
  | trans _ _ ih1 ih2 =>
    obtain ⟨bs, e1, p1⟩ := ih2 e
    obtain ⟨cs, e2, p2⟩ := ih1 e1.symm
    exact ⟨cs, e2, p2.trans p1⟩
/-- set(places) -/
def IsSP (K : PySem.W.Frag) (P : Program) (w : World) (ps : List Pl) : Ds := fun v H => ∃ a, ∃ L : List (Addr × Pl), v = .ref a ∧ H a = some (SetTO P w a (places_ks L)) ∧ (∀ x ∈ L, SqT K H x.1 [.int x.2.1, .int x.2.2]) ∧ (∀ p, p ∈ L.map (·.2) ↔ p ∈ ps)
theorem ks_of (as : List (Addr × Pl)) (L : List (Addr × List Int)) (h : ∀ p ∈ L, p ∈ places_ks as) : ∃ L' : List (Addr × Pl), L = places_ks L' ∧ ∀ x ∈ L', x ∈ as := by
  induction L with
  | nil => exact ⟨[], rfl, fun _ h => by cases h⟩
  | cons p L ih =>
    obtain ⟨L', e, hm⟩ := ih fun q hq => h q (List.mem_cons_of_mem _ hq)
    obtain ⟨x, hx, e2⟩ := List.mem_map.mp (h p (by simp))
    refine ⟨x :: L', ?_, fun y hy => ?_⟩
    · unfold places_ks at e ⊢
      rw [List.map_cons, e2, e]
    · rcases List.mem_cons.mp hy with rfl | hy
      · exact hx
      · exact hm y hy
theorem ks_snd (as : List (Addr × Pl)) (p : Pl) : [p.1, p.2] ∈ (places_ks as).map (·.2) ↔ p ∈ as.map (·.2) := by
  unfold places_ks
  rw [List.map_map, List.mem_map, List.mem_map]
  constructor
  · rintro ⟨x, hx, e⟩
    refine ⟨x, hx, ?_⟩
    have e1 : x.2.1 = p.1 := (List.cons.inj e).1
    have e2 : x.2.2 = p.2 := (List.cons.inj (List.cons.inj e).2).1
    exact Prod.ext e1 e2
  · rintro ⟨x, hx, e⟩
    refine ⟨x, hx, ?_⟩
    subst e; rfl
theorem e_setP {P : Program} {w : World} {ps : List Pl} (ha : EP ta σ F (D K (.list (ps.map dP)))) (hl : ps.length < 64) : EP (tCB (rSetOfT K P w) (tCons ta tNil)) σ F (IsSP K P w ps) := fun F1 H1 e b Q q =>
  ha F1 H1 e b _ fun v F2 H2 g hv => by
    obtain ⟨l, xs, rfl, h1, h2⟩ := dLst hv
    obtain ⟨as, e1, e2, e3⟩ := dPs h2
    refine ⟨l, places_ks as, rfl, ?_, ?_, ?_, fun a L ha' hL hA => ?_⟩
    · have : (places_ks as).map (fun p => V.ref p.1) = xs := by rw [e2]; unfold places_ks; rw [List.map_map]; rfl
      rw [this]; exact Evl.ex_l g.fh h1
    · intro p hp
      obtain ⟨x, hx, rfl⟩ := List.mem_map.mp hp
      exact Evl.ex_t g.fh (e3 x hx)
    · unfold places_ks; rw [List.length_map, ← List.length_map (f := (·.2)) (as := as), e1]; exact hl
    · obtain ⟨L', rfl, hm⟩ := ks_of as L hL
      refine q _ _ _ (g.trans (Gr.new g.fh ha')) ⟨a, L', rfl, upd_same, fun x hx => Evl.ex_t (Ex.new (ex_none g.fh ha')) (e3 x (hm x hx)), fun p => ⟨fun hp => ?_, fun hp => ?_⟩⟩
      · obtain ⟨x, hx, rfl⟩ := List.mem_map.mp hp
        rw [← e1]
        exact List.mem_map_of_mem (hm x hx)
      · rw [← e1, ← ks_snd] at hp
        obtain ⟨y, hy, e4⟩ := List.mem_map.mp hp
        have := hA y hy
        rw [e4] at this
        exact (ks_snd L' p).mp this
theorem len_same {α : Type} [DecidableEq α] {xs ys : List α} (hx : xs.Nodup) (hy : ys.Nodup) (h : ∀ a, a ∈ xs ↔ a ∈ ys) : xs.length = ys.length := Nat.le_antisymm (OH.nodup_len _ _ hx fun a ha => (h a).mp ha) (OH.nodup_len _ _ hy fun a ha => (h a).mpr ha)
theorem ks_nodup {L : List (Addr × Pl)} (h : ((places_ks L).map (·.2)).Nodup) : (L.map (·.2)).Nodup := by
  unfold places_ks at h
  rw [List.map_map] at h
  have e : ((fun x : Addr × List Int => x.2) ∘ fun x : Addr × Pl => (x.1, [x.2.1, x.2.2])) = (fun p : Pl => [p.1, p.2]) ∘ (fun x : Addr × Pl => x.2) := rfl
  rw [e, ← List.map_map] at h
  exact nodup_of_map h
/-- len(set(places that differ)) -/
theorem e_lenSP {P : Program} {w : World} {ps : List Pl} (ha : EP ta σ F (IsSP K P w ps)) (hn : ps.Nodup) : EP (tCB (rLenST P w) (tCons ta tNil)) σ F (D K (.int ps.length)) := fun F1 H1 e b Q q =>
  ha F1 H1 e b _ fun v F2 H2 g hv => by
    obtain ⟨a, L, rfl, h1, h2, h3⟩ := hv
    refine ⟨a, places_ks L, rfl, g.fh _ _ h1, fun hd => q _ F2 H2 g ?_⟩
    have h4 := len_same (ks_nodup hd) hn h3
    have h5 : (places_ks L).length = ps.length := by unfold places_ks; rw [List.length_map, ← h4, List.length_map]
    rw [h5]
    exact Dp.int _
/-- a list of the same places -/
def LiP (K : PySem.W.Frag) (ps : List Pl) : Ds := fun v H => ∃ qs : List Pl, D K (.list (qs.map dP)) v H ∧ (∀ p, p ∈ qs ↔ p ∈ ps) ∧ qs.length ≤ 63
instance {ps : List Pl} : Mn (LiP K ps) := ⟨fun e ⟨qs, h1, h2⟩ => ⟨qs, dpx e _ _ h1, h2⟩⟩
def inR (p : Pl) : Prop := (0 ≤ p.1 ∧ p.1 < 64) ∧ 0 ≤ p.2 ∧ p.2 < 64
theorem bd_of {p : Pl} (h : inR p) : TS.Bd 64 [p.1, p.2] := by
  intro i hi
  simp only [List.mem_cons, List.not_mem_nil, or_false] at hi
  rcases hi with rfl | rfl
  · exact h.1
  · exact h.2
/-- sorted(set(places)) -/
theorem e_sortSP {P : Program} {w : World} {ps : List Pl} (ha : EP ta σ F (IsSP K P w ps)) (hR : ∀ p ∈ ps, inR p) : EP (tCB (rSortedT K P w) (tCons ta tNil)) σ F (fun v H => LiP K ps v H ∧ ∃ qs : List Pl, D K (.list (qs.map dP)) v H ∧ qs.Nodup ∧ (∀ p, p ∈ qs ↔ p ∈ ps) ∧ qs.length ≤ 63) := fun F1 H1 e b Q q =>
  ha F1 H1 e b _ fun v F2 H2 g hv => by
    obtain ⟨a, L, rfl, h1, h2, h3⟩ := hv
    refine ⟨a, places_ks L, 2, 64, rfl, g.fh _ _ h1, ?_, by decide, ?_, fun L' p pm nd hl pw hp => ?_⟩
    · intro z hz
      obtain ⟨x, hx, rfl⟩ := List.mem_map.mp hz
      exact Evl.ex_t g.fh (h2 x hx)
    · intro z hz
      obtain ⟨x, hx, rfl⟩ := List.mem_map.mp hz
      exact ⟨rfl, bd_of (hR _ ((h3 _).mp (List.mem_map_of_mem hx)))⟩
    · obtain ⟨M, rfl, hm⟩ := ks_of L L' fun z hz => pm.mem_iff.mp hz
      have hmem : ∀ p, p ∈ M.map (·.2) ↔ p ∈ ps := fun p => by
        rw [← h3 p, ← ks_snd, ← ks_snd]
        exact (pm.map (·.2)).mem_iff
      have hdd : D K (.list ((M.map (·.2)).map dP)) (.ref p) (upd F2 p (.lst ((places_ks M).map fun q => V.ref q.1))) := by
        refine Dp.lst (Evl.sq_of upd_same) ?_
        have e1 : (places_ks M).map (fun q => V.ref q.1) = M.map fun x => V.ref x.1 := by unfold places_ks; rw [List.map_map]; rfl
        have e2 : (M.map (·.2)).map dP = M.map fun x => dP x.2 := by rw [List.map_map]; rfl
        rw [e1, e2]
        exact dPs_of fun x hx => Evl.ex_t (Ex.new (ex_none g.fh hp)) (h2 x (hm x hx))
      have hlen : (M.map (·.2)).length ≤ 63 := by
        rw [List.length_map]
        have : (places_ks M).length = M.length := by unfold places_ks; rw [List.length_map]
        omega
      exact q _ _ _ (g.trans (Gr.new g.fh hp)) ⟨⟨_, hdd, hmem, hlen⟩, _, hdd, ks_nodup nd, hmem, hlen⟩
/-- sorted(places) -/
theorem e_sortP {ps : List Pl} (ha : EP ta σ F (D K (.list (ps.map dP)))) (hl : ps.length < 64) (hR : ∀ p ∈ ps, inR p) : EP (tCB (rSortU K 2 64) (tCons ta tNil)) σ F (LiP K ps) := fun F1 H1 e b Q q =>
  ha F1 H1 e b _ fun v F2 H2 g hv => by
    obtain ⟨l, xs, rfl, h1, h2⟩ := dLst hv
    obtain ⟨as, e1, e2, e3⟩ := dPs h2
    subst e2
    refine ⟨l, _, rfl, Evl.ex_l g.fh h1, ?_, ?_, fun ys p pm _ hp => ?_⟩
    · rw [List.length_map, ← List.length_map (f := (·.2)) (as := as), e1]; exact hl
    · intro x hx
      obtain ⟨y, hy, rfl⟩ := List.mem_map.mp hx
      exact ⟨[y.2.1, y.2.2], ⟨y.1, rfl, Evl.ex_t g.fh (e3 y hy)⟩, rfl, bd_of (hR _ (by rw [← e1]; exact List.mem_map_of_mem hy))⟩
    · have : ∃ bs : List (Addr × Pl), ys = bs.map (fun x => V.ref x.1) ∧ bs.Perm as := by
        have h5 := pm
        clear hp q h1 h2 e1 e3
        exact perm_map h5
      obtain ⟨bs, rfl, pb⟩ := this
      refine q _ _ _ (g.trans (Gr.new g.fh hp)) ⟨bs.map (·.2), Dp.lst (Evl.sq_of upd_same) ?_, fun p => ?_, ?_⟩
      · have e2 : (bs.map (·.2)).map dP = bs.map fun x => dP x.2 := by rw [List.map_map]; rfl
        rw [e2]
        exact dPs_of fun x hx => Evl.ex_t (Ex.new (ex_none g.fh hp)) (e3 x (pb.mem_iff.mp hx))
      · rw [← e1]; exact (pb.map (·.2)).mem_iff
      · rw [List.length_map, pb.length_eq, ← List.length_map (f := (·.2)) (as := as), e1]; omega
end
end OL
-- OhW4
set_option maxHeartbeats 1000000
/-! The walk, part 4: more of floors. -/
namespace OL
open PySem PySem.Spec PyProof.Rows L2
open SX (S)
open Evl (Ex)
open OH
def lettersM (rows : List Tx) : Tx := LETTERS.filter fun c => rows.any fun r => decide (c ∈ r)
def placesM (rows : List Tx) : List Pl := (List.range rows.length).flatMap fun (y : Nat) => (List.range (wid rows)).map fun (x : Nat) => (((y : Nat) : Int), ((x : Nat) : Int))
def openM (rows : List Tx) : List Pl := (placesM rows).filter fun p => decide (sgn rows p ∈ OPEN)
theorem join_S1 (l : List Nat) : Txt.join (S []) (l.map fun c => S [c]) = S l := join_signs l
theorem sum_S1 : ∀ l : List Nat, ((l.map fun c => S [c]).map (·.length)).sum = l.length := by
  intro l
  induction l with
  | nil => rfl
  | cons a l ih =>
    rw [List.map_cons, List.map_cons, List.sum_cons, ih, List.length_cons]
    show 1 + l.length = _
    omega
section
variable {P : Program} {w : World} {K : PySem.W.Frag} {mg : Str → Option Value} {base : Heap}
def sp_Floor_letters (K : PySem.W.Frag) : Sp := Pr (fun rows : List Tx => [IsFl K rows]) (fun rows => Rows rows) (fun rows => D K (dT (lettersM rows)))
theorem sc_Floor_letters : FnScope ["self", "letter", "text"] ["self"] (defScope s_Floor_letters) := ⟨rfl, rfl, rfl, by decide +kernel, rfl, by decide +kernel, by decide +kernel⟩
set_option maxHeartbeats 2000000 in
theorem bd_Floor_letters (T : Tt K mg)  : BodyOk P w K mg base 0 "Floor.letters" s_Floor_letters ["self", "letter", "text"] (sp_Floor_letters K) := by
  intro f cdv A outer s H vs Q E hr h
  have nd := sc_Floor_letters.nd
  have hu := hu_of hr
  have hu64 := hr.units
  have hu65 : (A.deeper (envOfC "Floor.letters" (defScope s_Floor_letters) s.heap.objs.size f cdv)).units + 65 < cLine := by have := hr.un; omega
  obtain ⟨rows, F, e, hA, R, k⟩ := h
  obtain ⟨v, rfl, hv⟩ := all1 hA
  have r6 := R.h6
  refine ⟨_, (pss_one (ps_ret (pe_join pe_str (pe_lc (own := [("letter", 1)]) (by rfl) nd (pi_str (p_gs T.s_LETTERS)) (blkOk_by (N := ["self", "letter", "text"]) (sc := defScope s_Floor_letters) (own := [("letter", 1)]) (by decide +kernel)) (fun _ _ _ _ _ => (pg_name (i := 1) nd rfl (Or.inr rfl))) (fun _ _ _ _ _ => (pts_one (pt_val (pe_callB (id := "any") (show CallR _ (.builtin "any") (rAny K) from cr_any rfl) (by rfl) T.f_any (by decide +kernel) (pa_cons (pe_lc (own := [("text", 2)]) (by rfl) nd (show PI _ _ _ (iTup K _) from (pi_tup (show PE _ _ (tFld K _ _) from (pe_fld (pv 0) rfl)))) (blkOk_by (N := ["self", "letter", "text"]) (sc := relS _ (defScope s_Floor_letters)) (own := [("text", 2)]) (by decide +kernel)) (fun _ _ _ _ _ => (pg_name (i := 2) nd rfl (Or.inl rfl))) (fun _ _ _ _ _ => pts_nil) (fun _ _ _ _ _ => (pe_cmpR op_in_sign (pv 1) (pv 2) (by rfl)))) pa_nil))))) (fun _ _ _ _ _ => (pv 1)))))), ?_⟩
  refine s_ret e (P := D K (dT (lettersM rows))) ((e_join (z := S []) (xs := (lettersM rows).map fun c => S [c]) e_c ?_ ?_).eq (by rw [join_S1])) fun v F3 H3 g3 hv => k v F3 H3 g3 hv
  · refine (e_lcN LETTERS dC (fun c => rows.any fun r => decide (c ∈ r)) dC ?_ (by decide) (fun c hc v1 F1 e1 h1 => ?_) (fun c hc hp v1 F1 e1 h1 => e_var rfl h1)).eq ?_
    · have h2 : LETTERS.map dC = signs ("abcd" : Str) := by
        unfold signs; rw [letters_tl]
      rw [h2]
      exact i_str e_c
    · have h3 := (inferInstance : Mn (IsFl K rows)).mn e1 hv
      refine t_B (EP.eq (e_any (bs := rows.map fun r => decide (c ∈ r)) (EP.eq (e_lcM rows dT (fun r => .bool (decide (c ∈ r))) (i_tup (e_texts T (e_var rfl h3))) (by omega) fun r hr v2 F2 e2 h2 => ?_) ?_)) ?_)
      · exact e_inSign (e_var rfl (dpx e2 _ _ h1)) (e_var rfl h2)
      · rw [List.map_map]; rfl
      · rw [List.any_map]; rfl
    · unfold lettersM
      rw [List.map_map]; rfl
  · rw [sum_S1, List.length_map]
    have h3 := List.length_filter_le (fun c => rows.any fun r => decide (c ∈ r)) LETTERS
    have h4 : LETTERS.length = 4 := rfl
    show (lettersM rows).length + (lettersM rows).length * 0 ≤ 16777216
    unfold lettersM
    omega
def sp_Floor_places (K : PySem.W.Frag) : Sp := Pr (fun rows : List Tx => [IsFl K rows]) (fun rows => Rows rows) (fun rows => D K (.list ((placesM rows).map dP)))
theorem sc_Floor_places : FnScope ["self", "rows", "columns", "row", "column"] ["self"] (defScope s_Floor_places) := ⟨rfl, rfl, rfl, by decide +kernel, rfl, by decide +kernel, by decide +kernel⟩
set_option maxHeartbeats 2000000 in
theorem bd_Floor_places (T : Tt K mg) (M_size : Met P w K mg base 1 (cF K) "size" ["self"] (sp_Floor_size K)) : BodyOk P w K mg base 1 "Floor.places" s_Floor_places ["self", "rows", "columns", "row", "column"] (sp_Floor_places K) := by
  intro f cdv A outer s H vs Q E hr h
  have nd := sc_Floor_places.nd
  have hu := hu_of hr
  have hu64 := hr.units
  have hu65 : (A.deeper (envOfC "Floor.places" (defScope s_Floor_places) s.heap.objs.size f cdv)).units + 65 < cLine := by have := hr.un; omega
  obtain ⟨rows, F, e, hA, R, k⟩ := h
  obtain ⟨v, rfl, hv⟩ := all1 hA
  have r6 := R.h6
  have w6 := R.w6
  refine ⟨_, (pss_cons (ps_asg (p_meth0 M_size hr (pv 0)) (pg_tup (by rfl) (pgs_cons (pg_name (i := 1) nd rfl (Or.inl rfl)) (pgs_cons (pg_name (i := 2) nd rfl (Or.inr rfl)) pgs_nil))))
      (pss_one (ps_ret (pe_lc2 (own := [("row", 3), ("column", 4)]) (vs1 := [4]) (by rfl) nd (pi_range1 (by rfl) T.f_range (pa_cons (pv 1) pa_nil)) (blkOk_by (N := ["self", "rows", "columns", "row", "column"]) (sc := defScope s_Floor_places) (own := [("row", 3), ("column", 4)]) (by decide +kernel)) (by decide) (fun _ _ _ _ _ => (pg_name (i := 3) nd rfl (Or.inl rfl))) (fun _ _ _ _ _ => pts_nil) (fun _ _ _ _ _ => (pi_range1 (by rfl) T.f_range (pa_cons (pv 2) pa_nil))) (fun _ _ _ _ _ => (pg_name (i := 4) nd rfl (Or.inl rfl))) (fun _ _ _ _ _ => pts_nil) (fun _ _ _ _ _ => (pe_tup (pa_cons (pv 3) (pa_cons (pv 4) pa_nil)))))))), ?_⟩
  refine q_unp (d1 := .int rows.length) (d2 := .int (wid rows)) e (e_methR rows (e_var rfl hv) ea_nil rfl (fun fs F1 h => h.no (by decide)) R) fun v3 v4 F2 H2 g2 h3 h4 => ?_
  refine s_ret g2.fh (P := D K (.list ((placesM rows).map dP))) ?_ fun v F3 H3 g3 hv => k v F3 H3 (g2.trans g3) hv
  refine EP.eq (e_lc2 (List.range rows.length) (fun (y : Nat) => .int (0 + (y : Int))) (fun _ => List.range (wid rows)) (fun (x : Nat) => .int (0 + (x : Int))) (fun y x => dP ((y : Int), (x : Int))) (i_range1 (ea_cons (e_var rfl h3) ea_nil) (by omega)) (by rw [List.length_range]; omega) (fun _ _ => by rw [List.length_range]; omega) (fun y hy v5 F5 e5 h5 => i_range1 (ea_cons (e_var rfl (dpx e5 _ _ h4)) ea_nil) (by omega)) (fun y hy x hx v5 v6 F5 e5 h5 h6 => ?_)) ?_
  · have z1 : (0 : Int) + (y : Int) = (y : Int) := Int.zero_add _
    have z2 : (0 : Int) + (x : Int) = (x : Int) := Int.zero_add _
    rw [z1] at h5
    rw [z2] at h6
    exact e_tup (ds := [.int (y : Int), .int (x : Int)]) (ea_cons (e_var rfl h5) (ea_cons (e_var rfl h6) ea_nil))
  · unfold placesM
    rw [List.map_flatMap]
    simp only [List.map_map, Function.comp_def]
def sp_Floor_open_places (K : PySem.W.Frag) : Sp := Pr (fun rows : List Tx => [IsFl K rows]) (fun rows => Rows rows) (fun rows => D K (.list ((openM rows).map dP)))
theorem places_len {rows : List Tx} (R : Rows rows) : (placesM rows).length ≤ 36 := by
  have r6 := R.h6
  have w6 := R.w6
  unfold placesM
  rw [List.length_flatMap]
  simp only [List.length_map, List.length_range, List.map_const', List.sum_replicate_nat]
  exact Nat.mul_le_mul r6 w6
theorem sc_Floor_open_places : FnScope ["self", "place"] ["self"] (defScope s_Floor_open_places) := ⟨rfl, rfl, rfl, by decide +kernel, rfl, by decide +kernel, by decide +kernel⟩
set_option maxHeartbeats 2000000 in
theorem bd_Floor_open_places (T : Tt K mg) (M_places : Met P w K mg base 2 (cF K) "places" ["self"] (sp_Floor_places K)) (M_seen : Met P w K mg base 5 (cF K) "seen" ["self", "place"] (sp_Floor_seen K)) : BodyOk P w K mg base 5 "Floor.open_places" s_Floor_open_places ["self", "place"] (sp_Floor_open_places K) := by
  intro f cdv A outer s H vs Q E hr h
  have nd := sc_Floor_open_places.nd
  have hu := hu_of hr
  have hu64 := hr.units
  have hu65 : (A.deeper (envOfC "Floor.open_places" (defScope s_Floor_open_places) s.heap.objs.size f cdv)).units + 65 < cLine := by have := hr.un; omega
  obtain ⟨rows, F, e, hA, R, k⟩ := h
  obtain ⟨v, rfl, hv⟩ := all1 hA
  have hp := places_len R
  refine ⟨_, (pss_one (ps_ret (pe_lc (own := [("place", 1)]) (by rfl) nd (pi_list (p_meth0 M_places hr (pv 0))) (blkOk_by (N := ["self", "place"]) (sc := defScope s_Floor_open_places) (own := [("place", 1)]) (by decide +kernel)) (fun _ _ _ _ _ => (pg_name (i := 1) nd rfl (Or.inl rfl))) (fun _ _ _ _ _ => (pts_one (pt_cmpR op_in_sign (p_meth M_seen hr (pv 0) (pa_cons (pv 1) pa_nil)) (p_gs T.s_OPEN) (by rfl)))) (fun _ _ _ _ _ => (pv 1))))), ?_⟩
  refine s_ret e (P := D K (.list ((openM rows).map dP))) ?_ fun v F3 H3 g3 hv => k v F3 H3 g3 hv
  refine e_lcN (placesM rows) dP (fun p => decide (sgn rows p ∈ OPEN)) dP (i_list (e_methR rows (e_var rfl hv) ea_nil rfl (fun fs F1 h => h.no (by decide)) R)) (by omega) (fun p hp v1 F1 e1 h1 => ?_) (fun p hp _ v1 F1 e1 h1 => e_var rfl h1)
  have h3 := (inferInstance : Mn (IsFl K rows)).mn e1 hv
  exact t_test ((e_inSign (e_methR (rows, p) (e_var rfl h3) (ea_cons (e_var rfl h1) ea_nil) rfl (fun fs F1 h => h.no (by decide)) R) e_c).eq (by rw [open_tl]))
def sp_Floor_can_stand (K : PySem.W.Frag) : Sp := Pr (fun x : List Tx × Pl => [IsFl K x.1, D K (dP x.2)]) (fun x => Rows x.1) (fun x => D K (.bool (okP x.1 x.2)))
theorem sc_Floor_can_stand : FnScope ["self", "thing"] ["self", "thing"] (defScope s_Floor_can_stand) := ⟨rfl, rfl, rfl, by decide +kernel, rfl, by decide +kernel, by decide +kernel⟩
set_option maxHeartbeats 2000000 in
theorem bd_Floor_can_stand (T : Tt K mg) (M_has : Met P w K mg base 4 (cF K) "has" ["self", "thing"] (sp_Floor_has K)) (M_seen : Met P w K mg base 5 (cF K) "seen" ["self", "place"] (sp_Floor_seen K)) : BodyOk P w K mg base 5 "Floor.can_stand" s_Floor_can_stand ["self", "thing"] (sp_Floor_can_stand K) := by
  intro f cdv A outer s H vs Q E hr h
  have nd := sc_Floor_can_stand.nd
  have hu := hu_of hr
  have hu64 := hr.units
  have hu65 : (A.deeper (envOfC "Floor.can_stand" (defScope s_Floor_can_stand) s.heap.objs.size f cdv)).units + 65 < cLine := by have := hr.un; omega
  obtain ⟨⟨rows, p⟩, F, e, hA, R, k⟩ := h
  obtain ⟨v, v2, rfl, hv, h2⟩ := all2 hA
  refine ⟨_, (pss_one (ps_ret (pe_and (p_meth M_has hr (pv 0) (pa_cons (pv 1) pa_nil)) (pe_one (pe_cmpR op_in_sign (p_meth M_seen hr (pv 0) (pa_cons (pv 1) pa_nil)) (pe_op op_add_str (p_gs T.s_OPEN) (p_gs T.s_ICE)) (by rfl)))))), ?_⟩
  refine s_ret e (P := D K (.bool (okP rows p))) (e_and (e_methR (rows, p) (e_var rfl hv) (ea_cons (e_var rfl h2) ea_nil) rfl (fun fs F1 h => h.no (by decide)) R) fun _ => ?_) fun v F3 H3 g3 hv => k v F3 H3 g3 hv
  exact (e_inSign (e_methR (rows, p) (e_var rfl hv) (ea_cons (e_var rfl h2) ea_nil) rfl (fun fs F1 h => h.no (by decide)) R) (e_addS (a := ".abcd") (b := "~") e_c e_c (by decide +kernel))).eq (by rw [stand_tl])
def sp_Floor_goes (K : PySem.W.Frag) : Sp := Pr (fun x : List Tx × Pl × Nat => [IsFl K x.1, D K (dP x.2.1), D K (dC x.2.2)]) (fun x => Rows x.1 ∧ okP x.1 x.2.1 = true ∧ x.2.2 ∈ DEEDS) (fun x => D K (dPo (OH.goes x.1 x.2.1 x.2.2)))
theorem dC_eq (a b : Nat) : decide ((⟨#[a]⟩ : Str) = ⟨#[b]⟩) = decide (a = b) := by
  by_cases h : a = b
  · subst h; simp
  · rw [decide_eq_false h, decide_eq_false fun e => h (by simpa using congrArg (fun z : Str => z.cps.toList) e)]
theorem wall_c : ("#" : Str) = ⟨#[35]⟩ := by decide +kernel
theorem ice_c : ("~" : Str) = ⟨#[126]⟩ := by decide +kernel
theorem pit_c : ("x" : Str) = ⟨#[120]⟩ := by decide +kernel
theorem sc_Floor_goes : FnScope ["self", "place", "way", "here", "there"] ["self", "place", "way"] (defScope s_Floor_goes) := ⟨rfl, rfl, rfl, by decide +kernel, rfl, by decide +kernel, by decide +kernel⟩
set_option maxHeartbeats 2000000 in
theorem bd_Floor_goes (T : Tt K mg) (M_can_stand : Met P w K mg base 6 (cF K) "can_stand" ["self", "thing"] (sp_Floor_can_stand K)) (G_want_deed : Cal P w K mg base 1 "want_deed" ["thing"] (sp_want_deed K)) (G_next_to : Cal P w K mg base 1 "next_to" ["place", "way"] (sp_next_to K)) (M_seen : Met P w K mg base 5 (cF K) "seen" ["self", "place"] (sp_Floor_seen K)) : BodyOk P w K mg base 6 "Floor.goes" s_Floor_goes ["self", "place", "way", "here", "there"] (sp_Floor_goes K) := by
  intro f cdv A outer s H vs Q E hr h
  have nd := sc_Floor_goes.nd
  have hu := hu_of hr
  have hu64 := hr.units
  have hu65 : (A.deeper (envOfC "Floor.goes" (defScope s_Floor_goes) s.heap.objs.size f cdv)).units + 65 < cLine := by have := hr.un; omega
  obtain ⟨⟨rows, p, d⟩, F, e, hA, ⟨R, hok, hd⟩, k⟩ := h
  obtain ⟨v, v2, v3, rfl, hv, h2, h3⟩ := all3 hA
  have mf : ∀ {F1 : Hp}, Ex F F1 → IsFl K rows v F1 := fun e1 => (inferInstance : Mn (IsFl K rows)).mn e1 hv
  refine ⟨_, (pss_cons (ps_if (pt_not (pt_val (p_meth M_can_stand hr (pv 0) (pa_cons (pv 1) pa_nil)))) (pss_one ps_never) pss_nil)
      (pss_cons (ps_expr (p_call G_want_deed hr (pa_cons (pv 2) pa_nil)))
      (pss_cons (ps_par (i := 3) (j := 4) (by rfl) nd rfl rfl (by decide) rfl rfl (pa_cons (pv 1) (pa_cons (p_call G_next_to hr (pa_cons (pv 1) (pa_cons (pv 2) pa_nil))) pa_nil)) (by rfl))
      (pss_cons (ps_while PassesOwn.never (pt_cmpR op_eq (p_meth M_seen hr (pv 0) (pa_cons (pv 4) pa_nil)) (p_gs T.s_ICE) (nomark _)) (pss_one (ps_par (i := 3) (j := 4) (by rfl) nd rfl rfl (by decide) rfl rfl (pa_cons (pv 4) (pa_cons (p_call G_next_to hr (pa_cons (pv 4) (pa_cons (pv 2) pa_nil))) pa_nil)) (by rfl))))
      (pss_cons (ps_if (pt_cmpR op_eq (p_meth M_seen hr (pv 0) (pa_cons (pv 4) pa_nil)) (p_gs T.s_WALL) (nomark _)) (pss_one (ps_ret (pv 3))) pss_nil)
      (pss_one (ps_ret (pe_ifExp (pt_cmpR op_eq (p_meth M_seen hr (pv 0) (pa_cons (pv 4) pa_nil)) (p_gs T.s_PIT) (nomark _)) pe_non (pv 4))))))))), ?_⟩
  refine q_fine e (t_not (t_B (e_methR (rows, p) (e_var rfl hv) (ea_cons (e_var rfl h2) ea_nil) rfl (fun fs F1 h => h.no (by decide)) R))) (fun H1 g1 => ?_) (by show (!okP rows p) = false; rw [hok]; rfl)
  refine q_drop g1.fh (e_call d (ea_cons (e_var rfl h3) ea_nil) hd) fun H2 g2 => ?_
  refine q_par (P1 := D K (dP p)) (P2 := D K (dP (nxt p d))) g2.fh (ea_cons (e_var rfl h2) (ea_cons (e_call (p, d) (ea_cons (e_var rfl h2) (ea_cons (e_var rfl h3) ea_nil)) hd) ea_nil)) fun v4 v5 F3 H3 g3 h4 h5 => ?_
  have g13 := (g1.trans g2).trans g3
  have hin : inF rows p = true := (Bool.and_eq_true_iff.mp hok).1
  have hp0 : pot rows d (nxt p d) ≤ 7 := by
    have z1 : pot rows d p ≤ 6 := pot_le R (w := d) hin
    have z2 : pot rows d (nxt p d) ≤ pot rows d p - 1 := pot_next (rows := rows) (p := p) hd
    omega
  refine q_while (fun m σ' F' H' => Gr F H F' H' ∧ ∃ vh vt hh tt, σ' = [some v, some v2, some v3, some vh, some vt] ∧ D K (dP hh) vh F' ∧ D K (dP tt) vt F' ∧ slide rows d m hh tt = slide rows d 7 p (nxt p d) ∧ pot rows d tt ≤ m) 7 (F := F3) ⟨g13, v4, v5, p, nxt p d, rfl, h4, h5, rfl, hp0⟩ ?_
  rintro m σ' F' H' ⟨gg, vh, vt, hh, tt, rfl, q1, q2, hs, hp⟩
  refine ⟨gg.fh, decide (sgn rows tt = 126), ?_, fun hb H5 g5 => ?_, fun hb H5 g5 => ?_⟩
  · exact t_test ((e_eqT (e_methR (rows, tt) (e_var rfl (mf gg.ff)) (ea_cons (e_var rfl q2) ea_nil) rfl (fun fs F1 h => h.no (by decide)) R) e_c).eq (by rw [ice_c, dC_eq]))
  · have hi := of_decide_eq_true hb
    have hpot : 1 ≤ pot rows d tt := pot_in (w := d) (ice_in hi (by decide))
    have gg5 := gg.trans g5
    refine s_par (P1 := D K (dP tt)) (P2 := D K (dP (nxt tt d))) gg5.fh (ea_cons (e_var rfl q2) (ea_cons (e_call (tt, d) (ea_cons (e_var rfl q2) (ea_cons (e_var rfl (dpx gg.ff _ _ h3)) ea_nil)) hd) ea_nil)) fun v6 v7 F6 H6 g6 h6 h7 => ?_
    refine ⟨m - 1, F6, by omega, gg5.trans g6, v6, v7, tt, nxt tt d, rfl, h6, h7, ?_, ?_⟩
    · rw [← hs]
      have e1 : m = (m - 1) + 1 := by omega
      rw [e1, slide_ice hi]
      rfl
    · have z5 : pot rows d (nxt tt d) ≤ pot rows d tt - 1 := pot_next (rows := rows) (p := tt) hd
      omega
  · have hi := of_decide_eq_false hb
    have gg5 := gg.trans g5
    rw [slide_stop hi] at hs
    have hg : OH.goes rows p d = if sgn rows tt = 35 then some hh else if sgn rows tt = 120 then none else some tt := by
      unfold OH.goes
      rw [← hs]
    refine q_when gg5.fh (b := decide (sgn rows tt = 35)) (t_test ((e_eqT (e_methR (rows, tt) (e_var rfl (mf gg.ff)) (ea_cons (e_var rfl q2) ea_nil) rfl (fun fs F1 h => h.no (by decide)) R) e_c).eq (by rw [wall_c, dC_eq]))) (fun hb2 H6 g6 => ?_) fun hb2 H6 g6 => ?_
    · refine s_ret g6.fh (P := D K (dPo (OH.goes rows p d))) ?_ fun v F3 H3 g3 hv => k v F3 H3 ((gg5.trans g6).trans g3) hv
      rw [hg, if_pos (of_decide_eq_true hb2)]
      exact e_var rfl q1
    · refine s_ret g6.fh (P := D K (dPo (OH.goes rows p d))) ?_ fun v F3 H3 g3 hv => k v F3 H3 ((gg5.trans g6).trans g3) hv
      rw [hg, if_neg (of_decide_eq_false hb2)]
      refine e_if (b := decide (sgn rows tt = 120)) (t_test ((e_eqT (e_methR (rows, tt) (e_var rfl (mf gg.ff)) (ea_cons (e_var rfl q2) ea_nil) rfl (fun fs F1 h => h.no (by decide)) R) e_c).eq (by rw [pit_c, dC_eq]))) (fun hb3 => ?_) fun hb3 => ?_
      · rw [if_pos (of_decide_eq_true hb3)]
        exact e_c
      · rw [if_neg (of_decide_eq_false hb3)]
        exact e_var rfl q2
def sp_Floor_init (K : PySem.W.Frag) : Sp := PrI (cF K) (fun rows : List Tx => [D K (.list (dL rows))]) (fun rows => Rows rows) (fun rows => RFl K rows)
theorem sc_Floor_init : FnScope ["self", "rows"] ["self", "rows"] (defScope s_Floor_init) := ⟨rfl, rfl, rfl, by decide +kernel, rfl, by decide +kernel, by decide +kernel⟩
set_option maxHeartbeats 2000000 in
theorem bd_Floor_init (T : Tt K mg) (G_want_rows : Cal P w K mg base 2 "want_rows" ["thing"] (sp_want_rows K)) : BodyOk P w K mg base 2 "Floor.__init__" s_Floor_init ["self", "rows"] (sp_Floor_init K) := by
  intro f cdv A outer s H vs Q E hr h
  have nd := sc_Floor_init.nd
  have hu := hu_of hr
  have hu64 := hr.units
  have hu65 : (A.deeper (envOfC "Floor.__init__" (defScope s_Floor_init) s.heap.objs.size f cdv)).units + 65 < cLine := by have := hr.un; omega
  obtain ⟨x, dx, rest, rows, F, rfl, hx, e, hn, hA, R, k⟩ := h
  obtain ⟨v, rfl, hv⟩ := all1 hA
  refine ⟨_, (pss_cons (ps_expr (p_call G_want_rows hr (pa_cons (pv 1) pa_nil)))
      (pss_one (ps_fld (pv 0) (pe_callTy (T := "tuple") call_tuple_of (by rfl) T.f_tuple (by decide +kernel) (pa_cons (pv 1) pa_nil)) rfl))), ?_⟩
  refine q_drop e (e_call rows (ea_cons (e_var rfl hv) ea_nil) R) fun H1 g1 => ?_
  refine (e_tupL (e_var rfl hv)).go g1.fh fun t F2 H2 g2 ht => ?_
  have hx2 : H2 x = some (.ins (cF K) dx []) := g2.hh _ _ (g1.hh _ _ hx)
  have hf2 : F2 x = none := g2.nw _ _ (g1.hh _ _ hx) hn
  have g12 := g1.trans g2
  refine ⟨_, rfl, x, cF K, dx, [], rfl, hx2, T.k_Floor, T.n_texts, by decide, ?_⟩
  refine k _ F2 _ (fun b o hb hH => ?_) g12.ff (ex_mut g12.fh hf2) hf2 g12.nw upd_same ⟨t, rfl, ht⟩
  rw [upd_ne hb]
  exact g12.hh _ _ hH
end
end OL
-- OhW5
set_option maxHeartbeats 1000000
/-! The walk, part 5: worlds, what is refused. -/
namespace OL
open PySem PySem.Spec PyProof.Rows L2
open SX (S)
open Evl (Ex)
open OH
def dBk : Option Bk → Ds
  | none => fun v _ => v = .non
  | some b => IsBk b
instance {b : Option Bk} : Mn (dBk b) := by
  cases b with
  | none => exact ⟨fun _ h => h⟩
  | some b => exact (inferInstance : Mn (IsBk b))
/-- a book for these rows -/
def BkOk (rows : List Tx) (b : Bk) : Prop := b.map Prod.fst = lettersM rows ∧ ∀ x ∈ b, x.2 ∈ TURNS
theorem lettersM_nd (rows : List Tx) : (lettersM rows).Nodup := List.Nodup.sublist List.filter_sublist (by decide)
theorem lookup_mem {b : Bk} {c : Nat} : c ∈ b.map Prod.fst → ∃ t, b.lookup c = some t ∧ (c, t) ∈ b := by
  induction b with
  | nil => intro h; cases h
  | cons x b ih =>
    intro h
    obtain ⟨d, t⟩ := x
    rw [List.lookup_cons]
    by_cases e : c = d
    · subst e
      exact ⟨t, by rw [beq_self_eq_true], by simp⟩
    · have e2 : (c == d) = false := by simp [e]
      rw [e2]
      obtain ⟨u, h1, h2⟩ := ih (by rcases List.mem_cons.mp h with h | h
                                   · exact absurd h e
                                   · exact h)
      exact ⟨u, h1, List.mem_cons_of_mem _ h2⟩
theorem BkOk.look {rows : List Tx} {b : Bk} (h : BkOk rows b) {c : Nat} (hc : c ∈ lettersM rows) : ∃ t, b.lookup c = some t ∧ t ∈ TURNS := by
  rw [← h.1] at hc
  obtain ⟨t, h1, h2⟩ := lookup_mem hc
  exact ⟨t, h1, h.2 _ h2⟩
theorem lettersM_lt (rows : List Tx) : (lettersM rows).length ≤ 4 := List.length_filter_le _ LETTERS
section
variable {P : Program} {w : World} {K : PySem.W.Frag} {mg : Str → Option Value} {base : Heap}
def sp_is_stand (K : PySem.W.Frag) : Sp := Pr (fun x : List Tx × Sd => [IsFl K x.1, D K (dS x.2)]) (fun x => Rows x.1 ∧ okS x.1 x.2 = true) (fun _ => D K (.bool true))
theorem sc_is_stand : FnScope ["floor", "thing"] ["floor", "thing"] (defScope s_is_stand) := ⟨rfl, rfl, rfl, by decide +kernel, rfl, by decide +kernel, by decide +kernel⟩
set_option maxHeartbeats 2000000 in
theorem bd_is_stand (T : Tt K mg) (M_can_stand : Met P w K mg base 6 (cF K) "can_stand" ["self", "thing"] (sp_Floor_can_stand K)) (G_is_turn : Cal P w K mg base 1 "is_turn" ["thing"] (sp_is_turn K)) : BodyOk P w K mg base 6 "is_stand" s_is_stand ["floor", "thing"] (sp_is_stand K) := by
  intro f cdv A outer s H vs Q E hr h
  have nd := sc_is_stand.nd
  have hu := hu_of hr
  have hu64 := hr.units
  have hu65 : (A.deeper (envOfC "is_stand" (defScope s_is_stand) s.heap.objs.size f cdv)).units + 65 < cLine := by have := hr.un; omega
  obtain ⟨⟨rows, s⟩, F, e, hA, ⟨R, hs⟩, k⟩ := h
  obtain ⟨v, v2, rfl, hv, h2⟩ := all2 hA
  refine ⟨_, (pss_cons (ps_if (pt_cmpR op_isN (pv 1) pe_non (nomark _)) (pss_one (ps_ret pe_bl)) pss_nil)
      (pss_cons (ps_if (PW.pt (pw_or (pt_not (pt_val (pe_callB (id := "isinstance") call_isi (by rfl) T.f_isinstance boot_isinstance (pa_cons (pv 1) (pa_cons (pe_bltn (v := .ty "tuple") (by rfl) T.f_tuple (by decide +kernel) rfl) pa_nil))))) (pw_or1 (pt_cmpR op_ne (pe_callB (id := "len") call_len_seq (by rfl) T.f_len boot_len (pa_cons (pv 1) pa_nil)) pe_int (nomark _))))) (pss_one (ps_ret pe_bl)) pss_nil)
      (pss_one (ps_ret (pe_and (p_meth M_can_stand hr (pv 0) (pa_cons (pe_ix ix_tup (pv 1) pe_int (fun _ _ => rfl)) pa_nil)) (pe_one (p_call G_is_turn hr (pa_cons (pe_ix ix_tup (pv 1) pe_int (fun _ _ => rfl)) pa_nil)))))))), ?_⟩
  match s, hs, h2, k with
  | none, hs, h2, k =>
    refine q_when e (t_test (e_isN (d := .none) (e_var rfl h2) e_c)) (fun _ H1 g1 => ?_) (fun z => Bool.noConfusion z)
    exact s_ret g1.fh (P := D K (.bool true)) e_c fun v F3 H3 g3 hv => k v F3 H3 (g1.trans g3) hv
  | some (p, t), hs, h2, k =>
    have h2 : D K (.tuple [dP p, dT t]) v2 F := h2
    obtain ⟨ho, ht⟩ := Bool.and_eq_true_iff.mp hs
    refine q_when e (b := false) (t_test (e_isN (d := .tuple [dP p, dT t]) (e_var rfl h2) e_c)) (fun z => Bool.noConfusion z) fun _ H1 g1 => ?_
    refine q_when g1.fh (b := false) (t_or (a := false) (b := false) (t_not (t_B (e_isiT (b := true) (e_var rfl h2)))) fun _ => t_test (e_neI (i := 2) (j := 2) (e_lenT (e_var rfl h2)) e_c)) (fun z => Bool.noConfusion z) fun _ H2 g2 => ?_
    refine s_ret g2.fh (P := D K (.bool true)) ((e_and (e_methR (rows, p) (e_var rfl hv) (ea_cons (e_ixT (d := dP p) (e_var rfl h2) e_c (atI_nat (j := 0) rfl)) ea_nil) rfl (fun fs F1 h => h.no (by decide)) R) fun _ => e_call t (ea_cons (e_ixT (d := dT t) (e_var rfl h2) e_c (atI_nat (j := 1) rfl)) ea_nil) (of_decide_eq_true ht)).eq (by rw [ho]; rfl)) fun v F3 H3 g3 hv => k v F3 H3 ((g1.trans g2).trans g3) hv
def sp_is_book (K : PySem.W.Frag) : Sp := Pr (fun x : List Tx × Option Bk => [IsFl K x.1, dBk x.2]) (fun x => Rows x.1 ∧ ∀ b, x.2 = some b → BkOk x.1 b) (fun _ => D K (.bool true))
theorem isN_dk {σ : L2.St} {F : Hp} {ta tn : TE} {R : List (Key × V) → Hp → Prop} (ha : EP ta σ F (DkR R)) (hb : EP tn σ F (D K .none)) : EP (tOp (fun x y H Q => y = V.non ∧ Q (.bl (decide (x = .non))) H) ta tn) σ F (D K (.bool false)) := fun F1 H1 e b Q q =>
  ha F1 H1 e b _ fun x F2 H2 g2 hx => hb F2 H2 (e.trans g2.ff) g2.fh _ fun y F3 H3 g3 hy => by
    obtain ⟨a, kvs, rfl, _⟩ := hx
    exact ⟨dNon hy, q _ F3 H3 (g2.trans g3) (Dp.bl _)⟩
theorem sc_is_book : FnScope ["floor", "thing", "letters", "letter"] ["floor", "thing"] (defScope s_is_book) := ⟨rfl, rfl, rfl, by decide +kernel, rfl, by decide +kernel, by decide +kernel⟩
set_option maxHeartbeats 2000000 in
theorem bd_is_book (T : Tt K mg) (M_letters : Met P w K mg base 1 (cF K) "letters" ["self"] (sp_Floor_letters K)) (G_is_turn : Cal P w K mg base 1 "is_turn" ["thing"] (sp_is_turn K)) : BodyOk P w K mg base 1 "is_book" s_is_book ["floor", "thing", "letters", "letter"] (sp_is_book K) := by
  intro f cdv A outer s H vs Q E hr h
  have nd := sc_is_book.nd
  have hu := hu_of hr
  have hu64 := hr.units
  have hu65 : (A.deeper (envOfC "is_book" (defScope s_is_book) s.heap.objs.size f cdv)).units + 65 < cLine := by have := hr.un; omega
  obtain ⟨⟨rows, b⟩, F, e, hA, ⟨R, hb⟩, k⟩ := h
  obtain ⟨v, v2, rfl, hv, h2⟩ := all2 hA
  refine ⟨_, (pss_cons (ps_if (pt_cmpR op_isN (pv 1) pe_non (nomark _)) (pss_one (ps_ret pe_bl)) pss_nil)
      (pss_cons (ps_set (i := 2) nd rfl (Or.inl rfl) (p_meth0 M_letters hr (pv 0)))
      (pss_cons (ps_if (PW.pt (pw_or (pt_not (pt_val (pe_callB (id := "isinstance") call_isi (by rfl) T.f_isinstance boot_isinstance (pa_cons (pv 1) (pa_cons (pe_bltn (v := .ty "dict") (by rfl) T.f_dict (by decide +kernel) rfl) pa_nil))))) (pw_or1 (pt_cmpR op_ne (pe_callB (id := "len") call_lenD (by rfl) T.f_len boot_len (pa_cons (pv 1) pa_nil)) (pe_callB (id := "len") call_len_str (by rfl) T.f_len boot_len (pa_cons (pv 2) pa_nil)) (nomark _))))) (pss_one (ps_ret pe_bl)) pss_nil)
      (pss_one (ps_ret (pe_callB (id := "all") (show CallR _ (.builtin "all") (rAll K) from cr_all rfl) (by rfl) T.f_all (by decide +kernel) (pa_cons (pe_lc (own := [("letter", 3)]) (by rfl) nd (pi_str (pv 2)) (blkOk_by (N := ["floor", "thing", "letters", "letter"]) (sc := defScope s_is_book) (own := [("letter", 3)]) (by decide +kernel)) (fun _ _ _ _ _ => (pg_name (i := 3) nd rfl (Or.inl rfl))) (fun _ _ _ _ _ => pts_nil) (fun _ _ _ _ _ => (pe_and (pe_cmp (pc_din hu (pv 3) (pv 1)) (by rfl)) (pe_one (p_call G_is_turn hr (pa_cons (pe_dget hu (pv 1) (pv 3) (fun _ _ => rfl)) pa_nil)))))) pa_nil))))))), ?_⟩
  match b, hb, h2, k with
  | none, hb, h2, k =>
    have h2 : D K .none v2 F := by have e2 : v2 = .non := h2; subst e2; exact Dp.non
    refine q_when e (t_test (e_isN (d := .none) (e_var rfl h2) e_c)) (fun _ H1 g1 => ?_) (fun z => Bool.noConfusion z)
    exact s_ret g1.fh (P := D K (.bool true)) e_c fun v F3 H3 g3 hv => k v F3 H3 (g1.trans g3) hv
  | some b, hb, h2, k =>
    have hB := hb b rfl
    have h2 : IsBk b v2 F := h2
    have hl4 := lettersM_lt rows
    have hlen : b.length = (lettersM rows).length := by rw [← hB.1, List.length_map]
    refine q_when e (b := false) (t_test (isN_dk (K := K) (e_var rfl h2) e_c)) (fun z => Bool.noConfusion z) fun _ H1 g1 => ?_
    refine q_asg g1.fh (e_methR rows (e_var rfl hv) ea_nil rfl (fun fs F1 h => h.no (by decide)) R) fun v3 F3 H3 g3 h3 => ?_
    have g13 := g1.trans g3
    have h23 := (inferInstance : Mn (IsBk b)).mn g13.ff h2
    refine q_when g13.fh (b := false) (t_eq (t_or (t_not (t_B (e_isiD (b := true) (e_var rfl h23)))) fun _ => t_test (e_neI (i := b.length) (j := (lettersM rows).length) (e_lenD (e_var rfl h23) (fun kvs F1 _ h => by rw [h]; unfold bkV; rw [List.length_map])) ((e_lenS (z := S (lettersM rows)) (e_var rfl h3) ?_).eq ?_))) ?_) (fun z => Bool.noConfusion z) fun _ H4 g4 => ?_
    · rw [len_S]; omega
    · rw [len_S]
    · rw [hlen, decide_eq_true rfl]; rfl
    · refine s_ret g4.fh (P := D K (.bool true)) (EP.eq (e_all (bs := (lettersM rows).map fun _ => true) (EP.eq (e_lcM (lettersM rows) dC (fun c => .bool (true && true)) (i_str (e_var rfl h3)) (by omega) fun c hc v5 F5 e5 h5 => ?_) ?_)) ?_) fun v F5 H5 g5 hv => k v F5 H5 ((g13.trans g4).trans g5) hv
      · obtain ⟨t, ht, hT⟩ := hB.look hc
        have h25 := (inferInstance : Mn (IsBk b)).mn e5 h23
        refine e_and (e_din (e_var rfl h5) (e_var rfl h25) fun kvs F1 _ h => ?_) fun _ => e_call t (ea_cons (e_dget (e_var rfl h25) (e_var rfl h5) fun kvs F1 _ h => ⟨.str (S t), ?_, Dp.str _⟩) ea_nil) hT
        · rw [h, val_bk, ht]; rfl
        · rw [h, val_bk, ht]; rfl
      · rw [List.map_map]; rfl
      · congr 1
        rw [List.all_map, List.all_eq_true]
        intro c hc
        rfl
/-- wishes: fewer than 64 places of the floor, each once -/
structure WiOk (rows : List Tx) (ws : List Pl) : Prop where
  inn : ∀ p ∈ ws, inF rows p = true
  nd : ws.Nodup
  few : ws.length < 64
def sp_are_wishes (K : PySem.W.Frag) : Sp := Pr (fun x : List Tx × List Pl => [IsFl K x.1, D K (.list (x.2.map dP))]) (fun x => Rows x.1 ∧ WiOk x.1 x.2) (fun _ => D K (.bool true))
theorem sc_are_wishes : FnScope ["floor", "thing", "place"] ["floor", "thing"] (defScope s_are_wishes) := ⟨rfl, rfl, rfl, by decide +kernel, rfl, by decide +kernel, by decide +kernel⟩
set_option maxHeartbeats 2000000 in
theorem bd_are_wishes (T : Tt K mg) (M_has : Met P w K mg base 4 (cF K) "has" ["self", "thing"] (sp_Floor_has K)) : BodyOk P w K mg base 4 "are_wishes" s_are_wishes ["floor", "thing", "place"] (sp_are_wishes K) := by
  intro f cdv A outer s H vs Q E hr h
  have nd := sc_are_wishes.nd
  have hu := hu_of hr
  have hu64 := hr.units
  have hu65 : (A.deeper (envOfC "are_wishes" (defScope s_are_wishes) s.heap.objs.size f cdv)).units + 65 < cLine := by have := hr.un; omega
  obtain ⟨⟨rows, ws⟩, F, e, hA, ⟨R, W⟩, k⟩ := h
  obtain ⟨v, v2, rfl, hv, h2⟩ := all2 hA
  have hf : ws.length < 64 := W.few
  refine ⟨_, (pss_cons (ps_if (PW.pt (pw_or (pt_not (pt_val (pe_callB (id := "isinstance") call_isiT (by rfl) T.f_isinstance boot_isinstance (pa_cons (pv 1) (pa_cons (pe_tup (pa_cons (pe_bltn (v := .ty "list") (by rfl) T.f_list (by decide +kernel) rfl) (pa_cons (pe_bltn (v := .ty "tuple") (by rfl) T.f_tuple (by decide +kernel) rfl) pa_nil))) pa_nil))))) (pw_or1 (pt_not (pt_val (pe_callB (id := "all") (show CallR _ (.builtin "all") (rAll K) from cr_all rfl) (by rfl) T.f_all (by decide +kernel) (pa_cons (pe_lc (own := [("place", 2)]) (by rfl) nd (pi_list (pv 1)) (blkOk_by (N := ["floor", "thing", "place"]) (sc := defScope s_are_wishes) (own := [("place", 2)]) (by decide +kernel)) (fun _ _ _ _ _ => (pg_name (i := 2) nd rfl (Or.inl rfl))) (fun _ _ _ _ _ => pts_nil) (fun _ _ _ _ _ => (p_meth M_has hr (pv 0) (pa_cons (pv 2) pa_nil)))) pa_nil))))))) (pss_one (ps_ret pe_bl)) pss_nil)
      (pss_one (ps_ret (pe_cmpR op_eq (pe_callB (id := "len") cr_lenST (by rfl) T.f_len boot_len (pa_cons (pe_callTy (T := "set") (cr_setOfT rfl hu64) (by rfl) T.f_set (by decide +kernel) (pa_cons (pv 1) pa_nil)) pa_nil)) (pe_callB (id := "len") call_len_seq (by rfl) T.f_len boot_len (pa_cons (pv 1) pa_nil)) (nomark _))))), ?_⟩
  refine q_when e (b := false) (t_eq (t_or (t_not (t_B (e_isiT2 (b := true) (e_var rfl h2) rfl))) fun _ => t_not (t_B (e_all (bs := ws.map fun p => inF rows p) (EP.eq (e_lcM ws dP (fun p => .bool (inF rows p)) (i_list (e_var rfl h2)) (by omega) fun p hp v3 F1 e1 h3 => ?_) ?_)))) ?_) (fun z => Bool.noConfusion z) fun _ H1 g1 => ?_
  · exact e_methR (rows, p) (e_var rfl ((inferInstance : Mn (IsFl K rows)).mn e1 hv)) (ea_cons (e_var rfl h3) ea_nil) rfl (fun fs F1 h => h.no (by decide)) R
  · rw [List.map_map]; rfl
  · have z : (ws.map fun p => inF rows p).all id = true := by
      rw [List.all_map, List.all_eq_true]
      intro p hp
      exact W.inn p hp
    rw [z]; rfl
  · refine s_ret g1.fh (P := D K (.bool true)) ((e_eqI (i := ws.length) (j := ws.length) (e_lenSP (e_setP (P := P) (w := w) (e_var rfl h2) hf) W.nd) ((e_lenL (e_var rfl h2)).eq (by rw [List.length_map]))).eq (by rw [decide_eq_true rfl])) fun v F3 H3 g3 hv => k v F3 H3 (g1.trans g3) hv
/-- all that a world is made of -/
structure WdIn where
  rows : List Tx
  begin : Pl
  turn : Tx
  book : Option Bk
  ws : List Pl
structure WdOk (x : WdIn) : Prop where
  R : Rows x.rows
  b : x.begin ∈ openM x.rows
  t : x.turn ∈ TURNS
  k : ∀ b, x.book = some b → BkOk x.rows b
  w : WiOk x.rows x.ws
def sp_first_wrong (K : PySem.W.Frag) : Sp := Pr (fun x : WdIn => [IsFl K x.rows, D K (dP x.begin), D K (dT x.turn), dBk x.book, D K (.list (x.ws.map dP))]) WdOk (fun _ => D K .none)
theorem open_in {rows : List Tx} {p : Pl} (h : p ∈ openM rows) : inF rows p = true := by
  obtain ⟨h1, h2⟩ := List.mem_filter.mp h
  refine ice_in rfl fun e => ?_
  rw [e] at h2
  exact absurd h2 (by decide)
theorem open_len {rows : List Tx} (R : Rows rows) : (openM rows).length ≤ 36 := Nat.le_trans (List.length_filter_le _ _) (places_len R)
theorem sc_first_wrong : FnScope ["floor", "begin", "turn", "book", "wishes"] ["floor", "begin", "turn", "book", "wishes"] (defScope s_first_wrong) := ⟨rfl, rfl, rfl, by decide +kernel, rfl, by decide +kernel, by decide +kernel⟩
set_option maxHeartbeats 2000000 in
theorem bd_first_wrong (T : Tt K mg) (M_has : Met P w K mg base 4 (cF K) "has" ["self", "thing"] (sp_Floor_has K)) (M_open_places : Met P w K mg base 6 (cF K) "open_places" ["self"] (sp_Floor_open_places K)) (G_is_turn : Cal P w K mg base 1 "is_turn" ["thing"] (sp_is_turn K)) (G_is_book : Cal P w K mg base 2 "is_book" ["floor", "thing"] (sp_is_book K)) (G_are_wishes : Cal P w K mg base 5 "are_wishes" ["floor", "thing"] (sp_are_wishes K)) : BodyOk P w K mg base 6 "first_wrong" s_first_wrong ["floor", "begin", "turn", "book", "wishes"] (sp_first_wrong K) := by
  intro f cdv A outer s H vs Q E hr h
  have nd := sc_first_wrong.nd
  have hu := hu_of hr
  have hu64 := hr.units
  have hu65 : (A.deeper (envOfC "first_wrong" (defScope s_first_wrong) s.heap.objs.size f cdv)).units + 65 < cLine := by have := hr.un; omega
  obtain ⟨x, F, e, hA, W, k⟩ := h
  obtain ⟨v, v2, v3, v4, v5, rfl, hv, h2, h3, h4, h5⟩ := all5 hA
  have R := W.R
  refine ⟨_, (pss_cons (ps_if (pt_not (pt_val (pe_callB (id := "isinstance") (C8.call_isC T.i_Floor) (by rfl) T.f_isinstance boot_isinstance (pa_cons (pv 0) (pa_cons (p_gr T.c_Floor) pa_nil))))) (pss_one (ps_ret pe_str)) pss_nil)
      (pss_cons (ps_if (PW.pt (pw_or (pt_not (pt_val (p_meth M_has hr (pv 0) (pa_cons (pv 1) pa_nil)))) (pw_or1 (pt_cmpR (op_notInD hu65) (pv 1) (p_meth0 M_open_places hr (pv 0)) (by rfl))))) (pss_one (ps_ret pe_str)) pss_nil)
      (pss_cons (ps_if (pt_not (pt_val (p_call G_is_turn hr (pa_cons (pv 2) pa_nil)))) (pss_one (ps_ret pe_str)) pss_nil)
      (pss_cons (ps_if (pt_not (pt_val (p_call G_is_book hr (pa_cons (pv 0) (pa_cons (pv 3) pa_nil))))) (pss_one (ps_ret pe_str)) pss_nil)
      (pss_one (ps_ret (pe_ifExp (pt_val (p_call G_are_wishes hr (pa_cons (pv 0) (pa_cons (pv 4) pa_nil)))) pe_non pe_str))))))), ?_⟩
  refine q_when e (b := false) (t_not (t_B (K := K) (e_isC (e_var rfl hv) fun v F1 ⟨a, dx, fs, h1, h2, _⟩ => ⟨a, dx, fs, h1, h2⟩))) (fun z => Bool.noConfusion z) fun _ H1 g1 => ?_
  refine q_when g1.fh (b := false) (t_eq (t_or (t_not (t_B (e_methR (x.rows, x.begin) (e_var rfl hv) (ea_cons (e_var rfl h2) ea_nil) rfl (fun fs F1 h => h.no (by decide)) R))) fun _ => t_test (e_niD eqv_P (x := x.begin) (xs := openM x.rows) (n := 1) (e_var rfl h2) (e_methR x.rows (e_var rfl hv) ea_nil rfl (fun fs F1 h => h.no (by decide)) R) (okP_ _) (fun _ _ => okP_ _) (by decide))) ?_) (fun z => Bool.noConfusion z) fun _ H2 g2 => ?_
  · simp [open_in W.b, W.b]
  have g12 := g1.trans g2
  refine q_when g12.fh (b := false) (t_eq (t_not (t_B (e_call x.turn (ea_cons (e_var rfl h3) ea_nil) W.t))) rfl) (fun z => Bool.noConfusion z) fun _ H3 g3 => ?_
  have g13 := g12.trans g3
  refine q_when g13.fh (b := false) (t_eq (t_not (t_B (e_call (x.rows, x.book) (ea_cons (e_var rfl hv) (ea_cons (e_var rfl h4) ea_nil)) ⟨R, W.k⟩))) rfl) (fun z => Bool.noConfusion z) fun _ H4 g4 => ?_
  have g14 := g13.trans g4
  exact s_ret g14.fh (P := D K .none) (e_if (b := true) (t_B (e_call (x.rows, x.ws) (ea_cons (e_var rfl hv) (ea_cons (e_var rfl h5) ea_nil)) ⟨R, W.w⟩)) (fun _ => e_c) (fun z => Bool.noConfusion z)) fun v F3 H3 g3 hv => k v F3 H3 (g14.trans g3) hv
end
end OL
-- OhW6
set_option maxHeartbeats 1000000
/-! The walk, part 6: worlds. -/
namespace OL
open PySem PySem.Spec PyProof.Rows L2
open SX (S)
open Evl (Ex)
open OH
/-- the turns of the letters of a world -/
def pagesM (x : WdIn) : Bk := match x.book with
  | none => (lettersM x.rows).map fun c => (c, DEEDS)
  | some b => b
/-- a tuple of the same places -/
def LiT (K : PySem.W.Frag) (ps : List Pl) : Ds := fun v H => ∃ qs : List Pl, D K (.tuple (qs.map dP)) v H ∧ (∀ p, p ∈ qs ↔ p ∈ ps) ∧ qs.length ≤ 63
instance {K : PySem.W.Frag} {ps : List Pl} : Mn (LiT K ps) := ⟨fun e ⟨qs, h1, h2⟩ => ⟨qs, dpx e _ _ h1, h2⟩⟩
def RWd (K : PySem.W.Frag) (x : WdIn) : List (Str × V) → Hp → Prop := fun fs H => ∃ g p q o f, fs = [(("ground" : Str), g), (("pages" : Str), p), (("goals" : Str), q), (("opening" : Str), o), (("first" : Str), f)] ∧
  IsFl K x.rows g H ∧ IsBk (pagesM x) p H ∧ LiT K x.ws q H ∧ D K (.tuple [dP x.begin, dT x.turn]) f H
instance {K : PySem.W.Frag} {x : WdIn} : MnF (RWd K x) := ⟨fun e ⟨g, p, q, o, f, h0, h1, h2, h3, h4⟩ => ⟨g, p, q, o, f, h0, (inferInstance : Mn (IsFl K x.rows)).mn e h1, (inferInstance : Mn (IsBk (pagesM x))).mn e h2, (inferInstance : Mn (LiT K x.ws)).mn e h3, dpx e _ _ h4⟩⟩
abbrev IsWd (K : PySem.W.Frag) (x : WdIn) : Ds := InsR (cW K) (RWd K x)
theorem RWd.no {K : PySem.W.Frag} {x : WdIn} {fs : List (Str × V)} {H : Hp} {m : Str} (hm : (m == "ground") = false ∧ (m == "pages") = false ∧ (m == "goals") = false ∧ (m == "opening") = false ∧ (m == "first") = false) (h : RWd K x fs H) : fs.lookup m = none := by
  obtain ⟨g, p, q, o, f, rfl, _⟩ := h
  simp [List.lookup, hm]
theorem pagesOk {x : WdIn} (W : WdOk x) : BkOk x.rows (pagesM x) := by
  unfold pagesM
  cases e : x.book with
  | none =>
    refine ⟨by rw [List.map_map]; exact List.map_id _, fun y hy => ?_⟩
    obtain ⟨c, hc, rfl⟩ := List.mem_map.mp hy
    exact (by decide : DEEDS ∈ TURNS)
  | some b => exact W.k b e
theorem lookup_self : ∀ {b : Bk}, (b.map Prod.fst).Nodup → (b.map fun y => (y.1, (b.lookup y.1).getD [])) = b := by
  intro b h
  have key : ∀ y ∈ b, b.lookup y.1 = some y.2 := by
    induction b with
    | nil => intro y hy; cases hy
    | cons z b ih =>
      intro y hy
      rw [List.map_cons, List.nodup_cons] at h
      rcases List.mem_cons.mp hy with rfl | hy
      · rw [List.lookup_cons, beq_self_eq_true]
      · have h2 : (y.1 == z.1) = false := by
          have : y.1 ≠ z.1 := fun e => h.1 (e ▸ List.mem_map_of_mem hy)
          simpa using this
        rw [List.lookup_cons, h2]
        exact ih h.2 y hy
  have h2 : (b.map fun y => (y.1, (b.lookup y.1).getD [])) = b.map id := List.map_congr_left fun y hy => by rw [key y hy]; rfl
  rw [h2, List.map_id]
theorem pages_eq {x : WdIn} (W : WdOk x) : ((lettersM x.rows).map fun c => (c, match x.book with | none => DEEDS | some b => (b.lookup c).getD [])) = pagesM x := by
  unfold pagesM
  cases e : x.book with
  | none => rfl
  | some b =>
    have h := W.k b e
    have hn := lettersM_nd x.rows
    rw [← h.1] at hn ⊢
    rw [List.map_map]
    exact lookup_self hn
theorem in_letters {rows : List Tx} (R : Rows rows) {p : Pl} (h : sgn rows p ∈ LETTERS) : sgn rows p ∈ lettersM rows := by
  have hin : inF rows p = true := ice_in rfl fun e => by rw [e] at h; exact absurd h (by decide)
  obtain ⟨r, hr, _, h2⟩ := sgn_at R hin
  refine List.mem_filter.mpr ⟨h, List.any_eq_true.mpr ⟨r, hr, decide_eq_true (List.mem_of_getElem? h2)⟩⟩
theorem look_none {x : WdIn} (W : WdOk x) {c : Nat} (h : ¬ c ∈ LETTERS) : (pagesM x).lookup c = none := by
  cases e : (pagesM x).lookup c with
  | none => rfl
  | some t =>
    have h2 := List.mem_map_of_mem (f := Prod.fst) (lookup_in e)
    rw [(pagesOk W).1] at h2
    exact absurd (List.mem_filter.mp h2).1 h
section
variable {P : Program} {w : World} {K : PySem.W.Frag} {mg : Str → Option Value} {base : Heap}
theorem e_tupP {σ : L2.St} {F : Hp} {ta : TE} {ps : List Pl} (ha : EP ta σ F (LiP K ps)) : EP (tCB (rTupOf K) (tCons ta tNil)) σ F (LiT K ps) := fun F1 H1 e c Q q =>
  ha F1 H1 e c _ fun v F2 H2 g hv => by
    obtain ⟨qs, h1, h2⟩ := hv
    obtain ⟨a, xs, rfl, h3, h4⟩ := dLst h1
    exact ⟨a, xs, rfl, .inl ⟨Evl.ex_l g.fh h3, fun p hp => q _ _ _ (g.trans (Gr.new g.fh hp)) ⟨qs, Dp.tup (Evl.st_of upd_same) (dpxs (Ex.new (ex_none g.fh hp)) _ _ h4), h2⟩⟩⟩
theorem short {n : Nat} (h : Nat.ble (n + 1) 1000 = true) : n < 1000 := Nat.le_of_ble_eq_true h
def sp_World_init (K : PySem.W.Frag) : Sp := PrI (cW K) (fun x : WdIn => [IsFl K x.rows, D K (dP x.begin), D K (dT x.turn), dBk x.book, D K (.list (x.ws.map dP))]) WdOk (fun x => RWd K x)
theorem in_R {rows : List Tx} (R : Rows rows) {p : Pl} (h : inF rows p = true) : inR p := by
  obtain ⟨⟨a1, a2⟩, b1, b2⟩ := inF_iff.mp h
  have := R.h6
  have := R.w6
  exact ⟨⟨a1, by omega⟩, b1, by omega⟩
theorem sc_World_init : FnScope ["self", "floor", "begin", "turn", "book", "wishes", "wrong", "letter"] ["self", "floor", "begin", "turn", "book", "wishes"] (defScope s_World_init) := ⟨rfl, rfl, rfl, by decide +kernel, rfl, by decide +kernel, by decide +kernel⟩
set_option maxHeartbeats 2000000 in
theorem bd_World_init (T : Tt K mg) (G_first_wrong : Cal P w K mg base 7 "first_wrong" ["floor", "begin", "turn", "book", "wishes"] (sp_first_wrong K)) (M_letters : Met P w K mg base 1 (cF K) "letters" ["self"] (sp_Floor_letters K)) : BodyOk P w K mg base 7 "World.__init__" s_World_init ["self", "floor", "begin", "turn", "book", "wishes", "wrong", "letter"] (sp_World_init K) := by
  intro f cdv A outer s H vs Q E hr h
  have nd := sc_World_init.nd
  have hu := hu_of hr
  have hu64 := hr.units
  have hu65 : (A.deeper (envOfC "World.__init__" (defScope s_World_init) s.heap.objs.size f cdv)).units + 65 < cLine := by have := hr.un; omega
  obtain ⟨y, dx, rest, x, F, rfl, hx, e, hn, hA, W, k⟩ := h
  obtain ⟨v, v2, v3, v4, v5, rfl, hv, h2, h3, h4, h5⟩ := all5 hA
  have R := W.R
  refine ⟨_, (pss_cons (ps_set (i := 6) nd rfl (Or.inl rfl) (p_call G_first_wrong hr (pa_cons (pv 1) (pa_cons (pv 2) (pa_cons (pv 3) (pa_cons (pv 4) (pa_cons (pv 5) pa_nil)))))))
      (pss_cons (ps_if (pt_cmpR op_notN (pv 6) pe_non (nomark _)) (pss_one ps_never) pss_nil)
      (pss_cons (ps_fld (pv 0) (pv 1) rfl)
      (pss_cons (ps_fld (pv 0) (pe_dc (own := [("letter", 7)]) (by rfl) nd (pi_str (p_meth0 M_letters hr (pv 1))) (blkOk_by (N := ["self", "floor", "begin", "turn", "book", "wishes", "wrong", "letter"]) (sc := defScope s_World_init) (own := [("letter", 7)]) (by decide +kernel)) (fun _ _ _ _ _ => (pg_name (i := 7) nd rfl (Or.inl rfl))) (fun _ _ _ _ _ => pts_nil) (fun _ _ _ _ _ => (pv 7)) (fun _ _ _ _ _ => (pe_ifExp (pt_cmpR op_isN (pv 4) pe_non (nomark _)) (p_gs T.s_DEEDS) (pe_dget hu (pv 4) (pv 7) (fun _ _ => rfl))))) rfl)
      (pss_cons (ps_fld (pv 0) (pe_callTy (T := "tuple") call_tuple_of (by rfl) T.f_tuple (by decide +kernel) (pa_cons (pe_callB (id := "sorted") (cr_sortT (d := 2) (B := 64) (by decide)) (by rfl) T.f_sorted (by decide +kernel) (pa_cons (pv 5) pa_nil)) pa_nil)) rfl)
      (pss_cons (ps_fld (pv 0) (pv 2) rfl)
      (pss_one (ps_fld (pv 0) (pe_tup (pa_cons (pv 2) (pa_cons (pv 3) pa_nil))) rfl)))))))), ?_⟩
  refine q_asg e (e_call x (ea_cons (e_var rfl hv) (ea_cons (e_var rfl h2) (ea_cons (e_var rfl h3) (ea_cons (e_var rfl h4) (ea_cons (e_var rfl h5) ea_nil))))) W) fun v6 F1 H1 g1 h6 => ?_
  refine q_when g1.fh (b := false) (t_test (e_notN (d := .none) (e_var rfl h6) e_c)) (fun z => Bool.noConfusion z) fun _ H2 g2 => ?_
  have g12 := g1.trans g2
  have i0 := (Ini.start hx e hn).gr g12
  have hvF : ∀ {F1 : Hp}, Ex F F1 → IsFl K x.rows v F1 := fun e1 => (inferInstance : Mn (IsFl K x.rows)).mn e1 hv
  refine q_fld (P := IsFl K x.rows) i0 rfl T.k_World T.n_ground (by decide) (e_var rfl (hvF i0.ff)) fun u1 F3 H3 i1 e3 hu1 => ?_
  refine q_fld (P := IsBk (pagesM x)) i1 rfl T.k_World T.n_pages (short rfl) ?hp fun u2 F4 H4 i2 e4 hu2 => ?_
  case hp =>
    rw [← pages_eq W]
    refine e_dcN (lettersM x.rows) _ (i_str (z := S (lettersM x.rows)) (e_methR x.rows (e_var rfl (hvF i1.ff)) ea_nil rfl (fun fs F1 h => h.no (by decide)) R)) (by have := lettersM_lt x.rows; omega) (lettersM_nd _) (fun c hc v7 F7 e7 h7 => e_var rfl h7) fun c hc v7 F7 e7 h7 => ?_
    have h4' := (inferInstance : Mn (dBk x.book)).mn (i1.ff.trans e7) h4
    cases eb : x.book with
    | none =>
      rw [eb] at h4'
      have h4n : D K .none v4 F7 := by have e2 : v4 = .non := h4'; subst e2; exact Dp.non
      exact e_if (b := true) (t_test (e_isN (d := .none) (e_var rfl h4n) e_c)) (fun _ => e_c) (fun z => Bool.noConfusion z)
    | some b =>
      rw [eb] at h4'
      have h4b : IsBk b v4 F7 := h4'
      obtain ⟨t, ht, hT⟩ := (W.k b eb).look hc
      refine e_if (b := false) (t_test (isN_dk (K := K) (e_var rfl h4b) e_c)) (fun z => Bool.noConfusion z) fun _ => e_dget (e_var rfl h4b) (e_var rfl h7) fun kvs F1 _ h => ⟨V.str (S t), ?_, ?_⟩
      · rw [h, val_bk, ht]; rfl
      · show D K (dT ((b.lookup c).getD [])) _ _
        rw [ht]; exact Dp.str _
  refine q_fld (P := LiT K x.ws) i2 rfl T.k_World T.n_goals (short rfl) (e_tupP (e_sortP (e_var rfl (dpx i2.ff _ _ h5)) W.w.few fun p hp => in_R R (W.w.inn p hp))) fun u3 F5 H5 i3 e5 hu3 => ?_
  refine q_fld (P := D K (dP x.begin)) i3 rfl T.k_World T.n_opening (short rfl) (e_var rfl (dpx i3.ff _ _ h2)) fun u4 F6 H6 i4 e6 hu4 => ?_
  refine s_fld (P := D K (.tuple [dP x.begin, dT x.turn])) i4 rfl T.k_World T.n_first (short rfl) (e_tup (ds := [dP x.begin, dT x.turn]) (ea_cons (e_var rfl (dpx i4.ff _ _ h2)) (ea_cons (e_var rfl (dpx i4.ff _ _ h3)) ea_nil))) fun u5 F7 H7 i5 e7 hu5 => ?_
  refine i5.done k ⟨u1, u2, u3, u4, u5, rfl, (inferInstance : Mn (IsFl K x.rows)).mn (((e4.trans e5).trans e6).trans e7) hu1, (inferInstance : Mn (IsBk (pagesM x))).mn ((e5.trans e6).trans e7) hu2, (inferInstance : Mn (LiT K x.ws)).mn (e6.trans e7) hu3, hu5⟩
/-- reading -/
theorem e_ground {σ : L2.St} {F : Hp} {ta : TE} {x : WdIn} (T : Tt K mg) (h : EP ta σ F (IsWd K x)) : EP (tFld K ta "ground") σ F (IsFl K x.rows) :=
  e_fldR h T.k_World T.n_ground fun fs F1 _ ⟨g, p, q, o, f, h0, h1, _⟩ => ⟨g, by rw [h0]; rfl, h1⟩
theorem e_pages {σ : L2.St} {F : Hp} {ta : TE} {x : WdIn} (T : Tt K mg) (h : EP ta σ F (IsWd K x)) : EP (tFld K ta "pages") σ F (IsBk (pagesM x)) :=
  e_fldR h T.k_World T.n_pages fun fs F1 _ ⟨g, p, q, o, f, h0, h1, h2, _⟩ => ⟨p, by rw [h0]; rfl, h2⟩
theorem e_first {σ : L2.St} {F : Hp} {ta : TE} {x : WdIn} (T : Tt K mg) (h : EP ta σ F (IsWd K x)) : EP (tFld K ta "first") σ F (D K (.tuple [dP x.begin, dT x.turn])) :=
  e_fldR h T.k_World T.n_first fun fs F1 _ ⟨g, p, q, o, f, h0, h1, h2, h3, h4⟩ => ⟨f, by rw [h0]; rfl, h4⟩
theorem e_goals {σ : L2.St} {F : Hp} {ta : TE} {x : WdIn} (T : Tt K mg) (h : EP ta σ F (IsWd K x)) : EP (tFld K ta "goals") σ F (LiT K x.ws) :=
  e_fldR h T.k_World T.n_goals fun fs F1 _ ⟨g, p, q, o, f, h0, h1, h2, h3, h4⟩ => ⟨q, by rw [h0]; rfl, h3⟩
def sp_World_floor (K : PySem.W.Frag) : Sp := Pr (fun x : WdIn => [IsWd K x]) (fun _ => True) (fun x => IsFl K x.rows)
theorem sc_World_floor : FnScope ["self"] ["self"] (defScope s_World_floor) := ⟨rfl, rfl, rfl, by decide +kernel, rfl, by decide +kernel, by decide +kernel⟩
set_option maxHeartbeats 2000000 in
theorem bd_World_floor (T : Tt K mg)  : BodyOk P w K mg base 0 "World.floor" s_World_floor ["self"] (sp_World_floor K) := by
  intro f cdv A outer s H vs Q E hr h
  have nd := sc_World_floor.nd
  have hu := hu_of hr
  have hu64 := hr.units
  have hu65 : (A.deeper (envOfC "World.floor" (defScope s_World_floor) s.heap.objs.size f cdv)).units + 65 < cLine := by have := hr.un; omega
  obtain ⟨x, F, e, hA, W, k⟩ := h
  obtain ⟨v, rfl, hv⟩ := all1 hA
  refine ⟨_, (pss_one (ps_ret (pe_fld (pv 0) rfl))), ?_⟩
  exact s_ret e (P := IsFl K x.rows) (e_ground T (e_var rfl hv)) fun v F3 H3 g3 hv => k v F3 H3 g3 hv
def sp_World_start (K : PySem.W.Frag) : Sp := Pr (fun x : WdIn => [IsWd K x]) (fun _ => True) (fun x => D K (.tuple [dP x.begin, dT x.turn]))
theorem sc_World_start : FnScope ["self"] ["self"] (defScope s_World_start) := ⟨rfl, rfl, rfl, by decide +kernel, rfl, by decide +kernel, by decide +kernel⟩
set_option maxHeartbeats 2000000 in
theorem bd_World_start (T : Tt K mg)  : BodyOk P w K mg base 0 "World.start" s_World_start ["self"] (sp_World_start K) := by
  intro f cdv A outer s H vs Q E hr h
  have nd := sc_World_start.nd
  have hu := hu_of hr
  have hu64 := hr.units
  have hu65 : (A.deeper (envOfC "World.start" (defScope s_World_start) s.heap.objs.size f cdv)).units + 65 < cLine := by have := hr.un; omega
  obtain ⟨x, F, e, hA, W, k⟩ := h
  obtain ⟨v, rfl, hv⟩ := all1 hA
  refine ⟨_, (pss_one (ps_ret (pe_fld (pv 0) rfl))), ?_⟩
  exact s_ret e (P := D K (.tuple [dP x.begin, dT x.turn])) (e_first T (e_var rfl hv)) fun v F3 H3 g3 hv => k v F3 H3 g3 hv
def sp_World_want_stand (K : PySem.W.Frag) : Sp := Pr (fun x : WdIn × Sd => [IsWd K x.1, D K (dS x.2)]) (fun x => WdOk x.1 ∧ okS x.1.rows x.2 = true) (fun _ => D K .none)
theorem sc_World_want_stand : FnScope ["self", "thing"] ["self", "thing"] (defScope s_World_want_stand) := ⟨rfl, rfl, rfl, by decide +kernel, rfl, by decide +kernel, by decide +kernel⟩
set_option maxHeartbeats 2000000 in
theorem bd_World_want_stand (T : Tt K mg) (G_is_stand : Cal P w K mg base 7 "is_stand" ["floor", "thing"] (sp_is_stand K)) : BodyOk P w K mg base 7 "World.want_stand" s_World_want_stand ["self", "thing"] (sp_World_want_stand K) := by
  intro f cdv A outer s H vs Q E hr h
  have nd := sc_World_want_stand.nd
  have hu := hu_of hr
  have hu64 := hr.units
  have hu65 : (A.deeper (envOfC "World.want_stand" (defScope s_World_want_stand) s.heap.objs.size f cdv)).units + 65 < cLine := by have := hr.un; omega
  obtain ⟨⟨x, s⟩, F, e, hA, ⟨W, hs⟩, k⟩ := h
  obtain ⟨v, v2, rfl, hv, h2⟩ := all2 hA
  refine ⟨_, (pss_one (ps_if (pt_not (pt_val (p_call G_is_stand hr (pa_cons (pe_fld (pv 0) rfl) (pa_cons (pv 1) pa_nil))))) (pss_one ps_never) pss_nil)), ?_⟩
  refine s_fine e (t_eq (t_not (t_B (e_call (x.rows, s) (ea_cons (e_ground T (e_var rfl hv)) (ea_cons (e_var rfl h2) ea_nil)) ⟨W.R, hs⟩))) rfl) fun H1 g1 => ?_
  exact k _ F H1 g1 Dp.non
def sp_World_behind (K : PySem.W.Frag) : Sp := Pr (fun x : WdIn × Sd × Nat => [IsWd K x.1, D K (dS x.2.1), D K (dC x.2.2)]) (fun x => WdOk x.1 ∧ okS x.1.rows x.2.1 = true ∧ x.2.2 ∈ DEEDS) (fun x => D K (dS (OH.behind x.1.rows (pagesM x.1) x.2.1 x.2.2)))
theorem nonD_Po (q : Option Pl) : nonD (dPo q) = decide (q = none) := by cases q <;> rfl
theorem sc_World_behind : FnScope ["self", "stand", "deed", "place", "turn", "there", "letter"] ["self", "stand", "deed"] (defScope s_World_behind) := ⟨rfl, rfl, rfl, by decide +kernel, rfl, by decide +kernel, by decide +kernel⟩
set_option maxHeartbeats 2000000 in
theorem bd_World_behind (T : Tt K mg) (G_way : Cal P w K mg base 3 "way" ["turn", "deed"] (sp_way K)) (M_goes : Met P w K mg base 7 (cF K) "goes" ["self", "place", "way"] (sp_Floor_goes K)) (M_seen : Met P w K mg base 5 (cF K) "seen" ["self", "place"] (sp_Floor_seen K)) (G_then : Cal P w K mg base 5 "then" ["one", "other"] (sp_then K)) : BodyOk P w K mg base 7 "World.behind" s_World_behind ["self", "stand", "deed", "place", "turn", "there", "letter"] (sp_World_behind K) := by
  intro f cdv A outer s H vs Q E hr h
  have nd := sc_World_behind.nd
  have hu := hu_of hr
  have hu64 := hr.units
  have hu65 : (A.deeper (envOfC "World.behind" (defScope s_World_behind) s.heap.objs.size f cdv)).units + 65 < cLine := by have := hr.un; omega
  obtain ⟨⟨x, s, d⟩, F, e, hA, ⟨W, hs, hd⟩, k⟩ := h
  obtain ⟨v, v2, v3, rfl, hv, h2, h3⟩ := all3 hA
  have hd : d ∈ DEEDS := hd
  have R := W.R
  have mw : ∀ {F1 : Hp}, Ex F F1 → IsWd K x v F1 := fun e1 => (inferInstance : Mn (IsWd K x)).mn e1 hv
  refine ⟨_, (pss_cons (ps_if (pt_cmpR op_isN (pv 1) pe_non (nomark _)) (pss_one (ps_ret pe_non)) pss_nil)
      (pss_cons (ps_asg (pv 1) (pg_tup (by rfl) (pgs_cons (pg_name (i := 3) nd rfl (Or.inl rfl)) (pgs_cons (pg_name (i := 4) nd rfl (Or.inl rfl)) pgs_nil))))
      (pss_cons (ps_set (i := 5) nd rfl (Or.inl rfl) (p_meth M_goes hr (pe_fld (pv 0) rfl) (pa_cons (pv 3) (pa_cons (p_call G_way hr (pa_cons (pv 4) (pa_cons (pv 2) pa_nil))) pa_nil))))
      (pss_cons (ps_if (PW.pt (pw_or (pt_cmpR op_isN (pv 5) pe_non (nomark _)) (pw_or1 (pt_cmpR (op_eqD hu64) (pv 5) (pv 3) (nomark _))))) (pss_one (ps_ret (pe_ifExp (pt_cmpR op_isN (pv 5) pe_non (nomark _)) pe_non (pv 1)))) pss_nil)
      (pss_cons (ps_set (i := 6) nd rfl (Or.inl rfl) (p_meth M_seen hr (pe_fld (pv 0) rfl) (pa_cons (pv 5) pa_nil)))
      (pss_one (ps_ret (pe_tup (pa_cons (pv 5) (pa_cons (pe_ifExp (pt_cmpR op_in_sign (pv 6) (p_gs T.s_LETTERS) (by rfl)) (p_call G_then hr (pa_cons (pv 4) (pa_cons (pe_dget hu (pe_fld (pv 0) rfl) (pv 6) (fun _ _ => rfl)) pa_nil))) (pv 4)) pa_nil)))))))))), ?_⟩
  match s, hs, h2, k with
  | none, hs, h2, k =>
    refine q_when e (t_test (e_isN (d := .none) (e_var rfl h2) e_c)) (fun _ H1 g1 => ?_) (fun z => Bool.noConfusion z)
    exact s_ret g1.fh (P := D K .none) e_c fun v F3 H3 g3 hv => k v F3 H3 (g1.trans g3) hv
  | some (p, t), hs, h2, k =>
    have h2 : D K (.tuple [dP p, dT t]) v2 F := h2
    obtain ⟨ho, ht⟩ := Bool.and_eq_true_iff.mp hs
    have ht := of_decide_eq_true ht
    refine q_when e (b := false) (t_test (e_isN (d := .tuple [dP p, dT t]) (e_var rfl h2) e_c)) (fun z => Bool.noConfusion z) fun _ H1 g1 => ?_
    refine q_unp (d1 := dP p) (d2 := dT t) g1.fh (e_var rfl h2) fun v4 v5 F2 H2 g2 h4 h5 => ?_
    have g12 := g1.trans g2
    have hw := way_in' t ht d hd
    refine q_asg g12.fh (e_methR (x.rows, p, way t d) (e_ground T (e_var rfl (mw g12.ff))) (ea_cons (e_var rfl h4) (ea_cons (e_call (t, d) (ea_cons (e_var rfl h5) (ea_cons (e_var rfl (dpx g12.ff _ _ h3)) ea_nil)) ⟨ht, hd⟩) ea_nil)) rfl (fun fs F1 h => h.no (by decide)) ⟨R, ho, hw⟩) fun v6 F3 H3 g3 h6 => ?_
    have g13 := g12.trans g3
    have h6 : D K (dPo (OH.goes x.rows p (way t d))) v6 F3 := h6
    have hgo : ∀ q, OH.goes x.rows p (way t d) = some q → okP x.rows q = true := fun q hq => goes_ok R hw ho hq
    have hb : OH.behind x.rows (pagesM x) (some (p, t)) d = (match OH.goes x.rows p (way t d) with
        | none => none
        | some q => if q = p then some (p, t) else match (pagesM x).lookup (sgn x.rows q) with
          | some b => some (q, thenT t b)
          | none => some (q, t)) := rfl
    have k : ∀ v F' H', Gr F H F' H' → D K (dS (OH.behind x.rows (pagesM x) (some (p, t)) d)) v F' → Q v H' := k
    rw [hb] at k
    revert h6 hgo k
    generalize OH.goes x.rows p (way t d) = go
    intro h6 hgo k
    refine q_when g13.fh (b := decide (go = none) || decide (go = some p)) (t_or (t_test ((e_isN (e_var rfl h6) e_c).eq (by rw [nonD_Po]))) fun _ => t_test ((e_eqD (d := dPo go) (e := dPo (some p)) (e_var rfl h6) (e_var rfl (dpx g3.ff _ _ h4)) ?_ ?_).eq (by rw [eqv_Po]))) (fun hbb H4 g4 => ?_) fun hbb H4 g4 => ?_
    · cases go with
      | none => rfl
      | some q => exact (okP_ q).shaped (by decide)
    · exact (okP_ p).shaped (by decide)
    · have g14 := g13.trans g4
      cases go with
      | none =>
        exact s_ret g14.fh (P := D K .none) (e_if (b := true) (t_test (e_isN (d := .none) (e_var rfl h6) e_c)) (fun _ => e_c) (fun z => Bool.noConfusion z)) fun v F5 H5 g5 hv => k v F5 H5 (g14.trans g5) hv
      | some q =>
        have hq : q = p := by simpa using hbb
        refine s_ret g14.fh (P := D K (.tuple [dP p, dT t])) (e_if (b := false) (t_test (e_isN (d := dP q) (e_var rfl h6) e_c)) (fun z => Bool.noConfusion z) fun _ => e_var rfl (dpx g13.ff _ _ h2)) fun v F5 H5 g5 hv => k v F5 H5 (g14.trans g5) ?_
        simp only [if_pos hq]
        exact hv
    · have g14 := g13.trans g4
      cases go with
      | none => exact absurd hbb (by simp)
      | some q =>
        have hq : q ≠ p := by simpa using hbb
        have h6 : D K (dP q) v6 F3 := h6
        refine q_asg g14.fh (e_methR (x.rows, q) (e_ground T (e_var rfl (mw g14.ff))) (ea_cons (e_var rfl h6) ea_nil) rfl (fun fs F1 h => h.no (by decide)) R) fun v7 F5 H5 g5 h7 => ?_
        have g15 := g14.trans g5
        have h7 : D K (dC (sgn x.rows q)) v7 F5 := h7
        simp only [if_neg hq] at k
        have mt := dpx (g3.ff.trans g5.ff) _ _ h5
        by_cases hc : sgn x.rows q ∈ LETTERS
        · obtain ⟨b, hb1, hb2⟩ := (pagesOk W).look (in_letters R hc)
          rw [hb1] at k
          refine s_ret g15.fh (P := D K (.tuple [dP q, dT (thenT t b)])) (e_tup (ds := [dP q, dT (thenT t b)]) (ea_cons (e_var rfl (dpx g5.ff _ _ h6)) (ea_cons (e_if (b := true) (t_eq (t_test (e_inSign (e_var rfl h7) e_c)) ?_) (fun _ => e_call (t, b) (ea_cons (e_var rfl mt) (ea_cons (e_dget (e_pages T (e_var rfl (mw g15.ff))) (e_var rfl h7) fun kvs F1 _ h => ⟨V.str (S b), ?_, Dp.str _⟩) ea_nil)) ⟨ht, hb2⟩) (fun z => Bool.noConfusion z)) ea_nil))) fun v F6 H6 g6 hv => k v F6 H6 (g15.trans g6) hv
          · rw [letters_tl, decide_eq_true hc]
          · rw [h, val_bk, hb1]; rfl
        · rw [look_none W hc] at k
          refine s_ret g15.fh (P := D K (.tuple [dP q, dT t])) (e_tup (ds := [dP q, dT t]) (ea_cons (e_var rfl (dpx g5.ff _ _ h6)) (ea_cons (e_if (b := false) (t_eq (t_test (e_inSign (e_var rfl h7) e_c)) ?_) (fun z => Bool.noConfusion z) (fun _ => e_var rfl mt)) ea_nil))) fun v F6 H6 g6 hv => k v F6 H6 (g15.trans g6) hv
          rw [letters_tl, decide_eq_false hc]
def sp_World_after (K : PySem.W.Frag) : Sp := Pr (fun x : WdIn × Sd × Nat => [IsWd K x.1, D K (dS x.2.1), D K (dC x.2.2)]) (fun x => WdOk x.1 ∧ okS x.1.rows x.2.1 = true ∧ x.2.2 ∈ DEEDS) (fun x => D K (dS (OH.behind x.1.rows (pagesM x.1) x.2.1 x.2.2)))
theorem sc_World_after : FnScope ["self", "stand", "deed"] ["self", "stand", "deed"] (defScope s_World_after) := ⟨rfl, rfl, rfl, by decide +kernel, rfl, by decide +kernel, by decide +kernel⟩
set_option maxHeartbeats 2000000 in
theorem bd_World_after (T : Tt K mg) (M_want_stand : Met P w K mg base 8 (cW K) "want_stand" ["self", "thing"] (sp_World_want_stand K)) (G_want_deed : Cal P w K mg base 1 "want_deed" ["thing"] (sp_want_deed K)) (M_behind : Met P w K mg base 8 (cW K) "behind" ["self", "stand", "deed"] (sp_World_behind K)) : BodyOk P w K mg base 8 "World.after" s_World_after ["self", "stand", "deed"] (sp_World_after K) := by
  intro f cdv A outer s H vs Q E hr h
  have nd := sc_World_after.nd
  have hu := hu_of hr
  have hu64 := hr.units
  have hu65 : (A.deeper (envOfC "World.after" (defScope s_World_after) s.heap.objs.size f cdv)).units + 65 < cLine := by have := hr.un; omega
  obtain ⟨⟨x, s, d⟩, F, e, hA, ⟨W, hs, hd⟩, k⟩ := h
  obtain ⟨v, v2, v3, rfl, hv, h2, h3⟩ := all3 hA
  refine ⟨_, (pss_cons (ps_expr (p_meth M_want_stand hr (pv 0) (pa_cons (pv 1) pa_nil)))
      (pss_cons (ps_expr (p_call G_want_deed hr (pa_cons (pv 2) pa_nil)))
      (pss_one (ps_ret (p_meth M_behind hr (pv 0) (pa_cons (pv 1) (pa_cons (pv 2) pa_nil))))))), ?_⟩
  refine q_drop e (e_methR (x, s) (e_var rfl hv) (ea_cons (e_var rfl h2) ea_nil) rfl (fun fs F1 h => h.no (by decide)) ⟨W, hs⟩) fun H1 g1 => ?_
  refine q_drop g1.fh (e_call d (ea_cons (e_var rfl h3) ea_nil) hd) fun H2 g2 => ?_
  exact s_ret g2.fh (P := D K (dS (OH.behind x.rows (pagesM x) s d))) (e_methR (x, s, d) (e_var rfl hv) (ea_cons (e_var rfl h2) (ea_cons (e_var rfl h3) ea_nil)) rfl (fun fs F1 h => h.no (by decide)) ⟨W, hs, hd⟩) fun v F3 H3 g3 hv => k v F3 H3 ((g1.trans g2).trans g3) hv
def sp_World_wished (K : PySem.W.Frag) : Sp := Pr (fun x : WdIn × Sd => [IsWd K x.1, D K (dS x.2)]) (fun x => WdOk x.1 ∧ okS x.1.rows x.2 = true) (fun x => D K (.bool (OH.wished x.1.ws x.2)))
theorem e_inLT {σ : L2.St} {F : Hp} {ta tb : TE} {p : Pl} {ps : List Pl} (ha : EP ta σ F (D K (dP p))) (hb : EP tb σ F (LiT K ps)) : EP (tOp (rInDT K) ta tb) σ F (D K (.bool (decide (p ∈ ps)))) :=
  e_op0 ha hb fun _ _ _ _ _ b h1 ⟨qs, h2, h3, _⟩ _ q => ⟨dP p, qs.map dP, dpx b _ _ h1, dpx b _ _ h2, (okP_ p).shaped (by decide), (okTu (n := 1) (ds := qs.map dP) fun d hd => by obtain ⟨z, _, rfl⟩ := List.mem_map.mp hd; exact okP_ z).shaped (by decide), by
    have key : ((qs.map dP).any fun z => PyData.eqv z (dP p)) = decide (p ∈ ps) := by
      rw [any_of dP eqv_P]
      by_cases z : p ∈ ps
      · rw [decide_eq_true z, decide_eq_true_eq]; exact (h3 p).mpr z
      · rw [decide_eq_false z, decide_eq_false_iff_not]; exact fun y => z ((h3 p).mp y)
    rw [key]
    exact q _ (Dp.bl _)⟩
theorem sc_World_wished : FnScope ["self", "stand"] ["self", "stand"] (defScope s_World_wished) := ⟨rfl, rfl, rfl, by decide +kernel, rfl, by decide +kernel, by decide +kernel⟩
set_option maxHeartbeats 2000000 in
theorem bd_World_wished (T : Tt K mg) (M_want_stand : Met P w K mg base 8 (cW K) "want_stand" ["self", "thing"] (sp_World_want_stand K)) : BodyOk P w K mg base 8 "World.wished" s_World_wished ["self", "stand"] (sp_World_wished K) := by
  intro f cdv A outer s H vs Q E hr h
  have nd := sc_World_wished.nd
  have hu := hu_of hr
  have hu64 := hr.units
  have hu65 : (A.deeper (envOfC "World.wished" (defScope s_World_wished) s.heap.objs.size f cdv)).units + 65 < cLine := by have := hr.un; omega
  obtain ⟨⟨x, s⟩, F, e, hA, ⟨W, hs⟩, k⟩ := h
  obtain ⟨v, v2, rfl, hv, h2⟩ := all2 hA
  refine ⟨_, (pss_cons (ps_expr (p_meth M_want_stand hr (pv 0) (pa_cons (pv 1) pa_nil)))
      (pss_one (ps_ret (pe_and (pe_cmpR op_notN (pv 1) pe_non (nomark _)) (pe_one (pe_cmpR (op_inDT hu65) (pe_ix ix_tup (pv 1) pe_int (fun _ _ => rfl)) (pe_fld (pv 0) rfl) (by rfl))))))), ?_⟩
  refine q_drop e (e_methR (x, s) (e_var rfl hv) (ea_cons (e_var rfl h2) ea_nil) rfl (fun fs F1 h => h.no (by decide)) ⟨W, hs⟩) fun H1 g1 => ?_
  refine s_ret g1.fh (P := D K (.bool (OH.wished x.ws s))) ?_ fun v F3 H3 g3 hv => k v F3 H3 (g1.trans g3) hv
  match s, hs, h2 with
  | none, hs, h2 => exact (e_and (a := false) (b := false) (e_notN (d := .none) (e_var rfl h2) e_c) fun z => Bool.noConfusion z)
  | some (p, t), hs, h2 =>
    have h2 : D K (.tuple [dP p, dT t]) v2 F := h2
    exact (e_and (a := true) (e_notN (d := .tuple [dP p, dT t]) (e_var rfl h2) e_c) fun _ => e_inLT (e_ixT (d := dP p) (e_var rfl h2) e_c (atI_nat (j := 0) rfl)) (e_goals T (e_var rfl hv)))
end
end OL
-- OhZip
set_option maxHeartbeats 1000000
/-! zip of a list and a tuple of one length, strict=True. -/
namespace OZ
open PySem PyProof.Rows
/-- a strict zip, what it holds in its first field -/
abbrev SZip (h : Heap) (z TI TO : Addr) (f0 : Value) : Prop :=
  h.get? z = some { cls := .type "zip", dict := none, data := .fields #[f0, .bool false, .bool true, .ref TI, .ref TO], slots := #[] }
section
variable {prog : Program} {w : World} {A : Around} {E : Value → Shared → Prop} {s : Shared} {z TI TO i1 i2 l1 l2 : Addr} {k1 k2 : Nat} {xs ys : Array Value} {x y a b : Value}
theorem drawn {v : Value} {it : Value} {Q : Option Value → Shared → Prop} (h : wpAny (model prog w) A (Builtin.SmallTypes.nextOf it) (fun u s1 => Q (some u) s1) (fun e s1 => wpAny (model prog w) A (isInstance e (.type "StopIteration") >>= fun c => if c = true then pure none else throw e) Q E s1) s) :
    wpAny (model prog w) A (Builtin.SmallTypes.nextOrEnd it) Q E s := by
  unfold Builtin.SmallTypes.nextOrEnd
  refine wpAny_bind (wpAny_attempt ?_)
  exact wpAny_mono h (fun u s1 q => wpAny_pure q) fun e s1 q => q
theorem sz_item {Q : Value → Shared → Prop} (D : ZipApart z TI TO i1 i2 l1 l2)
    (hz : SZip s.heap z TI TO .none) (hTI : IsPair s.heap TI (.ref i1) (.ref i2)) (hTO : IsPair s.heap TO a b)
    (h1 : s.heap.IsListIter i1 l1 k1) (h2 : s.heap.IsTupleIter i2 l2 k2) (hl1 : s.heap.IsList l1 xs) (hl2 : s.heap.IsTuple l2 ys) (hx : xs[k1]? = some x) (hy : ys[k2]? = some y)
    (hQ : ∀ h', SZip h' z TI TO (rawInt s.heap.objs.size) → IsPair h' TO x y → h'.IsListIter i1 l1 (k1 + 1) → h'.IsTupleIter i2 l2 (k2 + 1) → IsPair h' s.heap.objs.size x y → h'.objs.size = s.heap.objs.size + 1 →
      (∀ c o, c ≠ z → c ≠ TO → c ≠ i1 → c ≠ i2 → s.heap.get? c = some o → h'.get? c = some o) → Q (.ref s.heap.objs.size) { s with heap := h' }) :
    wpAny (model prog w) A (Builtin.«zip.__next__» ⟨[.ref z], []⟩) (fun fin s' => ∃ v, fin = .done (.ret v) ∧ Q v s') E s := by
  show wpAny _ _ (field (.ref z) 2 >>= _) _ _ _
  refine wpAny_bind (wpAny_field hz rfl (x := .bool true) rfl ?_)
  show wpAny _ _ (field (.ref z) 3 >>= _) _ _ _
  refine wpAny_bind (wpAny_field hz rfl (x := .ref TI) rfl ?_)
  refine wpAny_bind (wpAny_seqItems hTI rfl ?_)
  show wpAny _ _ (Builtin.SmallTypes.ownedTupleIsFree (.ref z) >>= _) _ _ _
  refine wpAny_bind ?_
  unfold Builtin.SmallTypes.ownedTupleIsFree
  refine wpAny_bind (wpAny_field hz rfl (x := .none) rfl (wpAny_pure ?_))
  simp only [if_true]
  refine wpAny_bind (wpAny_rule ?_)
  refine wpAny_bind (wpAny_field hz rfl (x := .ref TO) rfl ?_)
  refine wpAny_bind (wpAny_setField_rec hz (by simp) fun g1 zz1 ss1 => ?_)
  replace zz1 : SZip g1 z TI TO .ellipsis := zz1
  refine wpAny_bind ?_
  simp only [List.zipIdx_cons, List.zipIdx_nil, List.forIn_cons, List.forIn_nil]
  refine wpAny_bind (wpAny_bind (wpAny_onRaise ?_))
  show wpAny _ _ (Builtin.SmallTypes.nextOrEnd (.ref i1)) _ _ _
  refine drawn (v := .none) (wpAny_nextOf_list_item (h1.extBut ss1.extBut D.i1z) (hl1.extBut ss1.extBut D.l1z) hx fun g2 m1 ss2 => ?_)
  have t2 : IsPair g2 TO a b := ss2.extBut _ _ D.TOi1 (ss1.extBut _ _ D.TOz hTO)
  refine wpAny_bind (wpAny_seqItems t2 rfl ?_)
  refine wpAny_bind (wpAny_updateSeq_pair t2 fun g3 t3 ss3 => ?_)
  replace t3 : IsPair g3 TO x b := t3
  refine wpAny_bind (wpAny_letGo (wpAny_pure ?_))
  refine wpAny_bind (wpAny_bind (wpAny_onRaise ?_))
  show wpAny _ _ (Builtin.SmallTypes.nextOrEnd (.ref i2)) _ _ _
  refine drawn (v := .none) (RZ.nextOf_tuple_item (((h2.extBut ss1.extBut D.i2z).extBut ss2.extBut D.i12.symm).extBut ss3.extBut D.TOi2.symm)
    (((hl2.extBut ss1.extBut D.l2z).extBut ss2.extBut D.l2i1).extBut ss3.extBut D.l2TO) hy fun g4 m2 ss4 => ?_)
  have t4 : IsPair g4 TO x b := ss4.extBut _ _ D.TOi2 t3
  refine wpAny_bind (wpAny_seqItems t4 rfl ?_)
  refine wpAny_bind (wpAny_updateSeq_pair t4 fun g5 t5 ss5 => ?_)
  replace t5 : IsPair g5 TO x y := t5
  refine wpAny_bind (wpAny_letGo (wpAny_pure (wpAny_pure ?_)))
  refine wpAny_bind (wpAny_seqItems t5 rfl ?_)
  refine wpAny_bind (wpAny_newTuple ?_)
  have hsz : g5.objs.size = s.heap.objs.size := by rw [ss5.1, ss4.1, ss3.1, ss2.1, ss1.1]
  have z5 : SZip g5 z TI TO .ellipsis := ss5.extBut _ _ D.TOz.symm (ss4.extBut _ _ D.i2z.symm (ss3.extBut _ _ D.TOz.symm (ss2.extBut _ _ D.i1z.symm zz1)))
  have k5 : ∀ c o, c ≠ z → c ≠ TO → c ≠ i1 → c ≠ i2 → s.heap.get? c = some o → g5.get? c = some o := fun c o c1 c2 c3 c4 e =>
    ss5.extBut _ _ c2 (ss4.extBut _ _ c4 (ss3.extBut _ _ c2 (ss2.extBut _ _ c3 (ss1.extBut _ _ c1 e))))
  have n1 : g5.IsListIter i1 l1 (k1 + 1) := ((m1.extBut ss3.extBut D.TOi1.symm).extBut ss4.extBut D.i12).extBut ss5.extBut D.TOi1.symm
  have n2 : g5.IsTupleIter i2 l2 (k2 + 1) := m2.extBut ss5.extBut D.TOi2.symm
  have zlt : z < g5.objs.size := Heap.lt_size z5
  show wpAny _ _ (Builtin.SmallTypes.ownedTupleHandOut (.ref z) (.ref g5.objs.size) >>= _) _ _ _
  refine wpAny_bind ?_
  unfold Builtin.SmallTypes.ownedTupleHandOut
  have z6 : SZip (g5.push { cls := .type "tuple", data := .seq #[x, y] }) z TI TO .ellipsis := Heap.get?_push_of_some _ z5
  refine wpAny_bind (wpAny_setField_rec z6 (by simp) fun g7 z7 ss7 => ?_)
  replace z7 : SZip g7 z TI TO (rawInt g5.objs.size) := z7
  refine wpAny_setField_rec z7 (by simp) fun g8 z8 ss8 => ?_
  replace z8 : SZip g8 z TI TO (rawInt g5.objs.size) := z8
  have up : ∀ c o, c ≠ z → g5.get? c = some o → g8.get? c = some o := fun c o c1 e => ss8.extBut _ _ c1 (ss7.extBut _ _ c1 (Heap.get?_push_of_some _ e))
  have t8 : IsPair g8 g5.objs.size x y := ss8.extBut _ _ (Nat.ne_of_gt zlt) (ss7.extBut _ _ (Nat.ne_of_gt zlt) (Heap.get?_push_size _ rfl))
  have s8 : g8.objs.size = g5.objs.size + 1 := by rw [ss8.1, ss7.1, Heap.size_push]
  rw [hsz] at z8 t8 s8
  refine wpAny_pure ⟨_, rfl, ?_⟩
  show Q (.ref g5.objs.size) _
  rw [hsz]
  exact hQ g8 z8 (up _ _ D.TOz t5) (n1.at fun o e => up _ o D.i1z e) (n2.at fun o e => up _ o D.i2z e) t8 s8 fun c o c1 c2 c3 c4 e => up c o c1 (k5 c o c1 c2 c3 c4 e)
theorem sz_end {Q : Fin → Shared → Prop} (hh : A.handled = none) (D : ZipApart z TI TO i1 i2 l1 l2)
    (hz : SZip s.heap z TI TO .none) (hTI : IsPair s.heap TI (.ref i1) (.ref i2)) (hTO : IsPair s.heap TO a b)
    (h1 : s.heap.IsListIter i1 l1 k1) (h2 : s.heap.IsTupleIter i2 l2 k2) (hl1 : s.heap.IsList l1 xs) (hl2 : s.heap.IsTuple l2 ys) (hx : xs[k1]? = none) (hy : ys[k2]? = none)
    (hE : ∀ h' e, (∀ c o, c ≠ z → c ≠ TO → c ≠ i1 → c ≠ i2 → s.heap.get? c = some o → h'.get? c = some o) → (∃ o, h'.get? e = some o ∧ o.cls = .type "StopIteration") → E (.ref e) { s with heap := h' }) :
    wpAny (model prog w) A (Builtin.«zip.__next__» ⟨[.ref z], []⟩) Q E s := by
  show wpAny _ _ (field (.ref z) 2 >>= _) _ _ _
  refine wpAny_bind (wpAny_field hz rfl (x := .bool true) rfl ?_)
  show wpAny _ _ (field (.ref z) 3 >>= _) _ _ _
  refine wpAny_bind (wpAny_field hz rfl (x := .ref TI) rfl ?_)
  refine wpAny_bind (wpAny_seqItems hTI rfl ?_)
  show wpAny _ _ (Builtin.SmallTypes.ownedTupleIsFree (.ref z) >>= _) _ _ _
  refine wpAny_bind ?_
  unfold Builtin.SmallTypes.ownedTupleIsFree
  refine wpAny_bind (wpAny_field hz rfl (x := .none) rfl (wpAny_pure ?_))
  simp only [if_true]
  refine wpAny_bind (wpAny_rule ?_)
  refine wpAny_bind (wpAny_field hz rfl (x := .ref TO) rfl ?_)
  refine wpAny_bind (wpAny_setField_rec hz (by simp) fun g1 zz1 ss1 => ?_)
  replace zz1 : SZip g1 z TI TO .ellipsis := zz1
  refine wpAny_bind ?_
  simp only [List.zipIdx_cons, List.zipIdx_nil, List.forIn_cons, List.forIn_nil]
  refine wpAny_bind (wpAny_bind (wpAny_onRaise ?_))
  show wpAny _ _ (Builtin.SmallTypes.nextOrEnd (.ref i1)) _ _ _
  refine drawn (v := .none) (wpAny_nextOf_list_end hh (h1.extBut ss1.extBut D.i1z) (hl1.extBut ss1.extBut D.l1z) hx fun g2 e ss2 he => ?_)
  obtain ⟨oe, hoe, hce⟩ := he
  refine wpAny_bind (wpAny_isInstance (T := "StopIteration") (b := true) ⟨oe, hoe, hce⟩ isSubtype_stop ?_)
  refine wpAny_pure ?_
  have zz2 : SZip g2 z TI TO .ellipsis := ss2 _ _ D.i1z.symm zz1
  refine wpAny_bind (wpAny_setField_rec zz2 (by simp) fun g3 _ ss3 => ?_)
  refine wpAny_bind ?_
  refine wpAny_bind ?_
  show wpAny _ _ (forIn [(Value.ref i2, 1)] PUnit.unit _) _ _ _
  simp only [List.forIn_cons, List.forIn_nil]
  refine wpAny_bind (wpAny_bind ?_)
  have e2 : Heap.ExtBut z g2 g3 := ss3.extBut
  refine drawn (v := .none) (RZ.nextOf_tuple_end hh (((h2.extBut ss1.extBut D.i2z).extBut ss2 D.i12.symm).extBut e2 D.i2z)
    (((hl2.extBut ss1.extBut D.l2z).extBut ss2 D.l2i1).extBut e2 D.l2z) hy fun g4 f ss4 hf => ?_)
  obtain ⟨of, hof, hcf⟩ := hf
  refine wpAny_bind (wpAny_isInstance (T := "StopIteration") (b := true) ⟨of, hof, hcf⟩ isSubtype_stop ?_)
  refine wpAny_pure ?_
  rw [if_neg (show ¬ ((none : Option Value).isSome = true) from Bool.false_ne_true)]
  refine wpAny_pure (wpAny_pure (wpAny_bind (wpAny_rule ?_)))
  show wpAny _ _ (newExc (.type "StopIteration") [] >>= _) _ _ _
  refine wpAny_bind ?_
  simp only [newExc, newTuple]
  refine wpAny_bind (wpAny_newObj_type ?_ (by size_fits))
  refine wpAny_bind (m := firstArgMember _ _) (wpAny_of_eq (a := Value.none) (by first | rfl | (simp only [firstArgMember]; rfl)) ?_)
  refine wpAny_newObj_type ?_ (by size_fits)
  simp only [raiseNew]
  refine wpAny_bind (wpAny_handled ?_)
  first | rw [show A.in1.handled = none from hh] | rw [hh]
  refine wpAny_bind (wpAny_pure (wpAny_throw ?_))
  exact hE _ _ (fun c o c1 _ c3 c4 q => Heap.get?_push_of_some _ (Heap.get?_push_of_some _ (ss4 _ _ c4 (e2 _ _ c1 (ss2 _ _ c3 (ss1.extBut _ _ c1 q)))))) ⟨_, Heap.get?_push_size _ rfl, rfl⟩
theorem sz_next_item {Q : Option Value → Shared → Prop} (D : ZipApart z TI TO i1 i2 l1 l2)
    (hz : SZip s.heap z TI TO .none) (hTI : IsPair s.heap TI (.ref i1) (.ref i2)) (hTO : IsPair s.heap TO a b)
    (h1 : s.heap.IsListIter i1 l1 k1) (h2 : s.heap.IsTupleIter i2 l2 k2) (hl1 : s.heap.IsList l1 xs) (hl2 : s.heap.IsTuple l2 ys) (hx : xs[k1]? = some x) (hy : ys[k2]? = some y)
    (hQ : ∀ h', SZip h' z TI TO (rawInt s.heap.objs.size) → IsPair h' TO x y → h'.IsListIter i1 l1 (k1 + 1) → h'.IsTupleIter i2 l2 (k2 + 1) → IsPair h' s.heap.objs.size x y → h'.objs.size = s.heap.objs.size + 1 →
      (∀ c o, c ≠ z → c ≠ TO → c ≠ i1 → c ≠ i2 → s.heap.get? c = some o → h'.get? c = some o) → Q (some (.ref s.heap.objs.size)) { s with heap := h' }) :
    wpAny (model prog w) A (pyNext (.ref z)) Q E s := by
  have hT : s.TypeIs (.ref z) "zip" := ⟨_, hz, rfl⟩
  unfold pyNext
  exact wpAny_bind (wpAny_attempt (wpAny_callSpecial?_slot (name := Str.ofString "__next__") hT F.slot_zip_next
    (wpAny_call_entry F.slot_zip_next hT F.entry_zip_next (sz_item D hz hTI hTO h1 h2 hl1 hl2 hx hy fun h' a1 a2 a3 a4 a5 a6 a7 => wpAny_pure (hQ h' a1 a2 a3 a4 a5 a6 a7)) (F.args_zip_next_1 _))))
theorem sz_next_end {Q : Option Value → Shared → Prop} (hh : A.handled = none) (D : ZipApart z TI TO i1 i2 l1 l2)
    (hz : SZip s.heap z TI TO .none) (hTI : IsPair s.heap TI (.ref i1) (.ref i2)) (hTO : IsPair s.heap TO a b)
    (h1 : s.heap.IsListIter i1 l1 k1) (h2 : s.heap.IsTupleIter i2 l2 k2) (hl1 : s.heap.IsList l1 xs) (hl2 : s.heap.IsTuple l2 ys) (hx : xs[k1]? = none) (hy : ys[k2]? = none)
    (hQ : ∀ h', (∀ c o, c ≠ z → c ≠ TO → c ≠ i1 → c ≠ i2 → s.heap.get? c = some o → h'.get? c = some o) → Q none { s with heap := h' }) : wpAny (model prog w) A (pyNext (.ref z)) Q E s := by
  have hT : s.TypeIs (.ref z) "zip" := ⟨_, hz, rfl⟩
  unfold pyNext
  refine wpAny_bind (wpAny_attempt (wpAny_callSpecial?_slot (name := Str.ofString "__next__") hT F.slot_zip_next
    (wpAny_call_entry F.slot_zip_next hT F.entry_zip_next (sz_end hh D hz hTI hTO h1 h2 hl1 hl2 hx hy fun h' e hk he => ?_) (F.args_zip_next_1 _))))
  obtain ⟨o, ho, hc⟩ := he
  refine wpAny_bind (wpAny_isInstance (T := "StopIteration") (b := true) ⟨o, ho, hc⟩ isSubtype_stop ?_)
  exact wpAny_pure (hQ _ hk)
/-! ### zip(l, t, strict=True): its five new cells -/
theorem typeCall_zipS (a b c : Value) : checkTypeCall "zip" ⟨[a, b], [(Str.ofString "strict", c)]⟩ = pure () := by kernel_rfl
theorem newCall_zipS (a b c : Value) : checkBuiltinCall "zip.__new__" ⟨[.type "zip", a, b], [(Str.ofString "strict", c)]⟩ = pure () := by kernel_rfl
theorem args_initS (o a b c : Value) : argsOk "object.__init__" ⟨[o, a, b], [(Str.ofString "strict", c)]⟩ := by unfold argsOk; kernel_rfl
abbrev sH1 (h : Heap) (l1 : Addr) : Heap := h.push { cls := .type "list_iterator", data := .fields #[.ref l1, .int 0 0] }
abbrev sH2 (h : Heap) (l1 l2 : Addr) : Heap := (sH1 h l1).push { cls := .type "tuple_iterator", data := .fields #[.ref l2, .int 0 0] }
abbrev sH3 (h : Heap) (l1 l2 : Addr) : Heap := (sH2 h l1 l2).push { cls := .type "tuple", data := .seq #[.ref h.objs.size, .ref (sH1 h l1).objs.size] }
abbrev sH4 (h : Heap) (l1 l2 : Addr) : Heap := (sH3 h l1 l2).push { cls := .type "tuple", data := .seq #[.none, .none] }
abbrev sH5 (h : Heap) (l1 l2 : Addr) : Heap := (sH4 h l1 l2).push { cls := .type "zip", data := .fields #[.none, .bool false, .bool true, .ref (sH2 h l1 l2).objs.size, .ref (sH3 h l1 l2).objs.size] }
theorem meets_zipS (l1 l2 : Addr) (xs ys : Array Value) :
    Meets (Builtin.«zip.__new__» ⟨[.type "zip", .ref l1, .ref l2], [(Str.ofString "strict", .bool true)]⟩) (fun _ R s => s.heap.IsList l1 xs ∧ s.heap.IsTuple l2 ys ∧
      R (.ok (.ret (.ref (sH4 s.heap l1 l2).objs.size))) { s with heap := sH5 s.heap l1 l2 }) :=
  .of_wp fun prog w A R s h => by
    obtain ⟨hp, g, d, tk, os⟩ := s; obtain ⟨hl1, hl2, h⟩ := h
    have hsub := sub_zip
    have e2 : (Str.ofString "strict" != ("strict" : Str)) = false := by decide +kernel
    have hL1 : Heap.IsList (Shared.heap ⟨hp, g, d, tk, os⟩) l1 xs := hl1
    have hL2 : Heap.IsTuple (Shared.heap ⟨hp.push { cls := .type "list_iterator", data := .fields #[.ref l1, .int 0 0] }, g, d, tk, os⟩) l2 ys := Heap.IsTuple.push hl2 _
    wp_walk using wpAny_pyIter_list hL1, wpAny_pyIter_tuple hL2
    exact ⟨_, rfl, h⟩
theorem call_zipS {xs ys : Array Value} {l1 l2 : Addr} {Q : Value → Shared → Prop} (hl1 : s.heap.IsList l1 xs) (hl2 : s.heap.IsTuple l2 ys)
    (h : ∀ h', SZip h' (s.heap.objs.size + 4) (s.heap.objs.size + 2) (s.heap.objs.size + 3) .none → IsPair h' (s.heap.objs.size + 2) (.ref s.heap.objs.size) (.ref (s.heap.objs.size + 1)) →
      IsPair h' (s.heap.objs.size + 3) .none .none → h'.IsListIter s.heap.objs.size l1 0 → h'.IsTupleIter (s.heap.objs.size + 1) l2 0 → h'.objs.size = s.heap.objs.size + 5 →
      (∀ c o, s.heap.get? c = some o → h'.get? c = some o) → Q (.ref (s.heap.objs.size + 4)) { s with heap := h' }) :
    wpAny (model prog w) A (call (.type "zip") [.ref l1, .ref l2] [(Str.ofString "strict", .bool true)]) Q E s := by
  refine callType_newKw F.called_zip (by decide) (typeCall_zipS _ _ _) (newCall_zipS _ _ _) (fun obj => args_initS obj _ _ _) F.entry_zip_new (meets_zipS l1 l2 xs ys) ⟨hl1, hl2, ?_⟩
  have z1 : (sH1 s.heap l1).objs.size = s.heap.objs.size + 1 := Heap.size_push ..
  have z2 : (sH2 s.heap l1 l2).objs.size = s.heap.objs.size + 2 := by rw [Heap.size_push, z1]
  have z3 : (sH3 s.heap l1 l2).objs.size = s.heap.objs.size + 3 := by rw [Heap.size_push, z2]
  have z4 : (sH4 s.heap l1 l2).objs.size = s.heap.objs.size + 4 := by rw [Heap.size_push, z3]
  have z5 : (sH5 s.heap l1 l2).objs.size = s.heap.objs.size + 5 := by rw [Heap.size_push, z4]
  have g5 : (sH5 s.heap l1 l2).get? (sH4 s.heap l1 l2).objs.size = some _ := Heap.get?_push_size _ rfl
  have g4 : (sH5 s.heap l1 l2).get? (sH3 s.heap l1 l2).objs.size = some _ := Heap.get?_push_of_some _ (Heap.get?_push_size _ rfl)
  have g3 : (sH5 s.heap l1 l2).get? (sH2 s.heap l1 l2).objs.size = some _ := Heap.get?_push_of_some _ (Heap.get?_push_of_some _ (Heap.get?_push_size _ rfl))
  have g2 : (sH5 s.heap l1 l2).get? (sH1 s.heap l1).objs.size = some _ := Heap.get?_push_of_some _ (Heap.get?_push_of_some _ (Heap.get?_push_of_some _ (Heap.get?_push_size _ rfl)))
  have g1 : (sH5 s.heap l1 l2).get? s.heap.objs.size = some _ := Heap.get?_push_of_some _ (Heap.get?_push_of_some _ (Heap.get?_push_of_some _ (Heap.get?_push_of_some _ (Heap.get?_push_size _ rfl))))
  show _ ∧ _
  rw [z2, z3, z4] at g5
  rw [z1, z2] at g3
  rw [z3] at g4
  rw [z1] at g2
  rw [z4]
  exact ⟨⟨_, g5, rfl⟩, h _ g5 g3 g4 ⟨_, g1, rfl, rfl⟩ ⟨_, g2, rfl, rfl⟩ z5 fun c o x => Heap.get?_push_of_some _ (Heap.get?_push_of_some _ (Heap.get?_push_of_some _ (Heap.get?_push_of_some _ (Heap.get?_push_of_some _ x))))⟩
theorem go_zipS {elts : List Expr} {x1} {pos : Pos} {z TI TO T : Addr} {Q : Unit → Shared → Prop} (hz : SZip s.heap z TI TO (rawInt T))
    (hQ : ∀ h', SZip h' z TI TO .none → Heap.SameBut z s.heap h' → Q () { s with heap := h' }) : wpAny (model prog w) A (letOwnedTupleGo (.Tuple elts x1 pos) (.ref z) (.ref T)) Q E s := by
  unfold letOwnedTupleGo
  refine wpAny_bind (wpAny_load hz ?_)
  show wpAny _ _ (if (["enumerate", "zip", "dict_itemiterator", "dict_reverseitemiterator", "odict_iterator", "itertools.zip_longest", "itertools.pairwise"].contains "zip" &&
      (#[rawInt T, .bool false, .bool true, .ref TI, .ref TO] : Array Value)[0]? == some (rawInt T)) = true then _ else _) Q E s
  rw [if_pos (by simp)]
  refine wpAny_bind (wpAny_rule ?_)
  show wpAny _ _ (setField (.ref z) 0 .none) Q E s
  exact wpAny_setField_rec hz (by simp) fun h' hz' hs' => hQ h' hz' hs'
theorem iter_zipS {z TI TO : Addr} {f0 : Value} {Q : Value → Shared → Prop} (hz : SZip s.heap z TI TO f0) (h : Q (.ref z) s) : wpAny (model prog w) A (pyIter (.ref z)) Q E s := by
  have hT : s.TypeIs (.ref z) "zip" := ⟨_, hz, rfl⟩
  refine wpAny_pyIter_slot hT F.slot_zip_iter (wpAny_call_entry F.slot_zip_iter hT F.entry_zip_iter ?_ (F.args_zip_iter_1 _))
  show wpAny _ _ (ret (.ref z)) _ _ s
  exact wpAny_pure ⟨_, rfl, "zip", _, hT, F.slot_zip_next.lookup, h⟩
end
open PyProof.Rows L2 in
/-- the list at a and the tuple at b as they stand at each turn, the items in new pairs -/
def ItzS (K : PySem.W.Frag) (a b : Addr) : It :=
  ⟨fun i H => ∃ (xs ys : List V) (x y : V), SqL K H a xs ∧ SqT K H b ys ∧ xs[i]? = some x ∧ ys[i]? = some y,
    fun i H v H' => ∃ T x y, v = .ref T ∧ H T = none ∧ H' = upd H T (.tup [x, y]) ∧ (∀ xs, SqL K H a xs → xs[i]? = some x) ∧ ∀ ys, SqT K H b ys → ys[i]? = some y,
    fun i H => ∃ xs ys : List V, SqL K H a xs ∧ SqT K H b ys ∧ xs.length ≤ i ∧ ys.length ≤ i⟩
open PyProof.Rows L2 in
theorem turn_zipS {P : Program} {w : World} {K : PySem.W.Frag} {elts : List Expr} {kk : Nat} {tpos : Pos} {a b z TI TO i1 i2 : Addr} (D : ZipApart z TI TO i1 i2 a b) :
    Turn P w K (.Tuple elts kk tpos) (ItzS K a b) [z, TI, TO, i1, i2] z (fun i h => SZip h z TI TO .none ∧ IsPair h TI (.ref i1) (.ref i2) ∧ (∃ x y, IsPair h TO x y) ∧ h.IsListIter i1 a i ∧ h.IsTupleIter i2 b i) where
  mem := by simp
  obj := fun i h st c hc => by
    obtain ⟨hz, hTI, ⟨x, y, hTO⟩, ⟨o1, e1, _, d1⟩, ⟨o2, e2, _, d2⟩⟩ := st
    have e' : c = z ∨ c = TI ∨ c = TO ∨ c = i1 ∨ c = i2 := by simpa using hc
    rcases e' with q | q | q | q | q
    · rw [q]; exact ⟨_, hz, fun v q => nomatch q⟩
    · rw [q]; exact ⟨_, hTI, fun v q => nomatch q⟩
    · rw [q]; exact ⟨_, hTO, fun v q => nomatch q⟩
    · rw [q]; exact ⟨o1, e1, fun v q => by rw [d1] at q; cases q⟩
    · rw [q]; exact ⟨o2, e2, fun v q => by rw [d2] at q; cases q⟩
  keep := fun i h h' st k => by
    obtain ⟨hz, hTI, ⟨x, y, hTO⟩, h1, h2⟩ := st
    exact ⟨k z (by simp) _ hz, k TI (by simp) _ hTI, ⟨x, y, k TO (by simp) _ hTO⟩, h1.at fun o q => k i1 (by simp) o q, h2.at fun o q => k i2 (by simp) o q⟩
  item := by
    intro X hP hw hK hc i pins s σ H E I hf st hg
    subst hP hw hK
    obtain ⟨hz, hTI, ⟨x0, y0, hTO⟩, h1, h2⟩ := st
    obtain ⟨xs, ys, x, y, hqx, hqy, hx, hy⟩ := hg
    obtain ⟨its, rv, p, _⟩ := I.list hqx
    obtain ⟨its2, rv2, p2, _⟩ := I.tuple hqy
    obtain ⟨u, hu, ru⟩ := rv.get hx
    obtain ⟨u2, hu2, ru2⟩ := rv2.get hy
    have hzl : z < s.heap.objs.size := Heap.lt_size hz
    refine sz_next_item D hz hTI hTO h1 h2 p.isList p2 (x := u) (y := u2) (by simpa using hu) (by simpa using hu2) fun h' z' TO' h1' h2' hT hsz hk => ?_
    refine ⟨_, rfl, go_zipS (s := { s with heap := h' }) z' fun h'' z'' sb => ?_⟩
    have hT2 : h''.get? s.heap.objs.size = some { cls := .type "tuple", data := .seq #[u, u2] } := (sb.2 _ (Nat.ne_of_gt hzl)).trans hT
    have new : ObjOk X.prog X.w (upd H s.heap.objs.size (.tup [x, y])) h'' s.heap.objs.size (.tup [x, y]) :=
      ⟨by show 2 ≤ sizeLine; decide, [u, u2], .cons ru (.cons ru2 .nil), ⟨_, hT2, rfl, _, rfl⟩⟩
    have I1 : Inv X pins σ (upd H s.heap.objs.size (.tup [x, y])) { s with heap := h'' } :=
      I.turnedNew (t' := s.toks) (ch := [z, TI, TO, i1, i2]) (fun c o hb q => (sb.2 c (fun q' => hb (by simp [q']))).trans (hk c o (fun q' => hb (by simp [q'])) (fun q' => hb (by simp [q'])) (fun q' => hb (by simp [q'])) (fun q' => hb (by simp [q'])) q)) hf (Nat.le_refl _) new
    refine ⟨.ref s.heap.objs.size, _, I1, rfl, ⟨_, x, y, rfl, I.hok.fresh (Nat.le_refl _), rfl, fun l hl => by rw [I.list_inj hl hqx]; exact hx, fun l hl => by rw [I.tuple_inj hl hqy]; exact hy⟩, ⟨z'', ?_, ⟨u, u2, ?_⟩, ?_, ?_⟩, fun c hcm => ?_⟩
    · exact (sb.2 _ D.TIz).trans (hk _ _ D.TIz D.TITO D.TIi1 D.TIi2 hTI)
    · exact (sb.2 _ D.TOz).trans TO'
    · exact h1'.at fun o q => (sb.2 _ D.i1z).trans q
    · exact h2'.at fun o q => (sb.2 _ D.i2z).trans q
    · have hlt : c < s.heap.objs.size := by
        have e' : c = z ∨ c = TI ∨ c = TO ∨ c = i1 ∨ c = i2 := by simpa using hcm
        rcases e' with q | q | q | q | q
        · rw [q]; exact hzl
        · rw [q]; exact Heap.lt_size hTI
        · rw [q]; exact Heap.lt_size hTO
        · rw [q]; obtain ⟨_, e1, _⟩ := h1; exact Heap.lt_size e1
        · rw [q]; obtain ⟨_, e2, _⟩ := h2; exact Heap.lt_size e2
      rw [upd_ne (Nat.ne_of_lt hlt)]
      exact (hf c hcm).1
  done := by
    intro X hP hw hK hc i pins s σ H E I hf st hg
    subst hP hw hK
    obtain ⟨hz, hTI, ⟨x0, y0, hTO⟩, h1, h2⟩ := st
    obtain ⟨xs, ys, hqx, hqy, he1, he2⟩ := hg
    obtain ⟨its, rv, p, _⟩ := I.list hqx
    obtain ⟨its2, rv2, p2, _⟩ := I.tuple hqy
    have n1 := rv.length
    have n2 := rv2.length
    exact sz_next_end (I.ok.hd hc) D hz hTI hTO h1 h2 p.isList p2 (by simp; omega) (by simp; omega) fun h' hk => ⟨rfl, I.turnedL (t' := s.toks) (ch := [z, TI, TO, i1, i2]) (fun c o hb q =>
      hk c o (fun q' => hb (by simp [q'])) (fun q' => hb (by simp [q'])) (fun q' => hb (by simp [q'])) (fun q' => hb (by simp [q'])) q) hf⟩
  self := fun A i s Q E st h => iter_zipS st.1 h
/-! ### T(e, .., k = v), T a built-in type -/
section
variable {M : Model} {A : Around} {E : Value → Shared → Prop} {s : Shared} {env : Env}
theorem callWith_typeKwB {pos : Pos} {T : String} {first : List Value} {args : List (Bool × Sem Value)} {keywords : List (Option Str × Sem Value)} {Q : Value → Shared → Prop}
    (hplain : args.any (·.1) = false) (hkw : keywords.any (·.1.isNone) = false)
    (h : wpAny M A (evalArgs (.type T) true args keywords) (fun a s₁ => wpAny M A (call (.type T) (first ++ a.pos) a.kw) Q E s₁) E s) :
    wpAny M A (callWith pos (.type T) first args keywords) Q E s := by
  unfold callWith
  refine wpAny_bind (wpAny_holding (wpAny_mono h (fun a s₁ h₁ => wpAny_bind (wpAny_standAt ?_)) fun _ _ x => x))
  simp only [hplain, hkw, Bool.or_false]
  refine wpAny_bind (wpAny_pure ?_)
  exact wpAny_bind (wpAny_mono h₁ (fun r s₂ hr => wpAny_bind (wpAny_holding (wpAny_point (wpAny_pure hr)))) fun _ _ x => x)
theorem callWith_typeKw {pos : Pos} {T : String} {e : Expr} {rest : List Expr} {kws : List Keyword} {Q : Value → Shared → Prop}
    (h : wpAny M A (spliced (backTo pos (starEach (e :: rest) env))) (fun vs s₁ => wpAny M A (evalAll ((backToKw pos (keywordEach kws env)).map (·.2)))
      (fun kvs s₂ => wpAny M A (call (.type T) vs (((backToKw pos (keywordEach kws env)).filterMap (·.1)).zip kvs)) Q E s₂) E s₁) E s)
    (he : backTo pos (starEach (e :: rest) env) = (false, eval e env) :: backTo pos (starEach rest env) := by rfl)
    (hplain : (backTo pos (starEach (e :: rest) env)).any (·.1) = false := by rfl)
    (hall : (backToKw pos (keywordEach kws env)).all (·.1.isSome) = true := by rfl)
    (hkw : (backToKw pos (keywordEach kws env)).any (·.1.isNone) = false := by rfl) :
    wpAny M A (callWith pos (.type T) [] (backTo pos (starEach (e :: rest) env)) (backToKw pos (keywordEach kws env))) Q E s := by
  refine callWith_typeKwB hplain hkw ?_
  rw [he] at h ⊢
  exact evalArgs_kwB hall h
end
open L2 in
def iZipS (K : PySem.W.Frag) (ta : TA) : TI := fun σ H R => ta σ H fun vs H1 => ∃ a b xs ys, vs = [.ref a, .ref b] ∧ SqL K H1 a xs ∧ SqT K H1 b ys ∧ R (ItzS K a b) H1
open L2 in
theorem pi_zipS {X : Cx} {e e2 : Expr} {ta : TA} {p pos tpos ap kp : Pos} {elts : List Expr} {kk aj : Nat} (hg : Gl X "zip") (hm : X.mg "zip" = none) (ha : PA X [e, e2] ta)
    (he : backTo pos (starEach [e, e2] X.env) = (false, eval e X.env) :: backTo pos (starEach [e2] X.env) := by rfl) (hpl : (backTo pos (starEach [e, e2] X.env)).any (·.1) = false := by rfl) :
    PI X (.Tuple elts kk tpos) (.Call (.Name "zip" p) [e, e2] [⟨some "strict", (.Constant (.bool true) aj ap), kp⟩] pos) (iZipS X.K ta) := by
  refine ⟨fun pins s σ H R I h => ?_⟩
  refine wpAny_Call_Name_kw (ld_blt I hg hm PyProof.Rows.boot_zip ?_)
  refine callWith_typeKw (thn (ha.run pos pins s σ H _ I h) fun us s1 ⟨vs, H1, I1, r1, q1⟩ => kws_cons (Constant_bool (kws_nil ?_))) he hpl rfl rfl
  obtain ⟨a, b, xs, ys, rfl, hqx, hqy, q⟩ := q1
  cases r1 with
  | cons r rr =>
    cases rr with
    | cons r' rr =>
      cases rr
      cases r
      cases r'
      have fresh5 : ∀ c, c ∈ [s1.heap.objs.size + 4, s1.heap.objs.size + 2, s1.heap.objs.size + 3, s1.heap.objs.size, s1.heap.objs.size + 1] → FpOk X pins H1 c := fun c hcm => by
        have e' : c = s1.heap.objs.size + 4 ∨ c = s1.heap.objs.size + 2 ∨ c = s1.heap.objs.size + 3 ∨ c = s1.heap.objs.size ∨ c = s1.heap.objs.size + 1 := by simpa using hcm
        have hle : s1.heap.objs.size ≤ c := by
          rcases e' with z | z | z | z | z <;> rw [z] <;> omega
        exact I1.fpOk hle (I1.hok.fresh hle)
      obtain ⟨its, rv, p1, _⟩ := I1.list hqx
      obtain ⟨its2, rv2, p2, _⟩ := I1.tuple hqy
      obtain ⟨o1, ho1, _⟩ := id p2
      refine call_zipS p1.isList (show s1.heap.IsTuple b its2.toArray from p2) fun h' hz hTI hTO h1 h2 hsz hk => iter_zipS hz ?_
      have I2 : Inv X pins σ H1 { s1 with heap := h' } := I1.kept (t' := s1.toks) hk
      exact ⟨s1.heap.objs.size + 4, [s1.heap.objs.size + 4, s1.heap.objs.size + 2, s1.heap.objs.size + 3, s1.heap.objs.size, s1.heap.objs.size + 1], _, _, H1, rfl, I2, turn_zipS (PySem.W.ktu_apart s1.heap.objs.size a b p1.lt (Heap.lt_size ho1)), ⟨hz, hTI, ⟨_, _, hTO⟩, h1, h2⟩, fresh5, q⟩
end OZ
-- OhOne
set_option maxHeartbeats 1000000
/-! Tuples and lists of one thing that is no data; lists under way. -/
namespace OL
open PySem PySem.Spec PyProof.Rows L2
open SX (S)
open Evl (Ex)
open OH
section
variable {K : PySem.W.Frag}
def TupP (K : PySem.W.Frag) (Ps : List Ds) : Ds := fun v H => ∃ a xs, v = .ref a ∧ SqT K H a xs ∧ AllP Ps xs H
def LstP (K : PySem.W.Frag) (Ps : List Ds) : Ds := fun v H => ∃ a xs, v = .ref a ∧ SqL K H a xs ∧ AllP Ps xs H
instance {Ps : List Ds} [m : MnL Ps] : Mn (TupP K Ps) := ⟨fun e ⟨a, xs, h1, h2, h3⟩ => ⟨a, xs, h1, Evl.ex_t e h2, m.mn e h3⟩⟩
instance {Ps : List Ds} [m : MnL Ps] : Mn (LstP K Ps) := ⟨fun e ⟨a, xs, h1, h2, h3⟩ => ⟨a, xs, h1, Evl.ex_l e h2, m.mn e h3⟩⟩
theorem tyL {H : Hp} {a : Addr} {xs : List V} (hs : SqL K H a xs) : TyX K H (.ref a) (.type "list") := by
  rcases hs with (h | ⟨o, h⟩) | ⟨o, its, n, hk, hc, _⟩
  · exact .base (.lst h)
  · exact .base (.frz h)
  · exact .kList hk hc
theorem tyT {H : Hp} {a : Addr} {xs : List V} (hs : SqT K H a xs) : TyX K H (.ref a) (.type "tuple") := by
  rcases hs with (h | ⟨o, h⟩) | ⟨o, its, n, hk, hc, _⟩
  · exact .base (.tup h)
  · exact .fTuple h
  · exact .kTuple hk hc
theorem tup_data {ds : List PyData} {v : V} {H : Hp} (h : D K (.tuple ds) v H) : TupP K (ds.map (D K)) v H := by
  obtain ⟨a, xs, e, h1, h2⟩ := dTup h
  refine ⟨a, xs, e, h1, ?_⟩
  clear e h1 h
  induction ds generalizing xs with
  | nil => cases h2; exact trivial
  | cons d ds ih =>
    cases h2 with
    | cons q1 q2 => exact ⟨q1, ih _ q2⟩
variable {σ : L2.St} {F H : Hp} {ta tb te tc : TE} {P P1 P2 : Ds} {Ps : List Ds}
theorem e_isiT2P {n m : String} {b : Bool} (ha : EP ta σ F (LstP K Ps)) (h : PySem.W.kitAny K (.type "list") [.type n, .type m] = some b) : EP (tCB (rIsiT K) (tCons ta (tCons (tTup (tCons (tC (.ty n)) (tCons (tC (.ty m)) tNil))) tNil))) σ F (D K (.bool b)) := fun F1 H1 e c Q q =>
  ha F1 H1 e c _ fun v F2 H2 g hv => by
    obtain ⟨a, xs, rfl, h1, h2⟩ := hv
    exact ⟨line_of (by show 2 ≤ 100000; decide), fun p hp => ⟨.ref a, p, _, _, _, b, rfl, upd_same, .cons (.ty n) (.cons (.ty m) .nil), tyL (Evl.ex_l ((Gr.new g.fh hp).fh) (Evl.ex_l (Gr.new g.fh hp).ff h1)), h, q _ _ _ (g.trans (Gr.new g.fh hp)) (Dp.bl b)⟩⟩
theorem e_lenLP (ha : EP ta σ F (LstP K Ps)) : EP (tCB (rLen K) (tCons ta tNil)) σ F (D K (.int Ps.length)) := fun F1 H1 e c Q q =>
  ha F1 H1 e c _ fun v F2 H2 g hv => by
    obtain ⟨a, xs, rfl, h1, h2⟩ := hv
    exact ⟨a, xs, rfl, .inl (Evl.ex_l g.fh h1), q _ F2 H2 g (by rw [h2.len]; exact Dp.int _)⟩
theorem e_lenTP (ha : EP ta σ F (TupP K Ps)) : EP (tCB (rLen K) (tCons ta tNil)) σ F (D K (.int Ps.length)) := fun F1 H1 e c Q q =>
  ha F1 H1 e c _ fun v F2 H2 g hv => by
    obtain ⟨a, xs, rfl, h1, h2⟩ := hv
    exact ⟨a, xs, rfl, .inr (Evl.ex_t g.fh h1), q _ F2 H2 g (by rw [h2.len]; exact Dp.int _)⟩
theorem e_tupLP [m : MnL Ps] (ha : EP ta σ F (LstP K Ps)) : EP (tCB (rTupOf K) (tCons ta tNil)) σ F (TupP K Ps) := fun F1 H1 e c Q q =>
  ha F1 H1 e c _ fun v F2 H2 g hv => by
    obtain ⟨a, xs, rfl, h1, h2⟩ := hv
    exact ⟨a, xs, rfl, .inl ⟨Evl.ex_l g.fh h1, fun p hp => q _ _ _ (g.trans (Gr.new g.fh hp)) ⟨p, xs, rfl, Evl.st_of upd_same, m.mn (Ex.new (ex_none g.fh hp)) h2⟩⟩⟩
theorem e_lstTP [m : MnL Ps] (ha : EP ta σ F (TupP K Ps)) : EP (tCB (rListOf K) (tCons ta tNil)) σ F (LstP K Ps) := fun F1 H1 e c Q q =>
  ha F1 H1 e c _ fun v F2 H2 g hv => by
    obtain ⟨a, xs, rfl, h1, h2⟩ := hv
    exact ⟨a, xs, rfl, .inr (Evl.ex_t g.fh h1), fun p hp => q _ _ _ (g.trans (Gr.new g.fh hp)) ⟨p, xs, rfl, Evl.sq_of upd_same, m.mn (Ex.new (ex_none g.fh hp)) h2⟩⟩
/-- a list written -/
theorem e_lstP {t : TA} [m : MnL Ps] (h : EA t σ F Ps) (hl : Nat.ble Ps.length 100000 = true := by rfl) : EP (tLst t) σ F (LstP K Ps) := fun F1 H1 e c Q q =>
  h F1 H1 e c _ fun vs F2 H2 g hs => ⟨line_of (by have := hs.len; have := Nat.le_of_ble_eq_true hl; omega), fun p hp => q (.ref p) _ _ (g.trans (Gr.new g.fh hp)) ⟨p, vs, rfl, Evl.sq_of upd_same, m.mn (Ex.new (ex_none g.fh hp)) hs⟩⟩
theorem e_tupPs {t : TA} [m : MnL Ps] (h : EA t σ F Ps) (hl : Nat.ble Ps.length 100000 = true := by rfl) : EP (tTup t) σ F (TupP K Ps) := fun F1 H1 e c Q q =>
  h F1 H1 e c _ fun vs F2 H2 g hs => ⟨line_of (by have := hs.len; have := Nat.le_of_ble_eq_true hl; omega), fun p hp => q (.ref p) _ _ (g.trans (Gr.new g.fh hp)) ⟨p, vs, rfl, Evl.st_of upd_same, m.mn (Ex.new (ex_none g.fh hp)) hs⟩⟩
/-! ### walks of one item -/
structure DW1 (J : It) (F0 : Hp) (P : Ds) : Prop where
  goes : ∀ F H, Ex F0 F → Ex F H → J.go 0 H
  stops : ∀ F H, Ex F0 F → Ex F H → J.stop 1 H
  yields : ∀ F H x H', Ex F0 F → Ex F H → J.yld 0 H x H' → ∃ F', Gr F H F' H' ∧ P x F'
def E1 (wi : TI) (σ : L2.St) (F : Hp) (P : Ds) : Prop := ∀ F1 H1, Ex F F1 → Ex F1 H1 → ∀ R : It → Hp → Prop, (∀ J F2 H2, Gr F1 H1 F2 H2 → DW1 J F2 P → R J H2) → wi σ H1 R
/-- the tuple at p, of one item -/
theorem i1_tup [m : Mn P] (h : EP te σ F (TupP K [P])) : E1 (iTup K te) σ F P := fun F1 H1 e b R r =>
  h F1 H1 e b _ fun v F2 H2 g hv => by
    obtain ⟨a, xs, rfl, h1, h2⟩ := hv
    obtain ⟨x, rfl, hx⟩ := all1 h2
    refine ⟨a, rfl, ⟨_, Evl.ex_t g.fh h1⟩, r _ F2 H2 g ⟨fun F H e1 e2 => ⟨_, x, Evl.ex_t (e1.trans e2) h1, rfl⟩, fun F H e1 e2 => ⟨_, Evl.ex_t (e1.trans e2) h1, Nat.le_refl _⟩, fun F H y H' e1 e2 hy => ?_⟩⟩
    obtain ⟨e3, hy⟩ := hy
    have e4 := hy _ (Evl.ex_t (e1.trans e2) h1)
    cases e4
    subst e3
    exact ⟨F, Gr.refl e2, m.mn e1 hx⟩
theorem i1_list [m : Mn P] (h : EP te σ F (LstP K [P])) : E1 (iList K te) σ F P := fun F1 H1 e b R r =>
  h F1 H1 e b _ fun v F2 H2 g hv => by
    obtain ⟨a, xs, rfl, h1, h2⟩ := hv
    obtain ⟨x, rfl, hx⟩ := all1 h2
    refine ⟨a, rfl, ⟨_, Evl.ex_l g.fh h1⟩, r _ F2 H2 g ⟨fun F H e1 e2 => ⟨_, x, Evl.ex_l (e1.trans e2) h1, rfl⟩, fun F H e1 e2 => ⟨_, Evl.ex_l (e1.trans e2) h1, Nat.le_refl _⟩, fun F H y H' e1 e2 hy => ?_⟩⟩
    obtain ⟨e3, hy⟩ := hy
    have e4 := hy _ (Evl.ex_l (e1.trans e2) h1)
    cases e4
    subst e3
    exact ⟨F, Gr.refl e2, m.mn e1 hx⟩
/-- zip of two tuples of one item -/
theorem i1_zipT {t : TA} [m1 : Mn P1] [m2 : Mn P2] (h : EA t σ F [TupP K [P1], TupP K [P2]]) : E1 (RZ.iZipA K t) σ F (TupP K [P1, P2]) := fun F1 H1 e b R r =>
  h F1 H1 e b _ fun vs F2 H2 g hv => by
    obtain ⟨v, w, rfl, ⟨a, xs, rfl, h1, h2⟩, c, ys, rfl, h3, h4⟩ := all2 hv
    obtain ⟨x, rfl, hx⟩ := all1 h2
    obtain ⟨y, rfl, hy⟩ := all1 h4
    refine ⟨a, c, _, _, rfl, .inr ⟨Evl.ex_t g.fh h1, Evl.ex_t g.fh h3, r _ F2 H2 g ⟨fun F H e1 e2 => ⟨_, _, x, y, Evl.ex_t (e1.trans e2) h1, Evl.ex_t (e1.trans e2) h3, rfl, rfl⟩, fun F H e1 e2 => ⟨_, _, Evl.ex_t (e1.trans e2) h1, Evl.ex_t (e1.trans e2) h3, .inl (Nat.le_refl _)⟩, fun F H z H' e1 e2 hz => ?_⟩⟩⟩
    obtain ⟨T, x', y', rfl, hT, rfl, f1, f2⟩ := hz
    have q1 := f1 _ (Evl.ex_t (e1.trans e2) h1)
    have q2 := f2 _ (Evl.ex_t (e1.trans e2) h3)
    cases q1
    cases q2
    have hF := ex_none e2 hT
    exact ⟨_, Gr.new e2 hT, T, _, rfl, Evl.st_of upd_same, m1.mn (e1.trans (Ex.new hF)) hx, m2.mn (e1.trans (Ex.new hF)) hy, trivial⟩
/-- zip of a list and a tuple of one item, strict -/
theorem i1_zipS {t : TA} [m1 : Mn P1] [m2 : Mn P2] (h : EA t σ F [LstP K [P1], TupP K [P2]]) : E1 (OZ.iZipS K t) σ F (TupP K [P1, P2]) := fun F1 H1 e b R r =>
  h F1 H1 e b _ fun vs F2 H2 g hv => by
    obtain ⟨v, w, rfl, ⟨a, xs, rfl, h1, h2⟩, c, ys, rfl, h3, h4⟩ := all2 hv
    obtain ⟨x, rfl, hx⟩ := all1 h2
    obtain ⟨y, rfl, hy⟩ := all1 h4
    refine ⟨a, c, _, _, rfl, Evl.ex_l g.fh h1, Evl.ex_t g.fh h3, r _ F2 H2 g ⟨fun F H e1 e2 => ⟨_, _, x, y, Evl.ex_l (e1.trans e2) h1, Evl.ex_t (e1.trans e2) h3, rfl, rfl⟩, fun F H e1 e2 => ⟨_, _, Evl.ex_l (e1.trans e2) h1, Evl.ex_t (e1.trans e2) h3, Nat.le_refl _, Nat.le_refl _⟩, fun F H z H' e1 e2 hz => ?_⟩⟩
    obtain ⟨T, x', y', rfl, hT, rfl, f1, f2⟩ := hz
    have q1 := f1 _ (Evl.ex_l (e1.trans e2) h1)
    have q2 := f2 _ (Evl.ex_t (e1.trans e2) h3)
    cases q1
    cases q2
    have hF := ex_none e2 hT
    exact ⟨_, Gr.new e2 hT, T, _, rfl, Evl.st_of upd_same, m1.mn (e1.trans (Ex.new hF)) hx, m2.mn (e1.trans (Ex.new hF)) hy, trivial⟩
/-- the list of one -/
theorem e_lc1 {g : TG} {wi : TI} {d : PyData} {vs : List Nat} (h : E1 wi σ F P)
    (ht : ∀ v F1 H1, Ex F F1 → Ex F1 H1 → P v F1 → ∀ R : L2.St → Hp → Prop, (∀ σ2, wipe σ2 vs = wipe σ vs → EP te σ2 F1 (D K d) → R σ2 H1) → g v (wipe σ vs) H1 R) : EP (tLc wi g tYes te vs) σ F (D K (.list [d])) := fun F1 H1 e b Q k =>
  h F1 H1 e b _ fun J F2 H2 g2 w => by
    intro Dl hD
    have hF2 : F2 Dl = none := ex_none g2.fh hD
    refine ⟨fun i m H' => m = 1 - i ∧ ((i = 0 ∧ ∃ F', Gr F2 H2 F' H' ∧ H' Dl = some (.lst []) ∧ F' Dl = none) ∨ (i = 1 ∧ ∃ F' y, Gr F2 H2 F' H' ∧ H' Dl = some (.lst [y]) ∧ F' Dl = none ∧ D K d y F')), ⟨1, rfl, .inl ⟨rfl, F2, Gr.own g2.fh hD, upd_same, hF2⟩⟩, ?_⟩
    rintro i m H' ⟨rfl, ⟨rfl, F', gg, hl, hn⟩ | ⟨rfl, F', y, gg, hl, hn, hy⟩⟩
    · refine .inr ⟨w.goes F' H' gg.ff gg.fh, fun H4 => ∃ F' y, Gr F2 H2 F' H4 ∧ H4 Dl = some (.lst [y]) ∧ F' Dl = none ∧ D K d y F', fun H4 p' => ⟨0, by decide, rfl, .inr ⟨rfl, p'⟩⟩, fun x H3 yy => ?_⟩
      obtain ⟨F3, g3, hx⟩ := w.yields F' H' x H3 gg.ff gg.fh yy
      refine ht x F3 H3 ((e.trans g2.ff).trans (gg.ff.trans g3.ff)) g3.fh hx _ fun σ2 hw hte => ⟨hw, ?_⟩
      unfold tYes
      refine iteT (hte.go g3.fh fun y F5 H5 g5 hy => ?_)
      have hl5 := g5.hh _ _ (g3.hh _ _ hl)
      have hn5 := g5.nw _ _ (g3.hh _ _ hl) (g3.nw _ _ hl hn)
      exact ⟨[], hl5, by show 0 < sizeLine; exact Nat.lt_of_lt_of_le (show 0 < 100000 by decide) (by decide), F5, y, ((gg.trans g3).trans g5).mut hD hn5, upd_same, hn5, hy⟩
    · exact .inl ⟨w.stops F' H' gg.ff gg.fh, k _ _ _ (g2.trans (gg.fix hD hl)) (Dp.lst (Evl.sq_of upd_same) (.cons (dpx (Ex.new hn) _ _ hy) .nil))⟩
/-- a pair of names as the target -/
theorem g_pair {i j : Nat} {v : V} {Q : L2.St → Hp → Prop} (e : Ex F H) (hv : TupP K [P1, P2] v F) (k : ∀ v w, P1 v F → P2 w F → Q ((σ.set i (some v)).set j (some w)) H) : gTup K 2 (gCons (gName i) (gCons (gName j) gNil)) v σ H Q := by
  obtain ⟨a, xs, rfl, h1, h2⟩ := hv
  obtain ⟨x, y, rfl, hx, hy⟩ := all2 h2
  exact ⟨a, _, rfl, Evl.ex_t e h1, rfl, _, _, rfl, _, _, rfl, rfl, k _ _ hx hy⟩
/-- a for over one item -/
theorem s_for1 {g : TG} {wi : TI} {tu : TS} {Dn : Ends} (e : Ex F H) (h : E1 wi σ F P)
    (hs : ∀ F1 H1, Gr F H F1 H1 → ∀ x F2 H2, Gr F1 H1 F2 H2 → P x F2 → g x σ H2 fun σ3 H3 => tu { Dn with nx := fun σ4 H4 => ∃ F4, Ex F1 F4 ∧ Ex F4 H4 ∧ Dn.nx σ4 H4, ct := fun σ4 H4 => ∃ F4, Ex F1 F4 ∧ Ex F4 H4 ∧ Dn.nx σ4 H4, bk := Dn.nx } σ3 H3) :
    tFor wi g tu Dn σ H := h F H (Ex.refl F) e _ fun J F1 H1 g1 w => by
  refine ⟨fun i m σ' H' => (i = 0 ∧ m = 1 ∧ σ' = σ ∧ H' = H1) ∨ (i = 1 ∧ m = 0 ∧ ∃ F4, Ex F1 F4 ∧ Ex F4 H' ∧ Dn.nx σ' H'), ⟨1, .inl ⟨rfl, rfl, rfl, rfl⟩⟩, ?_⟩
  rintro i m σ' H' (⟨rfl, rfl, rfl, rfl⟩ | ⟨rfl, rfl, F4, e4, e5, q⟩)
  · refine .inr ⟨w.goes F1 H' (Ex.refl _) g1.fh, fun σ4 H4 => ∃ F4, Ex F1 F4 ∧ Ex F4 H4 ∧ Dn.nx σ4 H4, fun σ4 H4 p => ⟨0, by decide, .inr ⟨rfl, rfl, p⟩⟩, fun x H2 y => ?_⟩
    obtain ⟨F2, g2, hx⟩ := w.yields F1 H' x H2 (Ex.refl _) g1.fh y
    exact hs F1 H' g1 x F2 H2 g2 hx
  · exact .inl ⟨w.stops F4 H' e4 e5, q⟩
theorem q_for1 {g : TG} {wi : TI} {tu tz : TS} {Dn : Ends} (e : Ex F H) (h : E1 wi σ F P)
    (hs : ∀ F1 H1, Gr F H F1 H1 → ∀ x F2 H2, Gr F1 H1 F2 H2 → P x F2 → g x σ H2 fun σ3 H3 => tu { Dn with nx := fun σ4 H4 => ∃ F4, Ex F1 F4 ∧ Ex F4 H4 ∧ tz Dn σ4 H4, ct := fun σ4 H4 => ∃ F4, Ex F1 F4 ∧ Ex F4 H4 ∧ tz Dn σ4 H4, bk := tz Dn } σ3 H3) :
    tSeq (tFor wi g tu) tz Dn σ H := s_for1 (Dn := { Dn with nx := tz Dn }) e h hs
/-! ### lists under way -/
structure Own (K : PySem.W.Frag) (F0 H0 F H : Hp) (l : Addr) (ds : List PyData) : Prop where
  g : Gr F0 H0 F H
  h0 : H0 l = none
  fl : F l = none
  xs : ∃ xs, H l = some (.lst xs) ∧ DpAll K F xs ds
variable {F0 H0 F1 H1 : Hp} {l : Addr} {ds : List PyData} {tz : TS} {Dn : Ends} {d : PyData}
theorem Own.gr (o : Own K F0 H0 F H l ds) (g : Gr F H F1 H1) : Own K F0 H0 F1 H1 l ds := by
  obtain ⟨xs, h1, h2⟩ := o.xs
  exact ⟨o.g.trans g, o.h0, g.nw _ _ h1 o.fl, xs, g.hh _ _ h1, dpxs g.ff _ _ h2⟩
theorem Own.fix (o : Own K F0 H0 F H l ds) : ∃ F', Gr F0 H0 F' H ∧ Ex F F' ∧ D K (.list ds) (.ref l) F' := by
  obtain ⟨xs, h1, h2⟩ := o.xs
  exact ⟨upd F l (.lst xs), o.g.fix o.h0 h1, Ex.new o.fl, Dp.lst (Evl.sq_of upd_same) (dpxs (Ex.new o.fl) _ _ h2)⟩
theorem Own.len (o : Own K F0 H0 F H l ds) {n : Nat} (hn : ds.length ≤ n) (hz : Nat.ble (n + 1) 100000 = true) : ∃ xs, H l = some (.lst xs) ∧ xs.length < sizeLine ∧ DpAll K F xs ds := by
  obtain ⟨xs, h1, h2⟩ := o.xs
  refine ⟨xs, h1, ?_, h2⟩
  have := dlen h2
  have := Nat.le_of_ble_eq_true hz
  exact Nat.lt_of_lt_of_le (show xs.length < 100000 by omega) (by decide)
/-- found = [..] -/
theorem q_own {t : TA} {i : Nat} (e : Ex F H) (h : EA t σ F (ds.map (D K))) (hl : Nat.ble ds.length 100000 = true) (k : ∀ l F1 H1, Own K F H F1 H1 l ds → tz Dn (σ.set i (some (.ref l))) H1) : tSeq (tAsg (tLst t) (gName i)) tz Dn σ H := h F H (Ex.refl F) e _ fun vs F1 H1 g hs =>
  ⟨line_of (by have := dlen (allD hs); have := Nat.le_of_ble_eq_true hl; omega), fun p hp => by
    refine k p F1 _ ⟨g.trans (Gr.own g.fh hp), ?_, ex_none g.fh hp, vs, upd_same, allD hs⟩
    cases z : H p with
    | none => rfl
    | some o => rw [g.hh _ _ z] at hp; cases hp⟩
/-- found.append(..) -/
theorem s_app {i n : Nat} (o : Own K F0 H0 F H l ds) (hs : σ[i]? = some (some (.ref l))) (hn : ds.length ≤ n) (hz : Nat.ble (n + 1) 100000 = true) (h : EP te σ F (D K d)) (k : ∀ F1 H1, Own K F0 H0 F1 H1 l (ds ++ [d]) → Ex F F1 → Dn.nx σ H1) :
    tDrop (tBM K "list" rAppend (tVar i) (tCons te tNil)) Dn σ H := by
  obtain ⟨xs, h1, h2⟩ := o.xs
  refine ⟨.ref l, hs, .inl ⟨rfl, xs, Evl.sq_of h1⟩, h.go o.g.fh fun v F1 H1 g hv => ?_⟩
  have o1 := o.gr g
  obtain ⟨ys, h3, h4, h5⟩ := o1.len hn hz
  exact ⟨l, ys, v, rfl, rfl, h3, h4, k F1 _ ⟨o1.g.mut o1.h0 o1.fl, o1.h0, o1.fl, _, upd_same, dsnoc h5 hv⟩ g.ff⟩
theorem q_app {i n : Nat} (o : Own K F0 H0 F H l ds) (hs : σ[i]? = some (some (.ref l))) (hn : ds.length ≤ n) (hz : Nat.ble (n + 1) 100000 = true) (h : EP te σ F (D K d)) (k : ∀ F1 H1, Own K F0 H0 F1 H1 l (ds ++ [d]) → Ex F F1 → tz Dn σ H1) :
    tSeq (tDrop (tBM K "list" rAppend (tVar i) (tCons te tNil))) tz Dn σ H := s_app (Dn := { Dn with nx := tz Dn }) o hs hn hz h k
/-- return found -/
theorem s_retOwn {i : Nat} (o : Own K F0 H0 F H l ds) (hs : σ[i]? = some (some (.ref l))) (k : ∀ v F' H', Gr F0 H0 F' H' → D K (.list ds) v F' → Dn.rt v H') : tRet (tVar i) Dn σ H := by
  obtain ⟨F', g, _, hd⟩ := o.fix
  exact ⟨.ref l, hs, k _ F' H g hd⟩
end
end OL
-- OhW7
set_option maxHeartbeats 1000000
/-! The walk, part 7: hands of one world, wishes. -/
namespace OL
open PySem PySem.Spec PyProof.Rows L2
open SX (S)
open Evl (Ex)
open OH
def rIsC (C : Addr) : List V → Hp → VK → Prop := fun xs H Q => ∃ a dx fs, xs = [V.ref a, V.ref C] ∧ H a = some (.ins C dx fs) ∧ Q (.bl true) H
def RHd (K : PySem.W.Frag) (x : WdIn) : List (Str × V) → Hp → Prop := fun fs H => ∃ t, fs = [(("ones" : Str), t)] ∧ TupP K [IsWd K x] t H
instance {K : PySem.W.Frag} {x : WdIn} : MnF (RHd K x) := ⟨fun e ⟨t, h1, h2⟩ => ⟨t, h1, (inferInstance : Mn (TupP K [IsWd K x])).mn e h2⟩⟩
/-- a hand of the one world -/
abbrev IsHd (K : PySem.W.Frag) (x : WdIn) : Ds := InsR (cH K) (RHd K x)
theorem RHd.no {K : PySem.W.Frag} {x : WdIn} {fs : List (Str × V)} {H : Hp} {m : Str} (hm : (m == "ones") = false) (h : RHd K x fs H) : fs.lookup m = none := by
  obtain ⟨t, rfl, _⟩ := h
  simp [List.lookup, hm]
/-- the one stand -/
def dOne (s : Sd) : PyData := .tuple [dS s]
/-- what the search walks over -/
def dTh (s : Sd) : PyData := .tuple [dOne s, .tuple []]
section
variable {P : Program} {w : World} {K : PySem.W.Frag} {mg : Str → Option Value} {base : Heap}
theorem e_ones {σ : L2.St} {F : Hp} {ta : TE} {x : WdIn} (T : Tt K mg) (h : EP ta σ F (IsHd K x)) : EP (tFld K ta "ones") σ F (TupP K [IsWd K x]) :=
  e_fldR h T.k_Hand T.n_ones fun fs F1 _ ⟨t, h0, h1⟩ => ⟨t, by rw [h0]; rfl, h1⟩
def sp_are_worlds (K : PySem.W.Frag) : Sp := Pr (fun x : WdIn => [LstP K [IsWd K x]]) (fun _ => True) (fun _ => D K (.bool true))
theorem sc_are_worlds : FnScope ["thing", "one"] ["thing"] (defScope s_are_worlds) := ⟨rfl, rfl, rfl, by decide +kernel, rfl, by decide +kernel, by decide +kernel⟩
set_option maxHeartbeats 2000000 in
theorem bd_are_worlds (T : Tt K mg)  : BodyOk P w K mg base 0 "are_worlds" s_are_worlds ["thing", "one"] (sp_are_worlds K) := by
  intro f cdv A outer s H vs Q E hr h
  have nd := sc_are_worlds.nd
  have hu := hu_of hr
  have hu64 := hr.units
  have hu65 : (A.deeper (envOfC "are_worlds" (defScope s_are_worlds) s.heap.objs.size f cdv)).units + 65 < cLine := by have := hr.un; omega
  obtain ⟨x, F, e, hA, _, k⟩ := h
  obtain ⟨v, rfl, hv⟩ := all1 hA
  refine ⟨_, (pss_cons (ps_if (PW.pt (pw_or (pt_not (pt_val (pe_callB (id := "isinstance") call_isiT (by rfl) T.f_isinstance boot_isinstance (pa_cons (pv 0) (pa_cons (pe_tup (pa_cons (pe_bltn (v := .ty "list") (by rfl) T.f_list (by decide +kernel) rfl) (pa_cons (pe_bltn (v := .ty "tuple") (by rfl) T.f_tuple (by decide +kernel) rfl) pa_nil))) pa_nil))))) (pw_or1 (pt_not (pt_chain op_le op_le pe_int (pe_callB (id := "len") call_len_seq (by rfl) T.f_len boot_len (pa_cons (pv 0) pa_nil)) (p_gi T.i_MOST_WORLDS)))))) (pss_one (ps_ret pe_bl)) pss_nil)
      (pss_one (ps_ret (pe_callB (id := "all") (show CallR _ (.builtin "all") (rAll K) from cr_all rfl) (by rfl) T.f_all (by decide +kernel) (pa_cons (pe_lc (own := [("one", 1)]) (by rfl) nd (pi_list (pv 0)) (blkOk_by (N := ["thing", "one"]) (sc := defScope s_are_worlds) (own := [("one", 1)]) (by decide +kernel)) (fun _ _ _ _ _ => (pg_name (i := 1) nd rfl (Or.inl rfl))) (fun _ _ _ _ _ => pts_nil) (fun _ _ _ _ _ => (pe_callB (id := "isinstance") (show CallR _ (.builtin "isinstance") (rIsC (cW K)) from C8.call_isC T.i_World) (by rfl) T.f_isinstance boot_isinstance (pa_cons (pv 1) (pa_cons (p_gr T.c_World) pa_nil))))) pa_nil))))), ?_⟩
  refine q_when e (b := false) (t_eq (t_or (t_not (t_B (e_isiT2P (b := true) (e_var rfl hv) rfl))) fun _ => t_not (t_test (e_chain (i := 1) (j := 1) (k := 4) (p1 := fun i j => decide (i ≤ j)) (p2 := fun i j => decide (i ≤ j)) e_c (e_lenLP (e_var rfl hv)) e_c))) (by decide)) (fun z => Bool.noConfusion z) fun _ H1 g1 => ?_
  refine s_ret g1.fh (P := D K (.bool true)) (e_all (bs := [true]) (e_lc1 (P := IsWd K x) (i1_list (e_var rfl hv)) fun u F1 H2 e1 b hu R q => q _ rfl (e_isC (e_var rfl hu) fun v F1 ⟨a, dx, fs, h1, h2, _⟩ => ⟨a, dx, fs, h1, h2⟩))) fun v F3 H3 g3 hv => k v F3 H3 (g1.trans g3) hv
def sp_Hand_init (K : PySem.W.Frag) : Sp := PrI (cH K) (fun x : WdIn => [LstP K [IsWd K x]]) (fun _ => True) (fun x => RHd K x)
theorem sc_Hand_init : FnScope ["self", "worlds"] ["self", "worlds"] (defScope s_Hand_init) := ⟨rfl, rfl, rfl, by decide +kernel, rfl, by decide +kernel, by decide +kernel⟩
set_option maxHeartbeats 2000000 in
theorem bd_Hand_init (T : Tt K mg) (G_are_worlds : Cal P w K mg base 1 "are_worlds" ["thing"] (sp_are_worlds K)) : BodyOk P w K mg base 1 "Hand.__init__" s_Hand_init ["self", "worlds"] (sp_Hand_init K) := by
  intro f cdv A outer s H vs Q E hr h
  have nd := sc_Hand_init.nd
  have hu := hu_of hr
  have hu64 := hr.units
  have hu65 : (A.deeper (envOfC "Hand.__init__" (defScope s_Hand_init) s.heap.objs.size f cdv)).units + 65 < cLine := by have := hr.un; omega
  obtain ⟨y, dx, rest, x, F, rfl, hx, e, hn, hA, _, k⟩ := h
  obtain ⟨v, rfl, hv⟩ := all1 hA
  refine ⟨_, (pss_cons (ps_if (pt_not (pt_val (p_call G_are_worlds hr (pa_cons (pv 1) pa_nil)))) (pss_one ps_never) pss_nil)
      (pss_one (ps_fld (pv 0) (pe_callTy (T := "tuple") call_tuple_of (by rfl) T.f_tuple (by decide +kernel) (pa_cons (pv 1) pa_nil)) rfl))), ?_⟩
  refine q_fine e (t_eq (t_not (t_B (e_call x (ea_cons (e_var rfl hv) ea_nil) trivial))) rfl) fun H1 g1 => ?_
  have i0 := (Ini.start hx e hn).gr g1
  refine s_fld (P := TupP K [IsWd K x]) i0 rfl T.k_Hand T.n_ones (by decide) (e_tupLP (e_var rfl hv)) fun u1 F3 H3 i1 e3 hu1 => i1.done k ⟨u1, rfl, hu1⟩
def sp_Hand_worlds (K : PySem.W.Frag) : Sp := Pr (fun x : WdIn => [IsHd K x]) (fun _ => True) (fun x => LstP K [IsWd K x])
theorem sc_Hand_worlds : FnScope ["self"] ["self"] (defScope s_Hand_worlds) := ⟨rfl, rfl, rfl, by decide +kernel, rfl, by decide +kernel, by decide +kernel⟩
set_option maxHeartbeats 2000000 in
theorem bd_Hand_worlds (T : Tt K mg)  : BodyOk P w K mg base 0 "Hand.worlds" s_Hand_worlds ["self"] (sp_Hand_worlds K) := by
  intro f cdv A outer s H vs Q E hr h
  have nd := sc_Hand_worlds.nd
  have hu := hu_of hr
  have hu64 := hr.units
  have hu65 : (A.deeper (envOfC "Hand.worlds" (defScope s_Hand_worlds) s.heap.objs.size f cdv)).units + 65 < cLine := by have := hr.un; omega
  obtain ⟨x, F, e, hA, _, k⟩ := h
  obtain ⟨v, rfl, hv⟩ := all1 hA
  refine ⟨_, (pss_one (ps_ret (pe_callTy (T := "list") (call_list_of) (by rfl) T.f_list (by decide +kernel) (pa_cons (pe_fld (pv 0) rfl) pa_nil)))), ?_⟩
  exact s_ret e (P := LstP K [IsWd K x]) (e_lstTP (e_ones T (e_var rfl hv))) fun v F3 H3 g3 hv => k v F3 H3 g3 hv
def sp_Hand_start (K : PySem.W.Frag) : Sp := Pr (fun x : WdIn => [IsHd K x]) (fun _ => True) (fun x => D K (dOne (some (x.begin, x.turn))))
theorem sc_Hand_start : FnScope ["self", "world"] ["self"] (defScope s_Hand_start) := ⟨rfl, rfl, rfl, by decide +kernel, rfl, by decide +kernel, by decide +kernel⟩
set_option maxHeartbeats 2000000 in
theorem bd_Hand_start (T : Tt K mg) (M_start : Met P w K mg base 1 (cW K) "start" ["self"] (sp_World_start K)) : BodyOk P w K mg base 1 "Hand.start" s_Hand_start ["self", "world"] (sp_Hand_start K) := by
  intro f cdv A outer s H vs Q E hr h
  have nd := sc_Hand_start.nd
  have hu := hu_of hr
  have hu64 := hr.units
  have hu65 : (A.deeper (envOfC "Hand.start" (defScope s_Hand_start) s.heap.objs.size f cdv)).units + 65 < cLine := by have := hr.un; omega
  obtain ⟨x, F, e, hA, _, k⟩ := h
  obtain ⟨v, rfl, hv⟩ := all1 hA
  refine ⟨_, (pss_one (ps_ret (pe_callTy (T := "tuple") call_tuple_of (by rfl) T.f_tuple (by decide +kernel) (pa_cons (pe_lc (own := [("world", 1)]) (by rfl) nd (pi_tup (pe_fld (pv 0) rfl)) (blkOk_by (N := ["self", "world"]) (sc := defScope s_Hand_start) (own := [("world", 1)]) (by decide +kernel)) (fun _ _ _ _ _ => (pg_name (i := 1) nd rfl (Or.inl rfl))) (fun _ _ _ _ _ => pts_nil) (fun _ _ _ _ _ => (p_meth0 M_start hr (pv 1)))) pa_nil)))), ?_⟩
  exact s_ret e (P := D K (dOne (some (x.begin, x.turn)))) (e_tupL (e_lc1 (P := IsWd K x) (d := dS (some (x.begin, x.turn))) (i1_tup (e_ones T (e_var rfl hv))) fun u F1 H2 e1 b hu R q => q _ rfl (e_methR x (e_var rfl hu) ea_nil rfl (fun fs F1 h => h.no (by decide)) trivial))) fun v F3 H3 g3 hv => k v F3 H3 g3 hv
def sp_Hand_want_stands (K : PySem.W.Frag) : Sp := Pr (fun x : WdIn × Sd => [IsHd K x.1, D K (dOne x.2)]) (fun x => WdOk x.1 ∧ okS x.1.rows x.2 = true) (fun _ => D K .none)
theorem sc_Hand_want_stands : FnScope ["self", "thing", "world", "stand"] ["self", "thing"] (defScope s_Hand_want_stands) := ⟨rfl, rfl, rfl, by decide +kernel, rfl, by decide +kernel, by decide +kernel⟩
set_option maxHeartbeats 2000000 in
theorem bd_Hand_want_stands (T : Tt K mg) (M_floor : Met P w K mg base 1 (cW K) "floor" ["self"] (sp_World_floor K)) (G_is_stand : Cal P w K mg base 7 "is_stand" ["floor", "thing"] (sp_is_stand K)) : BodyOk P w K mg base 7 "Hand.want_stands" s_Hand_want_stands ["self", "thing", "world", "stand"] (sp_Hand_want_stands K) := by
  intro f cdv A outer s H vs Q E hr h
  have nd := sc_Hand_want_stands.nd
  have hu := hu_of hr
  have hu64 := hr.units
  have hu65 : (A.deeper (envOfC "Hand.want_stands" (defScope s_Hand_want_stands) s.heap.objs.size f cdv)).units + 65 < cLine := by have := hr.un; omega
  obtain ⟨⟨x, s⟩, F, e, hA, ⟨W, hs⟩, k⟩ := h
  obtain ⟨v, v2, rfl, hv, h2⟩ := all2 hA
  have h2 : D K (.tuple [dS s]) v2 F := h2
  refine ⟨_, (pss_cons (ps_if (PW.pt (pw_or (pt_not (pt_val (pe_callB (id := "isinstance") call_isi (by rfl) T.f_isinstance boot_isinstance (pa_cons (pv 1) (pa_cons (pe_bltn (v := .ty "tuple") (by rfl) T.f_tuple (by decide +kernel) rfl) pa_nil))))) (pw_or1 (pt_cmpR op_ne (pe_callB (id := "len") call_len_seq (by rfl) T.f_len boot_len (pa_cons (pv 1) pa_nil)) (pe_callB (id := "len") call_len_seq (by rfl) T.f_len boot_len (pa_cons (pe_fld (pv 0) rfl) pa_nil)) (nomark _))))) (pss_one ps_never) pss_nil)
      (pss_one (ps_for PassesOwn.never rfl (RZ.pi_zipA (by rfl) T.f_zip (pa_cons (pe_fld (pv 0) rfl) (pa_cons (pv 1) pa_nil))) (pg_tup (by rfl) (pgs_cons (pg_name (i := 2) nd rfl (Or.inl rfl)) (pgs_cons (pg_name (i := 3) nd rfl (Or.inl rfl)) pgs_nil))) (pss_one (ps_if (pt_not (pt_val (p_call G_is_stand hr (pa_cons (p_meth0 M_floor hr (pv 2)) (pa_cons (pv 3) pa_nil))))) (pss_one ps_never) pss_nil))))), ?_⟩
  refine q_fine e (b := false) (t_eq (t_or (t_not (t_B (e_isiT (b := true) (e_var rfl h2)))) fun _ => t_test (e_neI (i := 1) (j := 1) (e_lenT (e_var rfl h2)) (e_lenTP (e_ones T (e_var rfl hv))))) (by decide)) fun H1 g1 => ?_
  refine s_for1 (P := TupP K [IsWd K x, D K (dS s)]) g1.fh (i1_zipT (ea_cons (e_ones T (e_var rfl hv)) (ea_cons ((e_var rfl h2 : EP _ _ F (D K (.tuple [dS s]))).imp fun v F1 _ h => tup_data h) ea_nil))) fun F2 H2 g2 y F3 H3 g3 hy => g_pair g3.fh hy fun u1 u2 q1 q2 => ?_
  refine s_fine g3.fh (t_eq (t_not (t_B (e_call (x.rows, s) (ea_cons (e_methR x (e_var rfl q1) ea_nil rfl (fun fs F1 h => h.no (by decide)) trivial) (ea_cons (e_var rfl q2) ea_nil)) ⟨W.R, hs⟩))) rfl) fun H4 g4 => ⟨F3, g3.ff, g4.fh, ?_⟩
  exact k _ F3 H4 (((g1.trans g2).trans g3).trans g4) Dp.non
def sp_Hand_after (K : PySem.W.Frag) : Sp := Pr (fun x : WdIn × Sd × Nat => [IsHd K x.1, D K (dOne x.2.1), D K (dC x.2.2)]) (fun x => WdOk x.1 ∧ okS x.1.rows x.2.1 = true ∧ x.2.2 ∈ DEEDS) (fun x => D K (dOne (OH.behind x.1.rows (pagesM x.1) x.2.1 x.2.2)))
theorem sc_Hand_after : FnScope ["self", "stands", "deed", "world", "stand"] ["self", "stands", "deed"] (defScope s_Hand_after) := ⟨rfl, rfl, rfl, by decide +kernel, rfl, by decide +kernel, by decide +kernel⟩
set_option maxHeartbeats 2000000 in
theorem bd_Hand_after (T : Tt K mg) (M_want_stands : Met P w K mg base 8 (cH K) "want_stands" ["self", "thing"] (sp_Hand_want_stands K)) (G_want_deed : Cal P w K mg base 1 "want_deed" ["thing"] (sp_want_deed K)) (M_after : Met P w K mg base 9 (cW K) "after" ["self", "stand", "deed"] (sp_World_after K)) : BodyOk P w K mg base 9 "Hand.after" s_Hand_after ["self", "stands", "deed", "world", "stand"] (sp_Hand_after K) := by
  intro f cdv A outer s H vs Q E hr h
  have nd := sc_Hand_after.nd
  have hu := hu_of hr
  have hu64 := hr.units
  have hu65 : (A.deeper (envOfC "Hand.after" (defScope s_Hand_after) s.heap.objs.size f cdv)).units + 65 < cLine := by have := hr.un; omega
  obtain ⟨⟨x, s, d⟩, F, e, hA, ⟨W, hs, hd⟩, k⟩ := h
  obtain ⟨v, v2, v3, rfl, hv, h2, h3⟩ := all3 hA
  have h2 : D K (.tuple [dS s]) v2 F := h2
  refine ⟨_, (pss_cons (ps_expr (p_meth M_want_stands hr (pv 0) (pa_cons (pv 1) pa_nil)))
      (pss_cons (ps_expr (p_call G_want_deed hr (pa_cons (pv 2) pa_nil)))
      (pss_one (ps_ret (pe_callTy (T := "tuple") call_tuple_of (by rfl) T.f_tuple (by decide +kernel) (pa_cons (pe_lc (own := [("world", 3), ("stand", 4)]) (by rfl) nd (RZ.pi_zipA (by rfl) T.f_zip (pa_cons (pe_fld (pv 0) rfl) (pa_cons (pv 1) pa_nil))) (blkOk_by (N := ["self", "stands", "deed", "world", "stand"]) (sc := defScope s_Hand_after) (own := [("world", 3), ("stand", 4)]) (by decide +kernel)) (fun _ _ _ _ _ => (show PG _ _ (gTup K 2 _) from pg_tup (by rfl) (pgs_cons (pg_name (i := 3) nd rfl (Or.inl rfl)) (pgs_cons (pg_name (i := 4) nd rfl (Or.inl rfl)) pgs_nil)))) (fun _ _ _ _ _ => pts_nil) (fun _ _ _ _ _ => (p_meth M_after hr (pv 3) (pa_cons (pv 4) (pa_cons (pv 2) pa_nil))))) pa_nil)))))), ?_⟩
  refine q_drop e (e_methR (x, s) (e_var rfl hv) (ea_cons (e_var rfl h2) ea_nil) rfl (fun fs F1 h => h.no (by decide)) ⟨W, hs⟩) fun H1 g1 => ?_
  refine q_drop g1.fh (e_call d (ea_cons (e_var rfl h3) ea_nil) hd) fun H2 g2 => ?_
  refine s_ret g2.fh (P := D K (dOne (OH.behind x.rows (pagesM x) s d))) (e_tupL (e_lc1 (P := TupP K [IsWd K x, D K (dS s)]) (i1_zipT (ea_cons (e_ones T (e_var rfl hv)) (ea_cons ((e_var rfl h2 : EP _ _ F (D K (.tuple [dS s]))).imp fun v F1 _ h => tup_data h) ea_nil))) fun u F1 H3 e1 b hu R q => g_pair b hu fun u1 u2 q1 q2 => q _ rfl ?_)) fun v F3 H3 g3 hv => k v F3 H3 ((g1.trans g2).trans g3) hv
  exact e_methR (x, s, d) (e_var rfl q1) (ea_cons (e_var rfl q2) (ea_cons (e_var rfl (dpx e1 _ _ h3)) ea_nil)) rfl (fun fs F1 h => h.no (by decide)) ⟨W, hs, hd⟩
/-! ### wishes -/
theorem e_niK {σ : L2.St} {F : Hp} {ta : TE} {z : Str} {a : Addr} {zs : List Str} {b : Bool} (ha : EP ta σ F (D K (.str z))) (hq : ∀ H, SqT K H a (zs.map V.str)) (hb : (!inV (.str z) (zs.map V.str)) = b) :
    EP (tOp (rIn K true) ta (tC (.ref a))) σ F (D K (.bool b)) := fun F1 H1 e c Q q =>
  ha F1 H1 e c _ fun v F2 H2 g hv => by
    rw [dStr hv]
    refine ⟨a, _, rfl, .inr (hq H2), rfl, flat_strs zs, ?_⟩
    have hb' : ((inV (.str z) (zs.map V.str)) != true) = b := by rw [← hb]; cases inV (.str z) (zs.map V.str) <;> rfl
    first | exact q _ F2 H2 g (hb ▸ Dp.bl _) | exact q _ F2 H2 g (hb' ▸ Dp.bl _)
def sp_want_kind (K : PySem.W.Frag) : Sp := Pr (fun _ : Unit => [D K (.str "at")]) (fun _ => True) (fun _ => D K .none)
theorem sc_want_kind : FnScope ["kind"] ["kind"] (defScope s_want_kind) := ⟨rfl, rfl, rfl, by decide +kernel, rfl, by decide +kernel, by decide +kernel⟩
set_option maxHeartbeats 2000000 in
theorem bd_want_kind (T : Tt K mg)  : BodyOk P w K mg base 0 "want_kind" s_want_kind ["kind"] (sp_want_kind K) := by
  intro f cdv A outer s H vs Q E hr h
  have nd := sc_want_kind.nd
  have hu := hu_of hr
  have hu64 := hr.units
  have hu65 : (A.deeper (envOfC "want_kind" (defScope s_want_kind) s.heap.objs.size f cdv)).units + 65 < cLine := by have := hr.un; omega
  obtain ⟨_, F, e, hA, _, k⟩ := h
  obtain ⟨v, rfl, hv⟩ := all1 hA
  refine ⟨_, (pss_one (ps_if (PW.pt (pw_or (pt_not (pt_val (pe_callB (id := "isinstance") call_isi (by rfl) T.f_isinstance boot_isinstance (pa_cons (pv 0) (pa_cons (pe_bltn (v := .ty "str") (by rfl) T.f_str (by decide +kernel) rfl) pa_nil))))) (pw_or1 (pt_cmpR op_notIn_seq (pv 0) (p_gr T.t_KINDS) (by rfl))))) (pss_one ps_never) pss_nil)), ?_⟩
  refine s_fine e (b := false) (t_eq (t_or (t_not (t_B (e_isiS (b := true) (e_var rfl hv)))) fun _ => t_test (e_niK (b := false) (e_var rfl hv) T.q_KINDS (by decide +kernel))) (by decide)) fun H1 g1 => k _ F H1 g1 Dp.non
def sp_first_thing (K : PySem.W.Frag) : Sp := Pr (fun x : WdIn => [IsHd K x, D K (.str "at")]) (fun _ => True) (fun x => D K (dTh (some (x.begin, x.turn))))
theorem sc_first_thing : FnScope ["hand", "kind", "stands", "been", "world", "stand"] ["hand", "kind"] (defScope s_first_thing) := ⟨rfl, rfl, rfl, by decide +kernel, rfl, by decide +kernel, by decide +kernel⟩
set_option maxHeartbeats 2000000 in
theorem bd_first_thing (T : Tt K mg) (M_start : Met P w K mg base 2 (cH K) "start" ["self"] (sp_Hand_start K)) : BodyOk P w K mg base 2 "first_thing" s_first_thing ["hand", "kind", "stands", "been", "world", "stand"] (sp_first_thing K) := by
  intro f cdv A outer s H vs Q E hr h
  have nd := sc_first_thing.nd
  have hu := hu_of hr
  have hu64 := hr.units
  have hu65 : (A.deeper (envOfC "first_thing" (defScope s_first_thing) s.heap.objs.size f cdv)).units + 65 < cLine := by have := hr.un; omega
  obtain ⟨x, F, e, hA, _, k⟩ := h
  obtain ⟨v, v2, rfl, hv, h2⟩ := all2 hA
  refine ⟨_, (pss_cons (ps_par (i := 2) (j := 3) (by rfl) nd rfl rfl (by decide) rfl rfl (pa_cons (p_meth0 M_start hr (pv 0)) (pa_cons (pe_tup pa_nil) pa_nil)) (by rfl))
      (pss_cons (ps_if (pt_cmpR op_eq (pv 1) pe_str (nomark _)) (pss_one ps_never) pss_nil)
      (pss_one (ps_ret (pe_tup (pa_cons (pv 2) (pa_cons (pv 3) pa_nil))))))), ?_⟩
  refine q_par (P1 := D K (dOne (some (x.begin, x.turn)))) (P2 := D K (.tuple [])) e (ea_cons (e_methR x (e_var rfl hv) ea_nil rfl (fun fs F1 h => h.no (by decide)) trivial) (ea_cons (e_tup (ds := []) ea_nil) ea_nil)) fun v3 v4 F2 H2 g2 h3 h4 => ?_
  refine q_when g2.fh (b := false) (t_eq (t_test (e_eqT (e_var rfl (dpx g2.ff _ _ h2)) e_c)) (by decide +kernel)) (fun z => Bool.noConfusion z) fun _ H3 g3 => ?_
  have g23 := g2.trans g3
  exact s_ret g23.fh (P := D K (dTh (some (x.begin, x.turn)))) (e_tup (ds := [dOne (some (x.begin, x.turn)), .tuple []]) (ea_cons (e_var rfl h3) (ea_cons (e_var rfl h4) ea_nil))) fun v F3 H3 g3 hv => k v F3 H3 (g23.trans g3) hv
def sp_is_brought (K : PySem.W.Frag) : Sp := Pr (fun x : WdIn × Sd => [IsHd K x.1, D K (.str "at"), D K (dTh x.2)]) (fun x => WdOk x.1 ∧ okS x.1.rows x.2 = true) (fun x => D K (.bool (OH.wished x.1.ws x.2)))
theorem sc_is_brought : FnScope ["hand", "kind", "thing", "stands", "been", "places", "stand", "world"] ["hand", "kind", "thing"] (defScope s_is_brought) := ⟨rfl, rfl, rfl, by decide +kernel, rfl, by decide +kernel, by decide +kernel⟩
set_option maxHeartbeats 2000000 in
theorem bd_is_brought (T : Tt K mg) (M_wished : Met P w K mg base 9 (cW K) "wished" ["self", "stand"] (sp_World_wished K)) (M_worlds : Met P w K mg base 1 (cH K) "worlds" ["self"] (sp_Hand_worlds K)) : BodyOk P w K mg base 9 "is_brought" s_is_brought ["hand", "kind", "thing", "stands", "been", "places", "stand", "world"] (sp_is_brought K) := by
  intro f cdv A outer s H vs Q E hr h
  have nd := sc_is_brought.nd
  have hu := hu_of hr
  have hu64 := hr.units
  have hu65 : (A.deeper (envOfC "is_brought" (defScope s_is_brought) s.heap.objs.size f cdv)).units + 65 < cLine := by have := hr.un; omega
  obtain ⟨⟨x, s⟩, F, e, hA, ⟨W, hs⟩, k⟩ := h
  obtain ⟨v, v2, v3, rfl, hv, h2, h3⟩ := all3 hA
  have h3 : D K (.tuple [dOne s, .tuple []]) v3 F := h3
  refine ⟨_, (pss_cons (ps_asg (pv 2) (pg_tup (by rfl) (pgs_cons (pg_name (i := 3) nd rfl (Or.inl rfl)) (pgs_cons (pg_name (i := 4) nd rfl (Or.inl rfl)) pgs_nil))))
      (pss_cons (ps_if (pt_cmpR op_eq (pv 1) pe_str (nomark _)) (pss_one ps_never) pss_nil)
      (pss_cons (ps_if (pt_cmpR op_eq (pv 1) pe_str (nomark _)) (pss_one (ps_ret (pe_callB (id := "all") (show CallR _ (.builtin "all") (rAll K) from cr_all rfl) (by rfl) T.f_all (by decide +kernel) (pa_cons (pe_lc (own := [("world", 7), ("stand", 6)]) (by rfl) nd (OZ.pi_zipS (by rfl) T.f_zip (pa_cons (p_meth0 M_worlds hr (pv 0)) (pa_cons (pv 3) pa_nil))) (blkOk_by (N := ["hand", "kind", "thing", "stands", "been", "places", "stand", "world"]) (sc := defScope s_is_brought) (own := [("world", 7), ("stand", 6)]) (by decide +kernel)) (fun _ _ _ _ _ => (show PG _ _ (gTup K 2 _) from pg_tup (by rfl) (pgs_cons (pg_name (i := 7) nd rfl (Or.inl rfl)) (pgs_cons (pg_name (i := 6) nd rfl (Or.inl rfl)) pgs_nil)))) (fun _ _ _ _ _ => pts_nil) (fun _ _ _ _ _ => (p_meth M_wished hr (pv 7) (pa_cons (pv 6) pa_nil)))) pa_nil)))) pss_nil)
      (pss_cons ps_never
      (pss_one ps_never))))), ?_⟩
  refine q_unp (d1 := dOne s) (d2 := .tuple []) e (e_var rfl h3) fun v4 v5 F2 H2 g2 h4 h5 => ?_
  have h4 : D K (.tuple [dS s]) v4 F2 := h4
  refine q_when g2.fh (b := false) (t_eq (t_test (e_eqT (e_var rfl (dpx g2.ff _ _ h2)) e_c)) (by decide +kernel)) (fun z => Bool.noConfusion z) fun _ H3 g3 => ?_
  have g23 := g2.trans g3
  refine q_when g23.fh (b := true) (t_eq (t_test (e_eqT (e_var rfl (dpx g2.ff _ _ h2)) e_c)) (by decide +kernel)) (fun _ H4 g4 => ?_) (fun z => Bool.noConfusion z)
  have g24 := g23.trans g4
  have hv2 := (inferInstance : Mn (IsHd K x)).mn g2.ff hv
  refine s_ret g24.fh (P := D K (.bool (OH.wished x.ws s))) (EP.eq (e_all (bs := [OH.wished x.ws s]) (e_lc1 (P := TupP K [IsWd K x, D K (dS s)]) (i1_zipS (ea_cons (e_methR x (e_var rfl hv2) ea_nil rfl (fun fs F1 h => h.no (by decide)) trivial) (ea_cons ((e_var rfl h4 : EP _ _ F2 (D K (.tuple [dS s]))).imp fun v F1 _ h => tup_data h) ea_nil))) fun u F1 H3 e1 b hu R q => g_pair b hu fun u1 u2 q1 q2 => q _ rfl ?_)) (by simp)) fun v F3 H3 g3 hv => k v F3 H3 (g24.trans g3) hv
  exact e_methR (x, s) (e_var rfl q1) (ea_cons (e_var rfl q2) ea_nil) rfl (fun fs F1 h => h.no (by decide)) ⟨W, hs⟩
/-- the things behind: safe, and none gone -/
def behindsM (x : WdIn) (safe : Bool) (s : Sd) : List (Nat × Sd) := (DEEDS.map fun d => (d, OH.behind x.rows (pagesM x) s d)).filter fun y => !safe || !decide (y.2 = none)
def dBe (y : Nat × Sd) : PyData := .tuple [dC y.1, dTh y.2]
def sp_things_behind (K : PySem.W.Frag) : Sp := Pr (fun x : WdIn × Bool × Sd => [IsHd K x.1, D K (.str "at"), D K (dTh x.2.2), D K (.bool x.2.1)]) (fun x => WdOk x.1 ∧ okS x.1.rows x.2.2 = true) (fun x => D K (.list ((behindsM x.1 x.2.1 x.2.2).map dBe)))
theorem sc_things_behind : FnScope ["hand", "kind", "thing", "safe", "stands", "been", "found", "deed", "there", "had", "some", "world", "stand", "ahead"] ["hand", "kind", "thing", "safe"] (defScope s_things_behind) := ⟨rfl, rfl, rfl, by decide +kernel, rfl, by decide +kernel, by decide +kernel⟩
set_option maxHeartbeats 2000000 in
theorem bd_things_behind (T : Tt K mg) (M_after : Met P w K mg base 10 (cH K) "after" ["self", "stands", "deed"] (sp_Hand_after K)) : BodyOk P w K mg base 10 "things_behind" s_things_behind ["hand", "kind", "thing", "safe", "stands", "been", "found", "deed", "there", "had", "some", "world", "stand", "ahead"] (sp_things_behind K) := by
  intro f cdv A outer s H vs Q E hr h
  have nd := sc_things_behind.nd
  have hu := hu_of hr
  have hu64 := hr.units
  have hu65 : (A.deeper (envOfC "things_behind" (defScope s_things_behind) s.heap.objs.size f cdv)).units + 65 < cLine := by have := hr.un; omega
  obtain ⟨⟨x, safe, s⟩, F, e, hA, ⟨W, hs⟩, k⟩ := h
  obtain ⟨v, v2, v3, v4, rfl, hv, h2, h3, h4⟩ := all4 hA
  have h3 : D K (.tuple [dOne s, .tuple []]) v3 F := h3
  have h4 : D K (.bool safe) v4 F := h4
  have mh : ∀ {F1 : Hp}, Ex F F1 → IsHd K x v F1 := fun e1 => (inferInstance : Mn (IsHd K x)).mn e1 hv
  refine ⟨_, (pss_cons (ps_asg (pv 2) (pg_tup (by rfl) (pgs_cons (pg_name (i := 4) nd rfl (Or.inl rfl)) (pgs_cons (pg_name (i := 5) nd rfl (Or.inl rfl)) pgs_nil))))
      (pss_cons (ps_set (i := 6) nd rfl (Or.inl rfl) (pe_lst pa_nil))
      (pss_cons (ps_for PassesOwn.never rfl (pi_str (p_gs T.s_DEEDS)) (pg_name (i := 7) nd rfl (Or.inl rfl)) (pss_cons (ps_set (i := 8) nd rfl (Or.inl rfl) (p_meth M_after hr (pv 0) (pa_cons (pv 4) (pa_cons (pv 7) pa_nil))))
      (pss_one (ps_if (PW.pt (pw_or (pt_not (pt_val (pv 3))) (pw_or1 (pt_cmpR (op_notInDT hu65) pe_non (pv 8) (by rfl))))) (pss_cons (ps_set (i := 9) nd rfl (Or.inl rfl) (pv 5))
      (pss_cons (ps_if (pt_cmpR op_eq (pv 1) pe_str (nomark _)) (pss_cons ps_never
      (pss_one ps_never)) pss_nil)
      (pss_one (ps_expr (pe_bm PySem.F.plainAttrs_list PySem.F.slot_list_append PySem.F.type_list_append mt_append (pv 6) (pa_cons (pe_tup (pa_cons (pv 7) (pa_cons (pe_tup (pa_cons (pv 8) (pa_cons (pv 9) pa_nil))) pa_nil))) pa_nil)))))) pss_nil))))
      (pss_one (ps_ret (pv 6)))))), ?_⟩
  refine q_unp (d1 := dOne s) (d2 := .tuple []) e (e_var rfl h3) fun v5 v6 F2 H2 g2 h5 h6 => ?_
  refine q_own (K := K) (ds := []) g2.fh ea_nil rfl fun l F3 H3 o3 => ?_
  refine q_for (K := K) o3.g.fh (i_str (z := "urdl") e_c) fun F4 H4 g4 => ⟨fun i σ' F' H' => Own K F2 H2 F' H' l (((DEEDS.take i).map fun d => (d, OH.behind x.rows (pagesM x) s d)).filter (fun y => !safe || !decide (y.2 = none)) |>.map dBe) ∧ Ex F4 F' ∧ ∃ a b c, σ' = [some v, some v2, some v3, some v4, some v5, some v6, some (.ref l), a, b, c, none, none, none, none], ⟨o3.gr g4, Ex.refl _, none, none, none, rfl⟩, fun i σ' F' H' q => ⟨q.2.1, q.1.g.fh⟩, ?_, ?_⟩
  · rintro i dd y σ' F' H' F5 H5 hdd ⟨o5, e5, a, b, c, rfl⟩ g5 hy
    have hsg : signs "urdl" = DEEDS.map dC := by unfold signs; rw [deeds_tl]
    rw [hsg, List.getElem?_map] at hdd
    obtain ⟨d, hdi, rfl⟩ := Option.map_eq_some_iff.mp hdd
    have hd : d ∈ DEEDS := List.mem_of_getElem? hdi
    have o6 := o5.gr g5
    have e6 : Ex F F5 := g2.ff.trans (o6.g.ff)
    have et : DEEDS.take (i + 1) = DEEDS.take i ++ [d] := by rw [List.take_add_one, hdi]; rfl
    have hb0 := behind_ok W.R (pagesOk W).2 hs hd
    have hbT : ∀ p t, OH.behind x.rows (pagesM x) s d = some (p, t) → t ∈ TURNS := fun p t hq => by
      rw [hq] at hb0
      exact of_decide_eq_true (Bool.and_eq_true_iff.mp hb0).2
    refine q_asg g5.fh (P := D K (dOne (OH.behind x.rows (pagesM x) s d))) (e_methR (x, s, d) (e_var rfl (mh e6)) (ea_cons (e_var rfl (dpx o6.g.ff _ _ h5)) (ea_cons (e_var rfl hy) ea_nil)) rfl (fun fs F1 h => h.no (by decide)) ⟨W, hs, hd⟩) fun v7 F6 H6 g6 h7 => ?_
    have o7 := o6.gr g6
    have e7 : Ex F F6 := e6.trans g6.ff
    have h7 : D K (.tuple ([OH.behind x.rows (pagesM x) s d].map dS)) v7 F6 := h7
    refine s_when g6.fh (b := !safe || !decide (OH.behind x.rows (pagesM x) s d = none)) (t_or (t_not (t_B (e_var rfl (dpx e7 _ _ h4)))) fun _ => t_test ((e_niDT eqv_S (x := (none : Sd)) (n := 2) e_c (e_var rfl h7) (okS_ fun p t h => by cases h) (fun y hy => ?_) (by decide)).eq ?_)) (fun hb H7 g7 => ?_) fun hb H7 g7 => ?_
    · simp only [List.mem_cons, List.not_mem_nil, or_false] at hy
      rw [hy]; exact okS_ hbT
    · congr 2
      simp only [List.mem_cons, List.not_mem_nil, or_false, decide_eq_decide]
      exact ⟨fun h => h.symm, fun h => h.symm⟩
    · have o8 := o7.gr g7
      refine q_asg g7.fh (P := D K (.tuple [])) (e_var rfl (dpx o7.g.ff _ _ h6)) fun v8 F8 H8 g8 h8 => ?_
      refine q_when g8.fh (b := false) (t_eq (t_test (e_eqT (e_var rfl (dpx (e7.trans g8.ff) _ _ h2)) e_c)) (by decide +kernel)) (fun z => Bool.noConfusion z) fun _ H9 g9 => ?_
      have o9 := (o8.gr g8).gr g9
      refine s_app (n := 4) (d := dBe (d, OH.behind x.rows (pagesM x) s d)) o9 rfl ?_ rfl (e_tup (ds := [dC d, dTh (OH.behind x.rows (pagesM x) s d)]) (ea_cons (e_var rfl (dpx (g6.ff.trans g8.ff) _ _ hy)) (ea_cons (e_tup (ds := [dOne (OH.behind x.rows (pagesM x) s d), .tuple []]) (ea_cons (e_var rfl (dpx g8.ff _ _ h7)) (ea_cons (e_var rfl h8) ea_nil))) ea_nil))) fun F10 H10 o10 e10 => ⟨F10, ?_, ?_, _, _, _, rfl⟩
      · rw [List.length_map]
        refine Nat.le_trans (List.length_filter_le _ _) ?_
        rw [List.length_map, List.length_take]
        exact Nat.min_le_right _ _
      · rw [et, List.map_append, List.filter_append, List.map_append]
        have : ([d].map fun d => (d, OH.behind x.rows (pagesM x) s d)).filter (fun y => !safe || !decide (y.2 = none)) = [(d, OH.behind x.rows (pagesM x) s d)] := by
          rw [List.map_singleton, List.filter_cons, if_pos hb, List.filter_nil]
        rw [this]
        exact o10
      · exact e5.trans (((g5.ff.trans g6.ff).trans g8.ff).trans e10)
    · refine ⟨F6, ?_, e5.trans (g5.ff.trans g6.ff), _, _, _, rfl⟩
      rw [et, List.map_append, List.filter_append, List.map_append]
      have : ([d].map fun d => (d, OH.behind x.rows (pagesM x) s d)).filter (fun y => !safe || !decide (y.2 = none)) = [] := by
        rw [List.map_singleton, List.filter_cons, if_neg (by rw [hb]; exact Bool.false_ne_true), List.filter_nil]
      rw [this, List.map_nil, List.append_nil]
      exact o7.gr g7
  · rintro σ' F' H' ⟨o5, e5, a, b, c, rfl⟩
    refine s_retOwn o5 rfl fun v F' H' g' hv => k v F' H' (g2.trans g') hv
end
end OL
-- OhKey
set_option maxHeartbeats 1000000
/-! A dict whose keys are the things of the search, whose values are rows. -/
namespace OL
open PySem PySem.Spec PyProof.Rows L2
open SX (S)
open Evl (Ex)
open OH
/-! ### the keys -/
def kS : Sd → NestedKey
  | none => .none
  | some (p, t) => .tup [.tup [.num p.1, .num p.2], .text (S t)]
def kTh (s : Sd) : NestedKey := .tup [.tup [kS s], .tup []]
theorem kTh_data (s : Sd) : (kTh s).data = dTh s := by
  match s with
  | none => rfl
  | some (p, t) => rfl
theorem kTh_depth (s : Sd) : (kTh s).depth ≤ 8 := by
  match s with
  | none => decide
  | some (p, t) =>
    show max (max (max (max 0 (max 0 0) + 1) (max 0 0) + 1) 0 + 1) (max (0 + 1) 0) + 1 ≤ 8
    decide
theorem kTh_inj {a b : Sd} (h : kTh a = kTh b) : a = b := by
  have e := congrArg NestedKey.data h
  rw [kTh_data, kTh_data] at e
  have e2 : dS a = dS b := by
    have h1 := PyData.tuple.inj e
    have h2 := PyData.tuple.inj (List.cons.inj h1).1
    exact (List.cons.inj h2).1
  match a, b with
  | none, none => rfl
  | none, some (_, _) => cases e2
  | some (_, _), none => cases e2
  | some ((p1, p2), t), some ((q1, q2), u) =>
    have h1 := PyData.tuple.inj e2
    have h2 := PyData.tuple.inj (List.cons.inj h1).1
    have h3 := PyData.int.inj (List.cons.inj h2).1
    have h4 := PyData.int.inj (List.cons.inj (List.cons.inj h2).2).1
    have h5 := PyData.str.inj (List.cons.inj (List.cons.inj h1).2).1
    have h6 := S_inj h5
    subst h3 h4 h6
    rfl
mutual
theorem key_of_data {h : Heap} : ∀ (k : NestedKey) (u : Value) (as : List Addr), Reads h u k.data as → NestedIs h k u
  | .none, _, _, r => by cases r; exact .none
  | .num i, _, _, r => by cases r; exact .int _ _
  | .text x, _, _, r => by cases r; exact .text _ _
  | .tup ks, _, _, r => by
    cases r with
    | tuple h1 h2 h3 h4 => exact .tup h1 h2 h3 (keys_of_data ks _ _ h4)
theorem keys_of_data {h : Heap} : ∀ (ks : List NestedKey) (us : List Value) (as : List Addr), ReadsAll h us (NestedKey.datas ks) as → NestedAll h ks us
  | [], _, _, r => by cases r; exact .nil
  | k :: ks, _, _, r => by
    cases r with
    | cons h1 h2 => exact .cons (key_of_data k _ _ h1) (keys_of_data ks _ _ h2)
end
/-! ### the dict -/
abbrev Rws := List (Sd × Addr × Tx)
def RelK (y : NestedKey × Addr × Value) (x : Sd × Addr × Tx) : Prop := y.1 = kTh x.1 ∧ y.2.1 = x.2.1 ∧ ∃ t, y.2.2 = .str (S x.2.2) t
structure KdAt (P : Program) (w : World) (h : Heap) (a : Addr) (xs : Rws) : Prop where
  ex : ∃ ys : List (NestedKey × Addr × Value), Paired RelK ys xs ∧ ∃ o es ep, h.get? a = some o ∧ o.ExactDict ∧ o.data = .dict es ep ∧ es.toList = ys.map (entryOfKey (nestedKind P w)) ∧ (ys.map (·.1)).Nodup
  ne : (a == sysModules) = false
  few : xs.length ≤ sizeLine
def KdO (P : Program) (w : World) (a : Addr) (xs : Rws) : HO := .ext fun h => KdAt P w h a xs
theorem kdo_new {P : Program} {w : World} {H : Hp} {h : Heap} {a : Addr} {xs : Rws} (R : KdAt P w h a xs) : ObjOk P w H h a (KdO P w a xs) := by
  obtain ⟨ys, h1, o, es, ep, h2, h3⟩ := R.ex
  refine ⟨R, ⟨o, h2⟩, fun g1 g2 p k => ?_⟩
  obtain ⟨zs, k1, o', es', ep', k2, k3⟩ := KdAt.ex p
  exact ⟨⟨zs, k1, o', es', ep', k o' k2, k3⟩, p.ne, p.few⟩
/-- the key tuples -/
def KeysIn (K : PySem.W.Frag) (H : Hp) (xs : Rws) : Prop := ∀ x ∈ xs, D K (dTh x.1) (.ref x.2.1) H
theorem KeysIn.mono {K : PySem.W.Frag} {H H' : Hp} {xs : Rws} (e : Ex H H') (h : KeysIn K H xs) : KeysIn K H' xs := fun x hx => dpx e _ _ (h x hx)
def lookR (xs : Rws) (s : Sd) : Option Tx := (xs.find? fun x => decide (x.1 = s)).map (·.2.2)
theorem paired_find {ys : List (NestedKey × Addr × Value)} {xs : Rws} (h : Paired RelK ys xs) (s : Sd) : (lookR xs s = none ∧ atKey ys (kTh s) = none) ∨ ∃ w b t, lookR xs s = some w ∧ atKey ys (kTh s) = some (b, .str (S w) t) := by
  induction h with
  | nil => exact .inl ⟨rfl, rfl⟩
  | @cons y x ys xs h t ih =>
    unfold lookR atKey at ih ⊢
    rw [List.find?_cons, List.find?_cons]
    by_cases e : x.1 = s
    · have e2 : y.1 = kTh s := by rw [h.1, e]
      rw [decide_eq_true e, decide_eq_true e2]
      obtain ⟨tt, ht⟩ := h.2.2
      exact .inr ⟨x.2.2, y.2.1, tt, rfl, by rw [← ht]; rfl⟩
    · have e2 : ¬ y.1 = kTh s := fun z => e (kTh_inj (h.1.symm.trans z))
      rw [decide_eq_false e, decide_eq_false e2]
      exact ih
theorem lookR_mem {xs : Rws} {s : Sd} : (lookR xs s).isSome = decide (s ∈ xs.map (·.1)) := by
  unfold lookR
  rw [Option.isSome_map, Bool.eq_iff_iff, List.find?_isSome, decide_eq_true_eq, List.mem_map]
  constructor
  · rintro ⟨x, hx, e⟩
    exact ⟨x, hx, of_decide_eq_true e⟩
  · rintro ⟨x, hx, e⟩
    exact ⟨x, hx, decide_eq_true e⟩
section
variable {X : Cx} {pins : List (Addr × Obj)} {σ : L2.St} {H : Hp} {s : Shared} {a : Addr} {xs : Rws}
theorem thing_is (I : Inv X pins σ H s) {v : V} {u : Value} {z : Sd} (h : D X.K (dTh z) v H) (r : RelV v u) : ∃ b, u = .ref b ∧ v = .ref b ∧ (nestedKind X.prog X.w).is s.heap (kTh z) b := by
  obtain ⟨as, h1⟩ := Dp.reads I (dTh z) v u h r
  rw [← kTh_data] at h1
  have h2 := key_of_data _ _ _ h1
  obtain ⟨b, xs, rfl, _⟩ := dTup (h : D X.K (.tuple _) v H)
  cases (show u = Value.ref b from r)
  exact ⟨b, rfl, rfl, h2, kTh_depth z⟩
theorem kd_full (I : Inv X pins σ H s) (ha : H a = some (KdO X.prog X.w a xs)) (hk : KeysIn X.K H xs) : ∃ ys, Paired RelK ys xs ∧ s.heap.DictOfH (nestedKind X.prog X.w) a ys ∧ (a == sysModules) = false ∧ ys.length ≤ sizeLine := by
  have R : KdAt X.prog X.w s.heap a xs := (I.hok a _ ha).1
  obtain ⟨ys, h1, o, es, ep, h2, h3, h4, h5, h6⟩ := R.ex
  refine ⟨ys, h1, ⟨o, es, ep, h2, h3, h4, h5, ?_, h6⟩, R.ne, by rw [Paired.length h1]; exact R.few⟩
  have key : ∀ y ∈ ys, ∃ x ∈ xs, RelK y x := by
    clear h5 h6 R ha hk
    induction h1 with
    | nil => intro y hy; cases hy
    | @cons y x ys xs h t ih =>
      intro z hz
      rcases List.mem_cons.mp hz with rfl | hz
      · exact ⟨x, by simp, h⟩
      · obtain ⟨x', hx', e⟩ := ih z hz
        exact ⟨x', List.mem_cons_of_mem _ hx', e⟩
  intro y hy
  obtain ⟨x, hx, e1, e2, _⟩ := key y hy
  obtain ⟨b, e3, e4, e5⟩ := thing_is I (hk x hx) (show RelV (.ref x.2.1) (.ref x.2.1) from rfl)
  cases e4
  rw [e1, e2]
  exact e5
/-- thing not in rows -/
def rNotInN (K : PySem.W.Frag) (P : Program) (w : World) : R2 := fun x y H Q => ∃ a xs z, y = .ref a ∧ H a = some (KdO P w a xs) ∧ KeysIn K H xs ∧ D K (dTh z) x H ∧ Q (.bl (!(lookR xs z).isSome)) H
theorem op_notInN (hu : X.A.units + 65 < cLine) : OpR X (compareOp .NotIn) (rNotInN X.K X.prog X.w) := by
  intro pins s σ H x y v u Q I rx ry h
  obtain ⟨a, xs, z, rfl, ha, hk, hx, q⟩ := h
  cases ry
  obtain ⟨b, rfl, rfl, hb⟩ := thing_is I hx rx
  obtain ⟨ys, h1, h2, h3, h4⟩ := kd_full I ha hk
  refine wpAny_notIn_heap (knd := nestedKind X.prog X.w) (show X.A.units + 1 + 8 < cLine by omega) hb h3 h2 ?_
  have e : (atKey ys (kTh z)).isSome = (lookR xs z).isSome := by
    rcases paired_find h1 z with ⟨e1, e2⟩ | ⟨w, b, t, e1, e2⟩ <;> rw [e1, e2] <;> rfl
  rw [e]
  exact ⟨.bl _, H, I.tok _, rfl, q⟩
/-- rows[thing] -/
def tNGet (K : PySem.W.Frag) (P : Program) (w : World) (td ty : TE) : TE := fun σ H Q => td σ H fun x H1 => ty σ H1 fun y H2 => ∃ a xs z r, x = .ref a ∧ H2 a = some (KdO P w a xs) ∧ KeysIn K H2 xs ∧ D K (dTh z) y H2 ∧ lookR xs z = some r ∧ Q (.str (S r)) H2
theorem pe_nget {o i : Expr} {pos : Pos} {td ty : TE} (hu : X.A.units + 65 < cLine) (ho : PE X o td) (hi : PE X i ty) (hs : NoSl i) : PE X (.Subscript o i pos) (tNGet X.K X.prog X.w td ty) := by
  refine ⟨fun pins s σ H Q I h => ?_⟩
  refine subD_of PySem.F.slot_dict_getitem.lookup hs (thn (ho.run pins s σ H _ I h) fun u s1 ⟨x, H1, I1, rx, q1⟩ => thn (hi.run pins s1 σ H1 _ I1 q1) fun iv s2 ⟨y, H2, I2, ry, a, xs, z, r, ex, ha, hk, hz, hl, q2⟩ => ?_)
  subst ex
  obtain rfl : u = Value.ref a := rx
  obtain ⟨b, rfl, rfl, hb⟩ := thing_is I2 hz ry
  obtain ⟨ys, h1, h2, h3, h4⟩ := kd_full I2 ha hk
  refine ⟨h2.typeIs, ?_⟩
  rcases paired_find h1 z with ⟨e1, e2⟩ | ⟨w, b', t, e1, e2⟩
  · rw [hl] at e1; cases e1
  · rw [hl] at e1
    cases e1
    exact wpAny_getItem_heap (knd := nestedKind X.prog X.w) (show X.A.units + 1 + 8 < cLine by omega) hb h2 e2 ⟨.str (S r), H2, I2.tok _, ⟨t, rfl⟩, q2⟩
/-- rows[thing] = text, a new thing -/
def sNPut (K : PySem.W.Frag) (P : Program) (w : World) (td ty tv : TE) : TS := fun D' σ H => tv σ H fun v H1 => td σ H1 fun x H2 => ty σ H2 fun y H3 => ∃ a xs z r b, x = .ref a ∧ H3 a = some (KdO P w a xs) ∧ KeysIn K H3 xs ∧ y = .ref b ∧ D K (dTh z) (.ref b) H3 ∧ v = .str (S r) ∧
  lookR xs z = none ∧ xs.length < sizeLine ∧ D'.nx σ (upd H3 a (KdO P w a (xs ++ [(z, b, r)])))
theorem paired_snoc {ys : List (NestedKey × Addr × Value)} {xs : Rws} {y : NestedKey × Addr × Value} {x : Sd × Addr × Tx} (h : Paired RelK ys xs) (k : RelK y x) : Paired RelK (ys ++ [y]) (xs ++ [x]) := by
  induction h with
  | nil => exact .cons k .nil
  | cons h t ih => exact .cons h ih
theorem ps_nput {o i value : Expr} {pos pos' : Pos} {td ty tv : TE} (hu : X.A.units + 65 < cLine) (ho : PE X o td) (hi : PE X i ty) (hv : PE X value tv) (hs : swapsWith value (some (.Subscript o i pos')) pos.line X.env = pure false) :
    PS X (.Assign [.Subscript o i pos'] value pos) (sNPut X.K X.prog X.w td ty tv) := by
  refine ⟨fun pins s σ H D I h => ?_⟩
  refine wpAny_Assign_Subscript (thn (hv.run pins s σ H _ I h) fun r s1 ⟨v, H1, I1, rv, q1⟩ => thn (ho.run pins s1 σ H1 _ I1 q1) fun u s2 ⟨x, H2, I2, rx, q2⟩ => thn (hi.run pins s2 σ H2 _ I2 q2) fun iv s3 ⟨y, H3, I3, ry, a, xs, z, tx, b, ex, ha, hk, ey, hz, ev, hl, hf, q3⟩ => ?_) hs
  subst ex ey ev
  obtain rfl : u = Value.ref a := rx
  obtain ⟨tok, rfl⟩ := rv
  obtain ⟨b', rfl, e4, hb⟩ := thing_is I3 hz ry
  cases e4
  obtain ⟨ys, h1, h2, h3, h4⟩ := kd_full I3 ha hk
  refine wpAny_setItem_heap (knd := nestedKind X.prog X.w) (hsz := h4) (show X.A.units + 1 + 8 < cLine by omega) hb h2 fun h' dd' hsb => ⟨σ, _, ?_, q3⟩
  have e2 : atKey ys (kTh z) = none := by
    rcases paired_find h1 z with ⟨_, e2⟩ | ⟨w, b', t, e1, _⟩
    · exact e2
    · rw [hl] at e1; cases e1
  rw [storedH_new e2] at dd'
  obtain ⟨o', es, ep, k1, k2, k3, k4, _, k5⟩ := dd'
  refine d_write I3 (by rw [ha]; exact True.intro) hsb ⟨o', k1⟩ (kdo_new ⟨⟨_, paired_snoc h1 ⟨rfl, rfl, tok, rfl⟩, o', es, ep, k1, k2, k3, k4, k5⟩, h3, ?_⟩)
  rw [List.length_append]; exact hf
/-- {thing: text} -/
def tDispN (K : PySem.W.Frag) (P : Program) (w : World) (tk tv : TE) : TE := fun σ H Q => ∀ p, H p = none → tPairs [(tk, tv)] σ (upd H p (.dK [])) fun ps H2 => ∃ z r b, ps = [(.ref b, .str (S r))] ∧ H2 p = some (.dK []) ∧ D K (dTh z) (.ref b) H2 ∧ Q (.ref p) (upd H2 p (KdO P w p [(z, b, r)]))
theorem dispH {prog : Program} {w : World} {A : Around} {E : Value → Shared → Prop} {s : Shared} {env : Env} {k v : Expr} {pos : Pos} {Q : Value → Shared → Prop} (hu : A.units + 8 < cLine)
    (h : wpAny (model prog w) A (evalPairs (pairTrees [some k] [v] env pos)) (fun vs s₁ => ∃ ps, CarriesH (nestedKind prog w) s₁.heap vs ps ∧ s₁.heap.DictOfH (nestedKind prog w) s.heap.objs.size [] ∧
      ∀ h' tk, h'.DictOfH (nestedKind prog w) s.heap.objs.size (storedAllH [] ps) → Heap.SameBut s.heap.objs.size s₁.heap h' → Q (.ref s.heap.objs.size) { s₁ with heap := h', toks := tk }) E
      { s with heap := s.heap.push { cls := .type "dict", data := .dict #[] } }) :
    wpAny (model prog w) A (eval (.Dict [some k] [v] pos) env) Q E s := by
  have hshape : (evalEachOpt [some k] env).zip ((evalEach [v] env).map fun v => do let x ← v; standAt pos; pure x) = (pairTrees [some k] [v] env pos).map fun p => (some p.1, p.2) := rfl
  rw [arm_eval_Dict, hshape, dictDisplay_pairs (pairTrees [some k] [v] env pos) (by simp [pairTrees]) (by simp [pairTrees])]
  exact wpAny_bind (wpAny_standAt (wpAny_bind (wpAny_subDictH (knd := nestedKind prog w) (Q := fun d s' => wpAny (model prog w) A (pure (Value.ref d)) Q E s') hu (by simp [pairTrees])
    (wpAny_mono h (fun vs s₁ h₁ => by obtain ⟨ps, hc, hm, hq⟩ := h₁; exact ⟨ps, hc, hm, fun h' tk a b => wpAny_pure (hq h' tk a b)⟩) fun _ _ e => e))))
theorem pe_dispN {pos : Pos} {k v : Expr} {tk tv : TE} (hu : X.A.units + 65 < cLine) (hk : PE X k tk) (hv : PE X v tv) : PE X (.Dict [some k] [v] pos) (tDispN X.K X.prog X.w tk tv) := by
  refine ⟨fun pins s σ H Q I q => ?_⟩
  have hn := I.hok.fresh (Nat.le_refl s.heap.objs.size)
  have I1 := I.laid (a := s.heap.objs.size) (o := .dK []) (h' := s.heap.push { cls := .type "dict", data := .dict #[] }) (t' := s.toks) (fun _ _ q => Heap.get?_push_of_some _ q) (Nat.le_refl _) (dk_empty s.heap I.big)
  refine dispH (show X.A.units + 8 < cLine by omega) (thn ((pps_cons (pos := pos) hk hv pps_nil).run pins _ σ _ _ I1 (q _ hn)) fun ws s2 ⟨ps, H2, I2, rel, z, r, b, ep, e0, hz, q2⟩ => ?_)
  subst ep
  cases rel with
  | @cons p q ps qs h t =>
    cases t
    obtain ⟨u1, u2⟩ := q
    obtain ⟨h1, h2⟩ := h
    obtain ⟨b', e1, e2, hb⟩ := thing_is I2 hz h1
    cases e2
    obtain ⟨tok, ht⟩ := h2
    have ht : u2 = .str (S r) tok := ht
    obtain ⟨_, hd, vs0, r0, o, es, ep, g1, g2, g3, g4, g5, _⟩ := dk_of I2.hok e0
    cases r0
    have ge : es.toList = [] := by
      cases h9 : es.toList with
      | nil => rfl
      | cons x xs => rw [h9] at g5; cases g5
    refine ⟨[(kTh z, b, u2)], ⟨e1, rfl, hb, trivial⟩, ⟨o, es, ep, g1, g2, g3, by rw [ge]; rfl, fun _ h => by (cases h), List.nodup_nil⟩, fun h' tk dd' hsb => ⟨.ref s.heap.objs.size, _, ?_, rfl, q2⟩⟩
    obtain ⟨o', es', ep', k1, k2, k3, k4, _, k5⟩ := dd'
    exact d_write I2 (by rw [e0]; exact True.intro) hsb ⟨o', k1⟩ (kdo_new ⟨⟨_, .cons ⟨rfl, rfl, tok, ht⟩ .nil, o', es', ep', k1, k2, k3, k4, k5⟩, hd, by show 1 ≤ sizeLine; exact Nat.le_trans (show 1 ≤ 100000 by decide) (by decide)⟩)
end
end OL
-- OhW8
set_option maxHeartbeats 1000000
/-! The walk, part 8: the first row. -/
namespace OL
open PySem PySem.Spec PyProof.Rows L2
open SX (S)
open Evl (Ex)
open OH
/-! ### what is searched -/
def stepM (x : WdIn) (safe : Bool) (s : Sd) (d : Nat) : Option Sd := if (!safe || !decide (OH.behind x.rows (pagesM x) s d = none)) = true then some (OH.behind x.rows (pagesM x) s d) else none
def goalM (x : WdIn) (s : Sd) : Bool := OH.wished x.ws s
def s0M (x : WdIn) : Sd := some (x.begin, x.turn)
theorem deeds_pw : DEEDS.Pairwise fun a b => ix a < ix b := by decide
def addsL {α : Type} [DecidableEq α] (w : Tx) : List (Nat × α) → List (α × Tx) → List (α × Tx)
  | [], seen => seen
  | y :: ys, seen => if y.2 ∈ seen.map (·.1) then addsL w ys seen else addsL w ys (seen ++ [(y.2, w ++ [y.1])])
theorem addsL_snoc {α : Type} [DecidableEq α] (w : Tx) (y : Nat × α) : ∀ (ys : List (Nat × α)) (seen : List (α × Tx)), addsL w (ys ++ [y]) seen = if y.2 ∈ (addsL w ys seen).map (·.1) then addsL w ys seen else addsL w ys seen ++ [(y.2, w ++ [y.1])]
  | [], seen => rfl
  | z :: ys, seen => by
    show (if z.2 ∈ seen.map (·.1) then addsL w (ys ++ [y]) seen else addsL w (ys ++ [y]) (seen ++ [(z.2, w ++ [z.1])])) = _
    by_cases h : z.2 ∈ seen.map (·.1)
    · rw [if_pos h, addsL_snoc w y ys seen]
      have e : addsL w (z :: ys) seen = addsL w ys seen := by show (if _ then _ else _) = _; rw [if_pos h]
      rw [e]
    · rw [if_neg h, addsL_snoc w y ys _]
      have e : addsL w (z :: ys) seen = addsL w ys (seen ++ [(z.2, w ++ [z.1])]) := by show (if _ then _ else _) = _; rw [if_neg h]
      rw [e]
theorem addsL_len {α : Type} [DecidableEq α] (w : Tx) : ∀ (ys : List (Nat × α)) (seen : List (α × Tx)), (addsL w ys seen).length ≤ seen.length + ys.length
  | [], seen => Nat.le_refl _
  | y :: ys, seen => by
    show (if y.2 ∈ seen.map (·.1) then addsL w ys seen else addsL w ys (seen ++ [(y.2, w ++ [y.1])])).length ≤ _
    split
    · have := addsL_len w ys seen
      rw [List.length_cons]; omega
    · have := addsL_len w ys (seen ++ [(y.2, w ++ [y.1])])
      rw [List.length_append, List.length_singleton] at this
      rw [List.length_cons]; omega
theorem addsL_get {α : Type} [DecidableEq α] (w : Tx) {k : Nat} {p : α × Tx} : ∀ (ys : List (Nat × α)) (seen : List (α × Tx)), seen[k]? = some p → (addsL w ys seen)[k]? = some p
  | [], seen, h => h
  | y :: ys, seen, h => by
    show (if y.2 ∈ seen.map (·.1) then addsL w ys seen else addsL w ys (seen ++ [(y.2, w ++ [y.1])]))[k]? = _
    split
    · exact addsL_get w ys seen h
    · refine addsL_get w ys _ ?_
      rw [List.getElem?_append_left (List.getElem?_eq_some_iff.mp h).1]; exact h
theorem addsL_nd {α : Type} [DecidableEq α] (w : Tx) : ∀ (ys : List (Nat × α)) (seen : List (α × Tx)), (seen.map (·.1)).Nodup → ((addsL w ys seen).map (·.1)).Nodup
  | [], seen, h => h
  | y :: ys, seen, h => by
    show ((if y.2 ∈ seen.map (·.1) then addsL w ys seen else addsL w ys (seen ++ [(y.2, w ++ [y.1])])).map (·.1)).Nodup
    by_cases hm : y.2 ∈ seen.map (·.1)
    · rw [if_pos hm]; exact addsL_nd w ys seen h
    · rw [if_neg hm]
      refine addsL_nd w ys _ ?_
      rw [List.map_append, List.nodup_append]
      refine ⟨h, by simp, fun a ha b hb e => ?_⟩
      have hb : b = y.2 := by simpa using hb
      exact hm (hb ▸ e ▸ ha)
theorem adds_eq (x : WdIn) (safe : Bool) (s : Sd) (w : Tx) : ∀ (ds : List Nat) (seen : List (Sd × Tx)), adds (stepM x safe) s w ds seen = addsL w ((ds.map fun d => (d, OH.behind x.rows (pagesM x) s d)).filter fun y => !safe || !decide (y.2 = none)) seen
  | [], seen => rfl
  | d :: ds, seen => by
    have ih := adds_eq x safe s w ds
    rw [List.map_cons, List.filter_cons]
    unfold adds
    by_cases h : (!safe || !decide (OH.behind x.rows (pagesM x) s d = none)) = true
    · have e : stepM x safe s d = some (OH.behind x.rows (pagesM x) s d) := by unfold stepM; rw [if_pos h]
      rw [e, if_pos h]
      dsimp only [addsL]
      rw [ih, ih]
    · have e : stepM x safe s d = none := by unfold stepM; rw [if_neg h]
      rw [e, if_neg h]
      exact ih seen
def FirstFact (x : WdIn) (safe : Bool) (w : Tx) : Prop := (∃ s, run (stepM x safe) (s0M x) w = some s ∧ goalM x s = true) ∧ (∀ d ∈ w, d ∈ DEEDS) ∧ (∀ v s, (∀ d ∈ v, d ∈ DEEDS) → run (stepM x safe) (s0M x) v = some s → goalM x s = true → ¬ sl ix v w) ∧ w.length ≤ 1000
def NeverFact (x : WdIn) (safe : Bool) : Prop := ∀ v s, (∀ d ∈ v, d ∈ DEEDS) → run (stepM x safe) (s0M x) v = some s → goalM x s = false
def allS (rows : List Tx) : List Sd := none :: (placesM rows).flatMap fun p => TURNS.map fun t => some (p, t)
theorem in_places {rows : List Tx} {p : Pl} (h : inF rows p = true) : p ∈ placesM rows := by
  obtain ⟨⟨a1, a2⟩, b1, b2⟩ := inF_iff.mp h
  refine List.mem_flatMap.mpr ⟨p.1.toNat, List.mem_range.mpr (by omega), List.mem_map.mpr ⟨p.2.toNat, List.mem_range.mpr (by omega), ?_⟩⟩
  exact Prod.ext (by show ((p.1.toNat : Nat) : Int) = p.1; omega) (by show ((p.2.toNat : Nat) : Int) = p.2; omega)
theorem allS_in {rows : List Tx} {s : Sd} (h : okS rows s = true) : s ∈ allS rows := by
  match s, h with
  | none, _ => exact List.mem_cons_self
  | some (p, t), h =>
    obtain ⟨h1, h2⟩ := Bool.and_eq_true_iff.mp h
    exact List.mem_cons_of_mem _ (List.mem_flatMap.mpr ⟨p, in_places (Bool.and_eq_true_iff.mp h1).1, List.mem_map.mpr ⟨t, of_decide_eq_true h2, rfl⟩⟩)
theorem allS_len {rows : List Tx} (R : Rows rows) : (allS rows).length ≤ 289 := by
  have h := places_len R
  have h2 : ∀ ps : List Pl, (ps.flatMap fun p => TURNS.map fun t => (some (p, t) : Sd)).length = ps.length * 8 := by
    intro ps
    induction ps with
    | nil => rfl
    | cons p ps ih =>
      rw [List.flatMap_cons, List.length_append, ih, List.length_map, List.length_cons]
      show 8 + ps.length * 8 = _
      omega
  show ((placesM rows).flatMap fun p => TURNS.map fun t => (some (p, t) : Sd)).length + 1 ≤ 289
  rw [h2]
  omega
theorem step_ok {x : WdIn} (W : WdOk x) {safe : Bool} : ∀ s d s', okS x.rows s = true → d ∈ DEEDS → stepM x safe s d = some s' → okS x.rows s' = true := fun s d s' hs hd h => by
  unfold stepM at h
  split at h
  · rw [← Option.some.inj h]
    exact behind_ok W.R (pagesOk W).2 hs hd
  · cases h
theorem s0_ok {x : WdIn} (W : WdOk x) : okS x.rows (s0M x) = true := by
  have h1 := (List.mem_filter.mp W.b).2
  show (okP x.rows x.begin && decide (x.turn ∈ TURNS)) = true
  have h2 : sgn x.rows x.begin ∈ STAND := by
    have := of_decide_eq_true h1
    revert this
    generalize sgn x.rows x.begin = c
    intro h
    exact List.mem_append_left [126] h
  unfold okP
  rw [open_in W.b, decide_eq_true h2, decide_eq_true W.t]; rfl
section
variable {x : WdIn} {safe : Bool} {i : Nat} {done : List Nat} {seen : List (Sd × Tx)}
theorem word_len (A : AInv ix DEEDS (stepM x safe) (goalM x) (s0M x) i done seen) : ∀ (k : Nat) (p : Sd × Tx), seen[k]? = some p → p.2.length ≤ k := by
  intro k
  induction k using Nat.strongRecOn with
  | ind k ih =>
    intro p hp
    by_cases h0 : k = 0
    · subst h0
      rw [A.head] at hp
      cases hp
      exact Nat.le_refl _
    · obtain ⟨j, q, d, hq, e, _⟩ := A.par k p hp h0
      have hlen : p.2.length = q.2.length + 1 := by rw [e, List.length_append]; rfl
      have hj : j < k := by
        rcases Nat.lt_trichotomy j k with h | h | h
        · exact h
        · subst h; rw [hp] at hq; cases hq; omega
        · have := A.lt_of hp hq h
          rcases this with z | ⟨z, _⟩ <;> omega
      have := ih j hj q hq
      omega
end
/-! ### what the code holds -/
structure RowsAt (K : PySem.W.Frag) (P : Program) (w : World) (H0 F H : Hp) (r : Addr) (seen : List (Sd × Tx)) : Prop where
  rf : F r = none
  r0 : H0 r = none
  rh : ∃ xs, H r = some (KdO P w r xs) ∧ KeysIn K F xs ∧ xs.map (fun x => (x.1, x.2.2)) = seen
section
variable {K : PySem.W.Frag} {P : Program} {w : World} {F0 H0 F H F1 H1 : Hp} {r l : Addr} {seen : List (Sd × Tx)} {ds : List PyData}
theorem RowsAt.gr (a : RowsAt K P w H0 F H r seen) (g : Gr F H F1 H1) : RowsAt K P w H0 F1 H1 r seen := by
  obtain ⟨xs, h1, h2, h3⟩ := a.rh
  exact ⟨g.nw _ _ h1 a.rf, a.r0, xs, g.hh _ _ h1, h2.mono g.ff, h3⟩
theorem RowsAt.other (a : RowsAt K P w H0 F H r seen) {p : Addr} {o : HO} (hp : r ≠ p) : RowsAt K P w H0 F (upd H p o) r seen := by
  obtain ⟨xs, h1, h2, h3⟩ := a.rh
  exact ⟨a.rf, a.r0, xs, by rw [upd_ne hp]; exact h1, h2, h3⟩
theorem Own.other (o : Own K F0 H0 F H l ds) {p : Addr} {u : HO} (hp : l ≠ p) (h0 : H0 p = none) (hf : F p = none) : Own K F0 H0 F (upd H p u) l ds := by
  obtain ⟨xs, h1, h2⟩ := o.xs
  exact ⟨o.g.mut h0 hf, o.h0, o.fl, xs, by rw [upd_ne hp]; exact h1, h2⟩
theorem apart (o : Own K F0 H0 F H l ds) (a : RowsAt K P w H0 F H r seen) : l ≠ r := by
  obtain ⟨xs, h1, _⟩ := o.xs
  obtain ⟨ys, h2, _⟩ := a.rh
  exact ne_of h1 h2 (fun z => nomatch z)
theorem look_seen : ∀ {xs : Rws} {s : Sd} {t : Tx}, (xs.map (·.1)).Nodup → (s, t) ∈ xs.map (fun x => (x.1, x.2.2)) → lookR xs s = some t := by
  intro xs s t hn hm
  induction xs with
  | nil => cases hm
  | cons y xs ih =>
    rw [List.map_cons, List.nodup_cons] at hn
    unfold lookR
    rw [List.find?_cons]
    rw [List.map_cons] at hm
    rcases List.mem_cons.mp hm with e | hm
    · have e1 : y.1 = s := (congrArg Prod.fst e).symm
      rw [decide_eq_true e1]
      show some y.2.2 = some t
      rw [show y.2.2 = t from (congrArg Prod.snd e).symm]
    · have e1 : ¬ y.1 = s := fun z => by
        obtain ⟨q, hq, e⟩ := List.mem_map.mp hm
        refine hn.1 ?_
        rw [z, ← show q.1 = s from congrArg Prod.fst e]
        exact List.mem_map_of_mem hq
      rw [decide_eq_false e1]
      exact ih hn.2 hm
theorem seen_fst {xs : Rws} (h : xs.map (fun x => (x.1, x.2.2)) = seen) : xs.map (·.1) = seen.map (·.1) := by
  rw [← h, List.map_map]; rfl
end
theorem S_snoc (t : Tx) (d : Nat) : S t ++ (⟨#[d]⟩ : Str) = S (t ++ [d]) := by
  show (⟨t.toArray ++ #[d]⟩ : Str) = ⟨(t ++ [d]).toArray⟩
  simp
def ResFR (K : PySem.W.Frag) (x : WdIn) (safe : Bool) : Ds := fun v F => (∃ w, D K (.tuple [.str "row", dT w]) v F ∧ FirstFact x safe w) ∨ (∃ ds, D K (.tuple [.str "none", .list ds]) v F ∧ NeverFact x safe)
section
variable {P : Program} {w : World} {K : PySem.W.Frag} {mg : Str → Option Value} {base : Heap}
def sp_first_row (K : PySem.W.Frag) : Sp := Pr (fun x : WdIn × Bool => [IsHd K x.1, D K (.str "at"), D K (.bool x.2)]) (fun x => WdOk x.1) (fun x => ResFR K x.1 x.2)
theorem sc_first_row : FnScope ["hand", "kind", "safe", "begin", "rows", "order", "at", "thing", "deed", "there"] ["hand", "kind", "safe"] (defScope s_first_row) := ⟨rfl, rfl, rfl, by decide +kernel, rfl, by decide +kernel, by decide +kernel⟩
set_option maxHeartbeats 2000000 in
theorem bd_first_row (T : Tt K mg) (G_want_kind : Cal P w K mg base 1 "want_kind" ["kind"] (sp_want_kind K)) (G_first_thing : Cal P w K mg base 3 "first_thing" ["hand", "kind"] (sp_first_thing K)) (G_is_brought : Cal P w K mg base 10 "is_brought" ["hand", "kind", "thing"] (sp_is_brought K)) (G_things_behind : Cal P w K mg base 11 "things_behind" ["hand", "kind", "thing", "safe"] (sp_things_behind K)) : BodyOk P w K mg base 11 "first_row" s_first_row ["hand", "kind", "safe", "begin", "rows", "order", "at", "thing", "deed", "there"] (sp_first_row K) := by
  intro f cdv A outer s H vs Q E hr h
  have nd := sc_first_row.nd
  have hu := hu_of hr
  have hu64 := hr.units
  have hu65 : (A.deeper (envOfC "first_row" (defScope s_first_row) s.heap.objs.size f cdv)).units + 65 < cLine := by have := hr.un; omega
  obtain ⟨⟨x, safe⟩, F, e, hA, W, k⟩ := h
  obtain ⟨v, v2, v3, rfl, hv, h2, h3⟩ := all3 hA
  have W : WdOk x := W
  have mh : ∀ {F1 : Hp}, Ex F F1 → IsHd K x v F1 := fun e1 => (inferInstance : Mn (IsHd K x)).mn e1 hv
  have sok := s0_ok W
  refine ⟨_, (pss_cons (ps_expr (p_call G_want_kind hr (pa_cons (pv 1) pa_nil)))
      (pss_cons (ps_set (i := 3) nd rfl (Or.inl rfl) (p_call G_first_thing hr (pa_cons (pv 0) (pa_cons (pv 1) pa_nil))))
      (pss_cons (ps_par (i := 4) (j := 5) (by rfl) nd rfl rfl (by decide) rfl rfl (pa_cons (pe_dispN hu65 (pv 3) pe_str) (pa_cons (pe_lst (pa_cons (pv 3) pa_nil)) pa_nil)) (by rfl))
      (pss_cons (ps_set (i := 6) nd rfl (Or.inl rfl) pe_int)
      (pss_cons (ps_while PassesOwn.never (pt_cmpR op_lt (pv 6) (pe_callB (id := "len") call_len_seq (by rfl) T.f_len boot_len (pa_cons (pv 5) pa_nil)) (nomark _)) (pss_cons (ps_if (pt_cmpR op_eq (pv 6) (p_gi T.i_MOST_THINGS) (nomark _)) (pss_one ps_never) pss_nil)
      (pss_cons (ps_set (i := 7) nd rfl (Or.inl rfl) (pe_ix ix_list (pv 5) (pv 6) (fun _ _ => rfl)))
      (pss_cons (ps_if (pt_val (p_call G_is_brought hr (pa_cons (pv 0) (pa_cons (pv 1) (pa_cons (pv 7) pa_nil))))) (pss_one (ps_ret (pe_tup (pa_cons pe_str (pa_cons (pe_nget hu65 (pv 4) (pv 7) (fun _ _ => rfl)) pa_nil))))) pss_nil)
      (pss_cons (ps_for PassesOwn.never rfl (pi_list (p_call G_things_behind hr (pa_cons (pv 0) (pa_cons (pv 1) (pa_cons (pv 7) (pa_cons (pv 2) pa_nil)))))) (pg_tup (by rfl) (pgs_cons (pg_name (i := 8) nd rfl (Or.inl rfl)) (pgs_cons (pg_name (i := 9) nd rfl (Or.inl rfl)) pgs_nil))) (pss_one (ps_if (pt_cmpR (op_notInN hu65) (pv 9) (pv 4) (by rfl)) (pss_cons (ps_nput hu65 (pv 4) (pv 9) (pe_op op_add_str (pe_nget hu65 (pv 4) (pv 7) (fun _ _ => rfl)) (pv 8)) rfl)
      (pss_one (ps_expr (pe_bm PySem.F.plainAttrs_list PySem.F.slot_list_append PySem.F.type_list_append mt_append (pv 5) (pa_cons (pv 9) pa_nil))))) pss_nil)))
      (pss_one (ps_aug (i := 6) nd rfl (Or.inl rfl) pe_int ip_add)))))))
      (pss_one (ps_ret (pe_tup (pa_cons pe_str (pa_cons (pv 5) pa_nil)))))))))), ?_⟩
  refine q_drop e (e_call () (ea_cons (e_var rfl h2) ea_nil) trivial) fun H1 g1 => ?_
  refine q_asg g1.fh (P := D K (dTh (s0M x))) (e_call x (ea_cons (e_var rfl hv) (ea_cons (e_var rfl h2) ea_nil)) trivial) fun v4 F2 H2 g2 h4 => ?_
  have g12 := g1.trans g2
  obtain ⟨b0, zs, rfl, q1, q2⟩ := dTup (h4 : D K (.tuple [dOne (s0M x), .tuple []]) v4 F2)
  show tPar 4 5 _ _ _ _
  intro r hr
  have fr : F2 r = none := ex_none g2.fh hr
  refine ⟨_, rfl, ⟨s0M x, [], b0, rfl, upd_same, ?_, ?_⟩⟩
  · exact dpx (ex_mut g2.fh fr) _ _ h4
  rw [upd_upd]
  have gr0 : Gr F2 H2 F2 (upd H2 r (KdO P w r [(s0M x, b0, [])])) := Gr.own g2.fh hr
  refine ⟨.ref b0, rfl, ?_⟩
  refine ⟨Nat.le_trans (show 1 ≤ 100000 by decide) (by decide), fun l hl => ⟨_, _, rfl, ?_⟩⟩
  have hlr : l ≠ r := fun z => by
    subst z
    rw [upd_same] at hl
    cases hl
  rw [upd_ne hlr] at hl
  have hor : Own K F2 H2 F2 (upd (upd H2 r (KdO P w r [(s0M x, b0, [])])) l (.lst [.ref b0])) l ([(s0M x, ([] : Tx))].map fun q => dTh q.1) := by
    refine ⟨gr0.trans (Gr.own gr0.fh (by rw [upd_ne hlr]; exact hl)), hl, ex_none g2.fh hl, _, upd_same, .cons h4 .nil⟩
  have har : RowsAt K P w H2 F2 (upd (upd H2 r (KdO P w r [(s0M x, b0, [])])) l (.lst [.ref b0])) r [(s0M x, [])] := by
    refine ⟨fr, hr, [(s0M x, b0, [])], by rw [upd_ne (Ne.symm hlr), upd_same], fun y hy => ?_, rfl⟩
    rcases List.mem_singleton.mp hy with rfl
    exact h4
  have o3 := hor
  have a3 := har
  show tSeq (tAsg (tC (V.int 0)) (gName 6)) _ _ _ _
  refine q_asg o3.g.fh (P := D K (.int 0)) e_c fun v5 F4 H4 g4 h5 => ?_
  have e5 := dInt h5
  subst e5
  have o4 := o3.gr g4
  have a4 := a3.gr g4
  refine ⟨fun m σ' H' => ∃ (i : Nat) (seen : List (Sd × Tx)) (F' : Hp) (t7 t8 t9 : Option V), σ' = [some v, some v2, some v3, some (.ref b0), some (.ref r), some (.ref l), some (.int i), t7, t8, t9] ∧ m = 300 - i ∧ Own K F2 H2 F' H' l (seen.map fun q => dTh q.1) ∧ RowsAt K P w H2 F' H' r seen ∧ AInv ix DEEDS (stepM x safe) (goalM x) (s0M x) i [] seen, ⟨300, 0, [(s0M x, [])], F4, none, none, none, rfl, rfl, o4, a4, AInv.start _⟩, ?_⟩
  rintro m σ' H' ⟨i, seen, F', t7, t8, t9, rfl, rfl, o, a, A⟩
  have hlen : seen.length ≤ 289 := Nat.le_trans (A.short sok (step_ok W) (fun s hs => allS_in hs)) (allS_len W.R)
  obtain ⟨ys, hy1, hy2⟩ := o.xs
  have hyl : ys.length = seen.length := by rw [dlen hy2, List.length_map]
  have hF : Ex F F' := g12.ff.trans o.g.ff
  refine ⟨_, rfl, _, rfl, l, ys, rfl, .inl (Evl.sq_of hy1), _, _, rfl, rfl, _, rfl, ?_⟩
  by_cases hi : i < seen.length
  · have hb : decide ((i : Int) < (ys.length : Int)) = true := decide_eq_true (by omega)
    rw [hb]
    refine iteT ⟨fun σ2 H5 => ∃ m', m' < 300 - i ∧ ∃ (i : Nat) (seen : List (Sd × Tx)) (F' : Hp) (t7 t8 t9 : Option V), σ2 = [some v, some v2, some v3, some (.ref b0), some (.ref r), some (.ref l), some (.int i), t7, t8, t9] ∧ m' = 300 - i ∧ Own K F2 H2 F' H5 l (seen.map fun q => dTh q.1) ∧ RowsAt K P w H2 F' H5 r seen ∧ AInv ix DEEDS (stepM x safe) (goalM x) (s0M x) i [] seen, fun σ2 H5 z => z, ?_⟩
    obtain ⟨⟨s, t⟩, hst⟩ : ∃ q, seen[i]? = some q := ⟨_, List.getElem?_eq_getElem hi⟩
    have hok : okS x.rows s = true := A.oks sok (step_ok W) (s, t) (List.mem_of_getElem? hst)
    have htl : t.length ≤ 289 := by
      have := word_len A i (s, t) hst
      have h9 : t.length ≤ i := this
      omega
    refine q_fine o.g.fh (b := false) (t_eq (t_test (K := K) (e_eqI (i := (i : Int)) (j := 3000) (e_var rfl (Dp.int _)) e_c)) (decide_eq_false (by omega))) fun H5 g5 => ?_
    have o5 := o.gr g5
    have a5 := a.gr g5
    obtain ⟨vth, hv1, hth⟩ := dgetD hy2 (show (seen.map fun q => dTh q.1)[i]? = some (dTh s) by rw [List.getElem?_map, hst]; rfl)
    refine ⟨_, rfl, _, rfl, l, ys, i, vth, rfl, rfl, .inl (.inl (g5.hh _ _ hy1)), atI_nat hv1, ?_⟩
    have hseen : (s, t) ∈ seen := List.mem_of_getElem? hst
    refine q_when o5.g.fh (b := goalM x s) (t_B (K := K) (e_call (Ps := fun x : WdIn × Sd => [IsHd K x.1, D K (.str "at"), D K (dTh x.2)]) (R := fun x => D K (.bool (OH.wished x.1.ws x.2))) (x, s) (ea_cons (e_var rfl (mh hF)) (ea_cons (e_var rfl (dpx hF _ _ h2)) (ea_cons (e_var rfl hth) ea_nil))) ⟨W, hok⟩)) (fun hg H6 g6 => ?_) fun hg H6 g6 => ?_
    · have o6 := o5.gr g6
      have a6 := a5.gr g6
      obtain ⟨xs, hx1, hx2, hx3⟩ := a6.rh
      refine ⟨_, rfl, _, rfl, r, xs, s, t, rfl, hx1, hx2.mono o6.g.fh, dpx o6.g.fh _ _ hth, look_seen (by rw [seen_fst hx3]; exact A.nodup) (by rw [hx3]; exact hseen), Nat.le_trans (show 2 ≤ 100000 by decide) (by decide), fun p hp => ?_⟩
      have gn := Gr.new (o := .tup [.str "row", .str (S t)]) o6.g.fh hp
      refine k _ _ _ ((g12.trans o6.g).trans gn) (.inl ⟨t, Dp.tup (Evl.st_of upd_same) (.cons (.str _) (.cons (.str _) .nil)), ?_⟩)
      obtain ⟨ra, rb⟩ := A.runs _ hseen
      exact ⟨⟨s, ra, hg⟩, rb, fun v' s' hD hr hg' => A.first hst hD hr hg', by omega⟩
    · have o6 := o5.gr g6
      have a6 := a5.gr g6
      refine q_for (K := K) o6.g.fh (i_list (ds := (behindsM x safe s).map dBe) (e_call (x, safe, s) (ea_cons (e_var rfl (mh hF)) (ea_cons (e_var rfl (dpx hF _ _ h2)) (ea_cons (e_var rfl hth) (ea_cons (e_var rfl (dpx hF _ _ h3)) ea_nil)))) ⟨W, hok⟩)) fun F7 H7 g7 => ⟨fun j σ' F' H' => ∃ t8 t9, σ' = [some v, some v2, some v3, some (.ref b0), some (.ref r), some (.ref l), some (.int i), some vth, t8, t9] ∧ Ex F7 F' ∧ Own K F2 H2 F' H' l ((addsL t ((behindsM x safe s).take j) seen).map fun q => dTh q.1) ∧ RowsAt K P w H2 F' H' r (addsL t ((behindsM x safe s).take j) seen), ⟨t8, t9, rfl, Ex.refl _, o6.gr g7, a6.gr g7⟩, fun j σ' F' H' q => ?_, ?_, ?_⟩
      · obtain ⟨_, _, _, e7, o7, _⟩ := q
        exact ⟨e7, o7.g.fh⟩
      · rintro j dd y σ' F8 H8 F9 H9 hdd ⟨u8, u9, rfl, e8, o8, a8⟩ g9 hy
        rw [List.getElem?_map] at hdd
        obtain ⟨⟨d, s'⟩, hdj, rfl⟩ := Option.map_eq_some_iff.mp hdd
        have o9 := o8.gr g9
        have a9 := a8.gr g9
        have hthF : D K (dTh s) vth F9 := dpx (((g7.ff.trans e8).trans g9.ff)) _ _ hth
        refine g_unp (d1 := dC d) (d2 := dTh s') g9.fh hy fun v8 v9 q8 q9 => ?_
        obtain ⟨xs, hx1, hx2, hx3⟩ := a9.rh
        have et : (behindsM x safe s).take (j + 1) = (behindsM x safe s).take j ++ [(d, s')] := by rw [List.take_add_one, hdj]; rfl
        refine ⟨_, rfl, _, rfl, r, xs, s', rfl, hx1, hx2.mono o9.g.fh, dpx o9.g.fh _ _ q9, _, rfl, ?_⟩
        have hlk : (lookR xs s').isSome = decide (s' ∈ xs.map (·.1)) := lookR_mem
        have hbl : (behindsM x safe s).length ≤ 4 := by
          unfold behindsM
          exact Nat.le_trans (List.length_filter_le _ _) (by rw [List.length_map]; decide)
        have hsl : (addsL t ((behindsM x safe s).take j) seen).length ≤ 293 := by
          have z1 := addsL_len t ((behindsM x safe s).take j) seen
          rw [List.length_take] at z1
          omega
        by_cases hm : s' ∈ (addsL t ((behindsM x safe s).take j) seen).map (·.1)
        · have hb2 : (!(lookR xs s').isSome) = false := by
            rw [hlk, seen_fst hx3, decide_eq_true hm]; rfl
          rw [hb2]
          refine iteF ⟨F9, _, _, rfl, e8.trans g9.ff, ?_, ?_⟩
          · rw [et, addsL_snoc, if_pos hm]; exact o9
          · rw [et, addsL_snoc, if_pos hm]; exact a9
        · have hb2 : (!(lookR xs s').isSome) = true := by
            rw [hlk, seen_fst hx3, decide_eq_false hm]; rfl
          have hln : lookR xs s' = none := by
            cases z : lookR xs s' with
            | none => rfl
            | some _ => rw [z] at hb2; cases hb2
          rw [hb2]
          have hst2 : lookR xs s = some t := look_seen (by
            rw [seen_fst hx3]
            exact addsL_nd _ _ _ A.nodup) (by rw [hx3]; exact List.mem_of_getElem? (addsL_get t _ _ hst))
          obtain ⟨b9, _, rfl, _, _⟩ := dTup (q9 : D K (.tuple [dOne s', .tuple []]) v9 F9)
          have e8' := dStr q8
          subst e8'
          refine iteT ?_
          refine ⟨_, rfl, _, rfl, r, xs, s, t, rfl, hx1, hx2.mono o9.g.fh, dpx o9.g.fh _ _ hthF, hst2, _, rfl, S t, ⟨#[d]⟩, rfl, rfl, ?_, _, rfl, _, rfl, r, xs, s', t ++ [d], b9, rfl, hx1, hx2.mono o9.g.fh, rfl, dpx o9.g.fh _ _ q9, ?_, hln, ?_, ?_⟩
          · rw [len_S]
            show t.length + 1 ≤ sizeLine
            exact Nat.le_trans (show t.length + 1 ≤ 100000 by omega) (by decide)
          · exact congrArg V.str (S_snoc t d)
          · have : xs.length = (addsL t ((behindsM x safe s).take j) seen).length := by rw [← hx3, List.length_map]
            exact Nat.lt_of_lt_of_le (show xs.length < 100000 by omega) (by decide)
          · have hrl : l ≠ r := apart o9 a9
            have o10 := o9.other (u := KdO P w r (xs ++ [(s', b9, t ++ [d])])) hrl a9.r0 a9.rf
            have a10 : RowsAt K P w H2 F9 (upd H9 r (KdO P w r (xs ++ [(s', b9, t ++ [d])]))) r (addsL t ((behindsM x safe s).take j) seen ++ [(s', t ++ [d])]) := by
              refine ⟨a9.rf, a9.r0, _, upd_same, fun y hy => ?_, ?_⟩
              · rcases List.mem_append.mp hy with hy | hy
                · exact hx2 y hy
                · rcases List.mem_singleton.mp hy with rfl
                  exact q9
              · rw [List.map_append, hx3]; rfl
            obtain ⟨zs, k1, k2, k3⟩ := o10.len (n := 300) (by rw [List.length_map]; omega) rfl
            refine ⟨_, rfl, .inl ⟨rfl, zs, Evl.sq_of k1⟩, _, rfl, l, zs, _, rfl, rfl, k1, k2, F9, _, _, rfl, e8.trans g9.ff, ?_, ?_⟩
            · rw [et, addsL_snoc, if_neg hm, List.map_append]
              exact ⟨o10.g.mut o10.h0 o10.fl, o10.h0, o10.fl, _, upd_same, dsnoc k3 q9⟩
            · rw [et, addsL_snoc, if_neg hm]
              exact a10.other (Ne.symm hrl)
      · rintro σ' F8 H8 ⟨u8, u9, rfl, e8, o8, a8⟩
        rw [List.take_of_length_le (by rw [List.length_map]; exact Nat.le_refl _)] at o8 a8
        refine ⟨_, rfl, i, 1, rfl, rfl, 300 - (i + 1), by omega, i + 1, _, F8, _, _, _, rfl, rfl, o8, a8, ?_⟩
        have := A.turn deeds_pw hst hg
        rw [adds_eq] at this
        exact this
  · have hb : decide ((i : Int) < (ys.length : Int)) = false := decide_eq_false (by omega)
    rw [hb]
    refine iteF ?_
    obtain ⟨F5, g5, e5, hd⟩ := o.fix
    refine ⟨_, rfl, Nat.le_trans (show 2 ≤ 100000 by decide) (by decide), fun p hp => ?_⟩
    have gn := Gr.new (o := .tup [.str "none", .ref l]) g5.fh hp
    refine k _ _ _ ((g12.trans g5).trans gn) (.inr ⟨_, Dp.tup (Evl.st_of upd_same) (.cons (.str _) (.cons (dpx gn.ff _ _ hd) .nil)), ?_⟩)
    exact fun v' s' hD hr => A.never (List.getElem?_eq_none (by omega)) hD hr
end
end OL
-- OhSrc
set_option maxHeartbeats 1000000
/-! The law's source of figures: a list of three ints, whichever they are. -/
namespace OL
open PySem PySem.Spec PyProof.Rows L2
open SX (S)
open Evl (Ex)
open OH
/-- three ints at p -/
def Src3 (h : Heap) (p : Addr) : Prop := ∃ (x y z : Int) (its : List Value) (n : Nat), Vals [V.int x, V.int y, V.int z] its ∧ h.get? p = some { cls := .type "list", data := .seq its.toArray n }
def SrcO (p : Addr) : HO := .ext fun h => Src3 h p
def IsSrc : Ds := fun v H => ∃ p, v = .ref p ∧ H p = some (SrcO p)
instance : Mn IsSrc := ⟨fun e ⟨p, h1, h2⟩ => ⟨p, h1, e _ _ h2⟩⟩
theorem src_new {P : Program} {w : World} {H : Hp} {h : Heap} {p : Addr} (R : Src3 h p) : ObjOk P w H h p (SrcO p) := by
  obtain ⟨x, y, z, its, n, h1, h2⟩ := R
  refine ⟨⟨x, y, z, its, n, h1, h2⟩, ⟨_, h2⟩, fun g1 g2 q k => ?_⟩
  obtain ⟨x', y', z', its', n', k1, k2⟩ := q
  exact ⟨x', y', z', its', n', k1, k _ k2⟩
theorem upd_self {H : Hp} {p : Addr} {o : HO} (h : H p = some o) : upd H p o = H := by
  funext b
  unfold upd
  split
  · rename_i e; subst e; exact h.symm
  · rfl
section
variable {X : Cx} {pins : List (Addr × Obj)} {σ : L2.St} {H : Hp} {s : Shared} {p : Addr}
theorem src_view (I : Inv X pins σ H s) (hp : H p = some (SrcO p)) : ∃ x y z, Inv X pins σ (upd H p (.lst [V.int x, V.int y, V.int z])) s := by
  obtain ⟨x, y, z, its, n, h1, h2⟩ : Src3 s.heap p := (I.hok p _ hp).1
  exact ⟨x, y, z, d_write (h' := s.heap) (t' := s.toks) I (by rw [hp]; exact True.intro) (Heap.SameBut.refl _ _) ⟨_, h2⟩ ⟨by show 3 ≤ sizeLine; exact Nat.le_trans (show 3 ≤ 100000 by decide) (by decide), its, n, h1, h2⟩⟩
theorem src_back {x y z : Int} (I : Inv X pins σ H s) (hp : H p = some (.lst [V.int x, V.int y, V.int z])) : Inv X pins σ (upd H p (SrcO p)) s := by
  obtain ⟨hz, its, n, h1, h2⟩ := I.hok p _ hp
  exact d_write (h' := s.heap) (t' := s.toks) I (by rw [hp]; exact True.intro) (Heap.SameBut.refl _ _) ⟨_, h2⟩ (src_new ⟨x, y, z, its, n, h1, h2⟩)
theorem src_ret {x y z : Int} (hp : H p = some (SrcO p)) (I : Inv X pins σ (upd H p (.lst [V.int x, V.int y, V.int z])) s) : Inv X pins σ H s := by
  have := src_back I upd_same
  rw [upd_upd, upd_self hp] at this
  exact this
/-- src[i] -/
def rIxSrc : R2 := fun x y H Q => ∃ p i, x = .ref p ∧ y = .int i ∧ H p = some (SrcO p) ∧ (0 ≤ i ∧ i < 3) ∧ ∀ n : Int, Q (.int n) H
theorem ix_src : IxR X rIxSrc := by
  intro value slice pins s σ H x y v u Q I rx ry h hs
  obtain ⟨p, i, rfl, rfl, hp, hi, q⟩ := h
  obtain ⟨a, b, c, I2⟩ := src_view I hp
  refine thn (ix_list value slice pins s σ _ (.ref p) (.int i) v u (fun w H' => H' = upd H p (.lst [V.int a, V.int b, V.int c]) ∧ ∃ n, w = V.int n) I2 rx ry ?_ hs) fun r s' ⟨w, H', I3, rw', e, n, ew⟩ => ?_
  · have h3 : i = 0 ∨ i = 1 ∨ i = 2 := by omega
    rcases h3 with rfl | rfl | rfl
    · exact ⟨p, _, 0, V.int a, rfl, rfl, .inl (.inl upd_same), rfl, rfl, a, rfl⟩
    · exact ⟨p, _, 1, V.int b, rfl, rfl, .inl (.inl upd_same), rfl, rfl, b, rfl⟩
    · exact ⟨p, _, 2, V.int c, rfl, rfl, .inl (.inl upd_same), rfl, rfl, c, rfl⟩
  · subst e ew
    exact ⟨.int n, H, src_ret hp I3, rw', q n⟩
/-- src[i] = an int -/
def rSetSrc : V → V → V → Hp → (Hp → Prop) → Prop := fun o i v H Q => ∃ p j n, o = .ref p ∧ i = .int j ∧ v = .int n ∧ H p = some (SrcO p) ∧ (0 ≤ j ∧ j < 3) ∧ Q H
theorem set_src : PSet X rSetSrc := by
  intro pins s σ H o i v ov iv u Q I ro ri rv h
  obtain ⟨p, j, n, rfl, rfl, rfl, hp, hj, q⟩ := h
  obtain ⟨a, b, c, I2⟩ := src_view I hp
  have h3 : ∃ k : Nat, ixN 3 j = some k ∧ (k = 0 ∨ k = 1 ∨ k = 2) := by
    have h3 : j = 0 ∨ j = 1 ∨ j = 2 := by omega
    rcases h3 with rfl | rfl | rfl
    · exact ⟨0, rfl, .inl rfl⟩
    · exact ⟨1, rfl, .inr (.inl rfl)⟩
    · exact ⟨2, rfl, .inr (.inr rfl)⟩
  obtain ⟨k, hk, h3⟩ := h3
  refine thn (set_list pins s σ _ (.ref p) (.int j) (.int n) ov iv u (fun H' => ∃ a' b' c' : Int, H' = upd H p (.lst [V.int a', V.int b', V.int c'])) I2 ro ri rv ⟨p, _, j, k, rfl, rfl, upd_same, hk, ?_⟩) fun _ s' ⟨H', I3, a', b', c', e⟩ => ?_
  · rw [upd_upd]
    rcases h3 with rfl | rfl | rfl
    · exact ⟨n, b, c, rfl⟩
    · exact ⟨a, n, c, rfl⟩
    · exact ⟨a, b, n, rfl⟩
  · subst e
    exact ⟨H, src_ret hp I3, q⟩
/-- [int, int, int] -/
def tSrcNew (t : TA) : TE := fun σ H Q => t σ H fun vs H1 => ∃ x y z : Int, vs = [V.int x, V.int y, V.int z] ∧ ∀ p, H1 p = none → Q (.ref p) (upd H1 p (SrcO p))
end
section
variable {X : Cx}
theorem pe_srcNew {es : List Expr} {pos : Pos} {t : TA} (h : PA X es t) : PE X (.List es pos) (tSrcNew t) := by
  refine ⟨fun pins s σ H Q I hq => ?_⟩
  refine wpAny_List_spliced (thn (h.run pos pins s σ H _ I hq) fun us s1 ⟨xs, H1, I1, r, x, y, z, e, q⟩ => ?_)
  subst e
  have hl : us.length = 3 := r.length.symm
  refine ⟨by rw [hl]; exact Nat.le_trans (show 3 ≤ 100000 by decide) (by decide), ?_⟩
  have hf : H1 s1.heap.objs.size = none := I1.hok.fresh (Nat.le_refl _)
  refine ⟨.ref s1.heap.objs.size, upd H1 s1.heap.objs.size (SrcO s1.heap.objs.size), I1.laid (t' := s1.toks) (fun b u e => Heap.get?_push_of_some _ e) (Nat.le_refl _) ?_, rfl, q _ hf⟩
  exact src_new ⟨x, y, z, us, 0, r, Heap.get?_push_size _ rfl⟩
end
section
variable {K : PySem.W.Frag} {σ : L2.St} {F H : Hp} {ta tb te : TE} {P P1 : Ds} {tz : TS} {Dn : Ends}
/-! ### some int -/
def SomeI (p : Int → Prop) : Ds := fun v _ => ∃ n, v = .int n ∧ p n
instance {p : Int → Prop} : Mn (SomeI p) := ⟨fun _ h => h⟩
/-- a value of which only some x of many is known -/
def SomeD (K : PySem.W.Frag) {α : Type} (enc : α → PyData) (p : α → Prop) : Ds := fun v H => ∃ x, D K (enc x) v H ∧ p x
instance {α : Type} {enc : α → PyData} {p : α → Prop} : Mn (SomeD K enc p) := ⟨fun e ⟨x, h1, h2⟩ => ⟨x, dpx e _ _ h1, h2⟩⟩
theorem e_ixSrc {i : Int} (ha : EP ta σ F IsSrc) (hb : EP tb σ F (D K (.int i))) (hi : 0 ≤ i ∧ i < 3) : EP (tOp rIxSrc ta tb) σ F (SomeI fun _ => True) :=
  e_op ha hb fun x y F1 H1 e b ⟨p, h1, h2⟩ hy Q q => ⟨p, i, h1, dInt hy, b _ _ h2, hi, fun n => q _ F1 H1 (Gr.refl b) ⟨n, rfl, trivial⟩⟩
theorem e_I0s {g : Int → Int → V} {p p1 p2 : Int → Prop} (ha : EP ta σ F (SomeI p1)) (hb : EP tb σ F (SomeI p2)) (hg : ∀ i j, p1 i → p2 j → ∃ n, g i j = .int n ∧ p n) : EP (tOp (rI0 g) ta tb) σ F (SomeI p) :=
  e_op ha hb fun x y F1 H1 e b ⟨i, hx, h1⟩ ⟨j, hy, h2⟩ Q q => by
    obtain ⟨n, e1, e2⟩ := hg i j h1 h2
    exact ⟨i, j, hx, hy, q _ F1 H1 (Gr.refl b) ⟨n, e1, e2⟩⟩
theorem e_Is {C : Int → Int → Prop} {g : Int → Int → V} {p p1 p2 : Int → Prop} (ha : EP ta σ F (SomeI p1)) (hb : EP tb σ F (SomeI p2)) (hg : ∀ i j, p1 i → p2 j → C i j ∧ ∃ n, g i j = .int n ∧ p n) : EP (tOp (rI C g) ta tb) σ F (SomeI p) :=
  e_op ha hb fun x y F1 H1 e b ⟨i, hx, h1⟩ ⟨j, hy, h2⟩ Q q => by
    obtain ⟨hc, n, e1, e2⟩ := hg i j h1 h2
    exact ⟨i, j, hx, hy, hc, q _ F1 H1 (Gr.refl b) ⟨n, e1, e2⟩⟩
theorem e_someI {i : Int} {p : Int → Prop} (ha : EP ta σ F (D K (.int i))) (h : p i) : EP ta σ F (SomeI p) := ha.imp fun v F1 _ hv => ⟨i, dInt hv, h⟩
theorem e_someW {p q : Int → Prop} (ha : EP ta σ F (SomeI p)) (h : ∀ i, p i → q i) : EP ta σ F (SomeI q) := ha.imp fun v F1 _ ⟨i, h1, h2⟩ => ⟨i, h1, h i h2⟩
theorem e_ci (i : Int) {p : Int → Prop} (h : p i) : EP (tC (.int i)) σ F (SomeI p) := fun F1 H1 _ b _ q => q _ F1 H1 (Gr.refl b) ⟨i, rfl, h⟩
/-- a test of some ints: both ways -/
theorem s_ifAny {t : TT} {tu tw : TS} (e : Ex F H) (h : ∀ F1 H1, Ex F F1 → Ex F1 H1 → ∀ Q : Bool → Hp → Prop, (∀ b H2, Gr F1 H1 F1 H2 → Q b H2) → t σ H1 Q) (h1 : ∀ b H1, Gr F H F H1 → if b = true then tu Dn σ H1 else tw Dn σ H1) : tIfS t tu tw Dn σ H :=
  h F H (Ex.refl F) e _ fun b H1 g => h1 b H1 g
/-- src[i] = some int -/
theorem s_setSrc {tv to ti : TE} {i : Int} (e : Ex F H) (hv : EP tv σ F (SomeI fun _ => True)) (ho : EP to σ F IsSrc) (hi : EP ti σ F (D K (.int i))) (hb : 0 ≤ i ∧ i < 3) (k : ∀ F1 H1, Gr F H F1 H1 → Dn.nx σ H1) : tAsg tv (gSub to ti rSetSrc) Dn σ H :=
  hv.go e fun v F1 H1 g1 ⟨n, e1, _⟩ => (ho.mono g1.ff).go g1.fh fun x F2 H2 g2 ⟨p, hx1, hx2⟩ => (hi.mono (g1.ff.trans g2.ff)).go g2.fh fun y F3 H3 g3 hy => ⟨p, i, n, hx1, dInt hy, e1, g3.fh _ _ (g3.ff _ _ hx2), hb, k F3 H3 ((g1.trans g2).trans g3)⟩
theorem q_setSrc {tv to ti : TE} {i : Int} (e : Ex F H) (hv : EP tv σ F (SomeI fun _ => True)) (ho : EP to σ F IsSrc) (hi : EP ti σ F (D K (.int i))) (hb : 0 ≤ i ∧ i < 3) (k : ∀ F1 H1, Gr F H F1 H1 → tz Dn σ H1) : tSeq (tAsg tv (gSub to ti rSetSrc)) tz Dn σ H := s_setSrc (Dn := { Dn with nx := tz Dn }) e hv ho hi hb k
def SomeB : Ds := fun v _ => ∃ b, v = .bl b
theorem e_cmpS {g : Int → Int → V} {p1 p2 : Int → Prop} (ha : EP ta σ F (SomeI p1)) (hb : EP tb σ F (SomeI p2)) (hg : ∀ i j, ∃ b, g i j = .bl b) : EP (tOp (rI0 g) ta tb) σ F SomeB :=
  e_op ha hb fun x y F1 H1 e b ⟨i, hx, h1⟩ ⟨j, hy, h2⟩ Q q => by
    obtain ⟨n, e1⟩ := hg i j
    exact ⟨i, j, hx, hy, q _ F1 H1 (Gr.refl b) ⟨n, e1⟩⟩
theorem q_ifAny {tu tw : TS} (e : Ex F H) (h : EP te σ F SomeB) (h1 : ∀ F1 H1, Gr F H F1 H1 → tu { Dn with nx := tz Dn } σ H1) (h2 : ∀ F1 H1, Gr F H F1 H1 → tw { Dn with nx := tz Dn } σ H1) : tSeq (tIfS (tTest te) tu tw) tz Dn σ H :=
  h.go e fun v F1 H1 g ⟨b, hb⟩ => ⟨b, hb, by
    cases b with
    | true => exact iteT (h1 F1 H1 g)
    | false => exact iteF (h2 F1 H1 g)⟩
/-- a list of data, or a text -/
def SeqV (K : PySem.W.Frag) (x : Bool × List PyData) : Ds := fun v H => (x.1 = false ∧ D K (.list x.2) v H) ∨ (x.1 = true ∧ ∃ z, x.2 = signs z ∧ D K (.str z) v H)
instance {x : Bool × List PyData} : Mn (SeqV K x) := ⟨fun e h => h.elim (fun ⟨a, b⟩ => .inl ⟨a, dpx e _ _ b⟩) fun ⟨a, z, b, c⟩ => .inr ⟨a, z, b, dpx e _ _ c⟩⟩
def rLenV (K : PySem.W.Frag) : List V → Hp → VK → Prop := fun xs H Q => ∃ x n, xs = [x] ∧ LenV K x H n ∧ Q (.int n) H
theorem e_lenV {x : Bool × List PyData} (ha : EP ta σ F (SeqV K x)) (hl : x.2.length ≤ 100000) : EP (tCB (fun xs H Q => ∃ x n, xs = [x] ∧ LenV K x H n ∧ Q (.int n) H) (tCons ta tNil)) σ F (D K (.int x.2.length)) := fun F1 H1 e b Q q =>
  ha F1 H1 e b _ fun v F2 H2 g hv => by
    rcases hv with ⟨_, hd⟩ | ⟨_, z, e2, hd⟩
    · obtain ⟨a, xs, rfl, h1, h2⟩ := dLst hd
      exact ⟨_, x.2.length, rfl, .inl ⟨xs, Evl.ex_l g.fh h1, (dlen h2).symm⟩, q _ F2 H2 g (Dp.int _)⟩
    · rw [dStr hd]
      have e3 : x.2.length = z.length := by
        rw [e2]; unfold signs; rw [List.length_map]; simp [Str.length]
      exact ⟨_, x.2.length, rfl, ⟨by rw [← e3]; exact line_of hl, e3⟩, q _ F2 H2 g (Dp.int _)⟩
/-- one of many -/
def OneOf (K : PySem.W.Frag) (ds : List PyData) : Ds := fun v H => ∃ d ∈ ds, D K d v H
instance {ds : List PyData} : Mn (OneOf K ds) := ⟨fun e ⟨d, h1, h2⟩ => ⟨d, h1, dpx e _ _ h2⟩⟩
theorem e_ixV {x : Bool × List PyData} (ha : EP ta σ F (SeqV K x)) (hb : EP tb σ F (SomeI fun n => 0 ≤ n ∧ n < x.2.length)) (hl : x.2.length ≤ 100000) : EP (tOp (rIx K) ta tb) σ F (OneOf K x.2) :=
  e_op ha hb fun v y F1 H1 e b hv ⟨n, hy, h0, h1⟩ Q q => by
    subst hy
    obtain ⟨j, rfl⟩ : ∃ j : Nat, n = j := ⟨n.toNat, by omega⟩
    have hj : j < x.2.length := by omega
    have hd : x.2[j]? = some x.2[j] := List.getElem?_eq_getElem hj
    rcases hv with ⟨_, hd1⟩ | ⟨_, z, e2, hd1⟩
    · obtain ⟨a, xs, rfl, h3, h4⟩ := dLst hd1
      obtain ⟨u, hu, hud⟩ := dgetD h4 hd
      exact .inl ⟨a, xs, j, u, rfl, rfl, Evl.ex_l b h3, atI_nat hu, q u F1 H1 (Gr.refl b) ⟨_, List.getElem_mem hj, hud⟩⟩
    · rw [dStr hd1]
      have e3 : x.2.length = z.length := by
        rw [e2]; unfold signs; rw [List.length_map]; simp [Str.length]
      obtain ⟨c, hc, e4⟩ : ∃ c, z.cps.toList[j]? = some c ∧ x.2[j] = .str ⟨#[c]⟩ := by
        have h5 : (signs z)[j]? = some x.2[j] := by rw [← e2]; exact hd
        unfold signs at h5
        rw [List.getElem?_map] at h5
        obtain ⟨c, h6, h7⟩ := Option.map_eq_some_iff.mp h5
        exact ⟨c, h6, h7.symm⟩
      refine .inr (.inr ⟨z, j, c, rfl, rfl, by rw [← e3]; exact line_of hl, atI_nat hc, q _ F1 H1 (Gr.refl b) ⟨_, List.getElem_mem hj, ?_⟩⟩)
      rw [e4]; exact Dp.str _
end
end OL
-- OhW9
set_option maxHeartbeats 1000000
/-! The walk, part 9: figures. -/
namespace OL
open PySem PySem.Spec PyProof.Rows L2
open SX (S)
open Evl (Ex)
open OH
section
variable {P : Program} {w : World} {K : PySem.W.Frag} {mg : Str → Option Value} {base : Heap}
def sp_law_mixed (K : PySem.W.Frag) : Sp := Pr (fun _ : Unit => [SomeI fun _ => True, SomeI fun _ => True]) (fun _ => True) (fun _ => SomeI fun _ => True)
abbrev aI : Int → Prop := fun _ => True
/-- an int in 0 .. 2 ^ 31 -/
abbrev sI : Int → Prop := fun n => 0 ≤ n ∧ n < 2147483648
theorem sc_law_mixed : FnScope ["_law_cell", "_law_k", "_law_figure"] ["_law_cell", "_law_k"] (defScope s_law_mixed) := ⟨rfl, rfl, rfl, by decide +kernel, rfl, by decide +kernel, by decide +kernel⟩
set_option maxHeartbeats 2000000 in
theorem bd_law_mixed (T : Tt K mg)  : BodyOk P w K mg base 0 "_law_mixed" s_law_mixed ["_law_cell", "_law_k", "_law_figure"] (sp_law_mixed K) := by
  intro f cdv A outer s H vs Q E hr h
  have nd := sc_law_mixed.nd
  have hu := hu_of hr
  have hu64 := hr.units
  have hu65 : (A.deeper (envOfC "_law_mixed" (defScope s_law_mixed) s.heap.objs.size f cdv)).units + 65 < cLine := by have := hr.un; omega
  obtain ⟨_, F, e, hA, _, k⟩ := h
  obtain ⟨v, v2, rfl, hv, h2⟩ := all2 hA
  refine ⟨_, (pss_cons (ps_set (i := 2) nd rfl (Or.inl rfl) (pe_op op_mod (pe_op op_mul (pe_op op_add (pe_op op_mod (pv 0) pe_int) pe_int) (pe_op op_add (pe_op op_mul (pv 1) pe_int) pe_int)) pe_int))
      (pss_cons (ps_set (i := 2) nd rfl (Or.inl rfl) (pe_op op_mod (pe_op op_mul (pe_op op_add (pv 2) (pe_op op_mul (pe_op op_mod (pe_op op_fdivW (pv 0) pe_int) pe_int) (pe_op op_add (pv 1) pe_int))) pe_int) pe_int))
      (pss_cons (ps_set (i := 2) nd rfl (Or.inl rfl) (pe_op op_mod (pe_op op_mul (pv 2) (pe_op op_add (pe_op op_add (pe_op op_fdiv (pv 2) pe_int) pe_int) (pv 1))) pe_int))
      (pss_one (ps_ret (pe_op op_mod (pe_op op_mul (pv 2) (pe_op op_add (pe_op op_fdiv (pv 2) pe_int) pe_int)) pe_int)))))), ?_⟩
  have add : ∀ {σ : L2.St} {F : Hp} {a b : TE}, EP a σ F (SomeI aI) → EP b σ F (SomeI aI) → EP (tOp (rI0 fun i j => V.int (i + j)) a b) σ F (SomeI aI) := fun ha hb => e_I0s ha hb fun i j _ _ => ⟨_, rfl, trivial⟩
  have md : ∀ {σ : L2.St} {F : Hp} {a : TE} (m : Int), (0 < m ∧ m < 2147483648) → EP a σ F (SomeI aI) → EP (tOp (rI (fun _ j => 0 < j) fun i j => V.int (i % j)) a (tC (.int m))) σ F (SomeI sI) := fun m hm ha => e_Is ha (e_ci m (p := fun n => n = m) rfl) fun i j _ hj => ⟨by omega, _, rfl, Int.emod_nonneg _ (by omega), by have := Int.emod_lt_of_pos i (show 0 < j by omega); omega⟩
  have w_ : ∀ {σ : L2.St} {F : Hp} {a : TE}, EP a σ F (SomeI sI) → EP a σ F (SomeI aI) := fun h => e_someW h fun _ _ => trivial
  have mulL : ∀ {σ : L2.St} {F : Hp} {a b : TE}, EP a σ F (SomeI fun n => -(2 ^ 64) < n ∧ n < 2 ^ 64) → EP b σ F (SomeI aI) → EP (tOp (rI CMul fun i j => V.int (i * j)) a b) σ F (SomeI aI) := fun ha hb => e_Is ha hb fun i j hi _ => ⟨.inl hi, _, rfl, trivial⟩
  have mulR : ∀ {σ : L2.St} {F : Hp} {a : TE} (m : Int), (-(2 ^ 64) < m ∧ m < 2 ^ 64) → EP a σ F (SomeI aI) → EP (tOp (rI CMul fun i j => V.int (i * j)) a (tC (.int m))) σ F (SomeI aI) := fun m hm ha => e_Is ha (e_ci m (p := fun n => n = m) rfl) fun i j _ hj => ⟨.inr (by rw [hj]; exact hm), _, rfl, trivial⟩
  have dv : ∀ {σ : L2.St} {F : Hp} {a : TE} (m : Int), (0 < m ∧ m < 1073741824) → EP a σ F (SomeI aI) → EP (tOp (rI CDiv fun i j => V.int (i / j)) a (tC (.int m))) σ F (SomeI aI) := fun m hm ha => e_Is ha (e_ci m (p := fun n => n = m) rfl) fun i j _ hj => ⟨by rw [hj]; exact hm, _, rfl, trivial⟩
  have big : ∀ n : Int, sI n → -(2 ^ 64) < n ∧ n < 2 ^ 64 := fun n h => ⟨by have := h.1; omega, by have := h.2; omega⟩
  have c_ : ∀ {σ : L2.St} {F : Hp} (m : Int), EP (tC (.int m)) σ F (SomeI aI) := fun m => e_ci m trivial
  refine q_asg e (md 2147483647 (by decide) (mulL (e_I0s (p := fun n => -(2 ^ 64) < n ∧ n < 2 ^ 64) (md 2147483646 (by decide) (e_var rfl hv)) (e_ci 1 (p := fun n => n = 1) rfl) fun i j hi hj => ⟨_, rfl, by have := hi.1; have := hi.2; omega, by have := hi.1; have := hi.2; omega⟩) (add (mulR 7919 (by decide) (e_var rfl h2)) (c_ _)))) fun v3 F3 H3 g3 h3 => ?_
  have hv3 := (inferInstance : Mn (SomeI aI)).mn g3.ff hv
  have h23 := (inferInstance : Mn (SomeI aI)).mn g3.ff h2
  refine q_asg g3.fh (md 2147483629 (by decide) (mulR 48271 (by decide) (add (w_ (e_var rfl h3)) (mulL (e_someW (md 1000003 (by decide) (e_Is (p := aI) (e_var rfl hv3) (e_ci 2147483646 (p := fun n => n = 2147483646) rfl) fun i j _ hj => ⟨by rw [hj]; exact wide_div (b := 32) (by decide) (by decide) (by decide) (by decide), _, rfl, trivial⟩)) big) (add (e_var rfl h23) (c_ _)))))) fun v4 F4 H4 g4 h4 => ?_
  have h24 := (inferInstance : Mn (SomeI aI)).mn g4.ff h23
  refine q_asg g4.fh (md 2147483587 (by decide) (mulL (e_someW (e_var rfl h4) big) (add (add (dv 1013 (by decide) (w_ (e_var rfl h4))) (c_ _)) (e_var rfl h24)))) fun v5 F5 H5 g5 h5 => ?_
  exact s_ret g5.fh (w_ (md 2147483563 (by decide) (mulL (e_someW (e_var rfl h5) big) (add (dv 2003 (by decide) (w_ (e_var rfl h5))) (c_ _))))) fun v F6 H6 g6 hv => k v F6 H6 (((g3.trans g4).trans g5).trans g6) hv
def sp_law_source (K : PySem.W.Frag) : Sp := Pr (fun _ : Unit => [SomeI fun _ => True]) (fun _ => True) (fun _ => IsSrc)
theorem sc_law_source : FnScope ["_law_cell"] ["_law_cell"] (defScope s_law_source) := ⟨rfl, rfl, rfl, by decide +kernel, rfl, by decide +kernel, by decide +kernel⟩
set_option maxHeartbeats 2000000 in
theorem bd_law_source (T : Tt K mg)  : BodyOk P w K mg base 0 "_law_source" s_law_source ["_law_cell"] (sp_law_source K) := by
  intro f cdv A outer s H vs Q E hr h
  have nd := sc_law_source.nd
  have hu := hu_of hr
  have hu64 := hr.units
  have hu65 : (A.deeper (envOfC "_law_source" (defScope s_law_source) s.heap.objs.size f cdv)).units + 65 < cLine := by have := hr.un; omega
  obtain ⟨_, F, e, hA, _, k⟩ := h
  obtain ⟨v, rfl, n, rfl, _⟩ := all1 hA
  refine ⟨_, (pss_one (ps_ret (pe_srcNew (pa_cons (pv 0) (pa_cons (pv 0) (pa_cons pe_int pa_nil)))))), ?_⟩
  refine ⟨_, rfl, _, rfl, n, n, 0, rfl, fun p hp => ?_⟩
  exact k _ _ _ (Gr.new e hp) ⟨p, rfl, upd_same⟩
def sp_law_take (K : PySem.W.Frag) : Sp := Pr (fun n : Int => [IsSrc, D K (.int n)]) (fun n => 0 < n ∧ n < 1000000) (fun n => SomeI fun i => 0 ≤ i ∧ i < n)
theorem sc_law_take : FnScope ["_law_source_here", "_law_size", "_law_found"] ["_law_source_here", "_law_size"] (defScope s_law_take) := ⟨rfl, rfl, rfl, by decide +kernel, rfl, by decide +kernel, by decide +kernel⟩
set_option maxHeartbeats 2000000 in
theorem bd_law_take (T : Tt K mg) (G_law_mixed : Cal P w K mg base 1 "_law_mixed" ["_law_cell", "_law_k"] (sp_law_mixed K)) : BodyOk P w K mg base 1 "_law_take" s_law_take ["_law_source_here", "_law_size", "_law_found"] (sp_law_take K) := by
  intro f cdv A outer s H vs Q E hr h
  have nd := sc_law_take.nd
  have hu := hu_of hr
  have hu64 := hr.units
  have hu65 : (A.deeper (envOfC "_law_take" (defScope s_law_take) s.heap.objs.size f cdv)).units + 65 < cLine := by have := hr.un; omega
  obtain ⟨n, F, e, hA, ⟨hn, hn9⟩, k⟩ := h
  obtain ⟨v, v2, rfl, hv, h2⟩ := all2 hA
  refine ⟨_, (pss_cons (ps_if (pt_cmpR op_ge (pe_ix ix_src (pv 0) pe_int (fun _ _ => rfl)) (pe_op op_pow pe_int pe_int) (nomark _)) (pss_cons (ps_set (i := 2) nd rfl (Or.inl rfl) (pe_op op_mod (pe_ix ix_src (pv 0) pe_int (fun _ _ => rfl)) (pv 1)))
      (pss_cons (ps_asg (pe_op op_fdiv (pe_ix ix_src (pv 0) pe_int (fun _ _ => rfl)) (pv 1)) (pg_sub (pv 0) pe_int set_src))
      (pss_one (ps_ret (pv 2))))) pss_nil)
      (pss_cons (ps_asg (pe_op op_add (pe_ix ix_src (pv 0) pe_int (fun _ _ => rfl)) pe_int) (pg_sub (pv 0) pe_int set_src))
      (pss_one (ps_ret (pe_op op_mod (p_call G_law_mixed hr (pa_cons (pe_ix ix_src (pv 0) pe_int (fun _ _ => rfl)) (pa_cons (pe_ix ix_src (pv 0) pe_int (fun _ _ => rfl)) pa_nil))) (pv 1)))))), ?_⟩
  have md : ∀ {σ : L2.St} {F : Hp} {a b : TE}, EP a σ F (SomeI aI) → EP b σ F (D K (.int n)) → EP (tOp (rI (fun _ j => 0 < j) fun i j => V.int (i % j)) a b) σ F (SomeI fun i => 0 ≤ i ∧ i < n) := fun ha hb => e_Is ha (e_someI hb (p := fun m => m = n) rfl) fun i j _ hj => ⟨by omega, _, rfl, Int.emod_nonneg _ (by omega), by rw [hj]; exact Int.emod_lt_of_pos i hn⟩
  refine q_ifAny e (e_cmpS (e_ixSrc (K := K) (e_var rfl hv) e_c (by decide)) (e_Is (p := aI) (e_ci 10 (p := fun n => n = 10) rfl) (e_ci 18 (p := fun n => n = 18) rfl) fun i j hi hj => ⟨by rw [hi, hj]; exact ⟨by decide, by decide, by decide⟩, _, rfl, trivial⟩) fun i j => ⟨_, rfl⟩) (fun F1 H1 g1 => ?_) fun F1 H1 g1 => ?_
  · have hv1 := (inferInstance : Mn IsSrc).mn g1.ff hv
    refine q_asg g1.fh (md (e_ixSrc (K := K) (e_var rfl hv1) e_c (by decide)) (e_var rfl (dpx g1.ff _ _ h2))) fun v3 F2 H2 g2 h3 => ?_
    have g12 := g1.trans g2
    have hv2 := (inferInstance : Mn IsSrc).mn g12.ff hv
    refine q_setSrc (K := K) g12.fh (e_Is (p := aI) (e_ixSrc (K := K) (e_var rfl hv2) e_c (by decide)) (e_someI (e_var rfl (dpx g12.ff _ _ h2)) (p := fun m => m = n) rfl) fun i j _ hj => ⟨⟨by omega, by omega⟩, _, rfl, trivial⟩) (e_var rfl hv2) e_c (by decide) fun F3 H3 g3 => ?_
    exact s_ret (g12.trans g3).fh (e_var rfl ((inferInstance : Mn (SomeI fun i => 0 ≤ i ∧ i < n)).mn g3.ff h3)) fun v F4 H4 g4 hv => k v F4 H4 ((g12.trans g3).trans g4) hv
  · have hv1 := (inferInstance : Mn IsSrc).mn g1.ff hv
    refine q_setSrc (K := K) g1.fh (e_I0s (p := aI) (e_ixSrc (K := K) (e_var rfl hv1) e_c (by decide)) (e_ci 1 (p := aI) trivial) fun i j _ _ => ⟨_, rfl, trivial⟩) (e_var rfl hv1) e_c (by decide) fun F2 H2 g2 => ?_
    have g12 := g1.trans g2
    have hv2 := (inferInstance : Mn IsSrc).mn g12.ff hv
    exact s_ret g12.fh (md (e_call () (ea_cons (e_ixSrc (K := K) (e_var rfl hv2) e_c (by decide)) (ea_cons (e_ixSrc (K := K) (e_var rfl hv2) e_c (by decide)) ea_nil)) trivial) (e_var rfl (dpx g12.ff _ _ h2))) fun v F4 H4 g4 hv => k v F4 H4 (g12.trans g4) hv
def sp_law_one (K : PySem.W.Frag) : Sp := Pr (fun x : Bool × List PyData => [IsSrc, SeqV K x]) (fun x => 0 < x.2.length ∧ x.2.length < 10000) (fun x => OneOf K x.2)
theorem sc_law_one : FnScope ["_law_source_here", "_law_some"] ["_law_source_here", "_law_some"] (defScope s_law_one) := ⟨rfl, rfl, rfl, by decide +kernel, rfl, by decide +kernel, by decide +kernel⟩
set_option maxHeartbeats 2000000 in
theorem bd_law_one (T : Tt K mg) (G_law_take : Cal P w K mg base 2 "_law_take" ["_law_source_here", "_law_size"] (sp_law_take K)) : BodyOk P w K mg base 2 "_law_one" s_law_one ["_law_source_here", "_law_some"] (sp_law_one K) := by
  intro f cdv A outer s H vs Q E hr h
  have nd := sc_law_one.nd
  have hu := hu_of hr
  have hu64 := hr.units
  have hu65 : (A.deeper (envOfC "_law_one" (defScope s_law_one) s.heap.objs.size f cdv)).units + 65 < cLine := by have := hr.un; omega
  obtain ⟨x, F, e, hA, ⟨hn, hn9⟩, k⟩ := h
  obtain ⟨v, v2, rfl, hv, h2⟩ := all2 hA
  refine ⟨_, (pss_one (ps_ret (pe_ix ix_seq (pv 1) (p_call G_law_take hr (pa_cons (pv 0) (pa_cons (pe_callB (id := "len") call_len (by rfl) T.f_len boot_len (pa_cons (pv 1) pa_nil)) pa_nil))) (fun _ _ => rfl)))), ?_⟩
  exact s_ret e (e_ixV (e_var rfl h2) (e_call (x.2.length : Int) (ea_cons (e_var rfl hv) (ea_cons (e_lenV (e_var rfl h2) (by omega)) ea_nil)) (by omega)) (by omega)) fun v F4 H4 g4 hv => k v F4 H4 g4 hv
def sp_law_sense (K : PySem.W.Frag) : Sp := Pr (fun _ : Unit => [IsSrc]) (fun _ => True) (fun _ => SomeD K dT fun t => t ∈ TURNS)
def SENSES : List Tx := [[117, 114, 100, 108], [114, 100, 108, 117], [100, 108, 117, 114], [108, 117, 114, 100], [117, 108, 100, 114], [100, 114, 117, 108], [108, 100, 114, 117], [114, 117, 108, 100], [117, 114, 100, 108], [117, 114, 100, 108]]
theorem sc_law_sense : FnScope ["_law_source_here", "_law_some"] ["_law_source_here"] (defScope s_law_sense) := ⟨rfl, rfl, rfl, by decide +kernel, rfl, by decide +kernel, by decide +kernel⟩
set_option maxHeartbeats 2000000 in
theorem bd_law_sense (T : Tt K mg) (G_law_one : Cal P w K mg base 3 "_law_one" ["_law_source_here", "_law_some"] (sp_law_one K)) : BodyOk P w K mg base 3 "_law_sense" s_law_sense ["_law_source_here", "_law_some"] (sp_law_sense K) := by
  intro f cdv A outer s H vs Q E hr h
  have nd := sc_law_sense.nd
  have hu := hu_of hr
  have hu64 := hr.units
  have hu65 : (A.deeper (envOfC "_law_sense" (defScope s_law_sense) s.heap.objs.size f cdv)).units + 65 < cLine := by have := hr.un; omega
  obtain ⟨_, F, e, hA, _, k⟩ := h
  obtain ⟨v, rfl, hv⟩ := all1 hA
  refine ⟨_, (pss_cons (ps_set (i := 1) nd rfl (Or.inl rfl) (pe_lst (pa_cons pe_str (pa_cons pe_str (pa_cons pe_str (pa_cons pe_str (pa_cons pe_str (pa_cons pe_str (pa_cons pe_str (pa_cons pe_str (pa_cons pe_str (pa_cons pe_str pa_nil))))))))))))
      (pss_one (ps_ret (p_call G_law_one hr (pa_cons (pv 0) (pa_cons (pv 1) pa_nil)))))), ?_⟩
  refine q_asg e (P := D K (.list (SENSES.map dT))) (e_lst (ds := SENSES.map dT) (ea_cons e_c (ea_cons e_c (ea_cons e_c (ea_cons e_c (ea_cons e_c (ea_cons e_c (ea_cons e_c (ea_cons e_c (ea_cons e_c (ea_cons e_c ea_nil))))))))))) fun v2 F2 H2 g2 h2 => ?_
  refine s_ret g2.fh ((e_call (false, SENSES.map dT) (ea_cons (e_var rfl ((inferInstance : Mn IsSrc).mn g2.ff hv)) (ea_cons ((e_var rfl h2 : EP _ _ F2 (D K (.list (SENSES.map dT)))).imp fun v F1 _ h => .inl ⟨rfl, h⟩) ea_nil)) ⟨by decide, by decide⟩ : EP _ _ F2 (OneOf K (SENSES.map dT)))) fun v F4 H4 g4 hv => k v F4 H4 (g2.trans g4) ?_
  obtain ⟨d, hd, hv⟩ := hv
  obtain ⟨t, ht, rfl⟩ := List.mem_map.mp hd
  exact ⟨t, hv, (by decide : ∀ t ∈ SENSES, t ∈ TURNS) t ht⟩
end
end OL
-- OhTx
set_option maxHeartbeats 1000000
/-! set(texts), sorted(set of texts). -/
namespace OT
open PySem PyProof.Rows L2 Froz
section
variable {P : Program} {w : World} {A : Around} {E : Value → Shared → Prop} {s : Shared} {a : Addr} {l : List Str} {h h' : Heap}
/-- the set at a holds the texts l; its table rises and can be walked -/
structure TxR (P : Program) (w : World) (h : Heap) (a : Addr) (l : List Str) : Prop where
  ex : ∃ D : SD, h.get? a = some (sObj "set" D) ∧ TxOk P w D l ∧ Ris D.2.2.place.toList ∧ (w.params.followText "set-order" = true ∨ D.2.2.led = true)
  nd : l.Nodup
theorem TxR.at (R : TxR P w h a l) (k : ∀ o, h.get? a = some o → h'.get? a = some o) : TxR P w h' a l := by
  obtain ⟨D, h1, h2⟩ := R.ex
  exact ⟨⟨D, k _ h1, h2⟩, R.nd⟩
theorem tail_ris {ep : Nat} {es : Array (Int × Value)} {t : SetTable} {b : Bool} {c : Bool} (r : Ris t.place.toList) (hl : c = true ∨ t.led = true) : Ris (tailTx ep es t b).2.2.place.toList ∧ (c = true ∨ (tailTx ep es t b).2.2.led = true) := by
  unfold tailTx
  split
  · exact ⟨relayAll_ris _ _ _, hl.imp id fun z => by rw [relayAll_led]; exact z⟩
  · exact ⟨r, hl⟩
theorem add_ris {D : SD} {hh : Int} {v : Value} {c : Bool} (r : Ris D.2.2.place.toList) (hl : c = true ∨ D.2.2.led = true) : Ris (addTx hh v D).2.2.place.toList ∧ (c = true ∨ (addTx hh v D).2.2.led = true) := by
  unfold addTx
  have r1 := layNew_ris D.2.2 D.1 hh v r
  have l1 : c = true ∨ (layNew D.2.2 D.1 hh v).2.1.led = true := hl.imp id fun z => by rw [layNew_led]; exact z
  split
  · exact tail_ris (t := { (layNew D.2.2 D.1 hh v).2.1 with plain := false }) r1 l1
  · exact tail_ris r1 l1
theorem tx_add {k : Str} {u : Tok} {Q : Bool → Shared → Prop} (R : TxR P w s.heap a l) (hb : l.length + 1 < scanBound)
    (hq : ∀ b h', Heap.SameBut a s.heap h' → TxR P w h' a (if k ∈ l then l else k :: l) → Q b { s with heap := h' }) : wpAny (model P w) A (setAddHashed a (.str k u) (hashStr w k)) Q E s := by
  obtain ⟨D, ho, F, r, hl⟩ := R.ex
  by_cases hk : k ∈ l
  · obtain ⟨es, ep, t⟩ := D
    have hd : (sObj "set" (es, ep, t)).data = .set es ep t := rfl
    have hsz : es.size = l.length := F.sz
    unfold setAddHashed setAddHashedIn
    refine wpAny_holding (wpAny_bind (wpAny_setState_of ho hd F.fit ?_))
    dsimp only
    rw [byScan_of (knd := strKind P w) rfl (show es.size < scanBound by omega) F.el]
    simp only [↓reduceIte]
    unfold setAddByScan
    refine wpAny_bind ?_
    refine wpAny_bind (wpAny_rule ?_)
    refine wpAny_bind (wpAny_setScan_of (knd := strKind P w) (k := k) (is_str k u) ho hd F.fit F.el ?_)
    cases hr : List.findIdx? (fun e => (strKind P w).is k e.2) es.toList with
    | none =>
      obtain ⟨e, he, hp⟩ := (F.mem k).mp hk
      have := List.findIdx?_eq_none_iff.mp hr e he
      rw [hp] at this
      cases this
    | some j =>
      dsimp only
      refine wpAny_pure (wpAny_pure ?_)
      have q := hq false s.heap (Heap.SameBut.refl a s.heap) (by rw [if_pos hk]; exact R)
      exact q
  · refine add_x ho F hk hb ?_
    refine hq true _ (Heap.SameBut.update ..) ?_
    rw [if_neg hk]
    obtain ⟨r2, l2⟩ := add_ris (D := D) (hh := hashStr w k) (v := .str k u) r hl
    exact ⟨⟨_, get_upd _ ho rfl, add_ok u F, r2, l2⟩, List.nodup_cons.mpr ⟨hk, R.nd⟩⟩
/-- the texts met so far -/
def Met (xs : List Str) (i : Nat) (l : List Str) : Prop := (∀ k, k ∈ l ↔ k ∈ xs.take i) ∧ l.length ≤ i
theorem Met.next {xs : List Str} {i : Nat} {x : Str} (m : Met xs i l) (hx : xs[i]? = some x) : Met xs (i + 1) (if x ∈ l then l else x :: l) := by
  have et : xs.take (i + 1) = xs.take i ++ [x] := by rw [List.take_add_one, hx]; rfl
  refine ⟨fun k => ?_, ?_⟩
  · rw [et, List.mem_append, List.mem_singleton, ← m.1 k]
    split
    · rename_i h
      exact ⟨.inl, fun z => z.elim id fun e => e ▸ h⟩
    · rw [List.mem_cons]
      exact Or.comm
  · split
    · exact Nat.le_succ_of_le m.2
    · exact Nat.succ_le_succ m.2
theorem set_update_tx {I : Addr} {fp wr : List Addr} {G : Array GenState → Array GenState → Prop} {n : Nat} {Pv : Nat → Value → Prop} {St : Nat → Shared → Prop} {R : Result → Shared → Prop}
    (W : WalksS P w A.in1 I fp wr G n Pv St) (S : Addr) (hSf : S ∉ fp) (xs : List Str) (hn : n = xs.length) (hfew : xs.length + 1 < scanBound) (hval : ∀ i v, Pv i v → ∃ x t, xs[i]? = some x ∧ v = .str x t) :
    ∀ (k i : Nat) (s : Shared), n - i = k → i ≤ n → St i s → (∃ l, TxR P w s.heap S l ∧ Met xs i l) →
      (∀ s' l, Moved (S :: wr) G s s' → TxR P w s'.heap S l → Met xs n l → R (.ok (.ret .none)) s') →
      codeAny (model P w) A (.builtin "set.update.loop" ⟨[.ref S, .ref I], []⟩) R s := by
  have hSw : S ∉ wr := fun h => hSf (W.sub _ h)
  have hsub : ∀ b ∈ wr, b ∈ S :: wr := fun b hb => List.mem_cons_of_mem _ hb
  intro k
  induction k with
  | zero =>
    intro i s hk' hi hst ⟨l, hS, g⟩ hR
    have hin : i = n := by omega
    subst hin
    refine codeAny_builtin F.entry_set_update_loop ?_
    rw [Around.under_plainId F.plain_set_update_loop _]
    show wpAny _ A.in1 (pyNext (.ref I) >>= _) _ _ s
    refine wpAny_bind (W.done s _ _ hst fun s' hm => ?_)
    show wpAny _ A.in1 (ret Value.none) _ _ s'
    exact wpAny_pure (hR s' l (hm.mono hsub) (hS.at fun o e => hm.heap S o hSw e) g)
  | succ k ih =>
    intro i s hk' hi hst ⟨l, hS, g⟩ hR
    have hlt : i < n := by omega
    refine codeAny_builtin F.entry_set_update_loop ?_
    rw [Around.under_plainId F.plain_set_update_loop _]
    show wpAny _ A.in1 (pyNext (.ref I) >>= _) _ _ s
    refine wpAny_bind (W.item i s _ _ hlt hst fun v s' hP hst' hm => ?_)
    obtain ⟨x, t, hp, rfl⟩ := hval i v hP
    have hS' : TxR P w s'.heap S l := hS.at fun o e => hm.heap S o hSw e
    show wpAny _ A.in1 (holding [Value.str x t] (setAdd S (.str x t)) >>= _) _ _ s'
    refine wpAny_bind (wpAny_holding ?_)
    unfold setAdd
    refine wpAny_holding ?_
    refine wpAny_bind ((strKind P w).pyHash (k := x) (is_str x t) ?_)
    have hll := g.2
    refine tx_add (s := { s' with toks := s'.toks + 1 }) hS' (by omega) fun b h' hsb hS2 => ?_
    refine wpAny_pure ⟨plainId_quiet F.plain_set_update_loop _, ih (i + 1) _ (by omega) hlt (W.frame _ s' _ _ hst' (Nat.le_add_right _ _) fun b hb o e => ?_) ⟨_, hS2, g.next hp⟩ fun s'' l2 hm'' hS'' g'' => ?_⟩
    · rw [hsb.2 b (fun h : b = S => hSf (by rw [← h]; exact hb))]; exact e
    · refine hR s'' l2 (Moved.trans W.gtrans ((hm.mono hsub).then_heap (Nat.le_add_right _ _) fun b o hb e => ?_) hm'') hS'' g''
      rw [hsb.2 b (fun h : b = S => hb (by rw [h]; exact List.mem_cons_self))]; exact e
theorem tx_fresh {h : Heap} {a : Addr} (ho : h.get? a = some { cls := .type "set", dict := none, data := .set #[] 0 (.fresh 0 0 (!w.params.followText "set-order")) }) : TxR P w h a [] := by
  refine ⟨⟨(#[], 0, .fresh 0 0 (!w.params.followText "set-order")), ho, TxOk.nil rfl, List.Pairwise.nil, ?_⟩, List.nodup_nil⟩
  show _ ∨ (!w.params.followText "set-order") = true
  cases w.params.followText "set-order"
  · exact .inr rfl
  · exact .inl rfl
theorem at_str : ∀ {us : List Value} {xs : List Str}, StrsAre us xs → ∀ (i : Nat) (v : Value), us[i]? = some v → ∃ t, v = .str (xs.getD i Str.empty) t
  | _, _, .nil, i, v, h => by simp at h
  | _, _, .cons x t r, 0, v, h => ⟨t, (Option.some.inj h).symm⟩
  | _, _, .cons x t r, i + 1, v, h => at_str r i v (by simpa using h)
set_option maxHeartbeats 3200000 in
theorem call_set_tx {l : Addr} {items : Array Value} {xs : List Str} {Q : Value → Shared → Prop} (hh : A.handled = none) (hl : s.heap.IsList l items) (hi : StrsAre items.toList xs) (hfew : xs.length + 1 < scanBound)
    (h : ∀ (h' : Heap) (tk : Nat) ks, TxR P w h' s.heap.objs.size ks → Met xs xs.length ks → (∀ b o, s.heap.get? b = some o → h'.get? b = some o) → Q (.ref s.heap.objs.size) { s with heap := h', toks := tk }) :
    wpAny (model P w) A (call (.type "set") [.ref l]) Q E s := by
  have hsz : items.size = xs.length := by rw [← StrsAre.len_eq hi, Array.length_toList]
  obtain ⟨c, tl, hmro⟩ := PySem.F.called_set.mro
  have hmade := PySem.F.called_set.made
  have hsub := PySem.F.called_set.sub
  refine wpAny_call (codeAny_of_tree ?_)
  show wpAny _ _ (callAny (.type "set") _) _ _ _
  refine wpAny_pure ⟨Code.quiet_builtin _ (by decide +kernel), codeAny_builtin PySem.F.entry_type_call ?_⟩
  rw [Around.under_plain (weight_type_call_type "set" [.ref l] []) rfl]
  have h1 := PySem.F.called_set.notType
  have h2 := PySem.F.called_set.canCreate
  have hct := PySem.F.typeCall_set_1 (.ref l)
  repeat (any_goals (first | assumption | wp_step))
  refine codeAny_mono (code_set_led1 (.ref l) (E := E) (Q₁ := fun obj s₁ => obj = .ref s.heap.objs.size ∧ s₁ = { s with heap := s.heap.push { cls := .type "set", dict := none, data := .set #[] 0 (.fresh 0 0 (!w.params.followText "set-order")) } }) ⟨rfl, rfl⟩) fun r s₁ hr => ?_
  cases r with
  | error e => exact hr
  | ok fl =>
    cases fl with
    | ret obj =>
      obtain ⟨rfl, rfl⟩ := hr
      have hS : (s.heap.push { cls := .type "set", dict := none, data := .set #[] 0 (.fresh 0 0 (!w.params.followText "set-order")) }).get? s.heap.objs.size = some { cls := .type "set", dict := none, data := .set #[] 0 (.fresh 0 0 (!w.params.followText "set-order")) } := Heap.get?_push_size _ rfl
      have hT : Shared.TypeIs { s with heap := s.heap.push { cls := .type "set", dict := none, data := .set #[] 0 (.fresh 0 0 (!w.params.followText "set-order")) } } (.ref s.heap.objs.size) "set" := ⟨_, hS, rfl⟩
      have hli := PySem.F.called_set.init.lookup
      have hbi := PySem.F.called_set.init.bind (.ref s.heap.objs.size)
      repeat (any_goals (first | assumption | wp_step))
      refine codeAny_mono (codeAny_call_builtin (R := wants (fun r s₂ => r = .none ∧ ∃ h' tk ks, s₂ = { s with heap := h', toks := tk } ∧ TxR P w h' s.heap.objs.size ks ∧ Met xs xs.length ks ∧
          (∀ b o, s.heap.get? b = some o → h'.get? b = some o)) E) PySem.F.called_set.init.plain PySem.F.entry_set_init (check_set_init_1 hT ?_)) fun r₂ s₂ hr₂ => ?_
      · obtain ⟨ol, hol, hcl, nl, hdl⟩ := hl
        obtain ⟨ocls, odict, odata, oslots⟩ := ol
        simp only at hcl hdl
        subst hcl; subst hdl
        have hol' : (s.heap.push { cls := .type "set", dict := none, data := .set #[] 0 (.fresh 0 0 (!w.params.followText "set-order")) }).get? l = some { cls := .type "list", dict := odict, data := .seq items nl, slots := oslots } := Heap.get?_push_of_some _ hol
        have hsls := PySem.F.sub_list_set
        have hslf := PySem.F.sub_list_frozenset
        have hne : (Value.type "list" == Value.type "dict") = false := by decide
        have hl1 : (s.heap.push { cls := .type "set", dict := none, data := .set #[] 0 (.fresh 0 0 (!w.params.followText "set-order")) }).IsList l items := ⟨_, hol', rfl, nl, rfl⟩
        unfold Builtin.«set.__init__» noKeywords Builtin.Frozenset.updateFrom
        generalize hPI : pyIter = PI
        wp_walk
        subst hPI
        refine wpAny_pyIter_list hl1 ?_
        refine wpAny_bind (wpAny_runValue ?_)
        have hlS : l < s.heap.objs.size := Heap.lt_size hol
        have hh3 : A.in1.in1.in1.handled = none := by simp [hh]
        have hneI : l ≠ (s.heap.push { cls := .type "set", dict := none, data := .set #[] 0 (.fresh 0 0 (!w.params.followText "set-order")) }).objs.size := by
          rw [Heap.size_push]; exact Nat.ne_of_lt (Nat.lt_succ_of_lt hlS)
        have hSf : s.heap.objs.size ∉ [(s.heap.push { cls := .type "set", dict := none, data := .set #[] 0 (.fresh 0 0 (!w.params.followText "set-order")) }).objs.size, l] := by
          rw [Heap.size_push]; simp only [List.mem_cons, List.mem_singleton, List.not_mem_nil, or_false, not_or]
          exact ⟨Nat.ne_of_lt (Nat.lt_succ_self _), Nat.ne_of_gt hlS⟩
        have hval : ∀ (i : Nat) (v : Value), items[i]? = some v → ∃ x t, xs[i]? = some x ∧ v = .str x t := fun i v hv => by
          obtain ⟨t, e⟩ := at_str hi i v (by rw [Array.getElem?_toList]; exact hv)
          have hlt : i < xs.length := by
            rw [← hsz]
            exact (Array.getElem?_eq_some_iff.mp hv).1
          refine ⟨xs.getD i Str.empty, t, ?_, e⟩
          rw [List.getD_eq_getElem?_getD, List.getElem?_eq_getElem hlt]; rfl
        refine set_update_tx ((Walks.list hh3 _ l hneI items).toS) s.heap.objs.size hSf xs hsz hfew hval (items.size - 0) 0 _ (by omega) (Nat.zero_le _)
          ⟨⟨_, Heap.get?_push_size _ rfl, rfl, rfl⟩, (hl1.push _)⟩ ?hS0 ?hR
        case hS0 =>
          have hget : ((s.heap.push { cls := .type "set", dict := none, data := .set #[] 0 (.fresh 0 0 (!w.params.followText "set-order")) }).push { cls := .type "list_iterator", data := .fields #[.ref l, .int 0 0] }).get? s.heap.objs.size
              = some { cls := .type "set", dict := none, data := .set #[] 0 (.fresh 0 0 (!w.params.followText "set-order")) } := Heap.get?_push_of_some _ hS
          exact ⟨[], tx_fresh hget, fun k => Iff.rfl, Nat.le_refl _⟩
        case hR =>
          intro s' ks hm hS' g'
          obtain ⟨h', g2, d', tk', os'⟩ := s'
          have eg : g2 = s.gens := hm.gens
          have ed : d' = s.drawn := hm.drawn
          have eo : os' = s.os := hm.os
          subst eg; subst ed; subst eo
          show wpAny _ _ _ _ _ _
          refine wpAny_pure ?_
          show wpAny _ _ (ret Value.none) _ _ _
          rw [hsz] at g'
          refine wpAny_pure ⟨rfl, h', tk', ks, rfl, hS', g', fun b o e => ?_⟩
          have hb := Heap.lt_size e
          have hb1 : b ≠ s.heap.objs.size := Nat.ne_of_lt hb
          have hb2 : b ≠ (s.heap.push { cls := .type "set", dict := none, data := .set #[] 0 (.fresh 0 0 (!w.params.followText "set-order")) }).objs.size := by
            rw [Heap.size_push]; exact Nat.ne_of_lt (Nat.lt_succ_of_lt hb)
          exact hm.heap b o (by simp only [List.mem_cons, List.mem_singleton, List.not_mem_nil, or_false, not_or]; exact ⟨hb1, hb2⟩) (Heap.get?_push_of_some _ (Heap.get?_push_of_some _ e))
      · cases r₂ with
        | error e => exact hr₂
        | ok fl₂ =>
          cases fl₂ with
          | ret r =>
            obtain ⟨rfl, h', tk, ks, rfl, hS', g', hk'⟩ := hr₂
            repeat (any_goals (first | assumption | wp_step))
            exact h _ _ _ hS' g' hk'
          | _ => exact hr₂.elim
    | _ => exact hr.elim
end
theorem perm_sub {α : Type} [DecidableEq α] : ∀ {ks zs : List α}, ks.Nodup → (∀ k ∈ ks, k ∈ zs) → zs.length = ks.length → zs.Perm ks
  | [], zs, _, _, hl => by
    have : zs = [] := List.length_eq_zero_iff.mp hl
    subst this
    exact .nil
  | k :: ks, zs, hn, hm, hl => by
    obtain ⟨h1, h2⟩ := List.nodup_cons.mp hn
    have hk := hm k (by simp)
    refine (List.perm_cons_erase hk).trans (List.Perm.cons k (perm_sub h2 (fun x hx => ?_) ?_))
    · exact (List.mem_erase_of_ne (show x ≠ k from fun e => h1 (e ▸ hx))).mpr (hm x (List.mem_cons_of_mem _ hx))
    · rw [List.length_erase_of_mem hk, hl]; rfl
/-- the texts of values -/
theorem strs_ex : ∀ {vs : List Value}, (∀ v ∈ vs, ∃ k t, v = Value.str k t) → ∃ zs : List Str, StrsAre vs zs
  | [], _ => ⟨[], .nil⟩
  | v :: vs, h => by
    obtain ⟨k, t, e⟩ := h v (by simp)
    obtain ⟨zs, r⟩ := strs_ex fun x hx => h x (List.mem_cons_of_mem _ hx)
    subst e
    exact ⟨k :: zs, .cons k t r⟩
theorem strs_mem : ∀ {vs : List Value} {zs : List Str}, StrsAre vs zs → ∀ k, k ∈ zs ↔ ∃ t, Value.str k t ∈ vs
  | _, _, .nil, k => by simp
  | _, _, .cons y t r, k => by
    rw [List.mem_cons, strs_mem r k]
    constructor
    · rintro (e | ⟨u, hu⟩)
      · subst e; exact ⟨t, by simp⟩
      · exact ⟨u, List.mem_cons_of_mem _ hu⟩
    · rintro ⟨u, hu⟩
      rcases List.mem_cons.mp hu with e | hu
      · cases e; exact .inl rfl
      · exact .inr ⟨u, hu⟩
section
variable {X : Cx}
def TxO (P : Program) (w : World) (a : Addr) (l : List Str) : HO := .ext fun h => TxR P w h a l
theorem txo_new {P : Program} {w : World} {H : Hp} {h : Heap} {a : Addr} {l : List Str} (R : TxR P w h a l) : ObjOk P w H h a (TxO P w a l) := by
  obtain ⟨D, h1, h2⟩ := R.ex
  refine ⟨R, ⟨_, h1⟩, fun g1 g2 p k => ?_⟩
  exact TxR.at p k
def rSetTx (K : PySem.W.Frag) (P : Program) (w : World) : List V → Hp → VK → Prop := fun xs H Q => ∃ (l : Addr) (ts : List Str), xs = [V.ref l] ∧ SqL K H l (ts.map V.str) ∧ ts.length < 1000 ∧ ∀ a ks, H a = none → (∀ k, k ∈ ks ↔ k ∈ ts) → ks.Nodup → Q (.ref a) (upd H a (TxO P w a ks))
theorem strs_of_vals : ∀ {ts : List Str} {us : List Value}, Vals (ts.map V.str) us → StrsAre us ts
  | [], _, r => by cases r; exact .nil
  | t :: ts, _, r => by
    rw [List.map_cons] at r
    cases r with
    | cons h k =>
      obtain ⟨tok, e⟩ := h
      subst e
      exact .cons t tok (strs_of_vals k)
theorem cr_setTx (hc : X.calm = true) : CallR X (.type "set") (rSetTx X.K X.prog X.w) := by
  intro pins s σ H xs us Q I r h
  obtain ⟨l, ts, rfl, hl, hf, q⟩ := h
  rw [Vals.ref1 r]
  obtain ⟨its, rv, pl, hz⟩ := I.list hl
  have hn : H s.heap.objs.size = none := I.hok.fresh (Nat.le_refl _)
  refine call_set_tx (P := X.prog) (w := X.w) (xs := ts) (I.ok.hd hc) pl.isList (by simpa using strs_of_vals rv) (by unfold scanBound; omega) fun h' tk ks R g k => ?_
  refine ⟨.ref s.heap.objs.size, upd H s.heap.objs.size (TxO X.prog X.w s.heap.objs.size ks), I.laid (t' := tk) k (Nat.le_refl _) (txo_new R), rfl, q _ ks hn (fun z => ?_) R.nd⟩
  rw [g.1 z, List.take_length]
def rSortTx (P : Program) (w : World) : List V → Hp → VK → Prop := fun xs H Q => ∃ (a : Addr) (ks : List Str), xs = [V.ref a] ∧ H a = some (TxO P w a ks) ∧ ks.length < 64 ∧ ∀ ys p, ys.Perm ks → sortedS ys = true → H p = none → Q (.ref p) (upd H p (.lst (ys.map V.str)))
theorem cr_sortTx (hc : X.calm = true) : CallR X (.builtin "sorted") (rSortTx X.prog X.w) := by
  intro pins s σ H xs us Q I r h
  obtain ⟨a, ks, rfl, ha, h64, q⟩ := h
  rw [Vals.ref1 r]
  have R : TxR X.prog X.w s.heap a ks := (I.hok a _ ha).1
  obtain ⟨⟨es, ep, t⟩, ho, F, rr, hled⟩ := R.ex
  have hsz : es.size = ks.length := F.sz
  refine Calls.call_function_entry PyProof.Rows.kind_sorted PyProof.Rows.plain_sorted PyProof.Rows.entry_sorted (PyProof.Rows.args_sorted1 _) ?_
  unfold Builtin.«sorted»
  refine wpAny_bind (m := checkCount "sorted" 1 1 _) (wpAny_pure ?_)
  refine wpAny_bind (collect_set (A := X.A.in1) (I.ok.hd hc) ⟨_, ho, rfl, rfl⟩ F.fit (by show es.size < scanBound; unfold scanBound; omega) rr hled fun s1 out k1 hz g1 o1 pm => ?_)
  have hv : ∀ v ∈ out, ∃ k u, v = Value.str k u := fun v hv => by
    obtain ⟨e, he, e2⟩ := List.mem_map.mp (pm.mem_iff.mp hv)
    obtain ⟨⟨k, hk, _⟩, _⟩ := F.el e he
    obtain ⟨u, hu⟩ := Value.isStrOf_shape (x := k) (v := e.2) hk
    exact ⟨k, u, by rw [← e2]; exact hu⟩
  obtain ⟨zs, hS⟩ := strs_ex hv
  have hzl : zs.length = ks.length := by
    rw [← StrsAre.len_eq hS, pm.length_eq, List.length_map, Array.length_toList]; exact hsz
  have pz : zs.Perm ks := perm_sub R.nd (fun k hk => by
    obtain ⟨e, he, hp⟩ := (F.mem k).mp hk
    obtain ⟨u, hu⟩ := Value.isStrOf_shape (x := k) (v := e.2) hp
    exact (strs_mem hS k).mpr ⟨u, pm.mem_iff.mpr (by rw [← hu]; exact List.mem_map_of_mem he)⟩) hzl
  have hal : out.length = ks.length := by rw [StrsAre.len_eq hS, hzl]
  refine wpAny_bind (wpAny_newList ?_ (by rw [hal, sizeLine_eq]; omega))
  have hoL : (s1.heap.push (seqObj "list" out.toArray 0)).get? s1.heap.objs.size = some (seqObj "list" out.toArray 0) := Heap.get?_push_size _ rfl
  refine wpAny_bind (wpAny_holding (wpAny_call_entry PyProof.Rows.slot_list_sort ⟨_, hoL, rfl⟩ PyProof.Rows.entry_list_sort
    (list_sort_treeK strKind_oneLt (s := { s1 with heap := s1.heap.push (seqObj "list" out.toArray 0) }) hoL hS.keysOf (fun v₁ v₂ rest e => keyKind_strs (by rw [← e]; exact hS)) (by rw [hal]; exact h64) fun st' hp hs => ⟨_, rfl, ?_⟩)
    (PyProof.Rows.args_list_sort _)))
  obtain ⟨ys, q1, q2, q3⟩ := sorted_out_str hS hp hs
  obtain ⟨e', he'⟩ := PyProof.Rows.sortedHeap_at (vs := out) (out := (arrOf st').map (·.2)) hoL
  have hlen : (ys.map V.str).length ≤ sizeLine := by
    rw [List.length_map, q2.length_eq, hzl]
    exact Nat.le_trans (Nat.le_of_lt h64) (by decide)
  have hn : H s1.heap.objs.size = none := I.hok.fresh hz
  have kk : ∀ b u, s.heap.get? b = some u → (sortedHeap (s1.heap.push (seqObj "list" out.toArray 0)) s1.heap.objs.size out ((arrOf st').map (·.2))).get? b = some u := fun b u e => by
    have e2 := k1 b u e
    have hb : b < s1.heap.objs.size := Heap.lt_size e2
    rw [PyProof.Rows.sortedHeap_old (Nat.ne_of_lt hb) (by rw [size_push']; exact Nat.lt_succ_of_lt hb)]
    exact Heap.get?_push_of_some _ e2
  have J : Inv X pins σ (upd H s1.heap.objs.size (.lst (ys.map V.str))) { s with heap := sortedHeap (s1.heap.push (seqObj "list" out.toArray 0)) s1.heap.objs.size out ((arrOf st').map (·.2)), gens := s1.gens, drawn := s1.drawn, toks := s1.toks } :=
    I.call (ch := []) (Un.laid kk hz hn) (I.hok.laid kk hz ⟨hlen, ((arrOf st').map (·.2)).toList, e', vals_of_strs q1, by rw [Array.toArray_toList]; exact he'⟩) (by rw [g1]; exact I.bare) (fun _ z => nomatch z)
  refine wpAny_pure ⟨_, rfl, .ref s1.heap.objs.size, upd H s1.heap.objs.size (.lst (ys.map V.str)), ?_, rfl, q ys _ (q2.trans pz) q3 hn⟩
  have e : ({ s1 with heap := sortedHeap (s1.heap.push (seqObj "list" out.toArray 0)) s1.heap.objs.size out ((arrOf st').map (·.2)) } : Shared) = { s with heap := sortedHeap (s1.heap.push (seqObj "list" out.toArray 0)) s1.heap.objs.size out ((arrOf st').map (·.2)), gens := s1.gens, drawn := s1.drawn, toks := s1.toks } := by
    cases s1
    cases s
    cases o1
    rfl
  show Inv _ _ _ _ { s1 with heap := _ }
  rw [e]
  exact J
end
end OT
-- OhRnd
set_option maxHeartbeats 1000000
/-! Lists of which only the length and the kind of items are known. -/
namespace OL
open PySem PySem.Spec PyProof.Rows L2
open SX (S)
open Evl (Ex)
open OH
section
variable {K : PySem.W.Frag} {σ : L2.St} {F H Hb F0 H0 F1 H1 : Hp} {ta tb te : TE} {P P1 Py : Ds} {wi : TI}
/-- evaluation where all of Hb stands -/
def EPN (Hb : Hp) (t : TE) (σ : L2.St) (F : Hp) (P : Ds) : Prop := ∀ F1 H1, Ex F F1 → Ex F1 H1 → Ex Hb H1 → ∀ Q : VK, (∀ v F2 H2, Gr F1 H1 F2 H2 → P v F2 → Q v H2) → t σ H1 Q
theorem EP.n (h : EP te σ F P) : EPN Hb te σ F P := fun F1 H1 e b _ Q q => h F1 H1 e b Q q
theorem EPN.mono {F' : Hp} (e : Ex F F') (h : EPN Hb te σ F P) : EPN Hb te σ F' P := fun F1 H1 a b c Q q => h F1 H1 (e.trans a) b c Q q
def H0p : Hp := fun _ => none
theorem EPN.p (h : EPN H0p te σ F P) : EP te σ F P := fun F1 H1 e b Q q => h F1 H1 e b (fun _ _ z => by cases z) Q q
/-- a new list of n items, each told by Py -/
def LstN (Hb : Hp) (Py : Ds) (n : Nat) : Ds := fun v H => ∃ a acc, v = .ref a ∧ Hb a = none ∧ H a = some (.lst acc) ∧ acc.length = n ∧ ∀ y ∈ acc, Py y H
instance {Hb : Hp} {n : Nat} [m : Mn Py] : Mn (LstN Hb Py n) := ⟨fun e ⟨a, acc, h1, h2, h3, h4, h5⟩ => ⟨a, acc, h1, h2, e _ _ h3, h4, fun y hy => m.mn e (h5 y hy)⟩⟩
/-- a walk of so many items, the number of which Xn tells -/
def EIs (K : PySem.W.Frag) (wi : TI) (σ : L2.St) (F : Hp) (Xn : Nat → Prop) : Prop := ∀ F1 H1, Ex F F1 → Ex F1 H1 → ∀ R : It → Hp → Prop, (∀ J F2 H2 ds, Xn ds.length → Gr F1 H1 F2 H2 → DW K J F2 ds → R J H2) → wi σ H1 R
theorem EI.s {ds : List PyData} (h : EI K wi σ F ds) : EIs K wi σ F fun n => n = ds.length := fun F1 H1 e b R r => h F1 H1 e b R fun J F2 H2 g w => r J F2 H2 ds rfl g w
/-- range(an int of which is known that it is small) -/
theorem is_range1 {t1 : TA} {m : Int} (h : EA t1 σ F [SomeI fun n => 0 ≤ n ∧ n < m]) (hm : m ≤ 1000) : EIs K (iRng1 t1) σ F fun n => (n : Int) < m := fun F1 H1 e b R r =>
  h F1 H1 e b _ fun vs F2 H2 g hs => by
    obtain ⟨v, rfl, n, rfl, h0, h1⟩ := all1 hs
    obtain ⟨k, rfl⟩ : ∃ k : Nat, n = k := ⟨n.toNat, by omega⟩
    have key : EI K (iRng1 (tCons (tC (.int k)) tNil)) σ F2 (rngD 0 k) := i_range1 (ea_cons (e_c (d := .int k)) ea_nil) (by omega)
    exact key F2 H2 (Ex.refl F2) g.fh R fun J F3 H3 g3 w => r J F3 H3 (rngD 0 k) (by unfold rngD; rw [List.length_map, List.length_range]; exact h1) (g.trans g3) w
theorem e_lcY {Xn : Nat → Prop} {vs : List Nat} {j : Nat} [m : Mn Py] (h : EIs K wi σ F Xn) (hX : ∀ n, Xn n → n ≤ 40000)
    (he : ∀ v F1, Ex F F1 → EPN Hb te ((wipe σ vs).set j (some v)) F1 Py)
    (hw : ∀ v, wipe ((wipe σ vs).set j (some v)) vs = wipe σ vs := by intro _; rfl) : EPN Hb (tLc wi (gName j) tYes te vs) σ F (fun v H => ∃ n, Xn n ∧ LstN Hb Py n v H) := fun F1 H1 e b c Q k =>
  h F1 H1 e b _ fun J F2 H2 ds hds g2 w => by
    intro Dl hD
    have hF2 : F2 Dl = none := ex_none g2.fh hD
    have c2 : Ex Hb H2 := c.trans g2.hh
    have hbD : Hb Dl = none := ex_none c2 hD
    refine ⟨fun i m H' => m = ds.length - i ∧ i ≤ ds.length ∧ ∃ F' acc, Gr F2 H2 F' H' ∧ H' Dl = some (.lst acc) ∧ F' Dl = none ∧ acc.length = i ∧ ∀ y ∈ acc, Py y F', ⟨ds.length, by simp, Nat.zero_le _, F2, [], Gr.own g2.fh hD, upd_same, hF2, rfl, fun y hy => by cases hy⟩, ?_⟩
    rintro i mm H' ⟨rfl, hi, F', acc, gg, hl, hn, hal, hac⟩
    have hX' := hX _ hds
    by_cases hlt : i < ds.length
    · refine .inr ⟨w.goes i F' H' gg.ff gg.fh hlt, fun H4 => ∃ F' acc, Gr F2 H2 F' H4 ∧ H4 Dl = some (.lst acc) ∧ F' Dl = none ∧ acc.length = i + 1 ∧ ∀ y ∈ acc, Py y F', fun H4 p' => ⟨ds.length - (i + 1), by omega, rfl, hlt, p'⟩, fun x H3 y => ?_⟩
      obtain ⟨F3, g3, hdx⟩ := w.yields i F' H' x H3 ds[i] gg.ff gg.fh (List.getElem?_eq_getElem hlt) y
      have e3 : Ex F F3 := (e.trans g2.ff).trans (gg.ff.trans g3.ff)
      refine ⟨hw x, ?_⟩
      unfold tYes
      refine iteT (he x F3 e3 F3 H3 (Ex.refl F3) g3.fh (c2.trans (gg.trans g3).hh) _ fun y F5 H5 g5 hy => ?_)
      have hl5 := g5.hh _ _ (g3.hh _ _ hl)
      have hn5 := g5.nw _ _ (g3.hh _ _ hl) (g3.nw _ _ hl hn)
      refine ⟨acc, hl5, Nat.lt_of_lt_of_le (show acc.length < 100000 by omega) (by decide), F5, acc ++ [y], ((gg.trans g3).trans g5).mut hD hn5, upd_same, hn5, by rw [List.length_append, hal]; rfl, fun z hz => ?_⟩
      rcases List.mem_append.mp hz with hz | hz
      · exact m.mn (g3.ff.trans g5.ff) (hac z hz)
      · rw [List.mem_singleton.mp hz]; exact hy
    · have e3 : i = ds.length := by omega
      subst e3
      refine .inl ⟨w.stops F' H' gg.ff gg.fh, ?_⟩
      exact k _ _ _ (g2.trans (gg.fix hD hl)) ⟨_, hds, Dl, acc, rfl, hbD, upd_same, hal, fun y hy => m.mn (Ex.new hn) (hac y hy)⟩
/-- a built-in of one argument, by what its value is -/
theorem e_cbX {r : List V → Hp → VK → Prop} (ha : EP ta σ F P1) (h : ∀ v F2, Ex F F2 → P1 v F2 → EP (tCB r (tCons (tC v) tNil)) σ F2 P) : EP (tCB r (tCons ta tNil)) σ F P := fun F1 H1 e b Q q =>
  ha F1 H1 e b _ fun v F2 H2 g hv => h v F2 (e.trans g.ff) hv F2 H2 (Ex.refl F2) g.fh Q fun u F3 H3 g3 hu => q u F3 H3 (g.trans g3) hu
theorem e_cv {v : V} [m : Mn P] (h : P v F) : EP (tC v) σ F P := fun F1 H1 e b Q q => q v F1 H1 (Gr.refl b) (m.mn e h)
/-- items of one kind -/
theorem somes {α : Type} {enc : α → PyData} {p : α → Prop} {H : Hp} : ∀ {acc : List V}, (∀ y ∈ acc, SomeD K enc p y H) → ∃ l : List α, DpAll K H acc (l.map enc) ∧ l.length = acc.length ∧ ∀ a ∈ l, p a
  | [], _ => ⟨[], .nil, rfl, fun _ h => by cases h⟩
  | y :: acc, h => by
    obtain ⟨x, h1, h2⟩ := h y (by simp)
    obtain ⟨l, h3, h4, h5⟩ := somes fun z hz => h z (List.mem_cons_of_mem _ hz)
    refine ⟨x :: l, .cons h1 h3, by simp [h4], fun a ha => ?_⟩
    rcases List.mem_cons.mp ha with rfl | ha
    · exact h2
    · exact h5 a ha
theorem lst_some {α : Type} {enc : α → PyData} {p : α → Prop} {n : Nat} {v : V} {H : Hp} (h : LstN Hb (SomeD K enc p) n v H) : SomeD K (fun l : List α => .list (l.map enc)) (fun l => l.length = n ∧ ∀ a ∈ l, p a) v H := by
  obtain ⟨a, acc, rfl, _, h3, h4, h5⟩ := h
  obtain ⟨l, h6, h7, h8⟩ := somes h5
  exact ⟨l, Dp.lst (Evl.sq_of h3) h6, by omega, h8⟩
/-- a thing of one's own that stands is changed -/
theorem Gr.remut {p : Addr} {o : HO} (g : Gr F0 H0 F H) (h0 : H0 p = none) (e0 : Ex F0 H0) : Gr F0 H0 (upd F p o) (upd H p o) := by
  refine ⟨Ex.mut g.hh h0, Ex.mut g.ff (ex_none e0 h0), fun a u ha => ?_, fun a u ha n => ?_⟩
  · by_cases z : a = p
    · subst z; rw [upd_same] at ha ⊢; exact ha
    · rw [upd_ne z] at ha ⊢; exact g.fh a u ha
  · rw [upd_ne (ne_of_none ha h0)]; exact g.nw a u ha n
/-! ### letters -/
def IsTx (P : Program) (w : World) (ts : List Str) : Ds := fun v H => ∃ a ks, v = .ref a ∧ H a = some (OT.TxO P w a ks) ∧ (∀ k, k ∈ ks ↔ k ∈ ts) ∧ ks.Nodup
theorem e_setTx {P : Program} {w : World} {ts : List Str} (ha : EP ta σ F (D K (.list (ts.map .str)))) (hl : ts.length < 1000) : EP (tCB (OT.rSetTx K P w) (tCons ta tNil)) σ F (IsTx P w ts) := fun F1 H1 e b Q q =>
  ha F1 H1 e b _ fun v F2 H2 g hv => by
    obtain ⟨l, xs, rfl, h1, h2⟩ := dLst hv
    rw [dstrs h2] at h1
    exact ⟨l, ts, rfl, Evl.ex_l g.fh h1, hl, fun a ks ha' hk hn => q _ _ _ (g.trans (Gr.new g.fh ha')) ⟨a, ks, rfl, upd_same, hk, hn⟩⟩
theorem e_sortTx {P : Program} {w : World} {ts : List Str} (ha : EP ta σ F (IsTx P w ts)) (hl : ∀ ks : List Str, (∀ k, k ∈ ks ↔ k ∈ ts) → ks.Nodup → ks.length < 64) : EP (tCB (OT.rSortTx P w) (tCons ta tNil)) σ F (SomeD K (fun ys : List Str => .list (ys.map .str)) fun ys => (∀ k, k ∈ ys ↔ k ∈ ts) ∧ ys.Nodup ∧ sortedS ys = true) := fun F1 H1 e b Q q =>
  ha F1 H1 e b _ fun v F2 H2 g hv => by
    obtain ⟨a, ks, rfl, h1, h2, h3⟩ := hv
    refine ⟨a, ks, rfl, g.fh _ _ h1, hl ks h2 h3, fun ys p pm so hp => q _ _ _ (g.trans (Gr.new g.fh hp)) ⟨ys, Dp.lst (Evl.sq_of upd_same) (dofStrs ys), fun k => ?_, pm.nodup_iff.mpr h3, so⟩⟩
    rw [pm.mem_iff]; exact h2 k
end
end OL
-- OhW10
set_option maxHeartbeats 1000000
/-! The walk, part 10: lands. -/
namespace OL
open PySem PySem.Spec PyProof.Rows L2
open SX (S)
open Evl (Ex)
open OH
def spotsM (rows : List Tx) (cs : Tx) : List Pl := (List.range rows.length).flatMap fun (y : Nat) => ((List.range (rows.getD y []).length).filter fun x => decide ((rows.getD y []).getD x 0 ∈ cs)).map fun (x : Nat) => (((y : Nat) : Int), ((x : Nat) : Int))
theorem mem_spots {rows : List Tx} (R : Rows rows) {cs : Tx} (hc : 35 ∈ cs → True) {p : Pl} : p ∈ spotsM rows cs ↔ inF rows p = true ∧ sgn rows p ∈ cs := by
  unfold spotsM
  rw [List.mem_flatMap]
  have rowAt : ∀ y : Nat, y < rows.length → rows.getD y [] ∈ rows ∧ (rows.getD y []).length = wid rows := fun y hy => by
    have e : rows.getD y [] = rows[y] := by rw [List.getD_eq_getElem?_getD, List.getElem?_eq_getElem hy]; rfl
    rw [e]
    exact ⟨List.getElem_mem hy, (R.all _ (List.getElem_mem hy)).1⟩
  have at_ : ∀ y x : Nat, y < rows.length → x < wid rows → inF rows ((y : Int), (x : Int)) = true ∧ sgn rows ((y : Int), (x : Int)) = (rows.getD y []).getD x 0 := fun y x hy hx => by
    have hin : inF rows ((y : Int), (x : Int)) = true := inF_iff.mpr ⟨⟨by show (0 : Int) ≤ y; omega, by show (y : Int) ≤ rows.length - 1; omega⟩, by show (0 : Int) ≤ x; omega, by show (x : Int) ≤ wid rows - 1; omega⟩
    refine ⟨hin, ?_⟩
    unfold sgn
    rw [if_pos hin]
    show (rows.getD y []).getD x 35 = _
    have hl := (rowAt y hy).2
    rw [List.getD_eq_getElem?_getD (l := rows.getD y []), List.getD_eq_getElem?_getD (l := rows.getD y []), List.getElem?_eq_getElem (by omega)]
    rfl
  constructor
  · rintro ⟨y, hy, hp⟩
    have hy := List.mem_range.mp hy
    obtain ⟨x, hx, rfl⟩ := List.mem_map.mp hp
    obtain ⟨hx1, hx2⟩ := List.mem_filter.mp hx
    have hx1 := List.mem_range.mp hx1
    rw [(rowAt y hy).2] at hx1
    obtain ⟨h1, h2⟩ := at_ y x hy hx1
    refine ⟨h1, ?_⟩
    rw [h2]
    exact of_decide_eq_true hx2
  · rintro ⟨h1, h2⟩
    obtain ⟨⟨a1, a2⟩, b1, b2⟩ := inF_iff.mp h1
    have e : (((p.1.toNat : Nat) : Int), ((p.2.toNat : Nat) : Int)) = p := Prod.ext (by show ((p.1.toNat : Nat) : Int) = p.1; omega) (by show ((p.2.toNat : Nat) : Int) = p.2; omega)
    have hy : p.1.toNat < rows.length := by omega
    have hx : p.2.toNat < wid rows := by omega
    obtain ⟨_, h4⟩ := at_ p.1.toNat p.2.toNat hy hx
    rw [e] at h4
    refine ⟨p.1.toNat, List.mem_range.mpr hy, List.mem_map.mpr ⟨p.2.toNat, List.mem_filter.mpr ⟨List.mem_range.mpr (by rw [(rowAt _ hy).2]; exact hx), ?_⟩, e⟩⟩
    rw [← h4]
    exact decide_eq_true h2
theorem flat_len {α β : Type} (f : α → List β) (m : Nat) : ∀ xs : List α, (∀ x ∈ xs, (f x).length ≤ m) → (xs.flatMap f).length ≤ xs.length * m
  | [], _ => Nat.zero_le _
  | x :: xs, h => by
    rw [List.flatMap_cons, List.length_append, List.length_cons]
    have h1 := h x (by simp)
    have h2 := flat_len f m xs fun y hy => h y (List.mem_cons_of_mem _ hy)
    rw [Nat.succ_mul]
    omega
theorem spots_len {rows : List Tx} (h6 : rows.length ≤ 6) (w6 : ∀ r ∈ rows, r.length ≤ 6) (cs : Tx) : (spotsM rows cs).length ≤ 36 := by
  unfold spotsM
  refine Nat.le_trans (flat_len _ 6 _ fun y hy => ?_) ?_
  · rw [List.length_map]
    refine Nat.le_trans (List.length_filter_le _ _) ?_
    rw [List.length_range]
    have hy := List.mem_range.mp hy
    rw [List.getD_eq_getElem?_getD, List.getElem?_eq_getElem hy]
    exact w6 _ (List.getElem_mem hy)
  · rw [List.length_range]; omega
section
variable {P : Program} {w : World} {K : PySem.W.Frag} {mg : Str → Option Value} {base : Heap}
theorem enum_S (r : Tx) : enumD (signs (S r)) = (List.range r.length).map fun (k : Nat) => .tuple [.int (k : Int), dC (r.getD k 0)] := by
  unfold enumD
  rw [signs_S, List.length_map]
  refine List.map_congr_left fun k hk => ?_
  have hk := List.mem_range.mp hk
  rw [List.getD_eq_getElem?_getD, List.getElem?_map, List.getElem?_eq_getElem hk, List.getD_eq_getElem?_getD, List.getElem?_eq_getElem hk]
  rfl
def sp_law_spots (K : PySem.W.Frag) : Sp := Pr (fun x : List Tx × Tx => [D K (.list (dL x.1)), D K (dT x.2)]) (fun x => x.1.length ≤ 6 ∧ ∀ r ∈ x.1, r.length ≤ 6) (fun x => D K (.list ((spotsM x.1 x.2).map dP)))
theorem sc_law_spots : FnScope ["_law_rows_here", "_law_signs", "_law_found", "_law_y", "_law_line_here", "_law_x", "_law_sign_here"] ["_law_rows_here", "_law_signs"] (defScope s_law_spots) := ⟨rfl, rfl, rfl, by decide +kernel, rfl, by decide +kernel, by decide +kernel⟩
set_option maxHeartbeats 2000000 in
theorem bd_law_spots (T : Tt K mg)  : BodyOk P w K mg base 0 "_law_spots" s_law_spots ["_law_rows_here", "_law_signs", "_law_found", "_law_y", "_law_line_here", "_law_x", "_law_sign_here"] (sp_law_spots K) := by
  intro f cdv A outer s H vs Q E hr h
  have nd := sc_law_spots.nd
  have hu := hu_of hr
  have hu64 := hr.units
  have hu65 : (A.deeper (envOfC "_law_spots" (defScope s_law_spots) s.heap.objs.size f cdv)).units + 65 < cLine := by have := hr.un; omega
  obtain ⟨⟨rows, cs⟩, F, e, hA, ⟨h6, w6⟩, k⟩ := h
  obtain ⟨v, v2, rfl, hv, h2⟩ := all2 hA
  have h6 : rows.length ≤ 6 := h6
  have w6 : ∀ r ∈ rows, r.length ≤ 6 := w6
  refine ⟨_, (pss_cons (ps_set (i := 2) nd rfl (Or.inl rfl) (pe_lst pa_nil))
      (pss_cons (ps_for PassesOwn.never rfl (pi_enum (by rfl) T.f_enumerate (pa_cons (pv 0) pa_nil)) (pg_tup (by rfl) (pgs_cons (pg_name (i := 3) nd rfl (Or.inr rfl)) (pgs_cons (pg_name (i := 4) nd rfl (Or.inl rfl)) pgs_nil))) (pss_one (ps_expr (pe_bm PySem.F.plainAttrs_list PySem.F.slot_list_extend PySem.F.type_list_extend mt_extend (pv 2) (pa_cons (pe_lc (own := [("_law_x", 5), ("_law_sign_here", 6)]) (by rfl) nd (pi_enumS (by rfl) T.f_enumerate (pa_cons (pv 4) pa_nil)) (blkOk_by (N := ["_law_rows_here", "_law_signs", "_law_found", "_law_y", "_law_line_here", "_law_x", "_law_sign_here"]) (sc := defScope s_law_spots) (own := [("_law_x", 5), ("_law_sign_here", 6)]) (by decide +kernel)) (fun _ _ _ _ _ => (show PG _ _ (gTup K 2 _) from pg_tup (by rfl) (pgs_cons (pg_name (i := 5) nd rfl (Or.inl rfl)) (pgs_cons (pg_name (i := 6) nd rfl (Or.inl rfl)) pgs_nil)))) (fun _ _ _ _ _ => (pts_one (pt_cmpR op_in_sign (pv 6) (pv 1) (by rfl)))) (fun _ _ _ _ _ => (pe_tup (pa_cons (pv 3) (pa_cons (pv 5) pa_nil))))) pa_nil)))))
      (pss_one (ps_ret (pv 2))))), ?_⟩
  refine q_own (K := K) (ds := []) e ea_nil rfl fun l F1 H1 o1 => ?_
  refine q_for (K := K) o1.g.fh (i_enum (ea_cons (e_var rfl (dpx o1.g.ff _ _ hv)) ea_nil)) fun F2 H2 g2 => ⟨fun i σ' F' H' => ∃ a b c d, σ' = [some v, some v2, some (.ref l), a, b, c, d] ∧ Ex F2 F' ∧ Own K F H F' H' l (((List.range i).flatMap fun (y : Nat) => ((List.range (rows.getD y []).length).filter fun x => decide ((rows.getD y []).getD x 0 ∈ cs)).map fun (x : Nat) => (((y : Nat) : Int), ((x : Nat) : Int))).map dP), ⟨_, _, _, _, rfl, Ex.refl _, o1.gr g2⟩, fun i σ' F' H' q => ?_, ?_, ?_⟩
  · obtain ⟨_, _, _, _, _, e2, o2⟩ := q
    exact ⟨e2, o2.g.fh⟩
  · rintro i dd y σ' F' H' F3 H3 hdd ⟨a, b, c, d, rfl, e2, o2⟩ g3 hy
    obtain ⟨r', hr', rfl⟩ := enum_get hdd
    obtain ⟨r, hr, rfl⟩ : ∃ r, rows[i]? = some r ∧ r' = dT r := by
      rw [List.getElem?_map] at hr'
      obtain ⟨r, h1, h2⟩ := Option.map_eq_some_iff.mp hr'
      exact ⟨r, h1, h2.symm⟩
    have hrr : rows.getD i [] = r := by rw [List.getD_eq_getElem?_getD, hr]; rfl
    have hir : i < rows.length := (List.getElem?_eq_some_iff.mp hr).1
    have hl6 := w6 r (List.mem_of_getElem? hr)
    have o3 := o2.gr g3
    refine g_unp (d1 := .int (i : Int)) (d2 := dT r) g3.fh hy fun u1 u2 q1 q2 => ?_
    obtain ⟨zs, k1, k2⟩ := o3.xs
    have h23 : D K (dT cs) v2 F3 := dpx o3.g.ff _ _ h2
    refine ⟨_, rfl, .inl ⟨rfl, zs, Evl.sq_of k1⟩, ?_⟩
    refine EP.go (P := LstD K (((List.range r.length).filter fun x => decide (r.getD x 0 ∈ cs)).map fun (x : Nat) => dP ((i : Int), (x : Int)))) (F := F3) ?_ o3.g.fh fun u F4 H4 g4 hu => ?_
    · refine e_lcH (List.range r.length) (fun (k : Nat) => .tuple [.int (k : Int), dC (r.getD k 0)]) _ _ ?_ (by rw [List.length_range]; omega) fun x hx vv F5 H5 e5 b5 hvv R kk => g_unp b5 hvv fun w1 w2 p1 p2 => kk _ rfl ?_ fun _ => ?_
      · rw [← enum_S]
        exact i_enumS (ea_cons (e_var rfl q2) ea_nil)
      · exact t_test ((e_inSign (e_var rfl p2) (e_var rfl (dpx e5 _ _ h23))).eq (by rw [S_tl]))
      · exact e_tup (ds := [.int (i : Int), .int (x : Int)]) (ea_cons (e_var rfl (dpx e5 _ _ q1)) (ea_cons (e_var rfl p1) ea_nil))
    · obtain ⟨b4, acc, rfl, hb1, hb2⟩ := hu
      have o4 := o3.gr g4
      obtain ⟨ys, m1, m2⟩ := o4.xs
      have hL : (((List.range i).flatMap fun (y : Nat) => ((List.range (rows.getD y []).length).filter fun x => decide ((rows.getD y []).getD x 0 ∈ cs)).map fun (x : Nat) => (((y : Nat) : Int), ((x : Nat) : Int)))).length ≤ 36 := by
        refine Nat.le_trans (flat_len _ 6 _ fun y hy => ?_) (by rw [List.length_range]; omega)
        rw [List.length_map]
        refine Nat.le_trans (List.length_filter_le _ _) ?_
        rw [List.length_range]
        have hy := List.mem_range.mp hy
        rw [List.getD_eq_getElem?_getD, List.getElem?_eq_getElem (by omega)]
        exact w6 _ (List.getElem_mem _)
      have z1 := dlen m2
      have z2 := dlen hb2
      rw [List.length_map] at z1 z2
      have z3 := List.length_filter_le (fun x => decide (r.getD x 0 ∈ cs)) (List.range r.length)
      rw [List.length_range] at z3
      refine ⟨l, b4, ys, acc, rfl, rfl, m1, g4.fh _ _ hb1, Nat.le_trans (show ys.length + acc.length ≤ 100000 by omega) (by decide), F4, _, _, _, _, rfl, e2.trans (g3.ff.trans g4.ff), ?_⟩
      refine ⟨o4.g.mut o4.h0 o4.fl, o4.h0, o4.fl, _, upd_same, ?_⟩
      rw [List.range_succ, List.flatMap_append, List.map_append, List.flatMap_singleton, hrr, List.map_map]
      exact dapp m2 hb2
  · rintro σ' F' H' ⟨a, b, c, d, rfl, e2, o2⟩
    have : (enumD (dL rows)).length = rows.length := by unfold enumD; rw [List.length_map, List.length_range, List.length_map]
    rw [this] at o2
    exact s_retOwn o2 rfl k
end
end OL
-- OhW11
set_option maxHeartbeats 1000000
/-! The walk, part 11: a land. -/
namespace OL
open PySem PySem.Spec PyProof.Rows L2
open SX (S)
open Evl (Ex)
open OH
section
variable {K : PySem.W.Frag} {σ : L2.St} {F H Hb F0 H0 F1 H1 : Hp} {ta tb te : TE} {P P1 Py : Ds} {wi : TI}
/-- the i-th item of the list made stands to the i-th of xs as p says -/
theorem e_lcZ {α β : Type} {vs : List Nat} {j : Nat} (xs : List α) (enc : α → PyData) (enc2 : β → PyData) (p : α → β → Prop) (h : EI K wi σ F (xs.map enc)) (hz : xs.length ≤ 40000)
    (he : ∀ x ∈ xs, ∀ v F1, Ex F F1 → D K (enc x) v F1 → EP te ((wipe σ vs).set j (some v)) F1 (SomeD K enc2 (p x)))
    (hw : ∀ v, wipe ((wipe σ vs).set j (some v)) vs = wipe σ vs := by intro _; rfl) : EP (tLc wi (gName j) tYes te vs) σ F (SomeD K (fun l : List β => .list (l.map enc2)) fun l => Paired p xs l) := fun F1 H1 e b Q k =>
  h F1 H1 e b _ fun J F2 H2 g2 w => by
    intro Dl hD
    have hF2 : F2 Dl = none := ex_none g2.fh hD
    refine ⟨fun i m H' => m = xs.length - i ∧ i ≤ xs.length ∧ ∃ F' acc l, Gr F2 H2 F' H' ∧ H' Dl = some (.lst acc) ∧ F' Dl = none ∧ DpAll K F' acc (l.map enc2) ∧ Paired p (xs.take i) l, ⟨xs.length, by simp, Nat.zero_le _, F2, [], [], Gr.own g2.fh hD, upd_same, hF2, .nil, .nil⟩, ?_⟩
    rintro i m H' ⟨rfl, hi, F', acc, l, gg, hl, hn, hac, hpl⟩
    by_cases hlt : i < xs.length
    · refine .inr ⟨w.goes i F' H' gg.ff gg.fh (by simpa using hlt), fun H4 => ∃ F' acc l, Gr F2 H2 F' H4 ∧ H4 Dl = some (.lst acc) ∧ F' Dl = none ∧ DpAll K F' acc (l.map enc2) ∧ Paired p (xs.take (i + 1)) l, fun H4 p' => ⟨xs.length - (i + 1), by omega, rfl, hlt, p'⟩, fun x H3 y => ?_⟩
      have hx : xs[i]? = some xs[i] := List.getElem?_eq_getElem hlt
      obtain ⟨F3, g3, hdx⟩ := w.yields i F' H' x H3 (enc xs[i]) gg.ff gg.fh (by simp [hx]) y
      have et : xs.take (i + 1) = xs.take i ++ [xs[i]] := by rw [List.take_add_one, hx]; rfl
      refine ⟨hw x, ?_⟩
      unfold tYes
      refine iteT ((he xs[i] (List.getElem_mem hlt) x F3 ((e.trans g2.ff).trans (gg.ff.trans g3.ff)) hdx).go g3.fh fun y F5 H5 g5 ⟨z, hy, hz2⟩ => ?_)
      have hl5 := g5.hh _ _ (g3.hh _ _ hl)
      have hn5 := g5.nw _ _ (g3.hh _ _ hl) (g3.nw _ _ hl hn)
      have hlen : acc.length ≤ 40000 := by
        have h1 := dlen hac
        have h2 := Paired.length hpl
        rw [List.length_map] at h1
        rw [List.length_take] at h2
        omega
      refine ⟨acc, hl5, Nat.lt_of_lt_of_le (show acc.length < 100000 by omega) (by decide), F5, acc ++ [y], l ++ [z], ((gg.trans g3).trans g5).mut hD hn5, upd_same, hn5, ?_, ?_⟩
      · rw [List.map_append]
        exact dsnoc (dpxs (g3.ff.trans g5.ff) _ _ hac) hy
      · rw [et]
        have app : ∀ {as : List α} {bs : List β}, Paired p as bs → Paired p (as ++ [xs[i]]) (bs ++ [z]) := by
          intro as bs h
          induction h with
          | nil => exact .cons hz2 .nil
          | cons h t ih => exact .cons h ih
        exact app hpl
    · have e3 : i = xs.length := by omega
      subst e3
      refine .inl ⟨by have := w.stops F' H' gg.ff gg.fh; simpa using this, ?_⟩
      rw [List.take_length] at hpl
      exact k _ _ _ (g2.trans (gg.fix hD hl)) ⟨l, Dp.lst (Evl.sq_of upd_same) (dpxs (Ex.new hn) _ _ hac), hpl⟩
/-- dict(pairs), the keys signs that differ -/
def dPr (x : Nat × Tx) : PyData := .tuple [dC x.1, dT x.2]
theorem merge_new : ∀ (more kvs : List (Key × V)), ((kvs ++ more).map (·.1)).Nodup → mergeK kvs more = kvs ++ more
  | [], kvs, _ => (List.append_nil kvs).symm
  | kv :: more, kvs, h => by
    have hk : valV kvs kv.1 = none := by
      cases z : valV kvs kv.1 with
      | none => rfl
      | some v =>
        have hm := valV_in z
        rw [List.map_append, List.nodup_append] at h
        exact absurd rfl (h.2.2 _ hm _ (by simp))
    show mergeK (putK kvs kv.1 kv.2) more = _
    rw [putK_new _ hk, merge_new more _ (by rw [List.append_assoc]; exact h), List.append_assoc]
    rfl
theorem key_inj {a b : Nat} (h : (Sum.inr ⟨#[a]⟩ : Key) = Sum.inr ⟨#[b]⟩) : a = b := by
  have := congrArg (fun z : Key => match z with | .inr x => x.cps.toList | _ => []) h
  simpa using this
theorem bk_nodup {b : Bk} (h : (b.map Prod.fst).Nodup) : ((bkV b).map (·.1)).Nodup := by
  unfold bkV
  rw [List.map_map]
  have e : ((fun x : Key × V => x.1) ∘ fun x : Nat × Tx => ((Sum.inr ⟨#[x.1]⟩ : Key), V.str (S x.2))) = (fun c : Nat => (Sum.inr ⟨#[c]⟩ : Key)) ∘ Prod.fst := rfl
  rw [e, ← List.map_map]
  exact List.Pairwise.map _ (fun a b hab z => hab (key_inj z)) h
theorem dPrs : ∀ {vs : List V} {b : Bk} {H : Hp}, DpAll K H vs (b.map dPr) → ∃ ps : List Addr, vs = ps.map V.ref ∧ Paired (fun p kv => SqT K H p [kV kv.1, kv.2]) ps (bkV b)
  | _, [], _, .nil => ⟨[], rfl, .nil⟩
  | _, x :: b, H, .cons h1 h2 => by
    obtain ⟨ps, e1, e2⟩ := dPrs h2
    obtain ⟨a, xs, rfl, h3, h4⟩ := dTup h1
    refine ⟨a :: ps, by simp [e1], .cons ?_ e2⟩
    cases h4 with
    | cons q1 r =>
      cases r with
      | cons q2 r =>
        cases r
        rw [dStr q1, dStr q2] at h3
        exact h3
theorem paired_imp {α β : Type} {p q : α → β → Prop} (h : ∀ a b, p a b → q a b) : ∀ {as : List α} {bs : List β}, Paired p as bs → Paired q as bs
  | _, _, .nil => .nil
  | _, _, .cons x r => .cons (h _ _ x) (paired_imp h r)
theorem e_dictP {b : Bk} (ha : EP ta σ F (D K (.list (b.map dPr)))) (hn : (b.map Prod.fst).Nodup) : EP (tCB (fun xs H Q => ∃ (a : Addr) (ps : List Addr) (kvs : List (Key × V)), xs = [V.ref a] ∧ SqL K H a (ps.map V.ref) ∧ Paired (fun p kv => SqT K H p [kV kv.1, kv.2]) ps kvs ∧
    ∀ p, H p = none → Q (.ref p) (upd H p (.dK (mergeK [] kvs)))) (tCons ta tNil)) σ F (IsBk b) := fun F1 H1 e c Q q =>
  ha F1 H1 e c _ fun v F2 H2 g hv => by
    obtain ⟨l, xs, rfl, h1, h2⟩ := dLst hv
    obtain ⟨ps, rfl, h3⟩ := dPrs h2
    refine ⟨l, ps, bkV b, rfl, Evl.ex_l g.fh h1, paired_imp (fun a b h => Evl.ex_t g.fh h) h3, fun p hp => q _ _ _ (g.trans (Gr.new g.fh hp)) ⟨p, _, rfl, upd_same, ?_⟩⟩
    rw [merge_new _ _ (bk_nodup hn)]
    rfl
end
/-! ### the letters in their order -/
theorem mem_joinL (c : Nat) : ∀ rows : List Tx, c ∈ TL.joinL [] rows ↔ ∃ r ∈ rows, c ∈ r
  | [] => by simp [TL.joinL]
  | [r] => by simp [TL.joinL]
  | r :: r2 :: rows => by
    have ih := mem_joinL c (r2 :: rows)
    show c ∈ r ++ ([] ++ TL.joinL [] (r2 :: rows)) ↔ _
    rw [List.nil_append, List.mem_append, ih]
    constructor
    · rintro (h | ⟨x, h1, h2⟩)
      · exact ⟨r, by simp, h⟩
      · exact ⟨x, List.mem_cons_of_mem _ h1, h2⟩
    · rintro ⟨x, h1, h2⟩
      rcases List.mem_cons.mp h1 with rfl | h1
      · exact .inl h2
      · exact .inr ⟨x, h1, h2⟩
theorem len_joinL (m : Nat) : ∀ rows : List Tx, (∀ r ∈ rows, r.length ≤ m) → (TL.joinL [] rows).length ≤ rows.length * m
  | [], _ => by simp [TL.joinL]
  | [r], h => by simpa [TL.joinL] using h r
  | r :: r2 :: rows, h => by
    have ih := len_joinL m (r2 :: rows) fun x hx => h x (List.mem_cons_of_mem _ hx)
    have h1 := h r (by simp)
    show (r ++ ([] ++ TL.joinL [] (r2 :: rows))).length ≤ _
    rw [List.nil_append, List.length_append, List.length_cons, Nat.succ_mul]
    omega
theorem asc_eq : ∀ {xs ys : List Nat}, xs.Pairwise (· < ·) → ys.Pairwise (· < ·) → (∀ c, c ∈ xs ↔ c ∈ ys) → xs = ys
  | [], [], _, _, _ => rfl
  | [], y :: ys, _, _, h => absurd ((h y).mpr (by simp)) (by simp)
  | x :: xs, [], _, _, h => absurd ((h x).mp (by simp)) (by simp)
  | x :: xs, y :: ys, hx, hy, h => by
    obtain ⟨x1, x2⟩ := List.pairwise_cons.mp hx
    obtain ⟨y1, y2⟩ := List.pairwise_cons.mp hy
    have e : x = y := by
      rcases List.mem_cons.mp ((h x).mp (by simp)) with e | m1
      · exact e
      · rcases List.mem_cons.mp ((h y).mpr (by simp)) with e | m2
        · exact e.symm
        · have := x1 y m2
          have := y1 x m1
          omega
    subst e
    rw [asc_eq x2 y2 fun c => ?_]
    constructor
    · intro hc
      rcases List.mem_cons.mp ((h c).mp (List.mem_cons_of_mem _ hc)) with e | m
      · subst e; exact absurd (x1 c hc) (Nat.lt_irrefl _)
      · exact m
    · intro hc
      rcases List.mem_cons.mp ((h c).mpr (List.mem_cons_of_mem _ hc)) with e | m
      · subst e; exact absurd (y1 c hc) (Nat.lt_irrefl _)
      · exact m
theorem lettersM_asc (rows : List Tx) : (lettersM rows).Pairwise (· < ·) := List.Pairwise.sublist List.filter_sublist (by decide)
theorem sorted_asc : ∀ {cs : List Nat}, sortedS (cs.map fun c => (⟨#[c]⟩ : Str)) = true → cs.Nodup → cs.Pairwise (· < ·)
  | [], _, _ => .nil
  | [c], _, _ => List.pairwise_singleton _ _
  | c :: d :: cs, h, hn => by
    have h : (!ltCps [d] [c] && risingS ⟨#[d]⟩ (cs.map fun c => (⟨#[c]⟩ : Str))) = true := h
    obtain ⟨h1, h2⟩ := Bool.and_eq_true_iff.mp h
    obtain ⟨n1, n2⟩ := List.nodup_cons.mp hn
    have ih := sorted_asc (cs := d :: cs) h2 n2
    have hlt : c < d := by
      have h3 : ltCps [d] [c] = false := by simpa using h1
      have h4 : ¬ d < c := by
        intro z
        have : ltCps [d] [c] = true := by simp [ltCps, z]
        rw [h3] at this; cases this
      have h5 : c ≠ d := fun e => n1 (by rw [e]; simp)
      omega
    refine List.pairwise_cons.mpr ⟨fun x hx => ?_, ih⟩
    rcases List.mem_cons.mp hx with rfl | hx
    · exact hlt
    · exact Nat.lt_trans hlt ((List.pairwise_cons.mp ih).1 x hx)
theorem texts_of {ys : List Str} {cs : List Nat} (h : ∀ k, k ∈ ys → ∃ c, k = (⟨#[c]⟩ : Str)) : ∃ ds : List Nat, ys = ds.map fun c => (⟨#[c]⟩ : Str) := by
  induction ys with
  | nil => exact ⟨[], rfl⟩
  | cons y ys ih =>
    obtain ⟨c, rfl⟩ := h y (by simp)
    obtain ⟨ds, rfl⟩ := ih fun k hk => h k (List.mem_cons_of_mem _ hk)
    exact ⟨c :: ds, rfl⟩
theorem sing_inj {a b : Nat} (h : (⟨#[a]⟩ : Str) = ⟨#[b]⟩) : a = b := by
  have := congrArg (fun z : Str => z.cps.toList) h
  simpa using this
theorem letters_of {rows : List Tx} {ys : List Str} (h1 : ∀ k, k ∈ ys ↔ k ∈ ((TL.joinL [] rows).filter fun c => decide (c ∈ LETTERS)).map fun c => (⟨#[c]⟩ : Str)) (h2 : ys.Nodup) (h3 : sortedS ys = true) : ys = (lettersM rows).map fun c => (⟨#[c]⟩ : Str) := by
  obtain ⟨ds, rfl⟩ := texts_of (cs := []) fun k hk => by
    obtain ⟨c, _, e⟩ := List.mem_map.mp ((h1 k).mp hk)
    exact ⟨c, e.symm⟩
  have hn : ds.Nodup := List.Pairwise.of_map _ (fun a b hab e => hab (by rw [e])) h2
  rw [asc_eq (sorted_asc h3 hn) (lettersM_asc rows) fun c => ?_]
  have e1 : c ∈ ds ↔ (⟨#[c]⟩ : Str) ∈ ds.map fun c => (⟨#[c]⟩ : Str) := by
    rw [List.mem_map]
    exact ⟨fun h => ⟨c, h, rfl⟩, fun ⟨d, h, e⟩ => sing_inj e ▸ h⟩
  rw [e1, h1, List.mem_map]
  unfold lettersM
  rw [List.mem_filter, List.any_eq_true]
  constructor
  · rintro ⟨d, h, e⟩
    rw [sing_inj e] at h
    obtain ⟨h4, h5⟩ := List.mem_filter.mp h
    obtain ⟨r, hr, hc⟩ := (mem_joinL c rows).mp h4
    exact ⟨of_decide_eq_true h5, r, hr, decide_eq_true hc⟩
  · rintro ⟨h4, r, hr, hc⟩
    exact ⟨c, List.mem_filter.mpr ⟨(mem_joinL c rows).mpr ⟨r, hr, of_decide_eq_true hc⟩, decide_eq_true h4⟩, rfl⟩
end OL
-- OhW12
set_option maxHeartbeats 1000000
/-! The walk, part 12: a land laid. -/
namespace OL
open PySem PySem.Spec PyProof.Rows L2
open SX (S)
open Evl (Ex)
open OH
structure LandM where
  rows : List Tx
  begin : Pl
  turn : Tx
  book : Bk
  ws : List Pl
def LandM.wd (L : LandM) : WdIn := ⟨L.rows, L.begin, L.turn, some L.book, L.ws⟩
/-- what is told of a land -/
structure LandF (K : PySem.W.Frag) (L : LandM) (r st bk ws : V) (F : Hp) : Prop where
  r : D K (.list (dL L.rows)) r F
  st : D K (.tuple [dP L.begin, dT L.turn]) st F
  bk : IsBk L.book bk F
  ws : D K (.list (L.ws.map dP)) ws F
theorem LandF.mono {K : PySem.W.Frag} {L : LandM} {r st bk ws : V} {F F' : Hp} (e : Ex F F') (h : LandF K L r st bk ws F) : LandF K L r st bk ws F' := ⟨dpx e _ _ h.r, dpx e _ _ h.st, (inferInstance : Mn (IsBk L.book)).mn e h.bk, dpx e _ _ h.ws⟩
abbrev landV (r st bk ws : V) : List (Key × V) := [(.inr "rows", r), (.inr "start", st), (.inr "book", bk), (.inr "wished", ws)]
def RLand (K : PySem.W.Frag) (L : LandM) : List (Key × V) → Hp → Prop := fun kvs F => ∃ r st bk ws, kvs = landV r st bk ws ∧ LandF K L r st bk ws F
instance {K : PySem.W.Frag} {L : LandM} : MnK (RLand K L) := ⟨fun e ⟨r, st, bk, ws, h1, h2⟩ => ⟨r, st, bk, ws, h1, h2.mono e⟩⟩
abbrev IsLand (K : PySem.W.Frag) (L : LandM) : Ds := DkR (RLand K L)
section
variable {P : Program} {w : World} {K : PySem.W.Frag} {mg : Str → Option Value} {base : Heap}
/-- a dict under way -/
structure DkO (F0 H0 F H : Hp) (p : Addr) (kvs : List (Key × V)) : Prop where
  g : Gr F0 H0 F H
  h0 : H0 p = none
  fp : F p = none
  hp : H p = some (.dK kvs)
theorem DkO.gr {F0 H0 F H F1 H1 : Hp} {p : Addr} {kvs : List (Key × V)} (o : DkO F0 H0 F H p kvs) (g : Gr F H F1 H1) : DkO F0 H0 F1 H1 p kvs := ⟨o.g.trans g, o.h0, g.nw _ _ o.hp o.fp, g.hh _ _ o.hp⟩
theorem DkO.put {F0 H0 F H : Hp} {p : Addr} {kvs ls : List (Key × V)} (o : DkO F0 H0 F H p kvs) : DkO F0 H0 F (upd H p (.dK ls)) p ls := ⟨o.g.mut o.h0 o.fp, o.h0, o.fp, upd_same⟩
/-- d[k] = value -/
theorem q_dput {K : PySem.W.Frag} {σ : L2.St} {F0 H0 F H : Hp} {p : Addr} {kvs : List (Key × V)} {i : Nat} {z : Str} {tv : TE} {tz : TS} {Dn : Ends} {P : Ds} (o : DkO F0 H0 F H p kvs) (hs : σ[i]? = some (some (.ref p))) (hl : Nat.ble (kvs.length + 1) 100000 = true) (hv : EP tv σ F P)
    (k : ∀ v F1 H1, DkO F0 H0 F1 H1 p (putK kvs (.inr z) v) → Ex F F1 → P v F1 → tz Dn σ H1) : tSeq (sDPut (tVar i) (tC (.str z)) tv) tz Dn σ H := hv.go o.g.fh fun v F1 H1 g hv => by
  have o1 := o.gr g
  refine ⟨.ref p, hs, p, _, rfl, DPut.k (k := .inr z) o1.hp (Nat.lt_of_lt_of_le (Nat.lt_of_succ_le (Nat.le_of_ble_eq_true hl)) (by decide)), k v F1 _ o1.put g.ff hv⟩
def sp_law_land (K : PySem.W.Frag) : Sp := fun vs H Q _ => ∃ rows F, Ex F H ∧ AllP [IsSrc, D K (.list (dL rows))] vs F ∧ (Rows rows ∧ openM rows ≠ []) ∧
  ∀ L a r st bk ws F' H', Gr F H F' H' → H a = none → F' a = none → H' a = some (.dK (landV r st bk ws)) → LandF K L r st bk ws F' → L.rows = rows → WdOk L.wd → Q (.ref a) H'
theorem sgn_all {rows : List Tx} (R : Rows rows) (p : Pl) : sgn rows p ∈ ([35, 46, 126, 120, 97, 98, 99, 100] : Tx) := by
  have := sgn_signs R p
  revert this
  generalize sgn rows p = c
  intro h
  simp only [SIGNS, List.mem_cons, List.not_mem_nil, or_false] at h ⊢
  omega
theorem allplaces {rows : List Tx} (R : Rows rows) {p : Pl} : p ∈ spotsM rows ("#.~xabcd" : Str).cps.toList ↔ inF rows p = true := by
  have e : ("#.~xabcd" : Str).cps.toList = [35, 46, 126, 120, 97, 98, 99, 100] := by decide +kernel
  rw [e, mem_spots R fun _ => trivial]
  exact ⟨fun h => h.1, fun h => ⟨h, sgn_all R p⟩⟩
theorem opens {rows : List Tx} (R : Rows rows) {p : Pl} : p ∈ spotsM rows (".abcd" : Str).cps.toList ↔ p ∈ openM rows := by
  rw [open_tl, mem_spots R fun _ => trivial]
  unfold openM
  rw [List.mem_filter, decide_eq_true_eq]
  constructor
  · rintro ⟨h1, h2⟩; exact ⟨in_places h1, h2⟩
  · rintro ⟨h1, h2⟩
    refine ⟨ice_in rfl fun e => ?_, h2⟩
    rw [e] at h2
    exact absurd h2 (by decide)
/-- some of the places, by a set of them sorted -/
theorem e_wishes {σ : L2.St} {F : Hp} {ta : TE} {P : Program} {w : World} {every : List Pl} {m : Nat → Prop} (ha : EP ta σ F (SomeD K (fun l : List Pl => .list (l.map dP)) fun l => (m l.length ∧ l.length < 60) ∧ ∀ p ∈ l, p ∈ every)) (hR : ∀ p ∈ every, inR p) :
    EP (tCB (rSortedT K P w) (tCons (tCB (rSetOfT K P w) (tCons ta tNil)) tNil)) σ F (SomeD K (fun l : List Pl => .list (l.map dP)) fun l => (∀ p ∈ l, p ∈ every) ∧ l.Nodup ∧ l.length ≤ 63) :=
  fun F1 H1 e b Q q => ha F1 H1 e b _ fun v F2 H2 g ⟨l, hd, ⟨hm, hl⟩, he⟩ =>
    (e_sortSP (P := P) (w := w) (e_setP (P := P) (w := w) (e_cv hd) (show l.length < 64 by omega)) fun p hp => hR p (he p hp)) F2 H2 (Ex.refl F2) g.fh Q fun u F3 H3 g3 ⟨_, qs, h1, h2, h3, h4⟩ => q u F3 H3 (g.trans g3) ⟨qs, h1, fun p hp => he p ((h3 p).mp hp), h2, h4⟩
theorem nx_go {t : TS} {D : Ends} {σ : L2.St} {H : Hp} {rt : VK} {bk ct : L2.St → Hp → Prop} (h : t D σ H) : Ends.nx ⟨t D, rt, bk, ct⟩ σ H := h
theorem tC_go {v : V} {σ : L2.St} {H : Hp} {Q : VK} (h : Q v H) : tC v σ H Q := h
theorem gName_go {v : V} {i : Nat} {σ : L2.St} {H : Hp} {Q : L2.St → Hp → Prop} (h : Q (σ.set i (some v)) H) : gName i v σ H Q := h
theorem e_one {σ : L2.St} {F : Hp} {ta tb : TE} {E : XK} (x : Bool × List PyData) (h1 : EP ta σ F IsSrc) (h2 : EP tb σ F (SeqV K x)) (hn : 0 < x.2.length ∧ x.2.length < 10000) : EP (tCall (sp_law_one K) [] E (tCons ta (tCons tb tNil))) σ F (OneOf K x.2) := e_call x (ea_cons h1 (ea_cons h2 ea_nil)) hn
theorem e_sense {σ : L2.St} {F : Hp} {ta : TE} {E : XK} (h1 : EP ta σ F IsSrc) : EP (tCall (sp_law_sense K) [] E (tCons ta tNil)) σ F (SomeD K dT fun t => t ∈ TURNS) := e_call () (ea_cons h1 ea_nil) trivial
theorem e_take {σ : L2.St} {F : Hp} {ta tb : TE} {E : XK} (n : Int) (h1 : EP ta σ F IsSrc) (h2 : EP tb σ F (D K (.int n))) (hn : 0 < n ∧ n < 1000000) : EP (tCall (sp_law_take K) [] E (tCons ta (tCons tb tNil))) σ F (SomeI fun i => 0 ≤ i ∧ i < n) := e_call n (ea_cons h1 (ea_cons h2 ea_nil)) hn
theorem e_spots {σ : L2.St} {F : Hp} {ta tb : TE} {E : XK} (rows : List Tx) (cs : Tx) (h1 : EP ta σ F (D K (.list (dL rows)))) (h2 : EP tb σ F (D K (dT cs))) (hn : rows.length ≤ 6 ∧ ∀ r ∈ rows, r.length ≤ 6) : EP (tCall (sp_law_spots K) [] E (tCons ta (tCons tb tNil))) σ F (D K (.list ((spotsM rows cs).map dP))) := e_call (rows, cs) (ea_cons h1 (ea_cons h2 ea_nil)) hn
theorem e_seqL {σ : L2.St} {F : Hp} {ta : TE} {ds : List PyData} (h : EP ta σ F (D K (.list ds))) : EP ta σ F (SeqV K (false, ds)) := h.imp fun v F1 _ h => .inl ⟨rfl, h⟩
theorem e_seqT {σ : L2.St} {F : Hp} {ta : TE} {z : Str} (h : EP ta σ F (D K (.str z))) : EP ta σ F (SeqV K (true, signs z)) := h.imp fun v F1 _ h => .inr ⟨rfl, z, rfl, h⟩
theorem one_place {every : List Pl} {v : V} {F : Hp} (h : OneOf K (every.map dP) v F) : SomeD K dP (fun p => p ∈ every) v F := by
  obtain ⟨d, hd, hv⟩ := h
  obtain ⟨p, hp, rfl⟩ := List.mem_map.mp hd
  exact ⟨p, hv, hp⟩
theorem sc_law_land : FnScope ["_law_source_here", "_law_rows_here", "_law_letters", "_law_found", "_law_every", "_law_letter", "_law_sign_here", "_law_k"] ["_law_source_here", "_law_rows_here"] (defScope s_law_land) := ⟨rfl, rfl, rfl, by decide +kernel, rfl, by decide +kernel, by decide +kernel⟩
set_option maxHeartbeats 2000000 in
theorem bd_law_land (T : Tt K mg) (G_law_one : Cal P w K mg base 3 "_law_one" ["_law_source_here", "_law_some"] (sp_law_one K)) (G_law_spots : Cal P w K mg base 1 "_law_spots" ["_law_rows_here", "_law_signs"] (sp_law_spots K)) (G_law_sense : Cal P w K mg base 4 "_law_sense" ["_law_source_here"] (sp_law_sense K)) (G_law_take : Cal P w K mg base 2 "_law_take" ["_law_source_here", "_law_size"] (sp_law_take K)) : BodyOk P w K mg base 4 "_law_land" s_law_land ["_law_source_here", "_law_rows_here", "_law_letters", "_law_found", "_law_every", "_law_letter", "_law_sign_here", "_law_k"] (sp_law_land K) := by
  intro f cdv A outer s H vs Q E hr h
  have nd := sc_law_land.nd
  have hu := hu_of hr
  have hu64 := hr.units
  have hu65 : (A.deeper (envOfC "_law_land" (defScope s_law_land) s.heap.objs.size f cdv)).units + 65 < cLine := by have := hr.un; omega
  obtain ⟨rows, F, e, hA, ⟨R, ho⟩, k⟩ := h
  obtain ⟨v, v2, rfl, hv, h2⟩ := all2 hA
  have r6 := R.h6
  have w6 := R.w6
  have wr : ∀ r ∈ rows, r.length ≤ 6 := fun r hr => by rw [(R.all r hr).1]; exact w6
  have hjl : (TL.joinL [] rows).length ≤ 36 := Nat.le_trans (len_joinL 6 rows wr) (by omega)
  have ms : ∀ {F1 : Hp}, Ex F F1 → IsSrc v F1 := fun e1 => (inferInstance : Mn IsSrc).mn e1 hv
  refine ⟨_, (pss_cons (ps_set (i := 2) nd rfl (Or.inl rfl) (pe_callB (id := "sorted") (OT.cr_sortTx rfl) (by rfl) T.f_sorted (by decide +kernel) (pa_cons (pe_callTy (T := "set") (OT.cr_setTx rfl) (by rfl) T.f_set (by decide +kernel) (pa_cons (pe_lc (own := [("_law_sign_here", 6)]) (by rfl) nd (pi_str (pe_join pe_str (pv 1))) (blkOk_by (N := ["_law_source_here", "_law_rows_here", "_law_letters", "_law_found", "_law_every", "_law_letter", "_law_sign_here", "_law_k"]) (sc := defScope s_law_land) (own := [("_law_sign_here", 6)]) (by decide +kernel)) (fun _ _ _ _ _ => (pg_name (i := 6) nd rfl (Or.inl rfl))) (fun _ _ _ _ _ => (pts_one (pt_cmpR op_in_sign (pv 6) pe_str (by rfl)))) (fun _ _ _ _ _ => (pv 6))) pa_nil)) pa_nil)))
      (pss_cons (ps_set (i := 3) nd rfl (Or.inl rfl) (pe_disp (pps_cons pe_str (pv 1) (pps_cons pe_str (pe_tup (pa_cons (p_call G_law_one hr (pa_cons (pv 0) (pa_cons (p_call G_law_spots hr (pa_cons (pv 1) (pa_cons pe_str pa_nil))) pa_nil))) (pa_cons (p_call G_law_sense hr (pa_cons (pv 0) pa_nil)) pa_nil))) pps_nil)) (by rfl) (by rfl) (fun z => by cases z) (by decide)))
      (pss_cons (ps_dput hu (pv 3) pe_str (pe_callTy (T := "dict") (call_dictP rfl) (by rfl) T.f_dict (by decide +kernel) (pa_cons (pe_lc (own := [("_law_letter", 5)]) (by rfl) nd (pi_list (pv 2)) (blkOk_by (N := ["_law_source_here", "_law_rows_here", "_law_letters", "_law_found", "_law_every", "_law_letter", "_law_sign_here", "_law_k"]) (sc := defScope s_law_land) (own := [("_law_letter", 5)]) (by decide +kernel)) (fun _ _ _ _ _ => (pg_name (i := 5) nd rfl (Or.inl rfl))) (fun _ _ _ _ _ => pts_nil) (fun _ _ _ _ _ => (pe_tup (pa_cons (pv 5) (pa_cons (p_call G_law_sense hr (pa_cons (pv 0) pa_nil)) pa_nil))))) pa_nil)) rfl)
      (pss_cons (ps_set (i := 4) nd rfl (Or.inr rfl) (p_call G_law_spots hr (pa_cons (pv 1) (pa_cons pe_str pa_nil))))
      (pss_cons (ps_dput hu (pv 3) pe_str (pe_callB (id := "sorted") (cr_sortedT rfl) (by rfl) T.f_sorted (by decide +kernel) (pa_cons (pe_callTy (T := "set") (cr_setOfT rfl hu64) (by rfl) T.f_set (by decide +kernel) (pa_cons (pe_lc (own := [("_law_k", 7)]) (by rfl) nd (pi_range1 (by rfl) T.f_range (pa_cons (p_call G_law_take hr (pa_cons (pv 0) (pa_cons pe_int pa_nil))) pa_nil)) (blkOk_by (N := ["_law_source_here", "_law_rows_here", "_law_letters", "_law_found", "_law_every", "_law_letter", "_law_sign_here", "_law_k"]) (sc := defScope s_law_land) (own := [("_law_k", 7)]) (by decide +kernel)) (fun _ _ _ _ _ => (pg_name (i := 7) nd rfl (Or.inl rfl))) (fun _ _ _ _ _ => pts_nil) (fun _ _ _ _ _ => (p_call G_law_one hr (pa_cons (pv 0) (pa_cons (pv 4) pa_nil))))) pa_nil)) pa_nil)) rfl)
      (pss_one (ps_ret (pv 3)))))))), ?_⟩
  refine q_asg e (P := D K (.list ((lettersM rows).map dC))) ?hlet fun v3 F3 H3 g3 h3 => ?_
  case hlet =>
    refine (e_sortTx (K := K) (P := P) (w := w) (ts := ((TL.joinL [] rows).filter fun c => decide (c ∈ LETTERS)).map fun c => (⟨#[c]⟩ : Str)) (e_setTx ?_ ?_) fun ks h1 h2 => ?_).imp fun u F1 _ ⟨ys, hd, h1, h2, h3⟩ => ?_
    · refine (e_lcN (TL.joinL [] rows) dC (fun c => decide (c ∈ LETTERS)) dC (i_str (z := S (TL.joinL [] rows)) ?_) (by omega) (fun c hc u F1 e1 h1 => t_test ((e_inSign (e_var rfl h1) e_c).eq (by rw [letters_tl]))) (fun c hc _ u F1 e1 h1 => e_var rfl h1)).eq (by rw [List.map_map]; rfl)
      refine (e_join (z := "") (xs := rows.map S) e_c ((e_var rfl h2 : EP _ _ F (D K (.list (dL rows)))).eq (by rw [List.map_map]; rfl)) ?_).eq ?_
      · have hsum : ∀ rs : List Tx, (∀ r ∈ rs, r.length ≤ 6) → ((rs.map S).map (·.length)).sum ≤ rs.length * 6 := by
          intro rs
          induction rs with
          | nil => intro _; exact Nat.zero_le _
          | cons r rs ih =>
            intro h
            have h1 := h r (by simp)
            have h2 := ih fun x hx => h x (List.mem_cons_of_mem _ hx)
            rw [List.map_cons, List.map_cons, List.sum_cons, len_S, List.length_cons, Nat.succ_mul]
            omega
        have := hsum rows wr
        have e0 : ("" : Str).length = 0 := rfl
        rw [List.length_map, e0]
        omega
      · have := SX.join_S [] rows
        exact congrArg PyData.str this
    · rw [List.length_map]
      have := List.length_filter_le (fun c => decide (c ∈ LETTERS)) (TL.joinL [] rows)
      omega
    · have h5 : ks.length ≤ (LETTERS.map fun c => (⟨#[c]⟩ : Str)).length := OH.nodup_len _ _ h2 fun k hk => by
        obtain ⟨c, hc, rfl⟩ := List.mem_map.mp ((h1 k).mp hk)
        exact List.mem_map.mpr ⟨c, of_decide_eq_true (List.mem_filter.mp hc).2, rfl⟩
      exact Nat.lt_of_le_of_lt h5 (by decide)
    · rw [letters_of h1 h2 h3] at hd
      have hd : D K (.list (((lettersM rows).map fun c => (⟨#[c]⟩ : Str)).map .str)) u F1 := hd
      rw [List.map_map] at hd
      exact hd
  have g03 := g3
  have h23 := dpx g03.ff _ _ h2
  intro p hp
  have hp0 : H p = none := by
    cases z : H p with
    | none => rfl
    | some o => rw [g3.hh _ _ z] at hp; cases hp
  have gp : Gr F H F3 (upd H3 p (.dK [])) := g3.trans (Gr.own g3.fh hp)
  have fp : F3 p = none := ex_none g3.fh hp
  refine ⟨_, rfl, ?_⟩
  have hsp := spots_len r6 wr
  have hopen : 0 < (spotsM rows (".abcd" : Str).cps.toList).length := by
    obtain ⟨q, hq⟩ := List.exists_mem_of_ne_nil _ ho
    exact List.length_pos_of_mem ((opens R).mpr hq)
  show tPairs [(_, _)] _ _ _
  unfold tPairs
  refine tC_go ?_
  refine EP.go (P := TupP K [OneOf K ((spotsM rows (".abcd" : Str).cps.toList).map dP), SomeD K dT fun t => t ∈ TURNS]) (F := F3) ?hst gp.fh fun u F4 H4 g4 hu => ?_
  case hst => exact (e_tupPs (ea_cons (e_one (false, (spotsM rows (".abcd" : Str).cps.toList).map dP) (e_var rfl (ms g3.ff)) (e_seqL (e_spots rows (".abcd" : Str).cps.toList (e_var rfl h23) e_c ⟨r6, wr⟩)) ⟨by rw [List.length_map]; exact hopen, by rw [List.length_map]; have := hsp (".abcd" : Str).cps.toList; omega⟩) (ea_cons (e_sense (e_var rfl (ms g3.ff))) ea_nil)))
  obtain ⟨ua, us, rfl, hu1, hu2⟩ := hu
  obtain ⟨u1, u2, rfl, hu3, t, ht1, ht2⟩ := all2 hu2
  obtain ⟨b, hb1, hb2⟩ := one_place hu3
  have hst : D K (.tuple [dP b, dT t]) (.ref ua) F4 := Dp.tup hu1 (.cons hb1 (.cons ht1 .nil))
  refine ⟨g4.hh _ _ upd_same, [(.inr "rows", v2), (.inr "start", .ref ua)], rfl, (show 2 ≤ 15 by decide), ?_⟩
  have hmg : mergeK [] [((.inr "rows" : Key), v2), (.inr "start", V.ref ua)] = [(.inr "rows", v2), (.inr "start", .ref ua)] := merge_new _ [] (show ([.inr "rows", .inr "start"] : List Key).Nodup by decide +kernel)
  rw [hmg]
  have o5 : DkO F H F4 (upd H4 p (.dK [(.inr "rows", v2), (.inr "start", .ref ua)])) p [(.inr "rows", v2), (.inr "start", .ref ua)] := ⟨(gp.trans g4).mut hp0 (g4.nw _ _ upd_same fp), hp0, g4.nw _ _ upd_same fp, upd_same⟩
  refine gName_go ?_
  refine nx_go ?_
  have h35 := dpx g4.ff _ _ h3
  refine q_dput (K := K) (P := fun v F => ∃ b : Bk, IsBk b v F ∧ b.map Prod.fst = lettersM rows ∧ ∀ x ∈ b, x.2 ∈ TURNS) o5 rfl rfl ?hbk fun v5 F5 H5 o6 e5 hb5 => ?_
  case hbk =>
    refine e_cbX (e_lcZ (lettersM rows) dC dPr (fun c x => x.1 = c ∧ x.2 ∈ TURNS) (i_list (e_var rfl h35)) (by have := lettersM_lt rows; omega) fun c hc v F1 e1 h1 => ?_) fun v F2 e2 ⟨l, hd, hl⟩ => ?_
    · refine (e_tupPs (K := K) (Ps := [D K (dC c), SomeD K dT fun t => t ∈ TURNS]) (ea_cons (e_var rfl h1) (ea_cons (e_sense (e_var rfl (ms ((g3.ff.trans g4.ff).trans e1)))) ea_nil))).imp fun v F2 _ ⟨a, xs, e3, h4, h5⟩ => ?_
      obtain ⟨x1, x2, rfl, h6, t', h7, h8⟩ := all2 h5
      subst e3
      exact ⟨(c, t'), Dp.tup h4 (.cons h6 (.cons h7 .nil)), rfl, h8⟩
    · have pf : ∀ {xs : List Nat} {l : List (Nat × Tx)}, Paired (fun c x => x.1 = c ∧ x.2 ∈ TURNS) xs l → l.map Prod.fst = xs ∧ ∀ x ∈ l, x.2 ∈ TURNS := by
        intro xs l h
        induction h with
        | nil => exact ⟨rfl, fun _ h => by cases h⟩
        | cons h t ih =>
          refine ⟨by rw [List.map_cons, ih.1, h.1], fun x hx => ?_⟩
          rcases List.mem_cons.mp hx with rfl | hx
          · exact h.2
          · exact ih.2 x hx
      obtain ⟨p1, p2⟩ := pf hl
      exact (e_dictP (b := l) (e_cv hd) (by rw [p1]; exact lettersM_nd rows)).imp fun v F3 _ h => ⟨l, h, p1, p2⟩
  obtain ⟨bk, hbk, hb6, hb7⟩ := hb5
  rw [putK_new _ (by rfl)] at o6
  refine q_asg o6.g.fh (P := D K (.list ((spotsM rows ("#.~xabcd" : Str).cps.toList).map dP))) (e_spots rows ("#.~xabcd" : Str).cps.toList (e_var rfl (dpx (g4.ff.trans e5) _ _ h23)) e_c ⟨r6, wr⟩) fun v6 F6 H6 g6 h6 => ?_
  have o7 := o6.gr g6
  have e36 : Ex F3 F6 := (g4.ff.trans e5).trans g6.ff
  have hall : 0 < (spotsM rows ("#.~xabcd" : Str).cps.toList).length := by
    refine List.length_pos_of_mem (a := ((0 : Int), (0 : Int))) ((allplaces R).mpr (inF_iff.mpr ⟨⟨Int.le_refl _, ?_⟩, Int.le_refl _, ?_⟩))
    · have := R.h1; show (0 : Int) ≤ rows.length - 1; omega
    · have := R.w1; show (0 : Int) ≤ wid rows - 1; omega
  refine q_dput (K := K) (P := SomeD K (fun l : List Pl => .list (l.map dP)) fun l => (∀ p ∈ l, p ∈ spotsM rows ("#.~xabcd" : Str).cps.toList) ∧ l.Nodup ∧ l.length ≤ 63) o7 rfl rfl ?hws fun v7 F7 H7 o8 e7 hw7 => ?_
  case hws =>
    refine e_wishes (P := P) (w := w) (m := fun _ => True) (EP.imp (e_lcY (K := K) (Hb := H0p) (Py := SomeD K dP fun p => p ∈ spotsM rows ("#.~xabcd" : Str).cps.toList) (is_range1 (m := 3) (ea_cons (e_take (K := K) (3 : Int) (e_var rfl (ms (g3.ff.trans e36))) e_c ⟨by decide, by decide⟩) ea_nil) (by decide)) (fun n h => by omega) fun v F1 e1 => EP.n (EP.imp (e_one (false, (spotsM rows ("#.~xabcd" : Str).cps.toList).map dP) (e_var rfl (ms ((g3.ff.trans e36).trans e1))) (e_seqL (e_var rfl (dpx e1 _ _ h6))) ⟨by rw [List.length_map]; exact hall, by rw [List.length_map]; have := hsp ("#.~xabcd" : Str).cps.toList; omega⟩) fun v F1 _ h => one_place h)).p fun v F1 _ ⟨n, hn, h⟩ => ?_) fun q hq => in_R R ((allplaces R).mp hq)
    · obtain ⟨l, h1, h2, h3⟩ := lst_some h
      exact ⟨l, h1, ⟨trivial, by omega⟩, h3⟩
  obtain ⟨ws, hws, hw1, hw2, hw3⟩ := hw7
  rw [putK_new _ (by rfl)] at o8
  refine ⟨.ref p, rfl, k ⟨rows, b, t, bk, ws⟩ p v2 (.ref ua) v5 v7 F7 H7 o8.g hp0 o8.fp o8.hp ⟨dpx (e36.trans e7) _ _ h23, dpx ((e5.trans g6.ff).trans e7) _ _ hst, (inferInstance : Mn (IsBk bk)).mn (g6.ff.trans e7) hbk, hws⟩ rfl ⟨R, (opens R).mp hb2, ht2, fun bb hbb => ?_, ⟨fun q hq => (allplaces R).mp (hw1 q hq), hw2, Nat.lt_succ_of_le hw3⟩⟩⟩
  cases hbb
  exact ⟨hb6, hb7⟩
end
end OL
-- OhMk
set_option maxHeartbeats 1000000
/-! Instances made, defs with keywords. -/
namespace OL
open PySem PySem.Spec PyProof.Rows L2
open SX (S)
open Evl (Ex)
open OH
/-- sep.join(list or tuple of texts) -/
def rJoinV (K : PySem.W.Frag) : V → List V → Hp → VK → Prop := fun x ys H Q => ∃ a p, ∃ zs : List Str, x = V.str a ∧ ys = [V.ref p] ∧ (SqL K H p (zs.map V.str) ∨ SqT K H p (zs.map V.str)) ∧ (zs.map (·.length)).sum + zs.length * a.length ≤ 16777216 ∧ Q (.str (Txt.join a zs)) H
structure Mak (P : Program) (w : World) (K : PySem.W.Frag) (mg : Str → Option Value) (base : Heap) (k : Nat) (x : Str) (C : Addr) (ps : List Str) (sp : Sp) : Prop where
  ex : ∃ (f : Addr) (fd : FuncData), Mk K C f ∧ FnOk P w K mg base CX0 k f fd ps sp ∧ mg x = some (.ref C) ∧ Binds K fd ps []
/-- .. with keywords ks: n positional values; gV sets them -/
structure MakN (P : Program) (w : World) (K : PySem.W.Frag) (mg : Str → Option Value) (base : Heap) (k n : Nat) (x : Str) (C : Addr) (ps ks : List Str) (gV : List V → List V → List V) (sp : Sp) : Prop where
  ex : ∃ (f : Addr) (fd : FuncData), Mk K C f ∧ FnOk P w K mg base CX0 k f fd ps sp ∧ mg x = some (.ref C) ∧ ∃ g, KBn K fd ps (n + 1) ks g gV
/-- a def whose keyword-only parameters may lack -/
structure CalD (P : Program) (w : World) (K : PySem.W.Frag) (mg : Str → Option Value) (base : Heap) (k : Nat) (x : Str) (ps : List Str) (dvs : List V) (sp : Sp) : Prop where
  ex : ∃ (f : Addr) (fd : FuncData), FnOk P w K mg base CX0 k f fd ps sp ∧ mg x = some (.ref f) ∧ PySem.W.keepIn K (.ref f) = true ∧ ∃ ds, Vals dvs ds ∧ Binds K fd ps ds
structure CalN (P : Program) (w : World) (K : PySem.W.Frag) (mg : Str → Option Value) (base : Heap) (k n : Nat) (x : Str) (ps ks : List Str) (gV : List V → List V → List V) (sp : Sp) : Prop where
  ex : ∃ (f : Addr) (fd : FuncData), FnOk P w K mg base CX0 k f fd ps sp ∧ mg x = some (.ref f) ∧ PySem.W.keepIn K (.ref f) = true ∧ ∃ g, KBn K fd ps n ks g gV
section
variable {X : Cx} {k j n : Nat} {C : Addr} {x : Str} {ps ks : List Str} {dvs : List V} {sp : Sp} {p pos : Pos} {e : Expr} {es : List Expr} {kws : List Keyword} {t tk : TA} {gV : List V → List V → List V}
theorem p_make (c : Mak X.prog X.w X.K X.mg X.base k x C ps sp) (hr : Room j X.A) (ha : PA X (e :: es) t) (hk : k + 1 ≤ j := by decide) (hg : Gl X x := by rfl)
    (hdb : (x == ("__debug__" : Str)) = false := by decide) (he : starEach (e :: es) X.env = (false, eval e X.env) :: starEach es X.env := by rfl) (hpl : (backTo pos (starEach es X.env)).any (·.1) = false := by rfl) :
    PE X (.Call (.Name x p) (e :: es) [] pos) (tMake C sp [] E0 t) := by
  obtain ⟨f, fd, M, F, hm, b⟩ := c.ex
  exact pe_make M F (hr.mono hk) hg hm b .nil pass0 ha hdb he hpl
theorem p_makeN (c : MakN X.prog X.w X.K X.mg X.base k n x C ps ks gV sp) (hr : Room j X.A) (ha : PA X (e :: es) t) (hkw : PK X kws tk) (hk : k + 1 ≤ j := by decide) (hg : Gl X x := by rfl)
    (hall : (backToKw pos (keywordEach kws X.env)).all (·.1.isSome) = true := by rfl) (hks : (backToKw pos (keywordEach kws X.env)).filterMap (·.1) = ks := by rfl) (hdb : (x == ("__debug__" : Str)) = false := by decide)
    (he : starEach (e :: es) X.env = (false, eval e X.env) :: starEach es X.env := by rfl) (hpl : ((backTo pos (starEach (e :: es) X.env)).any (·.1) || (backToKw pos (keywordEach kws X.env)).any (·.1.isNone)) = false := by rfl) :
    PE X (.Call (.Name x p) (e :: es) kws pos) (tMakeK C n ks.length sp gV E0 t tk) := by
  obtain ⟨f, fd, M, F, hm, g, b⟩ := c.ex
  exact pe_makeK M F (hr.mono hk) hg hm b pass0 ha hkw hall hks hdb he hpl
theorem p_callD (c : CalD X.prog X.w X.K X.mg X.base k x ps dvs sp) (hr : Room j X.A) (ha : PA X (e :: es) t) (hk : k ≤ j := by decide) (hg : Gl X x := by rfl)
    (hdb : (x == ("__debug__" : Str)) = false := by decide) (he : starEach (e :: es) X.env = (false, eval e X.env) :: starEach es X.env := by rfl) (hpl : (backTo pos (starEach es X.env)).any (·.1) = false := by rfl) :
    PE X (.Call (.Name x p) (e :: es) [] pos) (tCall sp dvs E0 t) := by
  obtain ⟨f, fd, F, hm, kp, ds, v, b⟩ := c.ex
  exact pe_call F (hr.mono hk) hg hm kp b v pass0 ha hdb he hpl
theorem p_callN (c : CalN X.prog X.w X.K X.mg X.base k n x ps ks gV sp) (hr : Room j X.A) (ha : PA X (e :: es) t) (hkw : PK X kws tk) (hk : k ≤ j := by decide) (hg : Gl X x := by rfl)
    (hall : (backToKw pos (keywordEach kws X.env)).all (·.1.isSome) = true := by rfl) (hks : (backToKw pos (keywordEach kws X.env)).filterMap (·.1) = ks := by rfl) (hdb : (x == ("__debug__" : Str)) = false := by decide)
    (he : starEach (e :: es) X.env = (false, eval e X.env) :: starEach es X.env := by rfl) (hpl : ((backTo pos (starEach (e :: es) X.env)).any (·.1) || (backToKw pos (keywordEach kws X.env)).any (·.1.isNone)) = false := by rfl) :
    PE X (.Call (.Name x p) (e :: es) kws pos) (tCallN n ks.length sp gV E0 t tk) := by
  obtain ⟨f, fd, F, hm, kp, g, b⟩ := c.ex
  exact pe_callN F (hr.mono hk) hg hm kp b pass0 ha hkw hall hks hdb he hpl
end
/-- World(.., turn, book, wishes), (.., turn, wishes), (.., wishes) -/
def g3 : {α : Type} → List α → List α → List α → List α := fun us _ ws => us ++ ws
def g2 : {α : Type} → List α → List α → List α → List α := fun us mv ws => us ++ (match ws, mv with | [t, w], [b] => [t, b, w] | _, _ => [])
def g1 : {α : Type} → List α → List α → List α → List α := fun us mv ws => us ++ (match ws, mv with | [w], [t, b] => [t, b, w] | _, _ => [])
def gV3 : List V → List V → List V := fun vs zs => g3 vs [] zs
def gV2 : List V → List V → List V := fun vs zs => g2 vs [.non] zs
def gV1 : List V → List V → List V := fun vs zs => g1 vs [.str "urdl", .non] zs
def gVs : List V → List V → List V := fun vs zs => vs ++ zs
abbrev WPS : List Str := ["self", "floor", "begin", "turn", "book", "wishes"]
section
variable {K : PySem.W.Frag} {σ : L2.St} {F : Hp} {ta tb tc td te : TE} {E : XK}
theorem e_floor {rows : List Tx} (h : EP ta σ F (D K (.list (dL rows)))) (R : Rows rows) : EP (tMake (cF K) (sp_Floor_init K) [] E (tCons ta tNil)) σ F (IsFl K rows) := e_make rows (ea_cons h ea_nil) R
theorem e_hand {x : WdIn} (h : EP ta σ F (LstP K [IsWd K x])) : EP (tMake (cH K) (sp_Hand_init K) [] E (tCons ta tNil)) σ F (IsHd K x) := e_make x (ea_cons h ea_nil) trivial
theorem e_world3 (x : WdIn) (W : WdOk x) (h1 : EP ta σ F (IsFl K x.rows)) (h2 : EP tb σ F (D K (dP x.begin))) (h3 : EP tc σ F (D K (dT x.turn))) (h4 : EP td σ F (dBk x.book)) (h5 : EP te σ F (D K (.list (x.ws.map dP)))) :
    EP (tMakeK (cW K) 2 3 (sp_World_init K) gV3 E (tCons ta (tCons tb tNil)) (tCons tc (tCons td (tCons te tNil)))) σ F (IsWd K x) := e_makeK (As := [IsFl K x.rows, D K (dP x.begin)]) (Bs := [D K (dT x.turn), dBk x.book, D K (.list (x.ws.map dP))]) x (ea_cons h1 (ea_cons h2 ea_nil)) (ea_cons h3 (ea_cons h4 (ea_cons h5 ea_nil))) rfl rfl (fun y vs zs F1 e hA hB => by
      obtain ⟨a, b, rfl, q1, q2⟩ := all2 hA
      obtain ⟨c, d, e, rfl, q3, q4, q5⟩ := all3 hB
      exact ⟨[a, b, c, d, e], rfl, q1, q2, q3, q4, q5, trivial⟩) W
theorem e_world2 (x : WdIn) (W : WdOk x) (hb : x.book = none) (h1 : EP ta σ F (IsFl K x.rows)) (h2 : EP tb σ F (D K (dP x.begin))) (h3 : EP tc σ F (D K (dT x.turn))) (h5 : EP te σ F (D K (.list (x.ws.map dP)))) :
    EP (tMakeK (cW K) 2 2 (sp_World_init K) gV2 E (tCons ta (tCons tb tNil)) (tCons tc (tCons te tNil))) σ F (IsWd K x) := e_makeK (As := [IsFl K x.rows, D K (dP x.begin)]) (Bs := [D K (dT x.turn), D K (.list (x.ws.map dP))]) x (ea_cons h1 (ea_cons h2 ea_nil)) (ea_cons h3 (ea_cons h5 ea_nil)) rfl rfl (fun y vs zs F1 e hA hB => by
      obtain ⟨a, b, rfl, q1, q2⟩ := all2 hA
      obtain ⟨c, e, rfl, q3, q5⟩ := all2 hB
      exact ⟨[a, b, c, .non, e], rfl, q1, q2, q3, by rw [hb]; rfl, q5, trivial⟩) W
theorem e_world1 (x : WdIn) (W : WdOk x) (hb : x.book = none) (ht : x.turn = DEEDS) (h1 : EP ta σ F (IsFl K x.rows)) (h2 : EP tb σ F (D K (dP x.begin))) (h5 : EP te σ F (D K (.list (x.ws.map dP)))) :
    EP (tMakeK (cW K) 2 1 (sp_World_init K) gV1 E (tCons ta (tCons tb tNil)) (tCons te tNil)) σ F (IsWd K x) := e_makeK (As := [IsFl K x.rows, D K (dP x.begin)]) (Bs := [D K (.list (x.ws.map dP))]) x (ea_cons h1 (ea_cons h2 ea_nil)) (ea_cons h5 ea_nil) rfl rfl (fun y vs zs F1 e hA hB => by
      obtain ⟨a, b, rfl, q1, q2⟩ := all2 hA
      obtain ⟨e, rfl, q5⟩ := all1 hB
      exact ⟨[a, b, .str "urdl", .non, e], rfl, q1, q2, by rw [ht]; exact Dp.str _, by rw [hb]; rfl, q5, trivial⟩) W
/-- first_row(hand, kind) and first_row(hand, kind, safe=True) -/
theorem e_row0 {x : WdIn} (W : WdOk x) (h1 : EP ta σ F (IsHd K x)) (h2 : EP tb σ F (D K (.str "at"))) : EP (tCall (sp_first_row K) [.bl false] E (tCons ta (tCons tb tNil))) σ F (ResFR K x false) := fun F1 H1 e b Q q =>
  h1 F1 H1 e b _ fun v F2 H2 g2 hv => h2 F2 H2 (e.trans g2.ff) g2.fh _ fun u F3 H3 g3 hu =>
    ⟨(x, false), F3, g3.fh, ⟨(inferInstance : Mn (IsHd K x)).mn g3.ff hv, hu, Dp.bl false, trivial⟩, W, fun v F4 H4 g4 hr => q v F4 H4 ((g2.trans g3).trans g4) hr⟩
theorem e_row1 {x : WdIn} (W : WdOk x) (h1 : EP ta σ F (IsHd K x)) (h2 : EP tb σ F (D K (.str "at"))) (h3 : EP tc σ F (D K (.bool true))) : EP (tCallN 2 1 (sp_first_row K) gVs E (tCons ta (tCons tb tNil)) (tCons tc tNil)) σ F (ResFR K x true) :=
  fun F1 H1 e b Q q => h1 F1 H1 e b _ fun v F2 H2 g2 hv => h2 F2 H2 (e.trans g2.ff) g2.fh _ fun u F3 H3 g3 hu => h3 F3 H3 ((e.trans g2.ff).trans g3.ff) g3.fh _ fun z F4 H4 g4 hz =>
    ⟨rfl, rfl, (x, true), F4, g4.fh, ⟨(inferInstance : Mn (IsHd K x)).mn (g3.ff.trans g4.ff) hv, dpx g4.ff _ _ hu, hz, trivial⟩, W, fun v F5 H5 g5 hr => q v F5 H5 (((g2.trans g3).trans g4).trans g5) hr⟩
end
end OL
-- OhW13
set_option maxHeartbeats 1000000
/-! The walk, part 13: a land's world; a land of plates. -/
namespace OL
open PySem PySem.Spec PyProof.Rows L2
open SX (S)
open Evl (Ex)
open OH
section
variable {P : Program} {w : World} {K : PySem.W.Frag} {mg : Str → Option Value} {base : Heap}
section
variable {σ : L2.St} {F : Hp} {ta : TE} {L : LandM}
theorem e_lrows (h : EP ta σ F (IsLand K L)) : EP (tDGet ta (tC (.str "rows"))) σ F (D K (.list (dL L.rows))) := e_dget (K := K) h e_c fun kvs F1 _ ⟨r, st, bk, ws, e, f⟩ => ⟨r, by rw [e]; rfl, f.r⟩
theorem e_lstart (h : EP ta σ F (IsLand K L)) : EP (tDGet ta (tC (.str "start"))) σ F (D K (.tuple [dP L.begin, dT L.turn])) := e_dget (K := K) h e_c fun kvs F1 _ ⟨r, st, bk, ws, e, f⟩ => ⟨st, by rw [e]; rfl, f.st⟩
theorem e_lbook (h : EP ta σ F (IsLand K L)) : EP (tDGet ta (tC (.str "book"))) σ F (IsBk L.book) := e_dget (K := K) h e_c fun kvs F1 _ ⟨r, st, bk, ws, e, f⟩ => ⟨bk, by rw [e]; rfl, f.bk⟩
theorem e_lwished (h : EP ta σ F (IsLand K L)) : EP (tDGet ta (tC (.str "wished"))) σ F (D K (.list (L.ws.map dP))) := e_dget (K := K) h e_c fun kvs F1 _ ⟨r, st, bk, ws, e, f⟩ => ⟨ws, by rw [e]; rfl, f.ws⟩
theorem e_dictD {b : Bk} (h : EP ta σ F (IsBk b)) : EP (tCB (fun xs H Q => ∃ (a : Addr) (kvs : List (Key × V)), xs = [V.ref a] ∧ Rd H a (.dK kvs) ∧ ∀ p, H p = none → Q (.ref p) (upd H p (.dK kvs))) (tCons ta tNil)) σ F (IsBk b) := fun F1 H1 e c Q q =>
  h F1 H1 e c _ fun v F2 H2 g hv => by
    obtain ⟨a, kvs, rfl, h1, h2⟩ := hv
    exact ⟨a, kvs, rfl, .inl (g.fh _ _ h1), fun p hp => q _ _ _ (g.trans (Gr.new g.fh hp)) ⟨p, kvs, rfl, upd_same, h2⟩⟩
end
def sp_law_made (K : PySem.W.Frag) : Sp := Pr (fun L : LandM => [IsLand K L]) (fun L => WdOk L.wd) (fun L => IsWd K L.wd)
theorem sc_law_made : FnScope ["_law_land_here", "_law_spot", "_law_sense_here", "_law_floor"] ["_law_land_here"] (defScope s_law_made) := ⟨rfl, rfl, rfl, by decide +kernel, rfl, by decide +kernel, by decide +kernel⟩
set_option maxHeartbeats 2000000 in
theorem bd_law_made (T : Tt K mg)  (MK_Floor : Mak P w K mg base 3 "Floor" (cF K) ["self", "rows"] (sp_Floor_init K)) (MW3 : MakN P w K mg base 8 2 "World" (cW K) WPS ["turn", "book", "wishes"] gV3 (sp_World_init K)) : BodyOk P w K mg base 9 "_law_made" s_law_made ["_law_land_here", "_law_spot", "_law_sense_here", "_law_floor"] (sp_law_made K) := by
  intro f cdv A outer s H vs Q E hr h
  have nd := sc_law_made.nd
  have hu := hu_of hr
  have hu64 := hr.units
  have hu65 : (A.deeper (envOfC "_law_made" (defScope s_law_made) s.heap.objs.size f cdv)).units + 65 < cLine := by have := hr.un; omega
  obtain ⟨L, F, e, hA, W, k⟩ := h
  obtain ⟨v, rfl, hv⟩ := all1 hA
  have ml : ∀ {F1 : Hp}, Ex F F1 → IsLand K L v F1 := fun e1 => (inferInstance : Mn (IsLand K L)).mn e1 hv
  refine ⟨_, (pss_cons (ps_asg (pe_dget hu (pv 0) pe_str (fun _ _ => rfl)) (pg_tup (by rfl) (pgs_cons (pg_name (i := 1) nd rfl (Or.inl rfl)) (pgs_cons (pg_name (i := 2) nd rfl (Or.inl rfl)) pgs_nil))))
      (pss_cons (ps_set (i := 3) nd rfl (Or.inl rfl) (p_make MK_Floor hr (pa_cons (pe_callTy (T := "list") call_list_of (by rfl) T.f_list (by decide +kernel) (pa_cons (pe_dget hu (pv 0) pe_str (fun _ _ => rfl)) pa_nil)) pa_nil)))
      (pss_one (ps_ret (p_makeN MW3 hr (pa_cons (pv 3) (pa_cons (pv 1) pa_nil)) (pk_cons (pv 2) (pk_cons (pe_callTy (T := "dict") call_dictD (by rfl) T.f_dict (by decide +kernel) (pa_cons (pe_dget hu (pv 0) pe_str (fun _ _ => rfl)) pa_nil)) (pk_cons (pe_callTy (T := "list") call_list_of (by rfl) T.f_list (by decide +kernel) (pa_cons (pe_dget hu (pv 0) pe_str (fun _ _ => rfl)) pa_nil)) pk_nil)))))))), ?_⟩
  refine q_unp (d1 := dP L.begin) (d2 := dT L.turn) e (e_lstart (e_var rfl hv)) fun v2 v3 F2 H2 g2 h2 h3 => ?_
  refine q_asg g2.fh (P := IsFl K L.rows) (e_floor (e_listL (e_lrows (e_var rfl (ml g2.ff)))) W.R) fun v4 F4 H4 g4 h4 => ?_
  have g24 := g2.trans g4
  exact s_ret g4.fh (P := IsWd K L.wd) (e_world3 L.wd W (e_var rfl h4) (e_var rfl (dpx g4.ff _ _ h2)) (e_var rfl (dpx g4.ff _ _ h3)) (e_dictD (e_lbook (e_var rfl (ml g24.ff)))) (e_listL (e_lwished (e_var rfl (ml g24.ff))))) fun v F5 H5 g5 hv => k v F5 H5 (g24.trans g5) hv
/-- a sign of cs -/
def CodeV (cs : Tx) : Ds := fun v _ => ∃ c ∈ cs, v = .str ⟨#[c]⟩
instance {cs : Tx} : Mn (CodeV cs) := ⟨fun _ h => h⟩
def PLATES : List Tx := [[46, 46, 97, 98, 35], [46, 46, 46, 97, 126], [97, 46, 98, 126, 35], [46, 46, 46, 46, 120, 46, 97], [46, 97, 98], [46, 46, 126, 126, 97, 98, 35]]
theorem plates_ok : ∀ cs ∈ PLATES, 0 < cs.length ∧ cs.length < 10 ∧ ∀ c ∈ cs, c ∈ SIGNS := by decide
theorem one_code {cs : Tx} {v : V} {F : Hp} (h : OneOf K (signs (S cs)) v F) : CodeV cs v F := by
  obtain ⟨d, hd, hv⟩ := h
  rw [signs_S] at hd
  obtain ⟨c, hc, rfl⟩ := List.mem_map.mp hd
  exact ⟨c, hc, dStr hv⟩
/-- rows of cells -/
def dCells (r : Tx) : PyData := .list (r.map dC)
theorem codesL {cs : Tx} {F : Hp} : ∀ {acc : List V}, (∀ y ∈ acc, CodeV cs y F) → ∃ r : Tx, DpAll K F acc (r.map dC) ∧ r.length = acc.length ∧ ∀ c ∈ r, c ∈ cs
  | [], _ => ⟨[], .nil, rfl, fun _ h => by cases h⟩
  | y :: acc, h => by
    obtain ⟨c, hc, rfl⟩ := h y (by simp)
    obtain ⟨r, h1, h2, h3⟩ := codesL fun z hz => h z (List.mem_cons_of_mem _ hz)
    refine ⟨c :: r, .cons (.str _) h1, by simp [h2], fun a ha => ?_⟩
    rcases List.mem_cons.mp ha with rfl | ha
    · exact hc
    · exact h3 a ha
theorem q_asgN {σ : L2.St} {F H : Hp} {te : TE} {P : Ds} {tz : TS} {Dn : Ends} {i : Nat} (e : Ex F H) (h : EPN H te σ F P) (k : ∀ v F1 H1, Gr F H F1 H1 → P v F1 → tz Dn (σ.set i (some v)) H1) : tSeq (tAsg te (gName i)) tz Dn σ H := h F H (Ex.refl F) e (Ex.refl H) _ fun v F1 H1 g hv => k v F1 H1 g hv
theorem q_callA {σ : L2.St} {F H : Hp} {t : TA} {sp : Sp} {E : XK} {Ps : List Ds} {tz : TS} {Dn : Ends} {i : Nat} (e : Ex F H) (h : EA t σ F Ps) (k : ∀ vs F1 H1, Gr F H F1 H1 → AllP Ps vs F1 → sp vs H1 (fun v H2 => tz Dn (σ.set i (some v)) H2) E) : tSeq (tAsg (tCall sp [] E t) (gName i)) tz Dn σ H :=
  h F H (Ex.refl F) e _ fun vs F1 H1 g hs => by
    rw [List.append_nil]
    exact k vs F1 H1 g hs
theorem q_asgR {σ : L2.St} {H : Hp} {te : TE} {tz : TS} {Dn : Ends} {i : Nat} (h : te σ H fun v H1 => tz Dn (σ.set i (some v)) H1) : tSeq (tAsg te (gName i)) tz Dn σ H := h
theorem dset {F : Hp} {d : PyData} {x : V} (hx : D K d x F) : ∀ {xs : List V} {ds : List PyData} (j : Nat), DpAll K F xs ds → DpAll K F (xs.set j x) (ds.set j d)
  | _, _, _, .nil => .nil
  | _, _, 0, .cons h t => .cons hx t
  | _, _, j + 1, .cons h t => .cons h (dset hx j t)
theorem pick {α β : Type} {p : α → β → Prop} : ∀ {xs : List α}, (∀ x ∈ xs, ∃ y, p x y) → ∃ ys, Paired p xs ys
  | [], _ => ⟨[], .nil⟩
  | x :: xs, h => by
    obtain ⟨y, hy⟩ := h x (by simp)
    obtain ⟨ys, hp⟩ := pick fun z hz => h z (List.mem_cons_of_mem _ hz)
    exact ⟨y :: ys, .cons hy hp⟩
theorem paired_left {α β : Type} {p : α → β → Prop} {xs : List α} {ys : List β} (h : Paired p xs ys) : ∀ x ∈ xs, ∃ y ∈ ys, p x y := by
  induction h with
  | nil => intro x hx; cases hx
  | @cons a b as bs h t ih =>
    intro x hx
    rcases List.mem_cons.mp hx with rfl | hx
    · exact ⟨b, by simp, h⟩
    · obtain ⟨y, hy, hp⟩ := ih x hx
      exact ⟨y, List.mem_cons_of_mem _ hy, hp⟩
theorem paired_right {α β : Type} {p : α → β → Prop} {xs : List α} {ys : List β} (h : Paired p xs ys) : ∀ y ∈ ys, ∃ x ∈ xs, p x y := by
  induction h with
  | nil => intro x hx; cases hx
  | @cons a b as bs h t ih =>
    intro y hy
    rcases List.mem_cons.mp hy with rfl | hy
    · exact ⟨a, by simp, h⟩
    · obtain ⟨x, hx, hp⟩ := ih y hy
      exact ⟨x, List.mem_cons_of_mem _ hx, hp⟩
def ResPl (K : PySem.W.Frag) : Ds := fun v F => ∃ L, IsLand K L v F ∧ WdOk L.wd
def sp_law_plated (K : PySem.W.Frag) : Sp := Pr (fun _ : Unit => [IsSrc]) (fun _ => True) (fun _ => ResPl K)
theorem plates_all {rows : List Tx} (R : Rows rows) {p : Pl} : p ∈ spotsM rows ("#.~xab" : Str).cps.toList → inF rows p = true := by
  have e : ("#.~xab" : Str).cps.toList = [35, 46, 126, 120, 97, 98] := by decide +kernel
  rw [e, mem_spots R fun _ => trivial]
  exact fun h => h.1
theorem sc_law_plated : FnScope ["_law_source_here", "_law_tall", "_law_broad", "_law_signs", "_law_cells", "_law_found", "_law_every", "_law_j", "_law_k", "_law_line_here"] ["_law_source_here"] (defScope s_law_plated) := ⟨rfl, rfl, rfl, by decide +kernel, rfl, by decide +kernel, by decide +kernel⟩
set_option maxHeartbeats 2000000 in
theorem bd_law_plated (T : Tt K mg) (G_law_take : Cal P w K mg base 2 "_law_take" ["_law_source_here", "_law_size"] (sp_law_take K)) (G_law_one : Cal P w K mg base 3 "_law_one" ["_law_source_here", "_law_some"] (sp_law_one K)) (G_law_land : Cal P w K mg base 5 "_law_land" ["_law_source_here", "_law_rows_here"] (sp_law_land K)) (G_law_spots : Cal P w K mg base 1 "_law_spots" ["_law_rows_here", "_law_signs"] (sp_law_spots K)) : BodyOk P w K mg base 5 "_law_plated" s_law_plated ["_law_source_here", "_law_tall", "_law_broad", "_law_signs", "_law_cells", "_law_found", "_law_every", "_law_j", "_law_k", "_law_line_here"] (sp_law_plated K) := by
  intro f cdv A outer s H vs Q E hr h
  have nd := sc_law_plated.nd
  have hu := hu_of hr
  have hu64 := hr.units
  have hu65 : (A.deeper (envOfC "_law_plated" (defScope s_law_plated) s.heap.objs.size f cdv)).units + 65 < cLine := by have := hr.un; omega
  obtain ⟨_, F, e, hA, _, k⟩ := h
  obtain ⟨v, rfl, hv⟩ := all1 hA
  have ms : ∀ {F1 : Hp}, Ex F F1 → IsSrc v F1 := fun e1 => (inferInstance : Mn IsSrc).mn e1 hv
  refine ⟨_, (pss_cons (ps_asg (pe_tup (pa_cons (pe_op op_add pe_int (p_call G_law_take hr (pa_cons (pv 0) (pa_cons pe_int pa_nil)))) (pa_cons (pe_op op_add pe_int (p_call G_law_take hr (pa_cons (pv 0) (pa_cons pe_int pa_nil)))) pa_nil))) (pg_tup (by rfl) (pgs_cons (pg_name (i := 1) nd rfl (Or.inl rfl)) (pgs_cons (pg_name (i := 2) nd rfl (Or.inr rfl)) pgs_nil))))
      (pss_cons (ps_set (i := 3) nd rfl (Or.inr rfl) (p_call G_law_one hr (pa_cons (pv 0) (pa_cons (pe_lst (pa_cons pe_str (pa_cons pe_str (pa_cons pe_str (pa_cons pe_str (pa_cons pe_str (pa_cons pe_str pa_nil))))))) pa_nil))))
      (pss_cons (ps_setLc (i := 4) (own := [("_law_j", 7)]) (by rfl) nd rfl rfl (sw_true rfl rfl rfl (by decide +kernel)) (pi_range1 (by rfl) T.f_range (pa_cons (pv 1) pa_nil)) (blkOk_by (N := ["_law_source_here", "_law_tall", "_law_broad", "_law_signs", "_law_cells", "_law_found", "_law_every", "_law_j", "_law_k", "_law_line_here"]) (sc := defScope s_law_plated) (own := [("_law_j", 7)]) (by decide +kernel)) (fun _ _ _ _ _ => (pg_name (i := 7) nd rfl (Or.inl rfl))) (fun _ _ _ _ _ => pts_nil) (fun _ _ _ _ _ => (pe_lc (own := [("_law_k", 8)]) (by rfl) nd (pi_range1 (by rfl) T.f_range (pa_cons (pv 2) pa_nil)) (blkOk_by (N := ["_law_source_here", "_law_tall", "_law_broad", "_law_signs", "_law_cells", "_law_found", "_law_every", "_law_j", "_law_k", "_law_line_here"]) (sc := relS _ (defScope s_law_plated)) (own := [("_law_k", 8)]) (by decide +kernel)) (fun _ _ _ _ _ => (pg_name (i := 8) nd rfl (Or.inl rfl))) (fun _ _ _ _ _ => pts_nil) (fun _ _ _ _ _ => (p_call G_law_one hr (pa_cons (pv 0) (pa_cons (pv 3) pa_nil)))))))
      (pss_cons (ps_asg pe_str (pg_sub (pe_ix ix_list (pv 4) (p_call G_law_take hr (pa_cons (pv 0) (pa_cons (pv 1) pa_nil))) (fun _ _ => rfl)) (p_call G_law_take hr (pa_cons (pv 0) (pa_cons (pv 2) pa_nil))) set_list))
      (pss_cons (ps_set (i := 5) nd rfl (Or.inl rfl) (p_call G_law_land hr (pa_cons (pv 0) (pa_cons (pe_lc (own := [("_law_line_here", 9)]) (by rfl) nd (pi_list (pv 4)) (blkOk_by (N := ["_law_source_here", "_law_tall", "_law_broad", "_law_signs", "_law_cells", "_law_found", "_law_every", "_law_j", "_law_k", "_law_line_here"]) (sc := defScope s_law_plated) (own := [("_law_line_here", 9)]) (by decide +kernel)) (fun _ _ _ _ _ => (pg_name (i := 9) nd rfl (Or.inl rfl))) (fun _ _ _ _ _ => pts_nil) (fun _ _ _ _ _ => (show PE _ _ (tM1 (rJoinV K) _ _) from (pe_join pe_str (pv 9))))) pa_nil))))
      (pss_cons (ps_set (i := 6) nd rfl (Or.inr rfl) (p_call G_law_spots hr (pa_cons (pe_dget hu (pv 5) pe_str (fun _ _ => rfl)) (pa_cons pe_str pa_nil))))
      (pss_cons (ps_dput hu (pv 5) pe_str (pe_callB (id := "sorted") (cr_sortedT rfl) (by rfl) T.f_sorted (by decide +kernel) (pa_cons (pe_callTy (T := "set") (cr_setOfT rfl hu64) (by rfl) T.f_set (by decide +kernel) (pa_cons (pe_lc (own := [("_law_k", 8)]) (by rfl) nd (pi_range1 (by rfl) T.f_range (pa_cons (pe_op op_add pe_int (p_call G_law_take hr (pa_cons (pv 0) (pa_cons pe_int pa_nil)))) pa_nil)) (blkOk_by (N := ["_law_source_here", "_law_tall", "_law_broad", "_law_signs", "_law_cells", "_law_found", "_law_every", "_law_j", "_law_k", "_law_line_here"]) (sc := defScope s_law_plated) (own := [("_law_k", 8)]) (by decide +kernel)) (fun _ _ _ _ _ => (pg_name (i := 8) nd rfl (Or.inl rfl))) (fun _ _ _ _ _ => pts_nil) (fun _ _ _ _ _ => (p_call G_law_one hr (pa_cons (pv 0) (pa_cons (pv 6) pa_nil))))) pa_nil)) pa_nil)) rfl)
      (pss_one (ps_ret (pv 5)))))))))), ?_⟩
  refine EP.go (P := TupP K [SomeI fun n => 1 ≤ n ∧ n ≤ 5, SomeI fun n => 1 ≤ n ∧ n ≤ 5]) (F := F) ?h1 e fun u F1 H1 g1 hu => g_pair g1.fh hu fun u1 u2 hu1 hu2 => ?_
  case h1 =>
    have tk : ∀ {σ : L2.St} {E : XK}, σ[0]? = some (some v) → EP (tOp (rI0 fun i j => V.int (i + j)) (tC (.int 1)) (tCall (sp_law_take K) [] E (tCons (tVar 0) (tCons (tC (.int 5)) tNil)))) σ F (SomeI fun n => 1 ≤ n ∧ n ≤ 5) := fun hs => e_I0s (e_ci 1 (p := fun n => n = 1) rfl) (e_take (K := K) 5 (e_var hs hv) e_c ⟨by decide, by decide⟩) fun i j hi hj => ⟨_, rfl, by omega, by omega⟩
    exact e_tupPs (ea_cons (tk rfl) (ea_cons (tk rfl) ea_nil))
  obtain ⟨tall, rfl, ht1, ht5⟩ := hu1
  obtain ⟨broad, rfl, hb1, hb5⟩ := hu2
  obtain ⟨th, rfl⟩ : ∃ n : Nat, tall = n := ⟨tall.toNat, by omega⟩
  obtain ⟨bw, rfl⟩ : ∃ n : Nat, broad = n := ⟨broad.toNat, by omega⟩
  refine nx_go ?_
  refine q_asg g1.fh (P := OneOf K (PLATES.map dT)) ?h2 fun v3 F2 H2 g2 h3 => ?_
  case h2 => exact e_one (false, PLATES.map dT) (e_var rfl (ms g1.ff)) (e_seqL (e_lst (ds := PLATES.map dT) (ea_cons e_c (ea_cons e_c (ea_cons e_c (ea_cons e_c (ea_cons e_c (ea_cons e_c ea_nil)))))))) ⟨by decide, by decide⟩
  obtain ⟨d3, hd3, h3⟩ := h3
  obtain ⟨cs, hcs, rfl⟩ := List.mem_map.mp hd3
  obtain ⟨cs0, cs9, csS⟩ := plates_ok cs hcs
  have g12 := g1.trans g2
  have cells : EPN H2 (tLc (iRng1 (tCons (tVar 1) tNil)) (gName 7) tYes (tLc (iRng1 (tCons (tVar 2) tNil)) (gName 8) tYes (tCall (sp_law_one K) [] E0 (tCons (tVar 0) (tCons (tVar 3) tNil))) [8]) [7]) [some v, some (.int th), some (.int bw), some v3, none, none, none, none, none, none] F2 (fun v H => ∃ n, n = (rngD 0 th).length ∧ LstN H2 (fun v H => ∃ n, n = (rngD 0 bw).length ∧ LstN H2 (CodeV cs) n v H) n v H) := by
    have mm : Mn (fun v H => ∃ n, n = (rngD 0 bw).length ∧ LstN H2 (CodeV cs) n v H) := ⟨fun e ⟨n, h1, h2⟩ => ⟨n, h1, (inferInstance : Mn (LstN H2 (CodeV cs) n)).mn e h2⟩⟩
    refine e_lcY (K := K) (m := mm) (EI.s (i_range1 (n := th) (ea_cons (e_var (P := D K (.int th)) rfl (Dp.int _)) ea_nil) (by omega))) (fun n h => by rw [h]; unfold rngD; rw [List.length_map, List.length_range]; omega) fun w1 F3 e3 => ?_
    refine e_lcY (K := K) (EI.s (i_range1 (n := bw) (ea_cons (e_var (P := D K (.int bw)) rfl (Dp.int _)) ea_nil) (by omega))) (fun n h => by rw [h]; unfold rngD; rw [List.length_map, List.length_range]; omega) fun w2 F4 e4 => ?_
    exact EP.n ((e_one (true, signs (S cs)) (e_var rfl (ms ((g12.ff.trans e3).trans e4))) (e_seqT (e_var rfl (dpx (e3.trans e4) _ _ h3))) (by rw [signs_S, List.length_map]; exact ⟨cs0, by omega⟩)).imp fun v F1 _ h => one_code h)
  refine q_asgN g12.fh cells fun v4 F3 H3 g3 ⟨n4, hn4, h4⟩ => ?_
  obtain ⟨a, acc, rfl, hH2a, hF3a, hacc, hall⟩ := h4
  have hth : acc.length = th := by rw [hacc, hn4]; unfold rngD; rw [List.length_map, List.length_range]
  have hall : ∀ y ∈ acc, LstN H2 (CodeV cs) bw y F3 := fun y hy => by
    obtain ⟨n, hn, h⟩ := hall y hy
    have : n = bw := by rw [hn]; unfold rngD; rw [List.length_map, List.length_range]
    rw [← this]; exact h
  have g13 := g12.trans g3
  refine ⟨_, rfl, ?_⟩
  refine EP.go (P := SomeI fun i => 0 ≤ i ∧ i < (th : Int)) (F := F3) (e_take (K := K) (th : Int) (e_var rfl (ms g13.ff)) (e_var (P := D K (.int th)) rfl (Dp.int _)) ⟨by omega, by omega⟩) g13.fh fun y5 F5 H5 g5 ⟨n5, e5, h50, h51⟩ => ?_
  subst e5
  obtain ⟨k5, rfl⟩ : ∃ n : Nat, n5 = n := ⟨n5.toNat, by omega⟩
  have g15 := g13.trans g5
  have hk5 : acc[k5]? = some acc[k5] := List.getElem?_eq_getElem (by omega)
  obtain ⟨p, xs, hyp, hH2p, hF3p, hxl, hxs⟩ := hall acc[k5] (List.getElem_mem (by omega))
  refine ⟨a, acc, k5, acc[k5], rfl, rfl, .inl (.inl (g5.fh _ _ (g5.ff _ _ hF3a))), atI_nat hk5, ?_⟩
  refine EP.go (P := SomeI fun i => 0 ≤ i ∧ i < (bw : Int)) (F := F5) (e_take (K := K) (bw : Int) (e_var rfl (ms g15.ff)) (e_var (P := D K (.int bw)) rfl (Dp.int _)) ⟨by omega, by omega⟩) g15.fh fun y6 F6 H6 g6 ⟨n6, e6, h60, h61⟩ => ?_
  subst e6
  obtain ⟨k6, rfl⟩ : ∃ n : Nat, n6 = n := ⟨n6.toNat, by omega⟩
  have g16 := g15.trans g6
  have e36 : Ex F3 F6 := g5.ff.trans g6.ff
  have hF6p := e36 _ _ hF3p
  have hF6a := e36 _ _ hF3a
  refine ⟨p, xs, k6, k6, hyp, rfl, g6.fh _ _ hF6p, ?_, ?_⟩
  · unfold ixN
    rw [if_pos (by omega : (0 : Int) ≤ k6), if_pos (by omega : (k6 : Int) < xs.length)]
    rfl
  have hHp : H p = none := ex_none g12.hh hH2p
  have hHa : H a = none := ex_none g12.hh hH2a
  have hap : a ≠ p := fun z => by
    subst z
    rw [hF3a] at hF3p
    cases hF3p
    obtain ⟨c, _, e⟩ := hxs _ (List.mem_of_getElem? hk5)
    rw [hyp] at e
    cases e
  have g17 := g16.remut (o := .lst (xs.set k6 (V.str "."))) hHp e
  generalize hF7 : upd F6 p (.lst (xs.set k6 (V.str "."))) = F7 at g17
  have hF7a : F7 a = some (.lst acc) := by rw [← hF7, upd_ne hap]; exact hF6a
  have rowOf : ∀ y ∈ acc, ∃ r : Tx, D K (dCells r) y F7 ∧ r.length = bw ∧ (∀ c ∈ r, c ∈ 46 :: cs) ∧ (y = .ref p → 46 ∈ r) := by
    intro y hy
    obtain ⟨b, zs, rfl, _, hb3, hbl, hbs⟩ := hall y hy
    by_cases hbp : b = p
    · subst hbp
      rw [hF3p] at hb3
      cases hb3
      obtain ⟨r0, q1, q2, q3⟩ := codesL (K := K) (F := F7) hxs
      have hj : k6 < r0.length := by omega
      refine ⟨r0.set k6 46, Dp.lst (Evl.sq_of (show F7 b = some _ by rw [← hF7]; exact upd_same)) ?_, by rw [List.length_set]; omega, fun c hc => ?_, fun _ => ?_⟩
      · rw [List.map_set]
        exact dset (show D K (dC 46) (V.str ".") F7 from Dp.str _) k6 q1
      · rcases List.mem_or_eq_of_mem_set hc with h | h
        · exact List.mem_cons_of_mem _ (q3 c h)
        · rw [h]; exact List.mem_cons_self
      · have : (r0.set k6 46)[k6]? = some 46 := by rw [List.getElem?_set_self hj]
        exact List.mem_of_getElem? this
    · obtain ⟨r, q1, q2, q3⟩ := codesL (K := K) (F := F7) hbs
      refine ⟨r, Dp.lst (Evl.sq_of (show F7 b = some _ by rw [← hF7, upd_ne hbp]; exact e36 _ _ hb3)) q1, by omega, fun c hc => List.mem_cons_of_mem _ (q3 c hc), fun z => absurd (V.ref.inj z) hbp⟩
  obtain ⟨rows, hrows⟩ := pick rowOf
  have hrl : rows.length = th := by rw [← Paired.length hrows]; exact hth
  have hD : D K (.list (rows.map dCells)) (.ref a) F7 := by
    refine Dp.lst (Evl.sq_of hF7a) ?_
    clear hrl rowOf
    have aux : ∀ {as : List V} {bs : List Tx}, Paired (fun y r => D K (dCells r) y F7 ∧ r.length = bw ∧ (∀ c ∈ r, c ∈ 46 :: cs) ∧ (y = .ref p → 46 ∈ r)) as bs → DpAll K F7 as (bs.map dCells) := by
      intro as bs h
      induction h with
      | nil => exact .nil
      | cons h t ih => exact .cons h.1 ih
    exact aux hrows
  have hrow : ∀ r ∈ rows, r.length = bw ∧ ∀ c ∈ r, c ∈ SIGNS := fun r hr => by
    obtain ⟨y, _, _, h1, h2, _⟩ := paired_right hrows r hr
    refine ⟨h1, fun c hc => ?_⟩
    rcases List.mem_cons.mp (h2 c hc) with rfl | h
    · decide
    · exact csS c h
  have hwid : wid rows = bw := by
    have h0 : rows[0]? = some rows[0] := List.getElem?_eq_getElem (by omega)
    unfold wid
    rw [List.getD_eq_getElem?_getD, h0]
    exact (hrow _ (List.getElem_mem (by omega))).1
  have R : Rows rows := ⟨by omega, by omega, by omega, by omega, fun r hr => by rw [hwid]; exact hrow r hr⟩
  have hspot : ∃ q, ∀ cs' : Tx, 46 ∈ cs' → q ∈ spotsM rows cs' := by
    obtain ⟨r, hr, _, _, _, h46⟩ := paired_left hrows _ (List.mem_of_getElem? hk5)
    have h46 := h46 hyp
    obtain ⟨i, hi, ei⟩ := List.getElem_of_mem hr
    obtain ⟨j, hj, ej⟩ := List.getElem_of_mem h46
    refine ⟨((i : Int), (j : Int)), fun cs' hc => ?_⟩
    have e1 : rows.getD i [] = r := by rw [List.getD_eq_getElem?_getD, List.getElem?_eq_getElem hi]; exact ei
    refine List.mem_flatMap.mpr ⟨i, List.mem_range.mpr hi, List.mem_map.mpr ⟨j, List.mem_filter.mpr ⟨List.mem_range.mpr (by rw [e1]; exact hj), ?_⟩, rfl⟩⟩
    rw [e1, List.getD_eq_getElem?_getD, List.getElem?_eq_getElem hj]
    show decide (r[j] ∈ cs') = true
    rw [ej]; exact decide_eq_true hc
  obtain ⟨sp0, hsp0⟩ := hspot
  have hopen : openM rows ≠ [] := List.ne_nil_of_mem ((opens R).mp (hsp0 (".abcd" : Str).cps.toList (by rw [open_tl]; decide)))
  have wr : ∀ r ∈ rows, r.length ≤ 6 := fun r hr => by rw [(hrow r hr).1]; omega
  refine nx_go ?_
  have hargs : EA (tCons (tVar 0) (tCons (tLc (iList K (tVar 4)) (gName 9) tYes (tM1 (rJoinV K) (tC (.str "")) (tVar 9)) [9]) tNil)) [some v, some (.int th), some (.int bw), some v3, some (.ref a), none, none, none, none, none] F7 [IsSrc, D K (.list (dL rows))] := by
    refine ea_cons (e_var rfl (ms g17.ff)) (ea_cons ?_ ea_nil)
    refine e_lcM rows dCells dT (i_list (e_var rfl hD)) (by omega) fun r hr u F8 e8 hu => ?_
    refine (e_join (z := "") (xs := r.map fun c => S [c]) e_c ((e_var rfl hu : EP _ _ F8 (D K (dCells r))).eq (by unfold dCells; rw [List.map_map]; rfl)) ?_).eq ?_
    · rw [sum_S1]
      have := wr r hr
      have e0 : ("" : Str).length = 0 := rfl
      rw [e0]; omega
    · exact congrArg PyData.str (join_S1 r)
  refine q_callA g17.fh hargs fun vs F8 H8 g8 hs => ?_
  refine ⟨rows, F8, g8.fh, hs, ⟨R, hopen⟩, fun L q r st bk ws F9 H9 g9 hq0 hqF hqd hLF hLr hW => ?_⟩
  have g19 := (g17.trans g8).trans g9
  have hq1 : H q = none := by
    cases z : H q with
    | none => rfl
    | some o => rw [g8.hh _ _ (g17.hh _ _ z)] at hq0; cases hq0
  have oq : DkO F H F9 H9 q (landV r st bk ws) := ⟨g19, hq1, hqF, hqd⟩
  have hLrows := hLF.r
  rw [hLr] at hLrows
  refine q_asgR ?_
  refine ⟨.ref q, rfl, q, r, rfl, DGet.k (k := .inr "rows") hqd, (rows, ("#.~xab" : Str).cps.toList), F9, g9.fh, ⟨hLrows, Dp.str _, trivial⟩, ⟨show rows.length ≤ 6 by omega, wr⟩, fun u F10 H10 g10 hu => ?_⟩
  have o10 := oq.gr g10
  have hu : D K (.list ((spotsM rows ("#.~xab" : Str).cps.toList).map dP)) u F10 := hu
  have hsrc : IsSrc v F10 := ms (g19.ff.trans g10.ff)
  have hev0 : 0 < (spotsM rows ("#.~xab" : Str).cps.toList).length := List.length_pos_of_mem (hsp0 _ (by decide +kernel))
  have hev9 := spots_len (show rows.length ≤ 6 by omega) wr ("#.~xab" : Str).cps.toList
  refine q_dput (K := K) (P := SomeD K (fun l : List Pl => .list (l.map dP)) fun l => (∀ p ∈ l, p ∈ spotsM rows ("#.~xab" : Str).cps.toList) ∧ l.Nodup ∧ l.length ≤ 63) o10 rfl rfl ?hws fun v7 F11 H11 o11 e11 hw7 => ?_
  case hws =>
    refine e_wishes (P := P) (w := w) (m := fun _ => True) (EP.imp (e_lcY (K := K) (Hb := H0p) (Py := SomeD K dP fun p => p ∈ spotsM rows ("#.~xab" : Str).cps.toList) (is_range1 (m := 4) (ea_cons (e_I0s (e_ci 1 (p := fun n => n = 1) rfl) (e_take (K := K) (3 : Int) (e_var rfl hsrc) e_c ⟨by decide, by decide⟩) fun i j hi hj => ⟨_, rfl, by omega, by omega⟩) ea_nil) (by decide)) (fun n h => by omega) fun v F1 e1 => EP.n (EP.imp (e_one (false, (spotsM rows ("#.~xab" : Str).cps.toList).map dP) (e_var rfl ((inferInstance : Mn IsSrc).mn e1 hsrc)) (e_seqL (e_var rfl (dpx e1 _ _ hu))) ⟨by rw [List.length_map]; exact hev0, by rw [List.length_map]; omega⟩) fun v F1 _ h => one_place h)).p fun v F1 _ ⟨n, hn, h⟩ => ?_) fun z hz => in_R R (plates_all R hz)
    obtain ⟨l, h1, h2, h3⟩ := lst_some h
    exact ⟨l, h1, ⟨trivial, by omega⟩, h3⟩
  obtain ⟨ws', hws, hw1, hw2, hw3⟩ := hw7
  have hput : putK (landV r st bk ws) (.inr "wished") v7 = landV r st bk v7 := by rfl
  rw [hput] at o11
  have hLF' := (hLF.mono (g10.ff.trans e11))
  refine ⟨.ref q, rfl, k (.ref q) _ H11 (o11.g.fix o11.h0 o11.hp) ⟨⟨rows, L.begin, L.turn, L.book, ws'⟩, ⟨q, _, rfl, upd_same, r, st, bk, v7, rfl, ?_⟩, ?_⟩⟩
  · have hx : Ex F11 (upd F11 q (.dK (landV r st bk v7))) := Ex.new o11.fp
    refine ⟨?_, dpx hx _ _ hLF'.st, (inferInstance : Mn (IsBk L.book)).mn hx hLF'.bk, dpx hx _ _ hws⟩
    have := dpx hx _ _ hLF'.r
    rw [hLr] at this
    exact this
  · obtain ⟨w1, w2, w3, w4, w5⟩ := hW
    rw [← hLr]
    refine ⟨w1, w2, w3, w4, ⟨fun z hz => ?_, hw2, Nat.lt_succ_of_le hw3⟩⟩
    have := plates_all R (hw1 z hz)
    rw [← hLr] at this
    exact this
end
end OL
-- OhW14
set_option maxHeartbeats 1000000
/-! The walk, part 14: the law's own walker. -/
namespace OL
open PySem PySem.Spec PyProof.Rows L2
open SX (S)
open Evl (Ex)
open OH
section
variable {K : PySem.W.Frag} {σ : L2.St} {F H : Hp} {ta tb td : TE} {P : Ds} {Ps : List Ds}
/-- the pairs of a dict written, keys texts -/
def EDs (trs : List (TE × TE)) (σ : L2.St) (F : Hp) (ks : List Str) (Ps : List Ds) : Prop := ∀ F1 H1, Ex F F1 → Ex F1 H1 → ∀ Q : List (V × V) → Hp → Prop, (∀ vs F2 H2, Gr F1 H1 F2 H2 → AllP Ps vs F2 → Q ((ks.map V.str).zip vs) H2) → tPairs trs σ H1 Q
theorem eds_nil : EDs [] σ F [] [] := fun F1 H1 e b Q q => q [] F1 H1 (Gr.refl b) trivial
theorem eds_cons [m : Mn P] {trs : List (TE × TE)} {ks : List Str} {z : Str} (h : EP ta σ F P) (hr : EDs trs σ F ks Ps) : EDs ((tC (.str z), ta) :: trs) σ F (z :: ks) (P :: Ps) := fun F1 H1 e b Q q =>
  h F1 H1 e b _ fun v F2 H2 g hv => hr F2 H2 (e.trans g.ff) g.fh _ fun vs F3 H3 g3 hs => q (v :: vs) F3 H3 (g.trans g3) ⟨m.mn g3.ff hv, hs⟩
theorem zip_kv : ∀ (ks : List Str) (vs : List V), ks.length = vs.length → (ks.map V.str).zip vs = ((ks.map Sum.inr).zip vs).map (fun kv : Key × V => (kV kv.1, kv.2)) ∧ ((ks.map (Sum.inr : Str → Key)).zip vs).map (·.1) = ks.map Sum.inr
  | [], _, _ => ⟨rfl, rfl⟩
  | k :: ks, [], h => by simp at h
  | k :: ks, v :: vs, h => by
    obtain ⟨h1, h2⟩ := zip_kv ks vs (by simpa using h)
    exact ⟨by simp [h1, kV], by simp [h2]⟩
def RDisp (ks : List Str) (Ps : List Ds) : List (Key × V) → Hp → Prop := fun kvs H => ∃ vs, kvs = (ks.map Sum.inr).zip vs ∧ AllP Ps vs H
instance {ks : List Str} {Ps : List Ds} [m : MnL Ps] : MnK (RDisp ks Ps) := ⟨fun e ⟨vs, h1, h2⟩ => ⟨vs, h1, m.mn e h2⟩⟩
theorem e_disp {trs : List (TE × TE)} {ks : List Str} [m : MnL Ps] (h : EDs trs σ F ks Ps) (hl : ks.length = Ps.length) (hn : (ks.map (Sum.inr : Str → Key)).Nodup) (h15 : ks.length ≤ 15) : EP (tDisp trs) σ F (DkR (RDisp ks Ps)) := fun F1 H1 e b Q q => by
  intro p hp
  have fp : F1 p = none := ex_none b hp
  refine h F1 _ e (Gr.own (o := .dK []) b hp).fh _ fun vs F2 H2 g hs => ?_
  have hlen : ks.length = vs.length := by rw [hl]; exact hs.len.symm
  obtain ⟨z1, z2⟩ := zip_kv ks vs hlen
  refine ⟨g.hh _ _ upd_same, (ks.map Sum.inr).zip vs, z1, by rw [List.length_zip, List.length_map]; omega, ?_⟩
  rw [merge_new _ [] (by rw [List.nil_append, z2]; exact hn), List.nil_append]
  have f2 := g.nw _ _ upd_same fp
  have gg : Gr F1 H1 F2 (upd H2 p (.dK ((ks.map Sum.inr).zip vs))) := ((Gr.own (o := .dK []) b hp).trans g).mut hp f2
  exact q _ _ _ (gg.fix hp upd_same) ⟨p, _, rfl, upd_same, vs, rfl, m.mn (Ex.new f2) hs⟩
end
section
variable {P : Program} {w : World} {K : PySem.W.Frag} {mg : Str → Option Value} {base : Heap}
def sp_law_sign (K : PySem.W.Frag) : Sp := Pr (fun x : List Tx × Pl => [D K (.list (dL x.1)), D K (dP x.2)]) (fun x => Rows x.1) (fun x => D K (dC (sgn x.1 x.2)))
theorem cmp_and {a b c d : Bool} : (a && b) = (a && b) := rfl
theorem sc_law_sign : FnScope ["_law_rows_here", "_law_spot", "_law_y", "_law_x"] ["_law_rows_here", "_law_spot"] (defScope s_law_sign) := ⟨rfl, rfl, rfl, by decide +kernel, rfl, by decide +kernel, by decide +kernel⟩
set_option maxHeartbeats 2000000 in
theorem bd_law_sign (T : Tt K mg)  : BodyOk P w K mg base 0 "_law_sign" s_law_sign ["_law_rows_here", "_law_spot", "_law_y", "_law_x"] (sp_law_sign K) := by
  intro f cdv A outer s H vs Q E hr h
  have nd := sc_law_sign.nd
  have hu := hu_of hr
  have hu64 := hr.units
  have hu65 : (A.deeper (envOfC "_law_sign" (defScope s_law_sign) s.heap.objs.size f cdv)).units + 65 < cLine := by have := hr.un; omega
  obtain ⟨⟨rows, p⟩, F, e, hA, R, k⟩ := h
  obtain ⟨v, v2, rfl, hv, h2⟩ := all2 hA
  have R : Rows rows := R
  have r1 := R.h1
  have r6 := R.h6
  have w6 := R.w6
  refine ⟨_, (pss_cons (ps_asg (pv 1) (pg_tup (by rfl) (pgs_cons (pg_name (i := 2) nd rfl (Or.inl rfl)) (pgs_cons (pg_name (i := 3) nd rfl (Or.inl rfl)) pgs_nil))))
      (pss_cons (ps_if (PW.pt (pw_or (pt_not (pt_chain op_le op_lt pe_int (pv 2) (pe_callB (id := "len") call_len_seq (by rfl) T.f_len boot_len (pa_cons (pv 0) pa_nil)))) (pw_or1 (pt_not (pt_chain op_le op_lt pe_int (pv 3) (pe_callB (id := "len") call_len_str (by rfl) T.f_len boot_len (pa_cons (pe_ix ix_list (pv 0) pe_int (fun _ _ => rfl)) pa_nil))))))) (pss_one (ps_ret pe_str)) pss_nil)
      (pss_one (ps_ret (pe_ix ix_str (pe_ix ix_list (pv 0) (pv 2) (fun _ _ => rfl)) (pv 3) (fun _ _ => rfl)))))), ?_⟩
  refine q_unp (d1 := .int p.1) (d2 := .int p.2) e (e_var rfl h2) fun v3 v4 F2 H2 g2 h3 h4 => ?_
  have hv2 : D K (.list (dL rows)) v F2 := dpx g2.ff _ _ hv
  refine q_when g2.fh (b := !inF rows p) (t_eq (t_or (t_not (t_test (K := K) (e_chain (i := 0) (j := p.1) (k := rows.length) (p1 := fun i j => decide (i ≤ j)) (p2 := fun i j => decide (i < j)) e_c (e_var rfl h3) ((e_lenL (e_var rfl hv2)).eq (by rw [List.length_map]))))) fun _ => t_not (t_test (K := K) (e_chain (i := 0) (j := p.2) (k := wid rows) (p1 := fun i j => decide (i ≤ j)) (p2 := fun i j => decide (i < j)) e_c (e_var rfl h4) ((e_lenS (z := S (rows.getD 0 [])) (e_ixL (e_var rfl hv2) e_c (atI_nat (j := 0) (row0 R))) ?_).eq ?_)))) ?_) (fun hb H3 g3 => ?_) fun hb H3 g3 => ?_
  · rw [len_S]; show wid rows ≤ 100000; omega
  · rw [len_S]; rfl
  · rw [Bool.eq_iff_iff]
    simp only [Bool.or_eq_true, Bool.not_eq_true', Bool.and_eq_false_iff, decide_eq_false_iff_not]
    have := @inF_iff rows p
    cases h : inF rows p with
    | true => obtain ⟨⟨a1, a2⟩, b1, b2⟩ := this.mp h; simp; omega
    | false =>
      have hn : ¬((0 ≤ p.1 ∧ p.1 ≤ (rows.length : Int) - 1) ∧ (0 ≤ p.2 ∧ p.2 ≤ (wid rows : Int) - 1)) := fun z => by rw [this.mpr z] at h; cases h
      simp; omega
  · have hb' : inF rows p = false := by simpa using hb
    refine s_ret g3.fh (P := D K (dC (sgn rows p))) (e_c (by unfold sgn; rw [hb']; rfl)) fun v F4 H4 g4 hv => k v F4 H4 ((g2.trans g3).trans g4) hv
  · have hb' : inF rows p = true := by simpa using hb
    obtain ⟨⟨a1, a2⟩, b1, b2⟩ := inF_iff.mp hb'
    obtain ⟨r, hr, q1, q2⟩ := sgn_at R hb'
    refine s_ret g3.fh (P := D K (dC (sgn rows p))) (e_ixS (z := S r) (e_ixL (i := p.1) (e_var rfl hv2) (e_var rfl h3) (atI_at (by omega) q1)) (e_var rfl h4) ?_ (atI_at (j := p.2.toNat) (by omega) q2)) fun v F4 H4 g4 hv => k v F4 H4 ((g2.trans g3).trans g4) hv
    rw [len_S]
    have h3 := (R.all r hr).1
    omega
def sp_law_goes (K : PySem.W.Frag) : Sp := Pr (fun x : List Tx × Pl × Nat => [D K (.list (dL x.1)), D K (dP x.2.1), D K (dC x.2.2)]) (fun x => Rows x.1 ∧ inF x.1 x.2.1 = true ∧ x.2.2 ∈ DEEDS) (fun x => D K (dPo (OH.goes x.1 x.2.1 x.2.2)))
theorem e_sgn {σ : L2.St} {F : Hp} {ta tb : TE} {E : XK} {rows : List Tx} {p : Pl} (R : Rows rows) (h1 : EP ta σ F (D K (.list (dL rows)))) (h2 : EP tb σ F (D K (dP p))) : EP (tCall (sp_law_sign K) [] E (tCons ta (tCons tb tNil))) σ F (D K (dC (sgn rows p))) := e_call (rows, p) (ea_cons h1 (ea_cons h2 ea_nil)) R
theorem sc_law_goes : FnScope ["_law_rows_here", "_law_spot", "_law_step", "_law_down", "_law_along", "_law_here", "_law_there", "_law_sign_here"] ["_law_rows_here", "_law_spot", "_law_step"] (defScope s_law_goes) := ⟨rfl, rfl, rfl, by decide +kernel, rfl, by decide +kernel, by decide +kernel⟩
set_option maxHeartbeats 2000000 in
theorem bd_law_goes (T : Tt K mg) (G_law_sign : Cal P w K mg base 1 "_law_sign" ["_law_rows_here", "_law_spot"] (sp_law_sign K)) : BodyOk P w K mg base 1 "_law_goes" s_law_goes ["_law_rows_here", "_law_spot", "_law_step", "_law_down", "_law_along", "_law_here", "_law_there", "_law_sign_here"] (sp_law_goes K) := by
  intro f cdv A outer s H vs Q E hr h
  have nd := sc_law_goes.nd
  have hu := hu_of hr
  have hu64 := hr.units
  have hu65 : (A.deeper (envOfC "_law_goes" (defScope s_law_goes) s.heap.objs.size f cdv)).units + 65 < cLine := by have := hr.un; omega
  obtain ⟨⟨rows, p, d⟩, F, e, hA, ⟨R, hin, hd⟩, k⟩ := h
  obtain ⟨v, v2, v3, rfl, hv, h2, h3⟩ := all3 hA
  have R : Rows rows := R
  have hin : inF rows p = true := hin
  have hd : d ∈ DEEDS := hd
  refine ⟨_, (pss_cons (ps_asg (pe_dget hu (pe_disp (pps_cons pe_str (pe_tup (pa_cons (pe_un un_neg pe_int) (pa_cons pe_int pa_nil))) (pps_cons pe_str (pe_tup (pa_cons pe_int (pa_cons pe_int pa_nil))) (pps_cons pe_str (pe_tup (pa_cons pe_int (pa_cons pe_int pa_nil))) (pps_cons pe_str (pe_tup (pa_cons pe_int (pa_cons (pe_un un_neg pe_int) pa_nil))) pps_nil)))) (by rfl) (by rfl) (fun z => by cases z) (by decide)) (pv 2) (fun _ _ => rfl)) (pg_tup (by rfl) (pgs_cons (pg_name (i := 3) nd rfl (Or.inl rfl)) (pgs_cons (pg_name (i := 4) nd rfl (Or.inl rfl)) pgs_nil))))
      (pss_cons (ps_set (i := 5) nd rfl (Or.inl rfl) (pv 1))
      (pss_cons (ps_set (i := 6) nd rfl (Or.inl rfl) (pe_tup (pa_cons (pe_op op_add (pe_ix ix_tup (pv 1) pe_int (fun _ _ => rfl)) (pv 3)) (pa_cons (pe_op op_add (pe_ix ix_tup (pv 1) pe_int (fun _ _ => rfl)) (pv 4)) pa_nil))))
      (pss_cons (ps_while PassesOwn.never (pt_cmpR op_eq (p_call G_law_sign hr (pa_cons (pv 0) (pa_cons (pv 6) pa_nil))) pe_str (nomark _)) (pss_cons (ps_set (i := 5) nd rfl (Or.inl rfl) (pv 6))
      (pss_one (ps_set (i := 6) nd rfl (Or.inl rfl) (pe_tup (pa_cons (pe_op op_add (pe_ix ix_tup (pv 6) pe_int (fun _ _ => rfl)) (pv 3)) (pa_cons (pe_op op_add (pe_ix ix_tup (pv 6) pe_int (fun _ _ => rfl)) (pv 4)) pa_nil)))))))
      (pss_cons (ps_set (i := 7) nd rfl (Or.inl rfl) (p_call G_law_sign hr (pa_cons (pv 0) (pa_cons (pv 6) pa_nil))))
      (pss_cons (ps_if (pt_cmpR op_eq (pv 7) pe_str (nomark _)) (pss_one (ps_ret (pv 5))) pss_nil)
      (pss_one (ps_ret (pe_ix ix_list (pe_lst (pa_cons (pv 6) (pa_cons pe_non pa_nil))) (pe_callTy (T := "int") call_int1 (by rfl) T.f_int (by decide +kernel) (pa_cons (pe_cmpR op_eq (pv 7) pe_str (nomark _)) pa_nil)) (fun _ _ => rfl)))))))))), ?_⟩
  refine q_unp (d1 := .int (stepD d).1) (d2 := .int (stepD d).2) e ?hst fun v4 v5 F2 H2 g2 h4 h5 => ?_
  case hst =>
    refine e_dget (e_disp (ks := ["u", "r", "d", "l"]) (Ps := [D K (dP (-1, 0)), D K (dP (0, 1)), D K (dP (1, 0)), D K (dP (0, -1))]) (eds_cons ?_ (eds_cons ?_ (eds_cons ?_ (eds_cons ?_ eds_nil)))) rfl (by decide +kernel) (by decide)) (e_var rfl h3) fun kvs F1 _ ⟨vs, e1, h6⟩ => ?_
    · exact e_tup (ds := [.int (-1), .int 0]) (ea_cons (e_neg e_c) (ea_cons e_c ea_nil))
    · exact e_tup (ds := [.int 0, .int 1]) (ea_cons e_c (ea_cons e_c ea_nil))
    · exact e_tup (ds := [.int 1, .int 0]) (ea_cons e_c (ea_cons e_c ea_nil))
    · exact e_tup (ds := [.int 0, .int (-1)]) (ea_cons e_c (ea_cons (e_neg e_c) ea_nil))
    · obtain ⟨x1, x2, x3, x4, rfl, q1, q2, q3, q4⟩ := all4 h6
      subst e1
      simp only [DEEDS, List.mem_cons, List.not_mem_nil, or_false] at hd
      rcases hd with rfl | rfl | rfl | rfl
      · exact ⟨x1, by rfl, q1⟩
      · exact ⟨x2, by rfl, q2⟩
      · exact ⟨x3, by rfl, q3⟩
      · exact ⟨x4, by rfl, q4⟩
  refine q_asg g2.fh (P := D K (dP p)) (e_var rfl (dpx g2.ff _ _ h2)) fun v6 F3 H3 g3 h6 => ?_
  have g23 := g2.trans g3
  refine q_asg g3.fh (P := D K (dP (nxt p d))) (e_tup (ds := [.int (p.1 + (stepD d).1), .int (p.2 + (stepD d).2)]) (ea_cons (e_I0 (e_ixT (d := .int p.1) (e_var rfl (dpx g23.ff _ _ h2)) e_c (atI_nat (j := 0) rfl)) (e_var rfl (dpx g3.ff _ _ h4))) (ea_cons (e_I0 (e_ixT (d := .int p.2) (e_var rfl (dpx g23.ff _ _ h2)) e_c (atI_nat (j := 1) rfl)) (e_var rfl (dpx g3.ff _ _ h5))) ea_nil))) fun v7 F4 H4 g4 h7 => ?_
  have g24 := g23.trans g4
  have hp0 : pot rows d (nxt p d) ≤ 7 := pot_first R hd hin
  refine q_while (fun m σ' F' H' => Gr F H F' H' ∧ Ex F2 F' ∧ ∃ vh vt hh tt, σ' = [some v, some v2, some v3, some v4, some v5, some vh, some vt, none] ∧ D K (dP hh) vh F' ∧ D K (dP tt) vt F' ∧ slide rows d m hh tt = slide rows d 7 p (nxt p d) ∧ pot rows d tt ≤ m) 7 (F := F4) ⟨g24, g3.ff.trans g4.ff, v6, v7, p, nxt p d, rfl, dpx g4.ff _ _ h6, h7, rfl, hp0⟩ ?_
  rintro m σ' F' H' ⟨gg, e2, vh, vt, hh, tt, rfl, q1, q2, hs, hp⟩
  have hvF : D K (.list (dL rows)) v F' := dpx gg.ff _ _ hv
  refine ⟨gg.fh, decide (sgn rows tt = 126), ?_, fun hb H5 g5 => ?_, fun hb H5 g5 => ?_⟩
  · exact t_test ((e_eqT (e_sgn R (e_var rfl hvF) (e_var rfl q2)) e_c).eq (by rw [ice_c, dC_eq]))
  · have hi := of_decide_eq_true hb
    have hpot : 1 ≤ pot rows d tt := pot_in (w := d) (ice_in hi (by decide))
    have gg5 := gg.trans g5
    refine q_asg gg5.fh (P := D K (dP tt)) (e_var rfl q2) fun w1 F6 H6 g6 k1 => ?_
    have q2' := dpx g6.ff _ _ q2
    have e26 := e2.trans g6.ff
    refine s_asg g6.fh (P := D K (dP (nxt tt d))) (e_tup (ds := [.int (tt.1 + (stepD d).1), .int (tt.2 + (stepD d).2)]) (ea_cons (e_I0 (e_ixT (d := .int tt.1) (e_var rfl q2') e_c (atI_nat (j := 0) rfl)) (e_var rfl (dpx e26 _ _ h4))) (ea_cons (e_I0 (e_ixT (d := .int tt.2) (e_var rfl q2') e_c (atI_nat (j := 1) rfl)) (e_var rfl (dpx e26 _ _ h5))) ea_nil))) fun w2 F7 H7 g7 k2 => ?_
    refine ⟨m - 1, F7, by omega, (gg5.trans g6).trans g7, e26.trans g7.ff, w1, w2, tt, nxt tt d, rfl, dpx g7.ff _ _ k1, k2, ?_, ?_⟩
    · rw [← hs]
      have e1 : m = (m - 1) + 1 := by omega
      rw [e1, slide_ice hi]
      rfl
    · have z5 : pot rows d (nxt tt d) ≤ pot rows d tt - 1 := pot_next (rows := rows) (p := tt) hd
      omega
  · have hi := of_decide_eq_false hb
    have gg5 := gg.trans g5
    rw [slide_stop hi] at hs
    have hg : OH.goes rows p d = if sgn rows tt = 35 then some hh else if sgn rows tt = 120 then none else some tt := by
      unfold OH.goes
      rw [← hs]
    refine q_asg gg5.fh (P := D K (dC (sgn rows tt))) (e_sgn R (e_var rfl hvF) (e_var rfl q2)) fun w1 F6 H6 g6 k1 => ?_
    have gg6 := gg5.trans g6
    refine q_when g6.fh (b := decide (sgn rows tt = 35)) (t_test ((e_eqT (e_var rfl k1) e_c).eq (by rw [wall_c, dC_eq]))) (fun hb2 H7 g7 => ?_) fun hb2 H7 g7 => ?_
    · refine s_ret g7.fh (P := D K (dPo (OH.goes rows p d))) ?_ fun v F3 H3 g3 hv => k v F3 H3 ((gg6.trans g7).trans g3) hv
      rw [hg, if_pos (of_decide_eq_true hb2)]
      exact e_var rfl (dpx g6.ff _ _ q1)
    · refine s_ret g7.fh (P := D K (dPo (OH.goes rows p d))) ?_ fun v F3 H3 g3 hv => k v F3 H3 ((gg6.trans g7).trans g3) hv
      rw [hg, if_neg (of_decide_eq_false hb2)]
      refine e_ixL (ds := [dP tt, .none]) (i := if decide (sgn rows tt = 120) = true then 1 else 0) (e_lst (ds := [dP tt, .none]) (ea_cons (e_var rfl (dpx g6.ff _ _ q2)) (ea_cons e_c ea_nil))) (e_intB (EP.eq (e_eqT (j := "x") (e_var rfl k1) e_c) (by rw [pit_c, dC_eq]))) ?_
      by_cases hx : sgn rows tt = 120
      · rw [if_pos hx, decide_eq_true hx]; rfl
      · rw [if_neg hx, decide_eq_false hx]; rfl
def sp_law_becomes (K : PySem.W.Frag) : Sp := Pr (fun x : Tx × Tx => [D K (dT x.1), D K (dT x.2)]) (fun x => x.1 ∈ TURNS ∧ (∀ d ∈ x.2, d ∈ DEEDS) ∧ x.2.length ≤ 10000) (fun x => D K (dT (thenT x.2 x.1)))
theorem sc_law_becomes : FnScope ["_law_sense_here", "_law_line_here", "_law_step"] ["_law_sense_here", "_law_line_here"] (defScope s_law_becomes) := ⟨rfl, rfl, rfl, by decide +kernel, rfl, by decide +kernel, by decide +kernel⟩
set_option maxHeartbeats 2000000 in
theorem bd_law_becomes (T : Tt K mg)  : BodyOk P w K mg base 0 "_law_becomes" s_law_becomes ["_law_sense_here", "_law_line_here", "_law_step"] (sp_law_becomes K) := by
  intro f cdv A outer s H vs Q E hr h
  have nd := sc_law_becomes.nd
  have hu := hu_of hr
  have hu64 := hr.units
  have hu65 : (A.deeper (envOfC "_law_becomes" (defScope s_law_becomes) s.heap.objs.size f cdv)).units + 65 < cLine := by have := hr.un; omega
  obtain ⟨⟨t, r⟩, F, e, hA, ⟨ht, hr', hl⟩, k⟩ := h
  have hl4 : r.length ≤ 40000 := Nat.le_trans hl (by decide)
  have ht : t ∈ TURNS := ht
  obtain ⟨v, v2, rfl, h1, h2⟩ := all2 hA
  refine ⟨_, (pss_one (ps_ret (pe_join pe_str (pe_lc (own := [("_law_step", 2)]) (by rfl) nd (pi_str (pv 1)) (blkOk_by (N := ["_law_sense_here", "_law_line_here", "_law_step"]) (sc := defScope s_law_becomes) (own := [("_law_step", 2)]) (by decide +kernel)) (fun _ _ _ _ _ => (pg_name (i := 2) nd rfl (Or.inl rfl))) (fun _ _ _ _ _ => pts_nil) (fun _ _ _ _ _ => (pe_ix ix_str (pv 0) (show PE _ _ (tBM K "str" _ _ _) from (pe_bm PySem.F.plainAttrs_str PySem.F.slot_str_index PySem.F.type_str_index mt_sindex pe_str (pa_cons (pv 2) pa_nil))) (fun _ _ => rfl))))))), ?_⟩
  refine s_ret e (P := D K (dT (thenT r t))) ?_ fun v F3 H3 g3 hv => k v F3 H3 g3 hv
  refine (e_join (z := S []) (xs := (thenT r t).map fun c => S [c]) e_c ?_ ?_).eq (by rw [join_S1])
  · refine EP.eq (e_lcM r dC (fun d => dC (way t d)) (i_str (z := S r) (e_var rfl h2)) hl4 fun d hd v F1 e1 hv => ?_) ?_
    · obtain ⟨rest, hrr⟩ := deeds_idx d (hr' d hd)
      refine e_ixS (e_var rfl (dpx e1 _ _ h1)) (e_sidx e_c (e_var rfl hv) hrr) ?_ (atI_nat ?_)
      · have h4 := (turn_len t ht).1
        show (S t).cps.size ≤ 100000
        simp [h4]
      · have h5 := way_at t ht d (hr' d hd)
        simpa using h5
    · simp [thenT, List.map_map, Function.comp_def]
  · rw [sum_S1, List.length_map]
    have e0 : (S []).length = 0 := rfl
    rw [e0]
    unfold thenT
    rw [List.length_map]
    omega
end
end OL
-- OhW15
set_option maxHeartbeats 1000000
/-! The walk, part 15: behind, gone, never. -/
namespace OL
open PySem PySem.Spec PyProof.Rows L2
open SX (S)
open Evl (Ex)
open OH
section
variable {K : PySem.W.Frag} {σ : L2.St} {F H F0 H0 Hb : Hp} {ta tb te : TE} {P : Ds} {Ps : List Ds} {l : Addr} {ds : List PyData} {d : PyData} {Dn : Ends} {tz : TS}
theorem Own.seen (o : Own K F0 H0 F H l ds) : ∃ Fx, Ex F Fx ∧ Gr F0 H0 Fx H ∧ D K (.list ds) (.ref l) Fx ∧ ∀ H1, Gr Fx H Fx H1 → Gr F H F H1 := by
  obtain ⟨F', g, e, hd⟩ := o.fix
  exact ⟨F', e, g, hd, fun H1 g1 => ⟨g1.hh, Ex.refl F, e.trans g1.fh, fun _ _ _ n => n⟩⟩
def EAN (Hb : Hp) (t : TA) (σ : L2.St) (F : Hp) (Ps : List Ds) : Prop := ∀ F1 H1, Ex F F1 → Ex F1 H1 → Ex Hb H1 → ∀ Q : List V → Hp → Prop, (∀ vs F2 H2, Gr F1 H1 F2 H2 → AllP Ps vs F2 → Q vs H2) → t σ H1 Q
theorem EA.n {t : TA} (h : EA t σ F Ps) : EAN Hb t σ F Ps := fun F1 H1 e b _ Q q => h F1 H1 e b Q q
theorem ean_cons [m : Mn P] {tr : TA} (h : EPN Hb ta σ F P) (hr : EAN Hb tr σ F Ps) : EAN Hb (tCons ta tr) σ F (P :: Ps) := fun F1 H1 e b c Q q =>
  h F1 H1 e b c _ fun v F2 H2 g hv => hr F2 H2 (e.trans g.ff) g.fh (c.trans g.hh) _ fun vs F3 H3 g3 hs => q (v :: vs) F3 H3 (g.trans g3) ⟨m.mn g3.ff hv, hs⟩
theorem e_callNN {α : Type} {Ps : α → List Ds} {pre : α → Prop} {R : α → Ds} {ta : TA} {E : XK} (x : α) (h : EAN Hb ta σ F (Ps x)) (hp : pre x) : EPN Hb (tCall (Pr Ps pre R) [] E ta) σ F (R x) := fun F1 H1 e b c Q q =>
  h F1 H1 e b c _ fun vs F2 H2 g hs => ⟨x, F2, g.fh, by rw [List.append_nil]; exact hs, hp, fun v F3 H3 g3 hr => q v F3 H3 (g.trans g3) hr⟩
/-- reading a list under way -/
theorem e_ownIx {i : Nat} {j : Int} (o : Own K F0 H0 F H l ds) (hs : σ[i]? = some (some (.ref l))) (hb : EP tb σ F (D K (.int j))) (h : atI ds j = some d) : EPN H (tOp (rIxL K) (tVar i) tb) σ F (D K d) := fun F1 H1 e b c Q q => by
  obtain ⟨xs, h1, h2⟩ := o.xs
  refine ⟨_, hs, hb F1 H1 e b _ fun y F2 H2 g hy => ?_⟩
  obtain ⟨z, hz, hd⟩ := atI_D (dpxs (e.trans g.ff) _ _ h2) h
  exact ⟨l, xs, j, z, rfl, dInt hy, Evl.sq_of (g.hh _ _ (c _ _ h1)), hz, q z F2 H2 g hd⟩
theorem s_appN {i n : Nat} (o : Own K F0 H0 F H l ds) (hs : σ[i]? = some (some (.ref l))) (hn : ds.length ≤ n) (hz : Nat.ble (n + 1) 100000 = true) (h : EPN H te σ F (D K d)) (k : ∀ F1 H1, Own K F0 H0 F1 H1 l (ds ++ [d]) → Ex F F1 → Dn.nx σ H1) :
    tDrop (tBM K "list" rAppend (tVar i) (tCons te tNil)) Dn σ H := by
  obtain ⟨xs, h1, h2⟩ := o.xs
  refine ⟨.ref l, hs, .inl ⟨rfl, xs, Evl.sq_of h1⟩, h F H (Ex.refl F) o.g.fh (Ex.refl H) _ fun v F1 H1 g hv => ?_⟩
  have o1 := o.gr g
  obtain ⟨ys, h3, h4, h5⟩ := o1.len hn hz
  exact ⟨l, ys, v, rfl, rfl, h3, h4, k F1 _ ⟨o1.g.mut o1.h0 o1.fl, o1.h0, o1.fl, _, upd_same, dsnoc h5 hv⟩ g.ff⟩
end
/-! ### the lands' own run -/
def behL (L : LandM) (s : Sd) (d : Nat) : Sd := OH.behind L.rows L.book s d
def runL (L : LandM) (s : Sd) (r : Tx) : Sd := r.foldl (behL L) s
def goneM (L : LandM) (s : Sd) (r : Tx) : List Sd := (List.range (r.length + 1)).map fun i => runL L s (r.take i)
def goneN (L : LandM) (s : Sd) (r : Tx) (n : Nat) : List Sd := (List.range (n + 1)).map fun i => runL L s (r.take i)
theorem goneN_succ (L : LandM) (s : Sd) (r : Tx) (n : Nat) : goneN L s r (n + 1) = goneN L s r n ++ [runL L s (r.take (n + 1))] := by
  unfold goneN
  rw [List.range_succ (n := n + 1), List.map_append]
  rfl
theorem runL_snoc (L : LandM) (s : Sd) (r : Tx) (d : Nat) : runL L s (r ++ [d]) = behL L (runL L s r) d := by unfold runL; rw [List.foldl_append]; rfl
theorem behL_ok {L : LandM} (W : WdOk L.wd) {s : Sd} {d : Nat} (hs : okS L.rows s = true) (hd : d ∈ DEEDS) : okS L.rows (behL L s d) = true := behind_ok (rows := L.rows) W.R (pagesOk W).2 hs hd
theorem runL_ok {L : LandM} (W : WdOk L.wd) : ∀ (r : Tx) {s : Sd}, okS L.rows s = true → (∀ d ∈ r, d ∈ DEEDS) → okS L.rows (runL L s r) = true
  | [], s, h, _ => h
  | d :: r, s, h, hr => runL_ok W r (behL_ok W h (hr d (by simp))) fun c hc => hr c (List.mem_cons_of_mem _ hc)
theorem goneN_last (L : LandM) (s : Sd) (r : Tx) (n : Nat) : atI ((goneN L s r n).map dS) (-1) = some (dS (runL L s (r.take n))) := by
  have e : goneN L s r n = (List.range n).map (fun i => runL L s (r.take i)) ++ [runL L s (r.take n)] := by
    unfold goneN
    rw [List.range_succ, List.map_append]
    rfl
  rw [e, List.map_append]
  exact atI_last _ _
def SL (L : LandM) : Sd := some (L.begin, L.turn)
section
variable {P : Program} {w : World} {K : PySem.W.Frag} {mg : Str → Option Value} {base : Heap}
def sp_law_behind (K : PySem.W.Frag) : Sp := Pr (fun x : LandM × Sd × Nat => [IsLand K x.1, D K (dS x.2.1), D K (dC x.2.2)]) (fun x => WdOk x.1.wd ∧ okS x.1.rows x.2.1 = true ∧ x.2.2 ∈ DEEDS) (fun x => D K (dS (behL x.1 x.2.1 x.2.2)))
theorem e_lgoes {σ : L2.St} {F : Hp} {ta tb tc : TE} {E : XK} {rows : List Tx} {p : Pl} {d : Nat} (R : Rows rows) (hi : inF rows p = true) (hd : d ∈ DEEDS) (h1 : EP ta σ F (D K (.list (dL rows)))) (h2 : EP tb σ F (D K (dP p))) (h3 : EP tc σ F (D K (dC d))) : EP (tCall (sp_law_goes K) [] E (tCons ta (tCons tb (tCons tc tNil)))) σ F (D K (dPo (OH.goes rows p d))) := e_call (rows, p, d) (ea_cons h1 (ea_cons h2 (ea_cons h3 ea_nil))) ⟨R, hi, hd⟩
theorem e_lbec {σ : L2.St} {F : Hp} {ta tb : TE} {E : XK} {t r : Tx} (ht : t ∈ TURNS) (hr : ∀ d ∈ r, d ∈ DEEDS) (hl : r.length ≤ 10000) (h1 : EP ta σ F (D K (dT t))) (h2 : EP tb σ F (D K (dT r))) : EP (tCall (sp_law_becomes K) [] E (tCons ta (tCons tb tNil))) σ F (D K (dT (thenT r t))) := e_call (t, r) (ea_cons h1 (ea_cons h2 ea_nil)) ⟨ht, hr, hl⟩
theorem turn_deeds : ∀ t ∈ TURNS, (∀ d ∈ t, d ∈ DEEDS) ∧ t.length ≤ 10000 := by decide
theorem sc_law_behind : FnScope ["_law_land_here", "_law_post", "_law_step", "_law_spot", "_law_sense_here", "_law_there", "_law_sign_here"] ["_law_land_here", "_law_post", "_law_step"] (defScope s_law_behind) := ⟨rfl, rfl, rfl, by decide +kernel, rfl, by decide +kernel, by decide +kernel⟩
set_option maxHeartbeats 2000000 in
theorem bd_law_behind (T : Tt K mg) (G_law_goes : Cal P w K mg base 2 "_law_goes" ["_law_rows_here", "_law_spot", "_law_step"] (sp_law_goes K)) (G_law_becomes : Cal P w K mg base 1 "_law_becomes" ["_law_sense_here", "_law_line_here"] (sp_law_becomes K)) (G_law_sign : Cal P w K mg base 1 "_law_sign" ["_law_rows_here", "_law_spot"] (sp_law_sign K)) : BodyOk P w K mg base 2 "_law_behind" s_law_behind ["_law_land_here", "_law_post", "_law_step", "_law_spot", "_law_sense_here", "_law_there", "_law_sign_here"] (sp_law_behind K) := by
  intro f cdv A outer s H vs Q E hr h
  have nd := sc_law_behind.nd
  have hu := hu_of hr
  have hu64 := hr.units
  have hu65 : (A.deeper (envOfC "_law_behind" (defScope s_law_behind) s.heap.objs.size f cdv)).units + 65 < cLine := by have := hr.un; omega
  obtain ⟨⟨L, s, d⟩, F, e, hA, ⟨W, hs, hd⟩, k⟩ := h
  obtain ⟨v, v2, v3, rfl, hv, h2, h3⟩ := all3 hA
  have W : WdOk L.wd := W
  have hs : okS L.rows s = true := hs
  have hd : d ∈ DEEDS := hd
  have R : Rows L.rows := W.R
  have ml : ∀ {F1 : Hp}, Ex F F1 → IsLand K L v F1 := fun e1 => (inferInstance : Mn (IsLand K L)).mn e1 hv
  refine ⟨_, (pss_cons (ps_if (pt_cmpR op_isN (pv 1) pe_non (nomark _)) (pss_one (ps_ret pe_non)) pss_nil)
      (pss_cons (ps_asg (pv 1) (pg_tup (by rfl) (pgs_cons (pg_name (i := 3) nd rfl (Or.inl rfl)) (pgs_cons (pg_name (i := 4) nd rfl (Or.inl rfl)) pgs_nil))))
      (pss_cons (ps_set (i := 5) nd rfl (Or.inl rfl) (p_call G_law_goes hr (pa_cons (pe_dget hu (pv 0) pe_str (fun _ _ => rfl)) (pa_cons (pv 3) (pa_cons (p_call G_law_becomes hr (pa_cons (pv 4) (pa_cons (pv 2) pa_nil))) pa_nil)))))
      (pss_cons (ps_if (PW.pt (pw_or (pt_cmpR op_isN (pv 5) pe_non (nomark _)) (pw_or1 (pt_cmpR (op_eqD hu64) (pv 5) (pv 3) (nomark _))))) (pss_one (ps_ret (pe_ix ix_list (pe_lst (pa_cons (pv 1) (pa_cons pe_non pa_nil))) (pe_callTy (T := "int") call_int1 (by rfl) T.f_int (by decide +kernel) (pa_cons (pe_cmpR op_isN (pv 5) pe_non (nomark _)) pa_nil)) (fun _ _ => rfl)))) pss_nil)
      (pss_cons (ps_set (i := 6) nd rfl (Or.inl rfl) (p_call G_law_sign hr (pa_cons (pe_dget hu (pv 0) pe_str (fun _ _ => rfl)) (pa_cons (pv 5) pa_nil))))
      (pss_cons (ps_if (pt_cmp (pc_din hu (pv 6) (pe_dget hu (pv 0) pe_str (fun _ _ => rfl)))) (pss_one (ps_set (i := 4) nd rfl (Or.inl rfl) (p_call G_law_becomes hr (pa_cons (pe_dget hu (pe_dget hu (pv 0) pe_str (fun _ _ => rfl)) (pv 6) (fun _ _ => rfl)) (pa_cons (pv 4) pa_nil))))) pss_nil)
      (pss_one (ps_ret (pe_tup (pa_cons (pv 5) (pa_cons (pv 4) pa_nil))))))))))), ?_⟩
  match s, hs, h2, k with
  | none, hs, h2, k =>
    refine q_when e (t_test (e_isN (d := .none) (e_var rfl h2) e_c)) (fun _ H1 g1 => ?_) (fun z => Bool.noConfusion z)
    exact s_ret g1.fh (P := D K .none) e_c fun v F3 H3 g3 hv => k v F3 H3 (g1.trans g3) hv
  | some (p, t), hs, h2, k =>
    have h2 : D K (.tuple [dP p, dT t]) v2 F := h2
    obtain ⟨ho, ht⟩ := Bool.and_eq_true_iff.mp hs
    have ht := of_decide_eq_true ht
    have hin : inF L.rows p = true := (Bool.and_eq_true_iff.mp ho).1
    refine q_when e (b := false) (t_test (e_isN (d := .tuple [dP p, dT t]) (e_var rfl h2) e_c)) (fun z => Bool.noConfusion z) fun _ H1 g1 => ?_
    refine q_unp (d1 := dP p) (d2 := dT t) g1.fh (e_var rfl h2) fun v4 v5 F2 H2 g2 h4 h5 => ?_
    have g12 := g1.trans g2
    have hw := way_in' t ht d hd
    refine q_asg g12.fh (e_lgoes R hin hw (e_lrows (K := K) (e_var rfl (ml g12.ff))) (e_var rfl h4) (e_lbec (r := [d]) ht (fun c hc => by simp only [List.mem_singleton] at hc; rw [hc]; exact hd) (by show 1 ≤ 10000; decide) (e_var rfl h5) (e_var rfl (dpx g12.ff _ _ h3)))) fun v6 F3 H3 g3 h6 => ?_
    have g13 := g12.trans g3
    have h6 : D K (dPo (OH.goes L.rows p (way t d))) v6 F3 := h6
    have hgo : ∀ q, OH.goes L.rows p (way t d) = some q → okP L.rows q = true := fun q hq => goes_ok R hw ho hq
    have hb : behL L (some (p, t)) d = (match OH.goes L.rows p (way t d) with
        | none => none
        | some q => if q = p then some (p, t) else match L.book.lookup (sgn L.rows q) with
          | some b => some (q, thenT t b)
          | none => some (q, t)) := rfl
    have k : ∀ v F' H', Gr F H F' H' → D K (dS (behL L (some (p, t)) d)) v F' → Q v H' := k
    rw [hb] at k
    revert h6 hgo k
    generalize OH.goes L.rows p (way t d) = go
    intro h6 hgo k
    refine q_when g13.fh (b := decide (go = none) || decide (go = some p)) (t_or (t_test ((e_isN (e_var rfl h6) e_c).eq (by rw [nonD_Po]))) fun _ => t_test ((e_eqD (d := dPo go) (e := dPo (some p)) (e_var rfl h6) (e_var rfl (dpx g3.ff _ _ h4)) ?_ ?_).eq (by rw [eqv_Po]))) (fun hbb H4 g4 => ?_) fun hbb H4 g4 => ?_
    · cases go with
      | none => rfl
      | some q => exact (okP_ q).shaped (by decide)
    · exact (okP_ p).shaped (by decide)
    · have g14 := g13.trans g4
      cases go with
      | none =>
        refine s_ret g14.fh (P := D K .none) ?_ fun v F5 H5 g5 hv => k v F5 H5 (g14.trans g5) hv
        exact e_ixL (ds := [.tuple [dP p, dT t], .none]) (i := 1) (e_lst (ds := [.tuple [dP p, dT t], .none]) (ea_cons (e_var rfl (dpx g13.ff _ _ h2)) (ea_cons e_c ea_nil))) (e_intB (b := true) (e_isN (d := .none) (e_var rfl h6) e_c)) (atI_nat (j := 1) rfl)
      | some q =>
        have hq : q = p := by simpa using hbb
        refine s_ret g14.fh (P := D K (.tuple [dP p, dT t])) ?_ fun v F5 H5 g5 hv => k v F5 H5 (g14.trans g5) ?_
        · exact e_ixL (ds := [.tuple [dP p, dT t], .none]) (i := 0) (e_lst (ds := [.tuple [dP p, dT t], .none]) (ea_cons (e_var rfl (dpx g13.ff _ _ h2)) (ea_cons e_c ea_nil))) (e_intB (b := false) (e_isN (d := dP q) (e_var rfl h6) e_c)) (atI_nat (j := 0) rfl)
        simp only [if_pos hq]
        exact hv
    · have g14 := g13.trans g4
      cases go with
      | none => exact absurd hbb (by simp)
      | some q =>
        have hq : q ≠ p := by simpa using hbb
        have h6 : D K (dP q) v6 F3 := h6
        refine q_asg g14.fh (e_sgn R (e_lrows (K := K) (e_var rfl (ml g14.ff))) (e_var rfl h6)) fun v7 F5 H5 g5 h7 => ?_
        have g15 := g14.trans g5
        simp only [if_neg hq] at k
        have mt := dpx (g3.ff.trans g5.ff) _ _ h5
        cases hlk : L.book.lookup (sgn L.rows q) with
        | none =>
          rw [hlk] at k
          refine q_when g15.fh (b := false) (t_test (e_din (e_var rfl h7) (e_lbook (K := K) (e_var rfl (ml g15.ff))) fun kvs F1 _ h => ?_)) (fun z => Bool.noConfusion z) fun _ H6 g6 => ?_
          · rw [h, val_bk, hlk]; rfl
          · exact s_ret g6.fh (P := D K (.tuple [dP q, dT t])) (e_tup (ds := [dP q, dT t]) (ea_cons (e_var rfl (dpx g5.ff _ _ h6)) (ea_cons (e_var rfl mt) ea_nil))) fun v F7 H7 g7 hv => k v F7 H7 ((g15.trans g6).trans g7) hv
        | some b =>
          rw [hlk] at k
          have hb2 : b ∈ TURNS := (pagesOk W).2 _ (lookup_in hlk)
          refine q_when g15.fh (b := true) (t_test (e_din (e_var rfl h7) (e_lbook (K := K) (e_var rfl (ml g15.ff))) fun kvs F1 _ h => ?_)) (fun _ H6 g6 => ?_) (fun z => Bool.noConfusion z)
          · rw [h, val_bk, hlk]; rfl
          · refine s_asg g6.fh (e_lbec hb2 (turn_deeds t ht).1 (turn_deeds t ht).2 (e_dget (K := K) (e_lbook (K := K) (e_var rfl (ml g15.ff))) (e_var rfl h7) fun kvs F1 _ h => ⟨V.str (S b), ?_, Dp.str _⟩) (e_var rfl mt)) fun v8 F8 H8 g8 h8 => ?_
            · rw [h, val_bk, hlk]; rfl
            · refine nx_go ?_
              exact s_ret g8.fh (P := D K (.tuple [dP q, dT (thenT t b)])) (e_tup (ds := [dP q, dT (thenT t b)]) (ea_cons (e_var rfl (dpx (g5.ff.trans g8.ff) _ _ h6)) (ea_cons (e_var rfl h8) ea_nil))) fun v F7 H7 g7 hv => k v F7 H7 (((g15.trans g6).trans g8).trans g7) hv
def sp_law_gone (K : PySem.W.Frag) : Sp := Pr (fun x : LandM × Tx => [IsLand K x.1, D K (dT x.2)]) (fun x => WdOk x.1.wd ∧ (∀ d ∈ x.2, d ∈ DEEDS) ∧ x.2.length ≤ 1000) (fun x => D K (.list ((goneM x.1 (SL x.1) x.2).map dS)))
theorem dl_behind {Hb : Hp} {σ : L2.St} {F : Hp} {ta tb tc : TE} {E : XK} {L : LandM} {s : Sd} {d : Nat} (W : WdOk L.wd) (hs : okS L.rows s = true) (hd : d ∈ DEEDS) (h1 : EP ta σ F (IsLand K L)) (h2 : EPN Hb tb σ F (D K (dS s))) (h3 : EP tc σ F (D K (dC d))) : EPN Hb (tCall (sp_law_behind K) [] E (tCons ta (tCons tb (tCons tc tNil)))) σ F (D K (dS (behL L s d))) := e_callNN (L, s, d) (ean_cons h1.n (ean_cons h2 (ean_cons h3.n (EA.n ea_nil)))) ⟨W, hs, hd⟩
theorem sc_law_gone : FnScope ["_law_land_here", "_law_line_here", "_law_found", "_law_step"] ["_law_land_here", "_law_line_here"] (defScope s_law_gone) := ⟨rfl, rfl, rfl, by decide +kernel, rfl, by decide +kernel, by decide +kernel⟩
set_option maxHeartbeats 2000000 in
theorem bd_law_gone (T : Tt K mg) (G_law_behind : Cal P w K mg base 3 "_law_behind" ["_law_land_here", "_law_post", "_law_step"] (sp_law_behind K)) : BodyOk P w K mg base 3 "_law_gone" s_law_gone ["_law_land_here", "_law_line_here", "_law_found", "_law_step"] (sp_law_gone K) := by
  intro f cdv A outer s H vs Q E hr h
  have nd := sc_law_gone.nd
  have hu := hu_of hr
  have hu64 := hr.units
  have hu65 : (A.deeper (envOfC "_law_gone" (defScope s_law_gone) s.heap.objs.size f cdv)).units + 65 < cLine := by have := hr.un; omega
  obtain ⟨⟨L, r⟩, F, e, hA, ⟨W, hr', hl⟩, k⟩ := h
  obtain ⟨v, v2, rfl, hv, h2⟩ := all2 hA
  have W : WdOk L.wd := W
  have ml : ∀ {F1 : Hp}, Ex F F1 → IsLand K L v F1 := fun e1 => (inferInstance : Mn (IsLand K L)).mn e1 hv
  have hl : r.length ≤ 1000 := hl
  refine ⟨_, (pss_cons (ps_set (i := 2) nd rfl (Or.inl rfl) (pe_lst (pa_cons (pe_dget hu (pv 0) pe_str (fun _ _ => rfl)) pa_nil)))
      (pss_cons (ps_for PassesOwn.never rfl (pi_str (pv 1)) (pg_name (i := 3) nd rfl (Or.inl rfl)) (pss_one (ps_expr (pe_bm PySem.F.plainAttrs_list PySem.F.slot_list_append PySem.F.type_list_append mt_append (pv 2) (pa_cons (p_call G_law_behind hr (pa_cons (pv 0) (pa_cons (pe_ix ix_list (pv 2) (pe_un un_neg pe_int) (fun _ _ => rfl)) (pa_cons (pv 3) pa_nil)))) pa_nil)))))
      (pss_one (ps_ret (pv 2))))), ?_⟩
  refine q_own (K := K) (ds := [dS (SL L)]) e (ea_cons (e_lstart (K := K) (e_var rfl hv)) ea_nil) rfl fun l F1 H1 o1 => ?_
  refine q_for (K := K) o1.g.fh (i_str (z := S r) (e_var rfl (dpx o1.g.ff _ _ h2))) fun F4 H4 g4 => ⟨fun i σ' F' H' => Own K F H F' H' l ((goneN L (SL L) r i).map dS) ∧ Ex F4 F' ∧ ∃ a, σ' = [some v, some v2, some (.ref l), a], ⟨o1.gr g4, Ex.refl _, none, rfl⟩, fun i σ' F' H' q => ⟨q.2.1, q.1.g.fh⟩, ?_, ?_⟩
  · rintro i dd y σ' F' H' F5 H5 hdd ⟨o5, e5, a, rfl⟩ g5 hy
    rw [show signs (S r) = r.map dC from rfl, List.getElem?_map] at hdd
    obtain ⟨d, hdi, rfl⟩ := Option.map_eq_some_iff.mp hdd
    have hd : d ∈ DEEDS := hr' d (List.mem_of_getElem? hdi)
    have o6 := o5.gr g5
    have et : r.take (i + 1) = r.take i ++ [d] := by rw [List.take_add_one, hdi]; rfl
    have hi : i < r.length := (List.getElem?_eq_some_iff.mp hdi).1
    have hok : okS L.rows (runL L (SL L) (r.take i)) = true := runL_ok W _ (s0_ok W) fun c hc => hr' c (List.mem_of_mem_take hc)
    refine s_appN (n := 2000) (d := dS (behL L (runL L (SL L) (r.take i)) d)) o6 rfl ?_ rfl (dl_behind W hok hd (e_var rfl (ml o6.g.ff)) (e_ownIx o6 rfl (e_neg e_c) (goneN_last L (SL L) r i)) (e_var rfl hy)) fun F7 H7 o7 e7 => ⟨F7, ?_, (e5.trans g5.ff).trans e7, _, rfl⟩
    · rw [List.length_map]
      unfold goneN
      rw [List.length_map, List.length_range]
      omega
    · rw [goneN_succ, et, runL_snoc, List.map_append]
      exact o7
  · rintro σ' F' H' ⟨o5, e5, a, rfl⟩
    have el : (signs (S r)).length = r.length := by rw [show signs (S r) = r.map dC from rfl, List.length_map]
    rw [el] at o5
    exact s_retOwn o5 rfl fun v F7 H7 g7 hv => k v F7 H7 g7 hv
end
end OL
-- OhW16
set_option maxHeartbeats 1000000
/-! The walk, part 16: never. -/
namespace OL
open PySem PySem.Spec PyProof.Rows L2
open SX (S)
open Evl (Ex)
open OH
section
variable {P : Program} {w : World} {K : PySem.W.Frag} {mg : Str → Option Value} {base : Heap}
def NeverL (L : LandM) : Prop := ∀ v, (∀ d ∈ v, d ∈ DEEDS) → OH.wished L.ws (runL L (SL L) v) = false
def RchL (L : LandM) (s : Sd) : Prop := ∃ r, (∀ d ∈ r, d ∈ DEEDS) ∧ s = runL L (SL L) r
theorem RchL.ok {L : LandM} (W : WdOk L.wd) {s : Sd} (h : RchL L s) : okS L.rows s = true := by
  obtain ⟨r, hr, rfl⟩ := h
  exact runL_ok W r (s0_ok W) hr
theorem RchL.next {L : LandM} {s : Sd} (h : RchL L s) {d : Nat} (hd : d ∈ DEEDS) : RchL L (behL L s d) := by
  obtain ⟨r, hr, rfl⟩ := h
  refine ⟨r ++ [d], fun c hc => ?_, by rw [runL_snoc]⟩
  rcases List.mem_append.mp hc with h | h
  · exact hr c h
  · rw [List.mem_singleton.mp h]; exact hd
theorem okSt {L : LandM} (W : WdOk L.wd) {s : Sd} (h : okS L.rows s = true) : okD 2 (dS s) := okS_ fun p t e => by
  subst e
  exact of_decide_eq_true (Bool.and_eq_true_iff.mp h).2
def sp_law_never (K : PySem.W.Frag) : Sp := Pr (fun L : LandM => [IsLand K L]) (fun L => WdOk L.wd ∧ NeverL L) (fun _ => D K (.bool true))
theorem sc_law_never : FnScope ["_law_land_here", "_law_found", "_law_k", "_law_post", "_law_step", "_law_there"] ["_law_land_here"] (defScope s_law_never) := ⟨rfl, rfl, rfl, by decide +kernel, rfl, by decide +kernel, by decide +kernel⟩
set_option maxHeartbeats 2000000 in
theorem bd_law_never (T : Tt K mg) (G_law_behind : Cal P w K mg base 3 "_law_behind" ["_law_land_here", "_law_post", "_law_step"] (sp_law_behind K)) : BodyOk P w K mg base 3 "_law_never" s_law_never ["_law_land_here", "_law_found", "_law_k", "_law_post", "_law_step", "_law_there"] (sp_law_never K) := by
  intro f cdv A outer s H vs Q E hr h
  have nd := sc_law_never.nd
  have hu := hu_of hr
  have hu64 := hr.units
  have hu65 : (A.deeper (envOfC "_law_never" (defScope s_law_never) s.heap.objs.size f cdv)).units + 65 < cLine := by have := hr.un; omega
  obtain ⟨L, F, e, hA, ⟨W, hnv⟩, k⟩ := h
  obtain ⟨v, rfl, hv⟩ := all1 hA
  have W : WdOk L.wd := W
  have ml : ∀ {F1 : Hp}, Ex F F1 → IsLand K L v F1 := fun e1 => (inferInstance : Mn (IsLand K L)).mn e1 hv
  refine ⟨_, (pss_cons (ps_set (i := 1) nd rfl (Or.inl rfl) (pe_lst (pa_cons (pe_dget hu (pv 0) pe_str (fun _ _ => rfl)) pa_nil)))
      (pss_cons (ps_set (i := 2) nd rfl (Or.inl rfl) pe_int)
      (pss_cons (ps_while PassesOwn.never (pt_cmpR op_lt (pv 2) (pe_callB (id := "len") call_len_seq (by rfl) T.f_len boot_len (pa_cons (pv 1) pa_nil)) (nomark _)) (pss_cons (ps_set (i := 3) nd rfl (Or.inl rfl) (pe_ix ix_list (pv 1) (pv 2) (fun _ _ => rfl)))
      (pss_cons (ps_if (PW.pt (pw_and (pt_cmpR op_notN (pv 3) pe_non (nomark _)) (pw_and1 (pt_cmpR (op_inD hu65) (pe_ix ix_tup (pv 3) pe_int (fun _ _ => rfl)) (pe_dget hu (pv 0) pe_str (fun _ _ => rfl)) (by rfl))))) (pss_one (ps_ret pe_bl)) pss_nil)
      (pss_cons (ps_for PassesOwn.never rfl (pi_str pe_str) (pg_name (i := 4) nd rfl (Or.inl rfl)) (pss_cons (ps_set (i := 5) nd rfl (Or.inl rfl) (p_call G_law_behind hr (pa_cons (pv 0) (pa_cons (pv 3) (pa_cons (pv 4) pa_nil)))))
      (pss_one (ps_if (pt_cmpR (op_notInD hu65) (pv 5) (pv 1) (by rfl)) (pss_one (ps_expr (pe_bm PySem.F.plainAttrs_list PySem.F.slot_list_append PySem.F.type_list_append mt_append (pv 1) (pa_cons (pv 5) pa_nil)))) pss_nil))))
      (pss_one (ps_set (i := 2) nd rfl (Or.inl rfl) (pe_op op_add (pv 2) pe_int)))))))
      (pss_one (ps_ret pe_bl))))), ?_⟩
  refine q_own (K := K) (ds := [dS (SL L)]) e (ea_cons (e_lstart (K := K) (e_var rfl hv)) ea_nil) rfl fun l F1 H1 o1 => ?_
  refine q_asg o1.g.fh (P := Vx (.int 0)) e_v fun v2 F2 H2 g2 h2 => ?_
  cases h2
  have o2 := o1.gr g2
  obtain ⟨Fx0, e0, gx0, hx0, bk0⟩ := o2.seen
  have rl : ∀ seen : List Sd, seen.Nodup → (∀ s ∈ seen, RchL L s) → seen.length ≤ 289 := fun seen h1 h2 => Nat.le_trans (OH.nodup_len _ _ h1 fun s hs => allS_in ((h2 s hs).ok W)) (allS_len W.R)
  refine q_while (F := Fx0) (fun m σ' Fx H' => ∃ (F' : Hp) (seen : List Sd) (i : Nat) (a b c : Option V), Own K F H F' H' l (seen.map dS) ∧ seen.Nodup ∧ (∀ s ∈ seen, RchL L s) ∧ m = 300 - i ∧ σ' = [some v, some (.ref l), some (.int i), a, b, c] ∧ Ex F' Fx ∧ Gr F H Fx H' ∧ D K (.list (seen.map dS)) (.ref l) Fx ∧ ∀ H1, Gr Fx H' Fx H1 → Gr F' H' F' H1) 300 ⟨F2, [SL L], 0, none, none, none, o2, by simp, fun s hs => ⟨[], by simp, by rw [List.mem_singleton.mp hs]; rfl⟩, rfl, rfl, e0, gx0, hx0, bk0⟩ ?_
  rintro m σ' Fx H' ⟨F', seen, i, a, b, c, o, hnd, hrc, rfl, rfl, ex, gx, hx, bk⟩
  have hlen := rl seen hnd hrc
  refine ⟨gx.fh, decide ((i : Int) < (seen.length : Int)), t_test (e_I0 (i := (i : Int)) (j := (seen.length : Int)) (e_var rfl (Dp.int _)) (EP.eq (e_lenL (e_var rfl hx)) (by rw [List.length_map]))), fun hb H3 g3 => ?_, fun hb H3 g3 => ?_⟩
  · have hi : i < seen.length := by have := of_decide_eq_true hb; omega
    have o3 := o.gr (bk H3 g3)
    obtain ⟨s, hs⟩ : ∃ s, seen[i]? = some s := ⟨_, List.getElem?_eq_getElem hi⟩
    have hsm : s ∈ seen := List.mem_of_getElem? hs
    have hok := (hrc s hsm).ok W
    refine q_asgN o3.g.fh (P := D K (dS s)) (e_ownIx o3 rfl (e_var rfl (Dp.int _)) (atI_nat (j := i) (by rw [List.getElem?_map, hs]; rfl))) fun v4 F4 H4 g4 h4 => ?_
    have o4 := o3.gr g4
    have hno : OH.wished L.ws s = false := by
      obtain ⟨r, hr, rfl⟩ := hrc s hsm
      exact hnv r hr
    refine q_when o4.g.fh (b := false) ?_ (fun z => Bool.noConfusion z) fun _ H5 g5 => ?_
    · cases s with
      | none => exact t_and (a := false) (b := false) (t_test (e_notN (d := .none) (e_var rfl h4) e_c)) fun z => Bool.noConfusion z
      | some pt =>
        obtain ⟨p, t⟩ := pt
        have h4 : D K (.tuple [dP p, dT t]) v4 F4 := h4
        refine t_eq (t_and (a := true) (b := decide (p ∈ L.ws)) (t_test (e_notN (d := .tuple [dP p, dT t]) (e_var rfl h4) e_c)) fun _ => t_test (e_inD eqv_P (x := p) (xs := L.ws) (n := 1) (e_ixT (e_var rfl h4) e_c (atI_nat (j := 0) rfl)) (e_lwished (K := K) (e_var rfl (ml o4.g.ff))) (okP_ p) (fun y _ => okP_ y) (by decide))) ?_
        rw [Bool.true_and]
        exact hno
    have o5 := o4.gr g5
    refine q_for (K := K) o5.g.fh (i_str (z := "urdl") e_c) fun F6 H6 g6 => ⟨fun j σ' F' H' => ∃ (seen' : List Sd) (b c : Option V), Own K F H F' H' l (seen'.map dS) ∧ seen'.Nodup ∧ (∀ s ∈ seen', RchL L s) ∧ Ex F6 F' ∧ σ' = [some v, some (.ref l), some (.int i), some v4, b, c], ⟨seen, b, c, o5.gr g6, hnd, hrc, Ex.refl _, rfl⟩, fun i σ' F' H' q => by obtain ⟨_, _, _, q1, _, _, q2, _⟩ := q; exact ⟨q2, q1.g.fh⟩, ?_, ?_⟩
    · rintro j dd y σ' F7 H7 F8 H8 hdd ⟨seen', b, c, o7, hnd', hrc', e7, rfl⟩ g8 hy
      have hsg : signs "urdl" = DEEDS.map dC := by unfold signs; rw [deeds_tl]
      rw [hsg, List.getElem?_map] at hdd
      obtain ⟨d, hdi, rfl⟩ := Option.map_eq_some_iff.mp hdd
      have hd : d ∈ DEEDS := List.mem_of_getElem? hdi
      have o8 := o7.gr g8
      refine q_asg g8.fh (P := D K (dS (behL L s d))) (e_call (L, s, d) (ea_cons (e_var rfl (ml o8.g.ff)) (ea_cons (e_var rfl (dpx (((g6.ff.trans e7).trans g8.ff)) _ _ h4)) (ea_cons (e_var rfl hy) ea_nil))) ⟨W, hok, hd⟩) fun v9 F9 H9 g9 h9 => ?_
      have o9 := o8.gr g9
      have hl' := rl seen' hnd' hrc'
      obtain ⟨Fx, ex9, gx9, hx9, bk9⟩ := o9.seen
      refine s_when gx9.fh (b := !decide (behL L s d ∈ seen')) (t_test (e_niD eqv_S (n := 2) (e_var rfl (dpx ex9 _ _ h9)) (e_var rfl hx9) (okSt W (behL_ok W hok hd)) (fun y hy => okSt W ((hrc' y hy).ok W)) (by decide))) (fun hb H10 g10 => ?_) fun hb H10 g10 => ?_
      · have o10 := o9.gr (bk9 H10 g10)
        have hnin : behL L s d ∉ seen' := by simpa using hb
        refine s_app (n := 300) (d := dS (behL L s d)) o10 rfl (by rw [List.length_map]; omega) rfl (e_var rfl h9) fun F11 H11 o11 e11 => ⟨F11, seen' ++ [behL L s d], _, _, ?_, ?_, ?_, ((e7.trans g8.ff).trans g9.ff).trans e11, rfl⟩
        · rw [List.map_append]; exact o11
        · rw [List.nodup_append]
          refine ⟨hnd', by simp, fun a ha b hb => ?_⟩
          rw [List.mem_singleton.mp hb]
          intro e
          exact hnin (e ▸ ha)
        · intro x hx
          rcases List.mem_append.mp hx with h | h
          · exact hrc' x h
          · rw [List.mem_singleton.mp h]; exact (hrc s hsm).next hd
      · exact ⟨F9, seen', _, _, o9.gr (bk9 H10 g10), hnd', hrc', (e7.trans g8.ff).trans g9.ff, rfl⟩
    · rintro σ' F7 H7 ⟨seen', b, c, o7, hnd', hrc', e7, rfl⟩
      refine s_asg o7.g.fh (P := D K (.int ((i : Int) + 1))) (e_I0 (e_var rfl (Dp.int _)) e_c) fun v8 F8 H8 g8 h8 => ?_
      · rw [dInt h8]
        have o8 := o7.gr g8
        obtain ⟨Fx, ex8, gx8, hx8, bk8⟩ := o8.seen
        exact ⟨300 - (i + 1), Fx, by omega, F8, seen', i + 1, _, _, _, o8, hnd', hrc', rfl, rfl, ex8, gx8, hx8, bk8⟩
  · exact s_ret g3.fh (P := D K (.bool true)) e_c fun v F3 H3' g3' hv => k v F3 H3' (gx.trans (g3.trans g3')) hv
end
end OL
-- OhW17
set_option maxHeartbeats 1000000
/-! The walk, part 17: the strange letters, bare. -/
namespace OL
open PySem PySem.Spec PyProof.Rows L2
open SX (S)
open Evl (Ex)
open OH
section
variable {K : PySem.W.Frag} {σ : L2.St} {F : Hp} {L : LandM}
def strangeB (b : Bk) : Bk := b.filter fun x => !decide (x.2 = DEEDS)
def accS (b : Bk) : List V := (strangeB b).map fun x => V.str ⟨#[x.1]⟩
theorem land_ne {b : Bk} {r st bk ws : V} : landV r st bk ws ≠ bkV b := fun h => by
  cases b with
  | nil => cases h
  | cons x b =>
    have h1 := (List.cons.inj h).1
    have h2 : (Sum.inr "rows" : Key) = Sum.inr ⟨#[x.1]⟩ := congrArg Prod.fst h1
    have h3 := congrArg (fun s : Str => s.cps.size) (Sum.inr.inj h2)
    revert h3
    show ¬ (("rows" : Str).cps.size = 1)
    decide +kernel
theorem e_strange {i j : Nat} {v : V} {vs : List Nat} (h0 : σ[i]? = some (some v)) (hi : ∀ u, ((wipe σ vs).set j (some u))[i]? = some (some v)) (hj : ∀ u : V, ((wipe σ vs).set j (some u))[j]? = some (some u)) (hw : ∀ u, wipe ((wipe σ vs).set j (some u)) vs = wipe σ vs)
    (hv : IsLand K L v F) (hn : L.book.length ≤ 1000) (hlk : ∀ x ∈ L.book, L.book.lookup x.1 = some x.2) :
    EP (tLockE (tLc (iKeys (tDGet (tVar i) (tC (.str "book")))) (gName j) (tTest (tOp rNe (tDGet (tDGet (tVar i) (tC (.str "book"))) (tVar j)) (tC (.str "urdl")))) (tVar j) vs)) σ F (D K (.list ((strangeB L.book).map fun x => dC x.1))) := fun F1 H1 e b Q q => by
  obtain ⟨a, kvs, rfl, ha, r, st, bk, ws, rfl, lf⟩ := (inferInstance : Mn (IsLand K L)).mn e hv
  obtain ⟨ba, kvs2, rfl, hba, hkk⟩ := lf.bk
  have hkk : kvs2 = bkV L.book := hkk
  subst hkk
  have hba1 := b _ _ hba
  have ha1 := b _ _ ha
  have hne : a ≠ ba := fun z => by
    subst z
    rw [ha] at hba
    injection hba with h
    injection h with h
    exact land_ne h
  refine ⟨ba, .dK (bkV L.book), hba1, trivial, fun od => ?_⟩
  have hget : ∀ Hx : Hp, Hx a = some (.dK (landV r st (.ref ba) ws)) → DGet Hx a (.str "book") (some (.ref ba)) := fun Hx h => .inl ⟨_, .inr "book", .inl h, rfl, rfl⟩
  have hLa : upd H1 ba (.frz od (.dK (bkV L.book))) a = some (.dK (landV r st (.ref ba) ws)) := by rw [upd_ne hne]; exact ha1
  refine ⟨_, h0, a, _, rfl, hget _ hLa, ba, od, rfl, .inl ⟨bkV L.book, upd_same, ?_⟩⟩
  intro Dl hD
  have hDb : Dl ≠ ba := fun z => by rw [z, upd_same] at hD; cases hD
  have hDa : Dl ≠ a := fun z => by rw [z, hLa] at hD; cases hD
  have hD1 : H1 Dl = none := by rw [upd_ne hDb] at hD; exact hD
  refine ⟨fun k m H' => m = L.book.length - k ∧ k ≤ L.book.length ∧ H' = upd (upd H1 ba (.frz od (.dK (bkV L.book)))) Dl (.lst (accS (L.book.take k))), ⟨_, rfl, Nat.zero_le _, rfl⟩, ?_⟩
  rintro k m H' ⟨rfl, hk, rfl⟩
  have hfr : upd (upd H1 ba (.frz od (.dK (bkV L.book)))) Dl (.lst (accS (L.book.take k))) ba = some (.frz od (.dK (bkV L.book))) := by rw [upd_ne (Ne.symm hDb), upd_same]
  have hla : upd (upd H1 ba (.frz od (.dK (bkV L.book)))) Dl (.lst (accS (L.book.take k))) a = some (.dK (landV r st (.ref ba) ws)) := by rw [upd_ne (Ne.symm hDa)]; exact hLa
  have hbl : (bkV L.book).length = L.book.length := List.length_map ..
  by_cases hlt : k < L.book.length
  · refine .inr ⟨⟨hfr, by rw [hbl]; exact hlt⟩, fun H' => H' = upd (upd H1 ba (.frz od (.dK (bkV L.book)))) Dl (.lst (accS (L.book.take (k + 1)))), fun H' h => ⟨L.book.length - (k + 1), by omega, rfl, hlt, h⟩, ?_⟩
    rintro x H' ⟨rfl, kk, kv, hkv, rfl⟩
    have hx : L.book[k]? = some L.book[k] := List.getElem?_eq_getElem hlt
    have hkx : kk = Sum.inr ⟨#[L.book[k].1]⟩ := by
      unfold bkV at hkv
      rw [List.getElem?_map, hx] at hkv
      exact (congrArg Prod.fst (Option.some.inj hkv)).symm
    subst hkx
    have hlook := hlk _ (List.getElem_mem hlt)
    have et : L.book.take (k + 1) = L.book.take k ++ [L.book[k]] := by rw [List.take_add_one, hx]; rfl
    refine ⟨hw _, ⟨_, hi _, a, _, rfl, hget _ hla, _, hj _, ba, V.str (S L.book[k].2), rfl, .inl ⟨_, .inr ⟨#[L.book[k].1]⟩, .inr ⟨_, hfr⟩, rfl, ?_⟩, rfl, _, rfl, ?_⟩⟩
    · rw [val_bk, hlook]; rfl
    · have hd : decide (V.str (S L.book[k].2) = V.str "urdl") = decide (L.book[k].2 = DEEDS) := by
        rw [dec_s, show ("urdl" : Str) = S DEEDS from by decide +kernel]
        rw [decide_eq_decide]
        exact ⟨fun h => by have := congrArg (fun s : Str => s.cps.toList) h; simpa [S] using this, fun h => by rw [h]⟩
      rw [hd]
      have hstep : ∀ y : Bool, (!decide (L.book[k].2 = DEEDS)) = y → accS (L.book.take (k + 1)) = accS (L.book.take k) ++ (if y = true then [V.str ⟨#[L.book[k].1]⟩] else []) := fun y hy => by
        unfold accS strangeB
        rw [et, List.filter_append, List.map_append, List.filter_cons, hy]
        cases y <;> rfl
      cases hy : !decide (L.book[k].2 = DEEDS) with
      | true =>
        refine iteT ⟨_, hj _, accS (L.book.take k), upd_same, ?_, ?_⟩
        · have h1 : (accS (L.book.take k)).length ≤ (L.book.take k).length := by unfold accS strangeB; rw [List.length_map]; exact List.length_filter_le _ _
          rw [List.length_take] at h1
          exact Nat.lt_of_lt_of_le (show _ < 100000 by omega) (by decide)
        · rw [hstep _ hy]
          exact upd_upd
      | false =>
        refine iteF ?_
        show _ = _
        rw [hstep _ hy]
        simp
  · have e3 : k = L.book.length := by omega
    subst e3
    refine .inl ⟨⟨hfr, by rw [hbl]; exact Nat.le_refl _⟩, hfr, ?_⟩
    rw [List.take_length]
    have hup : upd (upd (upd H1 ba (.frz od (.dK (bkV L.book)))) Dl (.lst (accS L.book))) ba (.dK (bkV L.book)) = upd H1 Dl (.lst (accS L.book)) := by
      funext z
      by_cases z1 : z = ba
      · subst z1; rw [upd_same, upd_ne (Ne.symm hDb), hba1]
      · rw [upd_ne z1]
        by_cases z2 : z = Dl
        · subst z2; rw [upd_same, upd_same]
        · rw [upd_ne z2, upd_ne z2, upd_ne z1]
    rw [hup]
    refine q _ _ _ (Gr.new b hD1) (Dp.lst (Evl.sq_of upd_same) ?_)
    generalize upd F1 Dl (.lst (accS L.book)) = Fz
    unfold accS
    induction strangeB L.book with
    | nil => exact .nil
    | cons x xs ih => exact .cons (Dp.str _) ih
end
end OL
-- OhW18
set_option maxHeartbeats 1000000
/-! The walk, part 18: bare. -/
namespace OL
open PySem PySem.Spec PyProof.Rows L2
open SX (S)
open Evl (Ex)
open OH
section
variable {P : Program} {w : World} {K : PySem.W.Frag} {mg : Str → Option Value} {base : Heap}
/-- the sign of a floor laid bare -/
def bareC (L : LandM) (sp go : Pl) (p : Pl) (c : Nat) : Nat := match L.book.lookup c with
  | none => c
  | some b => if b ≠ DEEDS ∧ p ≠ sp ∧ p ≠ go then 120 else 46
def bareR (L : LandM) (sp go : Pl) (y : Nat) (r : Tx) (n : Nat) : Tx := (List.range n).map fun (x : Nat) => bareC L sp go (((y : Nat) : Int), ((x : Nat) : Int)) (r.getD x 0)
def bareM (L : LandM) (sp go : Pl) (n : Nat) : List Tx := (List.range n).map fun y => bareR L sp go y (L.rows.getD y []) (L.rows.getD y []).length
theorem lookup_nd : ∀ {b : Bk}, (b.map Prod.fst).Nodup → ∀ x ∈ b, b.lookup x.1 = some x.2
  | [], _, x, h => by cases h
  | y :: b, hn, x, h => by
    have hn := List.nodup_cons.mp hn
    rw [List.lookup_cons]
    rcases List.mem_cons.mp h with rfl | h
    · rw [beq_self_eq_true]
    · have hne : x.1 ≠ y.1 := fun z => hn.1 (z ▸ List.mem_map.mpr ⟨x, h, rfl⟩)
      rw [show (x.1 == y.1) = false from by simp [hne]]
      exact lookup_nd hn.2 x h
theorem eqv_C (a b : Nat) : PyData.eqv (dC a) (dC b) = decide (a = b) := by
  have h := eqv_T [a] [b]
  have e : ∀ c : Nat, dC c = dT [c] := fun c => rfl
  rw [e, e, h]
  simp
theorem okC_ {c : Nat} (h : c ∈ SIGNS) : okD 0 (dC c) := ⟨(by decide +kernel : ∀ c ∈ SIGNS, (dC c).canLay0 = true) c h, Nat.le_refl _⟩
theorem mem_strange {b : Bk} (hn : (b.map Prod.fst).Nodup) {c : Nat} : c ∈ (strangeB b).map Prod.fst ↔ ∃ t, b.lookup c = some t ∧ t ≠ DEEDS := by
  unfold strangeB
  constructor
  · intro h
    obtain ⟨x, hx, rfl⟩ := List.mem_map.mp h
    obtain ⟨h1, h2⟩ := List.mem_filter.mp hx
    exact ⟨x.2, lookup_nd hn x h1, by simpa using h2⟩
  · rintro ⟨t, h1, h2⟩
    exact List.mem_map.mpr ⟨(c, t), List.mem_filter.mpr ⟨lookup_in h1, by simpa using h2⟩, rfl⟩
def sp_law_bare (K : PySem.W.Frag) : Sp := Pr (fun x : LandM × Pl × Pl => [IsLand K x.1, D K (dP x.2.1), D K (dP x.2.2)]) (fun x => WdOk x.1.wd) (fun x => D K (.list (dL (bareM x.1 x.2.1 x.2.2 x.1.rows.length))))
theorem sc_law_bare : FnScope ["_law_land_here", "_law_spot", "_law_goal", "_law_strange", "_law_found", "_law_y", "_law_line_here", "_law_text", "_law_x", "_law_sign_here", "_law_letter"] ["_law_land_here", "_law_spot", "_law_goal"] (defScope s_law_bare) := ⟨rfl, rfl, rfl, by decide +kernel, rfl, by decide +kernel, by decide +kernel⟩
set_option maxHeartbeats 2000000 in
theorem bd_law_bare (T : Tt K mg)  : BodyOk P w K mg base 0 "_law_bare" s_law_bare ["_law_land_here", "_law_spot", "_law_goal", "_law_strange", "_law_found", "_law_y", "_law_line_here", "_law_text", "_law_x", "_law_sign_here", "_law_letter"] (sp_law_bare K) := by
  intro f cdv A outer s H vs Q E hr h
  have nd := sc_law_bare.nd
  have hu := hu_of hr
  have hu64 := hr.units
  have hu65 : (A.deeper (envOfC "_law_bare" (defScope s_law_bare) s.heap.objs.size f cdv)).units + 65 < cLine := by have := hr.un; omega
  obtain ⟨⟨L, sp, go⟩, F, e, hA, W, k⟩ := h
  obtain ⟨v, v2, v3, rfl, hv, h2, h3⟩ := all3 hA
  have W : WdOk L.wd := W
  have R : Rows L.rows := W.R
  have B := pagesOk W
  have hbk : pagesM L.wd = L.book := rfl
  rw [hbk] at B
  have hnd : (L.book.map Prod.fst).Nodup := by rw [B.1]; exact lettersM_nd _
  have hkeys : ∀ c ∈ L.book.map Prod.fst, c ∈ LETTERS := fun c hc => by rw [B.1] at hc; exact (List.mem_filter.mp hc).1
  have ml : ∀ {F1 : Hp}, Ex F F1 → IsLand K L v F1 := fun e1 => (inferInstance : Mn (IsLand K L)).mn e1 hv
  refine ⟨_, (pss_cons (ps_lock (ps_setLc (i := 3) (own := [("_law_letter", 10)]) (by rfl) nd rfl rfl (sw_true rfl rfl rfl (by decide +kernel)) (pi_keys (pe_dget hu (pv 0) pe_str (fun _ _ => rfl))) (blkOk_by (N := ["_law_land_here", "_law_spot", "_law_goal", "_law_strange", "_law_found", "_law_y", "_law_line_here", "_law_text", "_law_x", "_law_sign_here", "_law_letter"]) (sc := defScope s_law_bare) (own := [("_law_letter", 10)]) (by decide +kernel)) (fun _ _ _ _ _ => (pg_name (i := 10) nd rfl (Or.inl rfl))) (fun _ _ _ _ _ => (pts_one (pt_cmpR op_ne (pe_dget hu (pe_dget hu (pv 0) pe_str (fun _ _ => rfl)) (pv 10) (fun _ _ => rfl)) pe_str (nomark _)))) (fun _ _ _ _ _ => (pv 10))))
      (pss_cons (ps_set (i := 4) nd rfl (Or.inl rfl) (pe_lst pa_nil))
      (pss_cons (ps_for PassesOwn.never rfl (pi_enum (by rfl) T.f_enumerate (pa_cons (pe_dget hu (pv 0) pe_str (fun _ _ => rfl)) pa_nil)) (pg_tup (by rfl) (pgs_cons (pg_name (i := 5) nd rfl (Or.inl rfl)) (pgs_cons (pg_name (i := 6) nd rfl (Or.inl rfl)) pgs_nil))) (pss_cons (ps_set (i := 7) nd rfl (Or.inl rfl) pe_str)
      (pss_cons (ps_for PassesOwn.never rfl (pi_enumS (by rfl) T.f_enumerate (pa_cons (pv 6) pa_nil)) (pg_tup (by rfl) (pgs_cons (pg_name (i := 8) nd rfl (Or.inl rfl)) (pgs_cons (pg_name (i := 9) nd rfl (Or.inl rfl)) pgs_nil))) (pss_cons (ps_if (pt_cmp (pc_din hu (pv 9) (pe_dget hu (pv 0) pe_str (fun _ _ => rfl)))) (pss_one (ps_set (i := 9) nd rfl (Or.inl rfl) (pe_ix ix_list (pe_lst (pa_cons pe_str (pa_cons pe_str pa_nil))) (pe_callTy (T := "int") call_int1 (by rfl) T.f_int (by decide +kernel) (pa_cons (pe_and (pe_cmpR (op_inD hu65) (pv 9) (pv 3) (by rfl)) (pe_one (pe_cmpR (op_notInDT hu65) (pe_tup (pa_cons (pv 5) (pa_cons (pv 8) pa_nil))) (pe_tup (pa_cons (pv 1) (pa_cons (pv 2) pa_nil))) (by rfl)))) pa_nil)) (fun _ _ => rfl)))) pss_nil)
      (pss_one (ps_set (i := 7) nd rfl (Or.inl rfl) (pe_op op_add_str (pv 7) (pv 9))))))
      (pss_one (ps_expr (pe_bm PySem.F.plainAttrs_list PySem.F.slot_list_append PySem.F.type_list_append mt_append (pv 4) (pa_cons (pv 7) pa_nil)))))))
      (pss_one (ps_ret (pv 4)))))), ?_⟩
  refine (e_strange (i := 0) (j := 10) (vs := [10]) (σ := [some v, some v2, some v3, none, none, none, none, none, none, none, none]) rfl (fun _ => rfl) (fun _ => rfl) (fun _ => rfl) hv ?hn (lookup_nd hnd)) F H (Ex.refl F) e _ fun v4 F1 H1 g1 h4 => ?_
  case hn =>
    have h1 : (L.book.map Prod.fst).length ≤ 4 := by rw [B.1]; exact Nat.le_trans (List.length_filter_le _ _) (by decide)
    rw [List.length_map] at h1
    show L.book.length ≤ 1000
    omega
  refine q_own (K := K) (ds := []) g1.fh ea_nil rfl fun l F2 H2 o2 => ?_
  have w6 : ∀ r ∈ L.rows, r.length ≤ 6 := fun r hr => by have := (R.all r hr).1; have := R.w6; omega
  refine q_for (K := K) o2.g.fh (i_enum (ea_cons (e_lrows (K := K) (e_var rfl (ml (g1.ff.trans o2.g.ff)))) ea_nil)) fun F3 H3 g3 => ⟨fun i σ' F' H' => ∃ a b c d e, σ' = [some v, some v2, some v3, some v4, some (.ref l), a, b, c, d, e, none] ∧ Ex F3 F' ∧ Own K F1 H1 F' H' l ((bareM L sp go i).map dT), ⟨_, _, _, _, _, rfl, Ex.refl _, o2.gr g3⟩, fun i σ' F' H' q => ?_, ?_, ?_⟩
  · obtain ⟨_, _, _, _, _, _, e2, o2⟩ := q
    exact ⟨e2, o2.g.fh⟩
  · rintro i dd y σ' F' H' F4 H4 hdd ⟨a, b, c, d, ee, rfl, e2, o4⟩ g4 hy
    obtain ⟨r', hr', rfl⟩ := enum_get hdd
    obtain ⟨r, hr, rfl⟩ : ∃ r, L.rows[i]? = some r ∧ r' = dT r := by
      rw [dL, List.getElem?_map] at hr'
      obtain ⟨r, h1, h2⟩ := Option.map_eq_some_iff.mp hr'
      exact ⟨r, h1, h2.symm⟩
    have hrr : L.rows.getD i [] = r := by rw [List.getD_eq_getElem?_getD, hr]; rfl
    have hrm : r ∈ L.rows := List.mem_of_getElem? hr
    have hir : i < L.rows.length := (List.getElem?_eq_some_iff.mp hr).1
    have hl6 := w6 r hrm
    have o5 := o4.gr g4
    refine g_unp (d1 := .int (i : Int)) (d2 := dT r) g4.fh hy fun u1 u2 q1 q2 => ?_
    refine q_asg g4.fh (P := D K (dT [])) e_c fun u3 F5 H5 g5 q3 => ?_
    have o6 := o5.gr g5
    refine q_for (K := K) o6.g.fh (i_enumS (z := S r) (ea_cons (e_var rfl (dpx g5.ff _ _ q2)) ea_nil)) fun F6 H6 g6 => ⟨fun j σ' F' H' => ∃ t a b, σ' = [some v, some v2, some v3, some v4, some (.ref l), some u1, some u2, some t, a, b, none] ∧ D K (dT (bareR L sp go i r j)) t F' ∧ Ex F6 F' ∧ Own K F1 H1 F' H' l ((bareM L sp go i).map dT), ⟨_, _, _, rfl, dpx g6.ff _ _ q3, Ex.refl _, o6.gr g6⟩, fun i σ' F' H' q => ?_, ?_, ?_⟩
    · obtain ⟨_, _, _, _, _, e2, o2⟩ := q
      exact ⟨e2, o2.g.fh⟩
    · rintro j dd y σ' F7 H7 F8 H8 hdd ⟨t, a, b, rfl, ht, e7, o7⟩ g8 hy
      rw [enum_S, List.getElem?_map] at hdd
      obtain ⟨j', hj', rfl⟩ := Option.map_eq_some_iff.mp hdd
      have hjr : j < r.length ∧ j' = j := by
        have := List.getElem?_eq_some_iff.mp hj'
        obtain ⟨q1, q2⟩ := this
        rw [List.length_range] at q1
        rw [List.getElem_range] at q2
        exact ⟨q1, q2.symm⟩
      obtain ⟨hj, rfl⟩ := hjr
      have o8 := o7.gr g8
      have e8 : Ex F F8 := g1.ff.trans o8.g.ff
      have e48 : Ex F4 F8 := ((g5.ff.trans g6.ff).trans e7).trans g8.ff
      refine g_unp (d1 := .int (j' : Int)) (d2 := dC (r.getD j' 0)) g8.fh hy fun w1 w2 p1 p2 => ?_
      have hc : r.getD j' 0 ∈ SIGNS := by
        rw [List.getD_eq_getElem?_getD, List.getElem?_eq_getElem hj]
        exact (R.all r hrm).2 _ (List.getElem_mem hj)
      cases hlk : L.book.lookup (r.getD j' 0) with
      | none =>
        have hbc : bareC L sp go ((i : Int), (j' : Int)) (r.getD j' 0) = r.getD j' 0 := by unfold bareC; rw [hlk]
        refine q_when g8.fh (b := false) (t_test (e_din (e_var rfl p2) (e_lbook (K := K) (e_var rfl (ml e8))) fun kvs F1 _ h => ?_)) (fun z => Bool.noConfusion z) fun _ H9 g9 => ?_
        · rw [h, val_bk, hlk]; rfl
        · have p2 : D K (dC (bareC L sp go ((i : Int), (j' : Int)) (r.getD j' 0))) w2 F8 := by rw [hbc]; exact p2
          have gt := g9
          have ot := o8.gr gt
          have et : bareR L sp go i r (j' + 1) = bareR L sp go i r j' ++ [bareC L sp go ((i : Int), (j' : Int)) (r.getD j' 0)] := by
            unfold bareR
            rw [List.range_succ, List.map_append, List.map_singleton]
          refine s_asg gt.fh (P := D K (dT (bareR L sp go i r (j' + 1)))) ?_ fun w10 F10 H10 g10 p10 => ⟨F10, _, _, _, rfl, p10, ((e7.trans g8.ff).trans gt.ff).trans g10.ff, ot.gr g10⟩
          rw [et]
          refine (EP.eq (e_addS (a := S (bareR L sp go i r j')) (b := ⟨#[bareC L sp go ((i : Int), (j' : Int)) (r.getD j' 0)]⟩) (e_var rfl (dpx (g8.ff.trans gt.ff) _ _ ht)) (e_var rfl p2) ?_) (by rw [S_snoc]))
          have hz : (S (bareR L sp go i r j')).length = j' := by rw [len_S]; unfold bareR; rw [List.length_map, List.length_range]
          rw [hz]
          show j' + 1 ≤ 100000
          omega
      | some bt =>
        have hbc : bareC L sp go ((i : Int), (j' : Int)) (r.getD j' 0) = if bt ≠ DEEDS ∧ ((i : Int), (j' : Int)) ≠ sp ∧ ((i : Int), (j' : Int)) ≠ go then 120 else 46 := by unfold bareC; rw [hlk]
        have hcst : decide (r.getD j' 0 ∈ (strangeB L.book).map Prod.fst) = decide (bt ≠ DEEDS) := by
          rw [decide_eq_decide, mem_strange hnd, hlk]
          exact ⟨fun ⟨t, h1, h2⟩ => by cases h1; exact h2, fun h => ⟨bt, rfl, h⟩⟩
        refine q_when g8.fh (b := true) (t_test (e_din (e_var rfl p2) (e_lbook (K := K) (e_var rfl (ml e8))) fun kvs F1 _ h => ?_)) (fun _ H9 g9 => ?_) (fun z => Bool.noConfusion z)
        · rw [h, val_bk, hlk]; rfl
        · refine s_asg g9.fh (P := D K (dC (bareC L sp go ((i : Int), (j' : Int)) (r.getD j' 0)))) ?_ fun w9 F9 H9' g9' p9 => nx_go ?_
          · refine e_ixL (ds := [dC 46, dC 120]) (i := if (decide (r.getD j' 0 ∈ (strangeB L.book).map Prod.fst) && !decide (((i : Int), (j' : Int)) ∈ [sp, go])) = true then 1 else 0) (e_lst (ds := [dC 46, dC 120]) (ea_cons e_c (ea_cons e_c ea_nil))) (e_intB (e_and ?_ fun _ => ?_)) ?_
            · exact e_inD eqv_C (x := r.getD j' 0) (xs := (strangeB L.book).map Prod.fst) (n := 0) (e_var rfl p2) (e_var rfl (by rw [List.map_map]; exact dpx ((o2.g.ff.trans g3.ff).trans (e2.trans (g4.ff.trans e48))) _ _ h4)) (okC_ hc) (fun y hy => okC_ ((by decide : ∀ c ∈ LETTERS, c ∈ SIGNS) y (hkeys y (by obtain ⟨x, hx, rfl⟩ := List.mem_map.mp hy; exact List.mem_map.mpr ⟨x, (List.mem_filter.mp hx).1, rfl⟩)))) (by decide)
            · exact e_niDT eqv_P (x := ((i : Int), (j' : Int))) (xs := [sp, go]) (n := 1) (e_tup (ds := [.int (i : Int), .int (j' : Int)]) (ea_cons (e_var rfl (dpx e48 _ _ q1)) (ea_cons (e_var rfl p1) ea_nil))) (e_tup (ds := [dP sp, dP go]) (ea_cons (e_var rfl (dpx e8 _ _ h2)) (ea_cons (e_var rfl (dpx e8 _ _ h3)) ea_nil))) (okP_ _) (fun y _ => okP_ y) (by decide)
            · rw [hbc, hcst]
              have key : ∀ (b1 b2 : Bool) (Pq : Prop) [Decidable Pq], ((b1 && b2) = true ↔ Pq) → atI [dC 46, dC 120] (if (b1 && b2) = true then 1 else 0) = some (dC (if Pq then 120 else 46)) := by
                intro b1 b2 Pq _ h
                by_cases hp : Pq
                · rw [if_pos hp, if_pos (h.mpr hp)]; rfl
                · rw [if_neg hp, if_neg (fun z => hp (h.mp z))]; rfl
              refine key _ _ _ ?_
              simp only [Bool.and_eq_true, decide_eq_true_eq, Bool.not_eq_true', decide_eq_false_iff_not, List.mem_cons, List.not_mem_nil, or_false, not_or, ne_eq]
          · have gt := g9.trans g9'
            have ot := o8.gr gt
            have et : bareR L sp go i r (j' + 1) = bareR L sp go i r j' ++ [bareC L sp go ((i : Int), (j' : Int)) (r.getD j' 0)] := by
              unfold bareR
              rw [List.range_succ, List.map_append, List.map_singleton]
            refine s_asg gt.fh (P := D K (dT (bareR L sp go i r (j' + 1)))) ?_ fun w10 F10 H10 g10 p10 => ⟨F10, _, _, _, rfl, p10, ((e7.trans g8.ff).trans gt.ff).trans g10.ff, ot.gr g10⟩
            rw [et]
            refine (EP.eq (e_addS (a := S (bareR L sp go i r j')) (b := ⟨#[bareC L sp go ((i : Int), (j' : Int)) (r.getD j' 0)]⟩) (e_var rfl (dpx (g8.ff.trans gt.ff) _ _ ht)) (e_var rfl p9) ?_) (by rw [S_snoc]))
            have hz : (S (bareR L sp go i r j')).length = j' := by rw [len_S]; unfold bareR; rw [List.length_map, List.length_range]
            rw [hz]
            show j' + 1 ≤ 100000
            omega
    · rintro σ' F7 H7 ⟨t, a, b, rfl, ht, e7, o7⟩
      have el : (enumD (signs (S r))).length = r.length := by rw [enum_S, List.length_map, List.length_range]
      rw [el] at ht
      refine s_app (n := 10) (d := dT (bareR L sp go i r r.length)) o7 rfl ?_ rfl (e_var rfl ht) fun F8 H8 o8 e8 => ⟨F8, _, _, _, _, _, rfl, (((e2.trans g4.ff).trans g5.ff).trans g6.ff).trans (e7.trans e8), ?_⟩
      · rw [List.length_map]
        unfold bareM
        rw [List.length_map, List.length_range]
        have := R.h6
        omega
      · have e3 : bareM L sp go (i + 1) = bareM L sp go i ++ [bareR L sp go i r r.length] := by
          unfold bareM
          rw [List.range_succ, List.map_append, List.map_singleton, hrr]
        rw [e3, List.map_append]
        exact o8
  · rintro σ' F7 H7 ⟨a, b, c, d, ee, rfl, e7, o7⟩
    have el : (enumD (dL L.rows)).length = L.rows.length := by simp [enumD, dL]
    rw [el] at o7
    exact s_retOwn o7 rfl fun v F7 H7 g7 hv => k v F7 H7 (g1.trans g7) hv
end
end OL
-- OhW19
set_option maxHeartbeats 1000000
/-! The walk, part 19: cuts. -/
namespace OL
open PySem PySem.Spec PyProof.Rows L2
open SX (S)
open Evl (Ex)
open OH
section
variable {P : Program} {w : World} {K : PySem.W.Frag} {mg : Str → Option Value} {base : Heap}
/-- a cut at k: another place, a strange letter there -/
def cutB (L : LandM) (gs : List (Pl × Tx)) (k : Nat) : Bool := !decide ((gs.getD k ((0, 0), [])).1 = (gs.getD (k - 1) ((0, 0), [])).1) && !decide ((L.book.lookup (sgn L.rows (gs.getD k ((0, 0), [])).1)).getD DEEDS = DEEDS)
def cuts0 (L : LandM) (gs : List (Pl × Tx)) (n : Nat) : List Nat := 0 :: ((List.range n).map (· + 1)).filter (cutB L gs)
def cutsM (L : LandM) (gs : List (Pl × Tx)) (n : Nat) : List Nat := cuts0 L gs (gs.length - 1) ++ List.replicate (if (cuts0 L gs (gs.length - 1)).getLastD 0 < n then 1 else 0) n
def dN (k : Nat) : PyData := .int (k : Int)
def sp_law_cuts (K : PySem.W.Frag) : Sp := Pr (fun x : LandM × Tx × List (Pl × Tx) => [IsLand K x.1, D K (dT x.2.1), D K (.list (x.2.2.map fun y => dS (some y)))]) (fun x => WdOk x.1.wd ∧ x.2.1.length ≤ 1000 ∧ 1 ≤ x.2.2.length ∧ x.2.2.length ≤ 1001) (fun x => D K (.list ((cutsM x.1 x.2.2 x.2.1.length).map dN)))
section
variable {σ : L2.St} {F : Hp} {ta tb : TE}
theorem e_lstH {t : TA} {ds : List PyData} (h : EA t σ F (ds.map (D K))) (hl : ds.length ≤ 100000) : EP (tLst t) σ F (LstD K ds) := fun F1 H1 e b Q q =>
  h F1 H1 e b _ fun vs F2 H2 g hs => ⟨line_of (by have := dlen (allD hs); omega), fun p hp => q _ (upd F2 p (.lst vs)) _ (g.trans (Gr.new g.fh hp)) ⟨p, vs, rfl, upd_same, dpxs (Ex.new (ex_none g.fh hp)) _ _ (allD hs)⟩⟩
theorem e_rep1 {d : PyData} {c : Bool} (ha : EP ta σ F (LstD K [d])) (hb : EP tb σ F (D K (.int (if c = true then 1 else 0)))) : EP (tOp rRep ta tb) σ F (LstD K (if c = true then [d] else [])) :=
  e_op ha hb fun x y F1 H1 e b hx hy Q q => by
    obtain ⟨a, xs, rfl, h1, h2⟩ := hx
    have hlen := dlen h2
    refine ⟨a, _, xs, rfl, dInt hy, b _ _ h1, ?_, ?_, ?_, fun p hp => ?_⟩
    · cases c <;> decide
    · cases c <;> decide
    · rw [hlen]
      show 1 * _ ≤ _
      cases c <;> exact line_of (by decide)
    · refine q _ (upd F1 p (.lst _)) _ (Gr.new b hp) ⟨p, _, rfl, upd_same, ?_⟩
      cases c with
      | false => exact .nil
      | true =>
        have e1 : (List.replicate (if true = true then (1 : Int) else 0).toNat xs).flatten = xs := by simp
        rw [e1]
        exact dpxs (Ex.new (ex_none b hp)) _ _ h2
theorem e_catX {l : Addr} {xs : List V} {ds es : List PyData} {i : Nat} (hF : F l = some (.lst xs)) (hd : DpAll K F xs ds) (hs : σ[i]? = some (some (.ref l))) (hb : EP tb σ F (LstD K es)) (hl : ds.length + es.length ≤ 100000) : EP (tOp rCat (tVar i) tb) σ F (D K (.list (ds ++ es))) := fun F1 H1 e b Q q => by
  refine ⟨_, hs, hb F1 H1 e b _ fun y F2 H2 g hy => ?_⟩
  obtain ⟨a, ys, rfl, h3, h4⟩ := hy
  have l1 := dlen hd
  have l2 := dlen h4
  refine ⟨l, a, xs, ys, rfl, rfl, g.fh _ _ (g.ff _ _ (e _ _ hF)), g.fh _ _ h3, line_of (by omega), fun p hp => ?_⟩
  have fp := ex_none g.fh hp
  exact q _ (upd F2 p (.lst (xs ++ ys))) _ (g.trans (Gr.new g.fh hp)) (Dp.lst (Evl.sq_of upd_same) (dpxs (Ex.new fp) _ _ (dapp (dpxs (e.trans g.ff) _ _ hd) h4)))
end
theorem sc_law_cuts : FnScope ["_law_land_here", "_law_line_here", "_law_gone_here", "_law_found", "_law_k", "_law_sign_here"] ["_law_land_here", "_law_line_here", "_law_gone_here"] (defScope s_law_cuts) := ⟨rfl, rfl, rfl, by decide +kernel, rfl, by decide +kernel, by decide +kernel⟩
set_option maxHeartbeats 2000000 in
theorem bd_law_cuts (T : Tt K mg) (G_law_sign : Cal P w K mg base 1 "_law_sign" ["_law_rows_here", "_law_spot"] (sp_law_sign K)) : BodyOk P w K mg base 1 "_law_cuts" s_law_cuts ["_law_land_here", "_law_line_here", "_law_gone_here", "_law_found", "_law_k", "_law_sign_here"] (sp_law_cuts K) := by
  intro f cdv A outer s H vs Q E hr h
  have nd := sc_law_cuts.nd
  have hu := hu_of hr
  have hu64 := hr.units
  have hu65 : (A.deeper (envOfC "_law_cuts" (defScope s_law_cuts) s.heap.objs.size f cdv)).units + 65 < cLine := by have := hr.un; omega
  obtain ⟨⟨L, r, gs⟩, F, e, hA, ⟨W, hl, h1, hg⟩, k⟩ := h
  obtain ⟨v, v2, v3, rfl, hv, h2, h3⟩ := all3 hA
  have W : WdOk L.wd := W
  refine ⟨_, (pss_cons (ps_set (i := 3) nd rfl (Or.inl rfl) (pe_lst (pa_cons pe_int pa_nil)))
      (pss_cons (ps_for PassesOwn.never rfl (pi_range2 (by rfl) T.f_range (pa_cons pe_int (pa_cons (pe_callB (id := "len") call_len_seq (by rfl) T.f_len boot_len (pa_cons (pv 2) pa_nil)) pa_nil))) (pg_name (i := 4) nd rfl (Or.inl rfl)) (pss_cons (ps_set (i := 5) nd rfl (Or.inl rfl) (p_call G_law_sign hr (pa_cons (pe_dget hu (pv 0) pe_str (fun _ _ => rfl)) (pa_cons (pe_ix ix_tup (pe_ix ix_list (pv 2) (pv 4) (fun _ _ => rfl)) pe_int (fun _ _ => rfl)) pa_nil))))
      (pss_one (ps_if (PW.pt (pw_and (pt_cmpR (op_neD hu64) (pe_ix ix_tup (pe_ix ix_list (pv 2) (pv 4) (fun _ _ => rfl)) pe_int (fun _ _ => rfl)) (pe_ix ix_tup (pe_ix ix_list (pv 2) (pe_op op_sub (pv 4) pe_int) (fun _ _ => rfl)) pe_int (fun _ _ => rfl)) (nomark _)) (pw_and1 (pt_cmpR op_ne (pe_dget2 hu (pe_dget hu (pv 0) pe_str (fun _ _ => rfl)) (pv 5) pe_str ⟨by rfl, by rfl, by rfl, by rfl⟩) pe_str (nomark _))))) (pss_one (ps_expr (pe_bm PySem.F.plainAttrs_list PySem.F.slot_list_append PySem.F.type_list_append mt_append (pv 3) (pa_cons (pv 4) pa_nil)))) pss_nil))))
      (pss_one (ps_ret (pe_op op_cat (pv 3) (pe_op op_rep (pe_lst (pa_cons (pe_callB (id := "len") call_len_str (by rfl) T.f_len boot_len (pa_cons (pv 1) pa_nil)) pa_nil)) (pe_callTy (T := "int") call_int1 (by rfl) T.f_int (by decide +kernel) (pa_cons (pe_cmpR op_lt (pe_ix ix_list (pv 3) (pe_un un_neg pe_int) (fun _ _ => rfl)) (pe_callB (id := "len") call_len_str (by rfl) T.f_len boot_len (pa_cons (pv 1) pa_nil)) (nomark _)) pa_nil)))))))), ?_⟩
  have R : Rows L.rows := W.R
  have ml : ∀ {F1 : Hp}, Ex F F1 → IsLand K L v F1 := fun e1 => (inferInstance : Mn (IsLand K L)).mn e1 hv
  have h1 : 1 ≤ gs.length := h1
  have hg : gs.length ≤ 1001 := hg
  have hl : r.length ≤ 1000 := hl
  refine q_own (K := K) (ds := [dN 0]) e (ea_cons e_c ea_nil) rfl fun l F1 H1 o1 => ?_
  refine q_for (K := K) o1.g.fh (i_range2 (lo := 1) (hi := (gs.length : Int)) (ea_cons e_c (ea_cons (EP.eq (e_lenL (e_var rfl (dpx o1.g.ff _ _ h3))) (by rw [List.length_map])) ea_nil)) (by omega)) fun F2 H2 g2 => ⟨fun i σ' F' H' => ∃ a b, σ' = [some v, some v2, some v3, some (.ref l), a, b] ∧ Ex F2 F' ∧ Own K F H F' H' l ((cuts0 L gs i).map dN), ⟨_, _, rfl, Ex.refl _, o1.gr g2⟩, fun i σ' F' H' q => ?_, ?_, ?_⟩
  · obtain ⟨_, _, _, e2, o2⟩ := q
    exact ⟨e2, o2.g.fh⟩
  · rintro i dd y σ' F' H' F3 H3 hdd ⟨a, b, rfl, e2, o2⟩ g3 hy
    have o3 := o2.gr g3
    obtain ⟨hi, rfl⟩ := rng_get hdd
    have hi2 : i + 1 < gs.length := by omega
    obtain ⟨⟨pk, tk⟩, ek⟩ : ∃ x, gs[i + 1]? = some x := ⟨_, List.getElem?_eq_getElem hi2⟩
    obtain ⟨⟨pj, tj⟩, ej⟩ : ∃ x, gs[i]? = some x := ⟨_, List.getElem?_eq_getElem (by omega)⟩
    have dk : (gs.getD (i + 1) ((0, 0), [])).1 = pk := by rw [List.getD_eq_getElem?_getD, ek]; rfl
    have dj : (gs.getD (i + 1 - 1) ((0, 0), [])).1 = pj := by rw [Nat.add_sub_cancel, List.getD_eq_getElem?_getD, ej]; rfl
    have e03 := o3.g.ff
    refine q_asg g3.fh (e_sgn (p := pk) R (e_lrows (K := K) (e_var rfl (ml e03))) (e_ixT (ds := [dP pk, dT tk]) (e_ixL (i := 1 + (i : Int)) (e_var rfl (dpx e03 _ _ h3)) (e_var rfl hy) (atI_at (j := i + 1) (by omega) (by rw [List.getElem?_map, ek]; rfl))) e_c (atI_nat (j := 0) rfl))) fun v6 F4 H4 g4 h6 => ?_
    have o4 := o3.gr g4
    have e04 := o4.g.ff
    have hy4 := dpx g4.ff _ _ hy
    have hstep : cuts0 L gs (i + 1) = cuts0 L gs i ++ (if cutB L gs (i + 1) = true then [i + 1] else []) := by
      unfold cuts0
      rw [List.range_succ, List.map_append, List.filter_append, List.map_singleton, List.filter_cons]
      cases cutB L gs (i + 1) <;> rfl
    refine s_when g4.fh (b := cutB L gs (i + 1)) (t_and (t_test (EP.eq (e_neD (d := dP pk) (e := dP pj) (e_ixT (ds := [dP pk, dT tk]) (e_ixL (i := 1 + (i : Int)) (e_var rfl (dpx e04 _ _ h3)) (e_var rfl hy4) (atI_at (j := i + 1) (by omega) (by rw [List.getElem?_map, ek]; rfl))) e_c (atI_nat (j := 0) rfl)) (e_ixT (ds := [dP pj, dT tj]) (e_ixL (i := 1 + (i : Int) - 1) (e_var rfl (dpx e04 _ _ h3)) (e_I0 (e_var rfl hy4) e_c) (atI_at (j := i) (by omega) (by rw [List.getElem?_map, ej]; rfl))) e_c (atI_nat (j := 0) rfl)) ((okP_ pk).shaped (by decide)) ((okP_ pj).shaped (by decide))) (by rw [eqv_P, dk, dj]))) fun _ => t_test (EP.eq (e_neT (e_dget2 (d := dT DEEDS) (e' := dT ((L.book.lookup (sgn L.rows pk)).getD DEEDS)) (e_lbook (K := K) (e_var rfl (ml e04))) (e_var rfl h6) e_c fun kvs F5 y e5 hk hy5 => ?_) e_c) ?_)) (fun hb H5 g5 => ?_) fun hb H5 g5 => ?_
    · rw [hk, val_bk]
      cases L.book.lookup (sgn L.rows pk) with
      | none => exact hy5
      | some bt => exact Dp.str _
    · rw [dk, show ("urdl" : Str) = S DEEDS from by decide +kernel]
      congr 2
      rw [decide_eq_decide]
      exact ⟨fun h => by have := congrArg (fun s : Str => s.cps.toList) h; simpa [S] using this, fun h => by rw [h]⟩
    · have o5 := o4.gr g5
      refine s_app (n := 2000) (d := dN (i + 1)) o5 rfl ?_ rfl (EP.eq (e_var rfl hy4) (by unfold dN; congr 1; omega)) fun F6 H6 o6 e6 => ⟨F6, _, _, rfl, (e2.trans g3.ff).trans (g4.ff.trans e6), ?_⟩
      · rw [List.length_map]
        have hle : (cuts0 L gs i).length ≤ i + 1 := by
          unfold cuts0
          rw [List.length_cons]
          have := List.length_filter_le (cutB L gs) ((List.range i).map (· + 1))
          rw [List.length_map, List.length_range] at this
          omega
        omega
      · rw [hstep, hb, List.map_append]
        exact o6
    · refine ⟨F4, _, _, rfl, (e2.trans g3.ff).trans g4.ff, ?_⟩
      rw [hstep, hb]
      simpa using o4.gr g5
  · rintro σ' F3 H3 ⟨a, b, rfl, e2, o2⟩
    have el : (rngD 1 ((gs.length : Int) - 1).toNat).length = gs.length - 1 := by
      unfold rngD
      rw [List.length_map, List.length_range]
      omega
    rw [el] at o2
    obtain ⟨xs, hx1, hx2⟩ := o2.xs
    have gx := o2.g.fix o2.h0 hx1
    have hxd : DpAll K (upd F3 l (.lst xs)) xs ((cuts0 L gs (gs.length - 1)).map dN) := dpxs (Ex.new o2.fl) _ _ hx2
    have hlast : atI ((cuts0 L gs (gs.length - 1)).map dN) (-1) = some (dN ((cuts0 L gs (gs.length - 1)).getLastD 0)) := by
      have hne : cuts0 L gs (gs.length - 1) ≠ [] := by unfold cuts0; exact List.cons_ne_nil _ _
      obtain ⟨ys, y, hy⟩ : ∃ ys y, cuts0 L gs (gs.length - 1) = ys ++ [y] := ⟨_, _, (List.dropLast_concat_getLast hne).symm⟩
      rw [hy, List.map_append, List.getLastD_concat]
      exact atI_last _ _
    refine s_ret gx.fh (P := D K (.list ((cutsM L gs r.length).map dN))) ?_ fun v F4 H4 g4 hv => k v F4 H4 (gx.trans g4) hv
    refine EP.eq (e_catX (ds := (cuts0 L gs (gs.length - 1)).map dN) (es := if decide ((((cuts0 L gs (gs.length - 1)).getLastD 0 : Nat) : Int) < (r.length : Int)) = true then [dN r.length] else []) upd_same hxd rfl (e_rep1 (e_lstH (ds := [dN r.length]) (ea_cons (EP.eq (e_lenS (z := S r) (e_var rfl (dpx gx.ff _ _ h2)) ?_) ?_) ea_nil) (show 1 ≤ 100000 from by decide)) (e_intB (e_I0 (e_ixL (e_var rfl (Dp.lst (Evl.sq_of upd_same) hxd)) (e_neg e_c) hlast) (EP.eq (e_lenS (z := S r) (e_var rfl (dpx gx.ff _ _ h2)) ?_) ?_)))) ?_) ?_
    · rw [len_S]; omega
    · rw [len_S]; rfl
    · rw [len_S]; omega
    · rw [len_S]
    · have hle : (cuts0 L gs (gs.length - 1)).length ≤ gs.length := by
        unfold cuts0
        rw [List.length_cons]
        have := List.length_filter_le (cutB L gs) ((List.range (gs.length - 1)).map (· + 1))
        rw [List.length_map, List.length_range] at this
        omega
      rw [List.length_map]
      have h9 : ∀ b : Bool, (if b = true then [dN r.length] else []).length ≤ 1 := fun b => by cases b <;> simp
      have := h9 (decide ((((cuts0 L gs (gs.length - 1)).getLastD 0 : Nat) : Int) < (r.length : Int)))
      omega
    · unfold cutsM
      rw [List.map_append]
      congr 2
      by_cases c : (cuts0 L gs (gs.length - 1)).getLastD 0 < r.length
      · rw [if_pos c, decide_eq_true (by omega)]; rfl
      · rw [if_neg c, decide_eq_false (by omega)]; rfl
end
end OL
-- OhW20
set_option maxHeartbeats 1000000
/-! The walk, part 20: a piece. -/
namespace OL
open PySem PySem.Spec PyProof.Rows L2
open SX (S)
open Evl (Ex)
open OH
section
variable {P : Program} {w : World} {K : PySem.W.Frag} {mg : Str → Option Value} {base : Heap}
variable {P : Program} {w : World} {K : PySem.W.Frag} {mg : Str → Option Value} {base : Heap}
/-- the world of a piece -/
def pieceW (L : LandM) (p : Pl) (t : Tx) (go : Pl) : WdIn := ⟨bareM L p go L.rows.length, p, t, none, [go]⟩
structure PieceOk (L : LandM) (p : Pl) (t : Tx) (go : Pl) (piece : Tx) : Prop where
  w1 : WdOk (pieceW L p t go)
  w2 : WdOk (pieceW L p DEEDS go)
  f1 : FirstFact (pieceW L p t go) true piece
  n2 : ¬ NeverFact (pieceW L p DEEDS go) true
  l2 : ∀ w, FirstFact (pieceW L p DEEDS go) true w → w.length = piece.length
/-- the first row is one -/
theorem ix_inj : ∀ a ∈ DEEDS, ∀ b ∈ DEEDS, ix a = ix b → a = b := by decide
theorem first_one {x : WdIn} {safe : Bool} {v w : Tx} (hv : FirstFact x safe v) (hw : FirstFact x safe w) : v = w := by
  obtain ⟨⟨s1, r1, g1⟩, d1, m1, _⟩ := hv
  obtain ⟨⟨s2, r2, g2⟩, d2, m2, _⟩ := hw
  rcases sl_total (r := ix) (u := v) (v := w) (fun a ha b hb h => ix_inj a (d1 a ha) b (d2 b hb) h) with h | h | h
  · exact h
  · exact absurd h (m2 v s1 d1 r1 g1)
  · exact absurd h (m1 w s2 d2 r2 g2)
theorem first_never {x : WdIn} {safe : Bool} {v : Tx} (hv : FirstFact x safe v) (hn : NeverFact x safe) : False := by
  obtain ⟨⟨s1, r1, g1⟩, d1, _, _⟩ := hv
  have := hn v s1 d1 r1
  rw [g1] at this
  cases this
theorem deeds_ok {w : Tx} (h : ∀ d ∈ w, d ∈ DEEDS) : PyData.strOk (S w) = true := by
  unfold PyData.strOk
  rw [Array.all_eq_true_iff_forall_mem]
  intro x hx
  have h1 : x ∈ w := by simpa [S] using hx
  have h2 := h x h1
  exact decide_eq_true ((by decide : ∀ d ∈ DEEDS, d < 0x110000) x h2)
def sp_law_piece_right (K : PySem.W.Frag) : Sp := Pr (fun x : LandM × (Pl × Tx) × Pl × Tx => [IsLand K x.1, D K (dS (some x.2.1)), D K (dP x.2.2.1), D K (dT x.2.2.2)]) (fun x => WdOk x.1.wd ∧ PieceOk x.1 x.2.1.1 x.2.1.2 x.2.2.1 x.2.2.2) (fun x => D K (.bool true))
theorem sc_law_piece_right : FnScope ["_law_land_here", "_law_post", "_law_goal", "_law_piece", "_law_floor", "_law_one_here", "_law_other", "_law_told"] ["_law_land_here", "_law_post", "_law_goal", "_law_piece"] (defScope s_law_piece_right) := ⟨rfl, rfl, rfl, by decide +kernel, rfl, by decide +kernel, by decide +kernel⟩
set_option maxHeartbeats 2000000 in
theorem bd_law_piece_right (T : Tt K mg) (G_law_bare : Cal P w K mg base 1 "_law_bare" ["_law_land_here", "_law_spot", "_law_goal"] (sp_law_bare K)) (MK_Floor : Mak P w K mg base 3 "Floor" (cF K) ["self","rows"] (sp_Floor_init K)) (MK_Hand : Mak P w K mg base 2 "Hand" (cH K) ["self","worlds"] (sp_Hand_init K)) (MW2 : MakN P w K mg base 8 2 "World" (cW K) WPS ["turn","wishes"] gV2 (sp_World_init K)) (MW1 : MakN P w K mg base 8 2 "World" (cW K) WPS ["wishes"] gV1 (sp_World_init K)) (FR1 : CalN P w K mg base 12 2 "first_row" ["hand","kind","safe"] ["safe"] gVs (sp_first_row K)) : BodyOk P w K mg base 13 "_law_piece_right" s_law_piece_right ["_law_land_here", "_law_post", "_law_goal", "_law_piece", "_law_floor", "_law_one_here", "_law_other", "_law_told"] (sp_law_piece_right K) := by
  intro f cdv A outer s H vs Q E hr h
  have nd := sc_law_piece_right.nd
  have hu := hu_of hr
  have hu64 := hr.units
  have hu65 : (A.deeper (envOfC "_law_piece_right" (defScope s_law_piece_right) s.heap.objs.size f cdv)).units + 65 < cLine := by have := hr.un; omega
  obtain ⟨⟨L, ⟨p, t⟩, go, pc⟩, F, e, hA, ⟨W, O⟩, k⟩ := h
  obtain ⟨v, v2, v3, v4, rfl, hv, h2, h3, h4⟩ := all4 hA
  have h2 : D K (.tuple [dP p, dT t]) v2 F := h2
  have h3 : D K (dP go) v3 F := h3
  have h4 : D K (dT pc) v4 F := h4
  have W : WdOk L.wd := W
  have O : PieceOk L p t go pc := O
  refine ⟨_, (pss_cons (ps_set (i := 4) nd rfl (Or.inl rfl) (p_make MK_Floor hr (pa_cons (p_call G_law_bare hr (pa_cons (pv 0) (pa_cons (pe_ix ix_tup (pv 1) pe_int (fun _ _ => rfl)) (pa_cons (pv 2) pa_nil)))) pa_nil)))
      (pss_cons (ps_set (i := 5) nd rfl (Or.inl rfl) (p_makeN MW2 hr (pa_cons (pv 4) (pa_cons (pe_ix ix_tup (pv 1) pe_int (fun _ _ => rfl)) pa_nil)) (pk_cons (pe_ix ix_tup (pv 1) pe_int (fun _ _ => rfl)) (pk_cons (pe_lst (pa_cons (pv 2) pa_nil)) pk_nil))))
      (pss_cons (ps_set (i := 6) nd rfl (Or.inl rfl) (p_makeN MW1 hr (pa_cons (pv 4) (pa_cons (pe_ix ix_tup (pv 1) pe_int (fun _ _ => rfl)) pa_nil)) (pk_cons (pe_lst (pa_cons (pv 2) pa_nil)) pk_nil)))
      (pss_cons (ps_if (pt_cmpR (op_neD hu64) (p_callN FR1 hr (pa_cons (p_make MK_Hand hr (pa_cons (pe_lst (pa_cons (pv 5) pa_nil)) pa_nil)) (pa_cons pe_str pa_nil)) (pk_cons pe_bl pk_nil)) (pe_tup (pa_cons pe_str (pa_cons (pv 3) pa_nil))) (nomark _)) (pss_one (ps_ret pe_bl)) pss_nil)
      (pss_cons (ps_set (i := 7) nd rfl (Or.inl rfl) (p_callN FR1 hr (pa_cons (p_make MK_Hand hr (pa_cons (pe_lst (pa_cons (pv 6) pa_nil)) pa_nil)) (pa_cons pe_str pa_nil)) (pk_cons pe_bl pk_nil)))
      (pss_one (ps_ret (pe_and (pe_cmpR op_eq (pe_ix ix_tup (pv 7) pe_int (fun _ _ => rfl)) pe_str (nomark _)) (pe_one (pe_cmpR op_eq (pe_callB (id := "len") call_len_str (by rfl) T.f_len boot_len (pa_cons (pe_ix ix_tup (pv 7) pe_int (fun _ _ => rfl)) pa_nil)) (pe_callB (id := "len") call_len_str (by rfl) T.f_len boot_len (pa_cons (pv 3) pa_nil)) (nomark _))))))))))), ?_⟩
  refine q_asg e (P := IsFl K (bareM L p go L.rows.length)) (e_floor (e_call (L, p, go) (ea_cons (e_var rfl hv) (ea_cons (e_ixT (e_var rfl h2) e_c (atI_nat (j := 0) rfl)) (ea_cons (e_var rfl h3) ea_nil))) W) O.w1.R) fun v5 F1 H1 g1 h5 => ?_
  refine q_asg g1.fh (e_world2 (pieceW L p t go) O.w1 rfl (e_var rfl h5) (e_ixT (e_var rfl (dpx g1.ff _ _ h2)) e_c (atI_nat (j := 0) rfl)) (e_ixT (e_var rfl (dpx g1.ff _ _ h2)) e_c (atI_nat (j := 1) rfl)) (e_lst (ds := [dP go]) (ea_cons (e_var rfl (dpx g1.ff _ _ h3)) ea_nil))) fun v6 F2 H2 g2 h6 => ?_
  have g12 := g1.trans g2
  refine q_asg g2.fh (e_world1 (pieceW L p DEEDS go) O.w2 rfl rfl (e_var rfl ((inferInstance : Mn (IsFl K (bareM L p go L.rows.length))).mn g2.ff h5)) (e_ixT (e_var rfl (dpx g12.ff _ _ h2)) e_c (atI_nat (j := 0) rfl)) (e_lst (ds := [dP go]) (ea_cons (e_var rfl (dpx g12.ff _ _ h3)) ea_nil))) fun v7 F3 H3 g3 h7 => ?_
  have g13 := g12.trans g3
  have h6 := (inferInstance : Mn (IsWd K (pieceW L p t go))).mn g3.ff h6
  refine q_when g3.fh (b := false) (t_test (EP.eq (e_neD (d := .tuple [.str "row", dT pc]) (e := .tuple [.str "row", dT pc]) (EP.imp (e_row1 O.w1 (e_hand ?h1) e_c e_c) fun u F4 _ hr => ?h2) (e_tup (ds := [.str "row", dT pc]) (ea_cons e_c (ea_cons (e_var rfl (dpx g13.ff _ _ h4)) ea_nil))) ?h3 ?h3) ?h4)) (fun z => Bool.noConfusion z) fun _ H4 g4 => ?_
  case h1 => exact e_lstP (ea_cons (e_var rfl h6) ea_nil)
  case h2 =>
    rcases hr with ⟨w, hd, hf⟩ | ⟨ds, _, hn⟩
    · rw [first_one hf O.f1] at hd
      exact hd
    · exact (first_never O.f1 hn).elim
  case h3 =>
    have hdd := O.f1.2.1
    simp [SeqAt.shaped, PyData.canLay0, PyData.canLayAll0, PyData.depth, PyData.depthAll, dT]
    exact ⟨by decide +kernel, deeds_ok hdd⟩
  case h4 =>
    congr 1
    show (!(PyData.eqv (.str "row") (.str "row") && (PyData.eqv (dT pc) (dT pc) && true))) = false
    rw [eqv_T]
    simp [PyData.eqv]
  have g14 := g13.trans g4
  refine q_asg g4.fh (e_row1 O.w2 (e_hand (e_lstP (ea_cons (e_var rfl h7) ea_nil))) e_c e_c) fun v8 F5 H5 g5 h8 => ?_
  have g15 := g14.trans g5
  rcases h8 with ⟨w, hd, hf⟩ | ⟨ds, _, hn⟩
  · have hlw := O.l2 w hf
    refine s_ret g5.fh (P := D K (.bool true)) (EP.eq (e_and (e_eqT (e_ixT (ds := [.str "row", dT w]) (e_var rfl hd) e_c (atI_nat (j := 0) rfl)) e_c) fun _ => e_eqI (EP.eq (e_lenS (z := S w) (e_ixT (ds := [.str "row", dT w]) (e_var rfl hd) e_c (atI_nat (j := 1) rfl)) ?_) rfl) (EP.eq (e_lenS (z := S pc) (e_var rfl (dpx g15.ff _ _ h4)) ?_) rfl)) ?_) fun v F6 H6 g6 hv => k v F6 H6 (g15.trans g6) hv
    · have := hf.2.2.2
      rw [len_S]; omega
    · have := O.f1.2.2.2
      rw [len_S]; omega
    · rw [len_S, len_S, hlw, decide_eq_true rfl, decide_eq_true rfl]; rfl
  · exact absurd hn O.n2
end
end OL
-- OhW21
set_option maxHeartbeats 1000000
/-! The walk, part 21: a row; the plain law joined. -/
namespace OL
open PySem PySem.Spec PyProof.Rows L2
open SX (S)
open Evl (Ex)
open OH
/-! ### the land's own run is the program's -/
theorem step_land (L : LandM) (s : Sd) (d : Nat) : stepM L.wd false s d = some (behL L s d) := rfl
theorem run_land (L : LandM) : ∀ (v : Tx) (s : Sd), run (stepM L.wd false) s v = some (runL L s v)
  | [], _ => rfl
  | d :: v, s => by
    show (stepM L.wd false s d).bind (fun s' => run (stepM L.wd false) s' v) = some (runL L (behL L s d) v)
    rw [step_land]
    exact run_land L v _
theorem runL_B (L : LandM) (s : Sd) (v : Tx) : runL L s v = runB L.rows L.book s v := rfl
theorem bare_G (L : LandM) (p go : Pl) (n : Nat) : bareM L p go n = bareG L.rows L.book p go n := rfl
section
variable {x : WdIn} {t : Tx}
theorem step_piece (hb : x.book = none) (ht : t ∈ TURNS) (q : Pl) (d : Nat) : stepM x true (some (q, t)) d = (OH.goes x.rows q (way t d)).map fun r => some (r, t) := by
  have h1 : OH.behind x.rows (pagesM x) (some (q, t)) d = (OH.goes x.rows q (way t d)).map fun q => (q, t) := behind_bare (fun y hy => by
    unfold pagesM at hy
    rw [hb] at hy
    obtain ⟨c, _, rfl⟩ := List.mem_map.mp hy
    rfl) ht d
  unfold stepM
  rw [h1]
  cases OH.goes x.rows q (way t d) <;> rfl
theorem run_piece (hb : x.book = none) (ht : t ∈ TURNS) : ∀ (v : Tx) (q : Pl), run (stepM x true) (some (q, t)) v = (runP x.rows t q v).map fun r => some (r, t)
  | [], _ => rfl
  | d :: v, q => by
    show (stepM x true (some (q, t)) d).bind (fun s' => run (stepM x true) s' v) = ((OH.goes x.rows q (way t d)).bind fun q => runP x.rows t q v).map fun r => some (r, t)
    rw [step_piece hb ht]
    cases OH.goes x.rows q (way t d) with
    | none => rfl
    | some r => exact run_piece hb ht v r
end
section
variable {L : LandM} {p go : Pl} {t pc : Tx}
theorem piece_fact (ht : t ∈ TURNS) (v : Tx) : FirstFact (pieceW L p t go) true v ↔ runP (bareM L p go L.rows.length) t p v = some go ∧ (∀ d ∈ v, d ∈ DEEDS) ∧ (∀ u, (∀ d ∈ u, d ∈ DEEDS) → runP (bareM L p go L.rows.length) t p u = some go → ¬ sl ix u v) ∧ v.length ≤ 1000 := by
  have key : ∀ u : Tx, run (stepM (pieceW L p t go) true) (s0M (pieceW L p t go)) u = (runP (bareM L p go L.rows.length) t p u).map fun r => some (r, t) := fun u => run_piece (x := pieceW L p t go) rfl ht u p
  have goal : ∀ r : Pl, goalM (pieceW L p t go) (some (r, t)) = true ↔ r = go := fun r => by
    show decide (r ∈ [go]) = true ↔ r = go
    simp
  have both : ∀ u : Tx, (∃ s, run (stepM (pieceW L p t go) true) (s0M (pieceW L p t go)) u = some s ∧ goalM (pieceW L p t go) s = true) ↔ runP (bareM L p go L.rows.length) t p u = some go := fun u => by
    rw [key]
    cases e : runP (bareM L p go L.rows.length) t p u with
    | none => exact ⟨fun ⟨s, h, _⟩ => (by cases h), fun h => (by cases h)⟩
    | some r =>
      constructor
      · rintro ⟨s, h, hg⟩
        cases h
        rw [(goal r).mp hg]
      · intro h
        cases h
        exact ⟨_, rfl, (goal go).mpr rfl⟩
  unfold FirstFact
  rw [both]
  refine and_congr Iff.rfl (and_congr Iff.rfl (and_congr ?_ Iff.rfl))
  constructor
  · intro h u hu hr
    obtain ⟨s, h1, h2⟩ := (both u).mpr hr
    exact h u s hu h1 h2
  · intro h u s hu h1 h2
    exact h u hu ((both u).mp ⟨s, h1, h2⟩)
theorem land_keys (W : WdOk L.wd) : ∀ x ∈ L.book, x.1 ∈ LETTERS := fun x hx => by
  have h1 : L.book.map Prod.fst = lettersM L.rows := (pagesOk W).1
  have h2 : x.1 ∈ L.book.map Prod.fst := List.mem_map.mpr ⟨x, hx, rfl⟩
  rw [h1] at h2
  exact (List.mem_filter.mp h2).1
theorem land_turns (W : WdOk L.wd) : ∀ x ∈ L.book, x.2 ∈ TURNS := (pagesOk W).2
theorem open_mem {rows : List Tx} {p : Pl} (h : sgn rows p ∈ OPEN) : p ∈ openM rows := by
  unfold openM
  exact List.mem_filter.mpr ⟨in_places (ice_in rfl fun e => by rw [e] at h; exact absurd h (by decide)), decide_eq_true h⟩
/-- a piece of the plain law is one of the walk -/
theorem piece_ok (W : WdOk L.wd) (C : Piece L.rows L.book p t go pc) (hg : inF L.rows go = true) (hl : pc.length ≤ 1000) : PieceOk L p t go pc := by
  have R : Rows L.rows := W.R
  have hk := land_keys W
  have hop : p ∈ openM (bareM L p go L.rows.length) := open_mem (by rw [bare_G]; exact bare_open R hk C.op)
  have hin : WiOk (bareM L p go L.rows.length) [go] := ⟨fun q hq => by rw [List.mem_singleton.mp hq, bare_G, bare_inF R]; exact hg, by simp, (by show 1 < 64; decide)⟩
  have hR : Rows (bareM L p go L.rows.length) := by rw [bare_G]; exact bare_rows R hk
  obtain ⟨h1, h2⟩ := C.turned R hk
  have hD : DEEDS ∈ TURNS := by decide
  refine ⟨⟨hR, hop, C.tt, fun b h => (by cases h), hin⟩, ⟨hR, hop, hD, fun b h => (by cases h), hin⟩, (piece_fact C.tt pc).mpr ⟨(C.runs R hk).1, C.ds, fun u hu hr => C.first R hk hu hr, hl⟩, fun hn => ?_, fun w hw => ?_⟩
  · have h3 := hn (pc.map (way t)) (some (go, DEEDS)) (map_deeds C.tt C.ds) (by
      show run (stepM (pieceW L p DEEDS go) true) (some (p, DEEDS)) (pc.map (way t)) = _
      rw [run_piece (x := pieceW L p DEEDS go) rfl hD]
      show (runP (bareM L p go L.rows.length) DEEDS p (pc.map (way t))).map _ = _
      rw [bare_G, h1]; rfl)
    have h4 : goalM (pieceW L p DEEDS go) (some (go, DEEDS)) = true := by
      show decide (go ∈ [go]) = true
      simp
    rw [h4] at h3
    cases h3
  · obtain ⟨a1, a2, a3, _⟩ := (piece_fact hD w).mp hw
    exact h2 w a2 a1 a3
/-- the stands of a told row -/
def stM (L : LandM) (line : Tx) (i : Nat) : Pl × Tx := (runL L (SL L) (line.take i)).getD ((0, 0), [])
theorem row_h (W : WdOk L.wd) {line : Tx} (h : FirstFact L.wd false line) : RowH L.rows L.book L.ws line (stM L line) := by
  obtain ⟨⟨s, h1, h2⟩, hd, hm, hl⟩ := h
  have h1 : run (stepM L.wd false) (SL L) line = some s := h1
  rw [run_land] at h1
  cases h1
  have h2 : OH.wished L.ws (runL L (SL L) line) = true := h2
  obtain ⟨y, hy, hyw⟩ : ∃ y, runL L (SL L) line = some y ∧ y.1 ∈ L.ws := by
    cases e : runL L (SL L) line with
    | none => rw [e] at h2; cases h2
    | some y => rw [e] at h2; exact ⟨y, rfl, of_decide_eq_true h2⟩
  have e0 : stM L line 0 = (L.begin, L.turn) := rfl
  have hrun : ∀ i, runB L.rows L.book (some (L.begin, L.turn)) (line.take i) = some (stM L line i) := fun i => by
    obtain ⟨x, hx⟩ := runB_take (rows := L.rows) (book := L.book) (s := SL L) (v := line) hy i
    unfold stM
    rw [runL_B, hx]
    exact hx
  refine ⟨W.R, land_keys W, land_turns W, ?_, W.t, hd, fun i _ => by rw [e0]; exact hrun i, ?_, fun v hv hw hs => ?_⟩
  · obtain ⟨_, h4⟩ := List.mem_filter.mp W.b
    exact of_decide_eq_true h4
  · unfold stM
    rw [List.take_length, hy]
    exact hyw
  · refine hm v (runL L (SL L) v) hv ?_ ?_ hs
    · show run (stepM L.wd false) (SL L) v = _
      rw [run_land]
    · rw [e0] at hw
      exact hw
end
/-! ### rules that the row needs -/
section
variable {K : PySem.W.Frag} {σ : L2.St} {F : Hp} {ta tb te : TE}
theorem ddrop : ∀ {vs : List V} {ds : List PyData} (i : Nat), DpAll K F vs ds → DpAll K F (vs.drop i) (ds.drop i)
  | _, _, 0, h => h
  | _, _, _ + 1, .nil => .nil
  | _, _, i + 1, .cons _ h => ddrop i h
theorem dtake : ∀ {vs : List V} {ds : List PyData} (i : Nat), DpAll K F vs ds → DpAll K F (vs.take i) (ds.take i)
  | _, _, 0, _ => .nil
  | _, _, _ + 1, .nil => .nil
  | _, _, i + 1, .cons a h => .cons a (dtake i h)
/-- xs[1:] -/
theorem e_slL1 {ds : List PyData} (ha : EP ta σ F (D K (.list ds))) : EP (tSl (rSlL K) ta (tPart (tC (.int 1))) tNoPart) σ F (D K (.list (ds.drop 1))) := fun F1 H1 e b Q q =>
  ha F1 H1 e b _ fun v F2 H2 g hv => by
    obtain ⟨a, xs, rfl, h1, h2⟩ := dLst hv
    refine ⟨1, rfl, a, xs, rfl, Evl.ex_l g.fh h1, fun p hp => ?_⟩
    have fp := ex_none g.fh hp
    refine q _ _ _ (g.trans (Gr.new g.fh hp)) (Dp.lst (Evl.sq_of upd_same) (dpxs (Ex.new fp) _ _ ?_))
    have e1 : cutV xs (some 1) none = xs.drop 1 := by
      have h3 : HT.sIx xs.length 0 (some 1) = min 1 xs.length := HT.sIx_nat xs.length 0 1
      unfold cutV
      rw [h3, HT.sIx_none]
      cases xs with
      | nil => rfl
      | cons x xs =>
        rw [show min 1 (x :: xs).length = 1 from by simp]
        exact List.take_of_length_le (by rw [List.length_drop]; exact Nat.le_refl _)
    rw [e1]
    exact ddrop 1 h2
/-- text[a:b] -/
theorem e_slS {r : Tx} {i j : Nat} (ha : EP te σ F (D K (dT r))) (h1 : EP ta σ F (D K (dN i))) (h2 : EP tb σ F (D K (dN j))) (hr : r.length ≤ 100000) (hj : j ≤ r.length) (hi : i ≤ j) : EP (tSl rSlS te (tPart ta) (tPart tb)) σ F (D K (dT ((r.drop i).take (j - i)))) := fun F1 H1 e b Q q =>
  ha F1 H1 e b _ fun v F2 H2 g hv => h1 F2 H2 (e.trans g.ff) g.fh _ fun w F3 H3 g3 hw => ⟨_, dInt hw, h2 F3 H3 ((e.trans g.ff).trans g3.ff) g3.fh _ fun u F4 H4 g4 hu => ⟨_, dInt hu, S r, dStr hv, line_of (by rw [len_S]; exact hr), by
    have e1 : cutS (S r) (some (i : Int)) (some (j : Int)) = S ((r.drop i).take (j - i)) := by
      unfold cutS
      rw [HT.sIx_nat, HT.sIx_nat, len_S, Nat.min_eq_left hj, Nat.min_eq_left (Nat.le_trans hi hj)]
    rw [e1]
    exact q _ F4 H4 ((g.trans g3).trans g4) (Dp.str _)⟩⟩
/-- zip(list, list) -/
theorem i_zipL {ds es : List PyData} {t : TA} (h : EA t σ F [D K (.list ds), D K (.list es)]) : EI K (iZip K t) σ F (List.zipWith (fun a b => PyData.tuple [a, b]) ds es) := fun F1 H1 e b R r =>
  h F1 H1 e b _ fun vs F2 H2 g hs => by
    obtain ⟨v, w, rfl, hv, hw⟩ := all2 hs
    obtain ⟨a, xs, rfl, h1, h2⟩ := dLst hv
    obtain ⟨c, ys, rfl, h3, h4⟩ := dLst hw
    have l1 := dlen h2
    have l2 := dlen h4
    have lz : (List.zipWith (fun a b => PyData.tuple [a, b]) ds es).length = min ds.length es.length := List.length_zipWith
    refine ⟨a, c, xs, ys, rfl, Evl.ex_l g.fh h1, Evl.ex_l g.fh h3, r _ F2 H2 g ⟨fun i F H e1 e2 hi => ?_, fun F H e1 e2 => ?_, fun i F H x H' d e1 e2 hd hy => ?_⟩⟩
    · rw [lz] at hi
      exact ⟨xs, ys, xs[i]'(by omega), ys[i]'(by omega), Evl.ex_l (e1.trans e2) h1, Evl.ex_l (e1.trans e2) h3, List.getElem?_eq_getElem (by omega), List.getElem?_eq_getElem (by omega)⟩
    · exact ⟨xs, ys, Evl.ex_l (e1.trans e2) h1, Evl.ex_l (e1.trans e2) h3, by rw [lz]; omega⟩
    · obtain ⟨T, x1, y1, rfl, hT, rfl, hx, hy⟩ := hy
      rw [List.getElem?_zipWith] at hd
      have hx := hx xs (Evl.ex_l (e1.trans e2) h1)
      have hy := hy ys (Evl.ex_l (e1.trans e2) h3)
      obtain ⟨d1, k1, k2⟩ := dget h2 hx
      obtain ⟨d2, k3, k4⟩ := dget h4 hy
      rw [k1, k3] at hd
      have hd : PyData.tuple [d1, d2] = d := Option.some.inj hd
      subst hd
      obtain ⟨q1, q2⟩ := new_pair (K := K) (a := d1) (b := d2) (x := x1) (y := y1) e2 hT (dpx e1 _ _ k2) (dpx e1 _ _ k4)
      exact ⟨_, q1, q2⟩
/-- True in a list of truths of which the last alone is one -/
def lastB (n : Nat) : List Bool := List.replicate n false ++ [true]
theorem lastB_V (n : Nat) : (lastB n).map V.bl = List.replicate n (V.bl false) ++ [V.bl true] := by
  unfold lastB
  rw [List.map_append, List.map_replicate]; rfl
theorem lastB_flat (n : Nat) : ((lastB n).map V.bl).all flatV = true := by
  rw [List.all_eq_true]
  intro x hx
  obtain ⟨b, _, rfl⟩ := List.mem_map.mp hx
  rfl
theorem e_niTrue {n : Nat} (ha : EP ta σ F (D K (.bool true))) (hb : EP tb σ F (D K (.list ((lastB n).map .bool)))) : EP (tOp (rIn K true) ta tb) σ F (D K (.bool false)) := fun F1 H1 e b Q q =>
  ha F1 H1 e b _ fun v F2 H2 g hv => hb F2 H2 (e.trans g.ff) g.fh _ fun w F3 H3 g3 hw => by
    obtain ⟨a, xs, rfl, h1, h2⟩ := dLst hw
    rw [dBool hv]
    have hx := dbools h2
    subst hx
    refine ⟨a, _, rfl, .inl (Evl.ex_l g3.fh h1), rfl, lastB_flat n, ?_⟩
    have e1 : inV (.bl true) ((lastB n).map V.bl) = true := by
      rw [lastB_V]
      unfold inV
      rw [List.any_append]
      show (_ || true) = true
      exact Bool.or_true _
    rw [e1]
    exact q _ F3 H3 (g.trans g3) (Dp.bl _)
theorem e_idxTrue {n : Nat} (ha : EP ta σ F (D K (.list ((lastB n).map .bool)))) (hb : EP tb σ F (D K (.bool true))) : EP (tBM K "list" (rIndex K) ta (tCons tb tNil)) σ F (D K (.int (n : Int))) := fun F1 H1 e b Q q =>
  ha F1 H1 e b _ fun v F2 H2 g hv => by
    obtain ⟨a, xs, rfl, h1, h2⟩ := dLst hv
    have hx := dbools h2
    subst hx
    refine ⟨.inl ⟨rfl, _, Evl.ex_l g.fh h1⟩, hb F2 H2 (e.trans g.ff) g.fh _ fun w F3 H3 g3 hw => ?_⟩
    rw [dBool hw]
    refine ⟨a, _, .bl true, n, .bl true, rfl, rfl, Evl.ex_l g3.fh (Evl.ex_l g3.ff h1), rfl, lastB_flat n, ?_, rfl, fun m z hm hz => ?_, q _ F3 H3 (g.trans g3) (Dp.int _)⟩
    · rw [lastB_V, List.getElem?_append_right (by rw [List.length_replicate]; exact Nat.le_refl _), List.length_replicate, Nat.sub_self]; rfl
    · rw [lastB_V, List.getElem?_append_left (by rw [List.length_replicate]; exact hm), List.getElem?_replicate, if_pos hm] at hz
      cases hz
      rfl
end
/-! ### the row -/
section
variable {L : LandM} {r : Tx}
/-- all stands of a told row -/
def gsM (L : LandM) (r : Tx) : List (Pl × Tx) := (List.range (r.length + 1)).map (stM L r)
theorem gs_len : (gsM L r).length = r.length + 1 := by unfold gsM; rw [List.length_map, List.length_range]
theorem gs_at {i : Nat} (h : i ≤ r.length) : (gsM L r)[i]? = some (stM L r i) := by
  unfold gsM
  rw [List.getElem?_map, List.getElem?_range (by omega)]; rfl
theorem gs_getD {i : Nat} (h : i ≤ r.length) : (gsM L r).getD i ((0, 0), []) = stM L r i := by rw [List.getD_eq_getElem?_getD, gs_at h]; rfl
theorem gone_gs (h : RowH L.rows L.book L.ws r (stM L r)) : (goneM L (SL L) r).map dS = (gsM L r).map fun y => dS (some y) := by
  unfold goneM gsM
  rw [List.map_map, List.map_map]
  refine List.map_congr_left fun i hi => ?_
  have hi := List.mem_range.mp hi
  show dS (runL L (SL L) (r.take i)) = dS (some (stM L r i))
  have h1 := h.run i (by omega)
  have h2 : runL L (SL L) (r.take i) = some (stM L r i) := h1
  rw [h2]
theorem gs_wished (h : RowH L.rows L.book L.ws r (stM L r)) : (gsM L r).map (fun y => decide (y.1 ∈ L.ws)) = lastB r.length := by
  unfold gsM lastB
  rw [List.map_map, List.range_succ, List.map_append]
  refine congr (congrArg _ ?_) ?_
  · rw [List.eq_replicate_iff]
    refine ⟨by rw [List.length_map, List.length_range], fun b hb => ?_⟩
    obtain ⟨i, hi, rfl⟩ := List.mem_map.mp hb
    exact decide_eq_false (h.early (List.mem_range.mp hi))
  · show [decide ((stM L r r.length).1 ∈ L.ws)] = [true]
    rw [decide_eq_true h.wi]
theorem cut_same {k : Nat} (hk : k ≤ r.length) : cutB L (gsM L r) k = cutW L.rows L.book (stM L r) k := by
  unfold cutB cutW strB
  rw [gs_getD hk, gs_getD (by omega)]
theorem cuts_N : cutsM L (gsM L r) r.length = cutsN (cutB L (gsM L r)) r.length := by
  unfold cutsM cutsN cuts0 cutL
  rw [gs_len]
  rfl
/-- two cuts one behind the other -/
theorem row_piece (W : WdOk L.wd) (h : RowH L.rows L.book L.ws r (stM L r)) (hl : r.length ≤ 1000) {i a b : Nat} (ha : (cutsM L (gsM L r) r.length)[i]? = some a) (hb : (cutsM L (gsM L r) r.length)[i + 1]? = some b) :
    a < b ∧ b ≤ r.length ∧ ((stM L r b).1 ≠ (stM L r a).1 → PieceOk L (stM L r a).1 (stM L r a).2 (stM L r b).1 ((r.drop a).take (b - a))) := by
  rw [cuts_N] at ha hb
  obtain ⟨h1, h2, h3, h4, h5⟩ := cuts_pair ha hb
  rw [cut_same (by omega)] at h3 h4
  refine ⟨h1, h2, fun hne => piece_ok W (h.piece h1 h2 h3 h4 (fun k k1 k2 => by rw [← cut_same (by omega)]; exact h5 k k1 k2) hne) (Bool.and_eq_true_iff.mp (h.ok h2).1).1 ?_⟩
  rw [List.length_take, List.length_drop]
  omega
end
section
variable {P : Program} {w : World} {K : PySem.W.Frag} {mg : Str → Option Value} {base : Heap}
def sp_law_row_right (K : PySem.W.Frag) : Sp := Pr (fun x : LandM × Tx => [IsLand K x.1, D K (dT x.2)]) (fun x => WdOk x.1.wd ∧ FirstFact x.1.wd false x.2) (fun _ => D K (.bool true))
theorem sc_law_row_right : FnScope ["_law_land_here", "_law_line_here", "_law_gone_here", "_law_wished", "_law_there", "_law_cuts_here", "_law_begin", "_law_end", "_law_post", "_law_goal"] ["_law_land_here", "_law_line_here"] (defScope s_law_row_right) := ⟨rfl, rfl, rfl, by decide +kernel, rfl, by decide +kernel, by decide +kernel⟩
set_option maxHeartbeats 2000000 in
theorem bd_law_row_right (T : Tt K mg) (G_law_gone : Cal P w K mg base 4 "_law_gone" ["_law_land_here", "_law_line_here"] (sp_law_gone K)) (G_law_cuts : Cal P w K mg base 2 "_law_cuts" ["_law_land_here", "_law_line_here", "_law_gone_here"] (sp_law_cuts K)) (G_law_piece_right : Cal P w K mg base 14 "_law_piece_right" ["_law_land_here", "_law_post", "_law_goal", "_law_piece"] (sp_law_piece_right K)) : BodyOk P w K mg base 14 "_law_row_right" s_law_row_right ["_law_land_here", "_law_line_here", "_law_gone_here", "_law_wished", "_law_there", "_law_cuts_here", "_law_begin", "_law_end", "_law_post", "_law_goal"] (sp_law_row_right K) := by
  intro f cdv A outer s H vs Q E hr h
  have nd := sc_law_row_right.nd
  have hu := hu_of hr
  have hu64 := hr.units
  have hu65 : (A.deeper (envOfC "_law_row_right" (defScope s_law_row_right) s.heap.objs.size f cdv)).units + 65 < cLine := by have := hr.un; omega
  obtain ⟨⟨L, r⟩, F, e, hA, ⟨W, hf⟩, k⟩ := h
  obtain ⟨v, v2, rfl, hv, h2⟩ := all2 hA
  have W : WdOk L.wd := W
  have hf : FirstFact L.wd false r := hf
  have RH := row_h W hf
  have hl : r.length ≤ 1000 := hf.2.2.2
  have ml : ∀ {F1 : Hp}, Ex F F1 → IsLand K L v F1 := fun e1 => (inferInstance : Mn (IsLand K L)).mn e1 hv
  refine ⟨_, (pss_cons (ps_set (i := 2) nd rfl (Or.inl rfl) (p_call G_law_gone hr (pa_cons (pv 0) (pa_cons (pv 1) pa_nil))))
      (pss_cons (ps_set (i := 3) nd rfl (Or.inr rfl) (pe_dget hu (pv 0) pe_str (fun _ _ => rfl)))
      (pss_cons (ps_setLc (i := 4) (own := [("_law_post", 8)]) (by rfl) nd rfl rfl (sw_true rfl rfl rfl (by decide +kernel)) (pi_list (pv 2)) (blkOk_by (N := ["_law_land_here", "_law_line_here", "_law_gone_here", "_law_wished", "_law_there", "_law_cuts_here", "_law_begin", "_law_end", "_law_post", "_law_goal"]) (sc := defScope s_law_row_right) (own := [("_law_post", 8)]) (by decide +kernel)) (fun _ _ _ _ _ => (pg_name (i := 8) nd rfl (Or.inl rfl))) (fun _ _ _ _ _ => pts_nil) (fun _ _ _ _ _ => (pe_and (pe_cmpR op_notN (pv 8) pe_non (nomark _)) (pe_one (pe_cmpR (show OpR _ _ (rInD K) from (op_inD hu65)) (pe_ix (show IxR _ (rIxT K) from ix_tup) (pv 8) pe_int (fun _ _ => rfl)) (pv 3) (by rfl))))))
      (pss_cons (ps_if (PW.pt (pw_or (pt_cmpR op_notIn_seq pe_bl (pv 4) (by rfl)) (pw_or1 (pt_cmpR op_ne (pe_bm PySem.F.plainAttrs_list PySem.F.slot_list_index PySem.F.type_list_index mt_index (pv 4) (pa_cons pe_bl pa_nil)) (pe_callB (id := "len") call_len_str (by rfl) T.f_len boot_len (pa_cons (pv 1) pa_nil)) (nomark _))))) (pss_one (ps_ret pe_bl)) pss_nil)
      (pss_cons (ps_set (i := 5) nd rfl (Or.inl rfl) (p_call G_law_cuts hr (pa_cons (pv 0) (pa_cons (pv 1) (pa_cons (pv 2) pa_nil)))))
      (pss_cons (ps_for PassesOwn.never rfl (pi_zip (by rfl) T.f_zip (pa_cons (pv 5) (pa_cons (pe_slice sl_list (pv 5) (po_some pe_int) po_none) pa_nil))) (pg_tup (by rfl) (pgs_cons (pg_name (i := 6) nd rfl (Or.inl rfl)) (pgs_cons (pg_name (i := 7) nd rfl (Or.inl rfl)) pgs_nil))) (pss_cons (ps_par (i := 8) (j := 9) (by rfl) nd rfl rfl (by decide) rfl rfl (pa_cons (pe_ix ix_list (pv 2) (pv 6) (fun _ _ => rfl)) (pa_cons (pe_ix ix_tup (pe_ix ix_list (pv 2) (pv 7) (fun _ _ => rfl)) pe_int (fun _ _ => rfl)) pa_nil)) (by rfl))
      (pss_one (ps_if (PW.pt (pw_and (pt_cmpR (op_neD hu64) (pv 9) (pe_ix ix_tup (pv 8) pe_int (fun _ _ => rfl)) (nomark _)) (pw_and1 (pt_not (pt_val (p_call G_law_piece_right hr (pa_cons (pv 0) (pa_cons (pv 8) (pa_cons (pv 9) (pa_cons (pe_slice sl_str (pv 1) (po_some (pv 6)) (po_some (pv 7))) pa_nil)))))))))) (pss_one (ps_ret pe_bl)) pss_nil))))
      (pss_one (ps_ret pe_bl)))))))), ?_⟩
  refine q_asg e (P := D K (.list ((gsM L r).map fun y => dS (some y)))) (EP.eq (e_call (L, r) (ea_cons (e_var rfl hv) (ea_cons (e_var rfl h2) ea_nil)) ⟨W, hf.2.1, hl⟩) (by rw [gone_gs RH])) fun v3 F1 H1 g1 h3 => ?_
  refine q_asg g1.fh (e_lwished (K := K) (e_var rfl (ml g1.ff))) fun v4 F2 H2 g2 h4 => ?_
  have g12 := g1.trans g2
  refine q_asg g12.fh (P := D K (.list ((lastB r.length).map .bool))) (EP.eq (e_lcM (K := K) (gsM L r) (fun y => dS (some y)) (fun y => .bool (decide (y.1 ∈ L.ws))) (i_list (e_var rfl (dpx g2.ff _ _ h3))) (by rw [gs_len]; omega) fun y hy u F1 e1 hu => ?_) ?_) fun v5 F3 H3 g3 h5 => ?_
  · obtain ⟨p, t⟩ := y
    have hu : D K (.tuple [dP p, dT t]) u F1 := hu
    refine EP.eq (e_and (a := true) (b := decide (p ∈ L.ws)) (e_notN (d := .tuple [dP p, dT t]) (e_var rfl hu) e_c) fun _ => e_inD eqv_P (x := p) (xs := L.ws) (n := 1) (e_ixT (e_var rfl hu) e_c (atI_nat (j := 0) rfl)) (e_var rfl (dpx e1 _ _ h4)) (okP_ p) (fun y _ => okP_ y) (by decide)) (by rw [Bool.true_and])
  · rw [← gs_wished RH, List.map_map]; rfl
  have g13 := g12.trans g3
  refine q_when g13.fh (b := false) (t_eq (t_or (t_test (e_niTrue (n := r.length) e_c (e_var rfl h5))) fun _ => t_test (EP.eq (e_neI (e_idxTrue (n := r.length) (e_var rfl h5) e_c) (EP.eq (e_lenS (z := S r) (e_var rfl (dpx g13.ff _ _ h2)) (by rw [len_S]; omega)) (by rw [len_S]))) (by rw [decide_eq_true rfl]; rfl))) rfl) (fun z => Bool.noConfusion z) fun _ H4 g4 => ?_
  have g14 := g13.trans g4
  have h3' := dpx (g2.ff.trans g3.ff) _ _ h3
  refine q_asg g4.fh (e_call (L, r, gsM L r) (ea_cons (e_var rfl (ml g14.ff)) (ea_cons (e_var rfl (dpx g14.ff _ _ h2)) (ea_cons (e_var rfl h3') ea_nil))) ⟨W, hl, by show 1 ≤ (gsM L r).length; rw [gs_len]; omega, by show (gsM L r).length ≤ 1001; rw [gs_len]; omega⟩) fun v6 F5 H5 g5 h6 => ?_
  have g15 := g14.trans g5
  have h6 : D K (.list ((cutsM L (gsM L r) r.length).map dN)) v6 F5 := h6
  refine q_for (K := K) g5.fh (i_zipL (ea_cons (e_var rfl h6) (ea_cons (e_slL1 (e_var rfl h6)) ea_nil))) fun F6 H6 g6 => ⟨fun i σ' F' H' => ∃ a b c d, σ' = [some v, some v2, some v3, some v4, some v5, some v6, a, b, c, d] ∧ Gr F6 H6 F' H', ⟨_, _, _, _, rfl, Gr.refl g6.fh⟩, fun i σ' F' H' q => ?_, ?_, ?_⟩
  · obtain ⟨_, _, _, _, _, q⟩ := q
    exact ⟨q.ff, q.fh⟩
  · rintro i dd y σ' F7 H7 F8 H8 hdd ⟨a0, b0, c0, d0, rfl, g7⟩ g8 hy
    have g78 := g7.trans g8
    rw [List.getElem?_zipWith, List.getElem?_drop, List.getElem?_map, List.getElem?_map] at hdd
    cases ea : (cutsM L (gsM L r) r.length)[i]? with
    | none => rw [ea] at hdd; cases hdd
    | some a =>
      cases eb : (cutsM L (gsM L r) r.length)[1 + i]? with
      | none => rw [ea, eb] at hdd; cases hdd
      | some b =>
        rw [ea, eb] at hdd
        have hdd : PyData.tuple [dN a, dN b] = dd := Option.some.inj hdd
        subst hdd
        rw [Nat.add_comm 1 i] at eb
        obtain ⟨hab, hb, hpc⟩ := row_piece W RH hl ea eb
        have e58 : Ex F5 F8 := g6.ff.trans g78.ff
        have eF8 : Ex F F8 := g15.ff.trans e58
        have h38 := dpx (g5.ff.trans e58) _ _ h3'
        refine g_unp (d1 := dN a) (d2 := dN b) g8.fh hy fun v7 v8 h7 h8 => ?_
        refine q_par (P1 := D K (dS (some (stM L r a)))) (P2 := D K (dP (stM L r b).1)) g8.fh (ea_cons (e_ixL (e_var rfl h38) (e_var rfl h7) (atI_nat (j := a) (by rw [List.getElem?_map, gs_at (by omega)]; rfl))) (ea_cons (e_ixT (ds := [dP (stM L r b).1, dT (stM L r b).2]) (e_ixL (e_var rfl h38) (e_var rfl h8) (atI_nat (j := b) (by rw [List.getElem?_map, gs_at hb]; rfl))) e_c (atI_nat (j := 0) rfl)) ea_nil)) fun v9 v10 F9 H9 g9 h9 h10 => ?_
        have e59 := e58.trans g9.ff
        have eF9 : Ex F F9 := eF8.trans g9.ff
        refine s_when g9.fh (b := false) (t_eq (t_and (a := !decide ((stM L r b).1 = (stM L r a).1)) (b := false) (t_test (EP.eq (e_neD (d := dP (stM L r b).1) (e := dP (stM L r a).1) (e_var rfl h10) (e_ixT (ds := [dP (stM L r a).1, dT (stM L r a).2]) (e_var rfl h9) e_c (atI_nat (j := 0) rfl)) ((okP_ _).shaped (by decide)) ((okP_ _).shaped (by decide))) (by rw [eqv_P]))) fun hne => t_eq (t_not (t_B (K := K) (e_call (Ps := fun x : LandM × (Pl × Tx) × Pl × Tx => [IsLand K x.1, D K (dS (some x.2.1)), D K (dP x.2.2.1), D K (dT x.2.2.2)]) (R := fun _ => D K (.bool true)) (L, stM L r a, (stM L r b).1, (r.drop a).take (b - a)) (ea_cons (e_var rfl (ml eF9)) (ea_cons (e_var rfl h9) (ea_cons (e_var rfl h10) (ea_cons (e_slS (e_var rfl (dpx eF9 _ _ h2)) (e_var rfl (dpx g9.ff _ _ h7)) (e_var rfl (dpx g9.ff _ _ h8)) (by omega) hb (by omega)) ea_nil)))) ⟨W, hpc (by simpa using hne)⟩))) rfl) (Bool.and_false _)) (fun z => Bool.noConfusion z) fun _ H10 g10 => ⟨F9, _, _, _, _, rfl, (g78.trans g9).trans g10⟩
  · rintro σ' F7 H7 ⟨a0, b0, c0, d0, rfl, g7⟩
    have g17 := (g15.trans g6).trans g7
    exact s_ret g7.fh (P := D K (.bool true)) e_c fun v F8 H8 g8 hv => k v F8 H8 (g17.trans g8) hv
end
end OL
-- OhW22
set_option maxHeartbeats 1000000
/-! The walk, part 22: the law. -/
namespace OL
open PySem PySem.Spec PyProof.Rows L2
open SX (S)
open Evl (Ex)
open OH
section
variable {K : PySem.W.Frag} {σ : L2.St} {F : Hp} {ta tb te : TE}
/-- xs[:4] -/
theorem e_sl4 {ds : List PyData} (ha : EP ta σ F (D K (.list ds))) : EP (tSl (rSlL K) ta tNoPart (tPart (tC (.int 4)))) σ F (LstD K (ds.take 4)) := fun F1 H1 e b Q q =>
  ha F1 H1 e b _ fun v F2 H2 g hv => by
    obtain ⟨a, xs, rfl, h1, h2⟩ := dLst hv
    refine ⟨4, rfl, a, xs, rfl, Evl.ex_l g.fh h1, fun p hp => ?_⟩
    have fp := ex_none g.fh hp
    refine q _ _ _ (g.trans (Gr.new g.fh hp)) ⟨p, _, rfl, upd_same, dpxs (Ex.new fp) _ _ ?_⟩
    have e1 : cutV xs none (some 4) = xs.take 4 := by
      have h3 : HT.sIx xs.length xs.length (some 4) = min 4 xs.length := HT.sIx_nat xs.length xs.length 4
      unfold cutV
      rw [h3, HT.sIx_none, List.drop_zero, Nat.sub_zero, ← List.take_take, List.take_of_length_le (Nat.le_refl xs.length)]
    rw [e1]
    exact dtake 4 h2
theorem e_cat2 {ds es : List PyData} (ha : EP ta σ F (LstD K ds)) (hb : EP tb σ F (LstD K es)) (hl : ds.length + es.length ≤ 100000) : EP (tOp rCat ta tb) σ F (D K (.list (ds ++ es))) :=
  e_op ha hb fun x y F1 H1 e b hx hy Q q => by
    obtain ⟨l, xs, rfl, h1, h2⟩ := hx
    obtain ⟨a, ys, rfl, h3, h4⟩ := hy
    have l1 := dlen h2
    have l2 := dlen h4
    refine ⟨l, a, xs, ys, rfl, rfl, b _ _ h1, b _ _ h3, line_of (by omega), fun p hp => ?_⟩
    have fp := ex_none b hp
    exact q _ (upd F1 p (.lst (xs ++ ys))) _ (Gr.new b hp) (Dp.lst (Evl.sq_of upd_same) (dpxs (Ex.new fp) _ _ (dapp h2 h4)))
theorem never_land {L : LandM} (h : NeverFact L.wd false) : NeverL L := fun v hv => h v (runL L (SL L) v) hv (run_land L v (SL L))
end
section
variable {P : Program} {w : World} {K : PySem.W.Frag} {mg : Str → Option Value} {base : Heap}
def sp_law (K : PySem.W.Frag) : Sp := Pr (fun ns : List Int => [D K (.list (ns.map .int))]) (fun _ => True) (fun _ => D K (.bool true))
theorem sc_law : FnScope ["_law_script", "_law_cell", "_law_source_here", "_law_land_here", "_law_word", "_law_thing"] ["_law_script"] (defScope s_law) := ⟨rfl, rfl, rfl, by decide +kernel, rfl, by decide +kernel, by decide +kernel⟩
set_option maxHeartbeats 2000000 in
theorem bd_law (T : Tt K mg) (G_law_source : Cal P w K mg base 1 "_law_source" ["_law_cell"] (sp_law_source K)) (G_law_plated : Cal P w K mg base 6 "_law_plated" ["_law_source_here"] (sp_law_plated K)) (G_law_made : Cal P w K mg base 10 "_law_made" ["_law_land_here"] (sp_law_made K)) (G_law_row_right : Cal P w K mg base 15 "_law_row_right" ["_law_land_here", "_law_line_here"] (sp_law_row_right K)) (G_law_never : Cal P w K mg base 4 "_law_never" ["_law_land_here"] (sp_law_never K)) (MK_Hand : Mak P w K mg base 2 "Hand" (cH K) ["self","worlds"] (sp_Hand_init K)) (FR0 : CalD P w K mg base 12 "first_row" ["hand","kind","safe"] [.bl false] (sp_first_row K)) : BodyOk P w K mg base 15 "law" s_law ["_law_script", "_law_cell", "_law_source_here", "_law_land_here", "_law_word", "_law_thing"] (sp_law K) := by
  intro f cdv A outer s H vs Q E hr h
  have nd := sc_law.nd
  have hu := hu_of hr
  have hu64 := hr.units
  have hu65 : (A.deeper (envOfC "law" (defScope s_law) s.heap.objs.size f cdv)).units + 65 < cLine := by have := hr.un; omega
  obtain ⟨ns, F, e, hA, _, k⟩ := h
  obtain ⟨v, rfl, hv⟩ := all1 hA
  refine ⟨_, (pss_cons (ps_for PassesOwn.never rfl (pi_list (pe_op op_cat (pe_slice sl_list (pv 0) po_none (po_some pe_int)) (pe_lst (pa_cons pe_int pa_nil)))) (pg_name (i := 1) nd rfl (Or.inl rfl)) (pss_cons (ps_set (i := 2) nd rfl (Or.inl rfl) (p_call G_law_source hr (pa_cons (pv 1) pa_nil)))
      (pss_cons (ps_set (i := 3) nd rfl (Or.inl rfl) (p_call G_law_plated hr (pa_cons (pv 2) pa_nil)))
      (pss_cons (ps_asg (p_callD FR0 hr (pa_cons (p_make MK_Hand hr (pa_cons (pe_lst (pa_cons (p_call G_law_made hr (pa_cons (pv 3) pa_nil)) pa_nil)) pa_nil)) (pa_cons pe_str pa_nil))) (pg_tup (by rfl) (pgs_cons (pg_name (i := 4) nd rfl (Or.inl rfl)) (pgs_cons (pg_name (i := 5) nd rfl (Or.inl rfl)) pgs_nil))))
      (pss_one (ps_if (pt_cmpR op_eq (pv 4) pe_str (nomark _)) (pss_one (ps_if (pt_not (pt_val (p_call G_law_row_right hr (pa_cons (pv 3) (pa_cons (pv 5) pa_nil))))) (pss_one (ps_ret pe_bl)) pss_nil)) (pss_one (ps_if (PW.pt (pw_or (pt_cmpR op_ne (pv 4) pe_str (nomark _)) (pw_or1 (pt_not (pt_val (p_call G_law_never hr (pa_cons (pv 3) pa_nil))))))) (pss_one (ps_ret pe_bl)) pss_nil))))))))
      (pss_one (ps_ret pe_bl))), ?_⟩
  refine q_for (K := K) (ds := (ns.map PyData.int).take 4 ++ [.int 0]) e (i_list (e_cat2 (e_sl4 (e_var rfl hv)) (e_lstH (ds := [.int 0]) (ea_cons e_c ea_nil) (show 1 ≤ 100000 from by decide)) (by rw [List.length_take]; show _ + 1 ≤ _; omega))) fun F1 H1 g1 => ⟨fun i σ' F' H' => ∃ a b c d f, σ' = [some v, a, b, c, d, f] ∧ Gr F1 H1 F' H', ⟨_, _, _, _, _, rfl, Gr.refl g1.fh⟩, fun i σ' F' H' q => ?_, ?_, ?_⟩
  · obtain ⟨_, _, _, _, _, _, q⟩ := q
    exact ⟨q.ff, q.fh⟩
  · rintro i dd y σ' F2 H2 F3 H3 hdd ⟨a, b, c, d, f, rfl, g2⟩ g3 hy
    have g23 := g2.trans g3
    obtain ⟨n, rfl⟩ : ∃ n : Int, dd = .int n := by
      rcases List.mem_append.mp (List.mem_of_getElem? hdd) with h | h
      · obtain ⟨n, _, h2⟩ := List.mem_map.mp (List.mem_of_mem_take h)
        exact ⟨n, h2.symm⟩
      · exact ⟨0, List.mem_singleton.mp h⟩
    refine gName_go ?_
    refine q_asg g3.fh (P := IsSrc) (e_call () (ea_cons (P := SomeI fun _ => True) (e_var rfl ⟨n, dInt hy, trivial⟩) ea_nil) trivial) fun v2 F4 H4 g4 h4 => ?_
    refine q_asg g4.fh (P := ResPl K) (e_call () (ea_cons (e_var rfl h4) ea_nil) trivial) fun v3 F5 H5 g5 h5 => ?_
    obtain ⟨L, hL, W⟩ := h5
    have W : WdOk L.wd := W
    have g25 := (g23.trans g4).trans g5
    refine EP.go (P := ResFR K L.wd false) (F := F5) (e_row0 W (e_hand (e_lstP (ea_cons (e_call (Ps := fun L : LandM => [IsLand K L]) (R := fun L => IsWd K L.wd) L (ea_cons (e_var rfl hL) ea_nil) W) ea_nil))) e_c) g5.fh fun u F6 H6 g6 hu => ?_
    have g26 := g25.trans g6
    have hL6 := (inferInstance : Mn (IsLand K L)).mn g6.ff hL
    rcases hu with ⟨r, hd, hf⟩ | ⟨ds, hd, hn⟩
    · refine g_unp (d1 := .str "row") (d2 := dT r) g6.fh hd fun u1 u2 q1 q2 => ?_
      refine nx_go ?_
      refine s_if g6.fh (b := true) (t_test (EP.eq (e_eqT (e_var rfl q1) e_c) (by rw [decide_eq_true rfl]))) (fun _ H7 g7 => ?_) (fun z => Bool.noConfusion z)
      exact s_when g7.fh (b := false) (t_not (t_B (K := K) (b := true) (e_call (Ps := fun x : LandM × Tx => [IsLand K x.1, D K (dT x.2)]) (R := fun _ => D K (.bool true)) (L, r) (ea_cons (e_var rfl hL6) (ea_cons (e_var rfl q2) ea_nil)) ⟨W, hf⟩))) (fun z => Bool.noConfusion z) fun _ H8 g8 => ⟨F6, _, _, _, _, _, rfl, (g26.trans g7).trans g8⟩
    · refine g_unp (d1 := .str "none") (d2 := .list ds) g6.fh hd fun u1 u2 q1 q2 => ?_
      refine nx_go ?_
      refine s_if g6.fh (b := false) (t_test (EP.eq (e_eqT (e_var rfl q1) e_c) (by congr 1))) (fun z => Bool.noConfusion z) (fun _ H7 g7 => ?_)
      exact s_when g7.fh (b := false) (t_eq (t_or (t_test (EP.eq (e_neT (e_var rfl q1) e_c) (by rw [decide_eq_true rfl]))) fun _ => t_not (t_B (K := K) (b := true) (e_call (Ps := fun L : LandM => [IsLand K L]) (R := fun _ => D K (.bool true)) L (ea_cons (e_var rfl hL6) ea_nil) ⟨W, never_land hn⟩))) rfl) (fun z => Bool.noConfusion z) fun _ H8 g8 => ⟨F6, _, _, _, _, _, rfl, (g26.trans g7).trans g8⟩
  · rintro σ' F2 H2 ⟨a, b, c, d, f, rfl, g2⟩
    exact s_ret g2.fh (P := D K (.bool true)) e_c fun v F8 H8 g8 hv => k v F8 H8 ((g1.trans g2).trans g8) hv
end
end OL
-- OhBind
set_option maxHeartbeats 4000000
namespace OL
open PySem PySem.Spec PyProof.Rows L2
variable {K : PySem.W.Frag}
theorem bind_row {f : Addr} {fd : FuncData} (F : FunD K "first_row" "first_row" (defArgs s_first_row) (defBody s_first_row) (defScope s_first_row) [] [("safe", .bl false)] f fd) :
    ∃ ds, Vals [V.bl false] ds ∧ Binds K fd ["hand", "kind", "safe"] ds :=
  FunD.binds0 (ps := ["hand", "kind", "safe"]) F 2 (List.cons_ne_nil _ _) rfl fun D doc pm an cdv ct us ks hu hk => match us, ks, hu, hk with
    | [a, b], [c], _, _ => by
      refine ⟨_, _, _, _, _, _, rfl, rfl, ?_⟩
      rfl
def gSs : {α : Type} → List α → List α → List α → List α := fun us _ ws => us ++ ws
theorem bind_rowN {f : Addr} {fd : FuncData} (F : FunD K "first_row" "first_row" (defArgs s_first_row) (defBody s_first_row) (defScope s_first_row) [] [("safe", .bl false)] f fd) :
    ∃ g, KBn K fd ["hand", "kind", "safe"] 2 ["safe"] g gVs := by
  obtain ⟨mv, h⟩ := FunD.kbinds0 (ps := ["hand", "kind", "safe"]) F 2 ["safe"] [] gSs (List.cons_ne_nil _ _) (fun q hq => by cases hq) (fun r1 _ r3 => r1.append r3) fun D doc pm an cdv ct us mv ws hu hm hw => match us, mv, ws, hu, hm, hw with
    | [a, b], [], [c], _, _, _ => by
      show _ = _
      rfl
  exact ⟨_, h⟩
abbrev FW (K : PySem.W.Frag) (f : Addr) (fd : FuncData) : Prop := FunD K "__init__" "World.__init__" (defArgs s_World_init) (defBody s_World_init) (defScope s_World_init) [] [("turn", .str "urdl"), ("book", .non)] f fd
theorem bind_w3 {f : Addr} {fd : FuncData} (F : FW K f fd) : ∃ g, KBn K fd WPS 3 ["turn", "book", "wishes"] g gV3 := by
  obtain ⟨mv, h⟩ := FunD.kbinds0 (ps := WPS) F 3 ["turn", "book", "wishes"] [] g3 (List.cons_ne_nil _ _) (fun q hq => by cases hq) (fun r1 _ r3 => r1.append r3) fun D doc pm an cdv ct us mv ws hu hm hw => match us, mv, ws, hu, hm, hw with
    | [a, b, c], [], [d, e, f], _, _, _ => by
      show _ = _
      rfl
  exact ⟨_, h⟩
theorem rel_g2 {vs mz zs : List V} {us mv ws : List Value} (h1 : Vals vs us) (h2 : Vals mz mv) (h3 : Vals zs ws) : Vals (g2 vs mz zs) (g2 us mv ws) := by
  refine h1.append ?_
  cases h3 with
  | nil => exact .nil
  | cons a t =>
    cases t with
    | nil => exact .nil
    | cons b t =>
      cases t with
      | cons _ _ => exact .nil
      | nil =>
        cases h2 with
        | nil => exact .nil
        | cons c t =>
          cases t with
          | cons _ _ => exact .nil
          | nil => exact .cons a (.cons c (.cons b .nil))
theorem rel_g1 {vs mz zs : List V} {us mv ws : List Value} (h1 : Vals vs us) (h2 : Vals mz mv) (h3 : Vals zs ws) : Vals (g1 vs mz zs) (g1 us mv ws) := by
  refine h1.append ?_
  cases h3 with
  | nil => exact .nil
  | cons a t =>
    cases t with
    | cons _ _ => exact .nil
    | nil =>
      cases h2 with
      | nil => exact .nil
      | cons c t =>
        cases t with
        | nil => exact .nil
        | cons d t =>
          cases t with
          | cons _ _ => exact .nil
          | nil => exact .cons c (.cons d (.cons a .nil))
theorem bind_w2 {f : Addr} {fd : FuncData} (F : FW K f fd) : ∃ g, KBn K fd WPS 3 ["turn", "wishes"] g gV2 := by
  obtain ⟨mv, h⟩ := FunD.kbinds0 (ps := WPS) F 3 ["turn", "wishes"] [("book", .non)] g2 (List.cons_ne_nil _ _) (fun q hq => by rw [List.mem_singleton.mp hq]; simp) (fun r1 r2 r3 => rel_g2 r1 r2 r3) fun D doc pm an cdv ct us mv ws hu hm hw => match us, mv, ws, hu, hm, hw with
    | [a, b, c], [m], [d, e], _, _, _ => by
      refine ⟨_, _, _, _, _, _, rfl, rfl, ?_⟩
      rfl
  exact ⟨_, h⟩
theorem bind_w1 {f : Addr} {fd : FuncData} (F : FW K f fd) : ∃ g, KBn K fd WPS 3 ["wishes"] g gV1 := by
  obtain ⟨mv, h⟩ := FunD.kbinds0 (ps := WPS) F 3 ["wishes"] [("turn", .str "urdl"), ("book", .non)] g1 (List.cons_ne_nil _ _) (fun q hq => hq) (fun r1 r2 r3 => rel_g1 r1 r2 r3) fun D doc pm an cdv ct us mv ws hu hm hw => match us, mv, ws, hu, hm, hw with
    | [a, b, c], [m, n], [d], _, _, _ => by
      refine ⟨_, _, _, _, _, _, rfl, rfl, ?_⟩
      refine ⟨_, _, _, _, _, _, rfl, rfl, ?_⟩
      rfl
  exact ⟨_, h⟩
end OL
-- OhEnd
set_option maxHeartbeats 4000000
/-! The end: what the head tells, each def's promise, the law. -/
namespace OL
open PySem PySem.Spec PyProof.Rows L2
open SX (S)
section
variable {P : Program} {w : World} {K : PySem.W.Frag} {mg : Str → Option Value} {h base : Heap}
theorem tt_of (X : K.In h) (G : h.Ns mainGlobals mg) (c : He.SaysD OHead.fa OHead.fn K) (hx : OHead.ex K = true) : Tt K mg := by
  obtain ⟨x1, hx⟩ := He.ba hx
  obtain ⟨x2, hx⟩ := He.ba hx
  obtain ⟨x3, hx⟩ := He.ba hx
  obtain ⟨x4, hx⟩ := He.ba hx
  obtain ⟨x5, hx⟩ := He.ba hx
  obtain ⟨x6, hx⟩ := He.ba hx
  obtain ⟨x7, hx⟩ := He.ba hx
  obtain ⟨x8, x9⟩ := He.ba hx
  exact {
    f_isinstance := He.free_ok X G (c.fact 46 (f := .free "isinstance") rfl)
    f_int := He.free_ok X G (c.fact 47 (f := .free "int") rfl)
    f_bool := He.free_ok X G (c.fact 48 (f := .free "bool") rfl)
    f_tuple := He.free_ok X G (c.fact 49 (f := .free "tuple") rfl)
    f_len := He.free_ok X G (c.fact 50 (f := .free "len") rfl)
    f_str := He.free_ok X G (c.fact 51 (f := .free "str") rfl)
    f_enumerate := He.free_ok X G (c.fact 52 (f := .free "enumerate") rfl)
    f_list := He.free_ok X G (c.fact 53 (f := .free "list") rfl)
    f_all := He.free_ok X G (c.fact 54 (f := .free "all") rfl)
    f_any := He.free_ok X G (c.fact 55 (f := .free "any") rfl)
    f_dict := He.free_ok X G (c.fact 56 (f := .free "dict") rfl)
    f_set := He.free_ok X G (c.fact 57 (f := .free "set") rfl)
    f_sorted := He.free_ok X G (c.fact 58 (f := .free "sorted") rfl)
    f_zip := He.free_ok X G (c.fact 59 (f := .free "zip") rfl)
    f_range := He.free_ok X G (c.fact 60 (f := .free "range") rfl)
    s_DEEDS := He.str_ok X G (c.fact 64 (f := .str "DEEDS" "urdl") rfl)
    s_WALL := He.str_ok X G (c.fact 65 (f := .str "WALL" "#") rfl)
    s_ICE := He.str_ok X G (c.fact 66 (f := .str "ICE" "~") rfl)
    s_PIT := He.str_ok X G (c.fact 67 (f := .str "PIT" "x") rfl)
    s_LETTERS := He.str_ok X G (c.fact 68 (f := .str "LETTERS" "abcd") rfl)
    s_OPEN := He.str_ok X G (c.fact 69 (f := .str "OPEN" ".abcd") rfl)
    s_SIGNS := He.str_ok X G (c.fact 70 (f := .str "SIGNS" "#~x.abcd") rfl)
    i_MOST := He.int_ok X G (c.fact 61 (f := .int "MOST" 6) rfl)
    i_MOST_THINGS := He.int_ok X G (c.fact 62 (f := .int "MOST_THINGS" 3000) rfl)
    i_MOST_WORLDS := He.int_ok X G (c.fact 63 (f := .int "MOST_WORLDS" 4) rfl)
    t_TURNS := He.glo_ok X G (c.fact 71 (f := .glo "TURNS") rfl)
    t_KINDS := He.glo_ok X G (c.fact 72 (f := .glo "KINDS") rfl)
    t_STEPS := He.glo_ok X G (c.fact 73 (f := .glo "STEPS") rfl)
    q_TURNS := fun H => He.tupB_ok x3 H
    q_KINDS := fun H => He.tupB_ok x4 H
    q_STEPS := fun H => ⟨_, _, _, _, He.tupB_ok x5 H, OHead.tupAtB_ok x6 H, OHead.tupAtB_ok x7 H, OHead.tupAtB_ok x8 H, OHead.tupAtB_ok x9 H⟩
    c_Floor := He.glo_ok X G (c.fact 43 (f := .glo "Floor") rfl)
    k_Floor := He.cls_ok (c.fact 74 (f := .cls "Floor") rfl)
    n_texts := He.noat_ok (c.fact 75 (f := .noat "Floor" "texts") rfl)
    m_Floor_size := ⟨_, He.meth_ok (c.fact 76 (f := .meth "Floor" "size") rfl)⟩
    m_Floor_has := ⟨_, He.meth_ok (c.fact 77 (f := .meth "Floor" "has") rfl)⟩
    m_Floor_seen := ⟨_, He.meth_ok (c.fact 78 (f := .meth "Floor" "seen") rfl)⟩
    m_Floor_letters := ⟨_, He.meth_ok (c.fact 79 (f := .meth "Floor" "letters") rfl)⟩
    m_Floor_places := ⟨_, He.meth_ok (c.fact 80 (f := .meth "Floor" "places") rfl)⟩
    m_Floor_open_places := ⟨_, He.meth_ok (c.fact 81 (f := .meth "Floor" "open_places") rfl)⟩
    m_Floor_can_stand := ⟨_, He.meth_ok (c.fact 82 (f := .meth "Floor" "can_stand") rfl)⟩
    m_Floor_goes := ⟨_, He.meth_ok (c.fact 83 (f := .meth "Floor" "goes") rfl)⟩
    mk_Floor := ⟨_, He.mkr_ok (c.fact 84 (f := .mkr "Floor") rfl)⟩
    i_Floor := OHead.insB_ok x1 (He.cls_ok (c.fact 74 (f := .cls "Floor") rfl))
    c_World := He.glo_ok X G (c.fact 44 (f := .glo "World") rfl)
    k_World := He.cls_ok (c.fact 85 (f := .cls "World") rfl)
    n_ground := He.noat_ok (c.fact 86 (f := .noat "World" "ground") rfl)
    n_pages := He.noat_ok (c.fact 87 (f := .noat "World" "pages") rfl)
    n_goals := He.noat_ok (c.fact 88 (f := .noat "World" "goals") rfl)
    n_opening := He.noat_ok (c.fact 89 (f := .noat "World" "opening") rfl)
    n_first := He.noat_ok (c.fact 90 (f := .noat "World" "first") rfl)
    m_World_floor := ⟨_, He.meth_ok (c.fact 91 (f := .meth "World" "floor") rfl)⟩
    m_World_start := ⟨_, He.meth_ok (c.fact 92 (f := .meth "World" "start") rfl)⟩
    m_World_want_stand := ⟨_, He.meth_ok (c.fact 93 (f := .meth "World" "want_stand") rfl)⟩
    m_World_behind := ⟨_, He.meth_ok (c.fact 94 (f := .meth "World" "behind") rfl)⟩
    m_World_after := ⟨_, He.meth_ok (c.fact 95 (f := .meth "World" "after") rfl)⟩
    m_World_wished := ⟨_, He.meth_ok (c.fact 96 (f := .meth "World" "wished") rfl)⟩
    mk_World := ⟨_, He.mkr_ok (c.fact 97 (f := .mkr "World") rfl)⟩
    i_World := OHead.insB_ok x2 (He.cls_ok (c.fact 85 (f := .cls "World") rfl))
    c_Hand := He.glo_ok X G (c.fact 45 (f := .glo "Hand") rfl)
    k_Hand := He.cls_ok (c.fact 98 (f := .cls "Hand") rfl)
    n_ones := He.noat_ok (c.fact 99 (f := .noat "Hand" "ones") rfl)
    m_Hand_worlds := ⟨_, He.meth_ok (c.fact 100 (f := .meth "Hand" "worlds") rfl)⟩
    m_Hand_start := ⟨_, He.meth_ok (c.fact 101 (f := .meth "Hand" "start") rfl)⟩
    m_Hand_want_stands := ⟨_, He.meth_ok (c.fact 102 (f := .meth "Hand" "want_stands") rfl)⟩
    m_Hand_after := ⟨_, He.meth_ok (c.fact 103 (f := .meth "Hand" "after") rfl)⟩
    mk_Hand := ⟨_, He.mkr_ok (c.fact 104 (f := .mkr "Hand") rfl)⟩
  }
/-- a def with keyword-only defaults -/
theorem okKw {x qual : Str} {st : Stmt} {f : Addr} {fd : FuncData} {N ps : List Str} {k : Nat} {sp : Sp} {kws : List (Str × V)} (F : FunD K x qual (defArgs st) (defBody st) (defScope st) [] kws f fd) (S : FnScope N ps (defScope st)) (len : ∀ vs H Q E, sp vs H Q E → vs.length = ps.length) (b : BodyOk P w K mg base k qual st N sp) : FnOk P w K mg base CX0 (k + 1) f fd ps sp :=
  F.ok S len fun cdv A outer s H vs Q E hr h => by
    obtain ⟨t, h1, h2⟩ := b f cdv A outer s H vs Q E hr h
    exact ⟨t, h1.nox, h2⟩
/-- every promise is kept -/
theorem law_ok (X : K.In h) (G : h.Ns mainGlobals mg) (c : He.SaysD OHead.fa OHead.fn K) (hx : OHead.ex K = true) {fd : FuncData} (Fd : FunN K "law" "law" s_law (He.ga K "law") fd) : FnOk P w K mg base CX0 16 (He.ga K "law") fd ["_law_script"] (sp_law K) := by
  have T := tt_of X G c hx
  have G_is_whole : Cal P w K mg base 1 "is_whole" ["thing"] (sp_is_whole K) := cal (show ∃ fd, FunN K "is_whole" "is_whole" s_is_whole (He.ga K "is_whole") fd from (c.def_ 0 (d := OHead.d_is_whole) rfl)) (He.glo_ok X G (c.fact 0 (f := .glo "is_whole") rfl)) sc_is_whole (fun _ _ _ _ _ _ us hl => match us, hl with | [_], _ => rfl) (Pr.len fun _ => rfl) (bd_is_whole T )
  have G_is_from : Cal P w K mg base 2 "is_from" ["thing", "least", "most"] (sp_is_from K) := cal (show ∃ fd, FunN K "is_from" "is_from" s_is_from (He.ga K "is_from") fd from (c.def_ 1 (d := OHead.d_is_from) rfl)) (He.glo_ok X G (c.fact 1 (f := .glo "is_from") rfl)) sc_is_from (fun _ _ _ _ _ _ us hl => match us, hl with | [_, _, _], _ => rfl) (Pr.len fun _ => rfl) (bd_is_from T G_is_whole)
  have G_is_place : Cal P w K mg base 3 "is_place" ["thing", "rows", "columns"] (sp_is_place K) := cal (show ∃ fd, FunN K "is_place" "is_place" s_is_place (He.ga K "is_place") fd from (c.def_ 2 (d := OHead.d_is_place) rfl)) (He.glo_ok X G (c.fact 2 (f := .glo "is_place") rfl)) sc_is_place (fun _ _ _ _ _ _ us hl => match us, hl with | [_, _, _], _ => rfl) (Pr.len fun _ => rfl) (bd_is_place T G_is_from)
  have G_is_turn : Cal P w K mg base 1 "is_turn" ["thing"] (sp_is_turn K) := cal (show ∃ fd, FunN K "is_turn" "is_turn" s_is_turn (He.ga K "is_turn") fd from (c.def_ 3 (d := OHead.d_is_turn) rfl)) (He.glo_ok X G (c.fact 3 (f := .glo "is_turn") rfl)) sc_is_turn (fun _ _ _ _ _ _ us hl => match us, hl with | [_], _ => rfl) (Pr.len fun _ => rfl) (bd_is_turn T )
  have G_want_turn : Cal P w K mg base 2 "want_turn" ["thing"] (sp_want_turn K) := cal (show ∃ fd, FunN K "want_turn" "want_turn" s_want_turn (He.ga K "want_turn") fd from (c.def_ 4 (d := OHead.d_want_turn) rfl)) (He.glo_ok X G (c.fact 4 (f := .glo "want_turn") rfl)) sc_want_turn (fun _ _ _ _ _ _ us hl => match us, hl with | [_], _ => rfl) (Pr.len fun _ => rfl) (bd_want_turn T G_is_turn)
  have G_want_row : Cal P w K mg base 1 "want_row" ["thing"] (sp_want_row K) := cal (show ∃ fd, FunN K "want_row" "want_row" s_want_row (He.ga K "want_row") fd from (c.def_ 5 (d := OHead.d_want_row) rfl)) (He.glo_ok X G (c.fact 5 (f := .glo "want_row") rfl)) sc_want_row (fun _ _ _ _ _ _ us hl => match us, hl with | [_], _ => rfl) (Pr.len fun _ => rfl) (bd_want_row T )
  have G_want_deed : Cal P w K mg base 1 "want_deed" ["thing"] (sp_want_deed K) := cal (show ∃ fd, FunN K "want_deed" "want_deed" s_want_deed (He.ga K "want_deed") fd from (c.def_ 6 (d := OHead.d_want_deed) rfl)) (He.glo_ok X G (c.fact 6 (f := .glo "want_deed") rfl)) sc_want_deed (fun _ _ _ _ _ _ us hl => match us, hl with | [_], _ => rfl) (Pr.len fun _ => rfl) (bd_want_deed T )
  have G_way : Cal P w K mg base 3 "way" ["turn", "deed"] (sp_way K) := cal (show ∃ fd, FunN K "way" "way" s_way (He.ga K "way") fd from (c.def_ 7 (d := OHead.d_way) rfl)) (He.glo_ok X G (c.fact 7 (f := .glo "way") rfl)) sc_way (fun _ _ _ _ _ _ us hl => match us, hl with | [_, _], _ => rfl) (Pr.len fun _ => rfl) (bd_way T G_want_turn G_want_deed)
  have G_row_turned : Cal P w K mg base 4 "row_turned" ["turn", "row"] (sp_row_turned K) := cal (show ∃ fd, FunN K "row_turned" "row_turned" s_row_turned (He.ga K "row_turned") fd from (c.def_ 8 (d := OHead.d_row_turned) rfl)) (He.glo_ok X G (c.fact 8 (f := .glo "row_turned") rfl)) sc_row_turned (fun _ _ _ _ _ _ us hl => match us, hl with | [_, _], _ => rfl) (Pr.len fun _ => rfl) (bd_row_turned T G_want_turn G_want_row G_way)
  have G_then : Cal P w K mg base 5 "then" ["one", "other"] (sp_then K) := cal (show ∃ fd, FunN K "then" "then" s_then (He.ga K "then") fd from (c.def_ 9 (d := OHead.d_then) rfl)) (He.glo_ok X G (c.fact 9 (f := .glo "then") rfl)) sc_then (fun _ _ _ _ _ _ us hl => match us, hl with | [_, _], _ => rfl) (Pr.len fun _ => rfl) (bd_then T G_want_turn G_row_turned)
  have G_is_text : Cal P w K mg base 1 "is_text" ["thing"] (sp_is_text K) := cal (show ∃ fd, FunN K "is_text" "is_text" s_is_text (He.ga K "is_text") fd from (c.def_ 10 (d := OHead.d_is_text) rfl)) (He.glo_ok X G (c.fact 10 (f := .glo "is_text") rfl)) sc_is_text (fun _ _ _ _ _ _ us hl => match us, hl with | [_], _ => rfl) (Pr.len fun _ => rfl) (bd_is_text T )
  have G_want_rows : Cal P w K mg base 2 "want_rows" ["thing"] (sp_want_rows K) := cal (show ∃ fd, FunN K "want_rows" "want_rows" s_want_rows (He.ga K "want_rows") fd from (c.def_ 11 (d := OHead.d_want_rows) rfl)) (He.glo_ok X G (c.fact 11 (f := .glo "want_rows") rfl)) sc_want_rows (fun _ _ _ _ _ _ us hl => match us, hl with | [_], _ => rfl) (Pr.len fun _ => rfl) (bd_want_rows T G_is_text)
  have G_next_to : Cal P w K mg base 1 "next_to" ["place", "way"] (sp_next_to K) := cal (show ∃ fd, FunN K "next_to" "next_to" s_next_to (He.ga K "next_to") fd from (c.def_ 12 (d := OHead.d_next_to) rfl)) (He.glo_ok X G (c.fact 12 (f := .glo "next_to") rfl)) sc_next_to (fun _ _ _ _ _ _ us hl => match us, hl with | [_, _], _ => rfl) (Pr.len fun _ => rfl) (bd_next_to T )
  have M_Floor_size : Met P w K mg base 1 (cF K) "size" ["self"] (sp_Floor_size K) := met (show ∃ fd, FunN K "size" "Floor.size" s_Floor_size (He.ma K (cF K) "size") fd from (c.def_ 44 (d := OHead.d_Floor_size) rfl)) T.k_Floor (He.meth_ok (c.fact 76 (f := .meth "Floor" "size") rfl)) sc_Floor_size (fun _ _ _ _ _ _ us hl => match us, hl with | [_], _ => rfl) (Pr.len fun _ => rfl) (bd_Floor_size T )
  have M_Floor_has : Met P w K mg base 4 (cF K) "has" ["self", "thing"] (sp_Floor_has K) := met (show ∃ fd, FunN K "has" "Floor.has" s_Floor_has (He.ma K (cF K) "has") fd from (c.def_ 45 (d := OHead.d_Floor_has) rfl)) T.k_Floor (He.meth_ok (c.fact 77 (f := .meth "Floor" "has") rfl)) sc_Floor_has (fun _ _ _ _ _ _ us hl => match us, hl with | [_, _], _ => rfl) (Pr.len fun _ => rfl) (bd_Floor_has T M_Floor_size G_is_place)
  have M_Floor_seen : Met P w K mg base 5 (cF K) "seen" ["self", "place"] (sp_Floor_seen K) := met (show ∃ fd, FunN K "seen" "Floor.seen" s_Floor_seen (He.ma K (cF K) "seen") fd from (c.def_ 46 (d := OHead.d_Floor_seen) rfl)) T.k_Floor (He.meth_ok (c.fact 78 (f := .meth "Floor" "seen") rfl)) sc_Floor_seen (fun _ _ _ _ _ _ us hl => match us, hl with | [_, _], _ => rfl) (Pr.len fun _ => rfl) (bd_Floor_seen T M_Floor_has)
  have M_Floor_letters : Met P w K mg base 1 (cF K) "letters" ["self"] (sp_Floor_letters K) := met (show ∃ fd, FunN K "letters" "Floor.letters" s_Floor_letters (He.ma K (cF K) "letters") fd from (c.def_ 47 (d := OHead.d_Floor_letters) rfl)) T.k_Floor (He.meth_ok (c.fact 79 (f := .meth "Floor" "letters") rfl)) sc_Floor_letters (fun _ _ _ _ _ _ us hl => match us, hl with | [_], _ => rfl) (Pr.len fun _ => rfl) (bd_Floor_letters T )
  have M_Floor_places : Met P w K mg base 2 (cF K) "places" ["self"] (sp_Floor_places K) := met (show ∃ fd, FunN K "places" "Floor.places" s_Floor_places (He.ma K (cF K) "places") fd from (c.def_ 48 (d := OHead.d_Floor_places) rfl)) T.k_Floor (He.meth_ok (c.fact 80 (f := .meth "Floor" "places") rfl)) sc_Floor_places (fun _ _ _ _ _ _ us hl => match us, hl with | [_], _ => rfl) (Pr.len fun _ => rfl) (bd_Floor_places T M_Floor_size)
  have M_Floor_open_places : Met P w K mg base 6 (cF K) "open_places" ["self"] (sp_Floor_open_places K) := met (show ∃ fd, FunN K "open_places" "Floor.open_places" s_Floor_open_places (He.ma K (cF K) "open_places") fd from (c.def_ 49 (d := OHead.d_Floor_open_places) rfl)) T.k_Floor (He.meth_ok (c.fact 81 (f := .meth "Floor" "open_places") rfl)) sc_Floor_open_places (fun _ _ _ _ _ _ us hl => match us, hl with | [_], _ => rfl) (Pr.len fun _ => rfl) (bd_Floor_open_places T M_Floor_places M_Floor_seen)
  have M_Floor_can_stand : Met P w K mg base 6 (cF K) "can_stand" ["self", "thing"] (sp_Floor_can_stand K) := met (show ∃ fd, FunN K "can_stand" "Floor.can_stand" s_Floor_can_stand (He.ma K (cF K) "can_stand") fd from (c.def_ 50 (d := OHead.d_Floor_can_stand) rfl)) T.k_Floor (He.meth_ok (c.fact 82 (f := .meth "Floor" "can_stand") rfl)) sc_Floor_can_stand (fun _ _ _ _ _ _ us hl => match us, hl with | [_, _], _ => rfl) (Pr.len fun _ => rfl) (bd_Floor_can_stand T M_Floor_has M_Floor_seen)
  have M_Floor_goes : Met P w K mg base 7 (cF K) "goes" ["self", "place", "way"] (sp_Floor_goes K) := met (show ∃ fd, FunN K "goes" "Floor.goes" s_Floor_goes (He.ma K (cF K) "goes") fd from (c.def_ 51 (d := OHead.d_Floor_goes) rfl)) T.k_Floor (He.meth_ok (c.fact 83 (f := .meth "Floor" "goes") rfl)) sc_Floor_goes (fun _ _ _ _ _ _ us hl => match us, hl with | [_, _, _], _ => rfl) (Pr.len fun _ => rfl) (bd_Floor_goes T M_Floor_can_stand G_want_deed G_next_to M_Floor_seen)
  obtain ⟨fFloor, FFloor⟩ : ∃ fd, FunN K "__init__" "Floor.__init__" s_Floor_init (He.ma K (cF K) "__init__") fd := (c.def_ 43 (d := OHead.d_Floor_init) rfl)
  have MK_Floor : Mak P w K mg base 3 "Floor" (cF K) ["self", "rows"] (sp_Floor_init K) := ⟨_, _, He.mkr_ok (c.fact 84 (f := .mkr "Floor") rfl), fnOk FFloor sc_Floor_init (PrI.len fun _ => rfl) (bd_Floor_init T G_want_rows), T.c_Floor, FFloor.bindsN (fun _ _ _ _ _ _ us hl => match us, hl with | [_, _], _ => rfl)⟩
  have G_is_stand : Cal P w K mg base 7 "is_stand" ["floor", "thing"] (sp_is_stand K) := cal (show ∃ fd, FunN K "is_stand" "is_stand" s_is_stand (He.ga K "is_stand") fd from (c.def_ 13 (d := OHead.d_is_stand) rfl)) (He.glo_ok X G (c.fact 13 (f := .glo "is_stand") rfl)) sc_is_stand (fun _ _ _ _ _ _ us hl => match us, hl with | [_, _], _ => rfl) (Pr.len fun _ => rfl) (bd_is_stand T M_Floor_can_stand G_is_turn)
  have G_is_book : Cal P w K mg base 2 "is_book" ["floor", "thing"] (sp_is_book K) := cal (show ∃ fd, FunN K "is_book" "is_book" s_is_book (He.ga K "is_book") fd from (c.def_ 14 (d := OHead.d_is_book) rfl)) (He.glo_ok X G (c.fact 14 (f := .glo "is_book") rfl)) sc_is_book (fun _ _ _ _ _ _ us hl => match us, hl with | [_, _], _ => rfl) (Pr.len fun _ => rfl) (bd_is_book T M_Floor_letters G_is_turn)
  have G_are_wishes : Cal P w K mg base 5 "are_wishes" ["floor", "thing"] (sp_are_wishes K) := cal (show ∃ fd, FunN K "are_wishes" "are_wishes" s_are_wishes (He.ga K "are_wishes") fd from (c.def_ 15 (d := OHead.d_are_wishes) rfl)) (He.glo_ok X G (c.fact 15 (f := .glo "are_wishes") rfl)) sc_are_wishes (fun _ _ _ _ _ _ us hl => match us, hl with | [_, _], _ => rfl) (Pr.len fun _ => rfl) (bd_are_wishes T M_Floor_has)
  have G_first_wrong : Cal P w K mg base 7 "first_wrong" ["floor", "begin", "turn", "book", "wishes"] (sp_first_wrong K) := cal (show ∃ fd, FunN K "first_wrong" "first_wrong" s_first_wrong (He.ga K "first_wrong") fd from (c.def_ 16 (d := OHead.d_first_wrong) rfl)) (He.glo_ok X G (c.fact 16 (f := .glo "first_wrong") rfl)) sc_first_wrong (fun _ _ _ _ _ _ us hl => match us, hl with | [_, _, _, _, _], _ => rfl) (Pr.len fun _ => rfl) (bd_first_wrong T M_Floor_has M_Floor_open_places G_is_turn G_is_book G_are_wishes)
  obtain ⟨fw, Fw⟩ : ∃ fd, FW K (He.ma K (cW K) "__init__") fd := (c.def_ 52 (d := OHead.d_World_init) rfl)
  have OWorld : FnOk P w K mg base CX0 8 (He.ma K (cW K) "__init__") fw WPS (sp_World_init K) := okKw Fw sc_World_init (PrI.len fun _ => rfl) (bd_World_init T G_first_wrong M_Floor_letters)
  have MW3 : MakN P w K mg base 8 2 "World" (cW K) WPS ["turn", "book", "wishes"] gV3 (sp_World_init K) := ⟨_, _, He.mkr_ok (c.fact 97 (f := .mkr "World") rfl), OWorld, T.c_World, bind_w3 Fw⟩
  have MW2 : MakN P w K mg base 8 2 "World" (cW K) WPS ["turn", "wishes"] gV2 (sp_World_init K) := ⟨_, _, He.mkr_ok (c.fact 97 (f := .mkr "World") rfl), OWorld, T.c_World, bind_w2 Fw⟩
  have MW1 : MakN P w K mg base 8 2 "World" (cW K) WPS ["wishes"] gV1 (sp_World_init K) := ⟨_, _, He.mkr_ok (c.fact 97 (f := .mkr "World") rfl), OWorld, T.c_World, bind_w1 Fw⟩
  have M_World_floor : Met P w K mg base 1 (cW K) "floor" ["self"] (sp_World_floor K) := met (show ∃ fd, FunN K "floor" "World.floor" s_World_floor (He.ma K (cW K) "floor") fd from (c.def_ 53 (d := OHead.d_World_floor) rfl)) T.k_World (He.meth_ok (c.fact 91 (f := .meth "World" "floor") rfl)) sc_World_floor (fun _ _ _ _ _ _ us hl => match us, hl with | [_], _ => rfl) (Pr.len fun _ => rfl) (bd_World_floor T )
  have M_World_start : Met P w K mg base 1 (cW K) "start" ["self"] (sp_World_start K) := met (show ∃ fd, FunN K "start" "World.start" s_World_start (He.ma K (cW K) "start") fd from (c.def_ 54 (d := OHead.d_World_start) rfl)) T.k_World (He.meth_ok (c.fact 92 (f := .meth "World" "start") rfl)) sc_World_start (fun _ _ _ _ _ _ us hl => match us, hl with | [_], _ => rfl) (Pr.len fun _ => rfl) (bd_World_start T )
  have M_World_want_stand : Met P w K mg base 8 (cW K) "want_stand" ["self", "thing"] (sp_World_want_stand K) := met (show ∃ fd, FunN K "want_stand" "World.want_stand" s_World_want_stand (He.ma K (cW K) "want_stand") fd from (c.def_ 55 (d := OHead.d_World_want_stand) rfl)) T.k_World (He.meth_ok (c.fact 93 (f := .meth "World" "want_stand") rfl)) sc_World_want_stand (fun _ _ _ _ _ _ us hl => match us, hl with | [_, _], _ => rfl) (Pr.len fun _ => rfl) (bd_World_want_stand T G_is_stand)
  have M_World_behind : Met P w K mg base 8 (cW K) "behind" ["self", "stand", "deed"] (sp_World_behind K) := met (show ∃ fd, FunN K "behind" "World.behind" s_World_behind (He.ma K (cW K) "behind") fd from (c.def_ 56 (d := OHead.d_World_behind) rfl)) T.k_World (He.meth_ok (c.fact 94 (f := .meth "World" "behind") rfl)) sc_World_behind (fun _ _ _ _ _ _ us hl => match us, hl with | [_, _, _], _ => rfl) (Pr.len fun _ => rfl) (bd_World_behind T G_way M_Floor_goes M_Floor_seen G_then)
  have M_World_after : Met P w K mg base 9 (cW K) "after" ["self", "stand", "deed"] (sp_World_after K) := met (show ∃ fd, FunN K "after" "World.after" s_World_after (He.ma K (cW K) "after") fd from (c.def_ 57 (d := OHead.d_World_after) rfl)) T.k_World (He.meth_ok (c.fact 95 (f := .meth "World" "after") rfl)) sc_World_after (fun _ _ _ _ _ _ us hl => match us, hl with | [_, _, _], _ => rfl) (Pr.len fun _ => rfl) (bd_World_after T M_World_want_stand G_want_deed M_World_behind)
  have M_World_wished : Met P w K mg base 9 (cW K) "wished" ["self", "stand"] (sp_World_wished K) := met (show ∃ fd, FunN K "wished" "World.wished" s_World_wished (He.ma K (cW K) "wished") fd from (c.def_ 58 (d := OHead.d_World_wished) rfl)) T.k_World (He.meth_ok (c.fact 96 (f := .meth "World" "wished") rfl)) sc_World_wished (fun _ _ _ _ _ _ us hl => match us, hl with | [_, _], _ => rfl) (Pr.len fun _ => rfl) (bd_World_wished T M_World_want_stand)
  have G_are_worlds : Cal P w K mg base 1 "are_worlds" ["thing"] (sp_are_worlds K) := cal (show ∃ fd, FunN K "are_worlds" "are_worlds" s_are_worlds (He.ga K "are_worlds") fd from (c.def_ 22 (d := OHead.d_are_worlds) rfl)) (He.glo_ok X G (c.fact 22 (f := .glo "are_worlds") rfl)) sc_are_worlds (fun _ _ _ _ _ _ us hl => match us, hl with | [_], _ => rfl) (Pr.len fun _ => rfl) (bd_are_worlds T )
  obtain ⟨fHand, FHand⟩ : ∃ fd, FunN K "__init__" "Hand.__init__" s_Hand_init (He.ma K (cH K) "__init__") fd := (c.def_ 59 (d := OHead.d_Hand_init) rfl)
  have MK_Hand : Mak P w K mg base 2 "Hand" (cH K) ["self", "worlds"] (sp_Hand_init K) := ⟨_, _, He.mkr_ok (c.fact 104 (f := .mkr "Hand") rfl), fnOk FHand sc_Hand_init (PrI.len fun _ => rfl) (bd_Hand_init T G_are_worlds), T.c_Hand, FHand.bindsN (fun _ _ _ _ _ _ us hl => match us, hl with | [_, _], _ => rfl)⟩
  have M_Hand_worlds : Met P w K mg base 1 (cH K) "worlds" ["self"] (sp_Hand_worlds K) := met (show ∃ fd, FunN K "worlds" "Hand.worlds" s_Hand_worlds (He.ma K (cH K) "worlds") fd from (c.def_ 60 (d := OHead.d_Hand_worlds) rfl)) T.k_Hand (He.meth_ok (c.fact 100 (f := .meth "Hand" "worlds") rfl)) sc_Hand_worlds (fun _ _ _ _ _ _ us hl => match us, hl with | [_], _ => rfl) (Pr.len fun _ => rfl) (bd_Hand_worlds T )
  have M_Hand_start : Met P w K mg base 2 (cH K) "start" ["self"] (sp_Hand_start K) := met (show ∃ fd, FunN K "start" "Hand.start" s_Hand_start (He.ma K (cH K) "start") fd from (c.def_ 61 (d := OHead.d_Hand_start) rfl)) T.k_Hand (He.meth_ok (c.fact 101 (f := .meth "Hand" "start") rfl)) sc_Hand_start (fun _ _ _ _ _ _ us hl => match us, hl with | [_], _ => rfl) (Pr.len fun _ => rfl) (bd_Hand_start T M_World_start)
  have M_Hand_want_stands : Met P w K mg base 8 (cH K) "want_stands" ["self", "thing"] (sp_Hand_want_stands K) := met (show ∃ fd, FunN K "want_stands" "Hand.want_stands" s_Hand_want_stands (He.ma K (cH K) "want_stands") fd from (c.def_ 62 (d := OHead.d_Hand_want_stands) rfl)) T.k_Hand (He.meth_ok (c.fact 102 (f := .meth "Hand" "want_stands") rfl)) sc_Hand_want_stands (fun _ _ _ _ _ _ us hl => match us, hl with | [_, _], _ => rfl) (Pr.len fun _ => rfl) (bd_Hand_want_stands T M_World_floor G_is_stand)
  have M_Hand_after : Met P w K mg base 10 (cH K) "after" ["self", "stands", "deed"] (sp_Hand_after K) := met (show ∃ fd, FunN K "after" "Hand.after" s_Hand_after (He.ma K (cH K) "after") fd from (c.def_ 63 (d := OHead.d_Hand_after) rfl)) T.k_Hand (He.meth_ok (c.fact 103 (f := .meth "Hand" "after") rfl)) sc_Hand_after (fun _ _ _ _ _ _ us hl => match us, hl with | [_, _, _], _ => rfl) (Pr.len fun _ => rfl) (bd_Hand_after T M_Hand_want_stands G_want_deed M_World_after)
  have G_want_kind : Cal P w K mg base 1 "want_kind" ["kind"] (sp_want_kind K) := cal (show ∃ fd, FunN K "want_kind" "want_kind" s_want_kind (He.ga K "want_kind") fd from (c.def_ 17 (d := OHead.d_want_kind) rfl)) (He.glo_ok X G (c.fact 17 (f := .glo "want_kind") rfl)) sc_want_kind (fun _ _ _ _ _ _ us hl => match us, hl with | [_], _ => rfl) (Pr.len fun _ => rfl) (bd_want_kind T )
  have G_first_thing : Cal P w K mg base 3 "first_thing" ["hand", "kind"] (sp_first_thing K) := cal (show ∃ fd, FunN K "first_thing" "first_thing" s_first_thing (He.ga K "first_thing") fd from (c.def_ 18 (d := OHead.d_first_thing) rfl)) (He.glo_ok X G (c.fact 18 (f := .glo "first_thing") rfl)) sc_first_thing (fun _ _ _ _ _ _ us hl => match us, hl with | [_, _], _ => rfl) (Pr.len fun _ => rfl) (bd_first_thing T M_Hand_start)
  have G_is_brought : Cal P w K mg base 10 "is_brought" ["hand", "kind", "thing"] (sp_is_brought K) := cal (show ∃ fd, FunN K "is_brought" "is_brought" s_is_brought (He.ga K "is_brought") fd from (c.def_ 19 (d := OHead.d_is_brought) rfl)) (He.glo_ok X G (c.fact 19 (f := .glo "is_brought") rfl)) sc_is_brought (fun _ _ _ _ _ _ us hl => match us, hl with | [_, _, _], _ => rfl) (Pr.len fun _ => rfl) (bd_is_brought T M_World_wished M_Hand_worlds)
  have G_things_behind : Cal P w K mg base 11 "things_behind" ["hand", "kind", "thing", "safe"] (sp_things_behind K) := cal (show ∃ fd, FunN K "things_behind" "things_behind" s_things_behind (He.ga K "things_behind") fd from (c.def_ 20 (d := OHead.d_things_behind) rfl)) (He.glo_ok X G (c.fact 20 (f := .glo "things_behind") rfl)) sc_things_behind (fun _ _ _ _ _ _ us hl => match us, hl with | [_, _, _, _], _ => rfl) (Pr.len fun _ => rfl) (bd_things_behind T M_Hand_after)
  obtain ⟨fr, Fr⟩ : ∃ fd, FunD K "first_row" "first_row" (defArgs s_first_row) (defBody s_first_row) (defScope s_first_row) [] [("safe", .bl false)] (He.ga K "first_row") fd := (c.def_ 21 (d := OHead.d_first_row) rfl)
  have ORow : FnOk P w K mg base CX0 12 (He.ga K "first_row") fr ["hand", "kind", "safe"] (sp_first_row K) := okKw Fr sc_first_row (Pr.len fun _ => rfl) (bd_first_row T G_want_kind G_first_thing G_is_brought G_things_behind)
  have FR0 : CalD P w K mg base 12 "first_row" ["hand", "kind", "safe"] [.bl false] (sp_first_row K) := ⟨_, _, ORow, He.glo_ok X G (c.fact 21 (f := .glo "first_row") rfl), Fr.kp, bind_row Fr⟩
  have FR1 : CalN P w K mg base 12 2 "first_row" ["hand", "kind", "safe"] ["safe"] gVs (sp_first_row K) := ⟨_, _, ORow, He.glo_ok X G (c.fact 21 (f := .glo "first_row") rfl), Fr.kp, bind_rowN Fr⟩
  have G_law_mixed : Cal P w K mg base 1 "_law_mixed" ["_law_cell", "_law_k"] (sp_law_mixed K) := cal (show ∃ fd, FunN K "_law_mixed" "_law_mixed" s_law_mixed (He.ga K "_law_mixed") fd from (c.def_ 23 (d := OHead.d_law_mixed) rfl)) (He.glo_ok X G (c.fact 23 (f := .glo "_law_mixed") rfl)) sc_law_mixed (fun _ _ _ _ _ _ us hl => match us, hl with | [_, _], _ => rfl) (Pr.len fun _ => rfl) (bd_law_mixed T )
  have G_law_source : Cal P w K mg base 1 "_law_source" ["_law_cell"] (sp_law_source K) := cal (show ∃ fd, FunN K "_law_source" "_law_source" s_law_source (He.ga K "_law_source") fd from (c.def_ 24 (d := OHead.d_law_source) rfl)) (He.glo_ok X G (c.fact 24 (f := .glo "_law_source") rfl)) sc_law_source (fun _ _ _ _ _ _ us hl => match us, hl with | [_], _ => rfl) (Pr.len fun _ => rfl) (bd_law_source T )
  have G_law_take : Cal P w K mg base 2 "_law_take" ["_law_source_here", "_law_size"] (sp_law_take K) := cal (show ∃ fd, FunN K "_law_take" "_law_take" s_law_take (He.ga K "_law_take") fd from (c.def_ 25 (d := OHead.d_law_take) rfl)) (He.glo_ok X G (c.fact 25 (f := .glo "_law_take") rfl)) sc_law_take (fun _ _ _ _ _ _ us hl => match us, hl with | [_, _], _ => rfl) (Pr.len fun _ => rfl) (bd_law_take T G_law_mixed)
  have G_law_one : Cal P w K mg base 3 "_law_one" ["_law_source_here", "_law_some"] (sp_law_one K) := cal (show ∃ fd, FunN K "_law_one" "_law_one" s_law_one (He.ga K "_law_one") fd from (c.def_ 26 (d := OHead.d_law_one) rfl)) (He.glo_ok X G (c.fact 26 (f := .glo "_law_one") rfl)) sc_law_one (fun _ _ _ _ _ _ us hl => match us, hl with | [_, _], _ => rfl) (Pr.len fun _ => rfl) (bd_law_one T G_law_take)
  have G_law_sense : Cal P w K mg base 4 "_law_sense" ["_law_source_here"] (sp_law_sense K) := cal (show ∃ fd, FunN K "_law_sense" "_law_sense" s_law_sense (He.ga K "_law_sense") fd from (c.def_ 27 (d := OHead.d_law_sense) rfl)) (He.glo_ok X G (c.fact 27 (f := .glo "_law_sense") rfl)) sc_law_sense (fun _ _ _ _ _ _ us hl => match us, hl with | [_], _ => rfl) (Pr.len fun _ => rfl) (bd_law_sense T G_law_one)
  have G_law_spots : Cal P w K mg base 1 "_law_spots" ["_law_rows_here", "_law_signs"] (sp_law_spots K) := cal (show ∃ fd, FunN K "_law_spots" "_law_spots" s_law_spots (He.ga K "_law_spots") fd from (c.def_ 28 (d := OHead.d_law_spots) rfl)) (He.glo_ok X G (c.fact 28 (f := .glo "_law_spots") rfl)) sc_law_spots (fun _ _ _ _ _ _ us hl => match us, hl with | [_, _], _ => rfl) (Pr.len fun _ => rfl) (bd_law_spots T )
  have G_law_land : Cal P w K mg base 5 "_law_land" ["_law_source_here", "_law_rows_here"] (sp_law_land K) := cal (show ∃ fd, FunN K "_law_land" "_law_land" s_law_land (He.ga K "_law_land") fd from (c.def_ 29 (d := OHead.d_law_land) rfl)) (He.glo_ok X G (c.fact 29 (f := .glo "_law_land") rfl)) sc_law_land (fun _ _ _ _ _ _ us hl => match us, hl with | [_, _], _ => rfl) (fun _ _ _ _ ⟨_, _, _, hh, _⟩ => hh.len) (bd_law_land T G_law_one G_law_spots G_law_sense G_law_take)
  have G_law_made : Cal P w K mg base 10 "_law_made" ["_law_land_here"] (sp_law_made K) := cal (show ∃ fd, FunN K "_law_made" "_law_made" s_law_made (He.ga K "_law_made") fd from (c.def_ 30 (d := OHead.d_law_made) rfl)) (He.glo_ok X G (c.fact 30 (f := .glo "_law_made") rfl)) sc_law_made (fun _ _ _ _ _ _ us hl => match us, hl with | [_], _ => rfl) (Pr.len fun _ => rfl) (bd_law_made T MK_Floor MW3)
  have G_law_plated : Cal P w K mg base 6 "_law_plated" ["_law_source_here"] (sp_law_plated K) := cal (show ∃ fd, FunN K "_law_plated" "_law_plated" s_law_plated (He.ga K "_law_plated") fd from (c.def_ 36 (d := OHead.d_law_plated) rfl)) (He.glo_ok X G (c.fact 36 (f := .glo "_law_plated") rfl)) sc_law_plated (fun _ _ _ _ _ _ us hl => match us, hl with | [_], _ => rfl) (Pr.len fun _ => rfl) (bd_law_plated T G_law_take G_law_one G_law_land G_law_spots)
  have G_law_sign : Cal P w K mg base 1 "_law_sign" ["_law_rows_here", "_law_spot"] (sp_law_sign K) := cal (show ∃ fd, FunN K "_law_sign" "_law_sign" s_law_sign (He.ga K "_law_sign") fd from (c.def_ 31 (d := OHead.d_law_sign) rfl)) (He.glo_ok X G (c.fact 31 (f := .glo "_law_sign") rfl)) sc_law_sign (fun _ _ _ _ _ _ us hl => match us, hl with | [_, _], _ => rfl) (Pr.len fun _ => rfl) (bd_law_sign T )
  have G_law_goes : Cal P w K mg base 2 "_law_goes" ["_law_rows_here", "_law_spot", "_law_step"] (sp_law_goes K) := cal (show ∃ fd, FunN K "_law_goes" "_law_goes" s_law_goes (He.ga K "_law_goes") fd from (c.def_ 32 (d := OHead.d_law_goes) rfl)) (He.glo_ok X G (c.fact 32 (f := .glo "_law_goes") rfl)) sc_law_goes (fun _ _ _ _ _ _ us hl => match us, hl with | [_, _, _], _ => rfl) (Pr.len fun _ => rfl) (bd_law_goes T G_law_sign)
  have G_law_becomes : Cal P w K mg base 1 "_law_becomes" ["_law_sense_here", "_law_line_here"] (sp_law_becomes K) := cal (show ∃ fd, FunN K "_law_becomes" "_law_becomes" s_law_becomes (He.ga K "_law_becomes") fd from (c.def_ 33 (d := OHead.d_law_becomes) rfl)) (He.glo_ok X G (c.fact 33 (f := .glo "_law_becomes") rfl)) sc_law_becomes (fun _ _ _ _ _ _ us hl => match us, hl with | [_, _], _ => rfl) (Pr.len fun _ => rfl) (bd_law_becomes T )
  have G_law_behind : Cal P w K mg base 3 "_law_behind" ["_law_land_here", "_law_post", "_law_step"] (sp_law_behind K) := cal (show ∃ fd, FunN K "_law_behind" "_law_behind" s_law_behind (He.ga K "_law_behind") fd from (c.def_ 34 (d := OHead.d_law_behind) rfl)) (He.glo_ok X G (c.fact 34 (f := .glo "_law_behind") rfl)) sc_law_behind (fun _ _ _ _ _ _ us hl => match us, hl with | [_, _, _], _ => rfl) (Pr.len fun _ => rfl) (bd_law_behind T G_law_goes G_law_becomes G_law_sign)
  have G_law_gone : Cal P w K mg base 4 "_law_gone" ["_law_land_here", "_law_line_here"] (sp_law_gone K) := cal (show ∃ fd, FunN K "_law_gone" "_law_gone" s_law_gone (He.ga K "_law_gone") fd from (c.def_ 35 (d := OHead.d_law_gone) rfl)) (He.glo_ok X G (c.fact 35 (f := .glo "_law_gone") rfl)) sc_law_gone (fun _ _ _ _ _ _ us hl => match us, hl with | [_, _], _ => rfl) (Pr.len fun _ => rfl) (bd_law_gone T G_law_behind)
  have G_law_never : Cal P w K mg base 4 "_law_never" ["_law_land_here"] (sp_law_never K) := cal (show ∃ fd, FunN K "_law_never" "_law_never" s_law_never (He.ga K "_law_never") fd from (c.def_ 41 (d := OHead.d_law_never) rfl)) (He.glo_ok X G (c.fact 41 (f := .glo "_law_never") rfl)) sc_law_never (fun _ _ _ _ _ _ us hl => match us, hl with | [_], _ => rfl) (Pr.len fun _ => rfl) (bd_law_never T G_law_behind)
  have G_law_bare : Cal P w K mg base 1 "_law_bare" ["_law_land_here", "_law_spot", "_law_goal"] (sp_law_bare K) := cal (show ∃ fd, FunN K "_law_bare" "_law_bare" s_law_bare (He.ga K "_law_bare") fd from (c.def_ 37 (d := OHead.d_law_bare) rfl)) (He.glo_ok X G (c.fact 37 (f := .glo "_law_bare") rfl)) sc_law_bare (fun _ _ _ _ _ _ us hl => match us, hl with | [_, _, _], _ => rfl) (Pr.len fun _ => rfl) (bd_law_bare T )
  have G_law_cuts : Cal P w K mg base 2 "_law_cuts" ["_law_land_here", "_law_line_here", "_law_gone_here"] (sp_law_cuts K) := cal (show ∃ fd, FunN K "_law_cuts" "_law_cuts" s_law_cuts (He.ga K "_law_cuts") fd from (c.def_ 38 (d := OHead.d_law_cuts) rfl)) (He.glo_ok X G (c.fact 38 (f := .glo "_law_cuts") rfl)) sc_law_cuts (fun _ _ _ _ _ _ us hl => match us, hl with | [_, _, _], _ => rfl) (Pr.len fun _ => rfl) (bd_law_cuts T G_law_sign)
  have G_law_piece_right : Cal P w K mg base 14 "_law_piece_right" ["_law_land_here", "_law_post", "_law_goal", "_law_piece"] (sp_law_piece_right K) := cal (show ∃ fd, FunN K "_law_piece_right" "_law_piece_right" s_law_piece_right (He.ga K "_law_piece_right") fd from (c.def_ 39 (d := OHead.d_law_piece_right) rfl)) (He.glo_ok X G (c.fact 39 (f := .glo "_law_piece_right") rfl)) sc_law_piece_right (fun _ _ _ _ _ _ us hl => match us, hl with | [_, _, _, _], _ => rfl) (Pr.len fun _ => rfl) (bd_law_piece_right T G_law_bare MK_Floor MK_Hand MW2 MW1 FR1)
  have G_law_row_right : Cal P w K mg base 15 "_law_row_right" ["_law_land_here", "_law_line_here"] (sp_law_row_right K) := cal (show ∃ fd, FunN K "_law_row_right" "_law_row_right" s_law_row_right (He.ga K "_law_row_right") fd from (c.def_ 40 (d := OHead.d_law_row_right) rfl)) (He.glo_ok X G (c.fact 40 (f := .glo "_law_row_right") rfl)) sc_law_row_right (fun _ _ _ _ _ _ us hl => match us, hl with | [_, _], _ => rfl) (Pr.len fun _ => rfl) (bd_law_row_right T G_law_gone G_law_cuts G_law_piece_right)
  exact fnOk Fd sc_law (Pr.len fun _ => rfl) (bd_law T G_law_source G_law_plated G_law_made G_law_row_right G_law_never MK_Hand FR0)
theorem law_fd (X : K.In h) (G : h.Ns mainGlobals mg) (c : He.SaysD OHead.fa OHead.fn K) {fa : Addr} (hfa : mg "law" = some (.ref fa)) : fa = He.ga K "law" ∧ ∃ fd, FunN K "law" "law" s_law (He.ga K "law") fd := by
  have e := hfa.symm.trans (He.glo_ok X G (c.fact 42 (f := .glo "law") rfl))
  cases e
  exact ⟨rfl, (c.def_ 42 (d := OHead.d_law) rfl)⟩
end
end OL
open PySem PySem.W PySem.Calls PyProof.Rows
set_option maxHeartbeats 0
theorem PySem.Challenge.cw_onehand_k98_whole_a_world_split_at_its_c_holds : PySem.Challenge.rw_onehand_k98_whole_a_world_split_at_its_c.Holds := by
  w_on; o_law
  refine HandSHeadRun.head_any (r := OpenLaw.row PySem.Challenge.rw_onehand_k98_whole_a_world_split_at_its_c) (q := view (OpenLaw.row PySem.Challenge.rw_onehand_k98_whole_a_world_split_at_its_c).prog [79]) (H := OHead.hk) (ob := OHead.ob) (M := 8000) (loose := OHead.names) (d := HandSHeadRun.topDef (OpenLaw.row PySem.Challenge.rw_onehand_k98_whole_a_world_split_at_its_c).prog 79) (kwd := []) OHead.ob_eq
    (by kernel_rfl) (fun s => by kernel_rfl) OHead.run (by kernel_rfl) (by kernel_rfl) (by kernel_rfl) (by rfl) (by first | assumption | decide +kernel) (by decide +kernel) ⟨rfl, rfl, rfl, rfl, rfl, by decide +kernel⟩ ?hw ?hc
  case hw => w_witness2
  case hc =>
    refine L2.walk_ofE (l := PySem.Challenge.rw_onehand_k98_whole_a_world_split_at_its_c) (n := 63) (k := 16) (x := "_law_script") (CX := L2.CX0) rfl (by decide) (by kernel_rfl) ⟨rfl, by decide, by decide⟩ ?F (fun _ _ _ _ z => z)
    intro w mg fa h Y G hmg0
    obtain ⟨K, KX, c, hx⟩ := Y
    have hmg : mg ("law" : PySem.Str) = some (.ref fa) := by
      have e : (HandSHeadRun.topDef (OpenLaw.row PySem.Challenge.rw_onehand_k98_whole_a_world_split_at_its_c).prog 79).name = ("law" : PySem.Str) := by kernel_rfl
      rw [← e]
      exact hmg0
    obtain ⟨e1, fd, Fd⟩ := OL.law_fd KX G c hmg
    subst e1
    have b := L2.FunD.bindsA (ps := [("_law_script" : PySem.Str)]) Fd (fun _ _ _ _ _ _ us hl => match us, hl with | [_], _ => rfl)
    exact ⟨K, fd, OL.sp_law K, KX, fun s v => b s [v] rfl, fun H a ns hl _ hS => ⟨ns, H, Evl.Ex.refl H, ⟨L2.Dp.lst hS (OL.dofInts ns), trivial⟩, trivial, fun v F' H' _ hv => OL.dBool hv⟩, fun base _ _ => OL.law_ok KX G c hx Fd⟩
