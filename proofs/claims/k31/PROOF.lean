import PyProof.Rows.All
import Wide.All
import OpenK.AllK
import Wide.FinOn
import HandS.ForMost
import HandS.SetFor
import HandS.Strs
import KE.SortData
import HandS.Conv
import HandS.TupMul
import HandS.Zip
import HandS.TupAny
import HandS.TupLen
import HandS.IsInst
import HandS.Walk
import HandS.Codes
import PySem.Challenge.RW_cutorall_k31_least_over_helpers
set_option Elab.async false
set_option linter.all false
set_option maxRecDepth 100000
set_option maxHeartbeats 4000000
/-! K31M: sums as lists of (letters, number), worths, tables, the added triples. Plain Lean. -/
namespace K31

abbrev Mem := List Int × Int

/-- the value of letter l in a row -/
def at0 (row : List Int) (l : Int) : Int := row.getD l.toNat 0
def mon (r : Int → Int) (n : Int) (ls : List Int) : Int := ls.foldl (fun y l => y * r l) n
def worth (T : List Mem) (r : Int → Int) : Int := (T.map fun m => mon r m.2 m.1).sum
def W01 (r : Int → Int) : Prop := ∀ l, r l = 0 ∨ r l = 1
def Row01 (row : List Int) : Prop := ∀ x ∈ row, x = 0 ∨ x = 1

theorem mon_nil (r : Int → Int) (n : Int) : mon r n [] = n := rfl
theorem mon_cons (r : Int → Int) (n l : Int) (ls : List Int) : mon r n (l :: ls) = mon r (n * r l) ls := rfl
theorem mon_snoc (r : Int → Int) (n l : Int) (ls : List Int) : mon r n (ls ++ [l]) = mon r n ls * r l := by
  unfold mon; rw [List.foldl_append]; rfl
theorem mon_add (r : Int → Int) : ∀ (ls : List Int) (a b : Int), mon r (a + b) ls = mon r a ls + mon r b ls
  | [], _, _ => rfl
  | l :: ls, a, b => by rw [mon_cons, mon_cons, mon_cons, Int.add_mul, mon_add r ls]
theorem mon_zero (r : Int → Int) : ∀ (ls : List Int), mon r 0 ls = 0
  | [] => rfl
  | l :: ls => by rw [mon_cons, Int.zero_mul, mon_zero r ls]
theorem mon_congr {r r' : Int → Int} : ∀ (ls : List Int) (n : Int), (∀ l ∈ ls, r l = r' l) → mon r n ls = mon r' n ls
  | [], _, _ => rfl
  | l :: ls, n, h => by
    rw [mon_cons, mon_cons, h l (List.mem_cons_self ..), mon_congr ls _ fun x hx => h x (List.mem_cons_of_mem _ hx)]

theorem worth_nil (r : Int → Int) : worth [] r = 0 := rfl
theorem worth_cons (m : Mem) (T : List Mem) (r : Int → Int) : worth (m :: T) r = mon r m.2 m.1 + worth T r := by
  unfold worth; rw [List.map_cons, List.sum_cons]
theorem worth_append (S T : List Mem) (r : Int → Int) : worth (S ++ T) r = worth S r + worth T r := by
  unfold worth; rw [List.map_append, List.sum_append_int]
theorem worth_snoc (S : List Mem) (m : Mem) (r : Int → Int) : worth (S ++ [m]) r = worth S r + mon r m.2 m.1 := by
  rw [worth_append, worth_cons, worth_nil]; omega
theorem worth_congr {r r' : Int → Int} : ∀ (T : List Mem), (∀ m ∈ T, ∀ l ∈ m.1, r l = r' l) → worth T r = worth T r'
  | [], _ => rfl
  | m :: T, h => by
    rw [worth_cons, worth_cons, mon_congr m.1 m.2 (h m (List.mem_cons_self ..)), worth_congr T fun x hx => h x (List.mem_cons_of_mem _ hx)]
theorem worth_perm {S T : List Mem} (h : S.Perm T) (r : Int → Int) : worth S r = worth T r := by
  induction h with
  | nil => rfl
  | cons x _ ih => rw [worth_cons, worth_cons, ih]
  | swap x y l => rw [worth_cons, worth_cons, worth_cons, worth_cons]; omega
  | trans _ _ a b => rw [a, b]
theorem worth_filter (r : Int → Int) : ∀ (T : List Mem), worth (T.filter fun m => decide (m.2 ≠ 0)) r = worth T r
  | [] => rfl
  | m :: T => by
    by_cases h : m.2 = 0
    · rw [List.filter_cons_of_neg (by simp [h]), worth_cons, h, mon_zero, worth_filter r T]; omega
    · rw [List.filter_cons_of_pos (by simp [h]), worth_cons, worth_cons, worth_filter r T]

/-! ### tables -/
def get (D : List Mem) (k : List Int) : Option Int := (D.find? fun p => decide (p.1 = k)).map (·.2)
def put (D : List Mem) (k : List Int) (v : Int) : List Mem :=
  if (D.any fun p => decide (p.1 = k)) = true then D.map (fun p => if p.1 = k then (p.1, v) else p) else D ++ [(k, v)]
def coef (D : List Mem) (k : List Int) : Int := (get D k).getD 0
def addK (D : List Mem) (m : Mem) : List Mem := put D m.1 (coef D m.1 + m.2)
def build (D A : List Mem) : List Mem := A.foldl addK D
def Nd (D : List Mem) : Prop := (D.map (·.1)).Nodup

theorem get_nil (k : List Int) : get [] k = none := rfl
theorem get_pos {p : Mem} {D : List Mem} {k : List Int} (e : p.1 = k) : get (p :: D) k = some p.2 := by simp [get, List.find?_cons, e]
theorem get_neg {p : Mem} {D : List Mem} {k : List Int} (e : ¬ p.1 = k) : get (p :: D) k = get D k := by simp [get, List.find?_cons, e]
theorem get_any (k : List Int) : ∀ D : List Mem, (D.any fun p => decide (p.1 = k)) = (get D k).isSome
  | [] => rfl
  | p :: D => by
    rw [List.any_cons]
    by_cases e : p.1 = k
    · simp [get_pos e, e]
    · rw [get_neg e, get_any k D]; simp [e]
theorem get_none {k : List Int} : ∀ {D : List Mem}, get D k = none ↔ k ∉ D.map (·.1)
  | [] => by simp [get_nil]
  | p :: D => by
    by_cases e : p.1 = k
    · rw [get_pos e]; simp [e]
    · rw [get_neg e, get_none (D := D), List.map_cons, List.mem_cons]
      constructor
      · intro h q; rcases q with q | q
        · exact e q.symm
        · exact h q
      · intro h q; exact h (.inr q)
theorem get_mem {k : List Int} {v : Int} : ∀ {D : List Mem}, get D k = some v → (k, v) ∈ D
  | [], h => by simp [get_nil] at h
  | p :: D, h => by
    by_cases e : p.1 = k
    · rw [get_pos e] at h
      have e2 : p.2 = v := Option.some.inj h
      have : p = (k, v) := by rw [← e, ← e2]
      rw [this]; exact List.mem_cons_self ..
    · rw [get_neg e] at h; exact List.mem_cons_of_mem _ (get_mem h)
theorem mem_get {k : List Int} {v : Int} : ∀ {D : List Mem}, Nd D → (k, v) ∈ D → get D k = some v
  | [], _, h => by simp at h
  | p :: D, nd, h => by
    have nd' : (p.1 :: D.map (·.1)).Nodup := nd
    obtain ⟨n1, n2⟩ := List.nodup_cons.mp nd'
    rcases List.mem_cons.mp h with e | h
    · rw [← e]; exact get_pos rfl
    · have e : ¬ p.1 = k := fun z => n1 (List.mem_map.mpr ⟨(k, v), h, z.symm⟩)
      rw [get_neg e]; exact mem_get n2 h
theorem put_old {D : List Mem} {k : List Int} {v : Int} (h : k ∈ D.map (·.1)) : put D k v = D.map fun p => if p.1 = k then (p.1, v) else p := by
  unfold put
  rw [if_pos]
  rw [get_any]
  cases e : get D k with
  | none => exact absurd h (get_none.mp e)
  | some _ => rfl
theorem put_new {D : List Mem} {k : List Int} {v : Int} (h : k ∉ D.map (·.1)) : put D k v = D ++ [(k, v)] := by
  unfold put
  rw [if_neg]
  rw [get_any, get_none.mpr h]; simp
theorem keys_put (D : List Mem) (k : List Int) (v : Int) : (put D k v).map (·.1) = if k ∈ D.map (·.1) then D.map (·.1) else D.map (·.1) ++ [k] := by
  by_cases h : k ∈ D.map (·.1)
  · rw [if_pos h, put_old h, List.map_map]
    refine List.map_congr_left fun p _ => ?_
    show (if p.1 = k then (p.1, v) else p).1 = p.1
    split <;> rfl
  · rw [if_neg h, put_new h, List.map_append]; rfl
theorem nd_put {D : List Mem} (k : List Int) (v : Int) (h : Nd D) : Nd (put D k v) := by
  unfold Nd
  rw [keys_put]
  split
  · exact h
  · rename_i hk
    rw [List.nodup_append]
    refine ⟨h, by simp, fun a ha b hb => ?_⟩
    have : b = k := by simpa using hb
    subst this
    exact fun e => hk (e ▸ ha)
theorem len_put (D : List Mem) (k : List Int) (v : Int) : (put D k v).length ≤ D.length + 1 := by
  have h := congrArg List.length (keys_put D k v)
  rw [List.length_map] at h
  rw [h]
  split <;> simp
theorem len_put2 (D : List Mem) (k : List Int) (v : Int) : D.length ≤ (put D k v).length := by
  have h := congrArg List.length (keys_put D k v)
  rw [List.length_map] at h
  rw [h]
  split <;> simp
theorem mem_put {D : List Mem} {k : List Int} {v : Int} {p : Mem} (h : p ∈ put D k v) : p ∈ D ∨ p = (k, v) := by
  by_cases hk : k ∈ D.map (·.1)
  · rw [put_old hk] at h
    obtain ⟨q, hq, e⟩ := List.mem_map.mp h
    by_cases z : q.1 = k
    · rw [if_pos z] at e; right; rw [← e, z]
    · rw [if_neg z] at e; left; rw [← e]; exact hq
  · rw [put_new hk] at h
    rcases List.mem_append.mp h with h | h
    · exact .inl h
    · right; simpa using h
theorem get_map (k j : List Int) (y : Int) : ∀ D : List Mem, get (D.map fun p => if p.1 = k then (p.1, y) else p) j = (get D j).map fun x => if j = k then y else x
  | [] => rfl
  | p :: D => by
    rw [List.map_cons]
    by_cases h : p.1 = k
    · rw [if_pos h]
      by_cases e : p.1 = j
      · rw [get_pos (p := (p.1, y)) e, get_pos e, Option.map_some, if_pos (e.symm.trans h)]
      · rw [get_neg (p := (p.1, y)) e, get_neg e, get_map k j y D]
    · rw [if_neg h]
      by_cases e : p.1 = j
      · rw [get_pos (p := p) e, get_pos e, Option.map_some, if_neg (fun z => h (e.trans z))]
      · rw [get_neg (p := p) e, get_neg e, get_map k j y D]
theorem get_snoc {k j : List Int} {y : Int} : ∀ {D : List Mem}, k ∉ D.map (·.1) → get (D ++ [(k, y)]) j = if j = k then some y else get D j
  | [], _ => by
    by_cases e : k = j
    · rw [if_pos e.symm]; exact get_pos (p := (k, y)) e
    · rw [if_neg (fun z => e z.symm)]; exact get_neg (p := (k, y)) e
  | p :: D, hn => by
    rw [List.cons_append]
    have hk : ¬ p.1 = k := fun z => hn (by simp [z])
    have hn' : k ∉ D.map (·.1) := fun z => hn (by rw [List.map_cons]; exact List.mem_cons_of_mem _ z)
    by_cases e : p.1 = j
    · rw [get_pos e, get_pos e, if_neg (fun z => hk (e.trans z))]
    · rw [get_neg e, get_neg e, get_snoc hn']
theorem get_put (D : List Mem) (k j : List Int) (y : Int) : get (put D k y) j = if j = k then some y else get D j := by
  by_cases h : k ∈ D.map (·.1)
  · rw [put_old h, get_map]
    by_cases e : j = k
    · rw [if_pos e]
      cases g : get D j with
      | none => exact absurd (e ▸ h) (get_none.mp g)
      | some x => simp [e]
    · rw [if_neg e]
      cases get D j with
      | none => rfl
      | some x => simp [e]
  · rw [put_new h, get_snoc h]
theorem coef_put (D : List Mem) (k j : List Int) (y : Int) : coef (put D k y) j = if j = k then y else coef D j := by
  unfold coef
  rw [get_put]
  split <;> rfl
theorem coef_addK (D : List Mem) (m : Mem) (k : List Int) : coef (addK D m) k = coef D k + if m.1 = k then m.2 else 0 := by
  unfold addK
  rw [coef_put]
  by_cases e : k = m.1
  · rw [if_pos e, if_pos e.symm, e]
  · rw [if_neg e, if_neg (fun z => e z.symm)]; omega
/-- the numbers for one key, together -/
def cf (A : List Mem) (k : List Int) : Int := (A.map fun m => if m.1 = k then m.2 else 0).sum
theorem cf_nil (k : List Int) : cf [] k = 0 := rfl
theorem cf_cons (m : Mem) (A : List Mem) (k : List Int) : cf (m :: A) k = (if m.1 = k then m.2 else 0) + cf A k := by
  unfold cf; rw [List.map_cons, List.sum_cons]
theorem cf_append (A B : List Mem) (k : List Int) : cf (A ++ B) k = cf A k + cf B k := by
  unfold cf; rw [List.map_append, List.sum_append_int]
theorem nd_addK {D : List Mem} (m : Mem) (h : Nd D) : Nd (addK D m) := nd_put _ _ h
theorem nd_build : ∀ (A D : List Mem), Nd D → Nd (build D A)
  | [], _, h => h
  | m :: A, D, h => nd_build A (addK D m) (nd_addK m h)
theorem coef_build : ∀ (A D : List Mem) (k : List Int), coef (build D A) k = coef D k + cf A k
  | [], D, k => by rw [cf_nil]; show coef D k = _; omega
  | m :: A, D, k => by
    show coef (build (addK D m) A) k = _
    rw [coef_build A, coef_addK, cf_cons]; omega
theorem build_append (D A B : List Mem) : build D (A ++ B) = build (build D A) B := List.foldl_append ..
theorem build_snoc (D A : List Mem) (m : Mem) : build D (A ++ [m]) = addK (build D A) m := by rw [build_append]; rfl
theorem len_build : ∀ (A D : List Mem), (build D A).length ≤ D.length + A.length
  | [], D => Nat.le_refl _
  | m :: A, D => by
    have h1 := len_build A (addK D m)
    have h2 := len_put D m.1 (coef D m.1 + m.2)
    show (build (addK D m) A).length ≤ D.length + (A.length + 1)
    unfold addK at *
    omega
theorem keys_build : ∀ (A D : List Mem) (k : List Int), k ∈ (build D A).map (·.1) → k ∈ D.map (·.1) ∨ k ∈ A.map (·.1)
  | [], _, _, h => .inl h
  | m :: A, D, k, h => by
    rcases keys_build A (addK D m) k h with h | h
    · unfold addK at h
      rw [keys_put] at h
      split at h
      · exact .inl h
      · rcases List.mem_append.mp h with h | h
        · exact .inl h
        · right; rw [List.map_cons]; have : k = m.1 := by simpa using h
          rw [this]; exact List.mem_cons_self ..
    · right; rw [List.map_cons]; exact List.mem_cons_of_mem _ h
theorem worth_map (r : Int → Int) (k : List Int) (v : Int) : ∀ (D : List Mem), Nd D → k ∈ D.map (·.1) →
    worth (D.map fun p => if p.1 = k then (p.1, v) else p) r = worth D r - mon r (coef D k) k + mon r v k
  | [], _, h => by simp at h
  | p :: D, nd, h => by
    have nd' : (p.1 :: D.map (·.1)).Nodup := nd
    obtain ⟨n1, n2⟩ := List.nodup_cons.mp nd'
    rw [List.map_cons, worth_cons, worth_cons]
    by_cases e : p.1 = k
    · have same : (D.map fun p => if p.1 = k then (p.1, v) else p) = D := by
        have : (D.map fun p => if p.1 = k then (p.1, v) else p) = D.map id := List.map_congr_left fun q hq => by
          rw [if_neg]; rfl
          exact fun z => n1 (List.mem_map.mpr ⟨q, hq, z.trans e.symm⟩)
        rw [this, List.map_id]
      rw [same, if_pos e]
      show mon r v p.1 + worth D r = _
      unfold coef
      rw [get_pos e, e]
      show mon r v k + worth D r = mon r p.2 k + worth D r - mon r p.2 k + mon r v k
      omega
    · rw [if_neg e]
      have h' : k ∈ D.map (·.1) := (List.mem_cons.mp (show k ∈ p.1 :: D.map (·.1) from h)).resolve_left fun z => e z.symm
      rw [worth_map r k v D n2 h']
      have : coef (p :: D) k = coef D k := by unfold coef; rw [get_neg e]
      rw [this]; omega
theorem worth_put {D : List Mem} (nd : Nd D) (k : List Int) (v : Int) (r : Int → Int) : worth (put D k v) r = worth D r - mon r (coef D k) k + mon r v k := by
  by_cases h : k ∈ D.map (·.1)
  · rw [put_old h, worth_map r k v D nd h]
  · rw [put_new h, worth_snoc]
    have : coef D k = 0 := by unfold coef; rw [get_none.mpr h]; rfl
    rw [this, mon_zero]
    show worth D r + mon r v k = _
    omega
theorem worth_addK {D : List Mem} (nd : Nd D) (m : Mem) (r : Int → Int) : worth (addK D m) r = worth D r + mon r m.2 m.1 := by
  unfold addK
  rw [worth_put nd, mon_add]; omega
theorem worth_build (r : Int → Int) : ∀ (A D : List Mem), Nd D → worth (build D A) r = worth D r + worth A r
  | [], D, _ => by rw [worth_nil]; show worth D r = _; omega
  | m :: A, D, h => by
    show worth (build (addK D m) A) r = _
    rw [worth_build r A _ (nd_addK m h), worth_addK h, worth_cons]; omega
theorem nd_nil : Nd [] := List.nodup_nil

/-! ### what stands for a sum with triples -/
def tripleAdds (x y z n h : Int) : List Mem :=
  if n < 0 then [([x, h], n), ([y, h], n), ([z, h], n), ([h], -2 * n)]
  else [([x, y], n), ([x, z], n), ([y, z], n), ([x, h], -n), ([y, h], -n), ([z, h], -n), ([h], n)]
def memAdds (m : Mem) (h : Int) : List Mem := match m.1 with
  | [x, y, z] => tripleAdds x y z m.2 h
  | _ => [m]
def isTri (m : Mem) : Bool := decide (m.1.length = 3)
def tri (T : List Mem) : Nat := (T.filter isTri).length
def adds : Int → List Mem → List Mem
  | _, [] => []
  | h, m :: T => memAdds m h ++ adds (if isTri m = true then h + 1 else h) T
theorem tri_nil : tri [] = 0 := rfl
theorem tri_cons (m : Mem) (T : List Mem) : tri (m :: T) = (if isTri m = true then 1 else 0) + tri T := by
  unfold tri
  by_cases h : isTri m = true
  · rw [List.filter_cons_of_pos h, if_pos h, List.length_cons]; omega
  · rw [List.filter_cons_of_neg h, if_neg h]; omega
theorem tri_snoc (T : List Mem) (m : Mem) : tri (T ++ [m]) = tri T + (if isTri m = true then 1 else 0) := by
  unfold tri
  rw [List.filter_append, List.length_append]
  by_cases h : isTri m = true
  · rw [if_pos h, List.filter_cons_of_pos h]; rfl
  · rw [if_neg h, List.filter_cons_of_neg h]; rfl
theorem tri_le (T : List Mem) : tri T ≤ T.length := List.length_filter_le ..
theorem adds_snoc (m : Mem) : ∀ (T : List Mem) (h : Int), adds h (T ++ [m]) = adds h T ++ memAdds m (h + tri T)
  | [], h => by
    show memAdds m h ++ [] = [] ++ memAdds m (h + 0)
    simp
  | p :: T, h => by
    show memAdds p h ++ adds _ (T ++ [m]) = (memAdds p h ++ adds _ T) ++ _
    rw [adds_snoc m T, tri_cons, List.append_assoc]
    congr 3
    split <;> omega
theorem three {ls : List Int} (h : ls.length = 3) : ∃ x y z, ls = [x, y, z] := by
  match ls, h with
  | [x, y, z], _ => exact ⟨x, y, z, rfl⟩
theorem memAdds_tri {m : Mem} {x y z : Int} (e : m.1 = [x, y, z]) (h : Int) : memAdds m h = tripleAdds x y z m.2 h := by
  unfold memAdds; rw [e]
theorem memAdds_no {m : Mem} (e : isTri m = false) (h : Int) : memAdds m h = [m] := by
  unfold memAdds
  split
  · rename_i x y z q
    unfold isTri at e
    rw [q] at e
    exact absurd e (by simp)
  · rfl
end K31

/-! K31N: the two plain laws: the least worth over the further letters; bent exactly if the sum is. -/
namespace K31

/-- letters in order, at most three, below c -/
structure Good1 (c : Int) (m : Mem) : Prop where
  srt : m.1.Pairwise (· < ·)
  rng : ∀ l ∈ m.1, 0 ≤ l ∧ l < c
  len : m.1.length ≤ 3
  nz : m.2 ≠ 0

theorem mem4 {r : Int → Int} (w : W01 r) (x y z h n : Int) : (n < 0 → n * r x * r y * r z ≤ n * r x * r h + n * r y * r h + n * r z * r h + -2 * n * r h) ∧
    (0 ≤ n → n * r x * r y * r z ≤ n * r x * r y + n * r x * r z + n * r y * r z + -n * r x * r h + -n * r y * r h + -n * r z * r h + n * r h) := by
  rcases w x with ex | ex <;> rcases w y with ey | ey <;> rcases w z with ez | ez <;> rcases w h with eh | eh <;> rw [ex, ey, ez, eh] <;> simp <;> omega
theorem worth_triple (r : Int → Int) (x y z n h : Int) : worth (tripleAdds x y z n h) r = if n < 0 then n * r x * r h + n * r y * r h + n * r z * r h + -2 * n * r h
    else n * r x * r y + n * r x * r z + n * r y * r z + -n * r x * r h + -n * r y * r h + -n * r z * r h + n * r h := by
  unfold tripleAdds
  split <;> simp only [worth_cons, worth_nil, mon_cons, mon_nil] <;> omega
theorem triple_ge {r : Int → Int} (w : W01 r) (x y z n h : Int) : mon r n [x, y, z] ≤ worth (tripleAdds x y z n h) r := by
  obtain ⟨h1, h2⟩ := mem4 w x y z h n
  rw [worth_triple]
  show n * r x * r y * r z ≤ _
  split
  · exact h1 (by assumption)
  · exact h2 (by omega)
/-- a value of the further letter at which it is just the triple's -/
theorem triple_eq {r : Int → Int} (w : W01 r) (x y z n : Int) : ∃ b : Int, (b = 0 ∨ b = 1) ∧ ∀ (r' : Int → Int) (h : Int), r' x = r x → r' y = r y → r' z = r z → r' h = b → worth (tripleAdds x y z n h) r' = mon r n [x, y, z] := by
  by_cases hn : n < 0
  · refine ⟨if r x + r y + r z = 3 then 1 else 0, by split <;> simp, fun r' h e1 e2 e3 e4 => ?_⟩
    rw [worth_triple, if_pos hn, e1, e2, e3, e4]
    show _ = n * r x * r y * r z
    rcases w x with ex | ex <;> rcases w y with ey | ey <;> rcases w z with ez | ez <;> rw [ex, ey, ez] <;> simp <;> omega
  · refine ⟨if 1 < r x + r y + r z then 1 else 0, by split <;> simp, fun r' h e1 e2 e3 e4 => ?_⟩
    rw [worth_triple, if_neg hn, e1, e2, e3, e4]
    show _ = n * r x * r y * r z
    rcases w x with ex | ex <;> rcases w y with ey | ey <;> rcases w z with ez | ez <;> rw [ex, ey, ez] <;> simp <;> omega
theorem adds_cons (m : Mem) (T : List Mem) (h : Int) : adds h (m :: T) = memAdds m h ++ adds (if isTri m = true then h + 1 else h) T := rfl
theorem isTri_three {m : Mem} (h : isTri m = true) : ∃ x y z, m.1 = [x, y, z] := three (of_decide_eq_true h)
theorem worth_one (m : Mem) (r : Int → Int) : worth [m] r = mon r m.2 m.1 := by rw [worth_cons, worth_nil]; omega
theorem adds_ge {r : Int → Int} (w : W01 r) : ∀ (T : List Mem) (h : Int), worth T r ≤ worth (adds h T) r
  | [], _ => Int.le_refl _
  | m :: T, h => by
    rw [adds_cons, worth_append, worth_cons]
    have ih := adds_ge w T (if isTri m = true then h + 1 else h)
    cases e : isTri m with
    | true =>
      obtain ⟨x, y, z, q⟩ := isTri_three e
      rw [e] at ih
      rw [memAdds_tri q]
      have := triple_ge w x y z m.2 h
      rw [q]
      omega
    | false =>
      rw [e] at ih
      rw [memAdds_no e, worth_one]
      omega
theorem adds_eq {r : Int → Int} (w : W01 r) : ∀ (T : List Mem), ∃ ms : List Int, ms.length = tri T ∧ Row01 ms ∧
    ∀ (r' : Int → Int) (h : Int), (∀ m ∈ T, ∀ l ∈ m.1, r' l = r l) → (∀ (i : Nat) (b : Int), ms[i]? = some b → r' (h + i) = b) → worth (adds h T) r' = worth T r
  | [] => ⟨[], rfl, by simp [Row01], fun _ _ _ _ => rfl⟩
  | m :: T => by
    obtain ⟨ms, h1, h2, h3⟩ := adds_eq w T
    cases e : isTri m with
    | false =>
      refine ⟨ms, by rw [tri_cons, e, h1]; simp, h2, fun r' h hr hm => ?_⟩
      rw [adds_cons, worth_append, worth_cons, memAdds_no e, worth_one, e]
      rw [if_neg (by simp), h3 r' h (fun p hp => hr p (List.mem_cons_of_mem _ hp)) hm, mon_congr m.1 m.2 (hr m (List.mem_cons_self ..))]
    | true =>
      obtain ⟨x, y, z, q⟩ := isTri_three e
      obtain ⟨b, hb, hq⟩ := triple_eq w x y z m.2
      refine ⟨b :: ms, by rw [tri_cons, e, List.length_cons, h1]; simp; omega, fun v hv => ?_, fun r' h hr hm => ?_⟩
      · rcases List.mem_cons.mp hv with rfl | hv
        · exact hb
        · exact h2 v hv
      · have hl : ∀ l ∈ m.1, r' l = r l := hr m (List.mem_cons_self ..)
        rw [q] at hl
        have hb0 := hm 0 b rfl
        rw [adds_cons, worth_append, worth_cons, memAdds_tri q, e, if_pos rfl]
        rw [hq r' h (hl x (by simp)) (hl y (by simp)) (hl z (by simp)) (by simpa using hb0)]
        rw [h3 r' (h + 1) (fun p hp => hr p (List.mem_cons_of_mem _ hp)) (fun i v hv => ?_), q]
        have := hm (i + 1) v (by simpa using hv)
        rw [← this]; congr 1; omega

/-! ### rows -/
theorem at0_nat (row : List Int) (i : Nat) : at0 row (i : Int) = row.getD i 0 := rfl
theorem at0_01 {row : List Int} (h : Row01 row) : W01 (at0 row) := fun l => by
  unfold at0
  rw [List.getD_eq_getElem?_getD]
  cases e : row[l.toNat]? with
  | none => left; rfl
  | some v => exact h v (List.mem_of_getElem? e)
theorem at0_left {row : List Int} {l : Int} (more : List Int) (h0 : 0 ≤ l) (h : l < row.length) : at0 (row ++ more) l = at0 row l := by
  unfold at0
  rw [List.getD_eq_getElem?_getD, List.getD_eq_getElem?_getD, List.getElem?_append_left (by omega)]
theorem at0_right (row : List Int) {more : List Int} {i : Nat} {b : Int} (h : more[i]? = some b) : at0 (row ++ more) ((row.length : Int) + i) = b := by
  unfold at0
  have e : ((row.length : Int) + i).toNat = row.length + i := by omega
  rw [List.getD_eq_getElem?_getD, e, List.getElem?_append_right (by omega), Nat.add_sub_cancel_left, h]; rfl
theorem row01_app {a b : List Int} (ha : Row01 a) (hb : Row01 b) : Row01 (a ++ b) := fun x hx =>
  (List.mem_append.mp hx).elim (ha x) (hb x)
/-- FIRST LAW: at a row, least over the further letters, the worth is the sum's own -/
theorem least_law {c : Nat} {T : List Mem} (hT : ∀ m ∈ T, ∀ l ∈ m.1, 0 ≤ l ∧ l < (c : Int)) {row : List Int} (hl : row.length = c) (hr : Row01 row) :
    (∀ more, Row01 more → worth T (at0 row) ≤ worth (adds c T) (at0 (row ++ more))) ∧
    ∃ more, more.length = tri T ∧ Row01 more ∧ worth (adds c T) (at0 (row ++ more)) = worth T (at0 row) := by
  have ag : ∀ more, ∀ m ∈ T, ∀ l ∈ m.1, at0 (row ++ more) l = at0 row l := fun more m hm l hl' => at0_left more (hT m hm l hl').1 (by rw [hl]; exact (hT m hm l hl').2)
  refine ⟨fun more hm => ?_, ?_⟩
  · rw [← worth_congr T (ag more)]
    exact adds_ge (at0_01 (row01_app hr hm)) T c
  · obtain ⟨ms, h1, h2, h3⟩ := adds_eq (at0_01 hr) T
    refine ⟨ms, h1, h2, h3 _ _ (ag ms) fun i b hb => ?_⟩
    rw [← hl]; exact at0_right row hb
/-- all rows of n values, in the law's order -/
def rowsM : Nat → List (List Int)
  | 0 => [[]]
  | n + 1 => (rowsM n).flatMap fun r => [r ++ [0], r ++ [1]]
theorem rowsM_mem : ∀ (n : Nat) (r : List Int), r ∈ rowsM n ↔ r.length = n ∧ Row01 r
  | 0, r => by
    show r ∈ [[]] ↔ _
    constructor
    · intro h; have : r = [] := by simpa using h
      subst this; exact ⟨rfl, by simp [Row01]⟩
    · intro h; have : r = [] := List.eq_nil_of_length_eq_zero h.1
      simp [this]
  | n + 1, r => by
    show r ∈ (rowsM n).flatMap _ ↔ _
    rw [List.mem_flatMap]
    constructor
    · rintro ⟨a, ha, hr⟩
      obtain ⟨h1, h2⟩ := (rowsM_mem n a).mp ha
      have : r = a ++ [0] ∨ r = a ++ [1] := by simpa using hr
      rcases this with rfl | rfl
      · exact ⟨by simp [h1], row01_app h2 (by simp [Row01])⟩
      · exact ⟨by simp [h1], row01_app h2 (by simp [Row01])⟩
    · rintro ⟨h1, h2⟩
      have hne : r ≠ [] := fun e => by rw [e] at h1; simp at h1
      have e := List.dropLast_concat_getLast hne
      refine ⟨r.dropLast, (rowsM_mem n _).mpr ⟨by simp [h1], fun x hx => h2 x ((List.dropLast_sublist r).subset hx)⟩, ?_⟩
      have hb := h2 _ (List.getLast_mem hne)
      rcases hb with hb | hb
      · rw [hb] at e; rw [← e]; simp
      · rw [hb] at e; rw [← e]; simp
theorem rowsM_len : ∀ n : Nat, (rowsM n).length = 2 ^ n
  | 0 => rfl
  | n + 1 => by
    show ((rowsM n).flatMap _).length = _
    rw [List.length_flatMap]
    have : ((rowsM n).map fun r => [r ++ [(0 : Int)], r ++ [1]].length) = (rowsM n).map fun _ => 2 := rfl
    rw [this, List.map_const', List.sum_replicate_nat, rowsM_len n, Nat.pow_succ]
end K31

/-! K31O: bent exactly if the sum is. -/
namespace K31
def third (q p : Int) (ls : List Int) : Option Int := match ls with
  | [a, b, c] => if a = q ∧ b = p then some c else if a = q ∧ c = p then some b else if b = q ∧ c = p then some a else none
  | _ => none
def sd (q p : Int) (r : Int → Int) (ls : List Int) : Int := if ls = [q, p] then 1 else match third q p ls with
  | some t => r t
  | none => 0
def setL (r : Int → Int) (p : Int) : Int → Int := fun l => if l = p then 1 else r l
theorem setL_same (r : Int → Int) (p : Int) : setL r p p = 1 := by unfold setL; rw [if_pos rfl]
theorem setL_ne {r : Int → Int} {p l : Int} (h : l ≠ p) : setL r p l = r l := by unfold setL; rw [if_neg h]
/-- the values of a letter in the four rows -/
theorem four {r : Int → Int} {q p : Int} (hqp : q < p) (hq : r q = 0) (hp : r p = 0) (x : Int) :
    (x = q ∧ r x = 0 ∧ setL (setL r p) q x = 1 ∧ setL r p x = 0 ∧ setL r q x = 1) ∨
    (x = p ∧ r x = 0 ∧ setL (setL r p) q x = 1 ∧ setL r p x = 1 ∧ setL r q x = 0) ∨
    (x ≠ q ∧ x ≠ p ∧ setL (setL r p) q x = r x ∧ setL r p x = r x ∧ setL r q x = r x) := by
  by_cases e1 : x = q
  · subst e1
    have n : x ≠ p := by omega
    exact .inl ⟨rfl, hq, setL_same _ _, (setL_ne n).trans hq, setL_same _ _⟩
  · by_cases e2 : x = p
    · subst e2
      exact .inr (.inl ⟨rfl, hp, (setL_ne e1).trans (setL_same _ _), setL_same _ _, (setL_ne e1).trans hp⟩)
    · exact .inr (.inr ⟨e1, e2, (setL_ne e1).trans (setL_ne e2), setL_ne e2, setL_ne e1⟩)
theorem sd_mon {r : Int → Int} {q p : Int} (hqp : q < p) (hq : r q = 0) (hp : r p = 0) (n : Int) {ls : List Int} (hs : ls.Pairwise (· < ·)) (hl : ls.length ≤ 3) :
    mon r n ls + mon (setL (setL r p) q) n ls - mon (setL r p) n ls - mon (setL r q) n ls = n * sd q p r ls := by
  match ls, hs, hl with
  | [], _, _ => simp [mon, sd, third]
  | [a], _, _ =>
    rcases four hqp hq hp a with ⟨e, h1, h2, h3, h4⟩ | ⟨e, h1, h2, h3, h4⟩ | ⟨e, e', h2, h3, h4⟩ <;>
    (simp only [mon, List.foldl_cons, List.foldl_nil, h2, h3, h4]; try simp only [h1]
     simp [sd, third]; try omega)
  | [a, b], hs, _ =>
    have hab : a < b := by simpa using hs
    rcases four hqp hq hp a with ⟨e, h1, h2, h3, h4⟩ | ⟨e, h1, h2, h3, h4⟩ | ⟨e, e', h2, h3, h4⟩ <;>
    rcases four hqp hq hp b with ⟨f, i1, i2, i3, i4⟩ | ⟨f, i1, i2, i3, i4⟩ | ⟨f, f', i2, i3, i4⟩ <;>
    first
    | (exfalso; omega)
    | (simp only [mon, List.foldl_cons, List.foldl_nil, h2, h3, h4, i2, i3, i4]; try simp only [h1]
       try simp only [i1]
       simp [sd, third, *]; try omega)
  | [a, b, c], hs, _ =>
    have hab : a < b ∧ a < c ∧ b < c := by
      have := hs
      simp at this
      omega
    obtain ⟨o1, o2, o3⟩ := hab
    rcases four hqp hq hp a with ⟨e, h1, h2, h3, h4⟩ | ⟨e, h1, h2, h3, h4⟩ | ⟨e, e', h2, h3, h4⟩ <;>
    rcases four hqp hq hp b with ⟨f, i1, i2, i3, i4⟩ | ⟨f, i1, i2, i3, i4⟩ | ⟨f, f', i2, i3, i4⟩ <;>
    rcases four hqp hq hp c with ⟨g, j1, j2, j3, j4⟩ | ⟨g, j1, j2, j3, j4⟩ | ⟨g, g', j2, j3, j4⟩ <;>
    first
    | (exfalso; omega)
    | (simp only [mon, List.foldl_cons, List.foldl_nil, h2, h3, h4, i2, i3, i4, j2, j3, j4]
       try simp only [h1]
       try simp only [i1]
       try simp only [j1]
       simp [sd, third, *]; try omega)

/-- what a member gives at most to the second difference -/
def cmax (q p : Int) (m : Mem) : Int := if m.1 = [q, p] then m.2 else match third q p m.1 with
  | some _ => if m.2 < 0 then 0 else m.2
  | none => 0
theorem sd_le {r : Int → Int} (w : W01 r) (q p : Int) (m : Mem) : m.2 * sd q p r m.1 ≤ cmax q p m := by
  unfold sd cmax
  by_cases h : m.1 = [q, p]
  · rw [if_pos h, if_pos h]; omega
  · rw [if_neg h, if_neg h]
    cases third q p m.1 with
    | none => simp
    | some t =>
      show m.2 * r t ≤ if m.2 < 0 then 0 else m.2
      rcases w t with e | e <;> rw [e] <;> split <;> omega
def cmaxs (q p : Int) (T : List Mem) : Int := (T.map (cmax q p)).sum
def sds (q p : Int) (r : Int → Int) (T : List Mem) : Int := (T.map fun m => m.2 * sd q p r m.1).sum
theorem sds_le {r : Int → Int} (w : W01 r) (q p : Int) : ∀ T : List Mem, sds q p r T ≤ cmaxs q p T
  | [] => Int.le_refl _
  | m :: T => by
    unfold sds cmaxs
    rw [List.map_cons, List.map_cons, List.sum_cons, List.sum_cons]
    have h1 := sd_le w q p m
    have h2 := sds_le w q p T
    unfold sds cmaxs at h2
    omega
theorem worth_sds {r : Int → Int} {q p : Int} (hqp : q < p) (hq : r q = 0) (hp : r p = 0) : ∀ T : List Mem, (∀ m ∈ T, m.1.Pairwise (· < ·) ∧ m.1.length ≤ 3) →
    worth T r + worth T (setL (setL r p) q) - worth T (setL r p) - worth T (setL r q) = sds q p r T
  | [], _ => rfl
  | m :: T, h => by
    have h1 := sd_mon hqp hq hp m.2 (h m (List.mem_cons_self ..)).1 (h m (List.mem_cons_self ..)).2
    have h2 := worth_sds hqp hq hp T fun x hx => h x (List.mem_cons_of_mem _ hx)
    unfold sds at *
    rw [List.map_cons, List.sum_cons, worth_cons, worth_cons, worth_cons, worth_cons]
    omega

/-- the number that the made sum has for two letters of the first one -/
theorem cf_triple {q p x y z n h : Int} (hx : x < y) (hy : y < z) (hp : p < h) : cf (tripleAdds x y z n h) [q, p] = cmax q p ([x, y, z], n) := by
  unfold tripleAdds cmax third
  by_cases hn : n < 0
  · rw [if_pos hn]
    simp only [cf_cons, cf_nil, List.cons.injEq, hn, if_true]
    have : ¬ h = p := by omega
    simp [this]
    intros; split <;> rfl
  · rw [if_neg hn]
    simp only [cf_cons, cf_nil, List.cons.injEq, hn, if_false]
    have : ¬ h = p := by omega
    simp [this]
    by_cases a1 : x = q <;> by_cases a2 : y = p <;> by_cases a3 : z = p <;> by_cases a4 : y = q <;> simp [*] <;> omega
theorem cf_adds {q p : Int} {c : Int} (hp : p < c) : ∀ (T : List Mem) (h : Int), c ≤ h → (∀ m ∈ T, Good1 c m) → cf (adds h T) [q, p] = cmaxs q p T
  | [], _, _, _ => rfl
  | m :: T, h, hh, g => by
    have ih := cf_adds (q := q) hp T (if isTri m = true then h + 1 else h) (by split <;> omega) fun x hx => g x (List.mem_cons_of_mem _ hx)
    have gm := g m (List.mem_cons_self ..)
    rw [adds_cons, cf_append, ih]
    unfold cmaxs
    rw [List.map_cons, List.sum_cons]
    congr 1
    cases e : isTri m with
    | false =>
      rw [memAdds_no e, cf_cons, cf_nil]
      have hnt : third q p m.1 = none := by
        unfold third
        split
        · rename_i a b d hd
          unfold isTri at e
          rw [hd] at e
          simp at e
        · rfl
      unfold cmax
      rw [hnt]
      by_cases h' : m.1 = [q, p]
      · rw [if_pos h']; omega
      · rw [if_neg h']; rfl
    | true =>
      obtain ⟨x, y, z, d⟩ := isTri_three e
      have hs := gm.srt
      have hr := gm.rng
      rw [d] at hs hr
      have o : x < y ∧ y < z := by simp at hs; omega
      rw [memAdds_tri d, cf_triple o.1 o.2 (by omega)]
      have em : m = ([x, y, z], m.2) := by rw [← d]
      rw [← em]

/-! ### the row at which the second difference is greatest -/
theorem third_in {q p t : Int} {ls : List Int} (hs : ls.Pairwise (· < ·)) (h : third q p ls = some t) : t ∈ ls ∧ t ≠ q ∧ t ≠ p ∧ ls.length = 3 := by
  unfold third at h
  split at h
  · rename_i a b c
    have o : a < b ∧ a < c ∧ b < c := by simp at hs; omega
    split at h
    · have : c = t := by simpa using h
      subst this; simp; omega
    · split at h
      · have : b = t := by simpa using h
        subst this; simp; omega
      · split at h
        · have : a = t := by simpa using h
          subst this; simp; omega
        · simp at h
  · simp at h
theorem third_inj {q p t : Int} {ls ms : List Int} (hs : ls.Pairwise (· < ·)) (hm : ms.Pairwise (· < ·)) (hqp : q < p) (h : third q p ls = some t) (h' : third q p ms = some t) : ls = ms := by
  unfold third at h h'
  split at h
  · rename_i a b c
    have o : a < b ∧ a < c ∧ b < c := by simp at hs; omega
    split at h'
    · rename_i a' b' c'
      have o' : a' < b' ∧ a' < c' ∧ b' < c' := by simp at hm; omega
      have k : (a = q ∧ b = p ∧ c = t) ∨ (a = q ∧ c = p ∧ b = t) ∨ (b = q ∧ c = p ∧ a = t) := by
        split at h
        · rename_i z; exact .inl ⟨z.1, z.2, by simpa using h⟩
        · split at h
          · rename_i z; exact .inr (.inl ⟨z.1, z.2, by simpa using h⟩)
          · split at h
            · rename_i z; exact .inr (.inr ⟨z.1, z.2, by simpa using h⟩)
            · simp at h
      have k' : (a' = q ∧ b' = p ∧ c' = t) ∨ (a' = q ∧ c' = p ∧ b' = t) ∨ (b' = q ∧ c' = p ∧ a' = t) := by
        split at h'
        · rename_i z; exact .inl ⟨z.1, z.2, by simpa using h'⟩
        · split at h'
          · rename_i z; exact .inr (.inl ⟨z.1, z.2, by simpa using h'⟩)
          · split at h'
            · rename_i z; exact .inr (.inr ⟨z.1, z.2, by simpa using h'⟩)
            · simp at h'
      have : a = a' ∧ b = b' ∧ c = c' := by omega
      rw [this.1, this.2.1, this.2.2]
    · simp at h'
  · simp at h
/-- yes just where a triple above 0 has the two letters and this one -/
def best (q p : Int) (T : List Mem) : Int → Int := fun t => if (T.any fun m => decide (third q p m.1 = some t) && decide (0 < m.2)) = true then 1 else 0
theorem best_01 (q p : Int) (T : List Mem) : W01 (best q p T) := fun l => by unfold best; split <;> simp
theorem best_out {q p : Int} {T : List Mem} (g : ∀ m ∈ T, m.1.Pairwise (· < ·)) (t : Int) (h : ∀ m ∈ T, t ∈ m.1 → t ≠ q → t ≠ p → False) : best q p T t = 0 := by
  unfold best
  rw [if_neg]
  intro e
  obtain ⟨m, hm, hd⟩ := List.any_eq_true.mp e
  rw [Bool.and_eq_true] at hd
  obtain ⟨h1, h2, h3, _⟩ := third_in (g m hm) (of_decide_eq_true hd.1)
  exact h m hm h1 h2 h3
theorem best_q {q p : Int} {T : List Mem} (g : ∀ m ∈ T, m.1.Pairwise (· < ·)) : best q p T q = 0 := best_out g q fun _ _ _ n _ => n rfl
theorem best_p {q p : Int} {T : List Mem} (g : ∀ m ∈ T, m.1.Pairwise (· < ·)) : best q p T p = 0 := best_out g p fun _ _ _ _ n => n rfl
theorem best_is {q p : Int} (hqp : q < p) {T : List Mem} (g : ∀ m ∈ T, m.1.Pairwise (· < ·)) (nd : Nd T) {m : Mem} (hm : m ∈ T) : m.2 * sd q p (best q p T) m.1 = cmax q p m := by
  unfold sd cmax
  by_cases h : m.1 = [q, p]
  · rw [if_pos h, if_pos h]; omega
  · rw [if_neg h, if_neg h]
    cases e : third q p m.1 with
    | none => simp
    | some t =>
      show m.2 * best q p T t = if m.2 < 0 then 0 else m.2
      by_cases hn : 0 < m.2
      · have : best q p T t = 1 := by
          unfold best
          rw [if_pos]
          exact List.any_eq_true.mpr ⟨m, hm, by simp [e, hn]⟩
        rw [this, if_neg (by omega)]; omega
      · by_cases hz : m.2 = 0
        · rw [hz]; simp
        · have : best q p T t = 0 := by
            unfold best
            rw [if_neg]
            intro a
            obtain ⟨m', hm', hd⟩ := List.any_eq_true.mp a
            rw [Bool.and_eq_true] at hd
            have h1 := third_inj (g m hm) (g m' hm') hqp e (of_decide_eq_true hd.1)
            have h2 := of_decide_eq_true hd.2
            have e1 := mem_get nd (show (m.1, m.2) ∈ T from hm)
            have e2 := mem_get nd (show (m'.1, m'.2) ∈ T from hm')
            rw [h1, e2] at e1
            have := Option.some.inj e1
            omega
          rw [this, if_pos (by omega)]; omega
theorem best_sum {q p : Int} (hqp : q < p) {T : List Mem} (g : ∀ m ∈ T, m.1.Pairwise (· < ·)) (nd : Nd T) : sds q p (best q p T) T = cmaxs q p T := by
  unfold sds cmaxs
  rw [List.map_congr_left fun m hm => best_is hqp g nd hm]

/-! ### rows and the law's own look -/
theorem at0_set {row : List Int} {p : Nat} (hp : p < row.length) {l : Int} (h0 : 0 ≤ l) : at0 (row.set p 1) l = setL (at0 row) p l := by
  unfold setL
  by_cases e : l = p
  · have : p = l.toNat := by omega
    rw [if_pos e]
    unfold at0
    rw [List.getD_eq_getElem?_getD, List.getElem?_set, if_pos this, if_pos hp]; rfl
  · have : ¬ p = l.toNat := by omega
    rw [if_neg e]
    unfold at0
    rw [List.getD_eq_getElem?_getD, List.getD_eq_getElem?_getD, List.getElem?_set, if_neg this]
/-- no two rows that differ at two places have together more in and and or -/
def BentR (c : Nat) (T : List Mem) : Prop := ∀ one ∈ rowsM c, ∀ p q : Nat, q < p → p < c → at0 one p + at0 one q = 0 →
  worth T (at0 one) + worth T (at0 ((one.set p 1).set q 1)) ≤ worth T (at0 (one.set p 1)) + worth T (at0 (one.set q 1))
def BentP (P : List Mem) : Prop := ∀ m ∈ P, m.1.length = 2 → m.2 ≤ 0
theorem sum01 {a b : Int} (ha : a = 0 ∨ a = 1) (hb : b = 0 ∨ b = 1) (h : a + b = 0) : a = 0 ∧ b = 0 := by omega
theorem rows_sds {c : Nat} {T : List Mem} (g : ∀ m ∈ T, Good1 c m) {one : List Int} (h1 : one ∈ rowsM c) {p q : Nat} (hqp : q < p) (hp : p < c) (h0 : at0 one p + at0 one q = 0) :
    worth T (at0 one) + worth T (at0 ((one.set p 1).set q 1)) - worth T (at0 (one.set p 1)) - worth T (at0 (one.set q 1)) = sds q p (at0 one) T := by
  obtain ⟨hl, h01⟩ := (rowsM_mem c one).mp h1
  have w := at0_01 h01
  obtain ⟨ep, eq⟩ := sum01 (w p) (w q) h0
  have pos : ∀ m ∈ T, ∀ l ∈ m.1, 0 ≤ l := fun m hm l h => ((g m hm).rng l h).1
  have e1 : worth T (at0 (one.set p 1)) = worth T (setL (at0 one) p) := worth_congr T fun m hm l h => at0_set (by omega) (pos m hm l h)
  have e2 : worth T (at0 (one.set q 1)) = worth T (setL (at0 one) q) := worth_congr T fun m hm l h => at0_set (by omega) (pos m hm l h)
  have e3 : worth T (at0 ((one.set p 1).set q 1)) = worth T (setL (setL (at0 one) p) q) := worth_congr T fun m hm l h => by
    rw [at0_set (by rw [List.length_set]; omega) (pos m hm l h)]
    unfold setL
    split
    · rfl
    · rw [at0_set (by omega) (pos m hm l h)]; rfl
  rw [e1, e2, e3]
  exact worth_sds (by omega) eq ep T fun m hm => ⟨(g m hm).srt, (g m hm).len⟩
theorem list_of (c : Nat) {r : Int → Int} (w : W01 r) : (List.range c).map (fun i : Nat => r i) ∈ rowsM c ∧ ∀ l : Int, 0 ≤ l → l < c → at0 ((List.range c).map (fun i : Nat => r i)) l = r l := by
  refine ⟨(rowsM_mem c _).mpr ⟨by simp, fun x hx => ?_⟩, fun l h0 hc => ?_⟩
  · obtain ⟨i, _, rfl⟩ := List.mem_map.mp hx
    exact w i
  · unfold at0
    have e : (l.toNat : Int) = l := by omega
    rw [List.getD_eq_getElem?_getD, List.getElem?_map, List.getElem?_range (by omega)]
    show r (l.toNat : Int) = r l
    rw [e]
theorem bentR_iff {c : Nat} {T : List Mem} (g : ∀ m ∈ T, Good1 c m) (nd : Nd T) : BentR c T ↔ ∀ p q : Nat, q < p → p < c → cmaxs q p T ≤ 0 := by
  constructor
  · intro h p q hqp hp
    obtain ⟨m1, m2⟩ := list_of c (best_01 q p T)
    have gs : ∀ m ∈ T, m.1.Pairwise (· < ·) := fun m hm => (g m hm).srt
    have z : at0 ((List.range c).map (fun i : Nat => best q p T i)) p + at0 ((List.range c).map (fun i : Nat => best q p T i)) q = 0 := by
      rw [m2 p (by omega) (by omega), m2 q (by omega) (by omega), best_p gs, best_q gs]; rfl
    have h1 := h _ m1 p q hqp hp z
    have h2 := rows_sds g m1 hqp hp z
    have h3 : sds q p (at0 ((List.range c).map (fun i : Nat => best q p T i))) T = sds q p (best q p T) T := by
      unfold sds
      rw [List.map_congr_left]
      intro m hm
      congr 1
      unfold sd
      split
      · rfl
      · cases e : third q p m.1 with
        | none => rfl
        | some t =>
          have ht := (third_in (gs m hm) e).1
          exact m2 t ((g m hm).rng t ht).1 ((g m hm).rng t ht).2
    rw [h3, best_sum (by omega) gs nd] at h2
    omega
  · intro h one h1 p q hqp hp h0
    have e := rows_sds g h1 hqp hp h0
    have w := at0_01 ((rowsM_mem c one).mp h1).2
    have := sds_le w q p T
    have := h p q hqp hp
    omega

/-! ### the made sum -/
/-- what the made sum is: the numbers added for each key, the noughts left out -/
structure MadeOf (c : Int) (T P : List Mem) : Prop where
  perm : P.Perm ((build [] (adds c T)).filter fun m => decide (m.2 ≠ 0))
theorem made_worth {c : Int} {T P : List Mem} (h : MadeOf c T P) (r : Int → Int) : worth P r = worth (adds c T) r := by
  rw [worth_perm h.perm, worth_filter, worth_build r _ _ nd_nil, worth_nil]; omega
theorem made_mem {c : Int} {T P : List Mem} (h : MadeOf c T P) {m : Mem} (hm : m ∈ P) : m.2 ≠ 0 ∧ m.2 = cf (adds c T) m.1 ∧ m.1 ∈ (adds c T).map (·.1) := by
  have h1 := h.perm.mem_iff.mp hm
  obtain ⟨h2, h3⟩ := List.mem_filter.mp h1
  have h4 := mem_get (nd_build (adds c T) [] nd_nil) (show (m.1, m.2) ∈ _ from h2)
  have h5 := coef_build (adds c T) [] m.1
  refine ⟨of_decide_eq_true h3, ?_, ?_⟩
  · unfold coef at h5
    rw [h4, get_nil] at h5
    have h6 : m.2 = 0 + cf (adds c T) m.1 := h5
    omega
  · rcases keys_build (adds c T) [] m.1 (List.mem_map.mpr ⟨m, h2, rfl⟩) with q | q
    · simp at q
    · exact q
theorem made_has {c : Int} {T P : List Mem} (h : MadeOf c T P) {k : List Int} (hk : cf (adds c T) k ≠ 0) : (k, cf (adds c T) k) ∈ P := by
  have h5 := coef_build (adds c T) [] k
  have h6 : coef [] k = 0 := rfl
  rw [h6] at h5
  refine h.perm.mem_iff.mpr (List.mem_filter.mpr ⟨?_, by simp [hk]⟩)
  cases e : get (build [] (adds c T)) k with
  | none =>
    unfold coef at h5
    rw [e] at h5
    have : (0 : Int) = 0 + cf (adds c T) k := h5
    omega
  | some v =>
    unfold coef at h5
    rw [e] at h5
    have : v = 0 + cf (adds c T) k := h5
    have ev : v = cf (adds c T) k := by omega
    rw [← ev]; exact get_mem e
/-- the letters of what is added -/
theorem adds_keys {c : Int} : ∀ (T : List Mem) (h : Int), 0 ≤ c → c ≤ h → (∀ m ∈ T, Good1 c m) → ∀ m ∈ adds h T, m.1.length ≤ 2 ∧ (∀ l ∈ m.1, 0 ≤ l ∧ l < h + tri T) ∧
    ∀ u v, m.1 = [u, v] → u < v ∧ (h ≤ v → m.2 ≤ 0) ∧ (v < h → v < c)
  | [], _, _, _, _ => by simp [adds]
  | m :: T, h, h0, hh, g => by
    have ih := adds_keys T (if isTri m = true then h + 1 else h) h0 (by split <;> omega) fun x hx => g x (List.mem_cons_of_mem _ hx)
    have gm := g m (List.mem_cons_self ..)
    intro a ha
    rw [adds_cons] at ha
    rw [tri_cons]
    rcases List.mem_append.mp ha with ha | ha
    · cases e : isTri m with
      | false =>
        rw [memAdds_no e] at ha
        have : a = m := by simpa using ha
        subst this
        have hl := gm.len
        have hnt : ¬ a.1.length = 3 := of_decide_eq_false e
        refine ⟨by omega, fun l hl => ?_, fun u v huv => ?_⟩
        · have := gm.rng l hl
          simp; omega
        · have hs := gm.srt
          have hr := gm.rng
          rw [huv] at hs hr
          have hv := (hr v (by simp)).2
          have : u < v := by simpa using hs
          exact ⟨this, fun _ => by omega, fun _ => hv⟩
      | true =>
        obtain ⟨x, y, z, d⟩ := isTri_three e
        have hs := gm.srt
        have hr := gm.rng
        rw [d] at hs hr
        have o : x < y ∧ y < z := by simp at hs; omega
        have hx := (hr x (by simp)); have hy := (hr y (by simp)); have hz := (hr z (by simp))
        rw [memAdds_tri d] at ha
        unfold tripleAdds at ha
        rw [if_pos rfl]
        split at ha
        · simp only [List.mem_cons, List.not_mem_nil, or_false] at ha
          rcases ha with rfl | rfl | rfl | rfl <;> refine ⟨by simp, fun l hl => ?_, fun u v huv => ?_⟩ <;> simp at * <;> omega
        · simp only [List.mem_cons, List.not_mem_nil, or_false] at ha
          rcases ha with rfl | rfl | rfl | rfl | rfl | rfl | rfl <;> refine ⟨by simp, fun l hl => ?_, fun u v huv => ?_⟩ <;> simp at * <;> omega
    · obtain ⟨i1, i2, i3⟩ := ih a ha
      refine ⟨i1, fun l hl => ?_, fun u v huv => ?_⟩
      · have := i2 l hl
        split at this <;> rename_i z <;> simp [z] <;> omega
      · obtain ⟨j1, j2, j3⟩ := i3 u v huv
        refine ⟨j1, fun hv => ?_, fun hv => ?_⟩
        · by_cases hq : (if isTri m = true then h + 1 else h) ≤ v
          · exact j2 hq
          · have := j3 (by omega)
            omega
        · refine j3 ?_
          split <;> omega
theorem cf_neg {k : List Int} : ∀ (A : List Mem), (∀ m ∈ A, m.1 = k → m.2 ≤ 0) → cf A k ≤ 0
  | [], _ => Int.le_refl _
  | m :: A, h => by
    rw [cf_cons]
    have := cf_neg A fun x hx => h x (List.mem_cons_of_mem _ hx)
    have := h m (List.mem_cons_self ..)
    split <;> rename_i z
    · have := this z; omega
    · omega
/-- SECOND LAW -/
theorem bent_law {c : Nat} {T P : List Mem} (g : ∀ m ∈ T, Good1 c m) (nd : Nd T) (h : MadeOf c T P) : BentP P ↔ BentR c T := by
  have ak := adds_keys T c (by omega) (Int.le_refl _) g
  rw [bentR_iff g nd]
  constructor
  · intro b p q hqp hp
    rw [← cf_adds (c := c) (by omega) T c (Int.le_refl _) g]
    by_cases z : cf (adds c T) [(q : Int), (p : Int)] = 0
    · omega
    · exact b _ (made_has h z) rfl
  · intro b m hm hl
    obtain ⟨h1, h2, h3⟩ := made_mem h hm
    obtain ⟨u, v, e⟩ : ∃ u v, m.1 = [u, v] := by
      match q : m.1, hl with
      | [u, v], _ => exact ⟨u, v, rfl⟩
    obtain ⟨a, ha, ea⟩ := List.mem_map.mp h3
    obtain ⟨_, k2, k3⟩ := ak a ha
    obtain ⟨j1, j2, j3⟩ := k3 u v (ea.trans e)
    by_cases hv : (c : Int) ≤ v
    · rw [h2]
      refine cf_neg _ fun x hx ex => ?_
      exact ((ak x hx).2.2 u v (ex.trans e)).2.1 hv
    · have hu := k2 u (by rw [ea, e]; simp)
      have := b v.toNat u.toNat (by omega) (by omega)
      have e1 : ((v.toNat : Nat) : Int) = v := by omega
      have e2 : ((u.toNat : Nat) : Int) = u := by omega
      rw [e1, e2, ← cf_adds (c := c) (by omega) T c (Int.le_refl _) g] at this
      rw [h2, e]; exact this
/-- no member of the made sum has three letters; they lie below -/
theorem made_is {c : Nat} {T P : List Mem} (g : ∀ m ∈ T, Good1 c m) (h : MadeOf c T P) : ∀ m ∈ P, m.1.length ≤ 2 ∧ ∀ l ∈ m.1, 0 ≤ l ∧ l < (c : Int) + tri T := fun m hm => by
  obtain ⟨_, _, h3⟩ := made_mem h hm
  obtain ⟨a, ha, ea⟩ := List.mem_map.mp h3
  obtain ⟨k1, k2, _⟩ := adds_keys T c (by omega) (Int.le_refl _) g a ha
  rw [ea] at k1 k2
  exact ⟨k1, k2⟩
theorem made_least {c : Nat} {T P : List Mem} (g : ∀ m ∈ T, Good1 c m) (h : MadeOf c T P) {row : List Int} (hr : row ∈ rowsM c) :
    (∀ more ∈ rowsM (tri T), worth T (at0 row) ≤ worth P (at0 (row ++ more))) ∧ ∃ more ∈ rowsM (tri T), worth P (at0 (row ++ more)) = worth T (at0 row) := by
  obtain ⟨hl, h01⟩ := (rowsM_mem c row).mp hr
  obtain ⟨a, b, b1, b2, b3⟩ := least_law (fun m hm => (g m hm).rng) hl h01
  refine ⟨fun more hm => ?_, b, (rowsM_mem _ _).mpr ⟨b1, b2⟩, ?_⟩
  · rw [made_worth h]; exact a more ((rowsM_mem _ _).mp hm).2
  · rw [made_worth h]; exact b3
end K31

/-! K31R1: set(xs) of a list of ints, as the layer's set. -/
namespace K31
open PySem PySem.Spec PyProof.Rows L2
/-- a new set's object -/
abbrev emp (w : World) : Obj := ⟨.type "set", none, .set #[] 0 (.fresh 0 0 (!w.params.followText "set-order")), #[]⟩
section
variable {P : Program} {w : World} {A : Around} {E : Value → Shared → Prop} {s : Shared}
/-- what stands behind it -/
structure SetGot (w : World) (h h' : Heap) (ns : List Int) (c : Nat) : Prop where
  set : SetR w h' h.objs.size (fun j => decide (j ∈ ns)) c
  few : c ≤ ns.length
  old : ∀ b o, h.get? b = some o → h'.get? b = some o
/-- the making's last step: the items of the list go in -/
theorem init_lst {B : Around} {S l : Addr} {items : Array Value} {ns : List Int} {h0 : Heap} (eS : S = h0.objs.size) (nohand : B.handled = none) (hl : h0.IsList l items) (hit : IntsAre items.toList ns) (room : ns.length + 1 < scanBound)
    {R : Result → Shared → Prop} (k : ∀ (h' : Heap) (tk c : Nat), SetGot w h0 h' ns c → R (.ok (.ret Value.none)) { s with heap := h', toks := tk }) :
    codeAny (model P w) B (.call (.builtin "set.__init__") ⟨[.ref S, .ref l], []⟩) R { s with heap := h0.push (emp w) } := by
  subst eS
  have at0 : (h0.push (emp w)).get? h0.objs.size = some (emp w) := Heap.get?_push_size _ rfl
  have ty0 : Shared.TypeIs { s with heap := h0.push (emp w) } (.ref h0.objs.size) "set" := ⟨_, at0, rfl⟩
  have many : items.size = ns.length := by rw [← IntsAre.length hit, Array.length_toList]
  have lS : l < h0.objs.size := by
    obtain ⟨o, e, _⟩ := hl
    exact Heap.lt_size e
  refine codeAny_call_builtin F.called_set.init.plain F.entry_set_init (check_set_init_1 ty0 ?_)
  obtain ⟨⟨c1, c2, c3, c4⟩, e1, e2, nl, e3⟩ := id hl
  simp only at e2 e3
  subst e2; subst e3
  have e1' : (h0.push (emp w)).get? l = some { cls := .type "list", dict := c2, data := .seq items nl, slots := c4 } := Heap.get?_push_of_some _ e1
  have f1 := F.sub_list_set
  have f2 := F.sub_list_frozenset
  have f3 : (Value.type "list" == Value.type "dict") = false := by decide
  have hl1 : (h0.push (emp w)).IsList l items := ⟨_, e1', rfl, nl, rfl⟩
  unfold Builtin.«set.__init__» noKeywords Builtin.Frozenset.updateFrom
  generalize pyi : pyIter = PI
  wp_walk
  subst pyi
  refine wpAny_pyIter_list hl1 (wpAny_bind (wpAny_runValue ?_))
  have sz : (h0.push (emp w)).objs.size = h0.objs.size + 1 := Heap.size_push ..
  have n1 : l ≠ (h0.push (emp w)).objs.size := by rw [sz]; exact Nat.ne_of_lt (Nat.lt_succ_of_lt lS)
  have n2 : h0.objs.size ≠ (h0.push (emp w)).objs.size := by rw [sz]; exact Nat.ne_of_lt (Nat.lt_succ_self _)
  have nfp : h0.objs.size ∉ [(h0.push (emp w)).objs.size, l] := fun m => by
    rcases List.mem_cons.mp m with e | m
    · exact n2 e
    · exact Nat.ne_of_gt lS (List.mem_singleton.mp m)
  have each : ∀ (i : Nat) (v : Value), items[i]? = some v → ∃ z t, ns[i]? = some z ∧ v = .int z t := fun i v hv => by
    obtain ⟨t, e⟩ := IntsAre.int_at hit i v (by rw [Array.getElem?_toList]; exact hv)
    have hi : i < ns.length := many ▸ (Array.getElem?_eq_some_iff.mp hv).1
    exact ⟨ns[i], t, List.getElem?_eq_getElem hi, by rw [e, List.getD_eq_getElem?_getD, List.getElem?_eq_getElem hi]; rfl⟩
  refine set_update_ints ((Walks.list (by simp [nohand]) _ l n1 items).toS) h0.objs.size nfp ns many room each (items.size - 0) 0 _ (by omega) (Nat.zero_le _) ⟨⟨_, Heap.get?_push_size _ rfl, rfl, rfl⟩, hl1.push _⟩ ?begin ?after
  case begin =>
    exact ⟨0, Nat.le_refl 0, setR_new_at (Heap.get?_push_of_some _ at0)⟩
  case after =>
    intro s' c moved few set
    obtain ⟨h', g2, d2, tk2, os2⟩ := s'
    obtain rfl : g2 = s.gens := moved.gens
    obtain rfl : d2 = s.drawn := moved.drawn
    obtain rfl : os2 = s.os := moved.os
    refine wpAny_pure ?_
    show wpAny _ _ (ret Value.none) _ _ _
    refine wpAny_pure (k h' tk2 c ⟨set, by omega, fun b o e => ?_⟩)
    have b1 : b ≠ h0.objs.size := Nat.ne_of_lt (Heap.lt_size e)
    have b2 : b ≠ (h0.push (emp w)).objs.size := by rw [sz]; exact Nat.ne_of_lt (Nat.lt_succ_of_lt (Heap.lt_size e))
    refine moved.heap b o (fun m => ?_) (Heap.get?_push_of_some _ (Heap.get?_push_of_some _ e))
    rcases List.mem_cons.mp m with q | m
    · exact b1 q
    · exact b2 (List.mem_singleton.mp m)
theorem call_set_lst {l : Addr} {items : Array Value} {ns : List Int} {Q : Value → Shared → Prop} (nohand : A.handled = none) (hl : s.heap.IsList l items) (hit : IntsAre items.toList ns) (room : ns.length + 1 < scanBound)
    (fin : ∀ (h' : Heap) (tk c : Nat), SetGot w s.heap h' ns c → Q (.ref s.heap.objs.size) { s with heap := h', toks := tk }) : wpAny (model P w) A (call (.type "set") [.ref l]) Q E s := by
  obtain ⟨c, tl, mro⟩ := F.called_set.mro
  have made := F.called_set.made
  have sub := F.called_set.sub
  refine wpAny_call (codeAny_of_tree ?_)
  show wpAny _ _ (callAny (.type "set") _) _ _ _
  refine wpAny_pure ⟨Code.quiet_builtin _ (by decide +kernel), codeAny_builtin F.entry_type_call ?_⟩
  rw [Around.under_plain (weight_type_call_type "set" [.ref l] []) rfl]
  have a1 := F.called_set.notType
  have a2 := F.called_set.canCreate
  have a3 := F.typeCall_set_1 (.ref l)
  repeat (any_goals (first | assumption | wp_step))
  refine codeAny_mono (code_set_led1 (.ref l) (E := E) (Q₁ := fun obj s1 => obj = .ref s.heap.objs.size ∧ s1 = { s with heap := s.heap.push (emp w) }) ⟨rfl, rfl⟩) fun r s1 hr => ?_
  cases r with
  | error e => exact hr
  | ok fl =>
    cases fl with
    | ret obj =>
      obtain ⟨rfl, rfl⟩ := hr
      have at0 : (s.heap.push (emp w)).get? s.heap.objs.size = some (emp w) := Heap.get?_push_size _ rfl
      have ty0 : Shared.TypeIs { s with heap := s.heap.push (emp w) } (.ref s.heap.objs.size) "set" := ⟨_, at0, rfl⟩
      have i1 := F.called_set.init.lookup
      have i2 := F.called_set.init.bind (.ref s.heap.objs.size)
      repeat (any_goals (first | assumption | wp_step))
      refine codeAny_mono (init_lst (s := s) (R := fun r s2 => r = .ok (.ret Value.none) ∧ ∃ h' tk c, s2 = { s with heap := h', toks := tk } ∧ SetGot w s.heap h' ns c) rfl ?_ hl hit room fun h' tk c g => ⟨rfl, h', tk, c, rfl, g⟩) fun r2 s2 hr2 => ?_
      · simp [nohand]
      · obtain ⟨rfl, h', tk, c, rfl, g⟩ := hr2
        repeat (any_goals (first | assumption | wp_step))
        exact fin _ _ _ g
    | _ => exact hr.elim
/-- set(xs): a list of ints -/
def rMkSet (K : PySem.W.Frag) (w : World) : List V → Hp → VK → Prop := fun xs H Q => ∃ (l : Addr) (ns : List Int), xs = [.ref l] ∧ SqL K H l (ns.map V.int) ∧ ns.length ≤ 1000 ∧
  ∀ p c, H p = none → c ≤ ns.length → Q (.ref p) (upd H p (SetO w p (fun j => decide (j ∈ ns)) c))
end
section
variable {X : Cx}
theorem cr_setL (calm : X.calm = true) : CallR X (.type "set") (K31.rMkSet X.K X.w) := by
  intro pins s σ H xs us Q I r h
  obtain ⟨l, ns, rfl, hs, hn, q⟩ := h
  rw [Vals.ref1 r]
  obtain ⟨its, rv, hl, hz⟩ := I.list hs
  refine call_set_lst (I.ok.hd calm) hl.isList (by simpa using ints_of_vals rv) (by unfold scanBound; omega) fun h' tk c g => ?_
  have fresh : H s.heap.objs.size = none := I.hok.fresh (Nat.le_refl _)
  exact ⟨.ref _, _, I.laid (t' := tk) g.old (Nat.le_refl _) (setO_new g.set), rfl, q _ c fresh g.few⟩
end
end K31

/-! K31R2: sorted of tuples that read as alike data, also where some are empty. -/
namespace K31
section
open PySem PySem.W PySem.Calls PyProof.Rows
variable {prog : Program} {w : World} {A : Around} {E : Value → Shared → Prop} {s : Shared}
/-- tuple's own < as the sort calls it where all keys are tuples and the first is empty -/
theorem tup_one {xs ys : List PyData} {a b : Value} {as bs : List Addr} {Q : Bool → Shared → Prop} (ra : Reads s.heap a (.tuple xs) as) (rb : Reads s.heap b (.tuple ys) bs) (hal : alike (.tuple xs) (.tuple ys) = true)
    (hu : A.units + min (PyData.tuple xs).depth (PyData.tuple ys).depth < cLine) (hq : Q (dataLt (.tuple xs) (.tuple ys)) s) : wpAny (model prog w) A (oneLt' true a b) Q E s := by
  have al : alikeAll xs ys = true := by simpa [alike] using hal
  cases ra with
  | @tuple l o vs n _ as1 h1 h2 h3 h4 =>
    cases rb with
    | @tuple l' o' vs' n' _ bs1 k1 k2 k3 k4 =>
      have n1 : vs.size = xs.length := by simpa using SeqAt.ReadsAll.length _ _ _ h4
      have n2 : vs'.size = ys.length := by simpa using SeqAt.ReadsAll.length _ _ _ k4
      rw [dataLt_tuple, ← firstLt_toks xs ys al, ← n1, ← n2] at hq
      rw [oneLt'_eq, if_pos rfl]
      refine wpAny_bind (wpAny_cRoomFor (SeqAt.room_here hu) (wpAny_bind (wpAny_callSpecialIfBound?_slot (T := "tuple") ⟨_, h1, h2⟩ PySem.F.slot_tuple_lt ?_)))
      obtain ⟨c1, c2, c3, c4⟩ := o
      obtain ⟨d1, d2, d3, d4⟩ := o'
      simp only at h2 h3 k2 k3
      subst h2 h3 k2 k3
      refine call_meets PySem.F.slot_tuple_lt ⟨_, h1, rfl⟩ PySem.F.entry_tuple_lt (PySem.F.args_tuple_lt_2 _ _)
        (SeqAt.tuple_ltAt l l' vs vs' n n' c2 d2 c4 d4 (SeqAt.pairEq xs ys) (fun j => dataLt (xs.getD j .none) (ys.getD j .none))) ⟨h1, k1, fun j j1 j2 => ?_, fun j j1 j2 hj => ?_, wpAny_truthy_bool hq⟩
      · have q := eqAt_alikeAll xs ys A.in1 s vs.toList vs'.toList _ _ h4 k4 al (SeqAt.room_in hu) j (by simpa using j1) (by simpa using j2)
        simpa using q
      · have q := rcLt_alikeAll xs ys A.in1 s vs.toList vs'.toList _ _ h4 k4 al (SeqAt.room_in hu) j (by simpa using j1) (by simpa using j2) hj
        simpa using q
/-- a tuple with an item -/
def full : PyData → Bool
  | .tuple [] => false
  | _ => true
theorem full_ne {d : PyData} : full d = true ↔ d ≠ .tuple [] := by
  constructor
  · intro h z; rw [z] at h; cases h
  · intro h
    unfold full
    split
    · exact absurd rfl h
    · rfl
/-- the first items of the keys, as the sort looks for them -/
theorem firsts_tups : ∀ {vs : List Value} {ds : List PyData}, EachIs (fun v d => ∃ as, Reads s.heap v d as) vs ds → (∀ d ∈ ds, ∃ xs, d = .tuple xs) →
    ∃ fs : List (Option Value), fs.map Option.isSome = ds.map full ∧ ∀ (E : Value → Shared → Prop) (Q : List (Option Value) → Shared → Prop), Q fs s → wpAny (model prog w) A (vs.mapM firstOfTuple') Q E s
  | _, _, .nil, _ => ⟨[], rfl, fun E Q h => by rw [List.mapM_nil]; exact wpAny_pure h⟩
  | v :: vs, d :: ds, .cons ⟨as, r⟩ t, ht => by
    obtain ⟨fs, e1, e2⟩ := firsts_tups t fun d hd => ht d (List.mem_cons_of_mem _ hd)
    obtain ⟨xs, rfl⟩ := ht d (List.mem_cons_self ..)
    cases r with
    | @tuple l o its n _ as1 h1 h2 h3 h4 =>
      refine ⟨its[0]? :: fs, ?_, fun E Q h => ?_⟩
      · rw [List.map_cons, List.map_cons, e1]
        congr 1
        have n1 : its.size = xs.length := by simpa using SeqAt.ReadsAll.length _ _ _ h4
        cases xs with
        | nil => rw [Array.getElem?_eq_none (by rw [n1]; exact Nat.le_refl 0)]; rfl
        | cons x xs => rw [Array.getElem?_eq_getElem (by rw [n1]; exact Nat.succ_pos _)]; rfl
      · rw [List.mapM_cons]
        refine wpAny_bind ?_
        rw [kas_first_eq]
        refine wpAny_bind (Looks.here (show Looks (model prog w) s.heap (typeOf (.ref l)) o.cls from (Looks.ld h1).andThen .now) ?_)
        rw [h2, if_neg (by first | decide | simp)]
        exact wpAny_bind (listItems_at h1 h3 (wpAny_pure (wpAny_bind (e2 E _ (wpAny_pure h)))))
theorem sortsAt_tups {vs : List Value} {ds : List PyData} (e : EachIs (fun v d => ∃ as, Reads s.heap v d as) vs ds) (hal : AllAlike ds) (ht : ∀ d ∈ ds, ∃ xs, d = .tuple xs) (hu : ∀ d, d ∈ ds → A.units + d.depth < cLine) :
    SortsAt prog w A s (dataKind s.heap ds) vs := by
  by_cases ne : ∀ d ∈ ds, d ≠ .tuple []
  · refine SortsAt.data e hal (.inl fun d hd => ?_) hu
    obtain ⟨xs, rfl⟩ := ht d hd
    cases xs with
    | nil => exact absurd rfl (ne _ hd)
    | cons x r => exact ⟨x, r, rfl⟩
  · have room : ∀ {d d' : PyData}, d ∈ ds → A.units + min d.depth d'.depth < cLine := fun {d d'} hd => Nat.lt_of_le_of_lt (Nat.add_le_add_left (Nat.min_le_left _ _) _) (hu d hd)
    refine ⟨fun v hv => ?_, ?_⟩
    · obtain ⟨d, hd, as, r⟩ := e.left v hv
      exact ⟨_, dataKind_some hal hd r⟩
    obtain ⟨fs, f1, f2⟩ := firsts_tups (prog := prog) (w := w) (A := A) e ht
    have notall : (fs.toArray.all fun x => x.isSome) = false := by
      cases q : fs.toArray.all fun x => x.isSome with
      | false => rfl
      | true =>
        refine absurd (fun d hd => ?_) ne
        have q1 : ∀ x ∈ fs, x.isSome = true := by simpa using q
        have m : full d ∈ fs.map Option.isSome := by rw [f1]; exact List.mem_map.mpr ⟨d, hd, rfl⟩
        obtain ⟨x, hx, ex⟩ := List.mem_map.mp m
        rw [q1 x hx] at ex
        exact full_ne.mp ex.symm
    by_cases fst : (fs.toArray[0]?.bind id).isSome = true
    · -- the first has an item, another has none
      refine ⟨general', ?_, fun h2 E Q hq => ?_⟩
      · intro E x y a b Q ha hb hq
        obtain ⟨d, as, hd, ra, rfl⟩ := dataKind_inv ha
        obtain ⟨d', as', hd', rb, rfl⟩ := dataKind_inv hb
        show wpAny (model prog w) A (oneLt' false x y) Q E s
        refine oneLt_alike (fun z => nomatch z) ra rb (hal d hd d' hd') (fun z => ?_) (room hd) hq
        obtain ⟨xs, z2⟩ := ht d hd
        rw [z] at z2
        cases z2
      · rw [kat_kind_eq, List.mapM_toArray, map_eq_pure_bind]
        refine wpAny_bind (wpAny_bind (f2 E _ (wpAny_pure ?_)))
        rw [if_neg (by rw [notall]; exact Bool.false_ne_true), if_pos fst]
        exact wpAny_pure hq
    · -- the first is empty
      refine ⟨oneType', ?_, fun h2 E Q hq => ?_⟩
      · intro E x y a b Q ha hb hq
        obtain ⟨d, as, hd, ra, rfl⟩ := dataKind_inv ha
        obtain ⟨d', as', hd', rb, rfl⟩ := dataKind_inv hb
        rw [keyLt'_oneType]
        have al := hal d hd d' hd'
        have rm := room (d' := d') hd
        obtain ⟨xs, rfl⟩ := ht d hd
        obtain ⟨ys, rfl⟩ := ht d' hd'
        exact tup_one ra rb al rm hq
      · rw [kat_kind_eq, List.mapM_toArray, map_eq_pure_bind]
        refine wpAny_bind (wpAny_bind (f2 E _ (wpAny_pure ?_)))
        rw [if_neg (by rw [notall]; exact Bool.false_ne_true), if_neg fst]
        rw [oneTypeOnly'_eq, List.mapM_toArray, map_eq_pure_bind]
        refine wpAny_bind (wpAny_bind (wpAny_bind (kas_mapM (r := Value.type "tuple") _ (fun v hv Q' hq' => ?_) (wpAny_pure ?_))))
        · obtain ⟨d, hd, as, r⟩ := e.left v hv
          obtain ⟨xs, rfl⟩ := ht d hd
          exact (looks_reads (d := .tuple xs) r).here hq'
        · obtain ⟨v1, vr, rfl⟩ : ∃ v1 vr, vs = v1 :: vr := by
            match vs, h2 with
            | v1 :: vr, _ => exact ⟨v1, vr, rfl⟩
          have every : ((List.map (fun _ => Value.type "tuple") (v1 :: vr)).toArray.all fun x => x == Value.type "tuple") = true := by
            simp only [List.all_toArray, List.all_map, List.all_eq_true]
            intro _ _
            exact beq_self_eq_true _
          have one : (List.map (fun _ => Value.type "tuple") (v1 :: vr)).toArray[0]? = some (Value.type "tuple") := by simp
          rw [one]
          simp only [every, if_true]
          exact wpAny_pure (wpAny_pure hq)
/-- sorted(xs), the items tuples that read as alike data -/
theorem sorted_tups {β : Type} {l : Addr} {vs : List Value} {bs : List β} {enc : β → PyData} {R : Value → β → Prop} {Q : Value → Shared → Prop} (hl : s.heap.IsList l vs.toArray) (e : EachIs R vs bs) (er : EachIs (fun v b => ∃ as, Reads s.heap v (enc b) as) vs bs)
    (hal : AllAlike (bs.map enc)) (ht : ∀ b ∈ bs, ∃ xs, enc b = .tuple xs) (hL : bs.length ≤ sizeLine) (hu : ∀ b, b ∈ bs → A.units + 2 + (enc b).depth < cLine)
    (h : ∀ out, out.length = bs.length → EachIs R out (bs.mergeSort (dataLe false enc)) → Q (.ref (s.heap.objs.size + 1)) { s with heap := sortedAll s.heap vs (List.toArray out) }) : wpAny (model prog w) A (call (.builtin "sorted") [.ref l]) Q E s := by
  have er2 : EachIs (fun v b => ∃ as, Reads (sortingHeap (copyHeap s.heap vs) (s.heap.objs.size + 1) vs) v (enc b) as) vs bs := er.mono fun _ _ z => z.imp fun _ r => PyProof.Rows.Reads.keeps (fun _ _ => sorting_copy_old) r
  have ht2 : ∀ d ∈ bs.map enc, ∃ xs, d = .tuple xs := fun d hd => by
    obtain ⟨b, hb, rfl⟩ := List.mem_map.mp hd
    exact ht b hb
  have S := sortsAt_tups (prog := prog) (w := w) (A := A.in1.in1) (s := { s with heap := sortingHeap (copyHeap s.heap vs) (s.heap.objs.size + 1) vs }) (each_map (R := fun v d => ∃ as, Reads (sortingHeap (copyHeap s.heap vs) (s.heap.objs.size + 1) vs) v d as) enc er2) hal ht2 (bound_map hu)
  refine sorted_vals hl S (by rw [e.length]; exact hL) (h _ ?_ ?_)
  · rw [sortVals_length false rfl]; exact e.length
  · exact sortVals_data false e er2 hal
end
end K31

/-! K31R3: the same as rules of the layer: a list of tuples, a dict with tuple keys. -/
namespace K31
section
open PySem PySem.W PyProof.Rows
/-- a tuple of ints as a datum; a pair of such a tuple and an int -/
def encI (ns : List Int) : PyData := .tuple (ns.map .int)
def encM (m : List Int × Int) : PyData := .tuple [encI m.1, .int m.2]
theorem encI_alike (a b : List Int) : alike (encI a) (encI b) = true := by
  show alikeAll (a.map .int) (b.map .int) = true
  exact alike_ints a b
theorem encM_alike (a b : List Int × Int) : alike (encM a) (encM b) = true := by
  unfold encM
  have := encI_alike a.1 b.1
  simp [alike, alikeAll, this]
theorem encI_depth (a : List Int) : (encI a).depth ≤ 1 := by
  unfold encI
  rw [PyData.depth, depth_ints]
  omega
theorem encM_depth (m : List Int × Int) : (encM m).depth ≤ 2 := by
  have := encI_depth m.1
  unfold encM
  simp [PyData.depth, PyData.depthAll]
  omega
theorem encI_lt (a b : List Int) : dataLt (encI a) (encI b) = decide (a < b) := by
  unfold encI
  rw [dataLt_tuple]
  exact dataLt_ints a b
theorem encM_lt {a b : List Int × Int} (h : dataLt (encM a) (encM b) = false) : ¬ a.1 < b.1 := fun lt => by
  have al := encI_alike a.1 b.1
  have l1 : dataLt (encI a.1) (encI b.1) = true := by rw [encI_lt]; exact decide_eq_true lt
  have ne : PyData.eqv (encI a.1) (encI b.1) = false := by
    cases e : PyData.eqv (encI a.1) (encI b.1) with
    | false => rfl
    | true =>
      unfold dataLt at l1
      rw [(toks_eqv _ _ al).1 e, lex_irrefl] at l1
      cases l1
  unfold encM at h
  rw [dataLt_pair al (by simp [alike]), ne, if_neg Bool.false_ne_true, l1] at h
  cases h
theorem each_vals {β : Type} {f : β → L2.V} : ∀ {bs : List β} {us : List Value}, L2.Vals (bs.map f) us → EachIs (fun v b => L2.RelV (f b) v) us bs
  | [], _, r => by
    have r : L2.Vals [] _ := r
    cases r
    exact .nil
  | b :: bs, _, r => by
    have r : L2.Vals (f b :: bs.map f) _ := r
    cases r with
    | cons h t => exact .cons h (each_vals t)
theorem vals_each {β : Type} {f : β → L2.V} : ∀ {us : List Value} {bs : List β}, EachIs (fun v b => L2.RelV (f b) v) us bs → L2.Vals (bs.map f) us
  | _, _, .nil => .nil
  | _, _, .cons h t => .cons h (vals_each t)
theorem each_and {β : Type} {R S : Value → β → Prop} : ∀ {us : List Value} {bs : List β}, EachIs R us bs → (∀ u b, b ∈ bs → R u b → S u b) → EachIs S us bs
  | _, _, .nil, _ => .nil
  | _, _, .cons h t, k => .cons (k _ _ (List.mem_cons_self ..) h) (each_and t fun u b hb r => k u b (List.mem_cons_of_mem _ hb) r)
end
open PySem PySem.Spec PyProof.Rows L2
section
variable {X : Cx}
/-- sorted(xs): xs reads, item by item, as enc of zs -/
def rSortG {β : Type} (enc : β → PyData) (K : PySem.W.Frag) : List V → Hp → VK → Prop := fun vs H Q => ∃ (a : Addr) (zs : List (V × β)), vs = [.ref a] ∧ SqL K H a (zs.map (·.1)) ∧ (∀ z ∈ zs, Dp K H z.1 (enc z.2)) ∧
  ∀ (ys : List (V × β)) (p : Addr), ys.Perm zs → ys.Pairwise (fun y z => PySem.W.dataLt (enc z.2) (enc y.2) = false) → H p = none → Q (.ref p) (upd H p (.lst (ys.map (·.1))))
theorem sort_facts {β : Type} (enc : β → PyData) (zs : List (V × β)) : (zs.mergeSort (PySem.W.dataLe false fun z => enc z.2)).Perm zs ∧ (zs.mergeSort (PySem.W.dataLe false fun z => enc z.2)).Pairwise (fun y z => PySem.W.dataLt (enc z.2) (enc y.2) = false) := by
  refine ⟨List.mergeSort_perm .., ?_⟩
  refine (PySem.W.sort_pairwise (PySem.W.sortLe_total (listOrd itemOrd) false fun z : V × β => PySem.W.keyToks (enc z.2)) zs).imp fun {a b} h => ?_
  have h' : (!PySem.W.dataLt (enc b.2) (enc a.2)) = true := h
  simpa using h'
theorem cr_sortG {β : Type} {enc : β → PyData} (hal : ∀ a b, PySem.W.alike (enc a) (enc b) = true) (ht : ∀ a, ∃ xs, enc a = .tuple xs) (hd : ∀ a, (enc a).depth ≤ 9) (hu : X.A.units + 64 < cLine) : CallR X (.builtin "sorted") (rSortG enc X.K) := by
  intro pins s σ H vs us Q I r h
  obtain ⟨a, zs, rfl, hs, hz, q⟩ := h
  rw [Vals.ref1 r]
  obtain ⟨its, rv, hl, hn⟩ := I.list hs
  rw [List.length_map] at hn
  have e := each_vals (f := fun z : V × β => z.1) rv
  refine sorted_tups (bs := zs) (enc := fun z => enc z.2) hl.isList e (each_and e fun u z m r => Dp.reads I _ _ _ (hz z m) r) (PySem.W.AllAlike.of fun _ _ => hal _ _) (fun z _ => ht z.2) hn (fun z _ => ?_) fun out ho eo => ?_
  · have := hd z.2
    show X.A.units + 2 + (enc z.2).depth < cLine
    omega
  · obtain ⟨f1, f2⟩ := sort_facts enc zs
    obtain ⟨n, hn2⟩ := sortedAll_at s.heap its out.toArray
    have fresh : H (s.heap.objs.size + 1) = none := I.hok.fresh (Nat.le_succ _)
    have hz2 : (((zs.mergeSort (PySem.W.dataLe false fun z => enc z.2)).map (·.1)).length) ≤ sizeLine := by rw [List.length_map, f1.length_eq]; exact hn
    refine ⟨.ref (s.heap.objs.size + 1), upd H (s.heap.objs.size + 1) (.lst ((zs.mergeSort (PySem.W.dataLe false fun z => enc z.2)).map (·.1))), I.laid (t' := s.toks) (fun b o e => sortedAll_old e) (Nat.le_succ _) ⟨hz2, out, n, vals_each eo, hn2⟩, rfl, q _ _ f1 f2 fresh⟩
end
/-! ### what the program asks -/
/-- the tuple of these ints at a -/
abbrev TupAt (H : Hp) (a : Addr) (ns : List Int) : Prop := H a = some (.tup (ns.map V.int))
/-- a member at a -/
def MemAt (H : Hp) (a : Addr) (m : List Int × Int) : Prop := ∃ b, H a = some (.tup [.ref b, .int m.2]) ∧ TupAt H b m.1
theorem dp_ints {K : PySem.W.Frag} {H : Hp} : ∀ ns : List Int, DpAll K H (ns.map V.int) (ns.map PyData.int)
  | [] => .nil
  | n :: ns => .cons (.int n) (dp_ints ns)
theorem dp_tup {K : PySem.W.Frag} {H : Hp} {a : Addr} {ns : List Int} (h : TupAt H a ns) : Dp K H (.ref a) (encI ns) := .tup (.inl (.inl h)) (dp_ints ns)
theorem dp_mem {K : PySem.W.Frag} {H : Hp} {a : Addr} {m : List Int × Int} (h : MemAt H a m) : Dp K H (.ref a) (encM m) := by
  obtain ⟨b, h1, h2⟩ := h
  exact .tup (.inl (.inl h1)) (.cons (dp_tup h2) (.cons (.int m.2) .nil))
section
variable {X : Cx}
/-- back from pairs with a value to pairs with an address -/
theorem back_addr {β : Type} {zs : List (Addr × β)} {ys : List (V × β)} (h : ys.Perm (zs.map fun z => (V.ref z.1, z.2))) : ∃ ws : List (Addr × β), ys = ws.map (fun z => (V.ref z.1, z.2)) ∧ ws.Perm zs := by
  have inj : ∀ a ∈ ys, ∃ z ∈ zs, a = (V.ref z.1, z.2) := fun a ha => by
    obtain ⟨z, hz, e⟩ := List.mem_map.mp (h.mem_iff.mp ha)
    exact ⟨z, hz, e.symm⟩
  let bk : V × β → Addr × β := fun v => (match v.1 with | .ref a => a | _ => 0, v.2)
  have bk1 : ∀ z : Addr × β, bk (V.ref z.1, z.2) = z := fun _ => rfl
  refine ⟨ys.map bk, ?_, ?_⟩
  · rw [List.map_map]
    have : ys.map ((fun z : Addr × β => (V.ref z.1, z.2)) ∘ bk) = ys.map id := List.map_congr_left fun v hv => by
      obtain ⟨z, _, rfl⟩ := inj v hv
      rfl
    rw [this, List.map_id]
  · have q := h.map bk
    rw [List.map_map] at q
    have : zs.map (bk ∘ fun z : Addr × β => (V.ref z.1, z.2)) = zs.map id := List.map_congr_left fun z _ => rfl
    rw [this, List.map_id] at q
    exact q
/-- sorted(xs), tuples of ints -/
def rSortTups (K : PySem.W.Frag) : List V → Hp → VK → Prop := fun vs H Q => ∃ (a : Addr) (zs : List (Addr × List Int)), vs = [.ref a] ∧ SqL K H a (zs.map fun z => V.ref z.1) ∧ (∀ z ∈ zs, TupAt H z.1 z.2) ∧
  ∀ (ys : List (Addr × List Int)) (p : Addr), ys.Perm zs → ys.Pairwise (fun y z => ¬ z.2 < y.2) → H p = none → Q (.ref p) (upd H p (.lst (ys.map fun z => V.ref z.1)))
theorem cr_sortTups (hu : X.A.units + 64 < cLine) : CallR X (.builtin "sorted") (rSortTups X.K) := by
  intro pins s σ H vs us Q I r h
  obtain ⟨a, zs, rfl, hs, hz, q⟩ := h
  refine cr_sortG (enc := encI) encI_alike (fun a => ⟨_, rfl⟩) (fun a => Nat.le_trans (encI_depth a) (by decide)) hu pins s σ H _ us Q I r ⟨a, zs.map fun z => (V.ref z.1, z.2), rfl, ?_, fun z m => ?_, fun ys p h1 h2 hp => ?_⟩
  · rw [List.map_map]; exact hs
  · obtain ⟨z', m', rfl⟩ := List.mem_map.mp m
    exact dp_tup (hz z' m')
  · obtain ⟨ws, rfl, h3⟩ := back_addr h1
    rw [List.map_map]
    refine q ws p h3 ((List.pairwise_map.mp h2).imp fun {a b} e => ?_) hp
    rw [encI_lt] at e
    exact of_decide_eq_false e
/-- sorted(xs), members -/
def rSortMems (K : PySem.W.Frag) : List V → Hp → VK → Prop := fun vs H Q => ∃ (a : Addr) (zs : List (Addr × List Int × Int)), vs = [.ref a] ∧ SqL K H a (zs.map fun z => V.ref z.1) ∧ (∀ z ∈ zs, MemAt H z.1 z.2) ∧
  ∀ (ys : List (Addr × List Int × Int)) (p : Addr), ys.Perm zs → ys.Pairwise (fun y z => ¬ z.2.1 < y.2.1) → H p = none → Q (.ref p) (upd H p (.lst (ys.map fun z => V.ref z.1)))
theorem cr_sortMems (hu : X.A.units + 64 < cLine) : CallR X (.builtin "sorted") (rSortMems X.K) := by
  intro pins s σ H vs us Q I r h
  obtain ⟨a, zs, rfl, hs, hz, q⟩ := h
  refine cr_sortG (enc := encM) encM_alike (fun a => ⟨_, rfl⟩) (fun a => Nat.le_trans (encM_depth a) (by decide)) hu pins s σ H _ us Q I r ⟨a, zs.map fun z => (V.ref z.1, z.2), rfl, ?_, fun z m => ?_, fun ys p h1 h2 hp => ?_⟩
  · rw [List.map_map]; exact hs
  · obtain ⟨z', m', rfl⟩ := List.mem_map.mp m
    exact dp_mem (hz z' m')
  · obtain ⟨ws, rfl, h3⟩ := back_addr h1
    rw [List.map_map]
    exact q ws p h3 ((List.pairwise_map.mp h2).imp fun {a b} e => encM_lt e) hp
end
/-! ### sorted(d), d a dict whose keys are tuples of ints -/
section
variable {X : Cx}
theorem kT_keys {H : Hp} : ∀ {kvs : List (List L2.Key × V)} {xs : List (List L2.Key × Addr × Value)}, KT H kvs xs → ∀ {L : List (List Int)}, kvs.map (·.1) = L.map (fun k => k.map Sum.inl) →
    ∃ zs : List (Addr × List Int), xs.map (fun x => x.2.1) = zs.map (·.1) ∧ zs.map (·.2) = L ∧ ∀ z ∈ zs, TupAt H z.1 z.2
  | _, _, .nil, [], _ => ⟨[], rfl, rfl, fun z m => by simp at m⟩
  | _, _, .nil, _ :: _, e => by simp at e
  | _, _, .cons _ _, [], e => by simp at e
  | _ :: _, x :: _, .cons h t, k :: L, e => by
    rw [List.map_cons, List.map_cons, List.cons.injEq] at e
    obtain ⟨zs, e1, e2, e3⟩ := kT_keys t e.2
    refine ⟨(x.2.1, k) :: zs, by rw [List.map_cons, List.map_cons, e1], by rw [List.map_cons, e2], fun z m => ?_⟩
    rcases List.mem_cons.mp m with rfl | m
    · have := h.2.1
      rw [e.1, List.map_map] at this
      exact this
    · exact e3 z m
def rSortD : List V → Hp → VK → Prop := fun vs H Q => ∃ (d : Addr) (kvs : List (List L2.Key × V)) (L : List (List Int)), vs = [.ref d] ∧ Rd H d (.dT kvs) ∧ kvs.map (·.1) = L.map (fun k => k.map Sum.inl) ∧
  ∀ (ys : List (Addr × List Int)) (p : Addr), (∀ z ∈ ys, TupAt H z.1 z.2) → (ys.map (·.2)).Perm L → ys.Pairwise (fun y z => ¬ z.2 < y.2) → H p = none → Q (.ref p) (upd H p (.lst (ys.map fun z => V.ref z.1)))
theorem cr_sortD (calm : X.calm = true) (hu : X.A.units + 64 < cLine) : CallR X (.builtin "sorted") rSortD := by
  intro pins s σ H vs us Q I r h
  obtain ⟨d, kvs, L, rfl, hd, eL, q⟩ := h
  rw [Vals.ref1 r]
  obtain ⟨z0, hs, ks, pr, o, es, ep, ho, hx, hdt, he, hn⟩ := (show ObjOk X.prog X.w H s.heap d (.dT kvs) from hd.ok I.hok)
  have l1 : es.size = ks.length := size_of_entries he
  have l2 : kvs.length = ks.length := Paired.length pr
  obtain ⟨zs, k1, k2, k3⟩ := kT_keys pr eL
  have lz : zs.length = ks.length := by
    have := congrArg List.length k1
    rw [List.length_map, List.length_map] at this
    omega
  refine Calls.call_function_entry PyProof.Rows.kind_sorted PyProof.Rows.plain_sorted PyProof.Rows.entry_sorted (PyProof.Rows.args_sorted1 _) ?_
  unfold Builtin.«sorted»
  refine wpAny_bind (m := checkCount "sorted" 1 1 _) (wpAny_pure (wpAny_bind (PySem.W.kdu_collect (A := X.A.in1) (kdl_raw hs hx hdt) (I.ok.hd calm) ho (by omega) fun h' tk acc kp it => ?_)))
  have ea : acc.toList = zs.map fun z => Value.ref z.1 := by
    have e0 : acc.toList = ks.map fun x => Value.ref x.2.1 := by
      refine List.ext_getElem? fun j => ?_
      have ha : acc.toList.length = ks.length := by rw [Array.length_toList, it.1]; exact l1
      rw [List.getElem?_map]
      by_cases hj : j < ks.length
      · have hj2 : j < acc.toList.length := by omega
        obtain ⟨en, hen, hv⟩ := it.2 j acc.toList[j] (by rw [← Array.getElem?_toList]; exact List.getElem?_eq_getElem hj2)
        have qe := entry_at he j
        rw [hen, List.getElem?_eq_getElem hj] at qe
        have e2 : en = entryOfKey (tupleKind (mixKind X.prog X.w)) ks[j] := Option.some.inj qe
        rw [List.getElem?_eq_getElem hj2, List.getElem?_eq_getElem hj, hv, e2]
        rfl
      · rw [List.getElem?_eq_none (by omega), List.getElem?_eq_none (by omega)]
        rfl
    have e1 := congrArg (List.map Value.ref) k1
    rw [List.map_map, List.map_map] at e1
    exact e0.trans e1
  have I1 : Inv X pins σ H { s with heap := h', toks := tk } := I.kept kp
  have lacc : acc.toList.length = zs.length := by rw [ea, List.length_map]
  refine wpAny_bind (wpAny_newList ?_ (by rw [lacc]; omega))
  have hoL : (h'.push (seqObj "list" acc.toList.toArray 0)).get? h'.objs.size = some (seqObj "list" acc.toList.toArray 0) := Heap.get?_push_size _ rfl
  show wpAny _ _ _ _ _ { s with heap := h'.push (seqObj "list" acc.toList.toArray 0), toks := tk }
  have er : PySem.W.EachIs (fun v (z : Addr × List Int) => v = Value.ref z.1) acc.toList zs := by
    rw [ea]
    clear ea lacc lz k1 k2 k3
    induction zs with
    | nil => exact .nil
    | cons z zs ih => exact .cons rfl ih
  have rd : PySem.W.EachIs (fun v (z : Addr × List Int) => ∃ as, Reads (PySem.W.sortingHeap (h'.push (seqObj "list" acc.toList.toArray 0)) h'.objs.size acc.toList) v (encI z.2) as) acc.toList zs := each_and er fun u z m e => by
    obtain ⟨as, ra⟩ := Dp.reads I1 _ _ _ (dp_tup (k3 z m)) (show RelV (.ref z.1) u from e)
    refine ⟨as, PyProof.Rows.Reads.keeps (fun b o e => ?_) ra⟩
    exact PySem.W.sortingHeap_old (Nat.ne_of_lt (Heap.lt_size e)) (Heap.get?_push_of_some _ e)
  have S := sortsAt_tups (prog := X.prog) (w := X.w) (A := X.A.in1.in1) (s := { s with heap := PySem.W.sortingHeap (h'.push (seqObj "list" acc.toList.toArray 0)) h'.objs.size acc.toList, toks := tk })
    (PySem.W.each_map (R := fun v d => ∃ as, Reads (PySem.W.sortingHeap (h'.push (seqObj "list" acc.toList.toArray 0)) h'.objs.size acc.toList) v d as) (fun z : Addr × List Int => encI z.2) rd) (PySem.W.AllAlike.of fun _ _ => encI_alike _ _)
    (fun d hd => by obtain ⟨z, _, rfl⟩ := List.mem_map.mp hd; exact ⟨_, rfl⟩) (fun d hd => by
      obtain ⟨z, _, rfl⟩ := List.mem_map.mp hd
      have := encI_depth z.2
      show X.A.units + 2 + (encI z.2).depth < cLine
      omega)
  refine wpAny_bind (wpAny_holding (wpAny_call_entry PyProof.Rows.slot_list_sort ⟨_, hoL, rfl⟩ PyProof.Rows.entry_list_sort (PySem.W.list_sort_vals hoL S (by rw [lacc]; omega) ⟨_, rfl, ?_⟩) (PyProof.Rows.args_list_sort _)))
  have eo := PySem.W.sortVals_data false er rd (PySem.W.AllAlike.of fun _ _ => encI_alike _ _)
  have f1 : (zs.mergeSort (PySem.W.dataLe false fun z => encI z.2)).Perm zs := List.mergeSort_perm ..
  have f2 : (zs.mergeSort (PySem.W.dataLe false fun z => encI z.2)).Pairwise (fun y z => ¬ z.2 < y.2) := by
    refine (PySem.W.sort_pairwise (PySem.W.sortLe_total (listOrd itemOrd) false fun z : Addr × List Int => PySem.W.keyToks (encI z.2)) zs).imp fun {a b} h => ?_
    have h' : (!PySem.W.dataLt (encI b.2) (encI a.2)) = true := h
    rw [encI_lt] at h'
    simpa using h'
  obtain ⟨e', he'⟩ := PyProof.Rows.sortedHeap_at (vs := acc.toList) (out := (PySem.W.sortVals (PySem.W.dataKind (PySem.W.sortingHeap (h'.push (seqObj "list" acc.toList.toArray 0)) h'.objs.size acc.toList) (zs.map fun z => encI z.2)) false acc.toList acc.toList).toArray) hoL
  have rv := vals_each (f := fun z : Addr × List Int => V.ref z.1) (PySem.W.EachIs.mono (R' := fun v (z : Addr × List Int) => RelV (V.ref z.1) v) (fun v z e => e) eo)
  have hz2 : ((zs.mergeSort (PySem.W.dataLe false fun z => encI z.2)).map (fun z => V.ref z.1)).length ≤ sizeLine := by rw [List.length_map, f1.length_eq]; omega
  refine wpAny_pure ⟨_, rfl, .ref h'.objs.size, upd H h'.objs.size (.lst ((zs.mergeSort (PySem.W.dataLe false fun z => encI z.2)).map (fun z => V.ref z.1))), I1.laid (t' := tk) (fun b u e => ?_) (Nat.le_refl _) ⟨hz2, _, e', rv, he'⟩, rfl,
    q _ _ (fun z m => k3 z (f1.mem_iff.mp m)) (by rw [← k2]; exact f1.map _) f2 (I1.hok.fresh (Nat.le_refl _))⟩
  have hb : b < h'.objs.size := Heap.lt_size e
  rw [PyProof.Rows.sortedHeap_old (Nat.ne_of_lt hb) (by rw [size_push']; exact Nat.lt_succ_of_lt hb)]
  exact Heap.get?_push_of_some _ e
end
end K31

/-! K31R4: (x,) * 1. -/
namespace K31
open PySem PySem.Spec PyProof.Rows L2
/-- a tuple once is itself -/
theorem tuple_once (l : Addr) (items : Array Value) (n : Nat) (dd : Option Addr) (sl : Array (Option Value)) (u : Tok) :
    Meets (Builtin.«tuple.__mul__» ⟨[.ref l, .int 1 u], []⟩) (fun _ R s => s.heap.get? l = some { cls := .type "tuple", dict := dd, data := .seq items n, slots := sl } ∧ R (.ok (.ret (Value.ref l))) s) :=
  .of_wp fun prog w A R s h => by
    obtain ⟨hp, g, d, tk, os⟩ := s
    obtain ⟨hl, h⟩ := h
    have f1 := AutoSeq1.idx_int
    have t1 : (items.isEmpty || (1 : Int) == 1) = true := by simp
    wp_walk using wpAny_loadPart' hl
    repeat (first
      | (refine wpAny_ite_false (by decide) ?_; wp_walk using wpAny_loadPart' hl)
      | (refine wpAny_ite_true (by simp) ?_; wp_walk using wpAny_loadPart' hl))
    exact ⟨_, rfl, h⟩
/-- (x,) * k, k from 1 on -/
def rRep1 (K : PySem.W.Frag) : V → V → Hp → VK → Prop := fun x y H Q => ∃ (l : Addr) (k : Int) (v : V), x = .ref l ∧ y = .int k ∧ SqT K H l [v] ∧ 1 ≤ k ∧ k ≤ 1000 ∧ (k = 1 → Q (.ref l) H) ∧ (2 ≤ k → ∀ p, H p = none → Q (.ref p) (upd H p (.tup (List.replicate k.toNat v))))
theorem flat_one {α : Type} (v : α) : ∀ n : Nat, (List.replicate n [v]).flatten = List.replicate n v
  | 0 => rfl
  | n + 1 => by rw [List.replicate_succ, List.replicate_succ, List.flatten_cons, flat_one v n]; rfl
section
variable {X : Cx}
theorem op_rep1 : OpR X (binaryOp .Mult) (rRep1 X.K) := by
  intro pins s σ H x y v u Q I rx ry h
  obtain ⟨l, k, e, rfl, rfl, hT, h1, h2, q1, q2⟩ := h
  by_cases hk : k = 1
  · subst hk
    cases rx
    obtain ⟨t, rfl⟩ := ry
    obtain ⟨its, r, ⟨⟨cls, dd, data, sl⟩, ho, hc, n, hd⟩, hs⟩ := I.tuple hT
    simp only at hc hd
    subst hc hd
    exact wpAny_binaryOp_repeat_ref (T := "tuple") (U := "int") (by decide) ⟨_, ho, rfl⟩ (fun s' => typeIs_int s' 1 t) noFill_tuple_mul F.fills_int_mul F.slot_int_rmul repeat_tuple F.slot_int_index.lookup
      (call_meets F.slot_int_rmul (typeIs_int s 1 t) F.entry_int_rmul (F.args_int_rmul_2 _ _) (int_rmul_tuple 1 t l its.toArray n dd sl)
        ⟨ho, rfl, ⟨_, ho, rfl⟩, call_meets F.slot_tuple_mul ⟨_, ho, rfl⟩ F.entry_tuple_mul (F.args_tuple_mul_2 _ _) (tuple_once l its.toArray n dd sl t) ⟨ho, ⟨.ref l, H, I, rfl, q1 rfl⟩⟩⟩)
  · refine op_repT pins s σ H _ _ v u Q I rx ry ⟨l, k, [e], rfl, rfl, hT, by simp, by omega, h2, by simp, fun p hp => ?_⟩
    rw [flat_one]
    exact q2 (by omega) p hp
end
end K31

/-! K31B: the text by places; heaps and what stands in them. -/
namespace K31
open PySem PySem.Spec PyProof.Rows L2
def top (i : Nat) : Stmt := PySem.Challenge.pw_cutorall_k31_least_over_helpers.main.body.getD i (.Pass ⟨0, 0, 0, 0⟩)
abbrev tBelow : Stmt := top 4
abbrev tRising : Stmt := top 7
abbrev tMember : Stmt := top 8
abbrev tIsSum : Stmt := top 9
abbrev tAInit : Stmt := inClass (top 11) 0
abbrev tAAdd : Stmt := inClass (top 11) 1
abbrev tATold : Stmt := inClass (top 11) 2
abbrev tTriple : Stmt := top 12
abbrev tPaired : Stmt := top 13
abbrev tDraw : Stmt := top 15
abbrev tState : Stmt := top 16
abbrev tPick : Stmt := top 17
abbrev tAmount : Stmt := top 18
abbrev tDrawn : Stmt := top 19
abbrev tMore : Stmt := top 20
abbrev tLSum : Stmt := top 21
abbrev tWorth : Stmt := top 22
abbrev tRows : Stmt := top 23
abbrev tBent : Stmt := top 24
abbrev tByRows : Stmt := top 25
abbrev tLIsSum : Stmt := top 26
abbrev tLaw : Stmt := top 27
/-! ### heaps -/
/-- all but one object as it was -/
def But (a : Addr) (H H' : Hp) : Prop := ∀ b o, H b = some o → b ≠ a → H' b = some o
/-- the tuples as they were -/
def Tups (H H' : Hp) : Prop := ∀ b xs, H b = some (.tup xs) → H' b = some (.tup xs)
section
variable {K : PySem.W.Frag} {H H1 H2 H' : Hp} {a b p : Addr} {o : HO} {xs ys : List V}
theorem But.refl : But a H H := fun _ _ e _ => e
theorem But.trans (x : But a H H1) (y : But a H1 H2) : But a H H2 := fun c o e n => y c o (x c o e n) n
theorem But.of (x : Same H H') : But a H H' := fun c o e _ => x c o e
theorem But.set (x : But a H H') : But a H (upd H' a o) := fun c u e n => by rw [upd_ne n]; exact x c u e n
theorem But.new (x : But a H H') (h : H' p = none) : But a H (upd H' p o) := fun c u e n => by
  have q := x c u e n
  rw [upd_ne (ne_of_none q h)]; exact q
theorem same_new (x : Same H H') (h : H' p = none) : Same H (upd H' p o) := fun c u e => by
  have q := x c u e
  rw [upd_ne (ne_of_none q h)]; exact q
/-- an object that was not there ahead is set -/
theorem But.fresh (x : But a H H') (h : H p = none) : But a H (upd H' p o) := fun c u e n => by
  rw [upd_ne (ne_of_none e h)]; exact x c u e n
/-- a fresh object set: what was there ahead of it stands -/
theorem same_set (x : Same H H') (h : H p = none) : Same H (upd H' p o) := fun c u e => by
  rw [upd_ne (ne_of_none e h)]; exact x c u e
theorem But.tups (x : But a H H') (h : ∀ ys, H a ≠ some (.tup ys)) : Tups H H' := fun c ys e => x c _ e fun z => h ys (by rw [← z]; exact e)
theorem tups_of (x : Same H H') : Tups H H' := fun c ys e => x c _ e
theorem Tups.trans (x : Tups H H1) (y : Tups H1 H2) : Tups H H2 := fun c ys e => y c ys (x c ys e)
theorem lst_no (h : H a = some (.lst xs)) : ∀ ys, H a ≠ some (.tup ys) := fun ys e => by rw [h] at e; cases e
theorem dT_no {kvs : List (List L2.Key × V)} (h : H a = some (.dT kvs)) : ∀ ys, H a ≠ some (.tup ys) := fun ys e => by rw [h] at e; cases e
theorem But.seq (x : But a H H') (n : b ≠ a) (h : SqL K H b xs) : SqL K H' b xs := by
  rcases h with (h | ⟨o, h⟩) | h
  · exact .inl (.inl (x _ _ h n))
  · exact .inl (.inr ⟨o, x _ _ h n⟩)
  · exact .inr h
theorem TupAt.mono {ns : List Int} (x : Tups H H') (h : TupAt H a ns) : TupAt H' a ns := x _ _ h
theorem MemAt.mono {m : Mem} (x : Tups H H') (h : MemAt H a m) : MemAt H' a m := by
  obtain ⟨c, h1, h2⟩ := h
  exact ⟨c, x _ _ h1, x _ _ h2⟩
/-- a sum at a: its members' places with what they say -/
structure ToldAt (H : Hp) (a : Addr) (zs : List (Addr × Mem)) : Prop where
  at' : H a = some (.tup (zs.map fun z => V.ref z.1))
  mem : ∀ z ∈ zs, MemAt H z.1 z.2
theorem ToldAt.mono {zs : List (Addr × Mem)} (x : Tups H H') (h : ToldAt H a zs) : ToldAt H' a zs := ⟨x _ _ h.at', fun z m => (h.mem z m).mono x⟩
/-- rows at a -/
structure RowsAt (H : Hp) (a : Addr) (zs : List (Addr × List Int)) : Prop where
  at' : H a = some (.lst (zs.map fun z => V.ref z.1))
  mem : ∀ z ∈ zs, TupAt H z.1 z.2
/-- the state of the draws -/
def StAt (n : Nat) (H : Hp) (a : Addr) : Prop := ∃ i b c d : Int, H a = some (.lst [.int i, .int b, .int c, .int d]) ∧ 0 ≤ i ∧ i ≤ n
theorem StAt.no {n : Nat} (h : StAt n H a) : ∀ ys, H a ≠ some (.tup ys) := by
  obtain ⟨i, b, c, d, h, _⟩ := h
  exact lst_no h
/-- script and state as every draw wants them -/
structure Drw (K : PySem.W.Frag) (H : Hp) (sc st : Addr) (ns : List Int) : Prop where
  scr : (Rd H sc (.lst (ns.map V.int)) ∧ sc ≠ st) ∨ ∀ G : Hp, SqL K G sc (ns.map V.int)
  few : ns.length ≤ 63
  sta : StAt ns.length H st
section
variable {sc st : Addr} {ns : List Int}
theorem Drw.sq (h : Drw K H sc st ns) : SqL K H sc (ns.map V.int) := h.scr.elim (fun z => .inl z.1) fun z => z H
theorem Drw.sqb (h : Drw K H sc st ns) (x : But st H H') : SqL K H' sc (ns.map V.int) := h.scr.elim (fun z => x.seq z.2 (.inl z.1)) fun z => z H'
theorem Drw.next (h : Drw K H sc st ns) (x : But st H H') (y : StAt ns.length H' st) : Drw K H' sc st ns :=
  ⟨h.scr.elim (fun z => .inl ⟨z.1.elim (fun q => .inl (x _ _ q z.2)) fun ⟨o, q⟩ => .inr ⟨o, x _ _ q z.2⟩, z.2⟩) .inr, h.few, y⟩
theorem Drw.tups (h : Drw K H sc st ns) (x : But st H H') : Tups H H' := x.tups h.sta.no
theorem StAt.same {n : Nat} (h : StAt n H a) (x : Same H H') : StAt n H' a := by
  obtain ⟨i, b, c, d, e, r⟩ := h
  exact ⟨i, b, c, d, x _ _ e, r⟩
theorem Drw.same (h : Drw K H sc st ns) (x : Same H H') : Drw K H' sc st ns := h.next (But.of x) (h.sta.same x)
theorem StAt.but {n : Nat} {c : Addr} (h : StAt n H a) (x : But c H H') (ne : a ≠ c) : StAt n H' a := by
  obtain ⟨i, b, c, d, e, r⟩ := h
  exact ⟨i, b, c, d, x _ _ e ne, r⟩
theorem StAt.upd {n : Nat} (h : StAt n H a) (ne : a ≠ p) : StAt n (L2.upd H p o) a := by
  obtain ⟨i, b, c, d, e, r⟩ := h
  exact ⟨i, b, c, d, by rw [upd_ne ne]; exact e, r⟩
theorem StAt.ne {n : Nat} (h : StAt n H a) (hp : H p = none) : a ≠ p := by
  obtain ⟨i, b, c, d, e, r⟩ := h
  exact ne_of_none e hp
end
/-- reading an item -/
theorem rd_lst {i : Int} {v : V} {Q : VK} (h : H a = some (.lst xs)) (e : atI xs i = some v) (q : Q v H) : rIxL K (.ref a) (.int i) H Q := ⟨a, xs, i, v, rfl, rfl, .inl (.inl h), e, q⟩
theorem rd_sq {i : Int} {v : V} {Q : VK} (h : SqL K H a xs) (e : atI xs i = some v) (q : Q v H) : rIxL K (.ref a) (.int i) H Q := ⟨a, xs, i, v, rfl, rfl, h, e, q⟩
theorem rd_tup {i : Int} {v : V} {Q : VK} (h : H a = some (.tup xs)) (e : atI xs i = some v) (q : Q v H) : rIxT K (.ref a) (.int i) H Q := ⟨a, xs, i, v, rfl, rfl, .inl (.inl h), e, q⟩
theorem set_lst {i : Int} {j : Nat} {v : V} {Q : Hp → Prop} (h : H a = some (.lst xs)) (e : ixN xs.length i = some j) (q : Q (upd H a (.lst (xs.set j v)))) : rSetL (.ref a) (.int i) v H Q := ⟨a, xs, i, j, rfl, rfl, h, e, q⟩
theorem sql {xs : List V} (h : H a = some (.lst xs)) : SqL K H a xs := .inl (.inl h)
theorem sqt {xs : List V} (h : H a = some (.tup xs)) : SqT K H a xs := .inl (.inl h)
end
/-! ### // and % -/
theorem fmod_in {x m : Int} (h : 0 < m) : 0 ≤ x.fmod m ∧ x.fmod m < m := by
  rw [Int.fmod_eq_emod_of_nonneg _ (by omega)]
  exact ⟨Int.emod_nonneg _ (by omega), Int.emod_lt_of_pos _ h⟩
theorem at_map {ns : List Int} {i : Int} (h0 : 0 ≤ i) (h : i < ns.length) : atI (ns.map V.int) i = some (.int (ns.getD i.toNat 0)) := by
  have e : ((i.toNat : Nat) : Int) = i := by omega
  have q : (ns.map V.int)[i.toNat]? = some (.int (ns.getD i.toNat 0)) := by
    rw [List.getElem?_map, List.getD_eq_getElem?_getD, List.getElem?_eq_getElem (by omega)]
    rfl
  have := atI_nat q
  rw [e] at this
  exact this
end K31

/-! K31W1: the draws. -/
namespace K31
open PySem PySem.Spec PyProof.Rows L2
/-- which built-in names the module leaves alone -/
structure Bare (mg : Str → Option Value) : Prop where
  int : mg "int" = none
  len : mg "len" = none
  range : mg "range" = none
  abs : mg "abs" = none
section
variable {P : Program} {w : World} {K : PySem.W.Frag} {mg : Str → Option Value} {base : Heap}
def spDraw (K : PySem.W.Frag) : Sp := fun vs H Q _ => ∃ (sc st : Addr) (ns : List Int) (m : Int), vs = [.ref sc, .ref st, .int m] ∧ Drw K H sc st ns ∧ 0 < m ∧ m < 1000000 ∧
  ∀ (r : Int) (H' : Hp), 0 ≤ r → r < m → But st H H' → StAt ns.length H' st → Q (.int r) H'
theorem scDraw : FnScope ["_law_script", "_law_state_here", "_law_many", "_law_found", "_law_k", "_law_rest", "_law_base", "_law_mixed"] ["_law_script", "_law_state_here", "_law_many"] (defScope tDraw) := ⟨rfl, rfl, rfl, by decide +kernel, rfl, by decide +kernel, by decide +kernel⟩
theorem ok_draw {f : Addr} {fd : FuncData} {k : Nat} (F : Fun K "_law_draw" "_law_draw" tDraw f fd) (B : Bare mg) : FnOk P w K mg base CX0 (k + 1) f fd ["_law_script", "_law_state_here", "_law_many"] (spDraw K) := by
  refine F.ok scDraw (fun vs H Q E h => ?_) (fun cdv A outer s H vs Q E hr h => ?_)
  · obtain ⟨sc, st, ns, m, rfl, _⟩ := h
    rfl
  · obtain ⟨sc, st, ns, m, rfl, D, m0, m1, k⟩ := h
    obtain ⟨i, b, c, d, hst, i0, i1⟩ := D.sta
    refine ⟨_, pss_cons (ps_if (pt_cmpR op_gt (pe_ix ix_list (pv 1) pe_int (fun _ _ => rfl)) pe_int (nomark _))
        (pss_cons (ps_set (i := 3) scDraw.nd rfl (Or.inl rfl) (pe_op op_modN (pe_callTy call_int1 (by rfl) B.int (by decide +kernel) (pa_cons (pe_ix ix_list (pv 1) pe_int (fun _ _ => rfl)) pa_nil)) (pv 2)))
        (pss_cons (ps_asg (pe_op op_fdivN (pe_ix ix_list (pv 1) pe_int (fun _ _ => rfl)) (pv 2)) (pg_sub (pv 1) pe_int set_list))
        (pss_one (ps_ret (pv 3))))) pss_nil)
      (pss_cons (ps_for PassesOwn.never rfl (pi_range2 (by rfl) B.range (pa_cons (pe_ix ix_list (pv 1) pe_int (fun _ _ => rfl)) (pa_cons (pe_callB call_len_seq (by rfl) B.len PySem.boot_len (pa_cons (pv 0) pa_nil)) pa_nil))) (pg_name (i := 4) scDraw.nd rfl (Or.inl rfl))
        (pss_cons (ps_asg (pe_op op_add (pv 4) pe_int) (pg_sub (pv 1) pe_int set_list))
        (pss_one (ps_if (PW.pt (pw_or (pt_cmpR op_ge (pe_ix ix_list (pv 0) (pv 4) (fun _ _ => rfl)) (pe_op op_pow pe_int pe_int) (nomark _)) (pw_or1 (pt_cmpR op_le (pe_ix ix_list (pv 0) (pv 4) (fun _ _ => rfl)) (pe_un un_neg (pe_op op_pow pe_int pe_int)) (nomark _)))))
          (pss_cons (ps_set (i := 5) scDraw.nd rfl (Or.inl rfl) (pe_callB call_abs (by rfl) B.abs (by decide +kernel) (pa_cons (pe_ix ix_list (pv 0) (pv 4) (fun _ _ => rfl)) pa_nil)))
          (pss_cons (ps_asg (pe_op op_fdivN (pv 5) (pv 2)) (pg_sub (pv 1) pe_int set_list))
          (pss_one (ps_ret (pe_op op_modN (pe_callTy call_int1 (by rfl) B.int (by decide +kernel) (pa_cons (pv 5) pa_nil)) (pv 2)))))) pss_nil))))
      (pss_cons (ps_asg (pe_op op_add (pe_ix ix_list (pv 1) pe_int (fun _ _ => rfl)) pe_int) (pg_sub (pv 1) pe_int set_list))
      (pss_cons (ps_set (i := 6) scDraw.nd rfl (Or.inl rfl) (pe_ifExp (pt_cmpR op_gt (pe_callB call_len_seq (by rfl) B.len PySem.boot_len (pa_cons (pv 0) pa_nil)) pe_int (nomark _))
          (pe_ix ix_list (pv 0) (pe_op op_modN (pe_callTy call_int1 (by rfl) B.int (by decide +kernel) (pa_cons (pe_ix ix_list (pv 1) pe_int (fun _ _ => rfl)) pa_nil)) (pe_callB call_len_seq (by rfl) B.len PySem.boot_len (pa_cons (pv 0) pa_nil))) (fun _ _ => rfl)) pe_int))
      (pss_cons (ps_asg (pe_op op_modN (pe_callTy call_int1 (by rfl) B.int (by decide +kernel) (pa_cons (pe_op op_add (pe_op op_add (pe_op op_add (pe_op op_mul (pe_ix ix_list (pv 1) pe_int (fun _ _ => rfl)) pe_int) (pe_op op_mul (pv 6) pe_int)) (pe_op op_mul (pe_ix ix_list (pv 1) pe_int (fun _ _ => rfl)) pe_int)) pe_int) pa_nil)) pe_int) (pg_sub (pv 1) pe_int set_list))
      (pss_cons (ps_set (i := 7) scDraw.nd rfl (Or.inl rfl) (pe_op op_modN (pe_callTy call_int1 (by rfl) B.int (by decide +kernel) (pa_cons (pe_op op_add (pe_op op_add (pe_op op_mul (pe_ix ix_list (pv 1) pe_int (fun _ _ => rfl)) (pe_ix ix_list (pv 1) pe_int (fun _ _ => rfl))) (pe_op op_mul (pe_ix ix_list (pv 1) pe_int (fun _ _ => rfl)) pe_int)) pe_int) pa_nil)) pe_int))
      (pss_one (ps_ret (pe_op op_modN (pe_callTy call_int1 (by rfl) B.int (by decide +kernel) (pa_cons (pe_op op_fdivN (pv 7) pe_int) pa_nil)) (pv 2))))))))), ?_⟩
    -- if state[1] > 1
    refine ⟨_, rfl, st, _, _, _, rfl, rfl, sql hst, rfl, _, _, rfl, rfl, _, rfl, ?_⟩
    refine ite2 (fun _ => ?_) fun _ => ?_
    · refine ⟨_, rfl, st, _, _, _, rfl, rfl, sql hst, rfl, .inl ⟨_, rfl, _, rfl, _, _, rfl, rfl, by omega, ?_⟩⟩
      refine ⟨_, rfl, st, _, _, _, rfl, rfl, sql hst, rfl, _, rfl, _, _, rfl, rfl, ⟨by omega, by omega⟩, _, rfl, st, _, _, _, rfl, rfl, hst, rfl, ?_⟩
      exact ⟨_, rfl, k _ _ (fmod_in m0).1 (fmod_in m0).2 But.refl.set ⟨_, _, _, _, upd_same, i0, i1⟩⟩
    -- for k in range(state[0], len(script))
    refine ⟨_, rfl, st, _, _, _, rfl, rfl, sql hst, rfl, _, rfl, _, _, rfl, .inl D.sq, i, _, rfl, ?_, ?_⟩
    · have := D.few
      rw [List.length_map]
      omega
    rw [List.length_map]
    refine for_range (lo := i) (n := ((ns.length : Int) - i).toNat) (fun j σ H1 => ∃ y3 y4 y5 y6 y7, σ = [some (.ref sc), some (.ref st), some (.int m), y3, y4, y5, y6, y7] ∧ But st H H1 ∧ ∃ i' b' c' d' : Int, H1 st = some (.lst [.int i', .int b', .int c', .int d']) ∧ 0 ≤ i' ∧ i' ≤ ns.length)
      ⟨none, none, none, none, none, rfl, But.refl, i, b, c, d, hst, i0, i1⟩ (fun j σ H1 hj hp => ?_) fun σ H1 hp => ?_
    · obtain ⟨y3, y4, y5, y6, y7, rfl, bt, i', b', c', d', h1, j0, j1⟩ := hp
      have scr1 := D.sqb bt
      have lk : i + (j : Int) < ns.length := by omega
      refine ⟨_, rfl, _, _, rfl, rfl, _, rfl, st, _, _, _, rfl, rfl, h1, rfl, ?_⟩
      have h2 : (upd H1 st (.lst [.int (i + j + 1), .int b', .int c', .int d'])) st = some (.lst [.int (i + j + 1), .int b', .int c', .int d']) := upd_same
      have bt2 := bt.set (o := .lst [.int (i + j + 1), .int b', .int c', .int d'])
      have scr2 := D.sqb bt2
      have at2 := at_map (ns := ns) (i := i + j) (by omega) lk
      generalize ns.getD (i + (j : Int)).toNat 0 = x at at2
      -- script[k] >= 10 ** 18 or script[k] <= -10 ** 18
      refine ⟨_, rfl, _, rfl, sc, _, _, _, rfl, rfl, scr2, at2, _, _, rfl, rfl, ⟨by decide, by decide, by decide⟩, _, _, rfl, rfl, _, rfl, ?_⟩
      refine ite2 (fun _ => ?_) fun _ => ?_
      · refine iteT ⟨_, rfl, _, rfl, sc, _, _, _, rfl, rfl, scr2, at2, _, rfl, ?_⟩
        refine ⟨_, rfl, _, rfl, _, _, rfl, rfl, ⟨by omega, by omega⟩, _, rfl, st, _, _, _, rfl, rfl, h2, rfl, ?_⟩
        exact ⟨_, rfl, .inl ⟨_, rfl, _, rfl, _, _, rfl, rfl, by omega, k _ _ (fmod_in m0).1 (fmod_in m0).2 bt2.set ⟨_, _, _, _, upd_same, by omega, by omega⟩⟩⟩
      · refine ⟨_, rfl, _, rfl, sc, _, _, _, rfl, rfl, scr2, at2, _, _, rfl, rfl, ⟨by decide, by decide, by decide⟩, _, rfl, _, _, rfl, rfl, _, rfl, ?_⟩
        refine ite2 (fun _ => ?_) fun _ => ?_
        · refine ⟨_, rfl, _, rfl, sc, _, _, _, rfl, rfl, scr2, at2, _, rfl, ?_⟩
          refine ⟨_, rfl, _, rfl, _, _, rfl, rfl, ⟨by omega, by omega⟩, _, rfl, st, _, _, _, rfl, rfl, h2, rfl, ?_⟩
          exact ⟨_, rfl, .inl ⟨_, rfl, _, rfl, _, _, rfl, rfl, by omega, k _ _ (fmod_in m0).1 (fmod_in m0).2 bt2.set ⟨_, _, _, _, upd_same, by omega, by omega⟩⟩⟩
        · exact ⟨_, _, _, _, _, rfl, bt2, _, _, _, _, h2, by omega, by omega⟩
    · obtain ⟨y3, y4, y5, y6, y7, rfl, bt, i', b', c', d', h1, j0, j1⟩ := hp
      -- state[2] = state[2] + 1
      refine ⟨_, rfl, st, _, _, _, rfl, rfl, sql h1, rfl, _, _, rfl, rfl, _, rfl, st, _, _, _, rfl, rfl, h1, rfl, ?_⟩
      have h2 : (upd H1 st (.lst [.int i', .int b', .int (c' + 1), .int d'])) st = some (.lst [.int i', .int b', .int (c' + 1), .int d']) := upd_same
      have bt2 := bt.set (o := .lst [.int i', .int b', .int (c' + 1), .int d'])
      have scr2 := D.sqb bt2
      -- base = ..
      refine ⟨_, rfl, _, _, rfl, .inl scr2, _, _, rfl, rfl, _, rfl, ?_⟩
      refine ite2 (fun hl => ?_) fun _ => ?_
      · have hl' : (0 : Int) < ((ns.map V.int).length : Nat) := by simpa using hl
        have ix := fmod_in (x := c' + 1) hl'
        have at2 := at_map (ns := ns) ix.1 (by simpa using ix.2)
        generalize ns.getD ((c' + 1).fmod ((ns.map V.int).length : Nat)).toNat 0 = x at at2
        refine ⟨_, rfl, _, rfl, st, _, _, _, rfl, rfl, sql h2, rfl, .inl ⟨_, rfl, _, rfl, _, _, rfl, .inl scr2, _, _, rfl, rfl, by omega, sc, _, _, _, rfl, rfl, scr2, at2, ?_⟩⟩
        -- state[3] = ..
        refine ⟨_, rfl, st, _, _, _, rfl, rfl, sql h2, rfl, _, _, rfl, rfl, .inr ⟨by decide, by decide⟩, _, rfl, _, _, rfl, rfl, .inr ⟨by decide, by decide⟩, _, _, rfl, rfl, _, rfl, st, _, _, _, rfl, rfl, sql h2, rfl, _, _, rfl, rfl, .inr ⟨by decide, by decide⟩, _, _, rfl, rfl, _, _, rfl, rfl, .inl ⟨_, rfl, _, _, rfl, rfl, (by show (2147483647 : Int) ≠ 0; decide), _, rfl, st, _, _, _, rfl, rfl, h2, rfl, ?_⟩⟩
        have d3 := fmod_in (x := d' * 48271 + x * 16807 + (c' + 1) * 69621 + 11) (m := 2147483647) (by decide)
        have h3 : (upd (upd H1 st (.lst [.int i', .int b', .int (c' + 1), .int d'])) st (.lst [.int i', .int b', .int (c' + 1), .int ((d' * 48271 + x * 16807 + (c' + 1) * 69621 + 11).fmod 2147483647)])) st = some (.lst [.int i', .int b', .int (c' + 1), .int ((d' * 48271 + x * 16807 + (c' + 1) * 69621 + 11).fmod 2147483647)]) := upd_same
        have bt3 := bt2.set (o := .lst [.int i', .int b', .int (c' + 1), .int ((d' * 48271 + x * 16807 + (c' + 1) * 69621 + 11).fmod 2147483647)])
        -- mixed = ..
        refine ⟨_, rfl, st, _, _, _, rfl, rfl, sql h3, rfl, _, rfl, st, _, _, _, rfl, rfl, sql h3, rfl, _, _, rfl, rfl, .inl ⟨by omega, by omega⟩, _, rfl, st, _, _, _, rfl, rfl, sql h3, rfl, _, _, rfl, rfl, .inr ⟨by decide, by decide⟩, _, _, rfl, rfl, _, _, rfl, rfl, .inl ⟨_, rfl, _, _, rfl, rfl, (by show (2147483399 : Int) ≠ 0; decide), ?_⟩⟩
        -- return int(mixed // 7) % many
        exact ⟨_, rfl, _, _, rfl, rfl, ⟨by decide, by decide⟩, .inl ⟨_, rfl, _, rfl, _, _, rfl, rfl, by omega, k _ _ (fmod_in m0).1 (fmod_in m0).2 bt3 ⟨_, _, _, _, h3, j0, j1⟩⟩⟩
      · skip
        -- state[3] = ..
        refine ⟨_, rfl, st, _, _, _, rfl, rfl, sql h2, rfl, _, _, rfl, rfl, .inr ⟨by decide, by decide⟩, _, rfl, _, _, rfl, rfl, .inr ⟨by decide, by decide⟩, _, _, rfl, rfl, _, rfl, st, _, _, _, rfl, rfl, sql h2, rfl, _, _, rfl, rfl, .inr ⟨by decide, by decide⟩, _, _, rfl, rfl, _, _, rfl, rfl, .inl ⟨_, rfl, _, _, rfl, rfl, (by show (2147483647 : Int) ≠ 0; decide), _, rfl, st, _, _, _, rfl, rfl, h2, rfl, ?_⟩⟩
        have d3 := fmod_in (x := d' * 48271 + 5 * 16807 + (c' + 1) * 69621 + 11) (m := 2147483647) (by decide)
        have h3 : (upd (upd H1 st (.lst [.int i', .int b', .int (c' + 1), .int d'])) st (.lst [.int i', .int b', .int (c' + 1), .int ((d' * 48271 + 5 * 16807 + (c' + 1) * 69621 + 11).fmod 2147483647)])) st = some (.lst [.int i', .int b', .int (c' + 1), .int ((d' * 48271 + 5 * 16807 + (c' + 1) * 69621 + 11).fmod 2147483647)]) := upd_same
        have bt3 := bt2.set (o := .lst [.int i', .int b', .int (c' + 1), .int ((d' * 48271 + 5 * 16807 + (c' + 1) * 69621 + 11).fmod 2147483647)])
        -- mixed = ..
        refine ⟨_, rfl, st, _, _, _, rfl, rfl, sql h3, rfl, _, rfl, st, _, _, _, rfl, rfl, sql h3, rfl, _, _, rfl, rfl, .inl ⟨by omega, by omega⟩, _, rfl, st, _, _, _, rfl, rfl, sql h3, rfl, _, _, rfl, rfl, .inr ⟨by decide, by decide⟩, _, _, rfl, rfl, _, _, rfl, rfl, .inl ⟨_, rfl, _, _, rfl, rfl, (by show (2147483399 : Int) ≠ 0; decide), ?_⟩⟩
        -- return int(mixed // 7) % many
        exact ⟨_, rfl, _, _, rfl, rfl, ⟨by decide, by decide⟩, .inl ⟨_, rfl, _, rfl, _, _, rfl, rfl, by omega, k _ _ (fmod_in m0).1 (fmod_in m0).2 bt3 ⟨_, _, _, _, h3, j0, j1⟩⟩⟩
end
end K31

/-! K31W2: the state of the draws, a pick, an amount. -/
namespace K31
open PySem PySem.Spec PyProof.Rows L2
section
variable {P : Program} {w : World} {K : PySem.W.Frag} {mg : Str → Option Value} {base : Heap}
def spState (K : PySem.W.Frag) : Sp := fun vs H Q _ => ∃ (sc : Addr) (ns : List Int), vs = [.ref sc] ∧ SqL K H sc (ns.map V.int) ∧ ns.length ≤ 63 ∧
  ∀ (st : Addr) (H' : Hp), H st = none → Same H H' → Drw K H' sc st ns → Q (.ref st) H'
theorem scState : FnScope ["_law_script", "_law_state_here", "_law_k"] ["_law_script"] (defScope tState) := ⟨rfl, rfl, rfl, by decide +kernel, rfl, by decide +kernel, by decide +kernel⟩
theorem ok_state {f : Addr} {fd : FuncData} {k : Nat} (F : Fun K "_law_state" "_law_state" tState f fd) (B : Bare mg) : FnOk P w K mg base CX0 (k + 1) f fd ["_law_script"] (spState K) := by
  refine F.ok scState (fun vs H Q E h => ?_) (fun cdv A outer s H vs Q E hr h => ?_)
  · obtain ⟨sc, ns, rfl, _⟩ := h
    rfl
  · obtain ⟨sc, ns, rfl, hs, few, q⟩ := h
    refine ⟨_, pss_cons (ps_set (i := 1) scState.nd rfl (Or.inl rfl) (pe_lst (pa_cons pe_int (pa_cons pe_int (pa_cons pe_int (pa_cons (pe_callB call_len_seq (by rfl) B.len PySem.boot_len (pa_cons (pv 0) pa_nil)) pa_nil))))))
      (pss_cons (ps_for PassesOwn.never rfl (pi_range1 rfl B.range (pa_cons (pe_callB call_len_seq (by rfl) B.len PySem.boot_len (pa_cons (pv 0) pa_nil)) pa_nil)) (pg_name (i := 2) scState.nd rfl (Or.inl rfl))
        (pss_one (ps_asg (pe_op op_modN (pe_callTy call_int1 (by rfl) B.int (by decide +kernel) (pa_cons (pe_op op_add (pe_op op_add (pe_op op_mul (pe_ix ix_list (pv 1) pe_int (fun _ _ => rfl)) pe_int) (pe_ix ix_list (pv 0) (pv 2) (fun _ _ => rfl))) (pv 2)) pa_nil)) pe_int) (pg_sub (pv 1) pe_int set_list))))
      (pss_one (ps_ret (pv 1)))), ?_⟩
    refine ⟨_, rfl, _, _, rfl, .inl hs, by show 4 ≤ sizeLine; decide, fun st nst => ?_⟩
    have hsc : (Rd H sc (.lst (ns.map V.int)) ∧ sc ≠ st) ∨ ∀ G : Hp, SqL K G sc (ns.map V.int) := by
      rcases hs with h | h
      · exact .inl ⟨h, h.elim (fun e => ne_of_none e nst) fun ⟨o, e⟩ => ne_of_none e nst⟩
      · exact .inr fun G => .inr h
    have bt0 : But st H (upd H st (.lst [.int 0, .int 0, .int 0, .int (ns.map V.int).length])) := But.refl.set
    have sq : ∀ H1, But st H H1 → SqL K H1 sc (ns.map V.int) := fun H1 x => hsc.elim (fun z => x.seq z.2 (.inl z.1)) fun z => z H1
    refine ⟨_, rfl, _, _, rfl, .inl (sq _ bt0), _, rfl, by rw [List.length_map]; omega, by rw [List.length_map]; omega, ?_⟩
    rw [List.length_map]
    refine for_range (lo := 0) (n := ((ns.length : Nat) : Int).toNat) (fun j σ H1 => ∃ y2, σ = [some (.ref sc), some (.ref st), y2] ∧ But st H H1 ∧ ∃ b' c' d' : Int, H1 st = some (.lst [.int 0, .int b', .int c', .int d']))
      ⟨none, rfl, by rw [← List.length_map (f := V.int)]; exact bt0, _, _, _, upd_same⟩ (fun j σ H1 hj hp => ?_) fun σ H1 hp => ?_
    · obtain ⟨y2, rfl, bt, b', c', d', h1⟩ := hp
      have at2 := at_map (ns := ns) (i := 0 + (j : Int)) (by omega) (by omega)
      refine ⟨_, rfl, st, _, _, _, rfl, rfl, sql h1, rfl, _, _, rfl, rfl, .inr ⟨by decide, by decide⟩, _, rfl, _, rfl, sc, _, _, _, rfl, rfl, sq _ bt, at2, _, _, rfl, rfl, _, rfl, _, _, rfl, rfl, .inl ⟨_, rfl, _, _, rfl, rfl, (by show (2147483647 : Int) ≠ 0; decide), _, rfl, st, _, _, _, rfl, rfl, h1, rfl, ?_⟩⟩
      exact ⟨_, rfl, bt.set, _, _, _, upd_same⟩
    · obtain ⟨y2, rfl, bt, b', c', d', h1⟩ := hp
      refine ⟨_, rfl, q st _ nst (fun b o e => bt b o e (ne_of_none e nst)) ⟨?_, few, _, _, _, _, h1, Int.le_refl _, by omega⟩⟩
      exact hsc.elim (fun z => .inl ⟨z.1.elim (fun q => .inl (bt _ _ q z.2)) fun ⟨o, q⟩ => .inr ⟨o, bt _ _ q z.2⟩, z.2⟩) .inr
/-! ### one of a list -/
def spPick (K : PySem.W.Frag) : Sp := fun vs H Q _ => ∃ (sc st th : Addr) (ns : List Int) (xs : List V), vs = [.ref sc, .ref st, .ref th] ∧ Drw K H sc st ns ∧ SqL K H th xs ∧ th ≠ st ∧ 0 < xs.length ∧ xs.length < 1000000 ∧
  ∀ (v : V) (H' : Hp), v ∈ xs → But st H H' → StAt ns.length H' st → Q v H'
theorem scPick : FnScope ["_law_script", "_law_state_here", "_law_things"] ["_law_script", "_law_state_here", "_law_things"] (defScope tPick) := ⟨rfl, rfl, rfl, by decide +kernel, rfl, by decide +kernel, by decide +kernel⟩
theorem ok_pick {f g : Addr} {fd gd : FuncData} (F : Fun K "_law_pick" "_law_pick" tPick f fd) (B : Bare mg) (G : Fun K "_law_draw" "_law_draw" tDraw g gd) (bG : Binds K gd ["_law_script", "_law_state_here", "_law_many"] []) (mG : mg "_law_draw" = some (.ref g)) :
    FnOk P w K mg base CX0 2 f fd ["_law_script", "_law_state_here", "_law_things"] (spPick K) := by
  have GD : FnOk P w K mg base CX0 1 g gd ["_law_script", "_law_state_here", "_law_many"] (spDraw K) := ok_draw G B
  refine F.ok scPick (fun vs H Q E h => ?_) (fun cdv A outer s H vs Q E hr h => ?_)
  · obtain ⟨sc, st, th, ns, xs, rfl, _⟩ := h
    rfl
  · obtain ⟨sc, st, th, ns, xs, rfl, D, hx, ne, l0, l1, q⟩ := h
    refine ⟨_, pss_one (ps_ret (pe_ix ix_list (pv 2) (pe_call GD hr (by rfl) mG G.kp bG .nil pass0 (pa_cons (pv 0) (pa_cons (pv 1) (pa_cons (pe_callB call_len_seq (by rfl) B.len PySem.boot_len (pa_cons (pv 2) pa_nil)) pa_nil)))) (fun _ _ => rfl))), ?_⟩
    refine ⟨_, rfl, _, rfl, _, rfl, _, rfl, _, _, rfl, .inl hx, sc, st, ns, _, rfl, D, by omega, by omega, fun r H' r0 r1 bt sa => ?_⟩
    have e : ((r.toNat : Nat) : Int) = r := by omega
    have lt : r.toNat < xs.length := by omega
    refine ⟨th, xs, r, xs[r.toNat], rfl, rfl, bt.seq ne hx, at_of e.symm (List.getElem?_eq_getElem lt), q _ _ (List.getElem_mem lt) bt sa⟩
/-! ### an amount -/
def spAmount (K : PySem.W.Frag) : Sp := fun vs H Q _ => ∃ (sc st : Addr) (ns : List Int), vs = [.ref sc, .ref st] ∧ Drw K H sc st ns ∧ ∀ (r : Int) (H' : Hp), But st H H' → StAt ns.length H' st → Q (.int r) H'
theorem scAmount : FnScope ["_law_script", "_law_state_here", "_law_most"] ["_law_script", "_law_state_here"] (defScope tAmount) := ⟨rfl, rfl, rfl, by decide +kernel, rfl, by decide +kernel, by decide +kernel⟩
theorem ok_amount {f g h : Addr} {fd gd hd : FuncData} (F : Fun K "_law_amount" "_law_amount" tAmount f fd) (B : Bare mg) (G : Fun K "_law_draw" "_law_draw" tDraw g gd) (bG : Binds K gd ["_law_script", "_law_state_here", "_law_many"] []) (mG : mg "_law_draw" = some (.ref g))
    (I : Fun K "_law_pick" "_law_pick" tPick h hd) (bI : Binds K hd ["_law_script", "_law_state_here", "_law_things"] []) (mI : mg "_law_pick" = some (.ref h)) :
    FnOk P w K mg base CX0 3 f fd ["_law_script", "_law_state_here"] (spAmount K) := by
  have GD : FnOk P w K mg base CX0 1 g gd ["_law_script", "_law_state_here", "_law_many"] (spDraw K) := ok_draw G B
  have GP : FnOk P w K mg base CX0 2 h hd ["_law_script", "_law_state_here", "_law_things"] (spPick K) := ok_pick I B G bG mG
  refine F.ok scAmount (fun vs H Q E h => ?_) (fun cdv A outer s H vs Q E hr h => ?_)
  · obtain ⟨sc, st, ns, rfl, _⟩ := h
    rfl
  · obtain ⟨sc, st, ns, rfl, D, q⟩ := h
    refine ⟨_, pss_cons (ps_set (i := 2) scAmount.nd rfl (Or.inl rfl) (pe_call GP hr (by rfl) mI I.kp bI .nil pass0 (pa_cons (pv 0) (pa_cons (pv 1) (pa_cons (pe_lst (pa_cons pe_int (pa_cons pe_int (pa_cons pe_int (pa_cons pe_int (pa_cons pe_int (pa_cons pe_int pa_nil))))))) pa_nil)))))
      (pss_one (ps_ret (pe_op op_sub (pe_call GD (hr.mono (by decide)) (by rfl) mG G.kp bG .nil pass0 (pa_cons (pv 0) (pa_cons (pv 1) (pa_cons (pe_op op_add (pe_op op_mul pe_int (pv 2)) pe_int) pa_nil)))) (pv 2)))), ?_⟩
    refine ⟨_, rfl, _, rfl, by show 6 ≤ sizeLine; decide, fun l nl => ?_⟩
    have D1 : Drw K (upd H l (.lst [.int 2, .int 2, .int 2, .int 9, .int 1000, .int 50000])) sc st ns := D.same (same_new (Same.refl H) nl)
    refine ⟨sc, st, l, ns, _, rfl, D1, sql upd_same, (D.sta.ne nl).symm, by decide, by decide, fun v H' hv bt sa => ?_⟩
    obtain ⟨z, rfl, z0, z1⟩ : ∃ z : Int, v = .int z ∧ 0 ≤ z ∧ z ≤ 50000 := by
      simp only [List.mem_cons, List.not_mem_nil, or_false] at hv
      rcases hv with rfl | rfl | rfl | rfl | rfl | rfl <;> exact ⟨_, rfl, by decide, by decide⟩
    refine ⟨_, rfl, _, rfl, _, rfl, _, _, rfl, rfl, .inl ⟨by decide, by decide⟩, _, _, rfl, rfl, sc, st, ns, _, rfl, D1.next bt sa, by show (0 : Int) < 2 * z + 1; omega, by show 2 * z + 1 < 1000000; omega, fun r H2 r0 r1 bt2 sa2 => ?_⟩
    refine ⟨_, rfl, _, _, rfl, rfl, q _ _ ?_ sa2⟩
    exact ((But.refl.new nl).trans bt).trans bt2
end
end K31

/-! K31W3: tables, worths, rows. -/
namespace K31
open PySem PySem.Spec PyProof.Rows L2
/-! ### a table as the layer's dict -/
abbrev enK (k : List Int) : List L2.Key := k.map Sum.inl
def enT (D : List Mem) : List (List L2.Key × V) := D.map fun p => (enK p.1, V.int p.2)
theorem enK_inj {a b : List Int} : enK a = enK b ↔ a = b := by
  constructor
  · intro h
    have := congrArg (List.map fun k : L2.Key => match k with | .inl i => i | .inr _ => 0) h
    unfold enK at this
    rw [List.map_map, List.map_map] at this
    have e : ∀ l : List Int, l.map ((fun k : L2.Key => match k with | .inl i => i | .inr _ => 0) ∘ Sum.inl) = l := fun l => by
      have : l.map ((fun k : L2.Key => match k with | .inl i => i | .inr _ => 0) ∘ Sum.inl) = l.map id := List.map_congr_left fun x _ => rfl
      rw [this, List.map_id]
    rw [e, e] at this
    exact this
  · intro h; rw [h]
theorem enK_V (k : List Int) : (enK k).map kV = k.map V.int := by unfold enK; rw [List.map_map]; rfl
theorem enT_keys (D : List Mem) : (enT D).map (·.1) = (D.map (·.1)).map enK := by unfold enT; rw [List.map_map, List.map_map]; rfl
theorem enT_len (D : List Mem) : (enT D).length = D.length := by unfold enT; rw [List.length_map]
theorem valV_en (k : List Int) : ∀ D : List Mem, valV (enT D) (enK k) = (get D k).map V.int
  | [] => rfl
  | p :: D => by
    show valV ((enK p.1, V.int p.2) :: enT D) (enK k) = _
    by_cases e : p.1 = k
    · rw [valV_pos (p := (enK p.1, V.int p.2)) (enK_inj.mpr e), get_pos e]; rfl
    · rw [valV_neg (p := (enK p.1, V.int p.2)) (fun z => e (enK_inj.mp z)), get_neg e, valV_en k D]
theorem any_en (k : List Int) : ∀ D : List Mem, ((enT D).any fun kv => decide (kv.1 = enK k)) = D.any fun p => decide (p.1 = k)
  | [] => rfl
  | p :: D => by
    show (decide (enK p.1 = enK k) || (enT D).any _) = _
    rw [any_en k D, List.any_cons]
    congr 1
    by_cases e : p.1 = k
    · simp [e]
    · have : ¬ enK p.1 = enK k := fun z => e (enK_inj.mp z)
      simp [e, this]
theorem putK_en (D : List Mem) (k : List Int) (v : Int) : putK (enT D) (enK k) (.int v) = enT (put D k v) := by
  unfold putK put
  rw [any_en]
  split
  · unfold enT
    rw [List.map_map, List.map_map]
    refine List.map_congr_left fun p _ => ?_
    show (if enK p.1 = enK k then (enK p.1, V.int v) else (enK p.1, V.int p.2)) = (enK (if p.1 = k then (p.1, v) else p).1, V.int (if p.1 = k then (p.1, v) else p).2)
    by_cases e : p.1 = k
    · rw [if_pos (enK_inj.mpr e), if_pos e]
    · rw [if_neg (fun z => e (enK_inj.mp z)), if_neg e]
  · unfold enT
    rw [List.map_append]
    rfl
theorem get_en {H : Hp} {d b : Addr} {D : List Mem} {k : List Int} (e : Rd H d (.dT (enT D))) (eb : TupAt H b k) : DGet H d (.ref b) ((get D k).map V.int) :=
  .inr ⟨enT D, enK k, b, e, rfl, by rw [enK_V]; exact eb, (valV_en k D).symm⟩
theorem put_en {H : Hp} {d b : Addr} {D : List Mem} {k : List Int} {v : Int} (e : H d = some (.dT (enT D))) (eb : TupAt H b k) (l : D.length ≤ 1000) : DPut H d (.ref b) (.int v) (upd H d (.dT (enT (put D k v)))) :=
  .inr ⟨enT D, enK k, b, e, rfl, by rw [enK_V]; exact eb, by rw [enT_len]; exact small1000 l, by rw [putK_en]⟩
theorem getD_en (D : List Mem) (k : List Int) : ((get D k).map V.int).getD (V.int 0) = V.int (coef D k) := by
  unfold coef
  cases get D k <;> rfl
section
variable {X : Cx}
/-- t + u, whatever is empty -/
def rCatS : V → V → Hp → VK → Prop := fun x y H Q => ∃ (a b : Addr) (xs ys : List V), x = .ref a ∧ y = .ref b ∧ H a = some (.tup xs) ∧ H b = some (.tup ys) ∧ xs.length + ys.length ≤ 1000 ∧ ∀ (c : Addr) (H' : Hp), Same H H' → H' c = some (.tup (xs ++ ys)) → Q (.ref c) H'
/-- t[lo:hi] -/
def rSlS : V → Option Int → Option Int → Hp → VK → Prop := fun x lo hi H Q => ∃ (a : Addr) (xs : List V), x = .ref a ∧ H a = some (.tup xs) ∧ ∀ (c : Addr) (H' : Hp), Same H H' → H' c = some (.tup (cutV xs lo hi)) → Q (.ref c) H'
theorem op_catS : OpR X (binaryOp .Add) rCatS := by
  intro pins s σ H x y v u Q I rx ry h
  obtain ⟨a, b, xs, ys, rfl, rfl, ha, hb, hl, q⟩ := h
  refine op_catA pins s σ H _ _ v u Q I rx ry ⟨a, b, xs, ys, rfl, rfl, sqt ha, sqt hb, Nat.le_of_lt (small1000 hl), fun e => ?_, fun _ e => ?_, fun _ _ p hp => ?_⟩
  · exact q b H (Same.refl H) (by rw [e]; exact hb)
  · exact q a H (Same.refl H) (by rw [e, List.append_nil]; exact ha)
  · exact q p _ (same_new (Same.refl H) hp) upd_same
theorem sl_tupS : SlR X rSlS := by
  intro pins s σ H x v vl vu lo hi sl Q I rx hs pl pu h
  obtain ⟨a, xs, rfl, ha, q⟩ := h
  refine sl_tupA pins s σ H _ v vl vu lo hi sl Q I rx hs pl pu ⟨a, xs, rfl, sqt ha, fun e => ?_, fun _ p hp => ?_⟩
  · refine q a H (Same.refl H) ?_
    have : cutV xs lo hi = xs := by
      unfold cutV
      rw [e.1, e.2, Nat.sub_zero, List.drop_zero, List.take_length]
    rw [this]; exact ha
  · exact q p _ (same_new (Same.refl H) hp) upd_same
end
section
variable {P : Program} {w : World} {K : PySem.W.Frag} {mg : Str → Option Value} {base : Heap}
/-! ### found[letters] = found.get(letters, 0) + number -/
def spMore : Sp := fun vs H Q _ => ∃ (d b : Addr) (D : List Mem) (ls : List Int) (n : Int), vs = [.ref d, .ref b, .int n] ∧ H d = some (.dT (enT D)) ∧ TupAt H b ls ∧ D.length ≤ 1000 ∧ Q .non (upd H d (.dT (enT (addK D (ls, n)))))
theorem scMore : FnScope ["_law_found", "_law_letters", "_law_number"] ["_law_found", "_law_letters", "_law_number"] (defScope tMore) := ⟨rfl, rfl, rfl, by decide +kernel, rfl, by decide +kernel, by decide +kernel⟩
theorem ok_more {f : Addr} {fd : FuncData} {k : Nat} (F : Fun K "_law_more" "_law_more" tMore f fd) : FnOk P w K mg base CX0 (k + 1) f fd ["_law_found", "_law_letters", "_law_number"] spMore := by
  refine F.ok scMore (fun vs H Q E h => ?_) (fun cdv A outer s H vs Q E hr h => ?_)
  · obtain ⟨d, b, D, ls, n, rfl, _⟩ := h
    rfl
  · obtain ⟨d, b, D, ls, n, rfl, hd, hb, hl, q⟩ := h
    have hu := hu_of hr
    refine ⟨_, pss_one (ps_dput hu (pv 0) (pv 1) (pe_op op_add (pe_dget2 hu (pv 0) (pv 1) pe_int ⟨rfl, rfl, rfl, rfl⟩) (pv 2)) rfl), ?_⟩
    refine ⟨_, rfl, d, rfl, .inr ⟨_, .inl hd⟩, _, rfl, _, get_en (.inl hd) hb, _, rfl, coef D ls, n, getD_en D ls, rfl, _, rfl, _, rfl, d, _, rfl, put_en hd hb hl, q⟩
/-! ### worth of a sum at a row -/
def spWorth : Sp := fun vs H Q _ => ∃ (t r : Addr) (zs : List (Addr × Mem)) (row : List Int), vs = [.ref t, .ref r] ∧ ToldAt H t zs ∧ TupAt H r row ∧ Row01 row ∧ (∀ z ∈ zs, ∀ l ∈ z.2.1, 0 ≤ l ∧ l < (row.length : Int)) ∧
  Q (.int (worth (zs.map (·.2)) (at0 row))) H
theorem scWorth : FnScope ["_law_told", "_law_row", "_law_found", "_law_letters", "_law_number", "_law_yes", "_law_letter"] ["_law_told", "_law_row"] (defScope tWorth) := ⟨rfl, rfl, rfl, by decide +kernel, rfl, by decide +kernel, by decide +kernel⟩
theorem ok_worth {f : Addr} {fd : FuncData} {k : Nat} (F : Fun K "_law_worth" "_law_worth" tWorth f fd) : FnOk P w K mg base CX0 (k + 1) f fd ["_law_told", "_law_row"] spWorth := by
  refine F.ok scWorth (fun vs H Q E h => ?_) (fun cdv A outer s H vs Q E hr h => ?_)
  · obtain ⟨t, r, zs, row, rfl, _⟩ := h
    rfl
  · obtain ⟨t, r, zs, row, rfl, T, hr2, r01, rng, q⟩ := h
    refine ⟨_, pss_cons (ps_set (i := 2) scWorth.nd rfl (Or.inl rfl) pe_int)
      (pss_cons (ps_for PassesOwn.never rfl (pi_tup (pv 0)) (pg_tup rfl (pgs_cons (pg_name (i := 3) scWorth.nd rfl (Or.inl rfl)) (pgs_cons (pg_name (i := 4) scWorth.nd rfl (Or.inl rfl)) pgs_nil)))
        (pss_cons (ps_set (i := 5) scWorth.nd rfl (Or.inl rfl) (pv 4))
        (pss_cons (ps_for PassesOwn.never rfl (pi_tup (pv 3)) (pg_name (i := 6) scWorth.nd rfl (Or.inl rfl))
          (pss_one (ps_set (i := 5) scWorth.nd rfl (Or.inl rfl) (pe_op op_mul (pv 5) (pe_ix ix_tup (pv 1) (pv 6) (fun _ _ => rfl))))))
        (pss_one (ps_set (i := 2) scWorth.nd rfl (Or.inl rfl) (pe_op op_add (pv 2) (pv 5)))))))
      (pss_one (ps_ret (pv 2)))), ?_⟩
    refine ⟨_, rfl, t, rfl, ⟨_, sqt T.at'⟩, ?_⟩
    refine for_tup (K := K) (a := t) (xs := zs.map fun z => V.ref z.1) (fun i σ H1 => ∃ y3 y4 y5 y6, σ = [some (.ref t), some (.ref r), some (.int (worth ((zs.take i).map (·.2)) (at0 row))), y3, y4, y5, y6] ∧ H1 = H)
      ⟨none, none, none, none, rfl, rfl⟩ (fun i σ H1 _ hp => ?_) (fun i x σ H1 hx hp => ?_) fun σ H1 hp => ?_
    · obtain ⟨_, _, _, _, _, rfl⟩ := hp
      exact sqt T.at'
    · obtain ⟨y3, y4, y5, y6, rfl, rfl⟩ := hp
      rw [List.getElem?_map] at hx
      obtain ⟨z, hz, rfl⟩ := Option.map_eq_some_iff.mp hx
      have hm := List.mem_of_getElem? hz
      obtain ⟨c, h1, h2⟩ := T.mem z hm
      refine ⟨z.1, _, rfl, sqt h1, rfl, _, _, rfl, _, _, rfl, rfl, ?_⟩
      -- yes = number; the letters
      refine ⟨_, rfl, _, rfl, c, rfl, ⟨_, sqt h2⟩, ?_⟩
      refine for_tup (K := K) (a := c) (xs := z.2.1.map V.int) (fun j σ H2 => ∃ y6, σ = [some (.ref t), some (.ref r), some (.int (worth ((zs.take i).map (·.2)) (at0 row))), some (.ref c), some (.int z.2.2), some (.int (mon (at0 row) z.2.2 (z.2.1.take j))), y6] ∧ H2 = H1)
        ⟨y6, rfl, rfl⟩ (fun j σ H2 _ hp => ?_) (fun j x σ H2 hx hp => ?_) fun σ H2 hp => ?_
      · obtain ⟨_, _, rfl⟩ := hp
        exact sqt h2
      · obtain ⟨y6, rfl, rfl⟩ := hp
        rw [List.getElem?_map] at hx
        obtain ⟨l, hl, rfl⟩ := Option.map_eq_some_iff.mp hx
        have hr3 := rng z hm l (List.mem_of_getElem? hl)
        have w01 := at0_01 r01 l
        have step : mon (at0 row) z.2.2 (z.2.1.take (j + 1)) = mon (at0 row) z.2.2 (z.2.1.take j) * at0 row l := by
          rw [List.take_add_one, hl]
          exact mon_snoc _ _ _ _
        refine ⟨_, rfl, _, rfl, _, rfl, r, _, l, _, rfl, rfl, sqt hr2, at_map hr3.1 hr3.2, _, _, rfl, rfl, .inr ?_, ?_⟩
        · show -(2 ^ 64) < at0 row l ∧ at0 row l < 2 ^ 64
          omega
        · exact ⟨_, by rw [step]; rfl, rfl⟩
      · obtain ⟨y6, rfl, rfl⟩ := hp
        have step : worth ((zs.take (i + 1)).map (·.2)) (at0 row) = worth ((zs.take i).map (·.2)) (at0 row) + mon (at0 row) z.2.2 z.2.1 := by
          rw [List.take_add_one, hz, List.map_append]
          exact worth_snoc _ _ _
        refine ⟨_, rfl, _, rfl, _, _, rfl, rfl, ?_⟩
        refine ⟨some (.ref c), some (.int z.2.2), some (.int (mon (at0 row) z.2.2 (z.2.1.take (z.2.1.map V.int).length))), y6, ?_, rfl⟩
        rw [step, List.length_map, List.take_length]
        rfl
    · obtain ⟨y3, y4, y5, y6, rfl, rfl⟩ := hp
      refine ⟨_, rfl, ?_⟩
      rw [List.length_map, List.take_length]
      exact q
/-! ### all rows -/
def spRows : Sp := fun vs H Q _ => ∃ n : Nat, vs = [.int n] ∧ n ≤ 8 ∧ ∀ (p : Addr) (zs : List (Addr × List Int)) (H' : Hp), H p = none → Same H H' → RowsAt H' p zs → zs.map (·.2) = rowsM n → Q (.ref p) H'
theorem scRows : FnScope ["_law_count", "_law_rows_here", "_law_letter", "_law_longer", "_law_row"] ["_law_count"] (defScope tRows) := ⟨rfl, rfl, rfl, by decide +kernel, rfl, by decide +kernel, by decide +kernel⟩
/-- the rows one letter longer -/
def longer (R : List (List Int)) : List (List Int) := R.flatMap fun r => [r ++ [0], r ++ [1]]
theorem longer_snoc (R : List (List Int)) (r : List Int) : longer (R ++ [r]) = longer R ++ [r ++ [0], r ++ [1]] := by
  unfold longer
  rw [List.flatMap_append]
  rfl
theorem longer_len (R : List (List Int)) : (longer R).length = 2 * R.length := by
  unfold longer
  rw [List.length_flatMap]
  have : (R.map fun r => [r ++ [(0 : Int)], r ++ [1]].length) = R.map fun _ => 2 := rfl
  rw [this, List.map_const', List.sum_replicate_nat]
  omega
theorem pow8 {n : Nat} (h : n ≤ 8) : 2 ^ n ≤ 256 := Nat.pow_le_pow_right (by decide) h
theorem row_len {n : Nat} {r : List Int} (h : r ∈ rowsM n) : r.length = n := ((rowsM_mem n r).mp h).1
theorem ok_rows {f : Addr} {fd : FuncData} {k : Nat} (F : Fun K "_law_rows" "_law_rows" tRows f fd) (B : Bare mg) : FnOk P w K mg base CX0 (k + 1) f fd ["_law_count"] spRows := by
  refine F.ok scRows (fun vs H Q E h => ?_) (fun cdv A outer s H vs Q E hr h => ?_)
  · obtain ⟨n, rfl, _⟩ := h
    rfl
  · obtain ⟨n, rfl, hn, q⟩ := h
    refine ⟨_, pss_cons (ps_set (i := 1) scRows.nd rfl (Or.inl rfl) (pe_lst (pa_cons (pe_tup pa_nil) pa_nil)))
      (pss_cons (ps_for PassesOwn.never rfl (pi_range1 rfl B.range (pa_cons (pv 0) pa_nil)) (pg_name (i := 2) scRows.nd rfl (Or.inl rfl))
        (pss_cons (ps_set (i := 3) scRows.nd rfl (Or.inl rfl) (pe_lst pa_nil))
        (pss_cons (ps_for PassesOwn.never rfl (pi_list (pv 1)) (pg_name (i := 4) scRows.nd rfl (Or.inl rfl))
          (pss_one (ps_expr (pe_bm PySem.F.plainAttrs_list PySem.F.slot_list_extend PySem.F.type_list_extend mt_extend (pv 3)
            (pa_cons (pe_lst (pa_cons (pe_op op_catS (pv 4) (pe_tup (pa_cons pe_int pa_nil))) (pa_cons (pe_op op_catS (pv 4) (pe_tup (pa_cons pe_int pa_nil))) pa_nil))) pa_nil)))))
        (pss_one (ps_set (i := 1) scRows.nd rfl (Or.inl rfl) (pv 3))))))
      (pss_one (ps_ret (pv 1)))), ?_⟩
    -- [()]
    refine ⟨by show 0 ≤ sizeLine; decide, fun e ne => ⟨by show 1 ≤ sizeLine; decide, fun p np => ?_⟩⟩
    have epe : e ≠ p := ne_of_none upd_same np
    have hp0 : H p = none := (same_new (Same.refl H) ne).free np
    have sm : Same H (upd (upd H e (.tup [])) p (.lst [.ref e])) := same_new (same_new (Same.refl H) ne) np
    have ra : RowsAt (upd (upd H e (.tup [])) p (.lst [.ref e])) p [(e, [])] := ⟨upd_same, fun z m => by
      have : z = (e, []) := by simpa using m
      subst this
      show upd (upd H e (.tup [])) p (.lst [.ref e]) e = _
      rw [upd_ne epe, upd_same]
      rfl⟩
    refine ⟨_, rfl, _, rfl, by omega, by omega, ?_⟩
    refine for_range (lo := 0) (n := ((n : Nat) : Int).toNat) (fun i σ H1 => ∃ p zs y2 y3 y4, σ = [some (.int n), some (.ref p), y2, y3, y4] ∧ H p = none ∧ Same H H1 ∧ RowsAt H1 p zs ∧ zs.map (·.2) = rowsM i)
      ⟨p, _, none, none, none, rfl, hp0, sm, ra, rfl⟩ (fun i σ H1 hi hq => ?_) fun σ H1 hq => ?_
    · obtain ⟨p, zs, y2, y3, y4, rfl, hp, sm, ra, ez⟩ := hq
      have hz : zs.length = 2 ^ i := by rw [← rowsM_len, ← ez, List.length_map]
      have hz2 := pow8 (show i ≤ 8 by omega)
      -- longer = []
      refine ⟨by show 0 ≤ sizeLine; decide, fun l nl => ?_⟩
      have pl : p ≠ l := ne_of_none ra.at' nl
      have ra0 : RowsAt (upd H1 l (.lst [])) p zs := ⟨by rw [upd_ne pl]; exact ra.at', fun z m => by
        show upd H1 l (.lst []) z.1 = _
        rw [upd_ne (ne_of_none (ra.mem z m) nl)]
        exact ra.mem z m⟩
      refine ⟨_, rfl, p, rfl, ⟨_, sql ra0.at'⟩, ?_⟩
      refine for_list (K := K) (a := p) (xs := zs.map fun z => V.ref z.1) (fun j σ H2 => ∃ ws y4, σ = [some (.int n), some (.ref p), some (.int (0 + i)), some (.ref l), y4] ∧ Same H1 H2 ∧ RowsAt H2 l ws ∧ ws.map (·.2) = longer ((zs.take j).map (·.2)))
        ⟨[], y4, rfl, same_new (Same.refl H1) nl, ⟨upd_same, fun z m => by simp at m⟩, rfl⟩ (fun j σ H2 _ hq => ?_) (fun j x σ H2 hx hq => ?_) fun σ H2 hq => ?_
      · obtain ⟨ws, y4, rfl, s2, _⟩ := hq
        exact sql (s2 _ _ ra.at')
      · obtain ⟨ws, y4, rfl, s2, rl, el⟩ := hq
        rw [List.getElem?_map] at hx
        obtain ⟨z, hz3, rfl⟩ := Option.map_eq_some_iff.mp hx
        have hm := List.mem_of_getElem? hz3
        have hj : j < zs.length := (List.getElem?_eq_some_iff.mp hz3).1
        have tz : TupAt H2 z.1 z.2 := s2 _ _ (ra.mem z hm)
        have lz : z.2.length = i := row_len (n := i) (by rw [← ez]; exact List.mem_map.mpr ⟨z, hm, rfl⟩)
        have lw : ws.length = 2 * j := by
          rw [← List.length_map (f := (·.2)), el, longer_len, List.length_map, List.length_take]
          omega
        refine ⟨_, rfl, .inl ⟨rfl, _, sql rl.at'⟩, ?_⟩
        -- row + (0,), row + (1,)
        refine ⟨_, rfl, by show 1 ≤ sizeLine; decide, fun t0 n0 => ⟨z.1, t0, z.2.map V.int, [.int 0], rfl, rfl, ?_, upd_same, ?_, fun c0 H3 s3 e3 => ?_⟩⟩
        · rw [upd_ne (ne_of_none tz n0)]; exact tz
        · rw [List.length_map]; show z.2.length + 1 ≤ 1000; omega
        have s23 : Same H2 H3 := (same_new (Same.refl H2) n0).trans s3
        have tz3 : TupAt H3 z.1 z.2 := s23 _ _ tz
        refine ⟨_, rfl, by show 1 ≤ sizeLine; decide, fun t1 n1 => ⟨z.1, t1, z.2.map V.int, [.int 1], rfl, rfl, ?_, upd_same, ?_, fun c1 H4 s4 e4 => ?_⟩⟩
        · rw [upd_ne (ne_of_none tz3 n1)]; exact tz3
        · rw [List.length_map]; show z.2.length + 1 ≤ 1000; omega
        have s34 : Same H3 H4 := (same_new (Same.refl H3) n1).trans s4
        refine ⟨by show 2 ≤ sizeLine; decide, fun b nb => ?_⟩
        have s4b : Same H4 (upd H4 b (.lst [.ref c0, .ref c1])) := same_new (Same.refl H4) nb
        have s2b : Same H2 (upd H4 b (.lst [.ref c0, .ref c1])) := (s23.trans s34).trans s4b
        refine ⟨l, b, _, _, rfl, rfl, s2b _ _ rl.at', upd_same, ?_, ?_⟩
        · rw [List.length_map, lw]; exact Nat.le_of_lt (small1000 (by show 2 * j + 2 ≤ 1000; omega))
        have lt : ∀ a ys, H2 a = some (.tup ys) → a ≠ l := fun a ys e => ne_of e rl.at' (by intro q; cases q)
        have t0' : TupAt (upd H4 b (.lst [.ref c0, .ref c1])) c0 (z.2 ++ [0]) := by
          show _ = some (HO.tup ((z.2 ++ [0]).map V.int))
          rw [List.map_append]
          exact s4b _ _ (s34 _ _ e3)
        have t1' : TupAt (upd H4 b (.lst [.ref c0, .ref c1])) c1 (z.2 ++ [1]) := by
          show _ = some (HO.tup ((z.2 ++ [1]).map V.int))
          rw [List.map_append]
          exact s4b _ _ e4
        have hl4 : upd H4 b (.lst [.ref c0, .ref c1]) l = some (.lst (ws.map fun z => V.ref z.1)) := s2b _ _ rl.at'
        refine ⟨ws ++ [(c0, z.2 ++ [0]), (c1, z.2 ++ [1])], _, rfl, fun a o e => ?_, ⟨?_, fun v m => ?_⟩, ?_⟩
        · rw [upd_ne (ne_of_none e nl)]
          exact s2b _ _ (s2 _ _ e)
        · rw [upd_same, List.map_append]; rfl
        · have key : TupAt (upd H4 b (.lst [.ref c0, .ref c1])) v.1 v.2 := by
            rcases List.mem_append.mp m with m | m
            · exact s2b _ _ (rl.mem v m)
            · have : v = (c0, z.2 ++ [0]) ∨ v = (c1, z.2 ++ [1]) := by simpa using m
              rcases this with rfl | rfl
              · exact t0'
              · exact t1'
          show upd _ l _ v.1 = _
          rw [upd_ne (ne_of key hl4 (by intro q; cases q))]
          exact key
        · rw [List.map_append, el, List.take_add_one, hz3, List.map_append]
          exact (longer_snoc _ _).symm
      · obtain ⟨ws, y4, rfl, s2, rl, el⟩ := hq
        rw [List.length_map, List.take_length, ez] at el
        exact ⟨_, rfl, l, ws, _, _, _, rfl, sm.free nl, sm.trans s2, rl, el⟩
    · obtain ⟨p, zs, y2, y3, y4, rfl, hp, sm, ra, ez⟩ := hq
      exact ⟨_, rfl, q p zs _ hp sm ra ez⟩
end
end K31

/-! K31W4: a sum out of a table. -/
namespace K31
open PySem PySem.Spec PyProof.Rows L2
theorem wipe_one (σ : L2.St) (i : Nat) (x : Option V) : wipe ((wipe σ [i]).set i x) [i] = wipe σ [i] := by
  show (((σ.set i none).set i x).set i none) = σ.set i none
  rw [List.set_set, List.set_set]
theorem wipe_at {σ : L2.St} {i j : Nat} {x : Option V} {y : Option V} (h : j ≠ i) (e : σ[j]? = some y) : ((wipe σ [i]).set i x)[j]? = some y := by
  show ((σ.set i none).set i x)[j]? = some y
  rw [List.set_set, List.getElem?_set_ne (Ne.symm h)]
  exact e
theorem wipe_in {σ : L2.St} {i : Nat} {x : Option V} (h : i < σ.length) : ((wipe σ [i]).set i x)[i]? = some x := by
  show ((σ.set i none).set i x)[i]? = some x
  rw [List.set_set, List.getElem?_set_self h]
/-- [(letters, found[letters]) for letters in found ..] -/
theorem lock_mems {d : Addr} {i j : Nat} {D : List Mem} {tt : TT} {p : Mem → Bool} {σ : L2.St} {H : Hp} {Q : VK} (hi : i < σ.length) (hj : j ≠ i) (hσ : σ[j]? = some (some (.ref d))) (hd : H d = some (.dT (enT D))) (nd : Nd D) (hl : D.length ≤ 1000)
    (htt : ∀ (σ2 : L2.St) (H2 : Hp) (q : Addr) (od : Obj) (m : Mem) (Q' : Bool → Hp → Prop), m ∈ D → σ2[j]? = some (some (.ref d)) → σ2[i]? = some (some (.ref q)) → H2 d = some (.frz od (.dT (enT D))) → TupAt H2 q m.1 → Q' (p m) H2 → tt σ2 H2 Q')
    (k : ∀ (L : Addr) (ws : List (Addr × Mem)) (H' : Hp), H L = none → Same H H' → H' L = some (.lst (ws.map fun z => V.ref z.1)) → (∀ z ∈ ws, MemAt H' z.1 z.2) → ws.map (·.2) = D.filter p → Q (.ref L) H') :
    tLockE (tLc (iKeys (tVar j)) (gName i) tt (tTup (tCons (tVar i) (tCons (tDGet (tVar j) (tVar i)) tNil))) [i]) σ H Q := by
  refine ⟨d, .dT (enT D), hd, trivial, fun od => ⟨_, hσ, d, od, rfl, .inr ⟨enT D, upd_same, fun L nL => ?_⟩⟩⟩
  have dL : d ≠ L := ne_of_none upd_same nL
  have hL : H L = none := by rw [← nL, upd_ne dL.symm]
  have b0 : But d H (upd (upd H d (.frz od (.dT (enT D)))) L (.lst [])) := (But.refl.set).fresh hL
  refine lc_it (walk_keysT (d := d) (o := od) (kvs := enT D)) (fun i H1 => ∃ ws : List (Addr × Mem), H1 d = some (.frz od (.dT (enT D))) ∧ But d H H1 ∧ H1 L = some (.lst (ws.map fun z => V.ref z.1)) ∧ (∀ z ∈ ws, MemAt H1 z.1 z.2) ∧ ws.map (·.2) = (D.take i).filter p)
    ⟨[], by rw [upd_ne dL, upd_same], b0, upd_same, fun z m => by simp at m, rfl⟩ (fun n H1 _ hp => ?_) (fun n x H1 H2 hn hp hy => ?_) fun H1 hp => ?_
  · obtain ⟨ws, h1, _⟩ := hp
    exact h1
  · obtain ⟨ws, h1, h2, h3, h4, h5⟩ := hp
    obtain ⟨rfl, ky, v, q, ek, rfl, hq⟩ := hy
    unfold enT at ek
    rw [List.getElem?_map] at ek
    obtain ⟨m, em, e2⟩ := Option.map_eq_some_iff.mp ek
    obtain ⟨rfl, rfl⟩ := Prod.mk.inj e2
    rw [enK_V] at hq
    have hm := List.mem_of_getElem? em
    have gm : get D m.1 = some m.2 := mem_get nd hm
    have lw : ws.length ≤ 1000 := by
      have := congrArg List.length h5
      rw [List.length_map] at this
      have q1 := List.length_filter_le p (D.take n)
      have q2 : (D.take n).length ≤ D.length := by rw [List.length_take]; exact Nat.min_le_right _ _
      omega
    refine ⟨wipe_one σ i _, htt _ _ q od m _ hm (wipe_at hj hσ) (wipe_in hi) h1 hq ?_⟩
    have tk : (D.take (n + 1)).filter p = (D.take n).filter p ++ (if p m = true then [m] else []) := by
      rw [List.take_add_one, em, List.filter_append]
      congr 1
      show [m].filter p = _
      rw [List.filter_cons]
      split <;> rfl
    refine ite2 (fun hp => ?_) fun hp => ?_
    · refine ⟨_, wipe_in hi, _, wipe_at hj hσ, _, wipe_in hi, d, .int m.2, rfl, ?_, by show 2 ≤ sizeLine; decide, fun t nt => ?_⟩
      · have := get_en (d := d) (b := q) (D := D) (k := m.1) (.inr ⟨od, h1⟩) hq
        rw [gm] at this
        exact this
      have tL : L ≠ t := ne_of_none h3 nt
      have td : d ≠ t := ne_of_none h1 nt
      refine ⟨ws.map fun z => V.ref z.1, by rw [upd_ne tL]; exact h3, by rw [List.length_map]; exact small1000 lw, ws ++ [(t, m)], ?_, ?_, ?_, fun z hz => ?_, ?_⟩
      · rw [upd_ne dL, upd_ne td]; exact h1
      · exact (h2.new nt).fresh hL
      · rw [upd_same, List.map_append]; rfl
      · have ts : Tups H2 (upd (upd H2 t (.tup [.ref q, .int m.2])) L (.lst ((ws.map fun z => V.ref z.1) ++ [V.ref t]))) := fun b xs e => by
          rw [upd_ne (ne_of e h3 (by intro z; cases z)), upd_ne (ne_of_none e nt)]
          exact e
        rcases List.mem_append.mp hz with hz | hz
        · exact (h4 z hz).mono ts
        · have : z = (t, m) := by simpa using hz
          subst this
          exact ⟨q, by rw [upd_ne tL.symm, upd_same], ts _ _ hq⟩
      · rw [List.map_append, h5, tk, if_pos hp]; rfl
    · refine ⟨ws, h1, h2, h3, h4, ?_⟩
      rw [h5, tk, if_neg hp, List.append_nil]
  · obtain ⟨ws, h1, h2, h3, h4, h5⟩ := hp
    rw [enT_len, List.take_length] at h5
    refine ⟨h1, k L ws _ hL (fun b o e => ?_) (by rw [upd_ne dL.symm]; exact h3) (fun z hz => (h4 z hz).mono fun b xs e => ?_) h5⟩
    · by_cases hb : b = d
      · subst hb; rw [upd_same, ← hd]; exact e
      · rw [upd_ne hb]; exact h2 b o e hb
    · rw [upd_ne (ne_of e h1 (by intro z; cases z))]; exact e
structure Bare2 (mg : Str → Option Value) : Prop where
  tuple : mg "tuple" = none
  sorted : mg "sorted" = none
section
variable {P : Program} {w : World} {K : PySem.W.Frag} {mg : Str → Option Value} {base : Heap}
/-- a sum out of the table D -/
def SumOf (D : List Mem) (zs : List (Addr × Mem)) : Prop := (zs.map (·.2)).Perm (D.filter fun m => decide (m.2 ≠ 0)) ∧ (zs.map (·.2)).Pairwise fun y z => ¬ z.1 < y.1
def spLSum : Sp := fun vs H Q _ => ∃ (d : Addr) (D : List Mem), vs = [.ref d] ∧ H d = some (.dT (enT D)) ∧ Nd D ∧ D.length ≤ 1000 ∧
  ∀ (a : Addr) (zs : List (Addr × Mem)) (H' : Hp), Same H H' → ToldAt H' a zs → SumOf D zs → Q (.ref a) H'
theorem scLSum : FnScope ["_law_found", "_law_letters"] ["_law_found"] (defScope tLSum) := ⟨rfl, rfl, rfl, by decide +kernel, rfl, by decide +kernel, by decide +kernel⟩
theorem units64 {k : Nat} {A : Around} (h : Room k A) : A.units + 64 < cLine := h.units
theorem ok_lsum {f : Addr} {fd : FuncData} {k : Nat} (F : Fun K "_law_sum" "_law_sum" tLSum f fd) (B : Bare2 mg) : FnOk P w K mg base CX0 (k + 1) f fd ["_law_found"] spLSum := by
  refine F.ok scLSum (fun vs H Q E h => ?_) (fun cdv A outer s H vs Q E hr h => ?_)
  · obtain ⟨d, D, rfl, _⟩ := h
    rfl
  · obtain ⟨d, D, rfl, hd, nd, hl, q⟩ := h
    have hu := hu_of hr
    refine ⟨_, pss_one (ps_ret (pe_callTy call_tuple_of (by rfl) B.tuple (by decide +kernel) (pa_cons (pe_callB (cr_sortMems hr.units) (by rfl) B.sorted (by decide +kernel) (pa_cons
      (pe_lock (pe_lc (own := [("_law_letters", 1)]) (g := gName 1) rfl scLSum.nd (pi_keys (pv 0)) (blkOk_by (own := [("_law_letters", 1)]) (N := ["_law_found", "_law_letters"]) (sc := defScope tLSum) (by decide +kernel)) (fun _ _ _ _ _ => pg_name (i := 1) scLSum.nd rfl (Or.inl rfl))
        (fun _ _ _ _ _ => pts_one (pt_cmpR op_ne (pe_dget hu (pv 0) (pv 1) (fun _ _ => rfl)) pe_int (nomark _)))
        (fun _ _ _ _ _ => pe_tup (pa_cons (pv 1) (pa_cons (pe_dget hu (pv 0) (pv 1) (fun _ _ => rfl)) pa_nil)))))
      pa_nil)) pa_nil))), ?_⟩
    refine lock_mems (d := d) (i := 1) (j := 0) (D := D) (p := fun m => decide (m.2 ≠ 0)) (show 1 < 2 by decide) (by decide) rfl hd nd hl (fun σ2 H2 q od m Q' hm e0 e1 h2 hq hQ => ?_) fun L ws H1 hL s1 h1 h2 h3 => ?_
    · refine ⟨_, e0, _, e1, d, .int m.2, rfl, ?_, rfl, _, rfl, ?_⟩
      · have := get_en (d := d) (b := q) (D := D) (k := m.1) (.inr ⟨od, h2⟩) hq
        rw [mem_get nd hm] at this
        exact this
      · have : (!decide ((V.int m.2) = V.int 0)) = decide (m.2 ≠ 0) := by
          by_cases e : m.2 = 0
          · simp [e]
          · simp [e]
        rw [this]
        exact hQ
    · refine ⟨L, ws, rfl, sql h1, h2, fun ys p hp hs np => ?_⟩
      refine ⟨p, _, rfl, .inl ⟨sql upd_same, fun a na => ?_⟩⟩
      have t1 : Same H1 (upd (upd H1 p (.lst (ys.map fun z => V.ref z.1))) a (.tup (ys.map fun z => V.ref z.1))) := same_new (same_new (Same.refl H1) np) na
      refine q a ys _ (s1.trans t1) ⟨upd_same, fun z hz => (h2 z (hp.mem_iff.mp hz)).mono (tups_of t1)⟩ ⟨?_, List.pairwise_map.mpr hs⟩
      rw [← h3]
      exact hp.map _
end
end K31

/-! K31W5: the drawn sum. -/
namespace K31
open PySem PySem.Spec PyProof.Rows L2
theorem lex_tri : ∀ (a b : List Int), ¬ b < a → a ≠ b → a < b
  | [], [], _, n => absurd rfl n
  | [], _ :: _, _, _ => List.nil_lt_cons _ _
  | _ :: _, [], h, _ => absurd (List.nil_lt_cons _ _) h
  | x :: a, y :: b, h, n => by
    rw [List.cons_lt_cons_iff] at h ⊢
    by_cases e : x = y
    · subst e
      refine .inr ⟨rfl, lex_tri a b (fun q => h (.inr ⟨rfl, q⟩)) fun q => n (by rw [q])⟩
    · refine .inl ?_
      have : ¬ y < x := fun q => h (.inl q)
      omega
/-- distinct keys: in order, strictly -/
theorem strict_of : ∀ {T : List Mem}, T.Pairwise (fun y z => ¬ z.1 < y.1) → Nd T → T.Pairwise fun y z => y.1 < z.1
  | [], _, _ => .nil
  | m :: T, h, nd => by
    obtain ⟨h1, h2⟩ := List.pairwise_cons.mp h
    have nd' : (m.1 :: T.map (·.1)).Nodup := nd
    obtain ⟨n1, n2⟩ := List.nodup_cons.mp nd'
    refine List.pairwise_cons.mpr ⟨fun z hz => lex_tri _ _ (h1 z hz) fun e => n1 ?_, strict_of h2 n2⟩
    rw [e]; exact List.mem_map.mpr ⟨z, hz, rfl⟩
/-- what a sum is -/
structure GoodT (c : Int) (n : Nat) (T : List Mem) : Prop where
  each : ∀ m ∈ T, Good1 c m
  srt : T.Pairwise fun y z => y.1 < z.1
  nd : Nd T
  tri : tri T ≤ 3
  len : T.length ≤ n
theorem Nd.perm {S T : List Mem} (h : S.Perm T) (nd : Nd T) : Nd S := (h.map (fun m : Mem => m.1)).nodup_iff.mpr nd
theorem tri_perm {S T : List Mem} (h : S.Perm T) : tri S = tri T := (h.filter isTri).length_eq
theorem tri_put (D : List Mem) (k : List Int) (v : Int) : tri (put D k v) ≤ tri D + if k.length = 3 then 1 else 0 := by
  by_cases h : k ∈ D.map (·.1)
  · rw [put_old h]
    have : ∀ D : List Mem, tri (D.map fun p => if p.1 = k then (p.1, v) else p) = tri D := fun D => by
      induction D with
      | nil => rfl
      | cons p D ih =>
        rw [List.map_cons, tri_cons, tri_cons, ih]
        congr 1
        have : isTri (if p.1 = k then (p.1, v) else p) = isTri p := by split <;> rfl
        rw [this]
    rw [this]; omega
  · rw [put_new h, tri_snoc]
    have : isTri (k, v) = decide (k.length = 3) := rfl
    rw [this]
    by_cases e : k.length = 3 <;> simp [e]
theorem But.free {a b : Addr} {H H' : Hp} {n : Nat} (x : But a H H') (s : StAt n H' a) (h : H' b = none) : H b = none := by
  cases e : H b with
  | none => rfl
  | some o =>
    have nb : b ≠ a := fun z => by
      obtain ⟨i, p, c, d, q, _⟩ := s
      rw [z, q] at h; cases h
    rw [x b o e nb] at h; cases h
theorem StAt.ne_tup {n : Nat} {H : Hp} {a b : Addr} {xs : List V} (h : StAt n H a) (e : H b = some (.tup xs)) : b ≠ a := fun z => h.no xs (by rw [← z]; exact e)
structure Bare3 (mg : Str → Option Value) : Prop where
  set : mg "set" = none
section
variable {P : Program} {w : World} {K : PySem.W.Frag} {mg : Str → Option Value} {base : Heap}
def spDrawn (K : PySem.W.Frag) : Sp := fun vs H Q _ => ∃ (sc st : Addr) (ns : List Int) (c : Nat), vs = [.ref sc, .ref st, .int c, .int 10, .int 3] ∧ Drw K H sc st ns ∧ 1 ≤ c ∧ c ≤ 5 ∧
  ∀ (a : Addr) (zs : List (Addr × Mem)) (H' : Hp), But st H H' → StAt ns.length H' st → ToldAt H' a zs → GoodT c 10 (zs.map (·.2)) → Q (.ref a) H'
abbrev nDrawn : List Str := ["_law_script", "_law_state_here", "_law_count", "_law_most", "_law_triples", "_law_found", "_law_left", "_law_k", "_law_letters", "_law_place", "_law_number"]
theorem scDrawn : FnScope nDrawn ["_law_script", "_law_state_here", "_law_count", "_law_most", "_law_triples"] (defScope tDrawn) := ⟨rfl, rfl, rfl, by decide +kernel, rfl, by decide +kernel, by decide +kernel⟩
/-- the table between two turns: left is what is left of the triples -/
structure GoodD (c : Int) (n : Nat) (left : Int) (D : List Mem) : Prop where
  each : ∀ m ∈ D, Good1 c m
  nd : Nd D
  tri3 : tri D ≤ 3
  tri : (tri D : Int) ≤ 3 - left
  len : D.length ≤ n
theorem GoodD.put {c : Int} {n : Nat} {left : Int} {D : List Mem} (g : GoodD c n left D) {k : List Int} {v : Int} (h : Good1 c (k, v)) (ht : k.length = 3 → 0 ≤ left - 1) : GoodD c (n + 1) (if k.length = 3 then left - 1 else left) (put D k v) := by
  have t := tri_put D k v
  refine ⟨fun m hm => ?_, nd_put k v g.nd, ?_, ?_, ?_⟩
  · rcases mem_put hm with hm | rfl
    · exact g.each m hm
    · exact h
  · have := g.tri; have := g.tri3
    by_cases e : k.length = 3
    · have := ht e
      rw [if_pos e] at t
      omega
    · rw [if_neg e] at t; omega
  · have := g.tri
    by_cases e : k.length = 3
    · rw [if_pos e] at t ⊢; omega
    · rw [if_neg e] at t ⊢; omega
  · have := len_put D k v; have := g.len; omega
theorem GoodD.keep {c : Int} {n : Nat} {left left' : Int} {D : List Mem} (g : GoodD c n left D) (h : left' ≤ left) : GoodD c (n + 1) left' D :=
  ⟨g.each, g.nd, g.tri3, by have := g.tri; omega, Nat.le_succ_of_le g.len⟩
theorem ok_drawn {f g p : Addr} {fd gd pd : FuncData} (F : Fun K "_law_drawn_sum" "_law_drawn_sum" tDrawn f fd) (B : Bare mg) (B2 : Bare2 mg) (B3 : Bare3 mg)
    (G : FnOk P w K mg base CX0 1 g gd ["_law_script", "_law_state_here", "_law_many"] (spDraw K)) (kG : PySem.W.keepIn K (.ref g) = true) (bG : Binds K gd ["_law_script", "_law_state_here", "_law_many"] []) (mG : mg "_law_draw" = some (.ref g))
    (A' : FnOk P w K mg base CX0 3 p pd ["_law_script", "_law_state_here"] (spAmount K)) (kA : PySem.W.keepIn K (.ref p) = true) (bA : Binds K pd ["_law_script", "_law_state_here"] []) (mA : mg "_law_amount" = some (.ref p)) :
    FnOk P w K mg base CX0 4 f fd ["_law_script", "_law_state_here", "_law_count", "_law_most", "_law_triples"] (spDrawn K) := by
  refine F.ok scDrawn (fun vs H Q E h => ?_) (fun cdv A outer s H vs Q E hr h => ?_)
  · obtain ⟨sc, st, ns, c, rfl, _⟩ := h
    rfl
  · obtain ⟨sc, st, ns, c, rfl, D0, c1, c5, q⟩ := h
    have hu := hu_of hr
    refine ⟨_, pss_cons (ps_set (i := 5) scDrawn.nd rfl (Or.inr rfl) pe_dnewT)
      (pss_cons (ps_set (i := 6) scDrawn.nd rfl (Or.inl rfl) (pv 4))
      (pss_cons (ps_for PassesOwn.never rfl (pi_range1 rfl B.range (pa_cons (pe_call G (hr.mono (by decide)) (by rfl) mG kG bG .nil pass0 (pa_cons (pv 0) (pa_cons (pv 1) (pa_cons (pe_op op_add (pv 3) pe_int) pa_nil)))) pa_nil)) (pg_name (i := 7) scDrawn.nd rfl (Or.inl rfl))
        (pss_cons (ps_set (i := 8) scDrawn.nd rfl (Or.inl rfl) (pe_lst pa_nil))
        (pss_cons (ps_for PassesOwn.never rfl (pi_range1 rfl B.range (pa_cons (pe_call G (hr.mono (by decide)) (by rfl) mG kG bG .nil pass0 (pa_cons (pv 0) (pa_cons (pv 1) (pa_cons pe_int pa_nil)))) pa_nil)) (pg_name (i := 9) scDrawn.nd rfl (Or.inl rfl))
          (pss_one (ps_if (pt_cmpR op_gt (pv 2) pe_int (nomark _))
            (pss_one (ps_expr (pe_bm PySem.F.plainAttrs_list PySem.F.slot_list_append PySem.F.type_list_append mt_append (pv 8) (pa_cons (pe_call G (hr.mono (by decide)) (by rfl) mG kG bG .nil pass0 (pa_cons (pv 0) (pa_cons (pv 1) (pa_cons (pv 2) pa_nil)))) pa_nil)))) pss_nil)))
        (pss_cons (ps_set (i := 8) scDrawn.nd rfl (Or.inl rfl) (pe_callTy call_tuple_of (by rfl) B2.tuple (by decide +kernel) (pa_cons (pe_callB (cr_sortedSet rfl) (by rfl) B2.sorted (by decide +kernel) (pa_cons (pe_callTy (cr_setL rfl) (by rfl) B3.set (by decide +kernel) (pa_cons (pv 8) pa_nil)) pa_nil)) pa_nil)))
        (C8.pss_cut (ps_if (pt_cmpR op_eq (pe_callB call_len_seq (by rfl) B.len PySem.boot_len (pa_cons (pv 8) pa_nil)) pe_int (nomark _)) (pss_one (ps_set (i := 6) scDrawn.nd rfl (Or.inl rfl) (pe_op op_sub (pv 6) pe_int))) pss_nil)
        (pss_cons (ps_set (i := 10) scDrawn.nd rfl (Or.inl rfl) (pe_call A' hr (by rfl) mA kA bA .nil pass0 (pa_cons (pv 0) (pa_cons (pv 1) pa_nil))))
        (pss_one (ps_if (PW.pt (pw_and (pt_cmpR op_ne (pv 10) pe_int (nomark _)) (pw_and1 (PW.pt (pw_or (pt_cmpR op_lt (pe_callB call_len_seq (by rfl) B.len PySem.boot_len (pa_cons (pv 8) pa_nil)) pe_int (nomark _)) (pw_or1 (pt_cmpR op_ge (pv 6) pe_int (nomark _))))))))
          (pss_one (ps_dput hu (pv 5) (pv 8) (pv 10) rfl)) pss_nil))))))))
      (pss_one (ps_ret (pe_callTy call_tuple_of (by rfl) B2.tuple (by decide +kernel) (pa_cons (pe_callB (cr_sortMems hr.units) (by rfl) B2.sorted (by decide +kernel) (pa_cons
        (pe_lock (pe_lc (own := [("_law_letters", 8)]) (g := gName 8) (tt := tYes) rfl scDrawn.nd (pi_keys (pv 5)) (blkOk_by (own := [("_law_letters", 8)]) (N := nDrawn) (sc := defScope tDrawn) (by decide +kernel)) (fun _ _ _ _ _ => pg_name (i := 8) scDrawn.nd rfl (Or.inl rfl)) (fun _ _ _ _ _ => pts_nil)
          (fun _ _ _ _ _ => pe_tup (pa_cons (pv 8) (pa_cons (pe_dget hu (pv 5) (pv 8) (fun _ _ => rfl)) pa_nil)))))
        pa_nil)) pa_nil)))))), ?_⟩
    -- found = {}; left = triples
    intro d hd0
    have std : st ≠ d := D0.sta.ne hd0
    have b0 : But st H (upd H d (.dT [])) := But.refl.fresh hd0
    have s0 : StAt ns.length (upd H d (.dT [])) st := D0.sta.upd std
    refine ⟨_, rfl, ?_⟩
    -- range(draw(.., most + 1))
    refine ⟨_, rfl, _, rfl, _, rfl, _, _, rfl, rfl, sc, st, ns, _, rfl, D0.next b0 s0, by decide, by decide, fun r H1 r0 r1 bt1 sa1 => ?_⟩
    have b1 : But st H H1 := b0.trans bt1
    have hd1 : H1 d = some (.dT (enT [])) := bt1 d _ upd_same (Ne.symm std)
    refine ⟨r, rfl, by omega, by omega, ?_⟩
    refine for_range (lo := 0) (n := r.toNat) (fun i σ H1 => ∃ (left : Int) (D : List Mem) (y7 y8 y9 y10 : Option V), σ = [some (.ref sc), some (.ref st), some (.int c), some (.int 10), some (.int 3), some (.ref d), some (.int left), y7, y8, y9, y10] ∧ But st H H1 ∧ StAt ns.length H1 st ∧ H1 d = some (.dT (enT D)) ∧ GoodD c i left D)
      ⟨3, [], none, none, none, none, rfl, b1, sa1, hd1, ⟨fun m hm => by simp at hm, nd_nil, by decide, by decide, Nat.le_refl _⟩⟩ (fun i σ H1 hi hp => ?_) fun σ H1 hp => ?_
    · obtain ⟨left, D, y7, y8, y9, y10, rfl, bt, sa, hd, gd⟩ := hp
      have i10 : i < 10 := by
        have : r < 11 := r1
        omega
      -- letters = []
      refine ⟨by show 0 ≤ sizeLine; decide, fun l nl => ?_⟩
      have hl0 : H l = none := bt.free sa nl
      have stl : st ≠ l := D0.sta.ne hl0
      have dl : d ≠ l := ne_of_none hd nl
      have b2 : But st H (upd H1 l (.lst [])) := bt.fresh hl0
      have s2 : StAt ns.length (upd H1 l (.lst [])) st := sa.upd stl
      have d2 : (upd H1 l (.lst [])) d = some (.dT (enT D)) := by rw [upd_ne dl]; exact hd
      -- range(draw(.., 4))
      refine ⟨_, rfl, _, rfl, sc, st, ns, _, rfl, D0.next b2 s2, by decide, by decide, fun r2 H2 r20 r21 bt2 sa2 => ?_⟩
      have b3 : But st H H2 := b2.trans bt2
      have d3 : H2 d = some (.dT (enT D)) := bt2 _ _ d2 (Ne.symm std)
      have l3 : H2 l = some (.lst (([] : List Int).map V.int)) := bt2 _ _ upd_same (Ne.symm stl)
      refine ⟨r2, rfl, by omega, by omega, ?_⟩
      refine for_range (lo := 0) (n := r2.toNat) (fun j σ H1 => ∃ (ls : List Int) (y9 : Option V), σ = [some (.ref sc), some (.ref st), some (.int c), some (.int 10), some (.int 3), some (.ref d), some (.int left), some (.int (0 + i)), some (.ref l), y9, y10] ∧ But st H H1 ∧ StAt ns.length H1 st ∧ H1 d = some (.dT (enT D)) ∧ H1 l = some (.lst (ls.map V.int)) ∧ ls.length ≤ j ∧ ∀ x ∈ ls, 0 ≤ x ∧ x < (c : Int))
        ⟨[], y9, rfl, b3, sa2, d3, l3, Nat.le_refl _, fun x hx => by simp at hx⟩ (fun j σ H1 hj hp => ?_) fun σ H1 hp => ?_
      · obtain ⟨ls, y9, rfl, bt, sa, hd, hl, hlen, hin⟩ := hp
        refine ⟨_, rfl, _, _, rfl, rfl, _, rfl, ?_⟩
        refine ite2 (fun _ => ?_) fun hc => absurd (show decide ((0 : Int) < c) = true by simp; omega) hc
        refine ⟨_, rfl, .inl ⟨rfl, _, sql hl⟩, _, rfl, _, rfl, _, rfl, sc, st, ns, _, rfl, D0.next bt sa, by omega, by omega, fun x H2 x0 x1 bt2 sa2 => ?_⟩
        have hl2 : H2 l = some (.lst (ls.map V.int)) := bt2 _ _ hl (Ne.symm stl)
        have r3 : r2 < 4 := r21
        refine ⟨l, _, _, rfl, rfl, hl2, by rw [List.length_map]; exact small1000 (by omega), ?_⟩
        refine ⟨ls ++ [x], _, rfl, (bt.trans bt2).fresh hl0, sa2.upd stl, by rw [upd_ne dl]; exact bt2 _ _ hd (Ne.symm std), by rw [upd_same, List.map_append]; rfl, by rw [List.length_append, List.length_singleton]; omega, fun y hy => ?_⟩
        rcases List.mem_append.mp hy with hy | hy
        · exact hin y hy
        · have : y = x := by simpa using hy
          subst this; exact ⟨x0, x1⟩
      · obtain ⟨ls, y9, rfl, bt, sa, hd, hl, hlen, hin⟩ := hp
        have r3 : r2 < 4 := r21
        have l3 : ls.length ≤ 3 := by omega
        -- letters = tuple(sorted(set(letters)))
        refine ⟨_, rfl, l, ls, rfl, sql hl, by omega, fun p1 cc np1 hcc => ?_⟩
        refine ⟨p1, _, cc, rfl, upd_same, by omega, fun ks p2 hks hmem hkl np2 => ?_⟩
        refine ⟨p2, _, rfl, .inl ⟨sql upd_same, fun t nt => ?_⟩⟩
        have sm : Same H1 (upd (upd (upd H1 p1 (SetO w p1 (fun j => decide (j ∈ ls)) cc)) p2 (.lst (ks.map V.int))) t (.tup (ks.map V.int))) := same_new (same_new (same_new (Same.refl H1) np1) np2) nt
        have tt : TupAt (upd (upd (upd H1 p1 (SetO w p1 (fun j => decide (j ∈ ls)) cc)) p2 (.lst (ks.map V.int))) t (.tup (ks.map V.int))) t ks := upd_same
        have k3 : ks.length ≤ 3 := by omega
        have krng : ∀ x ∈ ks, 0 ≤ x ∧ x < (c : Int) := fun x hx => hin x (by simpa using (hmem x).mp hx)
        -- if len(letters) == 3: left = left - 1
        refine ⟨fun σ' H' => σ' = [some (.ref sc), some (.ref st), some (.int c), some (.int 10), some (.int 3), some (.ref d), some (.int (if ks.length = 3 then left - 1 else left)), some (.int (0 + i)), some (.ref t), y9, y10] ∧ Same H1 H' ∧ TupAt H' t ks, ?_, ?_⟩
        · refine ⟨_, rfl, _, _, rfl, .inr (sqt upd_same), rfl, _, rfl, ?_⟩
          refine ite2 (fun e => ?_) fun e => ?_
          · have e3 : ks.length = 3 := by simp at e; omega
            refine ⟨_, rfl, _, _, rfl, rfl, ?_, sm, tt⟩
            rw [if_pos e3]; rfl
          · have e3 : ¬ ks.length = 3 := by simp at e; omega
            refine ⟨?_, sm, tt⟩
            rw [if_neg e3]; rfl
        · rintro σ' H' ⟨rfl, sm, tt⟩
          -- number = amount(..)
          refine ⟨_, rfl, _, rfl, sc, st, ns, rfl, D0.next (bt.trans (But.of sm)) (sa.same sm), fun num H4 bt4 sa4 => ?_⟩
          have b4 : But st H H4 := (bt.trans (But.of sm)).trans bt4
          have d4 : H4 d = some (.dT (enT D)) := bt4 _ _ (sm _ _ hd) (Ne.symm std)
          have t4 : TupAt H4 t ks := bt4 _ _ tt ((sa.same sm).ne_tup tt)
          -- if number != 0 and ..
          refine ⟨_, rfl, rfl, _, rfl, ?_⟩
          refine ite2 (fun e => ?_) fun e => ?_
          · have n0 : num ≠ 0 := by simpa using e
            refine ⟨_, rfl, _, _, rfl, .inr (sqt t4), _, _, rfl, rfl, _, rfl, ?_⟩
            have good : Good1 c (ks, num) := ⟨hks, krng, k3, n0⟩
            -- found[letters] = number
            have store : (ks.length = 3 → 0 ≤ left - 1) → ∃ (left' : Int) (D' : List Mem) (y7 y8 y9' y10' : Option V), [some (V.ref sc), some (.ref st), some (.int c), some (.int 10), some (.int 3), some (.ref d), some (.int (if ks.length = 3 then left - 1 else left)), some (.int (0 + i)), some (.ref t), y9, some (.int num)] = [some (.ref sc), some (.ref st), some (.int c), some (.int 10), some (.int 3), some (.ref d), some (.int left'), y7, y8, y9', y10'] ∧
                But st H (upd H4 d (.dT (enT (put D ks num)))) ∧ StAt ns.length (upd H4 d (.dT (enT (put D ks num)))) st ∧ (upd H4 d (.dT (enT (put D ks num)))) d = some (.dT (enT D')) ∧ GoodD c (i + 1) left' D' := fun h =>
              ⟨_, put D ks num, _, _, _, _, rfl, b4.fresh hd0, sa4.upd std, upd_same, gd.put good h⟩
            have lD : D.length ≤ 1000 := by have := gd.len; omega
            refine ite2 (fun e => ?_) fun e => ?_
            · have e3 : ks.length < 3 := by simp at e; omega
              refine iteT ⟨_, rfl, _, rfl, _, rfl, d, _, rfl, put_en d4 t4 lD, store fun q => by omega⟩
            · refine ⟨_, rfl, _, _, rfl, rfl, _, rfl, ?_⟩
              have e3 : ks.length = 3 := by
                have : ¬ ks.length < 3 := by simp at e; omega
                omega
              refine ite2 (fun e => ?_) fun e => ?_
              · have e4 : 0 ≤ left - 1 := by
                  have : 0 ≤ (if ks.length = 3 then left - 1 else left) := of_decide_eq_true e
                  rw [if_pos e3] at this
                  exact this
                exact ⟨_, rfl, _, rfl, _, rfl, d, _, rfl, put_en d4 t4 lD, store fun _ => e4⟩
              · refine ⟨_, D, _, _, _, _, rfl, b4, sa4, d4, gd.keep ?_⟩
                split <;> omega
          · refine iteF ⟨_, D, _, _, _, _, rfl, b4, sa4, d4, gd.keep ?_⟩
            split <;> omega
    · obtain ⟨left, D, y7, y8, y9, y10, rfl, bt, sa, hd, gd⟩ := hp
      have l10 : D.length ≤ 10 := by
        have := gd.len
        have : r < 11 := r1
        omega
      refine lock_mems (d := d) (i := 8) (j := 5) (D := D) (p := fun _ => true) (show 8 < 11 by decide) (by decide) rfl hd gd.nd (by omega) (fun σ2 H2 q od m Q' hm e0 e1 h2 hq hQ => hQ) fun L ws H2 hL s1 h1 h2 h3 => ?_
      refine ⟨L, ws, rfl, sql h1, h2, fun ys p hp hs np => ?_⟩
      refine ⟨p, _, rfl, .inl ⟨sql upd_same, fun a na => ?_⟩⟩
      have t1 : Same H2 (upd (upd H2 p (.lst (ys.map fun z => V.ref z.1))) a (.tup (ys.map fun z => V.ref z.1))) := same_new (same_new (Same.refl H2) np) na
      have pD : (ys.map (·.2)).Perm D := by
        have := hp.map (fun z : Addr × Mem => z.2)
        rw [h3, List.filter_eq_self.mpr (fun _ _ => rfl)] at this
        exact this
      have ndy : Nd (ys.map (·.2)) := gd.nd.perm pD
      refine q a ys _ ((bt.trans (But.of s1)).trans (But.of t1)) ((sa.same s1).same t1) ⟨upd_same, fun z hz => (h2 z (hp.mem_iff.mp hz)).mono (tups_of t1)⟩ ⟨fun m hm => gd.each m (pD.mem_iff.mp hm), strict_of (List.pairwise_map.mpr hs) ndy, ndy, ?_, ?_⟩
      · rw [tri_perm pD]; exact gd.tri3
      · rw [pD.length_eq]; exact l10
end
end K31

/-! K31W6: the sum made bent. -/
namespace K31
open PySem PySem.Spec PyProof.Rows L2
/-- letters as a key -/
structure KeyOk (c : Int) (k : List Int) : Prop where
  srt : k.Pairwise (· < ·)
  rng : ∀ l ∈ k, 0 ≤ l ∧ l < c
  len : k.length ≤ 3
structure GoodE (c : Int) (n : Nat) (D : List Mem) : Prop where
  each : ∀ m ∈ D, KeyOk c m.1
  nd : Nd D
  tri : tri D ≤ 3
  len : D.length ≤ n
theorem GoodE.add {c : Int} {n : Nat} {D : List Mem} (g : GoodE c n D) {k : List Int} (h : KeyOk c k) (ht : k.length ≠ 3 ∨ k ∈ D.map (·.1)) (v : Int) : GoodE c (n + 1) (put D k v) := by
  refine ⟨fun m hm => ?_, nd_put k v g.nd, ?_, ?_⟩
  · rcases mem_put hm with hm | rfl
    · exact g.each m hm
    · exact h
  · rcases ht with ht | ht
    · have := tri_put D k v
      rw [if_neg ht] at this
      have := g.tri
      omega
    · have : K31.tri (put D k v) = K31.tri D := by
        have e : (put D k v).map (·.1) = D.map (·.1) := by rw [keys_put, if_pos ht]
        have q : ∀ L : List Mem, K31.tri L = ((L.map (·.1)).filter fun k => decide (k.length = 3)).length := fun L => by
          unfold K31.tri
          rw [List.filter_map, List.length_map]
          rfl
        rw [q, q, e]
      rw [this]; exact g.tri
  · have := len_put D k v; have := g.len; omega
theorem GoodE.more {c : Int} {n m : Nat} {D : List Mem} (g : GoodE c n D) (h : n ≤ m) : GoodE c m D := ⟨g.each, g.nd, g.tri, Nat.le_trans g.len h⟩
theorem isKeys_zs {H : Hp} : ∀ {D : List Mem} {bs : List Addr}, IsKeys H (enT D) bs → ∃ zs : List (Addr × List Int), bs = zs.map (·.1) ∧ zs.map (·.2) = D.map (·.1) ∧ ∀ z ∈ zs, TupAt H z.1 z.2
  | [], bs, h => by
    have h : Paired _ [] bs := h
    cases h
    exact ⟨[], rfl, rfl, fun z hz => by simp at hz⟩
  | m :: D, bs, h => by
    have h : Paired _ ((enK m.1, V.int m.2) :: enT D) bs := h
    cases h with
    | cons h1 t =>
      obtain ⟨zs, rfl, e2, e3⟩ := isKeys_zs (D := D) t
      refine ⟨(_, m.1) :: zs, rfl, by rw [List.map_cons, List.map_cons, e2], fun z hz => ?_⟩
      rcases List.mem_cons.mp hz with rfl | hz
      · have h1 : H _ = some (.tup ((enK m.1).map kV)) := h1
        rw [enK_V] at h1
        exact h1
      · exact e3 z hz
/-- the sum out of a good table is good -/
theorem sum_good {c : Int} {n : Nat} {D : List Mem} (g : GoodE c n D) {zs : List (Addr × Mem)} (h : SumOf D zs) : GoodT c n (zs.map (·.2)) := by
  obtain ⟨hp, hs⟩ := h
  have sub : ((D.filter fun m => decide (m.2 ≠ 0)).map (·.1)).Sublist (D.map (·.1)) := List.Sublist.map _ List.filter_sublist
  have nd1 : Nd (D.filter fun m => decide (m.2 ≠ 0)) := sub.nodup g.nd
  have nd2 : Nd (zs.map (·.2)) := nd1.perm hp
  refine ⟨fun m hm => ?_, strict_of hs nd2, nd2, ?_, ?_⟩
  · obtain ⟨h1, h2⟩ := List.mem_filter.mp (hp.mem_iff.mp hm)
    have := g.each m h1
    exact ⟨this.srt, this.rng, this.len, of_decide_eq_true h2⟩
  · rw [tri_perm hp]
    refine Nat.le_trans ?_ g.tri
    unfold tri
    exact (List.filter_sublist.filter _).length_le
  · rw [hp.length_eq]
    exact Nat.le_trans (List.length_filter_le _ _) g.len
/-- filling a table with a sum's members, one behind the other -/
theorem put_take {T : List Mem} (nd : Nd T) {i : Nat} {m : Mem} (h : T[i]? = some m) : put (T.take i) m.1 m.2 = T.take (i + 1) := by
  have e : T.take (i + 1) = T.take i ++ [m] := by rw [List.take_add_one, h]; rfl
  have sub : ((T.take (i + 1)).map (·.1)).Sublist (T.map (·.1)) := (List.take_sublist _ _).map _
  have n1 := sub.nodup nd
  rw [e, List.map_append, List.nodup_append] at n1
  rw [e, put_new]
  intro hm
  exact n1.2.2 m.1 hm m.1 (by simp) rfl
theorem has_get {D : List Mem} {k : List Int} (h : k ∈ D.map (·.1)) : ∃ v, get D k = some v := by
  cases e : get D k with
  | none => exact absurd h (get_none.mp e)
  | some v => exact ⟨v, rfl⟩
theorem keys_same {D : List Mem} {k : List Int} (v : Int) (h : k ∈ D.map (·.1)) : (put D k v).map (·.1) = D.map (·.1) := by rw [keys_put, if_pos h]
structure Bare4 (mg : Str → Option Value) : Prop where
  list : mg "list" = none
section
variable {P : Program} {w : World} {K : PySem.W.Frag} {mg : Str → Option Value} {base : Heap}
def spBent (K : PySem.W.Frag) : Sp := fun vs H Q _ => ∃ (sc st t : Addr) (ns : List Int) (c : Nat) (zs : List (Addr × Mem)), vs = [.ref sc, .ref st, .ref t, .int c] ∧ Drw K H sc st ns ∧ ToldAt H t zs ∧ GoodT c 10 (zs.map (·.2)) ∧
  ∀ (a : Addr) (ws : List (Addr × Mem)) (H' : Hp), But st H H' → StAt ns.length H' st → ToldAt H' a ws → GoodT c 64 (ws.map (·.2)) → Q (.ref a) H'
abbrev nBent : List Str := ["_law_script", "_law_state_here", "_law_told", "_law_count", "_law_found", "_law_letters", "_law_number", "_law_x", "_law_y", "_law_z", "_law_pair"]
theorem scBent : FnScope nBent ["_law_script", "_law_state_here", "_law_told", "_law_count"] (defScope tBent) := ⟨rfl, rfl, rfl, by decide +kernel, rfl, by decide +kernel, by decide +kernel⟩
theorem ok_bent {f g p m l : Addr} {fd gd pd md ld : FuncData} (F : Fun K "_law_made_bent" "_law_made_bent" tBent f fd) (B : Bare mg) (B2 : Bare2 mg) (B4 : Bare4 mg)
    (G : FnOk P w K mg base CX0 1 g gd ["_law_script", "_law_state_here", "_law_many"] (spDraw K)) (kG : PySem.W.keepIn K (.ref g) = true) (bG : Binds K gd ["_law_script", "_law_state_here", "_law_many"] []) (mG : mg "_law_draw" = some (.ref g))
    (GP : FnOk P w K mg base CX0 2 p pd ["_law_script", "_law_state_here", "_law_things"] (spPick K)) (kP : PySem.W.keepIn K (.ref p) = true) (bP : Binds K pd ["_law_script", "_law_state_here", "_law_things"] []) (mP : mg "_law_pick" = some (.ref p))
    (GM : FnOk P w K mg base CX0 1 m md ["_law_found", "_law_letters", "_law_number"] spMore) (kM : PySem.W.keepIn K (.ref m) = true) (bM : Binds K md ["_law_found", "_law_letters", "_law_number"] []) (mM : mg "_law_more" = some (.ref m))
    (GS : FnOk P w K mg base CX0 1 l ld ["_law_found"] spLSum) (kS : PySem.W.keepIn K (.ref l) = true) (bS : Binds K ld ["_law_found"] []) (mS : mg "_law_sum" = some (.ref l)) :
    FnOk P w K mg base CX0 3 f fd ["_law_script", "_law_state_here", "_law_told", "_law_count"] (spBent K) := by
  refine F.ok scBent (fun vs H Q E h => ?_) (fun cdv A outer s H vs Q E hr h => ?_)
  · obtain ⟨sc, st, t, ns, c, zs, rfl, _⟩ := h
    rfl
  · obtain ⟨sc, st, t, ns, c, zs, rfl, D0, T0, g0, q⟩ := h
    have hu := hu_of hr
    have r1 : Room 1 _ := hr.mono (by decide)
    refine ⟨_, pss_cons (ps_set (i := 4) scBent.nd rfl (Or.inl rfl) pe_dnewT)
      (pss_cons (ps_for PassesOwn.never rfl (pi_tup (pv 2)) (pg_tup rfl (pgs_cons (pg_name (i := 5) scBent.nd rfl (Or.inl rfl)) (pgs_cons (pg_name (i := 6) scBent.nd rfl (Or.inl rfl)) pgs_nil)))
        (pss_one (ps_dput hu (pv 4) (pv 5) (pv 6) rfl)))
      (pss_cons (ps_for PassesOwn.never rfl (pi_tup (pv 2)) (pg_tup rfl (pgs_cons (pg_name (i := 5) scBent.nd rfl (Or.inl rfl)) (pgs_cons (pg_name (i := 6) scBent.nd rfl (Or.inl rfl)) pgs_nil)))
        (pss_one (ps_if (PW.pt (pw_and (pt_cmpR op_eq (pe_callB call_len_seq (by rfl) B.len PySem.boot_len (pa_cons (pv 5) pa_nil)) pe_int (nomark _)) (pw_and1 (pt_cmpR op_gt (pv 6) pe_int (nomark _)))))
          (pss_cons (ps_asg (pv 5) (pg_tup rfl (pgs_cons (pg_name (i := 7) scBent.nd rfl (Or.inl rfl)) (pgs_cons (pg_name (i := 8) scBent.nd rfl (Or.inl rfl)) (pgs_cons (pg_name (i := 9) scBent.nd rfl (Or.inl rfl)) pgs_nil)))))
          (pss_one (ps_for PassesOwn.never rfl (pi_list (pe_lst (pa_cons (pe_tup (pa_cons (pv 7) (pa_cons (pv 8) pa_nil))) (pa_cons (pe_tup (pa_cons (pv 7) (pa_cons (pv 9) pa_nil))) (pa_cons (pe_tup (pa_cons (pv 8) (pa_cons (pv 9) pa_nil))) pa_nil))))) (pg_name (i := 10) scBent.nd rfl (Or.inl rfl))
            (pss_one (ps_expr (pe_call GM r1 (by rfl) mM kM bM .nil pass0 (pa_cons (pv 4) (pa_cons (pv 10) (pa_cons (pe_un un_neg (pv 6)) pa_nil)))))))))
          pss_nil)))
      (pss_cons (ps_for PassesOwn.never rfl (pi_list (pe_callTy (call_list_dT rfl) (by rfl) B4.list (by decide +kernel) (pa_cons (pv 4) pa_nil))) (pg_name (i := 5) scBent.nd rfl (Or.inl rfl))
        (pss_one (ps_if (PW.pt (pw_and (pt_cmpR op_eq (pe_callB call_len_seq (by rfl) B.len PySem.boot_len (pa_cons (pv 5) pa_nil)) pe_int (nomark _)) (pw_and1 (pt_cmpR op_gt (pe_dget hu (pv 4) (pv 5) (fun _ _ => rfl)) pe_int (nomark _)))))
          (pss_one (ps_dput hu (pv 4) (pv 5) (pe_un un_neg (pe_dget hu (pv 4) (pv 5) (fun _ _ => rfl))) rfl)) pss_nil)))
      (C8.pss_cut (ps_if (PW.pt (pw_and (pt_cmpR op_eq (pe_call G r1 (by rfl) mG kG bG .nil pass0 (pa_cons (pv 0) (pa_cons (pv 1) (pa_cons pe_int pa_nil)))) pe_int (nomark _)) (pw_and1 (pt_cmpR op_gt (pe_callB call_len_dT (by rfl) B.len PySem.boot_len (pa_cons (pv 4) pa_nil)) pe_int (nomark _)))))
          (pss_cons (ps_set (i := 5) scBent.nd rfl (Or.inl rfl) (pe_call GP hr (by rfl) mP kP bP .nil pass0 (pa_cons (pv 0) (pa_cons (pv 1) (pa_cons (pe_callB (cr_sortTups hr.units) (by rfl) B2.sorted (by decide +kernel) (pa_cons (pe_callTy (call_list_dT rfl) (by rfl) B4.list (by decide +kernel) (pa_cons (pv 4) pa_nil)) pa_nil)) pa_nil)))))
          (pss_one (ps_expr (pe_call GM r1 (by rfl) mM kM bM .nil pass0 (pa_cons (pv 4) (pa_cons (pv 5) (pa_cons (pe_op op_add pe_int (pe_call G r1 (by rfl) mG kG bG .nil pass0 (pa_cons (pv 0) (pa_cons (pv 1) (pa_cons pe_int pa_nil))))) pa_nil))))))) pss_nil)
      (pss_one (ps_ret (pe_call GS r1 (by rfl) mS kS bS .nil pass0 (pa_cons (pv 4) pa_nil)))))))), ?_⟩
    -- found = {}
    intro d hd0
    have std : st ≠ d := D0.sta.ne hd0
    have nd0 := g0.nd
    have lz : zs.length ≤ 10 := by have := g0.len; rw [List.length_map] at this; exact this
    refine ⟨_, rfl, t, rfl, ⟨_, sqt ((same_set (Same.refl H) hd0) _ _ T0.at')⟩, ?_⟩
    refine for_tup (K := K) (a := t) (xs := zs.map fun z => V.ref z.1) (fun i σ H1 => ∃ y5 y6 : Option V, σ = [some (.ref sc), some (.ref st), some (.ref t), some (.int c), some (.ref d), y5, y6, none, none, none, none] ∧ H1 = upd H d (.dT (enT ((zs.map (·.2)).take i))))
      ⟨none, none, rfl, rfl⟩ (fun i σ H1 _ hp => ?_) (fun i x σ H1 hx hp => ?_) fun σ H1 hp => ?_
    · obtain ⟨y5, y6, rfl, rfl⟩ := hp
      exact sqt ((same_set (Same.refl H) hd0) _ _ T0.at')
    · obtain ⟨y5, y6, rfl, rfl⟩ := hp
      rw [List.getElem?_map] at hx
      obtain ⟨z, hz, rfl⟩ := Option.map_eq_some_iff.mp hx
      have sm : Same H (upd H d (.dT (enT ((zs.map (·.2)).take i)))) := same_set (Same.refl H) hd0
      obtain ⟨b, h1, h2⟩ := (T0.mem z (List.mem_of_getElem? hz)).mono (tups_of sm)
      refine ⟨z.1, _, rfl, sqt h1, rfl, _, _, rfl, _, _, rfl, rfl, ?_⟩
      refine ⟨_, rfl, _, rfl, _, rfl, d, _, rfl, put_en upd_same h2 ?_, _, _, rfl, ?_⟩
      · rw [List.length_take, List.length_map]; omega
      · rw [upd_upd, put_take nd0 (by rw [List.getElem?_map, hz]; rfl)]
    · obtain ⟨y5, y6, rfl, rfl⟩ := hp
      rw [List.length_map, ← List.length_map (f := fun z : Addr × Mem => z.2) (as := zs), List.take_length]
      have sm0 : Same H (upd H d (.dT (enT (zs.map (·.2))))) := same_set (Same.refl H) hd0
      have g1 : GoodE c 10 (zs.map (·.2)) := ⟨fun m hm => ⟨(g0.each m hm).srt, (g0.each m hm).rng, (g0.each m hm).len⟩, g0.nd, g0.tri, g0.len⟩
      -- the triples' pairs
      refine ⟨_, rfl, t, rfl, ⟨_, sqt (sm0 _ _ T0.at')⟩, ?_⟩
      refine for_tup (K := K) (a := t) (xs := zs.map fun z => V.ref z.1) (fun i σ H1 => ∃ (D : List Mem) (y5 y6 y7 y8 y9 y10 : Option V), σ = [some (.ref sc), some (.ref st), some (.ref t), some (.int c), some (.ref d), y5, y6, y7, y8, y9, y10] ∧ Same H H1 ∧ H1 d = some (.dT (enT D)) ∧ GoodE c (10 + 3 * i) D)
        ⟨_, y5, y6, none, none, none, none, rfl, sm0, upd_same, g1⟩ (fun i σ H1 _ hp => ?_) (fun i x σ H1 hx hp => ?_) fun σ H1 hp => ?_
      · obtain ⟨D, _, _, _, _, _, _, rfl, sm, _⟩ := hp
        exact sqt (sm _ _ T0.at')
      · obtain ⟨D, y5, y6, y7, y8, y9, y10, rfl, sm, hd, gd⟩ := hp
        rw [List.getElem?_map] at hx
        obtain ⟨z, hz, rfl⟩ := Option.map_eq_some_iff.mp hx
        have hi : i < 10 := Nat.lt_of_lt_of_le (List.getElem?_eq_some_iff.mp hz).1 lz
        have hm := List.mem_of_getElem? hz
        obtain ⟨b, h1, h2⟩ := (T0.mem z hm).mono (tups_of sm)
        have gz := g0.each z.2 (List.mem_map.mpr ⟨z, hm, rfl⟩)
        refine ⟨z.1, _, rfl, sqt h1, rfl, _, _, rfl, _, _, rfl, rfl, ?_⟩
        have skip : ∀ y5 y6 : Option V, ∃ (D : List Mem) (y5' y6' y7' y8' y9' y10' : Option V), [some (V.ref sc), some (.ref st), some (.ref t), some (.int c), some (.ref d), y5, y6, y7, y8, y9, y10] = [some (.ref sc), some (.ref st), some (.ref t), some (.int c), some (.ref d), y5', y6', y7', y8', y9', y10'] ∧ Same H H1 ∧ H1 d = some (.dT (enT D)) ∧ GoodE c (10 + 3 * (i + 1)) D := fun y5 y6 =>
          ⟨D, y5, y6, y7, y8, y9, y10, rfl, sm, hd, gd.more (by omega)⟩
        refine ⟨_, rfl, _, _, rfl, .inr (sqt h2), rfl, _, rfl, ?_⟩
        refine ite2 (fun e => ?_) fun _ => iteF (skip _ _)
        have e3 : z.2.1.length = 3 := by simp at e; omega
        refine ⟨_, rfl, _, _, rfl, rfl, _, rfl, ?_⟩
        refine ite2 (fun _ => ?_) fun _ => skip _ _
        obtain ⟨x1, x2, x3, ex⟩ := three e3
        have hs := gz.srt
        have hr := gz.rng
        rw [ex] at h2 hs hr
        have o : x1 < x2 ∧ x1 < x3 ∧ x2 < x3 := by simp at hs; omega
        have h1r := hr x1 (by simp)
        have h2r := hr x2 (by simp)
        have h3r := hr x3 (by simp)
        have pair : ∀ u v : Int, u < v → 0 ≤ u → v < c → KeyOk c [u, v] := fun u v h h0 hc => ⟨by simp [h], fun l hl => by
          have : l = u ∨ l = v := by simpa using hl
          omega, by simp⟩
        -- x, y, z = letters
        refine ⟨_, rfl, b, _, rfl, sqt h2, rfl, _, _, rfl, _, _, rfl, _, _, rfl, rfl, ?_⟩
        -- the three pairs
        refine ⟨_, rfl, _, rfl, by show 2 ≤ sizeLine; decide, fun t1 n1 => ⟨_, rfl, _, rfl, by show 2 ≤ sizeLine; decide, fun t2 n2 => ⟨_, rfl, _, rfl, by show 2 ≤ sizeLine; decide, fun t3 n3 => ⟨by show 3 ≤ sizeLine; decide, fun ll nl => ?_⟩⟩⟩⟩
        have s1 := same_new (o := .tup [.int x1, .int x2]) (Same.refl H1) n1
        have s2 := same_new (o := .tup [.int x1, .int x3]) (Same.refl _) n2
        have s3 := same_new (o := .tup [.int x2, .int x3]) (Same.refl _) n3
        have s4 := same_new (o := .lst [.ref t1, .ref t2, .ref t3]) (Same.refl _) nl
        have a1 : TupAt _ t1 [x1, x2] := s4 _ _ (s3 _ _ (s2 _ _ upd_same))
        have a2 : TupAt _ t2 [x1, x3] := s4 _ _ (s3 _ _ upd_same)
        have a3 : TupAt _ t3 [x2, x3] := s4 _ _ upd_same
        have sall := ((s1.trans s2).trans s3).trans s4
        have dl : d ≠ ll := ne_of_none (s3 _ _ (s2 _ _ (s1 _ _ hd))) nl
        have ln : H ll = none := by
          have := ((sm.trans s1).trans s2).trans s3
          exact this.free nl
        refine ⟨ll, rfl, ⟨_, sql upd_same⟩, ?_⟩
        refine for_list (K := K) (a := ll) (xs := [(t1, [x1, x2]), (t2, [x1, x3]), (t3, [x2, x3])].map fun z : Addr × List Int => V.ref z.1) (fun j σ H2 => ∃ (D : List Mem) (y10 : Option V), σ = [some (.ref sc), some (.ref st), some (.ref t), some (.int c), some (.ref d), some (.ref b), some (.int z.2.2), some (.int x1), some (.int x2), some (.int x3), y10] ∧ Same H H2 ∧ H2 d = some (.dT (enT D)) ∧ GoodE c (10 + 3 * i + j) D ∧
            H2 ll = some (.lst [.ref t1, .ref t2, .ref t3]) ∧ ∀ v ∈ [(t1, [x1, x2]), (t2, [x1, x3]), (t3, [x2, x3])], TupAt H2 v.1 v.2)
          ⟨D, y10, rfl, sm.trans sall, sall _ _ hd, gd, upd_same, fun v hv => ?_⟩ (fun j σ H2 _ hp => ?_) (fun j x σ H2 hx hp => ?_) fun σ H2 hp => ?_
        · simp only [List.mem_cons, List.not_mem_nil, or_false] at hv
          rcases hv with rfl | rfl | rfl
          · exact a1
          · exact a2
          · exact a3
        · obtain ⟨D, y10, rfl, _, _, _, h, _⟩ := hp
          exact sql h
        · obtain ⟨D, y10, rfl, sm2, hd2, gd2, hl2, ht2⟩ := hp
          rw [List.getElem?_map] at hx
          obtain ⟨v, hv, rfl⟩ := Option.map_eq_some_iff.mp hx
          have hj : j < 3 := (List.getElem?_eq_some_iff.mp hv).1
          have vm := List.mem_of_getElem? hv
          have vk : KeyOk c v.2 ∧ v.2.length = 2 := by
            simp only [List.mem_cons, List.not_mem_nil, or_false] at vm
            rcases vm with rfl | rfl | rfl
            · exact ⟨pair _ _ o.1 h1r.1 h2r.2, rfl⟩
            · exact ⟨pair _ _ o.2.1 h1r.1 h3r.2, rfl⟩
            · exact ⟨pair _ _ o.2.2 h2r.1 h3r.2, rfl⟩
          have tv := ht2 v vm
          refine ⟨_, rfl, _, rfl, _, rfl, _, rfl, d, v.1, D, v.2, _, rfl, hd2, tv, by have := gd2.len; omega, ?_⟩
          refine ⟨_, _, rfl, fun a o e => ?_, upd_same, gd2.add vk.1 (.inl (by omega)) _, by rw [upd_ne dl.symm]; exact hl2, fun u hu => ?_⟩
          · rw [upd_ne (ne_of_none e hd0)]; exact sm2 _ _ e
          · show upd H2 d _ u.1 = _
            rw [upd_ne (ne_of (ht2 u hu) hd2 (by intro z; cases z))]
            exact ht2 u hu
        · obtain ⟨D, y10, rfl, sm2, hd2, gd2, hl2, ht2⟩ := hp
          exact ⟨D, _, _, _, _, _, _, rfl, sm2, hd2, gd2⟩
      · obtain ⟨D, y5, y6, y7, y8, y9, y10, rfl, sm, hd, gd⟩ := hp
        rw [List.length_map] at gd
        have gd : GoodE c 40 D := gd.more (by omega)
        -- for letters in list(found)
        refine ⟨_, rfl, d, _, rfl, .inl hd, fun lp bs np isk => ?_⟩
        obtain ⟨ks, rfl, ek, tk⟩ := isKeys_zs isk
        have dlp : d ≠ lp := ne_of_none hd np
        have s1 := same_new (o := .lst ((ks.map (·.1)).map V.ref)) (Same.refl H1) np
        refine ⟨lp, rfl, ⟨_, sql upd_same⟩, ?_⟩
        refine for_list (K := K) (a := lp) (xs := (ks.map (·.1)).map V.ref) (fun j σ H2 => ∃ (D' : List Mem) (y5 : Option V), σ = [some (.ref sc), some (.ref st), some (.ref t), some (.int c), some (.ref d), y5, y6, y7, y8, y9, y10] ∧ Same H H2 ∧ H2 d = some (.dT (enT D')) ∧ Nd D' ∧ D'.map (·.1) = D.map (·.1) ∧
            H2 lp = some (.lst ((ks.map (·.1)).map V.ref)) ∧ ∀ v ∈ ks, TupAt H2 v.1 v.2)
          ⟨D, y5, rfl, sm.trans s1, s1 _ _ hd, gd.nd, rfl, upd_same, fun v hv => s1 _ _ (tk v hv)⟩ (fun j σ H2 _ hp => ?_) (fun j x σ H2 hx hp => ?_) fun σ H2 hp => ?_
        · obtain ⟨D', y5, rfl, _, _, _, _, h, _⟩ := hp
          exact sql h
        · obtain ⟨D', y5, rfl, sm2, hd2, nd2, e2, hl2, ht2⟩ := hp
          rw [List.map_map, List.getElem?_map] at hx
          obtain ⟨v, hv, rfl⟩ := Option.map_eq_some_iff.mp hx
          have vm := List.mem_of_getElem? hv
          have tv := ht2 v vm
          have vk : v.2 ∈ D'.map (·.1) := by rw [e2, ← ek]; exact List.mem_map.mpr ⟨v, vm, rfl⟩
          obtain ⟨num, gv⟩ := has_get vk
          have dg : DGet H2 d (.ref v.1) (some (.int num)) := by
            have := get_en (d := d) (b := v.1) (D := D') (k := v.2) (.inl hd2) tv
            rw [gv] at this
            exact this
          have l2 : D'.length ≤ 1000 := by
            have := congrArg List.length e2
            rw [List.length_map, List.length_map] at this
            have := gd.len
            omega
          refine ⟨_, rfl, _, _, rfl, .inr (sqt tv), rfl, _, rfl, ?_⟩
          refine ite2 (fun _ => ?_) fun _ => iteF ⟨D', _, rfl, sm2, hd2, nd2, e2, hl2, ht2⟩
          refine ⟨_, rfl, _, rfl, d, _, rfl, dg, _, _, rfl, rfl, _, rfl, ?_⟩
          refine ite2 (fun _ => ?_) fun _ => ⟨D', _, rfl, sm2, hd2, nd2, e2, hl2, ht2⟩
          refine ⟨_, rfl, _, rfl, d, _, rfl, dg, _, rfl, _, rfl, _, rfl, d, _, rfl, put_en hd2 tv l2, ?_⟩
          refine ⟨_, _, rfl, fun a o e => ?_, upd_same, nd_put _ _ nd2, by rw [keys_same _ vk, e2], by rw [upd_ne dlp.symm]; exact hl2, fun u hu => ?_⟩
          · rw [upd_ne (ne_of_none e hd0)]; exact sm2 _ _ e
          · show upd H2 d _ u.1 = _
            rw [upd_ne (ne_of (ht2 u hu) hd2 (by intro z; cases z))]
            exact ht2 u hu
        · obtain ⟨D', y5, rfl, sm2, hd2, nd2, e2, hl2, ht2⟩ := hp
          have keys_tri : ∀ L : List Mem, K31.tri L = ((L.map (·.1)).filter fun k => decide (k.length = 3)).length := fun L => by
            unfold K31.tri
            rw [List.filter_map, List.length_map]
            rfl
          have gd2 : GoodE c 40 D' := by
            refine ⟨fun m hm => ?_, nd2, ?_, ?_⟩
            · have : m.1 ∈ D.map (·.1) := by rw [← e2]; exact List.mem_map.mpr ⟨m, hm, rfl⟩
              obtain ⟨m', hm', e⟩ := List.mem_map.mp this
              rw [← e]
              exact gd.each m' hm'
            · rw [keys_tri, e2, ← keys_tri]; exact gd.tri
            · have := congrArg List.length e2
              rw [List.length_map, List.length_map] at this
              rw [this]; exact gd.len
          -- if draw(.., 4) == 0 and len(found) > 0
          refine ⟨fun σ' H' => ∃ (D2 : List Mem) (y5 : Option V), σ' = [some (.ref sc), some (.ref st), some (.ref t), some (.int c), some (.ref d), y5, y6, y7, y8, y9, y10] ∧ But st H H' ∧ StAt ns.length H' st ∧ H' d = some (.dT (enT D2)) ∧ GoodE c 64 D2, ?_, ?_⟩
          · refine ⟨_, rfl, _, rfl, sc, st, ns, _, rfl, D0.same sm2, by decide, by decide, fun r H3 r0 r1' bt3 sa3 => ?_⟩
            have b3 : But st H H3 := (But.of sm2).trans bt3
            have hd3 : H3 d = some (.dT (enT D')) := bt3 _ _ hd2 (Ne.symm std)
            have skip : ∃ (D2 : List Mem) (y5' : Option V), [some (V.ref sc), some (.ref st), some (.ref t), some (.int c), some (.ref d), y5, y6, y7, y8, y9, y10] = [some (.ref sc), some (.ref st), some (.ref t), some (.int c), some (.ref d), y5', y6, y7, y8, y9, y10] ∧ But st H H3 ∧ StAt ns.length H3 st ∧ H3 d = some (.dT (enT D2)) ∧ GoodE c 64 D2 :=
              ⟨D', y5, rfl, b3, sa3, hd3, gd2.more (by decide)⟩
            refine ⟨rfl, _, rfl, ?_⟩
            refine ite2 (fun _ => ?_) fun _ => iteF skip
            refine ⟨_, rfl, d, _, rfl, hd3, _, _, rfl, rfl, _, rfl, ?_⟩
            refine ite2 (fun e => ?_) fun _ => skip
            -- letters = pick(.., sorted(list(found)))
            refine ⟨_, rfl, _, rfl, _, rfl, d, _, rfl, .inl hd3, fun p2 bs2 np2 isk2 => ?_⟩
            obtain ⟨ks2, rfl, ek2, tk2⟩ := isKeys_zs isk2
            have s4 := same_new (o := .lst ((ks2.map (·.1)).map V.ref)) (Same.refl H3) np2
            refine ⟨p2, ks2, rfl, sql (by rw [upd_same, List.map_map]; rfl), fun v hv => s4 _ _ (tk2 v hv), fun ys p3 hperm _ np3 => ?_⟩
            have s5 := same_new (o := .lst (ys.map fun z => V.ref z.1)) (Same.refl _) np3
            have s45 := s4.trans s5
            have sa5 := sa3.same s45
            have ylen : ys.length = D'.length := by
              rw [hperm.length_eq, ← List.length_map (f := (·.2)), ek2, List.length_map]
            refine ⟨sc, st, p3, ns, _, rfl, D0.next (b3.trans (But.of s45)) sa5, sql upd_same, fun z => ?_, ?_, ?_, fun v H6 hv bt6 sa6 => ?_⟩
            · exact (sa3.same s4).ne np3 z.symm
            · have e' : decide ((0 : Int) < ((enT D').length : Nat)) = true := e
              rw [enT_len] at e'
              have e'' := of_decide_eq_true e'
              rw [List.length_map, ylen]
              omega
            · have := gd2.len
              rw [List.length_map, ylen]
              omega
            obtain ⟨u, hu, rfl⟩ := List.mem_map.mp hv
            have hu2 : u ∈ ks2 := hperm.mem_iff.mp hu
            have tu5 := s45 _ _ (tk2 u hu2)
            have tu6 : TupAt H6 u.1 u.2 := bt6 _ _ tu5 (sa5.ne_tup tu5)
            have uk : u.2 ∈ D'.map (·.1) := by rw [← ek2]; exact List.mem_map.mpr ⟨u, hu2, rfl⟩
            have hd6 : H6 d = some (.dT (enT D')) := bt6 _ _ (s45 _ _ hd3) (Ne.symm std)
            have b6 : But st H H6 := (b3.trans (But.of s45)).trans bt6
            -- more(found, letters, 1 + draw(.., 3))
            refine ⟨_, rfl, _, rfl, _, rfl, _, rfl, sc, st, ns, _, rfl, D0.next b6 sa6, by decide, by decide, fun r2 H7 _ _ bt7 sa7 => ?_⟩
            have tu7 : TupAt H7 u.1 u.2 := bt7 _ _ tu6 (sa6.ne_tup tu6)
            have hd7 : H7 d = some (.dT (enT D')) := bt7 _ _ hd6 (Ne.symm std)
            have uok : KeyOk c u.2 := by
              obtain ⟨m, hm, e⟩ := List.mem_map.mp uk
              rw [← e]
              exact gd2.each m hm
            refine ⟨_, _, rfl, rfl, d, u.1, D', u.2, _, rfl, hd7, tu7, by have := gd2.len; omega, ?_⟩
            exact ⟨_, _, rfl, (b6.trans bt7).fresh hd0, sa7.upd std, upd_same, (gd2.add uok (.inr uk) _).more (by decide)⟩
          · rintro σ' H' ⟨D2, y5', rfl, b, sa, hd', g2⟩
            refine ⟨_, rfl, d, D2, rfl, hd', g2.nd, by have := g2.len; omega, fun a ws H7 s7 T7 S7 => ?_⟩
            exact q a ws H7 (b.trans (But.of s7)) (sa.same s7) T7 (sum_good g2 S7)
end
end K31

/-! K31W7: bent, by all rows; what is a sum, by the law. -/
namespace K31
open PySem PySem.Spec PyProof.Rows L2
theorem cut_take (xs : List V) (k : Nat) : cutV xs none (some (k : Int)) = xs.take k := by
  unfold cutV
  rw [show HT.sIx xs.length 0 none = 0 from HT.sIx_none _ _, show HT.sIx xs.length xs.length (some (k : Int)) = min k xs.length from HT.sIx_nat _ _ _, List.drop_zero, Nat.sub_zero]
  by_cases h : k ≤ xs.length
  · rw [Nat.min_eq_left h]
  · rw [Nat.min_eq_right (by omega), List.take_length, List.take_of_length_le (by omega)]
theorem cut_drop (xs : List V) (k : Nat) : cutV xs (some (k : Int)) none = xs.drop k := by
  unfold cutV
  rw [show HT.sIx xs.length xs.length none = xs.length from HT.sIx_none _ _, show HT.sIx xs.length 0 (some (k : Int)) = min k xs.length from HT.sIx_nat _ _ _]
  rw [List.take_of_length_le (by rw [List.length_drop]; exact Nat.le_refl _)]
  by_cases h : k ≤ xs.length
  · rw [Nat.min_eq_left h]
  · rw [Nat.min_eq_right (by omega), List.drop_length, List.drop_of_length_le (by omega)]
/-- x[:k] + (1,) + x[k + 1:] -/
abbrev tOne (a b : Nat) : TE := tOp rCatS (tOp rCatS (tSl rSlS (tVar a) tNoPart (tPart (tVar b))) (tTup (tCons (tC (.int 1)) tNil))) (tSl rSlS (tVar a) (tPart (tOp (rI0 fun i j => V.int (i + j)) (tVar b) (tC (.int 1)))) tNoPart)
theorem rd_one {a b : Nat} {r : Addr} {k : Nat} {row : List Int} {σ : L2.St} {H : Hp} {Q : VK} {i : Int} (ha : σ[a]? = some (some (.ref r))) (hb : σ[b]? = some (some (.int i))) (hi : i = (k : Nat)) (hr : TupAt H r row) (hk : k < row.length) (hl : row.length ≤ 100)
    (q : ∀ (c : Addr) (H' : Hp), Same H H' → TupAt H' c (row.set k 1) → Q (.ref c) H') : tOne a b σ H Q := by
  subst hi
  have lm : (row.map V.int).length = row.length := List.length_map ..
  refine ⟨_, ha, _, hb, _, rfl, r, _, rfl, hr, fun c1 H1 s1 e1 => ⟨by show 1 ≤ sizeLine; decide, fun t nt => ⟨c1, t, _, _, rfl, rfl, by rw [upd_ne (ne_of_none e1 nt)]; exact e1, upd_same, ?_, fun c2 H2 s2 e2 => ?_⟩⟩⟩
  · rw [cut_take, List.length_take, lm]
    show min k row.length + 1 ≤ 1000
    omega
  have s02 : Same H H2 := (s1.trans (same_new (Same.refl H1) nt)).trans s2
  refine ⟨_, ha, _, hb, _, _, rfl, rfl, _, rfl, r, _, rfl, s02 _ _ hr, fun c3 H3 s3 e3 => ⟨c2, c3, _, _, rfl, rfl, s3 _ _ e2, e3, ?_, fun c4 H4 s4 e4 => q c4 H4 ((s02.trans s3).trans s4) ?_⟩⟩
  · rw [cut_take, show ((k : Int) + 1) = ((k + 1 : Nat) : Int) by omega, cut_drop, List.length_append, List.length_take, List.length_drop, lm]
    show min k row.length + 1 + (row.length - (k + 1)) ≤ 1000
    omega
  · rw [cut_take, show ((k : Int) + 1) = ((k + 1 : Nat) : Int) by omega, cut_drop] at e4
    show H4 c4 = some (.tup ((row.set k 1).map V.int))
    rw [e4, List.set_eq_take_append_cons_drop, if_pos hk, List.map_append, List.map_cons, List.map_take, List.map_drop, List.append_assoc]
    rfl
theorem rowsM_nodup : ∀ n : Nat, (rowsM n).Nodup
  | 0 => by simp [rowsM]
  | n + 1 => by
    have key : ∀ R : List (List Int), R.Nodup → (longer R).Nodup := fun R => by
      induction R with
      | nil => intro _; exact List.nodup_nil
      | cons r R ih =>
        intro h
        obtain ⟨h1, h2⟩ := List.nodup_cons.mp h
        have e : longer (r :: R) = (r ++ [0]) :: ((r ++ [1]) :: longer R) := rfl
        have out : ∀ (b : Int), r ++ [b] ∉ longer R := fun b hm => by
          unfold longer at hm
          obtain ⟨s, hs, hb⟩ := List.mem_flatMap.mp hm
          have hb : r ++ [b] = s ++ [0] ∨ r ++ [b] = s ++ [1] := by simpa using hb
          rcases hb with hb | hb <;> exact h1 (by rw [(List.append_inj' hb rfl).1]; exact hs)
        rw [e]
        refine List.nodup_cons.mpr ⟨fun hm => ?_, List.nodup_cons.mpr ⟨out 1, ih h2⟩⟩
        rcases List.mem_cons.mp hm with hm | hm
        · exact absurd (List.append_inj' hm rfl).2 (by decide)
        · exact out 0 hm
    exact key _ (rowsM_nodup n)
/-- the table of all rows' worths -/
def worths (T : List Mem) (R : List (List Int)) : List Mem := R.map fun r => (r, worth T (at0 r))
theorem worths_nd {T : List Mem} {R : List (List Int)} (h : R.Nodup) : Nd (worths T R) := by
  unfold Nd worths
  rw [List.map_map]
  have : R.map ((fun m : Mem => m.1) ∘ fun r => (r, worth T (at0 r))) = R := by
    have e : R.map ((fun m : Mem => m.1) ∘ fun r => (r, worth T (at0 r))) = R.map id := List.map_congr_left fun _ _ => rfl
    rw [e, List.map_id]
  rw [this]; exact h
theorem worths_get {T : List Mem} {R : List (List Int)} (h : R.Nodup) {r : List Int} (hr : r ∈ R) : get (worths T R) r = some (worth T (at0 r)) :=
  mem_get (worths_nd h) (List.mem_map.mpr ⟨r, hr, rfl⟩)
/-- what the law asks of a row and two places -/
def Ineq (T : List Mem) (r : List Int) (p q : Nat) : Prop := at0 r p + at0 r q = 0 → worth T (at0 r) + worth T (at0 ((r.set p 1).set q 1)) ≤ worth T (at0 (r.set p 1)) + worth T (at0 (r.set q 1))
theorem row_set {c : Nat} {r : List Int} (h : r ∈ rowsM c) (p : Nat) : r.set p 1 ∈ rowsM c := by
  obtain ⟨h1, h2⟩ := (rowsM_mem c r).mp h
  refine (rowsM_mem c _).mpr ⟨by rw [List.length_set]; exact h1, fun x hx => ?_⟩
  rcases List.mem_or_eq_of_mem_set hx with hx | hx
  · exact h2 x hx
  · exact .inr hx
section
variable {P : Program} {w : World} {K : PySem.W.Frag} {mg : Str → Option Value} {base : Heap}
def spByRows : Sp := fun vs H Q _ => ∃ (t : Addr) (c : Nat) (zs : List (Addr × Mem)), vs = [.ref t, .int c] ∧ ToldAt H t zs ∧ (∀ z ∈ zs, ∀ l ∈ z.2.1, 0 ≤ l ∧ l < (c : Int)) ∧ c ≤ 5 ∧
  ∀ (b : Bool) (H' : Hp), Same H H' → (b = true ↔ BentR c (zs.map (·.2))) → Q (.bl b) H'
theorem scByRows : FnScope ["_law_told", "_law_count", "_law_rows_here", "_law_worth_here", "_law_row", "_law_one", "_law_place", "_law_other", "_law_up", "_law_left", "_law_both"] ["_law_told", "_law_count"] (defScope tByRows) := ⟨rfl, rfl, rfl, by decide +kernel, rfl, by decide +kernel, by decide +kernel⟩
theorem ok_byrows {f g h : Addr} {fd gd hd : FuncData} (F : Fun K "_law_bent_by_rows" "_law_bent_by_rows" tByRows f fd) (B : Bare mg)
    (G : FnOk P w K mg base CX0 1 g gd ["_law_count"] spRows) (kG : PySem.W.keepIn K (.ref g) = true) (bG : Binds K gd ["_law_count"] []) (mG : mg "_law_rows" = some (.ref g))
    (GW : FnOk P w K mg base CX0 1 h hd ["_law_told", "_law_row"] spWorth) (kW : PySem.W.keepIn K (.ref h) = true) (bW : Binds K hd ["_law_told", "_law_row"] []) (mW : mg "_law_worth" = some (.ref h)) :
    FnOk P w K mg base CX0 2 f fd ["_law_told", "_law_count"] spByRows := by
  refine F.ok scByRows (fun vs H Q E h => ?_) (fun cdv A outer s H vs Q E hr h => ?_)
  · obtain ⟨t, c, zs, rfl, _⟩ := h
    rfl
  · obtain ⟨t, c, zs, rfl, T0, rng, c5, q⟩ := h
    have hu := hu_of hr
    refine ⟨_, pss_cons (ps_set (i := 2) scByRows.nd rfl (Or.inl rfl) (pe_call G hr (by rfl) mG kG bG .nil pass0 (pa_cons (pv 1) pa_nil)))
      (pss_cons (ps_set (i := 3) scByRows.nd rfl (Or.inl rfl) pe_dnewT)
      (pss_cons (ps_for PassesOwn.never rfl (pi_list (pv 2)) (pg_name (i := 4) scByRows.nd rfl (Or.inl rfl))
        (pss_one (ps_dput hu (pv 3) (pv 4) (pe_call GW hr (by rfl) mW kW bW .nil pass0 (pa_cons (pv 0) (pa_cons (pv 4) pa_nil))) rfl)))
      (pss_cons (ps_for PassesOwn.never rfl (pi_list (pv 2)) (pg_name (i := 5) scByRows.nd rfl (Or.inl rfl))
        (pss_one (ps_for PassesOwn.never rfl (pi_range1 rfl B.range (pa_cons (pv 1) pa_nil)) (pg_name (i := 6) scByRows.nd rfl (Or.inl rfl))
          (pss_one (ps_for PassesOwn.never rfl (pi_range1 rfl B.range (pa_cons (pv 6) pa_nil)) (pg_name (i := 7) scByRows.nd rfl (Or.inl rfl))
            (pss_one (ps_if (pt_cmpR op_eq (pe_op op_add (pe_ix ix_tup (pv 5) (pv 6) (fun _ _ => rfl)) (pe_ix ix_tup (pv 5) (pv 7) (fun _ _ => rfl))) pe_int (nomark _))
              (pss_cons (ps_set (i := 8) scByRows.nd rfl (Or.inl rfl) (pe_op op_catS (pe_op op_catS (pe_slice sl_tupS (pv 5) po_none (po_some (pv 6))) (pe_tup (pa_cons pe_int pa_nil))) (pe_slice sl_tupS (pv 5) (po_some (pe_op op_add (pv 6) pe_int)) po_none)))
              (pss_cons (ps_set (i := 9) scByRows.nd rfl (Or.inl rfl) (pe_op op_catS (pe_op op_catS (pe_slice sl_tupS (pv 5) po_none (po_some (pv 7))) (pe_tup (pa_cons pe_int pa_nil))) (pe_slice sl_tupS (pv 5) (po_some (pe_op op_add (pv 7) pe_int)) po_none)))
              (pss_cons (ps_set (i := 10) scByRows.nd rfl (Or.inl rfl) (pe_op op_catS (pe_op op_catS (pe_slice sl_tupS (pv 8) po_none (po_some (pv 7))) (pe_tup (pa_cons pe_int pa_nil))) (pe_slice sl_tupS (pv 8) (po_some (pe_op op_add (pv 7) pe_int)) po_none)))
              (pss_one (ps_if (pt_cmpR op_gt (pe_op op_add (pe_dget hu (pv 3) (pv 5) (fun _ _ => rfl)) (pe_dget hu (pv 3) (pv 10) (fun _ _ => rfl))) (pe_op op_add (pe_dget hu (pv 3) (pv 8) (fun _ _ => rfl)) (pe_dget hu (pv 3) (pv 9) (fun _ _ => rfl))) (nomark _))
                (pss_one (ps_ret pe_bl)) pss_nil)))))
              pss_nil)))))))
      (pss_one (ps_ret pe_bl))))), ?_⟩
    refine ⟨_, rfl, c, rfl, by omega, fun p rz H1 np s1 ra ez => ?_⟩
    intro d nd1
    have hd0 : H d = none := s1.free nd1
    have lz : rz.length = 2 ^ c := by rw [← rowsM_len, ← ez, List.length_map]
    have l32 : 2 ^ c ≤ 32 := Nat.pow_le_pow_right (by decide) c5
    have pd : p ≠ d := ne_of_none ra.at' nd1
    have wnd : Nd (worths (zs.map (·.2)) (rowsM c)) := worths_nd (rowsM_nodup c)
    have wlen : (worths (zs.map (·.2)) (rowsM c)).length = 2 ^ c := by unfold worths; rw [List.length_map, rowsM_len]
    -- the rows' worths
    refine ⟨_, rfl, p, rfl, ⟨_, sql ((same_set (Same.refl H1) nd1) _ _ ra.at')⟩, ?_⟩
    refine for_list (K := K) (a := p) (xs := rz.map fun z => V.ref z.1) (fun i σ H2 => ∃ y4 : Option V, σ = [some (.ref t), some (.int c), some (.ref p), some (.ref d), y4, none, none, none, none, none, none] ∧ H2 = upd H1 d (.dT (enT ((worths (zs.map (·.2)) (rowsM c)).take i))))
      ⟨none, rfl, rfl⟩ (fun i σ H2 _ hp => ?_) (fun i x σ H2 hx hp => ?_) fun σ H2 hp => ?_
    · obtain ⟨y4, rfl, rfl⟩ := hp
      exact sql ((same_set (Same.refl H1) nd1) _ _ ra.at')
    · obtain ⟨y4, rfl, rfl⟩ := hp
      rw [List.getElem?_map] at hx
      obtain ⟨z, hz, rfl⟩ := Option.map_eq_some_iff.mp hx
      have sm : Same H1 (upd H1 d (.dT (enT ((worths (zs.map (·.2)) (rowsM c)).take i)))) := same_set (Same.refl H1) nd1
      have hzr : (rowsM c)[i]? = some z.2 := by rw [← ez, List.getElem?_map, hz]; rfl
      have zr := List.mem_of_getElem? hzr
      obtain ⟨e1, e2⟩ := (rowsM_mem c _).mp zr
      have tz := sm _ _ (ra.mem z (List.mem_of_getElem? hz))
      refine ⟨_, rfl, _, rfl, t, z.1, zs, z.2, rfl, T0.mono (tups_of (s1.trans sm)), tz, e2, by rw [e1]; exact rng, ?_⟩
      refine ⟨_, rfl, _, rfl, d, _, rfl, put_en upd_same tz ?_, _, rfl, ?_⟩
      · rw [List.length_take, wlen]; omega
      · rw [upd_upd, put_take wnd (m := (z.2, worth (zs.map (·.2)) (at0 z.2)))]
        unfold worths
        rw [List.getElem?_map, hzr]
        rfl
    · obtain ⟨y4, rfl, rfl⟩ := hp
      rw [List.length_map, lz, ← wlen, List.take_length]
      have sa1 : Same H1 (upd H1 d (.dT (enT (worths (zs.map (·.2)) (rowsM c))))) := same_set (Same.refl H1) nd1
      have sHa := s1.trans sa1
      have hda : (upd H1 d (.dT (enT (worths (zs.map (·.2)) (rowsM c))))) d = some (.dT (enT (worths (zs.map (·.2)) (rowsM c)))) := upd_same
      have hpa := sa1 _ _ ra.at'
      have hta : ∀ z ∈ rz, TupAt (upd H1 d (.dT (enT (worths (zs.map (·.2)) (rowsM c))))) z.1 z.2 := fun z hz => sa1 _ _ (ra.mem z hz)
      generalize upd H1 d (.dT (enT (worths (zs.map (·.2)) (rowsM c)))) = Ha at sa1 sHa hda hpa hta
      -- all rows
      refine ⟨_, rfl, p, rfl, ⟨_, sql hpa⟩, ?_⟩
      refine for_list (K := K) (a := p) (xs := rz.map fun z => V.ref z.1) (fun i σ Hx => ∃ y5 y6 y7 y8 y9 y10 : Option V, σ = [some (.ref t), some (.int c), some (.ref p), some (.ref d), y4, y5, y6, y7, y8, y9, y10] ∧ Same Ha Hx ∧ ∀ (k : Nat) (r : List Int), k < i → (rowsM c)[k]? = some r → ∀ pl ot : Nat, ot < pl → pl < c → Ineq (zs.map (·.2)) r pl ot)
        ⟨_, _, _, _, _, _, rfl, Same.refl _, fun k r hk => absurd hk (Nat.not_lt_zero _)⟩ (fun i σ Hx _ hp => ?_) (fun i x σ Hx hx hp => ?_) fun σ Hx hp => ?_
      · obtain ⟨_, _, _, _, _, _, rfl, sm, _⟩ := hp
        exact sql (sm _ _ hpa)
      · obtain ⟨y5, y6, y7, y8, y9, y10, rfl, sm, done⟩ := hp
        rw [List.getElem?_map] at hx
        obtain ⟨z, hz, rfl⟩ := Option.map_eq_some_iff.mp hx
        have hzr : (rowsM c)[i]? = some z.2 := by rw [← ez, List.getElem?_map, hz]; rfl
        have zr := List.mem_of_getElem? hzr
        obtain ⟨e1, e2⟩ := (rowsM_mem c _).mp zr
        have tz0 := hta z (List.mem_of_getElem? hz)
        -- for place in range(count)
        refine ⟨_, rfl, c, rfl, by omega, by omega, ?_⟩
        refine for_range (lo := 0) (n := ((c : Nat) : Int).toNat) (fun j σ Hx => ∃ y6 y7 y8 y9 y10 : Option V, σ = [some (.ref t), some (.int c), some (.ref p), some (.ref d), y4, some (.ref z.1), y6, y7, y8, y9, y10] ∧ Same Ha Hx ∧ ∀ pl ot : Nat, pl < j → ot < pl → Ineq (zs.map (·.2)) z.2 pl ot)
          ⟨_, _, _, _, _, rfl, sm, fun pl ot h => absurd h (Nat.not_lt_zero _)⟩ (fun j σ Hx hj hp => ?_) fun σ Hx hp => ?_
        · obtain ⟨y6, y7, y8, y9, y10, rfl, sm, done2⟩ := hp
          have jc : j < c := by omega
          -- for other in range(place)
          refine ⟨_, rfl, _, rfl, by omega, by omega, ?_⟩
          refine for_range (lo := 0) (n := (0 + (j : Int)).toNat) (fun k σ Hx => ∃ y7 y8 y9 y10 : Option V, σ = [some (.ref t), some (.int c), some (.ref p), some (.ref d), y4, some (.ref z.1), some (.int (0 + j)), y7, y8, y9, y10] ∧ Same Ha Hx ∧ ∀ ot : Nat, ot < k → Ineq (zs.map (·.2)) z.2 j ot)
            ⟨_, _, _, _, rfl, sm, fun ot h => absurd h (Nat.not_lt_zero _)⟩ (fun k σ Hx hk hp => ?_) fun σ Hx hp => ?_
          · obtain ⟨y7, y8, y9, y10, rfl, sm, done3⟩ := hp
            have kj : k < j := by omega
            have tz := sm _ _ tz0
            have a1 := at_map (ns := z.2) (i := 0 + (j : Int)) (by omega) (by omega)
            have a2 := at_map (ns := z.2) (i := 0 + (k : Int)) (by omega) (by omega)
            have v1 : z.2.getD (0 + (j : Int)).toNat 0 = at0 z.2 j := by unfold at0; congr 1; omega
            have v2 : z.2.getD (0 + (k : Int)).toNat 0 = at0 z.2 k := by unfold at0; congr 1; omega
            rw [v1] at a1
            rw [v2] at a2
            refine ⟨_, rfl, _, rfl, z.1, _, _, _, rfl, rfl, sqt tz, a1, _, rfl, _, rfl, z.1, _, _, _, rfl, rfl, sqt tz, a2, _, _, rfl, rfl, rfl, _, rfl, ?_⟩
            have next : Ineq (zs.map (·.2)) z.2 j k → ∀ ot : Nat, ot < k + 1 → Ineq (zs.map (·.2)) z.2 j ot := fun h ot ho => by
              by_cases e : ot = k
              · subst e; exact h
              · exact done3 ot (by omega)
            refine ite2 (fun e => ?_) fun e => ?_
            · have e0 : at0 z.2 j + at0 z.2 k = 0 := by simpa using e
              -- up, left, both
              refine rd_one (a := 5) (b := 6) (k := j) rfl rfl (by omega) tz (by omega) (by omega) fun cu Hu su tu => ?_
              refine rd_one (a := 5) (b := 7) (k := k) rfl rfl (by omega) (su _ _ tz) (by omega) (by omega) fun cl Hl sl tl => ?_
              refine rd_one (a := 8) (b := 7) (k := k) rfl rfl (by omega) (sl _ _ tu) (by rw [List.length_set]; omega) (by rw [List.length_set]; omega) fun cb Hb sb tb => ?_
              have sall : Same Ha Hb := ((sm.trans su).trans sl).trans sb
              have hdb := sall _ _ hda
              have val : ∀ (r : List Int) (x : Addr), r ∈ rowsM c → TupAt Hb x r → DGet Hb d (.ref x) (some (.int (worth (zs.map (·.2)) (at0 r)))) := fun r x hr hx => by
                have := get_en (d := d) (b := x) (D := worths (zs.map (·.2)) (rowsM c)) (k := r) (.inl hdb) hx
                rw [worths_get (rowsM_nodup c) hr] at this
                exact this
              refine ⟨_, rfl, _, rfl, d, _, rfl, val z.2 z.1 zr (sall _ _ tz0), _, rfl, _, rfl, d, _, rfl, val _ cb (row_set (row_set zr j) k) tb, _, _, rfl, rfl, _, rfl, _, rfl, d, _, rfl, val _ cu (row_set zr j) (sb _ _ (sl _ _ tu)), _, rfl, _, rfl, d, _, rfl, val _ cl (row_set zr k) (sb _ _ tl), _, _, rfl, rfl, _, _, rfl, rfl, _, rfl, ?_⟩
              refine ite2 (fun g => ?_) fun g => ?_
              · have g' := of_decide_eq_true g
                refine q false Hb (sHa.trans sall) ⟨(fun z => nomatch z), fun bent => ?_⟩
                have := bent z.2 zr j k kj jc e0
                exact absurd this (by have g' : worth (zs.map (·.2)) (at0 (z.2.set j 1)) + worth (zs.map (·.2)) (at0 (z.2.set k 1)) < worth (zs.map (·.2)) (at0 z.2) + worth (zs.map (·.2)) (at0 ((z.2.set j 1).set k 1)) := g'
                                      omega)
              · have g' : ¬ worth (zs.map (·.2)) (at0 (z.2.set j 1)) + worth (zs.map (·.2)) (at0 (z.2.set k 1)) < worth (zs.map (·.2)) (at0 z.2) + worth (zs.map (·.2)) (at0 ((z.2.set j 1).set k 1)) := fun h => g (decide_eq_true h)
                exact ⟨_, _, _, _, rfl, sall, next fun _ => by omega⟩
            · refine ⟨_, _, _, _, rfl, sm, next fun h => absurd ?_ e⟩
              show decide (V.int (at0 z.2 j + at0 z.2 k) = V.int 0) = true
              rw [h]
              exact decide_eq_true rfl
          · obtain ⟨y7, y8, y9, y10, rfl, sm, done3⟩ := hp
            refine ⟨_, _, _, _, _, rfl, sm, fun pl ot h1 h2 => ?_⟩
            by_cases e : pl = j
            · subst e; exact done3 ot (by omega)
            · exact done2 pl ot (by omega) h2
        · obtain ⟨y6, y7, y8, y9, y10, rfl, sm, done2⟩ := hp
          refine ⟨_, _, _, _, _, _, rfl, sm, fun k r hk hr pl ot h1 h2 => ?_⟩
          by_cases e : k = i
          · subst e
            have : r = z.2 := Option.some.inj (hr.symm.trans hzr)
            subst this
            exact done2 pl ot (by omega) h1
          · exact done k r (by omega) hr pl ot h1 h2
      · obtain ⟨y5, y6, y7, y8, y9, y10, rfl, sm, done⟩ := hp
        refine q true Hx (sHa.trans sm) ⟨fun _ one h1 pl ot h2 h3 => ?_, fun _ => rfl⟩
        obtain ⟨k, hk⟩ := List.mem_iff_getElem?.mp h1
        have lk : k < 2 ^ c := by rw [← rowsM_len]; exact (List.getElem?_eq_some_iff.mp hk).1
        exact done k one (by rw [List.length_map, lz]; exact lk) hk pl ot h2 h3
end
end K31

/-! K31W8: the program's own looks: is_below, is_rising, is_member, is_sum; the law's. -/
namespace K31
open PySem PySem.Spec PyProof.Rows L2
structure Bare5 (mg : Str → Option Value) : Prop where
  isi : mg "isinstance" = none
  bool : mg "bool" = none
  all : mg "all" = none
  zip : mg "zip" = none
theorem walk_zipT {K : PySem.W.Frag} {a b : Addr} {xs ys : List V} {n : Nat} (hn : n = min xs.length ys.length) : Walk (RZ.ItzT K a b) n (fun H => SqT K H a xs ∧ SqT K H b ys) (YPair (fun i => xs[i]?) (fun i => ys[i]?)) := by
  subst hn
  refine ⟨fun i _ hi q => ?_, fun _ q => ⟨xs, ys, q.1, q.2, by omega⟩, fun i H v H' _ q y => ?_⟩
  · have h1 : i < xs.length := by omega
    have h2 : i < ys.length := by omega
    exact ⟨xs, ys, xs[i], ys[i], q.1, q.2, List.getElem?_eq_getElem h1, List.getElem?_eq_getElem h2⟩
  · obtain ⟨T, x, z, h1, h2, h3, h4, h5⟩ := y
    exact ⟨T, x, z, h1, h2, h3, h4 xs q.1, h5 ys q.2⟩
theorem lexLt_of : ∀ {a b : List Int}, a < b → HT.lexLt a b = true
  | [], [], h => absurd h (List.lt_irrefl _)
  | [], _ :: _, _ => HT.lexLt_nil_cons _ _
  | _ :: _, [], h => absurd h (List.not_lt_nil _)
  | x :: a, y :: b, h => by
    rw [HT.lexLt_cons]
    rcases List.cons_lt_cons_iff.mp h with h1 | ⟨e, h1⟩
    · rw [if_neg (by omega), decide_eq_true h1]
    · rw [if_pos e]; exact lexLt_of h1
section
variable {P : Program} {w : World} {K : PySem.W.Frag} {mg : Str → Option Value} {base : Heap}
/-! ### is_below -/
def spBelow : Sp := fun vs H Q _ => ∃ l c : Int, vs = [.int l, .int c] ∧ 0 ≤ l ∧ l < c ∧ Q (.bl true) H
theorem scBelow : FnScope ["value", "many"] ["value", "many"] (defScope tBelow) := ⟨rfl, rfl, rfl, by decide +kernel, rfl, by decide +kernel, by decide +kernel⟩
theorem ok_below {f : Addr} {fd : FuncData} {k : Nat} (F : Fun K "is_below" "is_below" tBelow f fd) (B : Bare mg) (B5 : Bare5 mg) : FnOk P w K mg base CX0 (k + 1) f fd ["value", "many"] spBelow := by
  refine F.ok scBelow (fun vs H Q E h => ?_) (fun cdv A outer s H vs Q E hr h => ?_)
  · obtain ⟨l, c, rfl, _⟩ := h
    rfl
  · obtain ⟨l, c, rfl, h0, h1, q⟩ := h
    refine ⟨_, pss_one (ps_ret (pe_and (pe_callB call_isi (by rfl) B5.isi (by decide +kernel) (pa_cons (pv 0) (pa_cons (pe_bltn (v := .ty "int") (by rfl) B.int (by decide +kernel) rfl) pa_nil)))
      (pe_and (pe_not (pe_callB call_isi (by rfl) B5.isi (by decide +kernel) (pa_cons (pv 0) (pa_cons (pe_bltn (v := .ty "bool") (by rfl) B5.bool (by decide +kernel) rfl) pa_nil))))
      (pe_one (pe_chain op_le op_lt pe_int (pv 0) (pv 1)))))), ?_⟩
    refine ⟨_, rfl, _, _, _, _, true, rfl, .ty "int", .base (.int l), kit_ty (by decide +kernel), true, rfl, iteT ?_⟩
    refine ⟨_, rfl, _, _, _, _, false, rfl, .ty "bool", .base (.int l), kit_ty (by decide +kernel), false, rfl, true, rfl, iteT ?_⟩
    refine ⟨_, rfl, _, _, rfl, rfl, _, rfl, ?_⟩
    refine ite2 (fun _ => ?_) fun n => absurd (decide_eq_true h0) n
    refine ⟨_, rfl, _, _, rfl, rfl, ?_⟩
    show Q (.bl (decide (l < c))) H
    rw [decide_eq_true h1]
    exact q
/-! ### is_rising -/
def spRising : Sp := fun vs H Q _ => ∃ a : Addr, vs = [.ref a] ∧ ((∃ ns : List Int, TupAt H a ns ∧ ns.Pairwise (· < ·) ∧ ns.length ≤ 900) ∨ ∃ zs : List (Addr × List Int), RowsAt H a zs ∧ (zs.map (·.2)).Pairwise (· < ·) ∧ zs.length ≤ 900) ∧
  ∀ H' : Hp, Same H H' → Q (.bl true) H'
abbrev nRising : List Str := ["letters", "one", "other"]
theorem scRising : FnScope nRising ["letters"] (defScope tRising) := ⟨rfl, rfl, rfl, by decide +kernel, rfl, by decide +kernel, by decide +kernel⟩
/-- the comprehension, whatever is zipped -/
theorem rising_lc {J : It} {n : Nat} {G : Hp → Prop} {fx fy : Nat → Option V} (wk : Walk J n G (YPair fx fy)) {te : TE} {a D : Addr} {H1 : Hp} {Qd : Hp → Prop} (hn : n ≤ 1000) (hG : ∀ H2 : Hp, Same H1 H2 → G H2) (hD : H1 D = none)
    (he : ∀ (i : Nat) (x y : V) (H2 : Hp) (Q : VK), i < n → fx i = some x → fy i = some y → Same H1 H2 → Q (.bl true) H2 → te [some (.ref a), some x, some y] H2 Q)
    (hd : ∀ H2 : Hp, Same H1 H2 → H2 D = some (.lst ((List.replicate n true).map V.bl)) → Qd H2) :
    ∃ W : Nat → Nat → Hp → Prop, (∃ m, W 0 m (upd H1 D (.lst []))) ∧ ∀ i m H, W i m H →
      (J.stop i H ∧ Qd H) ∨ (J.go i H ∧ ∃ Nx : Hp → Prop, (∀ H', Nx H' → ∃ m', m' < m ∧ W (i + 1) m' H') ∧ ∀ x H', J.yld i H x H' → gTup K 2 (gCons (gName 1) (gCons (gName 2) gNil)) x (wipe [some (.ref a), none, none] [1, 2]) H' fun σ2 H2 => wipe σ2 [1, 2] = wipe [some (.ref a), none, none] [1, 2] ∧ tYes σ2 H2 fun b H3 =>
        if b = true then te σ2 H3 fun y H4 => ∃ acc, H4 D = some (.lst acc) ∧ acc.length < sizeLine ∧ Nx (upd H4 D (.lst (acc ++ [y]))) else Nx H3) := by
  refine lc_it wk (fun i H2 => Same H1 H2 ∧ H2 D = some (.lst ((List.replicate i true).map V.bl))) ⟨same_new (Same.refl H1) hD, upd_same⟩ (fun i H2 _ hp => hG H2 hp.1) (fun i x H2 H3 hi hp hy => ?_) fun H2 hp => hd H2 hp.1 hp.2
  obtain ⟨s1, hl⟩ := hp
  obtain ⟨T, x, y, rfl, nT, rfl, e1, e2⟩ := hy
  have DT : D ≠ T := ne_of_none hl nT
  refine ⟨T, _, rfl, sqt upd_same, rfl, _, _, rfl, _, _, rfl, rfl, rfl, ?_⟩
  refine he i x y _ _ hi e1 e2 (same_new s1 nT) ⟨_, by rw [upd_ne DT]; exact hl, ?_, fun b o e => ?_, ?_⟩
  · rw [List.length_map, List.length_replicate]; exact small1000 (by omega)
  · rw [upd_ne (ne_of_none e hD)]
    exact same_new s1 nT b o e
  · rw [upd_same, List.replicate_succ', List.map_append]
    rfl
theorem ok_rising {f : Addr} {fd : FuncData} {k : Nat} (F : Fun K "is_rising" "is_rising" tRising f fd) (B5 : Bare5 mg) : FnOk P w K mg base CX0 (k + 1) f fd ["letters"] spRising := by
  refine F.ok scRising (fun vs H Q E h => ?_) (fun cdv A outer s H vs Q E hr h => ?_)
  · obtain ⟨a, rfl, _⟩ := h
    rfl
  · obtain ⟨a, rfl, h, q⟩ := h
    refine ⟨_, pss_one (ps_ret (pe_callB (cr_all rfl) (by rfl) B5.all (by decide +kernel) (pa_cons
      (pe_lc (own := [("one", 1), ("other", 2)]) (g := gTup K 2 (gCons (gName 1) (gCons (gName 2) gNil))) (tt := tYes) rfl scRising.nd (RZ.pi_zipA (by rfl) B5.zip (pa_cons (pv 0) (pa_cons (pe_slice (SlR.or sl_tupS sl_list) (pv 0) (po_some pe_int) po_none) pa_nil)))
        (blkOk_by (own := [("one", 1), ("other", 2)]) (N := nRising) (sc := defScope tRising) (by decide +kernel))
        (fun _ _ _ _ _ => pg_tup rfl (pgs_cons (pg_name (i := 1) scRising.nd rfl (Or.inl rfl)) (pgs_cons (pg_name (i := 2) scRising.nd rfl (Or.inl rfl)) pgs_nil))) (fun _ _ _ _ _ => pts_nil)
        (fun _ _ _ _ _ => pe_cmpR (OpR.or op_lt (r' := rLtT K) (op_ltT hr.units0)) (pv 1) (pv 2) (nomark _))) pa_nil))), ?_⟩
    rcases h with ⟨ns, ht, hp, hl⟩ | ⟨zs, hz, hp, hl⟩
    · -- a tuple of ints
      refine ⟨_, rfl, _, rfl, _, rfl, .inl ⟨a, _, rfl, ht, fun b H1 s1 e1 => ?_⟩⟩
      have e1 : H1 b = some (.tup ((ns.map V.int).drop 1)) := by rw [← cut_drop]; exact e1
      refine ⟨a, b, ns.map V.int, (ns.map V.int).drop 1, rfl, .inr ⟨sqt (s1 _ _ ht), sqt e1, fun D nD => ?_⟩⟩
      refine rising_lc (walk_zipT (n := ns.length - 1) (by rw [List.length_drop, List.length_map]; omega)) (by omega) (fun H2 s2 => ⟨sqt (s2 _ _ (s1 _ _ ht)), sqt (s2 _ _ e1)⟩) nD (fun i x y H2 Q' hi ex ey s2 hQ => ?_) fun H2 s2 hD2 => ?_
      · rw [List.getElem?_map] at ex
        rw [List.getElem?_drop, List.getElem?_map] at ey
        obtain ⟨u, hu, rfl⟩ := Option.map_eq_some_iff.mp ex
        obtain ⟨v, hv, rfl⟩ := Option.map_eq_some_iff.mp ey
        obtain ⟨l1, g1⟩ := List.getElem?_eq_some_iff.mp hu
        obtain ⟨l2, g2⟩ := List.getElem?_eq_some_iff.mp hv
        have lt : u < v := by
          have := List.pairwise_iff_getElem.mp hp i (1 + i) l1 l2 (by omega)
          rw [g1, g2] at this
          exact this
        refine ⟨_, rfl, _, rfl, .inl ⟨u, v, rfl, rfl, ?_⟩⟩
        show Q' (.bl (decide (u < v))) H2
        rw [decide_eq_true lt]
        exact hQ
      · refine ⟨D, List.replicate (ns.length - 1) true, rfl, sql hD2, ?_⟩
        have : (List.replicate (ns.length - 1) true).all id = true := by simp
        rw [this]
        exact q H2 (s1.trans s2)
    · -- a list of tuples
      refine ⟨_, rfl, _, rfl, _, rfl, .inr ⟨a, _, rfl, sql hz.at', fun b nb => ?_⟩⟩
      have s1 := same_new (o := .lst (cutV (zs.map fun z => V.ref z.1) (some 1) none)) (Same.refl H) nb
      have e1 : (upd H b (.lst (cutV (zs.map fun z => V.ref z.1) (some 1) none))) b = some (.lst ((zs.map fun z => V.ref z.1).drop 1)) := by
        rw [upd_same, ← cut_drop]
        rfl
      generalize upd H b (.lst (cutV (zs.map fun z => V.ref z.1) (some 1) none)) = H1 at s1 e1 ⊢
      refine ⟨a, b, zs.map fun z => V.ref z.1, (zs.map fun z => V.ref z.1).drop 1, rfl, .inl ⟨sql (s1 _ _ hz.at'), sql e1, fun D nD => ?_⟩⟩
      refine rising_lc (walk_zip (n := zs.length - 1) (by rw [List.length_drop, List.length_map]; omega)) (by omega) (fun H2 s2 => ⟨sql (s2 _ _ (s1 _ _ hz.at')), sql (s2 _ _ e1)⟩) nD (fun i x y H2 Q' hi ex ey s2 hQ => ?_) fun H2 s2 hD2 => ?_
      · rw [List.getElem?_map] at ex
        rw [List.getElem?_drop, List.getElem?_map] at ey
        obtain ⟨u, hu, rfl⟩ := Option.map_eq_some_iff.mp ex
        obtain ⟨v, hv, rfl⟩ := Option.map_eq_some_iff.mp ey
        have tu := s2 _ _ (s1 _ _ (hz.mem u (List.mem_of_getElem? hu)))
        have tv := s2 _ _ (s1 _ _ (hz.mem v (List.mem_of_getElem? hv)))
        obtain ⟨l1, g1⟩ := List.getElem?_eq_some_iff.mp hu
        obtain ⟨l2, g2⟩ := List.getElem?_eq_some_iff.mp hv
        have lt : u.2 < v.2 := by
          have := List.pairwise_iff_getElem.mp (List.pairwise_map.mp hp) i (1 + i) l1 l2 (by omega)
          rw [g1, g2] at this
          exact this
        refine ⟨_, rfl, _, rfl, .inr ⟨u.1, v.1, u.2, v.2, rfl, rfl, sqt tu, sqt tv, ?_⟩⟩
        rw [lexLt_of lt]
        exact hQ
      · refine ⟨D, List.replicate (zs.length - 1) true, rfl, sql hD2, ?_⟩
        have : (List.replicate (zs.length - 1) true).all id = true := by simp
        rw [this]
        exact q H2 (s1.trans s2)
end
end K31

/-! K31W9: is_member, is_sum, the law's is_sum. -/
namespace K31
open PySem PySem.Spec PyProof.Rows L2
section
variable {P : Program} {w : World} {K : PySem.W.Frag} {mg : Str → Option Value} {base : Heap}
theorem all_true (n : Nat) : (List.replicate n true).all id = true := by simp
/-! ### is_member -/
def spMember : Sp := fun vs H Q _ => ∃ (a : Addr) (c : Int) (m : Mem), vs = [.ref a, .int c] ∧ MemAt H a m ∧ Good1 c m ∧ ∀ H' : Hp, Same H H' → Q (.bl true) H'
abbrev nMember : List Str := ["value", "letter_count", "letters", "number", "letter"]
theorem scMember : FnScope nMember ["value", "letter_count"] (defScope tMember) := ⟨rfl, rfl, rfl, by decide +kernel, rfl, by decide +kernel, by decide +kernel⟩
theorem ok_member {f g h : Addr} {fd gd hd : FuncData} {tk : Tok} (F : Fun K "is_member" "is_member" tMember f fd) (B : Bare mg) (B2 : Bare2 mg) (B5 : Bare5 mg) (mML : mg "MOST_LETTERS" = some (.int 3 tk))
    (G : FnOk P w K mg base CX0 1 g gd ["value", "many"] spBelow) (kG : PySem.W.keepIn K (.ref g) = true) (bG : Binds K gd ["value", "many"] []) (mG : mg "is_below" = some (.ref g))
    (GR : FnOk P w K mg base CX0 1 h hd ["letters"] spRising) (kR : PySem.W.keepIn K (.ref h) = true) (bR : Binds K hd ["letters"] []) (mR : mg "is_rising" = some (.ref h)) :
    FnOk P w K mg base CX0 2 f fd ["value", "letter_count"] spMember := by
  refine F.ok scMember (fun vs H Q E h => ?_) (fun cdv A outer s H vs Q E hr h => ?_)
  · obtain ⟨a, c, m, rfl, _⟩ := h
    rfl
  · obtain ⟨a, c, m, rfl, ⟨b, h1, h2⟩, gm, q⟩ := h
    refine ⟨_, pss_cons (ps_if (PW.pt (pw_or (pt_not (pt_val (pe_callB call_isi (by rfl) B5.isi (by decide +kernel) (pa_cons (pv 0) (pa_cons (pe_bltn (v := .ty "tuple") (by rfl) B2.tuple (by decide +kernel) rfl) pa_nil)))))
        (pw_or (pt_cmpR op_ne (pe_callB call_len_seq (by rfl) B.len PySem.boot_len (pa_cons (pv 0) pa_nil)) pe_int (nomark _))
        (pw_or1 (pt_not (pt_val (pe_callB call_isi (by rfl) B5.isi (by decide +kernel) (pa_cons (pe_ix ix_tup (pv 0) pe_int (fun _ _ => rfl)) (pa_cons (pe_bltn (v := .ty "tuple") (by rfl) B2.tuple (by decide +kernel) rfl) pa_nil))))))))) (pss_one (ps_ret pe_bl)) pss_nil)
      (pss_cons (ps_asg (pv 0) (pg_tup rfl (pgs_cons (pg_name (i := 2) scMember.nd rfl (Or.inl rfl)) (pgs_cons (pg_name (i := 3) scMember.nd rfl (Or.inl rfl)) pgs_nil))))
      (pss_cons (ps_if (PW.pt (pw_or (pt_cmpR op_gt (pe_callB call_len_seq (by rfl) B.len PySem.boot_len (pa_cons (pv 2) pa_nil)) (pe_glob (v := .int 3) rfl mML ⟨_, rfl⟩) (nomark _))
        (pw_or1 (pt_not (pt_val (pe_callB (cr_all rfl) (by rfl) B5.all (by decide +kernel) (pa_cons
          (pe_lc (own := [("letter", 4)]) (g := gName 4) (tt := tYes) rfl scMember.nd (pi_tup (pv 2)) (blkOk_by (own := [("letter", 4)]) (N := nMember) (sc := defScope tMember) (by decide +kernel)) (fun _ _ _ _ _ => pg_name (i := 4) scMember.nd rfl (Or.inl rfl)) (fun _ _ _ _ _ => pts_nil)
            (fun _ _ _ _ _ => pe_call G hr (by rfl) mG kG bG .nil pass0 (pa_cons (pv 4) (pa_cons (pv 1) pa_nil)))) pa_nil))))))) (pss_one (ps_ret pe_bl)) pss_nil)
      (pss_one (ps_ret (pe_and (pe_call GR hr (by rfl) mR kR bR .nil pass0 (pa_cons (pv 2) pa_nil))
        (pe_and (pe_callB call_isi (by rfl) B5.isi (by decide +kernel) (pa_cons (pv 3) (pa_cons (pe_bltn (v := .ty "int") (by rfl) B.int (by decide +kernel) rfl) pa_nil)))
        (pe_and (pe_not (pe_callB call_isi (by rfl) B5.isi (by decide +kernel) (pa_cons (pv 3) (pa_cons (pe_bltn (v := .ty "bool") (by rfl) B5.bool (by decide +kernel) rfl) pa_nil))))
        (pe_one (pe_cmpR op_ne (pv 3) pe_int (nomark _)))))))))), ?_⟩
    -- it is a pair
    refine ⟨_, rfl, _, _, _, _, true, rfl, .ty "tuple", .base (.tup h1), kit_ty (by decide +kernel), true, rfl, ?_⟩
    refine ⟨_, rfl, a, _, rfl, .inr (sqt h1), rfl, _, rfl, ?_⟩
    refine ⟨_, rfl, a, _, _, _, rfl, rfl, sqt h1, rfl, _, _, _, _, true, rfl, .ty "tuple", .base (.tup h2), kit_ty (by decide +kernel), true, rfl, ?_⟩
    refine ⟨_, rfl, a, _, rfl, sqt h1, rfl, _, _, rfl, _, _, rfl, rfl, ?_⟩
    -- its letters
    refine ⟨_, rfl, b, _, rfl, .inr (sqt h2), _, _, rfl, rfl, _, rfl, ?_⟩
    refine ite2 (fun e => ?_) fun _ => ?_
    · have e1 := of_decide_eq_true e
      rw [List.length_map] at e1
      have := gm.len
      exact absurd e1 (by omega)
    refine ⟨_, rfl, b, rfl, ⟨_, sqt h2⟩, fun D nD => ?_⟩
    refine lc_tup (K := K) (a := b) (xs := m.1.map V.int) (fun i H1 => Same H H1 ∧ H1 D = some (.lst ((List.replicate i true).map V.bl))) ⟨same_new (Same.refl H) nD, upd_same⟩ (fun i H1 _ hp => sqt (hp.1 _ _ h2)) (fun i x H1 hx hp => ?_) fun H1 hp => ?_
    · obtain ⟨s1, hD⟩ := hp
      rw [List.getElem?_map] at hx
      obtain ⟨l, hl, rfl⟩ := Option.map_eq_some_iff.mp hx
      have li := (List.getElem?_eq_some_iff.mp hl).1
      have lr := gm.rng l (List.mem_of_getElem? hl)
      have l3 := gm.len
      refine ⟨rfl, _, rfl, _, rfl, l, c, rfl, lr.1, lr.2, _, hD, ?_, fun x o e => ?_, ?_⟩
      · rw [List.length_map, List.length_replicate]; exact small1000 (by omega)
      · rw [upd_ne (ne_of_none e nD)]; exact s1 x o e
      · rw [upd_same, List.replicate_succ', List.map_append]; rfl
    · obtain ⟨s1, hD⟩ := hp
      refine ⟨D, _, rfl, sql hD, _, rfl, ?_⟩
      rw [all_true]
      refine ite2 (fun z => nomatch z) fun _ => ?_
      -- return ..
      refine ⟨_, rfl, b, rfl, .inl ⟨m.1, s1 _ _ h2, gm.srt, by have := gm.len; omega⟩, fun H2 s2 => ⟨true, rfl, ?_⟩⟩
      refine ite2 (c := true = true) (fun _ => ?_) fun n => absurd rfl n
      refine ⟨_, rfl, _, _, _, _, true, rfl, .ty "int", .base (.int _), kit_ty (by decide +kernel), true, rfl, ?_⟩
      refine ite2 (c := true = true) (fun _ => ?_) fun n => absurd rfl n
      refine ⟨_, rfl, _, _, _, _, false, rfl, .ty "bool", .base (.int _), kit_ty (by decide +kernel), false, rfl, true, rfl, ?_⟩
      refine ite2 (c := true = true) (fun _ => ?_) fun n => absurd rfl n
      refine ⟨_, rfl, rfl, ?_⟩
      have e : (!decide (V.int m.2 = V.int 0)) = true := by simp [gm.nz]
      rw [e]
      exact q H2 (s1.trans s2)
/-! ### is_sum -/
def spIsSum : Sp := fun vs H Q _ => ∃ (t : Addr) (c : Int) (zs : List (Addr × Mem)), vs = [.ref t, .int c] ∧ ToldAt H t zs ∧ GoodT c 64 (zs.map (·.2)) ∧ ∀ H' : Hp, Same H H' → Q (.bl true) H'
abbrev nIsSum : List Str := ["value", "letter_count", "one", "letters", "_"]
theorem scIsSum : FnScope nIsSum ["value", "letter_count"] (defScope tIsSum) := ⟨rfl, rfl, rfl, by decide +kernel, rfl, by decide +kernel, by decide +kernel⟩
theorem ok_issum {f g h : Addr} {fd gd hd : FuncData} (F : Fun K "is_sum" "is_sum" tIsSum f fd) (B2 : Bare2 mg) (B5 : Bare5 mg)
    (G : FnOk P w K mg base CX0 2 g gd ["value", "letter_count"] spMember) (kG : PySem.W.keepIn K (.ref g) = true) (bG : Binds K gd ["value", "letter_count"] []) (mG : mg "is_member" = some (.ref g))
    (GR : FnOk P w K mg base CX0 1 h hd ["letters"] spRising) (kR : PySem.W.keepIn K (.ref h) = true) (bR : Binds K hd ["letters"] []) (mR : mg "is_rising" = some (.ref h)) :
    FnOk P w K mg base CX0 3 f fd ["value", "letter_count"] spIsSum := by
  refine F.ok scIsSum (fun vs H Q E h => ?_) (fun cdv A outer s H vs Q E hr h => ?_)
  · obtain ⟨t, c, zs, rfl, _⟩ := h
    rfl
  · obtain ⟨t, c, zs, rfl, T0, g0, q⟩ := h
    have lz : zs.length ≤ 64 := by have := g0.len; rw [List.length_map] at this; exact this
    refine ⟨_, pss_cons (ps_if (PW.pt (pw_or (pt_not (pt_val (pe_callB call_isi (by rfl) B5.isi (by decide +kernel) (pa_cons (pv 0) (pa_cons (pe_bltn (v := .ty "tuple") (by rfl) B2.tuple (by decide +kernel) rfl) pa_nil)))))
        (pw_or1 (pt_not (pt_val (pe_callB (cr_all rfl) (by rfl) B5.all (by decide +kernel) (pa_cons
          (pe_lc (own := [("one", 2)]) (g := gName 2) (tt := tYes) rfl scIsSum.nd (pi_tup (pv 0)) (blkOk_by (own := [("one", 2)]) (N := nIsSum) (sc := defScope tIsSum) (by decide +kernel)) (fun _ _ _ _ _ => pg_name (i := 2) scIsSum.nd rfl (Or.inl rfl)) (fun _ _ _ _ _ => pts_nil)
            (fun _ _ _ _ _ => pe_call G hr (by rfl) mG kG bG .nil pass0 (pa_cons (pv 2) (pa_cons (pv 1) pa_nil)))) pa_nil))))))) (pss_one (ps_ret pe_bl)) pss_nil)
      (pss_one (ps_ret (pe_call GR (hr.mono (by decide)) (by rfl) mR kR bR .nil pass0 (pa_cons
        (pe_lc (own := [("letters", 3), ("_", 4)]) (g := gTup K 2 (gCons (gName 3) (gCons (gName 4) gNil))) (tt := tYes) rfl scIsSum.nd (pi_tup (pv 0)) (blkOk_by (own := [("letters", 3), ("_", 4)]) (N := nIsSum) (sc := defScope tIsSum) (by decide +kernel))
          (fun _ _ _ _ _ => pg_tup rfl (pgs_cons (pg_name (i := 3) scIsSum.nd rfl (Or.inl rfl)) (pgs_cons (pg_name (i := 4) scIsSum.nd rfl (Or.inl rfl)) pgs_nil))) (fun _ _ _ _ _ => pts_nil) (fun _ _ _ _ _ => pv 3)) pa_nil)))), ?_⟩
    refine ⟨_, rfl, _, _, _, _, true, rfl, .ty "tuple", .base (.tup T0.at'), kit_ty (by decide +kernel), true, rfl, ?_⟩
    refine ⟨_, rfl, t, rfl, ⟨_, sqt T0.at'⟩, fun D nD => ?_⟩
    refine lc_tup (K := K) (a := t) (xs := zs.map fun z => V.ref z.1) (fun i H1 => Same H H1 ∧ H1 D = some (.lst ((List.replicate i true).map V.bl))) ⟨same_new (Same.refl H) nD, upd_same⟩ (fun i H1 _ hp => sqt (hp.1 _ _ T0.at')) (fun i x H1 hx hp => ?_) fun H1 hp => ?_
    · obtain ⟨s1, hD⟩ := hp
      rw [List.getElem?_map] at hx
      obtain ⟨z, hz, rfl⟩ := Option.map_eq_some_iff.mp hx
      have li := (List.getElem?_eq_some_iff.mp hz).1
      have hm := List.mem_of_getElem? hz
      refine ⟨rfl, _, rfl, _, rfl, z.1, c, z.2, rfl, (T0.mem z hm).mono (tups_of s1), g0.each z.2 (List.mem_map.mpr ⟨z, hm, rfl⟩), fun H2 s2 => ⟨_, s2 _ _ hD, ?_, fun x o e => ?_, ?_⟩⟩
      · rw [List.length_map, List.length_replicate]; exact small1000 (by omega)
      · rw [upd_ne (ne_of_none e nD)]; exact s2 _ _ (s1 x o e)
      · rw [upd_same, List.replicate_succ', List.map_append]; rfl
    · obtain ⟨s1, hD⟩ := hp
      refine ⟨D, _, rfl, sql hD, _, rfl, ?_⟩
      rw [all_true]
      refine ite2 (fun z => nomatch z) fun _ => ?_
      -- return is_rising([letters for letters, _ in value])
      refine ⟨_, rfl, t, rfl, ⟨_, sqt (s1 _ _ T0.at')⟩, fun D2 nD2 => ?_⟩
      refine lc_tup (K := K) (a := t) (xs := zs.map fun z => V.ref z.1) (fun i H2 => ∃ ws : List (Addr × List Int), Same H1 H2 ∧ RowsAt H2 D2 ws ∧ ws.map (·.2) = (zs.take i).map (fun z => z.2.1))
        ⟨[], same_new (Same.refl H1) nD2, ⟨upd_same, fun z m => by simp at m⟩, rfl⟩ (fun i H2 _ hp => ?_) (fun i x H2 hx hp => ?_) fun H2 hp => ?_
      · obtain ⟨ws, s2, _⟩ := hp
        exact sqt (s2 _ _ (s1 _ _ T0.at'))
      · obtain ⟨ws, s2, rw2, ew⟩ := hp
        rw [List.getElem?_map] at hx
        obtain ⟨z, hz, rfl⟩ := Option.map_eq_some_iff.mp hx
        have li := (List.getElem?_eq_some_iff.mp hz).1
        obtain ⟨b, h1, h2⟩ := (T0.mem z (List.mem_of_getElem? hz)).mono (tups_of (s1.trans s2))
        have lw : ws.length = i := by
          rw [← List.length_map (f := (·.2)), ew, List.length_map, List.length_take]
          omega
        refine ⟨z.1, _, rfl, sqt h1, rfl, _, _, rfl, _, _, rfl, rfl, rfl, _, rfl, ws.map fun z => V.ref z.1, rw2.at', ?_, ws ++ [(b, z.2.1)], fun x o e => ?_, ⟨?_, fun v hv => ?_⟩, ?_⟩
        · rw [List.length_map]; exact small1000 (by omega)
        · rw [upd_ne (ne_of_none e nD2)]; exact s2 x o e
        · rw [upd_same, List.map_append]; rfl
        · have key : TupAt H2 v.1 v.2 := by
            rcases List.mem_append.mp hv with hv | hv
            · exact rw2.mem v hv
            · have : v = (b, z.2.1) := by simpa using hv
              subst this; exact h2
          show upd H2 D2 _ v.1 = _
          rw [upd_ne (ne_of key rw2.at' (by intro z; cases z))]
          exact key
        · rw [List.map_append, ew, List.take_add_one, hz, List.map_append]; rfl
      · obtain ⟨ws, s2, rw2, ew⟩ := hp
        rw [List.length_map, List.take_length] at ew
        have lw : ws.length = zs.length := by rw [← List.length_map (f := (·.2)), ew, List.length_map]
        refine ⟨D2, rfl, .inr ⟨ws, rw2, ?_, by omega⟩, fun H3 s3 => q H3 ((s1.trans s2).trans s3)⟩
        rw [ew]
        have := g0.srt
        rw [List.pairwise_map] at this
        exact List.pairwise_map.mpr this
/-! ### the law's own look at a sum -/
def spLIsSum : Sp := fun vs H Q _ => ∃ (t : Addr) (c : Int) (zs : List (Addr × Mem)), vs = [.ref t, .int c] ∧ ToldAt H t zs ∧ (∀ z ∈ zs, z.2.1.length ≤ 2 ∧ ∀ l ∈ z.2.1, 0 ≤ l ∧ l < c) ∧ ∀ H' : Hp, Same H H' → Q (.bl true) H'
theorem scLIsSum : FnScope ["_law_value", "_law_count", "_law_one", "_law_number"] ["_law_value", "_law_count"] (defScope tLIsSum) := ⟨rfl, rfl, rfl, by decide +kernel, rfl, by decide +kernel, by decide +kernel⟩
theorem at_first {ns : List Int} (h : 0 < ns.length) : ∃ l ∈ ns, atI (ns.map V.int) 0 = some (.int l) := by
  refine ⟨ns.getD (0 : Int).toNat 0, ?_, at_map (by omega) (by omega)⟩
  show ns.getD 0 0 ∈ ns
  rw [List.getD_eq_getElem?_getD, List.getElem?_eq_getElem h]
  exact List.getElem_mem h
theorem at_final {ns : List Int} (h : 0 < ns.length) : ∃ l ∈ ns, atI (ns.map V.int) (-1) = some (.int l) := by
  have ne : ns ≠ [] := fun e => by rw [e] at h; exact absurd h (by decide)
  refine ⟨ns.getLast ne, List.getLast_mem ne, ?_⟩
  have e : ns.map V.int = (ns.dropLast).map V.int ++ [V.int (ns.getLast ne)] := by
    have := congrArg (List.map V.int) (List.dropLast_concat_getLast ne)
    rw [List.map_append] at this
    exact this.symm
  rw [e]
  exact atI_last _ _
theorem ok_lissum {f : Addr} {fd : FuncData} {k : Nat} (F : Fun K "_law_is_sum" "_law_is_sum" tLIsSum f fd) (B : Bare mg) (B2 : Bare2 mg) (B5 : Bare5 mg) : FnOk P w K mg base CX0 (k + 1) f fd ["_law_value", "_law_count"] spLIsSum := by
  refine F.ok scLIsSum (fun vs H Q E h => ?_) (fun cdv A outer s H vs Q E hr h => ?_)
  · obtain ⟨t, c, zs, rfl, _⟩ := h
    rfl
  · obtain ⟨t, c, zs, rfl, T0, g0, q⟩ := h
    refine ⟨_, pss_cons (ps_if (pt_not (pt_val (pe_callB call_isi (by rfl) B5.isi (by decide +kernel) (pa_cons (pv 0) (pa_cons (pe_bltn (v := .ty "tuple") (by rfl) B2.tuple (by decide +kernel) rfl) pa_nil))))) (pss_one (ps_ret pe_bl)) pss_nil)
      (pss_cons (ps_for PassesOwn.never rfl (pi_tup (pv 0)) (pg_name (i := 2) scLIsSum.nd rfl (Or.inl rfl))
        (pss_cons (ps_if (PW.pt (pw_or (pt_not (pt_val (pe_callB call_isi (by rfl) B5.isi (by decide +kernel) (pa_cons (pv 2) (pa_cons (pe_bltn (v := .ty "tuple") (by rfl) B2.tuple (by decide +kernel) rfl) pa_nil)))))
            (pw_or (pt_cmpR op_ne (pe_callB call_len_seq (by rfl) B.len PySem.boot_len (pa_cons (pv 2) pa_nil)) pe_int (nomark _))
            (pw_or (pt_not (pt_val (pe_callB call_isi (by rfl) B5.isi (by decide +kernel) (pa_cons (pe_ix ix_tup (pv 2) pe_int (fun _ _ => rfl)) (pa_cons (pe_bltn (v := .ty "tuple") (by rfl) B2.tuple (by decide +kernel) rfl) pa_nil)))))
            (pw_or1 (pt_cmpR op_gt (pe_callB call_len_seq (by rfl) B.len PySem.boot_len (pa_cons (pe_ix ix_tup (pv 2) pe_int (fun _ _ => rfl)) pa_nil)) pe_int (nomark _))))))) (pss_one (ps_ret pe_bl)) pss_nil)
        (pss_cons (ps_for PassesOwn.never rfl (pi_tup (pe_op op_catS (pe_ix ix_tup (pv 2) pe_int (fun _ _ => rfl)) (pe_tup (pa_cons (pe_ix ix_tup (pv 2) pe_int (fun _ _ => rfl)) pa_nil)))) (pg_name (i := 3) scLIsSum.nd rfl (Or.inl rfl))
          (pss_one (ps_if (PW.pt (pw_or (pt_not (pt_val (pe_callB call_isi (by rfl) B5.isi (by decide +kernel) (pa_cons (pv 3) (pa_cons (pe_bltn (v := .ty "int") (by rfl) B.int (by decide +kernel) rfl) pa_nil)))))
            (pw_or1 (pt_val (pe_callB call_isi (by rfl) B5.isi (by decide +kernel) (pa_cons (pv 3) (pa_cons (pe_bltn (v := .ty "bool") (by rfl) B5.bool (by decide +kernel) rfl) pa_nil))))))) (pss_one (ps_ret pe_bl)) pss_nil)))
        (pss_one (ps_if (PW.pt (pw_and (pt_cmpR op_gt (pe_callB call_len_seq (by rfl) B.len PySem.boot_len (pa_cons (pe_ix ix_tup (pv 2) pe_int (fun _ _ => rfl)) pa_nil)) pe_int (nomark _))
            (pw_and1 (PW.pt (pw_or (pt_cmpR op_lt (pe_ix ix_tup (pe_ix ix_tup (pv 2) pe_int (fun _ _ => rfl)) pe_int (fun _ _ => rfl)) pe_int (nomark _))
              (pw_or1 (pt_cmpR op_ge (pe_ix ix_tup (pe_ix ix_tup (pv 2) pe_int (fun _ _ => rfl)) (pe_un un_neg pe_int) (fun _ _ => rfl)) (pv 1) (nomark _)))))))) (pss_one (ps_ret pe_bl)) pss_nil)))))
      (pss_one (ps_ret pe_bl))), ?_⟩
    refine ⟨_, rfl, _, _, _, _, true, rfl, .ty "tuple", .base (.tup T0.at'), kit_ty (by decide +kernel), true, rfl, ?_⟩
    refine ⟨_, rfl, t, rfl, ⟨_, sqt T0.at'⟩, ?_⟩
    refine for_tup (K := K) (a := t) (xs := zs.map fun z => V.ref z.1) (fun i σ H1 => ∃ y2 y3 : Option V, σ = [some (.ref t), some (.int c), y2, y3] ∧ Same H H1)
      ⟨none, none, rfl, Same.refl H⟩ (fun i σ H1 _ hp => ?_) (fun i x σ H1 hx hp => ?_) fun σ H1 hp => ?_
    · obtain ⟨_, _, rfl, s1⟩ := hp
      exact sqt (s1 _ _ T0.at')
    · obtain ⟨y2, y3, rfl, s1⟩ := hp
      rw [List.getElem?_map] at hx
      obtain ⟨z, hz, rfl⟩ := Option.map_eq_some_iff.mp hx
      have hm := List.mem_of_getElem? hz
      obtain ⟨b, h1, h2⟩ := (T0.mem z hm).mono (tups_of s1)
      obtain ⟨l2, lr⟩ := g0 z hm
      refine ⟨_, rfl, _, _, _, _, true, rfl, .ty "tuple", .base (.tup h1), kit_ty (by decide +kernel), true, rfl, ?_⟩
      refine ⟨_, rfl, z.1, _, rfl, .inr (sqt h1), rfl, _, rfl, ?_⟩
      refine ⟨_, rfl, z.1, _, _, _, rfl, rfl, sqt h1, rfl, _, _, _, _, true, rfl, .ty "tuple", .base (.tup h2), kit_ty (by decide +kernel), true, rfl, ?_⟩
      refine ⟨_, rfl, z.1, _, _, _, rfl, rfl, sqt h1, rfl, b, _, rfl, .inr (sqt h2), _, _, rfl, rfl, _, rfl, ?_⟩
      refine ite2 (fun e => ?_) fun _ => ?_
      · have e1 := of_decide_eq_true e
        rw [List.length_map] at e1
        exact absurd e1 (by omega)
      -- its numbers
      refine ⟨_, rfl, z.1, _, _, _, rfl, rfl, sqt h1, rfl, _, rfl, z.1, _, _, _, rfl, rfl, sqt h1, rfl, by show 1 ≤ sizeLine; decide, fun p np => ?_⟩
      have s2 := same_new (o := .tup [V.int z.2.2]) (Same.refl H1) np
      refine ⟨b, p, _, _, rfl, rfl, s2 _ _ h2, upd_same, ?_, fun c1 H2 s3 e3 => ?_⟩
      · rw [List.length_map]; show z.2.1.length + 1 ≤ 1000; omega
      have s12 : Same H1 H2 := s2.trans s3
      refine ⟨c1, rfl, ⟨_, sqt e3⟩, ?_⟩
      refine for_tup (K := K) (a := c1) (xs := z.2.1.map V.int ++ [V.int z.2.2]) (fun i σ H3 => ∃ y3 : Option V, σ = [some (.ref t), some (.int c), some (.ref z.1), y3] ∧ H3 = H2)
        ⟨_, rfl, rfl⟩ (fun i σ H3 _ hp => ?_) (fun i x σ H3 hx hp => ?_) fun σ H3 hp => ?_
      · obtain ⟨_, rfl, rfl⟩ := hp
        exact sqt e3
      · obtain ⟨y3, rfl, rfl⟩ := hp
        obtain ⟨u, rfl⟩ : ∃ u : Int, x = .int u := by
          rcases List.mem_append.mp (List.mem_of_getElem? hx) with h | h
          · obtain ⟨u, _, rfl⟩ := List.mem_map.mp h
            exact ⟨u, rfl⟩
          · exact ⟨z.2.2, by simpa using h⟩
        refine ⟨_, rfl, _, _, _, _, true, rfl, .ty "int", .base (.int u), kit_ty (by decide +kernel), true, rfl, ?_⟩
        refine ⟨_, rfl, _, _, _, _, false, rfl, .ty "bool", .base (.int u), kit_ty (by decide +kernel), false, rfl, ?_⟩
        exact ⟨_, rfl, rfl⟩
      · obtain ⟨y3, rfl, rfl⟩ := hp
        have h1' := s12 _ _ h1
        have h2' := s12 _ _ h2
        refine ⟨_, rfl, z.1, _, _, _, rfl, rfl, sqt h1', rfl, b, _, rfl, .inr (sqt h2'), _, _, rfl, rfl, _, rfl, ?_⟩
        refine ite2 (fun e => ?_) fun _ => iteF ⟨_, _, rfl, s1.trans s12⟩
        have pos : 0 < z.2.1.length := by
          have e1 := of_decide_eq_true e
          rw [List.length_map] at e1
          omega
        obtain ⟨u, hu, eu⟩ := at_first pos
        obtain ⟨v, hv, ev⟩ := at_final pos
        refine ⟨_, rfl, z.1, _, _, _, rfl, rfl, sqt h1', rfl, b, _, _, _, rfl, rfl, sqt h2', eu, _, _, rfl, rfl, _, rfl, ?_⟩
        refine ite2 (fun e => ?_) fun _ => ?_
        · exact absurd (of_decide_eq_true e) (by have := (lr u hu).1; omega)
        refine ⟨_, rfl, z.1, _, _, _, rfl, rfl, sqt h1', rfl, _, rfl, b, _, _, _, rfl, rfl, sqt h2', ev, _, rfl, _, _, rfl, rfl, _, rfl, ?_⟩
        refine ite2 (fun e => ?_) fun _ => ⟨_, _, rfl, s1.trans s12⟩
        exact absurd (of_decide_eq_true e) (by have := (lr v hv).2; omega)
    · obtain ⟨y2, y3, rfl, s1⟩ := hp
      exact q H1 s1
end
end K31

/-! K31WA: the sum that is being made; the paired sum. -/
namespace K31
open PySem PySem.Spec PyProof.Rows L2
def flds (d : Addr) : List (Str × V) := putF "numbers" (.ref d) []
theorem flds_at (d : Addr) : (flds d).lookup ("numbers" : Str) = some (.ref d) := by
  unfold flds
  rw [lookup_putF, if_pos rfl]
theorem flds_no (d : Addr) {m : Str} (h : ¬ m = "numbers") : (flds d).lookup m = none := by
  unfold flds
  rw [lookup_putF, if_neg h]
  rfl
/-- what is asked of the class -/
structure ClsA (K : PySem.W.Frag) (C : Addr) : Prop where
  cl : Cls K C
  nN : NoAttr K C "numbers"
/-- a sum that is being made, at p, its table D at d -/
structure AddAt (C : Addr) (H : Hp) (p d : Addr) (D : List Mem) : Prop where
  ob : ∃ dx, H p = some (.ins C dx (flds d))
  tab : H d = some (.dT (enT D))
theorem AddAt.ne {C : Addr} {H : Hp} {p d : Addr} {D : List Mem} (h : AddAt C H p d D) : p ≠ d := by
  obtain ⟨dx, e⟩ := h.ob
  exact ne_of e h.tab (by intro z; cases z)
theorem AddAt.put {C : Addr} {H : Hp} {p d : Addr} {D D' : List Mem} (h : AddAt C H p d D) : AddAt C (upd H d (.dT (enT D'))) p d D' := by
  obtain ⟨dx, e⟩ := h.ob
  exact ⟨⟨dx, by rw [upd_ne h.ne]; exact e⟩, upd_same⟩
theorem AddAt.same {C : Addr} {H H' : Hp} {p d : Addr} {D : List Mem} (h : AddAt C H p d D) (x : Same H H') : AddAt C H' p d D := by
  obtain ⟨dx, e⟩ := h.ob
  exact ⟨⟨dx, x _ _ e⟩, x _ _ h.tab⟩
section
variable {P : Program} {w : World} {K : PySem.W.Frag} {mg : Str → Option Value} {base : Heap}
def spAInit (C : Addr) : Sp := fun vs H Q _ => ∃ (p dx : Addr), vs = [.ref p] ∧ H p = some (.ins C dx []) ∧ ∀ (d : Addr) (H' : Hp), H d = none → AddAt C H' p d [] → (∀ b o, H b = some o → b ≠ p → H' b = some o) → Q .non H'
theorem scAInit : FnScope ["self"] ["self"] (defScope tAInit) := ⟨rfl, rfl, rfl, by decide +kernel, rfl, by decide +kernel, by decide +kernel⟩
theorem ok_ainit {f C : Addr} {fd : FuncData} {k : Nat} (F : Fun K "__init__" "Adding.__init__" tAInit f fd) (T : ClsA K C) : FnOk P w K mg base CX0 (k + 1) f fd ["self"] (spAInit C) := by
  refine F.ok scAInit (fun vs H Q E h => ?_) (fun cdv A outer s H vs Q E hr h => ?_)
  · obtain ⟨p, dx, rfl, _⟩ := h
    rfl
  · obtain ⟨p, dx, rfl, hp, k⟩ := h
    refine ⟨_, pss_one (ps_fld (pv 0) pe_dnewT rfl), ?_⟩
    intro d hd
    have npd : p ≠ d := ne_of_none hp hd
    refine ⟨_, rfl, p, C, dx, [], rfl, (by rw [upd_ne npd]; exact hp), T.cl, T.nN, (by show 0 < 1000; decide), ?_⟩
    refine k d _ hd ⟨⟨dx, upd_same⟩, by rw [upd_ne npd.symm, upd_same]; rfl⟩ fun b o e hb => ?_
    rw [upd_ne hb, upd_ne (ne_of_none e hd)]
    exact e
def spAAdd (C : Addr) : Sp := fun vs H Q _ => ∃ (p d b : Addr) (D : List Mem) (ls : List Int) (n : Int), vs = [.ref p, .ref b, .int n] ∧ AddAt C H p d D ∧ TupAt H b ls ∧ D.length ≤ 1000 ∧ Q .non (upd H d (.dT (enT (addK D (ls, n)))))
theorem scAAdd : FnScope ["self", "letters", "number"] ["self", "letters", "number"] (defScope tAAdd) := ⟨rfl, rfl, rfl, by decide +kernel, rfl, by decide +kernel, by decide +kernel⟩
theorem ok_aadd {f C : Addr} {fd : FuncData} {k : Nat} (F : Fun K "add" "Adding.add" tAAdd f fd) (T : ClsA K C) : FnOk P w K mg base CX0 (k + 1) f fd ["self", "letters", "number"] (spAAdd C) := by
  refine F.ok scAAdd (fun vs H Q E h => ?_) (fun cdv A outer s H vs Q E hr h => ?_)
  · obtain ⟨p, d, b, D, ls, n, rfl, _⟩ := h
    rfl
  · obtain ⟨p, d, b, D, ls, n, rfl, ⟨⟨dx, hp⟩, hd⟩, hb, hl, q⟩ := h
    have hu := hu_of hr
    refine ⟨_, pss_one (ps_dput hu (pe_fld (pv 0) rfl) (pv 1) (pe_op op_add (pe_dget2 hu (pe_fld (pv 0) rfl) (pv 1) pe_int ⟨rfl, rfl, rfl, rfl⟩) (pv 2)) rfl), ?_⟩
    refine ⟨_, rfl, p, C, dx, _, _, rfl, hp, T.cl, T.nN, flds_at d, d, rfl, .inr ⟨_, .inl hd⟩, _, rfl, _, get_en (.inl hd) hb, _, rfl, coef D ls, n, getD_en D ls, rfl, _, rfl, p, C, dx, _, _, rfl, hp, T.cl, T.nN, flds_at d, _, rfl, d, _, rfl, put_en hd hb hl, q⟩
/-! ### told -/
def spATold (C : Addr) : Sp := fun vs H Q _ => ∃ (p d : Addr) (D : List Mem), vs = [.ref p] ∧ AddAt C H p d D ∧ Nd D ∧ D.length ≤ 900 ∧ ∀ (a : Addr) (zs : List (Addr × Mem)) (H' : Hp), Same H H' → ToldAt H' a zs → SumOf D zs → Q (.ref a) H'
abbrev nATold : List Str := ["self", "left", "letters"]
theorem scATold : FnScope nATold ["self"] (defScope tATold) := ⟨rfl, rfl, rfl, by decide +kernel, rfl, by decide +kernel, by decide +kernel⟩
theorem coef_all {D : List Mem} (nd : Nd D) : D.map (fun m => (m.1, coef D m.1)) = D := by
  have : D.map (fun m => (m.1, coef D m.1)) = D.map id := List.map_congr_left fun m hm => by
    have := mem_get nd (show (m.1, m.2) ∈ D from hm)
    unfold coef
    rw [this]
    rfl
  rw [this, List.map_id]
theorem ok_atold {f C : Addr} {fd : FuncData} {k : Nat} (F : Fun K "told" "Adding.told" tATold f fd) (T : ClsA K C) (B2 : Bare2 mg) : FnOk P w K mg base CX0 (k + 1) f fd ["self"] (spATold C) := by
  refine F.ok scATold (fun vs H Q E h => ?_) (fun cdv A outer s H vs Q E hr h => ?_)
  · obtain ⟨p, d, D, rfl, _⟩ := h
    rfl
  · obtain ⟨p, d, D, rfl, ⟨⟨dx, hp⟩, hd⟩, nd, hl, q⟩ := h
    have hu := hu_of hr
    refine ⟨_, pss_cons (ps_setLc (i := 1) (own := [("letters", 2)]) (g := gName 2) rfl scATold.nd rfl rfl (sw_true rfl rfl rfl (by decide +kernel)) (pi_list (pe_callB (cr_sortD rfl hr.units) (by rfl) B2.sorted (by decide +kernel) (pa_cons (pe_fld (pv 0) rfl) pa_nil)))
        (blkOk_by (own := [("letters", 2)]) (N := nATold) (sc := defScope tATold) (by decide +kernel)) (fun _ _ _ _ _ => pg_name (i := 2) scATold.nd rfl (Or.inl rfl))
        (fun _ _ _ _ _ => pts_one (pt_cmpR op_ne (pe_dget (td := tFld K (tVar 0) "numbers") hu (pe_fld (pv 0) rfl) (pv 2) (fun _ _ => rfl)) pe_int (nomark _))) (fun _ _ _ _ _ => pv 2))
      (pss_one (ps_ret (pe_callTy call_tuple_of (by rfl) B2.tuple (by decide +kernel) (pa_cons
        (pe_lc (own := [("letters", 2)]) (g := gName 2) (tt := tYes) rfl scATold.nd (pi_list (pv 1)) (blkOk_by (own := [("letters", 2)]) (N := nATold) (sc := defScope tATold) (by decide +kernel)) (fun _ _ _ _ _ => pg_name (i := 2) scATold.nd rfl (Or.inl rfl)) (fun _ _ _ _ _ => pts_nil)
          (fun _ _ _ _ _ => pe_tup (pa_cons (pv 2) (pa_cons (pe_dget (td := tFld K (tVar 0) "numbers") hu (pe_fld (pv 0) rfl) (pv 2) (fun _ _ => rfl)) pa_nil)))) pa_nil)))), ?_⟩
    -- left = [letters for letters in sorted(self.numbers) if self.numbers[letters] != 0]
    refine ⟨_, rfl, p, C, dx, _, _, rfl, hp, T.cl, T.nN, flds_at d, d, _, D.map (·.1), rfl, .inl hd, enT_keys D, fun ys so hys perm srt nso => ?_⟩
    have s1 := same_new (o := .lst (ys.map fun z => V.ref z.1)) (Same.refl H) nso
    have hso : (upd H so (.lst (ys.map fun z => V.ref z.1))) so = some (.lst (ys.map fun z => V.ref z.1)) := upd_same
    generalize upd H so (.lst (ys.map fun z => V.ref z.1)) = Hs at s1 hso ⊢
    refine ⟨so, rfl, ⟨_, sql hso⟩, fun D1 nD1 => ?_⟩
    have ly : ys.length = D.length := by
      have := perm.length_eq
      rw [List.length_map, List.length_map] at this
      exact this
    have val : ∀ z ∈ ys, get D z.2 = some (coef D z.2) := fun z hz => by
      obtain ⟨v, hv⟩ := has_get (perm.mem_iff.mp (List.mem_map.mpr ⟨z, hz, rfl⟩))
      unfold coef
      rw [hv]
      rfl
    have hin : ∀ H' : Hp, Same Hs H' → H' p = some (.ins C dx (flds d)) ∧ H' d = some (.dT (enT D)) := fun H' x => ⟨x _ _ (s1 _ _ hp), x _ _ (s1 _ _ hd)⟩
    have dget : ∀ H' : Hp, Same Hs H' → ∀ z ∈ ys, TupAt H' z.1 z.2 → DGet H' d (.ref z.1) (some (.int (coef D z.2))) := fun H' x z hz tz => by
      have := get_en (d := d) (b := z.1) (D := D) (k := z.2) (.inl (hin H' x).2) tz
      rw [val z hz] at this
      exact this
    refine lc_list (K := K) (a := so) (xs := ys.map fun z => V.ref z.1) (fun i H1 => H1 = upd Hs D1 (.lst (((ys.take i).filter fun z => decide (coef D z.2 ≠ 0)).map fun z => V.ref z.1))) rfl (fun i H1 _ hp => ?_) (fun i x H1 hx hp => ?_) fun H1 hp => ?_
    · subst hp
      exact sql ((same_new (Same.refl Hs) nD1) _ _ hso)
    · subst hp
      rw [List.getElem?_map] at hx
      obtain ⟨z, hz, rfl⟩ := Option.map_eq_some_iff.mp hx
      have hm := List.mem_of_getElem? hz
      have sD := same_new (o := .lst (((ys.take i).filter fun z => decide (coef D z.2 ≠ 0)).map fun z => V.ref z.1)) (Same.refl Hs) nD1
      have tz := sD _ _ (s1 _ _ (hys z hm))
      have tk : (ys.take (i + 1)).filter (fun z => decide (coef D z.2 ≠ 0)) = (ys.take i).filter (fun z => decide (coef D z.2 ≠ 0)) ++ if coef D z.2 ≠ 0 then [z] else [] := by
        rw [List.take_add_one, hz, List.filter_append]
        congr 1
        show [z].filter _ = _
        rw [List.filter_cons]
        by_cases e : coef D z.2 = 0 <;> simp [e]
      refine ⟨rfl, _, rfl, p, C, dx, _, _, rfl, (hin _ sD).1, T.cl, T.nN, flds_at d, _, rfl, d, _, rfl, dget _ sD z hm tz, rfl, _, rfl, ?_⟩
      refine ite2 (fun e => ?_) fun e => ?_
      · have ne : coef D z.2 ≠ 0 := by simpa using e
        refine ⟨_, rfl, _, upd_same, ?_, ?_⟩
        · have := List.length_filter_le (fun z : Addr × List Int => decide (coef D z.2 ≠ 0)) (ys.take i)
          rw [List.length_take] at this
          rw [List.length_map]
          exact small1000 (by omega)
        · rw [upd_upd, tk, if_pos ne, List.map_append]; rfl
      · have ne : ¬ coef D z.2 ≠ 0 := by simpa using e
        rw [tk, if_neg ne, List.append_nil]
    · subst hp
      rw [List.length_map, List.take_length]
      obtain ⟨lf, elf⟩ : ∃ lf, lf = ys.filter fun z => decide (coef D z.2 ≠ 0) := ⟨_, rfl⟩
      rw [← elf]
      have lsub : ∀ z ∈ lf, z ∈ ys := fun z hz => by rw [elf] at hz; exact (List.mem_filter.mp hz).1
      have llen : lf.length ≤ 900 := by
        have := List.length_filter_le (fun z : Addr × List Int => decide (coef D z.2 ≠ 0)) ys
        rw [← elf] at this
        omega
      have s2 := same_new (o := .lst (lf.map fun z => V.ref z.1)) (Same.refl Hs) nD1
      have hD1 : (upd Hs D1 (.lst (lf.map fun z => V.ref z.1))) D1 = some (.lst (lf.map fun z => V.ref z.1)) := upd_same
      generalize upd Hs D1 (.lst (lf.map fun z => V.ref z.1)) = H2 at s2 hD1 ⊢
      -- tuple([(letters, self.numbers[letters]) for letters in left])
      refine ⟨_, rfl, D1, rfl, ⟨_, sql hD1⟩, fun D2 nD2 => ?_⟩
      refine lc_list (K := K) (a := D1) (xs := lf.map fun z => V.ref z.1) (fun i H3 => ∃ zs : List (Addr × Mem), Same H2 H3 ∧ H3 D2 = some (.lst (zs.map fun z => V.ref z.1)) ∧ (∀ z ∈ zs, MemAt H3 z.1 z.2) ∧ zs.map (·.2) = (lf.take i).map fun z => (z.2, coef D z.2))
        ⟨[], same_new (Same.refl H2) nD2, upd_same, fun z m => by simp at m, rfl⟩ (fun i H3 _ hp => ?_) (fun i x H3 hx hp => ?_) fun H3 hp => ?_
      · obtain ⟨_, s3, _⟩ := hp
        exact sql (s3 _ _ hD1)
      · obtain ⟨zs, s3, hD2, hmem, ez⟩ := hp
        rw [List.getElem?_map] at hx
        obtain ⟨z, hz, rfl⟩ := Option.map_eq_some_iff.mp hx
        have hi := (List.getElem?_eq_some_iff.mp hz).1
        have hm := lsub z (List.mem_of_getElem? hz)
        have s23 := s2.trans s3
        have tz := s23 _ _ (s1 _ _ (hys z hm))
        have lz : zs.length = i := by
          rw [← List.length_map (f := (·.2)), ez, List.length_map, List.length_take]
          omega
        refine ⟨rfl, _, rfl, _, rfl, p, C, dx, _, _, rfl, (hin _ s23).1, T.cl, T.nN, flds_at d, _, rfl, d, _, rfl, dget _ s23 z hm tz, by show 2 ≤ sizeLine; decide, fun t nt => ?_⟩
        have D2t : D2 ≠ t := ne_of_none hD2 nt
        have ts : Tups H3 (upd (upd H3 t (.tup [.ref z.1, .int (coef D z.2)])) D2 (.lst ((zs.map fun z => V.ref z.1) ++ [V.ref t]))) := fun b xs e => by
          rw [upd_ne (ne_of e hD2 (by intro z; cases z)), upd_ne (ne_of_none e nt)]
          exact e
        refine ⟨_, by rw [upd_ne D2t]; exact hD2, ?_, zs ++ [(t, (z.2, coef D z.2))], fun b o e => ?_, ?_, fun v hv => ?_, ?_⟩
        · rw [List.length_map]; exact small1000 (by omega)
        · rw [upd_ne (ne_of_none e nD2), upd_ne (ne_of_none (s3 _ _ e) nt)]; exact s3 _ _ e
        · rw [upd_same, List.map_append]; rfl
        · rcases List.mem_append.mp hv with hv | hv
          · exact (hmem v hv).mono ts
          · have : v = (t, (z.2, coef D z.2)) := by simpa using hv
            subst this
            exact ⟨z.1, by rw [upd_ne D2t.symm, upd_same], ts _ _ tz⟩
        · rw [List.map_append, ez, List.take_add_one, hz, List.map_append]; rfl
      · obtain ⟨zs, s3, hD2, hmem, ez⟩ := hp
        rw [List.length_map, List.take_length] at ez
        refine ⟨D2, _, rfl, .inl ⟨sql hD2, fun a na => ?_⟩⟩
        have s4 := same_new (o := .tup (zs.map fun z => V.ref z.1)) (Same.refl H3) na
        refine q a zs _ (((s1.trans s2).trans s3).trans s4) ⟨upd_same, fun z hz => (hmem z hz).mono (tups_of s4)⟩ ⟨?_, ?_⟩
        · have h1 := perm.map fun k => (k, coef D k)
          rw [List.map_map, List.map_map] at h1
          have h2 : D.map ((fun k => (k, coef D k)) ∘ fun m : Mem => m.1) = D := coef_all nd
          rw [h2] at h1
          have h3 := h1.filter fun m => decide (m.2 ≠ 0)
          rw [List.filter_map] at h3
          rw [ez, elf]
          exact h3
        · rw [ez, elf]
          exact List.pairwise_map.mpr ((srt.filter _).imp fun h => h)
end
end K31

/-! K31WB: add_triple and paired_sum. -/
namespace K31
open PySem PySem.Spec PyProof.Rows L2
section
variable {P : Program} {w : World} {K : PySem.W.Frag} {mg : Str → Option Value} {base : Heap}
/-! ### add_triple -/
def spTriple (C : Addr) : Sp := fun vs H Q _ => ∃ (p d b : Addr) (D : List Mem) (x y z n h : Int), vs = [.ref p, .ref b, .int n, .int h] ∧ AddAt C H p d D ∧ TupAt H b [x, y, z] ∧ D.length ≤ 900 ∧
  ∀ H' : Hp, But d H H' → AddAt C H' p d (build D (tripleAdds x y z n h)) → Q .non H'
theorem scTriple : FnScope ["adding", "letters", "number", "further", "x", "y", "z", "letter", "pair"] ["adding", "letters", "number", "further"] (defScope tTriple) := ⟨rfl, rfl, rfl, by decide +kernel, rfl, by decide +kernel, by decide +kernel⟩
/-- a loop that adds: the layer's state by its turn -/
structure Adds (C : Addr) (H H1 : Hp) (p d : Addr) (D A : List Mem) (i : Nat) : Prop where
  but : But d H H1
  at' : AddAt C H1 p d (build D (A.take i))
theorem Adds.next {C : Addr} {H H1 H2 : Hp} {p d : Addr} {D A : List Mem} {i : Nat} {m : Mem} (h : Adds C H H1 p d D A i) (e : A[i]? = some m) (x : Same H1 H2) : Adds C H (upd H2 d (.dT (enT (addK (build D (A.take i)) m)))) p d D A (i + 1) := by
  refine ⟨fun b o q n => by rw [upd_ne n]; exact x _ _ (h.but b o q n), ?_⟩
  have : addK (build D (A.take i)) m = build D (A.take (i + 1)) := by
    rw [List.take_add_one, e]
    exact (build_snoc D (A.take i) m).symm
  rw [this]
  exact (h.at'.same x).put
theorem Adds.len {C : Addr} {H H1 : Hp} {p d : Addr} {D A : List Mem} {i : Nat} (h : Adds C H H1 p d D A i) (l : D.length + A.length ≤ 1000) : (build D (A.take i)).length ≤ 1000 := by
  have := len_build (A.take i) D
  rw [List.length_take] at this
  omega
theorem ok_triple {f g C : Addr} {fd gd : FuncData} (F : Fun K "add_triple" "add_triple" tTriple f fd) (T : ClsA K C) (mA : Meth K C "add" g)
    (G : FnOk P w K mg base CX0 1 g gd ["self", "letters", "number"] (spAAdd C)) (bG : Binds K gd ["self", "letters", "number"] []) : FnOk P w K mg base CX0 2 f fd ["adding", "letters", "number", "further"] (spTriple C) := by
  refine F.ok scTriple (fun vs H Q E h => ?_) (fun cdv A outer s H vs Q E hr h => ?_)
  · obtain ⟨p, d, b, D, x, y, z, n, h, rfl, _⟩ := h
    rfl
  · obtain ⟨p, d, b, D, x, y, z, n, h, rfl, A0, hb, hl, q⟩ := h
    obtain ⟨dx, hp⟩ := A0.ob
    have no : (flds d).lookup ("add" : Str) = none := flds_no d (by decide +kernel)
    refine ⟨_, pss_cons (ps_asg (pv 1) (pg_tup rfl (pgs_cons (pg_name (i := 4) scTriple.nd rfl (Or.inl rfl)) (pgs_cons (pg_name (i := 5) scTriple.nd rfl (Or.inl rfl)) (pgs_cons (pg_name (i := 6) scTriple.nd rfl (Or.inl rfl)) pgs_nil)))))
      (pss_cons (ps_if (pt_cmpR op_lt (pv 2) pe_int (nomark _))
        (pss_cons (ps_for PassesOwn.never rfl (pi_tup (pv 1)) (pg_name (i := 7) scTriple.nd rfl (Or.inl rfl))
          (pss_one (ps_expr (pe_meth (pv 0) T.cl mA G hr bG .nil pass0 (pa_cons (pe_tup (pa_cons (pv 7) (pa_cons (pv 3) pa_nil))) (pa_cons (pv 2) pa_nil))))))
        (pss_cons (ps_expr (pe_meth (pv 0) T.cl mA G hr bG .nil pass0 (pa_cons (pe_tup (pa_cons (pv 3) pa_nil)) (pa_cons (pe_op op_mul (pe_un un_neg pe_int) (pv 2)) pa_nil))))
        (pss_one ps_retN))) pss_nil)
      (pss_cons (ps_for PassesOwn.never rfl (pi_tup (pe_tup (pa_cons (pe_tup (pa_cons (pv 4) (pa_cons (pv 5) pa_nil))) (pa_cons (pe_tup (pa_cons (pv 4) (pa_cons (pv 6) pa_nil))) (pa_cons (pe_tup (pa_cons (pv 5) (pa_cons (pv 6) pa_nil))) pa_nil))))) (pg_name (i := 8) scTriple.nd rfl (Or.inl rfl))
        (pss_one (ps_expr (pe_meth (pv 0) T.cl mA G hr bG .nil pass0 (pa_cons (pv 8) (pa_cons (pv 2) pa_nil))))))
      (pss_cons (ps_for PassesOwn.never rfl (pi_tup (pv 1)) (pg_name (i := 7) scTriple.nd rfl (Or.inl rfl))
        (pss_one (ps_expr (pe_meth (pv 0) T.cl mA G hr bG .nil pass0 (pa_cons (pe_tup (pa_cons (pv 7) (pa_cons (pv 3) pa_nil))) (pa_cons (pe_un un_neg (pv 2)) pa_nil))))))
      (pss_one (ps_expr (pe_meth (pv 0) T.cl mA G hr bG .nil pass0 (pa_cons (pe_tup (pa_cons (pv 3) pa_nil)) (pa_cons (pv 2) pa_nil)))))))), ?_⟩
    refine ⟨_, rfl, b, _, rfl, sqt hb, rfl, _, _, rfl, _, _, rfl, _, _, rfl, rfl, ?_⟩
    have bd : ∀ H1 : Hp, But d H H1 → TupAt H1 b [x, y, z] := fun H1 x => x _ _ hb (ne_of hb A0.tab (by intro z; cases z))
    -- the loop over the letters, for a number m
    refine ⟨_, rfl, _, _, rfl, rfl, _, rfl, ?_⟩
    refine ite2 (fun e => ?_) fun e => ?_
    · have hn : n < 0 := of_decide_eq_true e
      have eA : tripleAdds x y z n h = [([x, h], n), ([y, h], n), ([z, h], n), ([h], -2 * n)] := by unfold tripleAdds; rw [if_pos hn]
      refine ⟨_, rfl, b, rfl, ⟨_, sqt hb⟩, ?_⟩
      refine for_tup (K := K) (a := b) (xs := [x, y, z].map V.int) (fun i σ H1 => ∃ y7 : Option V, σ = [some (.ref p), some (.ref b), some (.int n), some (.int h), some (.int x), some (.int y), some (.int z), y7, none] ∧ Adds C H H1 p d D (tripleAdds x y z n h) i)
        ⟨none, rfl, But.refl, by rw [List.take_zero]; exact A0⟩ (fun i σ H1 _ hp => ?_) (fun i v σ H1 hx hp => ?_) fun σ H1 hp => ?_
      · obtain ⟨_, _, ad⟩ := hp
        exact sqt (bd H1 ad.but)
      · obtain ⟨y7, rfl, ad⟩ := hp
        rw [List.getElem?_map] at hx
        obtain ⟨l, hl2, rfl⟩ := Option.map_eq_some_iff.mp hx
        have em : (tripleAdds x y z n h)[i]? = some ([l, h], n) := by
          have lt := (List.getElem?_eq_some_iff.mp hl2).1
          rw [eA]
          match i, lt, hl2 with
          | 0, _, e => cases e; rfl
          | 1, _, e => cases e; rfl
          | 2, _, e => cases e; rfl
        obtain ⟨dx1, hp1⟩ := ad.at'.ob
        refine ⟨_, rfl, p, dx1, _, rfl, hp1, no, _, rfl, _, rfl, by show 2 ≤ sizeLine; decide, fun t nt => ?_⟩
        have s1 := same_new (o := .tup [V.int l, V.int h]) (Same.refl H1) nt
        refine ⟨_, rfl, p, d, t, _, [l, h], n, rfl, ad.at'.same s1, upd_same, ad.len (by rw [eA]; show D.length + 4 ≤ 1000; omega), _, rfl, ad.next em s1⟩
      · obtain ⟨y7, rfl, ad⟩ := hp
        obtain ⟨dx1, hp1⟩ := ad.at'.ob
        refine ⟨_, rfl, p, dx1, _, rfl, hp1, no, _, rfl, by show 1 ≤ sizeLine; decide, fun t nt => ?_⟩
        have s1 := same_new (o := .tup [V.int h]) (Same.refl H1) nt
        have em : (tripleAdds x y z n h)[3]? = some ([h], -2 * n) := by rw [eA]; rfl
        have nx := ad.next (i := 3) em s1
        refine ⟨_, rfl, _, rfl, _, _, rfl, rfl, .inl ⟨by decide, by decide⟩, p, d, t, _, [h], -2 * n, rfl, ad.at'.same s1, upd_same, ad.len (i := 3) (by rw [eA]; show D.length + 4 ≤ 1000; omega), ?_⟩
        refine q _ nx.but ?_
        have full : (tripleAdds x y z n h).take (3 + 1) = tripleAdds x y z n h := by rw [eA]; rfl
        have last := nx.at'
        rw [full] at last
        exact last
    · have hn : ¬ n < 0 := fun h => e (decide_eq_true h)
      have eA : tripleAdds x y z n h = [([x, y], n), ([x, z], n), ([y, z], n), ([x, h], -n), ([y, h], -n), ([z, h], -n), ([h], n)] := by unfold tripleAdds; rw [if_neg hn]
      -- the three pairs
      refine ⟨_, rfl, _, rfl, by show 2 ≤ sizeLine; decide, fun t1 n1 => ⟨_, rfl, _, rfl, by show 2 ≤ sizeLine; decide, fun t2 n2 => ⟨_, rfl, _, rfl, by show 2 ≤ sizeLine; decide, fun t3 n3 => ⟨by show 3 ≤ sizeLine; decide, fun ll nl => ?_⟩⟩⟩⟩
      have s1 := same_new (o := .tup [.int x, .int y]) (Same.refl H) n1
      have s2 := same_new (o := .tup [.int x, .int z]) (Same.refl _) n2
      have s3 := same_new (o := .tup [.int y, .int z]) (Same.refl _) n3
      have s4 := same_new (o := .tup [.ref t1, .ref t2, .ref t3]) (Same.refl _) nl
      have a1 : TupAt _ t1 [x, y] := s4 _ _ (s3 _ _ (s2 _ _ upd_same))
      have a2 : TupAt _ t2 [x, z] := s4 _ _ (s3 _ _ upd_same)
      have a3 : TupAt _ t3 [y, z] := s4 _ _ upd_same
      have sall := ((s1.trans s2).trans s3).trans s4
      refine ⟨ll, rfl, ⟨_, sqt upd_same⟩, ?_⟩
      refine for_tup (K := K) (a := ll) (xs := [(t1, [x, y]), (t2, [x, z]), (t3, [y, z])].map fun z : Addr × List Int => V.ref z.1) (fun i σ H1 => ∃ y8 : Option V, σ = [some (.ref p), some (.ref b), some (.int n), some (.int h), some (.int x), some (.int y), some (.int z), none, y8] ∧ Adds C H H1 p d D (tripleAdds x y z n h) i ∧ H1 ll = some (.tup [.ref t1, .ref t2, .ref t3]) ∧ ∀ v ∈ [(t1, [x, y]), (t2, [x, z]), (t3, [y, z])], TupAt H1 v.1 v.2)
        ⟨none, rfl, ⟨But.of sall, by rw [List.take_zero]; exact A0.same sall⟩, upd_same, fun v hv => ?_⟩ (fun i σ H1 _ hp => ?_) (fun i v σ H1 hx hp => ?_) fun σ H1 hp => ?_
      · simp only [List.mem_cons, List.not_mem_nil, or_false] at hv
        rcases hv with rfl | rfl | rfl
        · exact a1
        · exact a2
        · exact a3
      · obtain ⟨_, _, _, e, _⟩ := hp
        exact sqt e
      · obtain ⟨y8, rfl, ad, hll, htt⟩ := hp
        rw [List.getElem?_map] at hx
        obtain ⟨v, hv, rfl⟩ := Option.map_eq_some_iff.mp hx
        have tv := htt v (List.mem_of_getElem? hv)
        have em : (tripleAdds x y z n h)[i]? = some (v.2, n) := by
          have lt := (List.getElem?_eq_some_iff.mp hv).1
          rw [eA]
          match i, lt, hv with
          | 0, _, e => cases e; rfl
          | 1, _, e => cases e; rfl
          | 2, _, e => cases e; rfl
        obtain ⟨dx1, hp1⟩ := ad.at'.ob
        refine ⟨_, rfl, p, dx1, _, rfl, hp1, no, _, rfl, _, rfl, p, d, v.1, _, v.2, n, rfl, ad.at', tv, ad.len (by rw [eA]; show D.length + 7 ≤ 1000; omega), _, rfl, ad.next em (Same.refl H1), ?_, fun u hu => ?_⟩
        · rw [upd_ne (ne_of hll ad.at'.tab (by intro z; cases z))]; exact hll
        · show upd H1 d _ u.1 = _
          rw [upd_ne (ne_of (htt u hu) ad.at'.tab (by intro z; cases z))]
          exact htt u hu
      · obtain ⟨y8, rfl, ad, _, _⟩ := hp
        -- the letters
        refine ⟨_, rfl, b, rfl, ⟨_, sqt (bd H1 ad.but)⟩, ?_⟩
        refine for_tup (K := K) (a := b) (xs := [x, y, z].map V.int) (fun i σ H1 => ∃ y7 : Option V, σ = [some (.ref p), some (.ref b), some (.int n), some (.int h), some (.int x), some (.int y), some (.int z), y7, y8] ∧ Adds C H H1 p d D (tripleAdds x y z n h) (3 + i))
          ⟨none, rfl, ad⟩ (fun i σ H1 _ hp => ?_) (fun i v σ H1 hx hp => ?_) fun σ H1 hp => ?_
        · obtain ⟨_, _, ad⟩ := hp
          exact sqt (bd H1 ad.but)
        · obtain ⟨y7, rfl, ad⟩ := hp
          rw [List.getElem?_map] at hx
          obtain ⟨l, hl2, rfl⟩ := Option.map_eq_some_iff.mp hx
          have em : (tripleAdds x y z n h)[3 + i]? = some ([l, h], -n) := by
            have lt := (List.getElem?_eq_some_iff.mp hl2).1
            rw [eA]
            match i, lt, hl2 with
            | 0, _, e => cases e; rfl
            | 1, _, e => cases e; rfl
            | 2, _, e => cases e; rfl
          obtain ⟨dx1, hp1⟩ := ad.at'.ob
          refine ⟨_, rfl, p, dx1, _, rfl, hp1, no, _, rfl, _, rfl, by show 2 ≤ sizeLine; decide, fun t nt => ?_⟩
          have s1 := same_new (o := .tup [V.int l, V.int h]) (Same.refl H1) nt
          refine ⟨_, rfl, _, rfl, p, d, t, _, [l, h], -n, rfl, ad.at'.same s1, upd_same, ad.len (by rw [eA]; show D.length + 7 ≤ 1000; omega), _, rfl, ad.next em s1⟩
        · obtain ⟨y7, rfl, ad⟩ := hp
          obtain ⟨dx1, hp1⟩ := ad.at'.ob
          refine ⟨_, rfl, p, dx1, _, rfl, hp1, no, _, rfl, by show 1 ≤ sizeLine; decide, fun t nt => ?_⟩
          have s1 := same_new (o := .tup [V.int h]) (Same.refl H1) nt
          have em : (tripleAdds x y z n h)[6]? = some ([h], n) := by rw [eA]; rfl
          have nx := ad.next (i := 6) em s1
          refine ⟨_, rfl, p, d, t, _, [h], n, rfl, ad.at'.same s1, upd_same, ad.len (i := 6) (by rw [eA]; show D.length + 7 ≤ 1000; omega), ?_⟩
          refine q _ nx.but ?_
          have full : (tripleAdds x y z n h).take (6 + 1) = tripleAdds x y z n h := by rw [eA]; rfl
          have last := nx.at'
          rw [full] at last
          exact last
/-! ### paired_sum -/
def spPaired : Sp := fun vs H Q _ => ∃ (t : Addr) (c : Nat) (zs : List (Addr × Mem)), vs = [.ref t, .int c] ∧ ToldAt H t zs ∧ GoodT c 64 (zs.map (·.2)) ∧
  ∀ (a b : Addr) (ws : List (Addr × Mem)) (H' : Hp), Same H H' → H' a = some (.tup [.ref b, .int ((c : Int) + tri (zs.map (·.2)))]) → ToldAt H' b ws → MadeOf c (zs.map (·.2)) (ws.map (·.2)) → Q (.ref a) H'
theorem memAdds_len (m : Mem) (h : Int) : (memAdds m h).length ≤ 7 := by
  unfold memAdds
  split
  · unfold tripleAdds
    split
    · show 4 ≤ 7; decide
    · show 7 ≤ 7; decide
  · show 1 ≤ 7; decide
theorem adds_len : ∀ (T : List Mem) (h : Int), (adds h T).length ≤ 7 * T.length
  | [], _ => Nat.le_refl _
  | m :: T, h => by
    rw [adds_cons, List.length_append, List.length_cons]
    have := memAdds_len m h
    have := adds_len T (if isTri m = true then h + 1 else h)
    omega
theorem scPaired : FnScope ["told", "letter_count", "adding", "count", "letters", "number"] ["told", "letter_count"] (defScope tPaired) := ⟨rfl, rfl, rfl, by decide +kernel, rfl, by decide +kernel, by decide +kernel⟩
theorem ok_paired {f fI fA fT g h C : Addr} {fd dI dA dT' gd hd : FuncData} (F : Fun K "paired_sum" "paired_sum" tPaired f fd) (B : Bare mg) (T : ClsA K C) (mC : mg "Adding" = some (.ref C)) (M : Mk K C fI)
    (GI : FnOk P w K mg base CX0 1 fI dI ["self"] (spAInit C)) (bI : Binds K dI ["self"] [])
    (mA : Meth K C "add" fA) (GA : FnOk P w K mg base CX0 1 fA dA ["self", "letters", "number"] (spAAdd C)) (bA : Binds K dA ["self", "letters", "number"] [])
    (mT : Meth K C "told" fT) (GT : FnOk P w K mg base CX0 1 fT dT' ["self"] (spATold C)) (bT : Binds K dT' ["self"] [])
    (G3 : FnOk P w K mg base CX0 2 g gd ["adding", "letters", "number", "further"] (spTriple C)) (k3 : PySem.W.keepIn K (.ref g) = true) (b3 : Binds K gd ["adding", "letters", "number", "further"] []) (m3 : mg "add_triple" = some (.ref g))
    (GS : FnOk P w K mg base CX0 3 h hd ["value", "letter_count"] spIsSum) (kS : PySem.W.keepIn K (.ref h) = true) (bS : Binds K hd ["value", "letter_count"] []) (mS : mg "is_sum" = some (.ref h)) :
    FnOk P w K mg base CX0 4 f fd ["told", "letter_count"] spPaired := by
  refine F.ok scPaired (fun vs H Q E h => ?_) (fun cdv A outer s H vs Q E hr h => ?_)
  · obtain ⟨t, c, zs, rfl, _⟩ := h
    rfl
  · obtain ⟨t, c, zs, rfl, T0, g0, q⟩ := h
    refine ⟨_, pss_cons (ps_if (pt_not (pt_val (pe_call GS hr (by rfl) mS kS bS .nil pass0 (pa_cons (pv 0) (pa_cons (pv 1) pa_nil))))) pss_never pss_nil)
      (pss_cons (ps_set (i := 2) scPaired.nd rfl (Or.inl rfl) (pe_make0 M GI (hr.mono (by decide)) rfl mC bI .nil pass0))
      (pss_cons (ps_set (i := 3) scPaired.nd rfl (Or.inl rfl) (pv 1))
      (pss_cons (ps_for PassesOwn.never rfl (pi_tup (pv 0)) (pg_tup rfl (pgs_cons (pg_name (i := 4) scPaired.nd rfl (Or.inl rfl)) (pgs_cons (pg_name (i := 5) scPaired.nd rfl (Or.inl rfl)) pgs_nil)))
        (pss_one (ps_if (pt_cmpR op_eq (pe_callB call_len_seq (by rfl) B.len PySem.boot_len (pa_cons (pv 4) pa_nil)) pe_int (nomark _))
          (pss_cons (ps_expr (pe_call G3 (hr.mono (by decide)) (by rfl) m3 k3 b3 .nil pass0 (pa_cons (pv 2) (pa_cons (pv 4) (pa_cons (pv 5) (pa_cons (pv 3) pa_nil))))))
          (pss_one (ps_aug (i := 3) scPaired.nd rfl (.inl rfl) pe_int ip_add)))
          (pss_one (ps_expr (pe_meth (pv 2) T.cl mA GA (hr.mono (by decide)) bA .nil pass0 (pa_cons (pv 4) (pa_cons (pv 5) pa_nil))))))))
      (pss_one (ps_ret (pe_tup (pa_cons (pe_meth0 (pv 2) T.cl mT GT (hr.mono (by decide)) bT .nil pass0) (pa_cons (pv 3) pa_nil)))))))), ?_⟩
    have lz : zs.length ≤ 64 := by have := g0.len; rw [List.length_map] at this; exact this
    refine ⟨_, rfl, _, rfl, t, c, zs, rfl, T0, g0, fun H1 s1 => ⟨true, rfl, ?_⟩⟩
    refine ite2 (fun z => nomatch z) fun _ => ?_
    -- adding = Adding(); count = letter_count
    intro p dx np ndx nex
    refine ⟨p, dx, rfl, upd_same, fun d H2 nd2 A2 keep => ⟨rfl, ?_⟩⟩
    have s2 : Same H1 H2 := Same.made np ndx keep
    have s02 := s1.trans s2
    have hd0 : H1 d = none := by
      have pd : d ≠ p := fun e => by rw [e, upd_same] at nd2; cases nd2
      rw [upd_ne pd] at nd2
      by_cases e : d = dx
      · subst e; exact ndx
      · rw [upd_ne e] at nd2; exact nd2
    refine ⟨_, rfl, ?_⟩
    refine ⟨_, rfl, t, rfl, ⟨_, sqt (s02 _ _ T0.at')⟩, ?_⟩
    refine for_tup (K := K) (a := t) (xs := zs.map fun z => V.ref z.1) (fun i σ H3 => ∃ y4 y5 : Option V, σ = [some (.ref t), some (.int c), some (.ref p), some (.int ((c : Int) + tri ((zs.map (·.2)).take i))), y4, y5] ∧ Same H1 H3 ∧ AddAt C H3 p d (build [] (adds c ((zs.map (·.2)).take i))))
      ⟨none, none, by rw [List.take_zero, tri_nil]; simp; rfl, s2, A2⟩ (fun i σ H3 _ hp => ?_) (fun i x σ H3 hx hp => ?_) fun σ H3 hp => ?_
    · obtain ⟨_, _, rfl, s3, _⟩ := hp
      exact sqt (s3 _ _ (s1 _ _ T0.at'))
    · obtain ⟨y4, y5, rfl, s3, A3⟩ := hp
      rw [List.getElem?_map] at hx
      obtain ⟨z, hz, rfl⟩ := Option.map_eq_some_iff.mp hx
      have hi := (List.getElem?_eq_some_iff.mp hz).1
      have hm := List.mem_of_getElem? hz
      obtain ⟨b, h1, h2⟩ := (T0.mem z hm).mono (tups_of (s1.trans s3))
      have hz2 : (zs.map (·.2))[i]? = some z.2 := by rw [List.getElem?_map, hz]; rfl
      have tk : (zs.map (·.2)).take (i + 1) = (zs.map (·.2)).take i ++ [z.2] := by rw [List.take_add_one, hz2]; rfl
      have lD : (build [] (adds c ((zs.map (·.2)).take i))).length ≤ 448 := by
        have a1 := len_build (adds c ((zs.map (·.2)).take i)) []
        have a2 := adds_len ((zs.map (·.2)).take i) c
        have a3 : ((zs.map (·.2)).take i).length ≤ 64 := by rw [List.length_take, List.length_map]; omega
        rw [List.length_nil] at a1
        omega
      have step : build [] (adds c ((zs.map (·.2)).take (i + 1))) = build (build [] (adds c ((zs.map (·.2)).take i))) (memAdds z.2 ((c : Int) + tri ((zs.map (·.2)).take i))) := by rw [tk, adds_snoc, build_append]
      refine ⟨z.1, _, rfl, sqt h1, rfl, _, _, rfl, _, _, rfl, rfl, ?_⟩
      refine ⟨_, rfl, b, _, rfl, .inr (sqt h2), rfl, _, rfl, ?_⟩
      refine ite2 (fun e => ?_) fun e => ?_
      · have e3 : z.2.1.length = 3 := by simp at e; omega
        have t3 : isTri z.2 = true := decide_eq_true e3
        obtain ⟨u, v, x, ex⟩ := three e3
        rw [ex] at h2
        refine ⟨_, rfl, _, rfl, _, rfl, _, rfl, p, d, b, _, u, v, x, _, _, rfl, A3, h2, by omega, fun H4 b4 A4 => ?_⟩
        refine ⟨_, rfl, _, _, rfl, rfl, some (.ref b), some (.int z.2.2), ?_, fun a o e => b4 _ _ (s3 _ _ e) (ne_of_none e hd0), ?_⟩
        · rw [tk, tri_snoc, if_pos t3]
          show [_, _, _, some (V.int ((c : Int) + tri ((zs.map (·.2)).take i) + 1)), _, _] = _
          rw [show ((tri ((zs.map (·.2)).take i) + 1 : Nat) : Int) = tri ((zs.map (·.2)).take i) + 1 by omega, Int.add_assoc]
        · rw [step, memAdds_tri ex]
          exact A4
      · have e3 : ¬ z.2.1.length = 3 := by simp at e; omega
        have t3 : isTri z.2 = false := decide_eq_false e3
        obtain ⟨dx3, hp3⟩ := A3.ob
        refine ⟨_, rfl, p, dx3, _, rfl, hp3, flds_no d (by decide +kernel), _, rfl, _, rfl, p, d, b, _, z.2.1, z.2.2, rfl, A3, h2, by omega, some (.ref b), some (.int z.2.2), ?_, fun a o e => ?_, ?_⟩
        · rw [tk, tri_snoc, t3, if_neg (by simp)]
          rfl
        · rw [upd_ne (ne_of_none e hd0)]; exact s3 _ _ e
        · rw [step, memAdds_no t3]
          exact A3.put
    · obtain ⟨y4, y5, rfl, s3, A3⟩ := hp
      rw [List.length_map, ← List.length_map (f := fun z : Addr × Mem => z.2) (as := zs), List.take_length] at A3 ⊢
      obtain ⟨dx3, hp3⟩ := A3.ob
      have lD : (build [] (adds c (zs.map (·.2)))).length ≤ 900 := by
        have a1 := len_build (adds c (zs.map (·.2))) []
        have a2 := adds_len (zs.map (·.2)) c
        rw [List.length_nil] at a1
        rw [List.length_map] at a2
        omega
      refine ⟨_, rfl, p, dx3, _, rfl, hp3, flds_no d (by decide +kernel), p, d, _, rfl, A3, nd_build _ _ nd_nil, lD, fun a ws H4 s4 T4 S4 => ?_⟩
      refine ⟨_, rfl, by show 2 ≤ sizeLine; decide, fun r nr => ?_⟩
      have s5 := same_new (o := .tup [V.ref a, V.int ((c : Int) + tri (zs.map (·.2)))]) (Same.refl H4) nr
      exact q r a ws _ (((s1.trans s3).trans s4).trans s5) upd_same (T4.mono (tups_of s5)) ⟨S4.1⟩
end
end K31

/-! K31WC: the law. -/
namespace K31
open PySem PySem.Spec PyProof.Rows L2
def rRepS (K : PySem.W.Frag) : V → V → Hp → VK → Prop := fun x y H Q => ∃ (l : Addr) (k : Int) (v : V), x = .ref l ∧ y = .int k ∧ H l = some (.tup [v]) ∧ 1 ≤ k ∧ k ≤ 1000 ∧ ∀ (p : Addr) (H' : Hp), Same H H' → H' p = some (.tup (List.replicate k.toNat v)) → Q (.ref p) H'
def rLenS (K : PySem.W.Frag) : List V → Hp → VK → Prop := fun xs H Q => ∃ p ys, xs = [.ref p] ∧ (SqL K H p ys ∨ SqT K H p ys) ∧ Q (.int ys.length) H
section
variable {X : Cx}
theorem op_repS : OpR X (binaryOp .Mult) (rRepS X.K) := by
  intro pins s σ H x y v u Q I rx ry h
  obtain ⟨l, k, e, rfl, rfl, hl, h1, h2, q⟩ := h
  refine op_rep1 pins s σ H _ _ v u Q I rx ry ⟨l, k, e, rfl, rfl, sqt hl, h1, h2, fun h => ?_, fun _ p hp => q p _ (same_new (Same.refl H) hp) upd_same⟩
  refine q l H (Same.refl H) ?_
  subst h
  exact hl
theorem call_lenS : CallR X (.builtin "len") (rLenS X.K) := call_len_seq
end
structure Bare6 (mg : Str → Option Value) : Prop where
  min : mg "min" = none
section
variable {P : Program} {w : World} {K : PySem.W.Frag} {mg : Str → Option Value} {base : Heap}
def spLaw (K : PySem.W.Frag) : Sp := fun vs H Q _ => ∃ (a : Addr) (ns : List Int), vs = [.ref a] ∧ SqL K H a (ns.map V.int) ∧ ns.length ≤ 63 ∧ ∀ H' : Hp, Q (.bl true) H'
abbrev nLaw : List Str := ["_law_script", "_law_state_here", "_law_count", "_law_told", "_law_answer", "_law_paired", "_law_many", "_law_letters", "_law_number", "_law_triples", "_law_rows_here", "_law_row", "_law_least", "_law_bent", "_law_k", "_law_more_here"]
theorem scLaw : FnScope nLaw ["_law_script"] (defScope tLaw) := ⟨rfl, rfl, rfl, by decide +kernel, rfl, by decide +kernel, by decide +kernel⟩
/-- a def of the module, as a caller wants it -/
structure At (P : Program) (w : World) (K : PySem.W.Frag) (mg : Str → Option Value) (base : Heap) (k : Nat) (x : Str) (ps : List Str) (sp : Sp) (g : Addr) (gd : FuncData) : Prop where
  ok : FnOk P w K mg base CX0 k g gd ps sp
  kp : PySem.W.keepIn K (.ref g) = true
  bi : Binds K gd ps []
  nm : mg x = some (.ref g)
theorem ok_law {f g1 g2 g3 g4 g5 g6 g7 g8 g9 g10 : Addr} {fd d1 d2 d3 d4 d5 d6 d7 d8 d9 d10 : FuncData} (F : Fun K "law" "law" tLaw f fd) (B : Bare mg) (B2 : Bare2 mg) (B5 : Bare5 mg) (B6 : Bare6 mg)
    (S1 : At P w K mg base 1 "_law_state" ["_law_script"] (spState K) g1 d1)
    (S2 : At P w K mg base 1 "_law_draw" ["_law_script", "_law_state_here", "_law_many"] (spDraw K) g2 d2)
    (S3 : At P w K mg base 4 "_law_drawn_sum" ["_law_script", "_law_state_here", "_law_count", "_law_most", "_law_triples"] (spDrawn K) g3 d3)
    (S4 : At P w K mg base 3 "_law_made_bent" ["_law_script", "_law_state_here", "_law_told", "_law_count"] (spBent K) g4 d4)
    (S5 : At P w K mg base 4 "paired_sum" ["told", "letter_count"] spPaired g5 d5)
    (S6 : At P w K mg base 1 "_law_is_sum" ["_law_value", "_law_count"] spLIsSum g6 d6)
    (S7 : At P w K mg base 2 "_law_pick" ["_law_script", "_law_state_here", "_law_things"] (spPick K) g7 d7)
    (S8 : At P w K mg base 1 "_law_rows" ["_law_count"] spRows g8 d8)
    (S9 : At P w K mg base 1 "_law_worth" ["_law_told", "_law_row"] spWorth g9 d9)
    (S10 : At P w K mg base 2 "_law_bent_by_rows" ["_law_told", "_law_count"] spByRows g10 d10) :
    FnOk P w K mg base CX0 5 f fd ["_law_script"] (spLaw K) := by
  refine F.ok scLaw (fun vs H Q E h => ?_) (fun cdv A outer s H vs Q E hr h => ?_)
  · obtain ⟨a, ns, rfl, _⟩ := h
    rfl
  · obtain ⟨sc, ns, rfl, hs, few, q⟩ := h
    have r1 : Room 1 _ := hr.mono (by decide)
    have r2 : Room 2 _ := hr.mono (by decide)
    have r3 : Room 3 _ := hr.mono (by decide)
    refine ⟨_, pss_cons (ps_set (i := 1) scLaw.nd rfl (Or.inr rfl) (pe_call S1.ok r1 (by rfl) S1.nm S1.kp S1.bi .nil pass0 (pa_cons (pv 0) pa_nil)))
      (pss_cons (ps_set (i := 2) scLaw.nd rfl (Or.inr rfl) (pe_op op_add pe_int (pe_call S2.ok r1 (by rfl) S2.nm S2.kp S2.bi .nil pass0 (pa_cons (pv 0) (pa_cons (pv 1) (pa_cons pe_int pa_nil))))))
      (pss_cons (ps_set (i := 3) scLaw.nd rfl (Or.inl rfl) (pe_call S3.ok hr (by rfl) S3.nm S3.kp S3.bi .nil pass0 (pa_cons (pv 0) (pa_cons (pv 1) (pa_cons (pv 2) (pa_cons pe_int (pa_cons pe_int pa_nil)))))))
      (C8.pss_cut (ps_if (pt_cmpR op_eq (pe_call S2.ok r1 (by rfl) S2.nm S2.kp S2.bi .nil pass0 (pa_cons (pv 0) (pa_cons (pv 1) (pa_cons pe_int pa_nil)))) pe_int (nomark _))
        (pss_one (ps_set (i := 3) scLaw.nd rfl (Or.inl rfl) (pe_call S4.ok r3 (by rfl) S4.nm S4.kp S4.bi .nil pass0 (pa_cons (pv 0) (pa_cons (pv 1) (pa_cons (pv 3) (pa_cons (pv 2) pa_nil))))))) pss_nil)
      (pss_cons (ps_set (i := 4) scLaw.nd rfl (Or.inl rfl) (pe_call S5.ok hr (by rfl) S5.nm S5.kp S5.bi .nil pass0 (pa_cons (pv 3) (pa_cons (pv 2) pa_nil))))
      (pss_cons (ps_if (PW.pt (pw_or (pt_not (pt_val (pe_callB call_isi (by rfl) B5.isi (by decide +kernel) (pa_cons (pv 4) (pa_cons (pe_bltn (v := .ty "tuple") (by rfl) B2.tuple (by decide +kernel) rfl) pa_nil)))))
        (pw_or1 (pt_cmpR op_ne (pe_callB call_len_seq (by rfl) B.len PySem.boot_len (pa_cons (pv 4) pa_nil)) pe_int (nomark _))))) (pss_one (ps_ret pe_bl)) pss_nil)
      (pss_cons (ps_asg (pv 4) (pg_tup rfl (pgs_cons (pg_name (i := 5) scLaw.nd rfl (Or.inr rfl)) (pgs_cons (pg_name (i := 6) scLaw.nd rfl (Or.inl rfl)) pgs_nil))))
      (pss_cons (ps_set (i := 9) scLaw.nd rfl (Or.inl rfl) (pe_callB call_len_seq (by rfl) B.len PySem.boot_len (pa_cons
        (pe_lc (own := [("_law_letters", 7), ("_law_number", 8)]) (g := gTup K 2 (gCons (gName 7) (gCons (gName 8) gNil))) (tt := tTest (tOp rEq (tCB (rLenS K) (tCons (tVar 7) tNil)) (tC (.int 3)))) rfl scLaw.nd (pi_tup (pv 3)) (blkOk_by (own := [("_law_letters", 7), ("_law_number", 8)]) (N := nLaw) (sc := defScope tLaw) (by decide +kernel))
          (fun _ _ _ _ _ => pg_tup rfl (pgs_cons (pg_name (i := 7) scLaw.nd rfl (Or.inl rfl)) (pgs_cons (pg_name (i := 8) scLaw.nd rfl (Or.inl rfl)) pgs_nil)))
          (fun _ _ _ _ _ => pts_one (pt_cmpR op_eq (pe_callB (r := rLenS K) call_lenS (by rfl) B.len PySem.boot_len (pa_cons (pv 7) pa_nil)) pe_int (nomark _))) (fun _ _ _ _ _ => pv 7)) pa_nil)))
      (pss_cons (ps_if (PW.pt (pw_or (pt_not (pt_val (pe_callB call_isi (by rfl) B5.isi (by decide +kernel) (pa_cons (pv 6) (pa_cons (pe_bltn (v := .ty "int") (by rfl) B.int (by decide +kernel) rfl) pa_nil)))))
        (pw_or (pt_cmpR op_ne (pv 6) (pe_op op_add (pv 2) (pv 9)) (nomark _))
        (pw_or1 (pt_not (pt_val (pe_call S6.ok r1 (by rfl) S6.nm S6.kp S6.bi .nil pass0 (pa_cons (pv 5) (pa_cons (pv 6) pa_nil))))))))) (pss_one (ps_ret pe_bl)) pss_nil)
      (pss_cons (ps_set (i := 10) scLaw.nd rfl (Or.inl rfl) (pe_op op_cat
        (pe_lc (own := [("_law_k", 14)]) (g := gName 14) (tt := tYes) rfl scLaw.nd (pi_range1 rfl B.range (pa_cons pe_int pa_nil)) (blkOk_by (own := [("_law_k", 14)]) (N := nLaw) (sc := defScope tLaw) (by decide +kernel)) (fun _ _ _ _ _ => pg_name (i := 14) scLaw.nd rfl (Or.inl rfl)) (fun _ _ _ _ _ => pts_nil)
          (fun _ _ _ _ _ => pe_call S7.ok r2 (by rfl) S7.nm S7.kp S7.bi .nil pass0 (pa_cons (pv 0) (pa_cons (pv 1) (pa_cons (pe_call S8.ok r1 (by rfl) S8.nm S8.kp S8.bi .nil pass0 (pa_cons (pv 2) pa_nil)) pa_nil)))))
        (pe_lst (pa_cons (pe_op op_repS (pe_tup (pa_cons pe_int pa_nil)) (pv 2)) (pa_cons (pe_op op_repS (pe_tup (pa_cons pe_int pa_nil)) (pv 2)) pa_nil)))))
      (pss_cons (ps_for PassesOwn.never rfl (pi_list (pv 10)) (pg_name (i := 11) scLaw.nd rfl (Or.inr rfl))
        (pss_cons (ps_set (i := 12) scLaw.nd rfl (Or.inl rfl) (pe_callB (cr_min rfl) (by rfl) B6.min (by decide +kernel) (pa_cons
          (pe_lc (own := [("_law_more_here", 15)]) (g := gName 15) (tt := tYes) rfl scLaw.nd (pi_list (pe_call S8.ok r1 (by rfl) S8.nm S8.kp S8.bi .nil pass0 (pa_cons (pv 9) pa_nil))) (blkOk_by (own := [("_law_more_here", 15)]) (N := nLaw) (sc := defScope tLaw) (by decide +kernel)) (fun _ _ _ _ _ => pg_name (i := 15) scLaw.nd rfl (Or.inl rfl)) (fun _ _ _ _ _ => pts_nil)
            (fun _ _ _ _ _ => pe_call S9.ok r1 (by rfl) S9.nm S9.kp S9.bi .nil pass0 (pa_cons (pv 5) (pa_cons (pe_op op_catS (pv 11) (pv 15)) pa_nil)))) pa_nil)))
        (pss_one (ps_if (pt_cmpR op_ne (pv 12) (pe_call S9.ok r1 (by rfl) S9.nm S9.kp S9.bi .nil pass0 (pa_cons (pv 3) (pa_cons (pv 11) pa_nil))) (nomark _)) (pss_one (ps_ret pe_bl)) pss_nil))))
      (pss_cons (ps_set (i := 13) scLaw.nd rfl (Or.inl rfl) pe_bl)
      (pss_cons (ps_for PassesOwn.never rfl (pi_tup (pv 5)) (pg_tup rfl (pgs_cons (pg_name (i := 7) scLaw.nd rfl (Or.inl rfl)) (pgs_cons (pg_name (i := 8) scLaw.nd rfl (Or.inl rfl)) pgs_nil)))
        (pss_one (ps_if (PW.pt (pw_and (pt_cmpR op_eq (pe_callB call_len_seq (by rfl) B.len PySem.boot_len (pa_cons (pv 7) pa_nil)) pe_int (nomark _)) (pw_and1 (pt_cmpR op_gt (pv 8) pe_int (nomark _)))))
          (pss_one (ps_set (i := 13) scLaw.nd rfl (Or.inl rfl) pe_bl)) pss_nil)))
      (pss_one (ps_ret (pe_cmpR op_eq (pv 13) (pe_call S10.ok r2 (by rfl) S10.nm S10.kp S10.bi .nil pass0 (pa_cons (pv 3) (pa_cons (pv 2) pa_nil))) (nomark _)))))))))))))))), ?_⟩
    -- state, count, told
    refine ⟨_, rfl, sc, ns, rfl, hs, few, fun st H1 nst s1 D1 => ?_⟩
    refine ⟨_, rfl, _, rfl, sc, st, ns, _, rfl, D1, by decide, by decide, fun r H2 r0 r1 bt2 sa2 => ⟨_, _, rfl, rfl, ?_⟩⟩
    dsimp only
    generalize hc : (1 : Int) + r = ci
    obtain ⟨c, rfl⟩ : ∃ c : Nat, ci = c := ⟨ci.toNat, by omega⟩
    have c1 : 1 ≤ c := by omega
    have c5 : c ≤ 5 := by omega
    have D2 := D1.next bt2 sa2
    refine ⟨_, rfl, _, rfl, _, rfl, sc, st, ns, c, rfl, D2, c1, c5, fun a3 zs3 H3 bt3 sa3 T3 g3 => ?_⟩
    have D3 := D2.next bt3 sa3
    -- perhaps made bent
    refine ⟨fun σ H' => ∃ a zs, σ = [some (.ref sc), some (.ref st), some (.int c), some (.ref a), none, none, none, none, none, none, none, none, none, none, none, none] ∧ Drw K H' sc st ns ∧ ToldAt H' a zs ∧ GoodT c 64 (zs.map (·.2)), ?_, ?_⟩
    · refine ⟨_, rfl, _, rfl, sc, st, ns, _, rfl, D3, by decide, by decide, fun r4 H4 r40 r41 bt4 sa4 => ⟨rfl, _, rfl, ?_⟩⟩
      have D4 := D3.next bt4 sa4
      have T4 := T3.mono (D3.tups bt4)
      refine ite2 (fun _ => ?_) fun _ => ?_
      · refine ⟨_, rfl, _, rfl, _, rfl, _, rfl, sc, st, a3, ns, c, zs3, rfl, D4, T4, g3, fun a5 zs5 H5 bt5 sa5 T5 g5 => ?_⟩
        exact ⟨a5, zs5, rfl, D4.next bt5 sa5, T5, g5⟩
      · exact ⟨a3, zs3, rfl, D4, T4, g3.each, g3.srt, g3.nd, g3.tri, by have := g3.len; omega⟩
    rintro σ H5 ⟨a, zs, rfl, D5, T5, g5⟩
    have each : ∀ m ∈ zs.map (·.2), Good1 c m := g5.each
    have tri3 := g5.tri
    generalize hT : zs.map (·.2) = T at *
    -- paired_sum
    refine ⟨_, rfl, _, rfl, a, c, zs, rfl, T5, by rw [hT]; exact g5, fun p b ws H6 s6 hp Tw made => ?_⟩
    rw [hT] at made hp
    refine ⟨_, rfl, _, _, _, _, true, rfl, .ty "tuple", .base (.tup hp), kit_ty (by decide +kernel), true, rfl, ?_⟩
    refine ⟨_, rfl, p, _, rfl, .inr (sqt hp), rfl, _, rfl, ?_⟩
    refine ⟨_, rfl, p, _, rfl, sqt hp, rfl, _, _, rfl, _, _, rfl, rfl, ?_⟩
    have D6 := D5.same s6
    have T6 := T5.mono (tups_of s6)
    -- triples
    have lT : zs.length = T.length := by rw [← hT, List.length_map]
    have inT : ∀ z ∈ zs, z.2 ∈ T := fun z hz => by rw [← hT]; exact List.mem_map.mpr ⟨z, hz, rfl⟩
    refine ⟨_, rfl, a, rfl, ⟨_, sqt T6.at'⟩, fun D nD => ?_⟩
    refine lc_tup (K := K) (a := a) (xs := zs.map fun z => V.ref z.1) (fun i H7 => ∃ vs : List V, Same H6 H7 ∧ H7 D = some (.lst vs) ∧ vs.length = tri (T.take i))
      ⟨[], same_new (Same.refl H6) nD, upd_same, rfl⟩ (fun i H7 _ hq => ?_) (fun i x H7 hx hq => ?_) fun H7 hq => ?_
    · obtain ⟨_, s7, _⟩ := hq
      exact sqt (s7 _ _ T6.at')
    · obtain ⟨vs, s7, h7, ev⟩ := hq
      rw [List.getElem?_map] at hx
      obtain ⟨z, hz, rfl⟩ := Option.map_eq_some_iff.mp hx
      obtain ⟨q1, h1, h2⟩ := (T6.mem z (List.mem_of_getElem? hz)).mono (tups_of s7)
      have hzT : T[i]? = some z.2 := by rw [← hT, List.getElem?_map, hz]; rfl
      have tk : tri (T.take (i + 1)) = tri (T.take i) + if isTri z.2 = true then 1 else 0 := by rw [List.take_add_one, hzT]; exact tri_snoc _ _
      have l7 : vs.length ≤ 3 := by
        have : tri (T.take i) ≤ tri T := ((List.take_sublist i T).filter isTri).length_le
        omega
      refine ⟨z.1, _, rfl, sqt h1, rfl, _, _, rfl, _, _, rfl, rfl, rfl, _, rfl, q1, _, rfl, .inr (sqt h2), rfl, _, rfl, ?_⟩
      refine ite2 (fun e => ?_) fun e => ?_
      · have e3 : z.2.1.length = 3 := by simp at e; omega
        have t3 : isTri z.2 = true := decide_eq_true e3
        refine ⟨_, rfl, vs, h7, small1000 (by omega), vs ++ [.ref q1], fun x o e => ?_, upd_same, ?_⟩
        · rw [upd_ne (ne_of_none e nD)]; exact s7 x o e
        · rw [tk, if_pos t3, List.length_append, ev]; rfl
      · have e3 : ¬ z.2.1.length = 3 := by simp at e; omega
        have t3 : ¬ isTri z.2 = true := fun h => e3 (of_decide_eq_true h)
        refine ⟨vs, s7, h7, ?_⟩
        rw [tk, if_neg t3, ev]; rfl
    obtain ⟨vs, s7, h7, ev⟩ := hq
    rw [List.length_map, lT, List.take_length] at ev
    have D7 := D6.same s7
    have T7 := T6.mono (tups_of s7)
    have Tw7 := Tw.mono (tups_of s7)
    refine ⟨D, vs, rfl, .inl (sql h7), ?_⟩
    rw [ev]
    clear h7 ev
    -- many, is_sum
    have isw := made_is each made
    have inW : ∀ z ∈ ws, z.2 ∈ ws.map (·.2) := fun z hz => List.mem_map.mpr ⟨z, hz, rfl⟩
    refine ⟨_, rfl, _, _, _, _, true, rfl, .ty "int", .base (.int _), kit_ty (by decide +kernel), true, rfl, ?_⟩
    refine ⟨_, rfl, _, rfl, _, rfl, _, _, rfl, rfl, rfl, _, rfl, ?_⟩
    refine ite2 (fun e => absurd e (by simp)) fun _ => ?_
    refine ⟨_, rfl, _, rfl, b, _, ws, rfl, Tw7, fun z hz => isw z.2 (inW z hz), fun H8 s8 => ⟨true, rfl, ?_⟩⟩
    refine ite2 (fun z => nomatch z) fun _ => ?_
    have D8 := D7.same s8
    have T8 := T7.mono (tups_of s8)
    have Tw8 := Tw7.mono (tups_of s8)
    have l32 : 2 ^ c ≤ 32 := Nat.pow_le_pow_right (by decide) c5
    -- the rows picked
    refine ⟨4, rfl, by decide, by decide, fun D' nD' => ?_⟩
    have stD := D8.sta.ne nD'
    refine lc_range (lo := 0) (n := 4) (fun i H9 => ∃ vz : List (Addr × List Int), But st H8 H9 ∧ StAt ns.length H9 st ∧ RowsAt H9 D' vz ∧ vz.length = i ∧ ∀ z ∈ vz, z.2 ∈ rowsM c)
      ⟨[], But.refl.fresh nD', D8.sta.upd stD, ⟨upd_same, fun z m => by simp at m⟩, rfl, fun z m => by simp at m⟩ (fun i H9 hi hq => ?_) fun H9 hq => ?_
    · obtain ⟨vz, bt9, sa9, ra9, lv, in9⟩ := hq
      refine ⟨rfl, _, rfl, _, rfl, _, rfl, c, rfl, by omega, fun p2 rz H10 np2 s10 ra10 ez10 => ?_⟩
      have lz : rz.length = 2 ^ c := by rw [← rowsM_len, ← ez10, List.length_map]
      have D10 := (D8.next bt9 sa9).same s10
      have pos : 0 < 2 ^ c := Nat.two_pow_pos c
      refine ⟨sc, st, p2, ns, _, rfl, D10, sql ra10.at', (sa9.ne np2).symm, by rw [List.length_map]; omega, by rw [List.length_map]; omega, fun v H11 hv bt11 sa11 => ?_⟩
      obtain ⟨z, hz, rfl⟩ := List.mem_map.mp hv
      have b911 : But st H9 H11 := (But.of s10).trans bt11
      have tz := (ra10.mem z hz).mono (D10.tups bt11)
      have zin : z.2 ∈ rowsM c := by rw [← ez10]; exact List.mem_map.mpr ⟨z, hz, rfl⟩
      have hD11 := b911 _ _ ra9.at' (Ne.symm stD)
      refine ⟨_, hD11, by rw [List.length_map]; exact small1000 (by omega), vz ++ [z], (bt9.trans b911).fresh nD', sa11.upd stD, ⟨?_, fun u hu => ?_⟩, ?_, fun u hu => ?_⟩
      · rw [upd_same, List.map_append]; rfl
      · have key : TupAt H11 u.1 u.2 := by
          rcases List.mem_append.mp hu with hu | hu
          · exact (ra9.mem u hu).mono ((D8.next bt9 sa9).tups b911)
          · have : u = z := by simpa using hu
            subst this; exact tz
        show upd H11 D' _ u.1 = _
        rw [upd_ne (ne_of key hD11 (by intro z; cases z))]
        exact key
      · rw [List.length_append, lv]; rfl
      · rcases List.mem_append.mp hu with hu | hu
        · exact in9 u hu
        · have : u = z := by simpa using hu
          subst this; exact zin
    obtain ⟨vz, bt9, sa9, ra9, lv, in9⟩ := hq
    have T9 := T8.mono (D8.tups bt9)
    have Tw9 := Tw8.mono (D8.tups bt9)
    -- (0,) * count, (1,) * count
    refine ⟨by show 1 ≤ sizeLine; decide, fun t0 n0 => ⟨_, rfl, t0, c, .int 0, rfl, rfl, upd_same, by omega, by omega, fun p0 H10 s10 e0 => ?_⟩⟩
    have s910 := (same_new (o := .tup [.int 0]) (Same.refl H9) n0).trans s10
    refine ⟨by show 1 ≤ sizeLine; decide, fun t1 n1 => ⟨_, rfl, t1, c, .int 1, rfl, rfl, upd_same, by omega, by omega, fun p1 H11 s11 e1 => ?_⟩⟩
    have s1011 := (same_new (o := .tup [.int 1]) (Same.refl H10) n1).trans s11
    refine ⟨by show 2 ≤ sizeLine; decide, fun L nL => ?_⟩
    have s12 : Same H11 (upd H11 L (.lst [.ref p0, .ref p1])) := same_new (Same.refl H11) nL
    have s912 := (s910.trans s1011).trans s12
    refine ⟨D', L, _, _, rfl, rfl, s912 _ _ ra9.at', upd_same, by rw [List.length_map, lv]; exact Nat.le_of_lt (small1000 (by show 4 + 2 ≤ 1000; decide)), fun R nR => ?_⟩
    have s13 : Same H9 (upd (upd H11 L (.lst [.ref p0, .ref p1])) R (.lst ((vz.map fun z => V.ref z.1) ++ [.ref p0, .ref p1]))) := s912.trans (same_new (Same.refl _) nR)
    have rowsR : RowsAt (upd (upd H11 L (.lst [.ref p0, .ref p1])) R (.lst ((vz.map fun z => V.ref z.1) ++ [.ref p0, .ref p1]))) R (vz ++ [(p0, List.replicate c 0), (p1, List.replicate c 1)]) := ⟨by rw [upd_same, List.map_append]; rfl, fun z hz => by
      rcases List.mem_append.mp hz with hz | hz
      · exact s13 _ _ (ra9.mem z hz)
      · simp only [List.mem_cons, List.not_mem_nil, or_false] at hz
        rcases hz with rfl | rfl
        · have := (same_new (o := .lst ((vz.map fun z => V.ref z.1) ++ [.ref p0, .ref p1])) (Same.refl _) nR) _ _ (s12 _ _ (s1011 _ _ e0))
          rw [Int.toNat_natCast] at this
          show _ = some (HO.tup ((List.replicate c (0 : Int)).map V.int))
          rw [List.map_replicate]
          exact this
        · have := (same_new (o := .lst ((vz.map fun z => V.ref z.1) ++ [.ref p0, .ref p1])) (Same.refl _) nR) _ _ (s12 _ _ e1)
          rw [Int.toNat_natCast] at this
          show _ = some (HO.tup ((List.replicate c (1 : Int)).map V.int))
          rw [List.map_replicate]
          exact this⟩
    have inR : ∀ z ∈ vz ++ [(p0, List.replicate c (0 : Int)), (p1, List.replicate c (1 : Int))], z.2 ∈ rowsM c := fun z hz => by
      rcases List.mem_append.mp hz with hz | hz
      · exact in9 z hz
      · simp only [List.mem_cons, List.not_mem_nil, or_false] at hz
        rcases hz with rfl | rfl
        · exact (rowsM_mem c _).mpr ⟨List.length_replicate, fun x hx => .inl (List.eq_of_mem_replicate hx)⟩
        · exact (rowsM_mem c _).mpr ⟨List.length_replicate, fun x hx => .inr (List.eq_of_mem_replicate hx)⟩
    have T13 := T9.mono (tups_of s13)
    have Tw13 := Tw9.mono (tups_of s13)
    generalize upd (upd H11 L (.lst [.ref p0, .ref p1])) R (.lst ((vz.map fun z => V.ref z.1) ++ [.ref p0, .ref p1])) = Hn at T13 Tw13 rowsR ⊢
    generalize vz ++ [(p0, List.replicate c (0 : Int)), (p1, List.replicate c (1 : Int))] = rr at rowsR inR
    clear s13 s12 s912 bt9 sa9 ra9 T9 Tw9
    -- every row
    refine ⟨_, rfl, R, rfl, ⟨_, sql rowsR.at'⟩, ?_⟩
    refine for_list (K := K) (a := R) (xs := rr.map fun z => V.ref z.1) (fun i σ H => ∃ y11 y12 : Option V, σ = [some (.ref sc), some (.ref st), some (.int c), some (.ref a), some (.ref p), some (.ref b), some (.int ((c : Int) + tri T)), none, none, some (.int (tri T)), some (.ref R), y11, y12, none, none, none] ∧ Same Hn H)
      ⟨none, none, rfl, Same.refl _⟩ (fun i σ H _ hq => ?_) (fun i x σ H14 hx hq => ?_) fun σ H14 hq => ?_
    · obtain ⟨_, _, rfl, s14⟩ := hq
      exact sql (s14 _ _ rowsR.at')
    · obtain ⟨y11, y12, rfl, s14⟩ := hq
      rw [List.getElem?_map] at hx
      obtain ⟨z, hz, rfl⟩ := Option.map_eq_some_iff.mp hx
      have hzm := List.mem_of_getElem? hz
      have zin := inR z hzm
      obtain ⟨zl, z01⟩ := (rowsM_mem c _).mp zin
      have tz := s14 _ _ (rowsR.mem z hzm)
      have tr8 : 2 ^ tri T ≤ 8 := Nat.pow_le_pow_right (by decide) tri3
      -- least
      refine ⟨_, rfl, tri T, rfl, by omega, fun p2 mz H15 np2 s15 ra15 ez15 => ⟨p2, rfl, ⟨_, sql ra15.at'⟩, fun E nE => ?_⟩⟩
      have lmz : mz.length = 2 ^ tri T := by rw [← rowsM_len, ← ez15, List.length_map]
      refine lc_list (K := K) (a := p2) (xs := mz.map fun z => V.ref z.1) (fun i H16 => Same H15 H16 ∧ H16 E = some (.lst (((mz.take i).map fun y => worth (ws.map (·.2)) (at0 (z.2 ++ y.2))).map V.int)))
        ⟨same_new (Same.refl H15) nE, upd_same⟩ (fun i H16 _ hq => sql (hq.1 _ _ ra15.at')) (fun i x H16 hx hq => ?_) fun H16 hq => ?_
      · obtain ⟨s16, h16⟩ := hq
        rw [List.getElem?_map] at hx
        obtain ⟨y, hy, rfl⟩ := Option.map_eq_some_iff.mp hx
        have hym := List.mem_of_getElem? hy
        have hi := (List.getElem?_eq_some_iff.mp hy).1
        have yin : y.2 ∈ rowsM (tri T) := by rw [← ez15]; exact List.mem_map.mpr ⟨y, hym, rfl⟩
        obtain ⟨yl, y01⟩ := (rowsM_mem _ _).mp yin
        have ty := s16 _ _ (ra15.mem y hym)
        have tz16 := s16 _ _ (s15 _ _ tz)
        refine ⟨rfl, _, rfl, _, rfl, _, rfl, z.1, y.1, _, _, rfl, rfl, tz16, ty, by rw [List.length_map, List.length_map]; omega, fun q H17 s17 e17 => ?_⟩
        have sAll := ((s14.trans s15).trans s16).trans s17
        refine ⟨b, q, ws, z.2 ++ y.2, rfl, Tw13.mono (tups_of sAll), by rw [← List.map_append] at e17; exact e17, row01_app z01 y01, fun u hu => ?_, _, s17 _ _ h16, ?_, fun x o e => ?_, ?_⟩
        · have := (isw u.2 (inW u hu)).2
          intro l hl
          have := this l hl
          rw [List.length_append, zl, yl]
          omega
        · rw [List.length_map, List.length_map, List.length_take]; exact small1000 (by omega)
        · rw [upd_ne (ne_of_none e nE)]; exact s17 _ _ (s16 x o e)
        · rw [upd_same, List.take_add_one, hy, List.map_append, List.map_append]; rfl
      · obtain ⟨s16, h16⟩ := hq
        rw [List.length_map, List.take_length] at h16
        refine ⟨E, _, rfl, sql h16, by rw [List.length_map, lmz]; exact Nat.two_pow_pos _, fun m hm hle => ?_⟩
        have em : m = worth T (at0 z.2) := by
          obtain ⟨ge, mo, hmo, emo⟩ := made_least each made zin
          obtain ⟨y, hy, rfl⟩ := List.mem_map.mp hm
          have yin : y.2 ∈ rowsM (tri T) := by rw [← ez15]; exact List.mem_map.mpr ⟨y, hy, rfl⟩
          rw [← ez15] at hmo
          obtain ⟨y2, hy2, rfl⟩ := List.mem_map.mp hmo
          have a1 := ge _ yin
          have a2 := hle _ (List.mem_map.mpr ⟨y2, hy2, rfl⟩)
          rw [emo] at a2
          omega
        have sAll := (s14.trans s15).trans s16
        refine ⟨_, rfl, _, rfl, _, rfl, a, z.1, zs, z.2, rfl, T13.mono (tups_of sAll), s16 _ _ (s15 _ _ tz), z01, fun u hu => ?_, rfl, _, rfl, ?_⟩
        · rw [zl]; exact (each u.2 (inT u hu)).rng
        rw [hT, em]
        refine ite2 (fun e => absurd e (by simp)) fun _ => ?_
        exact ⟨_, _, rfl, sAll⟩
    obtain ⟨y11, y12, rfl, s14⟩ := hq
    have T14 := T13.mono (tups_of s14)
    have Tw14 := Tw13.mono (tups_of s14)
    -- bent
    refine ⟨_, rfl, b, rfl, ⟨_, sqt Tw14.at'⟩, ?_⟩
    refine for_tup (K := K) (a := b) (xs := ws.map fun z => V.ref z.1) (fun i σ H => ∃ (y7 y8 : Option V) (k : Bool), σ = [some (.ref sc), some (.ref st), some (.int c), some (.ref a), some (.ref p), some (.ref b), some (.int ((c : Int) + tri T)), y7, y8, some (.int (tri T)), some (.ref R), y11, y12, some (.bl k), none, none] ∧ H = H14 ∧ (k = true ↔ BentP ((ws.take i).map (·.2))))
      ⟨none, none, true, rfl, rfl, ⟨fun _ m hm => by simp at hm, fun _ => rfl⟩⟩ (fun i σ H _ hq => ?_) (fun i x σ H hx hq => ?_) fun σ H hq => ?_
    · obtain ⟨_, _, _, rfl, rfl, _⟩ := hq
      exact sqt Tw14.at'
    · obtain ⟨y7, y8, k, rfl, rfl, hk⟩ := hq
      rw [List.getElem?_map] at hx
      obtain ⟨z, hz, rfl⟩ := Option.map_eq_some_iff.mp hx
      obtain ⟨q1, h1, h2⟩ := Tw14.mem z (List.mem_of_getElem? hz)
      have tk : (ws.take (i + 1)).map (·.2) = (ws.take i).map (·.2) ++ [z.2] := by rw [List.take_add_one, hz, List.map_append]; rfl
      have step : BentP ((ws.take (i + 1)).map (·.2)) ↔ BentP ((ws.take i).map (·.2)) ∧ (z.2.1.length = 2 → z.2.2 ≤ 0) := by
        rw [tk]
        constructor
        · exact fun h => ⟨fun m hm => h m (List.mem_append.mpr (.inl hm)), h z.2 (List.mem_append.mpr (.inr (by simp)))⟩
        · intro h m hm
          rcases List.mem_append.mp hm with hm | hm
          · exact h.1 m hm
          · have : m = z.2 := by simpa using hm
            subst this; exact h.2
      refine ⟨z.1, _, rfl, sqt h1, rfl, _, _, rfl, _, _, rfl, rfl, ?_⟩
      refine ⟨_, rfl, q1, _, rfl, .inr (sqt h2), rfl, _, rfl, ?_⟩
      refine ite2 (fun e => ?_) fun e => ?_
      · have e2 : z.2.1.length = 2 := by simp at e; omega
        refine ⟨_, rfl, _, _, rfl, rfl, _, rfl, ?_⟩
        refine ite2 (fun g => ?_) fun g => ?_
        · have g2 : ¬ z.2.2 ≤ 0 := by simp at g; omega
          refine ⟨_, _, false, rfl, rfl, ⟨(fun h => nomatch h), fun h => absurd ((step.mp h).2 e2) g2⟩⟩
        · have g2 : z.2.2 ≤ 0 := by simp at g; omega
          exact ⟨_, _, k, rfl, rfl, hk.trans ⟨fun h => step.mpr ⟨h, fun _ => g2⟩, fun h => (step.mp h).1⟩⟩
      · have e2 : ¬ z.2.1.length = 2 := by simp at e; omega
        exact ⟨_, _, k, rfl, rfl, hk.trans ⟨fun h => step.mpr ⟨h, fun z => absurd z e2⟩, fun h => (step.mp h).1⟩⟩
    obtain ⟨y7, y8, k, rfl, rfl, hk⟩ := hq
    rw [List.length_map, List.take_length] at hk
    refine ⟨_, rfl, _, rfl, _, rfl, a, c, zs, rfl, T14, fun u hu => (each u.2 (inT u hu)).rng, c5, fun k2 H' s' hk2 => ⟨rfl, ?_⟩⟩
    rw [hT] at hk2
    have ek : k = k2 := by
      have := hk.trans ((bent_law each g5.nd made).trans hk2.symm)
      cases k <;> cases k2 <;> simp at this <;> rfl
    subst ek
    have : decide (V.bl k = V.bl k) = true := decide_eq_true rfl
    rw [this]
    exact q _
end
end K31

/-! K31WD: what the top has written, the head of the law, the end. -/
namespace K31
open PySem PySem.Spec PyProof.Rows L2
/-- what the top has written of a def -/
structure Defd (K : PySem.W.Frag) (x q : Str) (st : Stmt) (f : Addr) : Prop where
  ex : ∃ (oc kV dc pm cd ct : Value) (od an : Option Addr) (sl : Array (Option Value)), K.lookup f = some ⟨oc, od, .func (PySem.W.fnOf x q (defArgs st) (defBody st) (defScope st) .none kV dc pm an cd ct), sl⟩ ∧ PySem.W.codeIn K cd q = true
  kp : PySem.W.keepIn K (.ref f) = true
theorem defd {K : PySem.W.Frag} {x q : Str} {st : Stmt} {f : Addr} {oc kV dc pm cd ct : Value} {od an : Option Addr} {sl : Array (Option Value)} (l : K.lookup f = some ⟨oc, od, .func (PySem.W.fnOf x q (defArgs st) (defBody st) (defScope st) .none kV dc pm an cd ct), sl⟩) (c : PySem.W.codeIn K cd q = true) (k : PySem.W.keepIn K (.ref f) = true) : Defd K x q st f := ⟨⟨_, _, _, _, _, _, _, _, _, l, c⟩, k⟩
theorem Defd.fn {K : PySem.W.Frag} {x q : Str} {st : Stmt} {f : Addr} (d : Defd K x q st f) : ∃ (kV dc pm cd ct : Value) (an : Option Addr), Fun K x q st f (PySem.W.fnOf x q (defArgs st) (defBody st) (defScope st) .none kV dc pm an cd ct) := by
  obtain ⟨oc, kV, dc, pm, cd, ct, od, an, sl, l, c⟩ := d.ex
  exact ⟨kV, dc, pm, cd, ct, an, fun_mk (st := st) l c d.kp⟩
/-- all that the top has written, as the walk wants it -/
structure Tops (K : PySem.W.Frag) (C f_below f_rising f_member f_issum f_triple f_paired f_draw f_state f_pick f_amount f_drawn f_more f_lsum f_worth f_rows f_bent f_byrows f_lissum f_law f_ainit f_aadd f_atold : Addr) (tk : Tok) : Prop where
  n_below : PySem.W.nsIn K mainGlobals "is_below" = some (some (.ref f_below))
  d_below : Defd K "is_below" "is_below" tBelow f_below
  n_rising : PySem.W.nsIn K mainGlobals "is_rising" = some (some (.ref f_rising))
  d_rising : Defd K "is_rising" "is_rising" tRising f_rising
  n_member : PySem.W.nsIn K mainGlobals "is_member" = some (some (.ref f_member))
  d_member : Defd K "is_member" "is_member" tMember f_member
  n_issum : PySem.W.nsIn K mainGlobals "is_sum" = some (some (.ref f_issum))
  d_issum : Defd K "is_sum" "is_sum" tIsSum f_issum
  n_triple : PySem.W.nsIn K mainGlobals "add_triple" = some (some (.ref f_triple))
  d_triple : Defd K "add_triple" "add_triple" tTriple f_triple
  n_paired : PySem.W.nsIn K mainGlobals "paired_sum" = some (some (.ref f_paired))
  d_paired : Defd K "paired_sum" "paired_sum" tPaired f_paired
  n_draw : PySem.W.nsIn K mainGlobals "_law_draw" = some (some (.ref f_draw))
  d_draw : Defd K "_law_draw" "_law_draw" tDraw f_draw
  n_state : PySem.W.nsIn K mainGlobals "_law_state" = some (some (.ref f_state))
  d_state : Defd K "_law_state" "_law_state" tState f_state
  n_pick : PySem.W.nsIn K mainGlobals "_law_pick" = some (some (.ref f_pick))
  d_pick : Defd K "_law_pick" "_law_pick" tPick f_pick
  n_amount : PySem.W.nsIn K mainGlobals "_law_amount" = some (some (.ref f_amount))
  d_amount : Defd K "_law_amount" "_law_amount" tAmount f_amount
  n_drawn : PySem.W.nsIn K mainGlobals "_law_drawn_sum" = some (some (.ref f_drawn))
  d_drawn : Defd K "_law_drawn_sum" "_law_drawn_sum" tDrawn f_drawn
  n_more : PySem.W.nsIn K mainGlobals "_law_more" = some (some (.ref f_more))
  d_more : Defd K "_law_more" "_law_more" tMore f_more
  n_lsum : PySem.W.nsIn K mainGlobals "_law_sum" = some (some (.ref f_lsum))
  d_lsum : Defd K "_law_sum" "_law_sum" tLSum f_lsum
  n_worth : PySem.W.nsIn K mainGlobals "_law_worth" = some (some (.ref f_worth))
  d_worth : Defd K "_law_worth" "_law_worth" tWorth f_worth
  n_rows : PySem.W.nsIn K mainGlobals "_law_rows" = some (some (.ref f_rows))
  d_rows : Defd K "_law_rows" "_law_rows" tRows f_rows
  n_bent : PySem.W.nsIn K mainGlobals "_law_made_bent" = some (some (.ref f_bent))
  d_bent : Defd K "_law_made_bent" "_law_made_bent" tBent f_bent
  n_byrows : PySem.W.nsIn K mainGlobals "_law_bent_by_rows" = some (some (.ref f_byrows))
  d_byrows : Defd K "_law_bent_by_rows" "_law_bent_by_rows" tByRows f_byrows
  n_lissum : PySem.W.nsIn K mainGlobals "_law_is_sum" = some (some (.ref f_lissum))
  d_lissum : Defd K "_law_is_sum" "_law_is_sum" tLIsSum f_lissum
  n_law : PySem.W.nsIn K mainGlobals "law" = some (some (.ref f_law))
  d_law : Defd K "law" "law" tLaw f_law
  n_C : PySem.W.nsIn K mainGlobals "Adding" = some (some (.ref C))
  a_ainit : PySem.W.findIn K (.ref C) "__init__" = some (some (.ref f_ainit))
  i_ainit : PySem.W.isFn K (.ref f_ainit) = true
  d_ainit : Defd K "__init__" "Adding.__init__" tAInit f_ainit
  a_aadd : PySem.W.findIn K (.ref C) "add" = some (some (.ref f_aadd))
  i_aadd : PySem.W.isFn K (.ref f_aadd) = true
  d_aadd : Defd K "add" "Adding.add" tAAdd f_aadd
  a_atold : PySem.W.findIn K (.ref C) "told" = some (some (.ref f_atold))
  i_atold : PySem.W.isFn K (.ref f_atold) = true
  d_atold : Defd K "told" "Adding.told" tATold f_atold
  pg : PySem.W.plainGet K C Str.empty = true
  hd : PySem.W.hasDictIn K C = true
  po : PySem.W.plainOver K C = true
  sa : PySem.W.findIn K (.ref C) "__setattr__" = some (some (.builtin "object.__setattr__"))
  mkC : PySem.W.makesIn K C = true
  kc : PySem.W.keepIn K (.ref C) = true
  nN : PySem.W.findIn K (.ref C) "numbers" = some none
  n_ML : PySem.W.nsIn K mainGlobals "MOST_LETTERS" = some (some (.int 3 tk))
  z_int : PySem.W.nsIn K mainGlobals "int" = some none
  z_len : PySem.W.nsIn K mainGlobals "len" = some none
  z_range : PySem.W.nsIn K mainGlobals "range" = some none
  z_abs : PySem.W.nsIn K mainGlobals "abs" = some none
  z_tuple : PySem.W.nsIn K mainGlobals "tuple" = some none
  z_sorted : PySem.W.nsIn K mainGlobals "sorted" = some none
  z_set : PySem.W.nsIn K mainGlobals "set" = some none
  z_list : PySem.W.nsIn K mainGlobals "list" = some none
  z_isinstance : PySem.W.nsIn K mainGlobals "isinstance" = some none
  z_bool : PySem.W.nsIn K mainGlobals "bool" = some none
  z_all : PySem.W.nsIn K mainGlobals "all" = some none
  z_zip : PySem.W.nsIn K mainGlobals "zip" = some none
  z_min : PySem.W.nsIn K mainGlobals "min" = some none
theorem all_mk {l : PySem.W.OpenLaw} {w : World} {K : PySem.W.Frag} {h : Heap} {mg : Str → Option Value} {fa C f_below f_rising f_member f_issum f_triple f_paired f_draw f_state f_pick f_amount f_drawn f_more f_lsum f_worth f_rows f_bent f_byrows f_lissum f_law f_ainit f_aadd f_atold : Addr} {tk : Tok} (X : K.In h) (G : h.Ns mainGlobals mg) (hfa : mg "law" = some (.ref fa))
    (t : Tops K C f_below f_rising f_member f_issum f_triple f_paired f_draw f_state f_pick f_amount f_drawn f_more f_lsum f_worth f_rows f_bent f_byrows f_lissum f_law f_ainit f_aadd f_atold tk) :
    ∃ fd : FuncData, (∀ (s : Shared) (v : Value), BindsTo s fd ⟨[v], []⟩ [("_law_script", v)]) ∧ ∀ base : Heap, K.In base → base.Ns mainGlobals mg → FnOk l.prog w K mg base CX0 5 fa fd ["_law_script"] (spLaw K) := by
  have e := hfa.symm.trans (PySem.W.mg_of X G t.n_law)
  cases e
  have B : Bare mg := ⟨PySem.W.mg_none_of X G t.z_int, PySem.W.mg_none_of X G t.z_len, PySem.W.mg_none_of X G t.z_range, PySem.W.mg_none_of X G t.z_abs⟩
  have B2 : Bare2 mg := ⟨PySem.W.mg_none_of X G t.z_tuple, PySem.W.mg_none_of X G t.z_sorted⟩
  have B3 : Bare3 mg := ⟨PySem.W.mg_none_of X G t.z_set⟩
  have B4 : Bare4 mg := ⟨PySem.W.mg_none_of X G t.z_list⟩
  have B5 : Bare5 mg := ⟨PySem.W.mg_none_of X G t.z_isinstance, PySem.W.mg_none_of X G t.z_bool, PySem.W.mg_none_of X G t.z_all, PySem.W.mg_none_of X G t.z_zip⟩
  have B6 : Bare6 mg := ⟨PySem.W.mg_none_of X G t.z_min⟩
  have T : ClsA K C := ⟨⟨t.pg, t.hd, t.po, t.sa⟩, t.nN⟩
  obtain ⟨_, _, _, _, _, _, F_below⟩ := t.d_below.fn
  obtain ⟨_, _, _, _, _, _, F_rising⟩ := t.d_rising.fn
  obtain ⟨_, _, _, _, _, _, F_member⟩ := t.d_member.fn
  obtain ⟨_, _, _, _, _, _, F_issum⟩ := t.d_issum.fn
  obtain ⟨_, _, _, _, _, _, F_triple⟩ := t.d_triple.fn
  obtain ⟨_, _, _, _, _, _, F_paired⟩ := t.d_paired.fn
  obtain ⟨_, _, _, _, _, _, F_draw⟩ := t.d_draw.fn
  obtain ⟨_, _, _, _, _, _, F_state⟩ := t.d_state.fn
  obtain ⟨_, _, _, _, _, _, F_pick⟩ := t.d_pick.fn
  obtain ⟨_, _, _, _, _, _, F_amount⟩ := t.d_amount.fn
  obtain ⟨_, _, _, _, _, _, F_drawn⟩ := t.d_drawn.fn
  obtain ⟨_, _, _, _, _, _, F_more⟩ := t.d_more.fn
  obtain ⟨_, _, _, _, _, _, F_lsum⟩ := t.d_lsum.fn
  obtain ⟨_, _, _, _, _, _, F_worth⟩ := t.d_worth.fn
  obtain ⟨_, _, _, _, _, _, F_rows⟩ := t.d_rows.fn
  obtain ⟨_, _, _, _, _, _, F_bent⟩ := t.d_bent.fn
  obtain ⟨_, _, _, _, _, _, F_byrows⟩ := t.d_byrows.fn
  obtain ⟨_, _, _, _, _, _, F_lissum⟩ := t.d_lissum.fn
  obtain ⟨kV, dc, pm, cd, ct, an, F_law⟩ := t.d_law.fn
  obtain ⟨_, _, _, _, _, _, F_ainit⟩ := t.d_ainit.fn
  obtain ⟨_, _, _, _, _, _, F_aadd⟩ := t.d_aadd.fn
  obtain ⟨_, _, _, _, _, _, F_atold⟩ := t.d_atold.fn
  have m_below := PySem.W.mg_of X G t.n_below
  have m_rising := PySem.W.mg_of X G t.n_rising
  have m_member := PySem.W.mg_of X G t.n_member
  have m_issum := PySem.W.mg_of X G t.n_issum
  have m_triple := PySem.W.mg_of X G t.n_triple
  have m_paired := PySem.W.mg_of X G t.n_paired
  have m_draw := PySem.W.mg_of X G t.n_draw
  have m_state := PySem.W.mg_of X G t.n_state
  have m_pick := PySem.W.mg_of X G t.n_pick
  have m_amount := PySem.W.mg_of X G t.n_amount
  have m_drawn := PySem.W.mg_of X G t.n_drawn
  have m_more := PySem.W.mg_of X G t.n_more
  have m_lsum := PySem.W.mg_of X G t.n_lsum
  have m_worth := PySem.W.mg_of X G t.n_worth
  have m_rows := PySem.W.mg_of X G t.n_rows
  have m_bent := PySem.W.mg_of X G t.n_bent
  have m_byrows := PySem.W.mg_of X G t.n_byrows
  have m_lissum := PySem.W.mg_of X G t.n_lissum
  have m_law := PySem.W.mg_of X G t.n_law
  have m_C := PySem.W.mg_of X G t.n_C
  have m_ML := PySem.W.mg_of X G t.n_ML
  have b_below := F_below.binds (ps := ["value", "many"]) fun _ _ _ _ _ _ us hl => match us, hl with | [_, _], _ => rfl
  have b_rising := F_rising.binds (ps := ["letters"]) fun _ _ _ _ _ _ us hl => match us, hl with | [_], _ => rfl
  have b_member := F_member.binds (ps := ["value", "letter_count"]) fun _ _ _ _ _ _ us hl => match us, hl with | [_, _], _ => rfl
  have b_issum := F_issum.binds (ps := ["value", "letter_count"]) fun _ _ _ _ _ _ us hl => match us, hl with | [_, _], _ => rfl
  have b_triple := F_triple.binds (ps := ["adding", "letters", "number", "further"]) fun _ _ _ _ _ _ us hl => match us, hl with | [_, _, _, _], _ => rfl
  have b_paired := F_paired.binds (ps := ["told", "letter_count"]) fun _ _ _ _ _ _ us hl => match us, hl with | [_, _], _ => rfl
  have b_draw := F_draw.binds (ps := ["_law_script", "_law_state_here", "_law_many"]) fun _ _ _ _ _ _ us hl => match us, hl with | [_, _, _], _ => rfl
  have b_state := F_state.binds (ps := ["_law_script"]) fun _ _ _ _ _ _ us hl => match us, hl with | [_], _ => rfl
  have b_pick := F_pick.binds (ps := ["_law_script", "_law_state_here", "_law_things"]) fun _ _ _ _ _ _ us hl => match us, hl with | [_, _, _], _ => rfl
  have b_amount := F_amount.binds (ps := ["_law_script", "_law_state_here"]) fun _ _ _ _ _ _ us hl => match us, hl with | [_, _], _ => rfl
  have b_drawn := F_drawn.binds (ps := ["_law_script", "_law_state_here", "_law_count", "_law_most", "_law_triples"]) fun _ _ _ _ _ _ us hl => match us, hl with | [_, _, _, _, _], _ => rfl
  have b_more := F_more.binds (ps := ["_law_found", "_law_letters", "_law_number"]) fun _ _ _ _ _ _ us hl => match us, hl with | [_, _, _], _ => rfl
  have b_lsum := F_lsum.binds (ps := ["_law_found"]) fun _ _ _ _ _ _ us hl => match us, hl with | [_], _ => rfl
  have b_worth := F_worth.binds (ps := ["_law_told", "_law_row"]) fun _ _ _ _ _ _ us hl => match us, hl with | [_, _], _ => rfl
  have b_rows := F_rows.binds (ps := ["_law_count"]) fun _ _ _ _ _ _ us hl => match us, hl with | [_], _ => rfl
  have b_bent := F_bent.binds (ps := ["_law_script", "_law_state_here", "_law_told", "_law_count"]) fun _ _ _ _ _ _ us hl => match us, hl with | [_, _, _, _], _ => rfl
  have b_byrows := F_byrows.binds (ps := ["_law_told", "_law_count"]) fun _ _ _ _ _ _ us hl => match us, hl with | [_, _], _ => rfl
  have b_lissum := F_lissum.binds (ps := ["_law_value", "_law_count"]) fun _ _ _ _ _ _ us hl => match us, hl with | [_, _], _ => rfl
  have b_ainit := F_ainit.binds (ps := ["self"]) fun _ _ _ _ _ _ us hl => match us, hl with | [_], _ => rfl
  have b_aadd := F_aadd.binds (ps := ["self", "letters", "number"]) fun _ _ _ _ _ _ us hl => match us, hl with | [_, _, _], _ => rfl
  have b_atold := F_atold.binds (ps := ["self"]) fun _ _ _ _ _ _ us hl => match us, hl with | [_], _ => rfl
  refine ⟨PySem.W.fnOf "law" "law" (defArgs tLaw) (defBody tLaw) (defScope tLaw) .none kV dc pm an cd ct, fun s v => .of_eq rfl, fun base _ _ => ?_⟩
  have O_below := ok_below (P := l.prog) (w := w) (base := base) (k := 0) F_below B B5
  have O_rising := ok_rising (P := l.prog) (w := w) (base := base) (k := 0) F_rising B5
  have O_member := ok_member (P := l.prog) (w := w) (base := base) F_member B B2 B5 m_ML O_below F_below.kp b_below m_below O_rising F_rising.kp b_rising m_rising
  have O_issum := ok_issum (P := l.prog) (w := w) (base := base) F_issum B2 B5 O_member F_member.kp b_member m_member O_rising F_rising.kp b_rising m_rising
  have O_ainit := ok_ainit (P := l.prog) (w := w) (mg := mg) (base := base) (k := 0) F_ainit T
  have O_aadd := ok_aadd (P := l.prog) (w := w) (mg := mg) (base := base) (k := 0) F_aadd T
  have O_atold := ok_atold (P := l.prog) (w := w) (base := base) (k := 0) F_atold T B2
  have mA : Meth K C "add" f_aadd := ⟨t.a_aadd, t.i_aadd, F_aadd.kp⟩
  have mT : Meth K C "told" f_atold := ⟨t.a_atold, t.i_atold, F_atold.kp⟩
  have M : Mk K C f_ainit := ⟨t.mkC, t.a_ainit, t.i_ainit, t.kc⟩
  have O_triple := ok_triple (P := l.prog) (w := w) (base := base) F_triple T mA O_aadd b_aadd
  have O_paired := ok_paired (P := l.prog) (w := w) (base := base) F_paired B T m_C M O_ainit b_ainit mA O_aadd b_aadd mT O_atold b_atold O_triple F_triple.kp b_triple m_triple O_issum F_issum.kp b_issum m_issum
  have O_draw := ok_draw (P := l.prog) (w := w) (base := base) (k := 0) F_draw B
  have O_state := ok_state (P := l.prog) (w := w) (base := base) (k := 0) F_state B
  have O_pick := ok_pick (P := l.prog) (w := w) (base := base) F_pick B F_draw b_draw m_draw
  have O_amount := ok_amount (P := l.prog) (w := w) (base := base) F_amount B F_draw b_draw m_draw F_pick b_pick m_pick
  have O_drawn := ok_drawn (P := l.prog) (w := w) (base := base) F_drawn B B2 B3 O_draw F_draw.kp b_draw m_draw O_amount F_amount.kp b_amount m_amount
  have O_more := ok_more (P := l.prog) (w := w) (mg := mg) (base := base) (k := 0) F_more
  have O_lsum := ok_lsum (P := l.prog) (w := w) (base := base) (k := 0) F_lsum B2
  have O_worth := ok_worth (P := l.prog) (w := w) (mg := mg) (base := base) (k := 0) F_worth
  have O_rows := ok_rows (P := l.prog) (w := w) (base := base) (k := 0) F_rows B
  have O_bent := ok_bent (P := l.prog) (w := w) (base := base) F_bent B B2 B4 O_draw F_draw.kp b_draw m_draw O_pick F_pick.kp b_pick m_pick O_more F_more.kp b_more m_more O_lsum F_lsum.kp b_lsum m_lsum
  have O_byrows := ok_byrows (P := l.prog) (w := w) (base := base) F_byrows B O_rows F_rows.kp b_rows m_rows O_worth F_worth.kp b_worth m_worth
  have O_lissum := ok_lissum (P := l.prog) (w := w) (base := base) (k := 0) F_lissum B B2 B5
  exact ok_law F_law B B2 B5 B6 ⟨O_state, F_state.kp, b_state, m_state⟩ ⟨O_draw, F_draw.kp, b_draw, m_draw⟩ ⟨O_drawn, F_drawn.kp, b_drawn, m_drawn⟩ ⟨O_bent, F_bent.kp, b_bent, m_bent⟩ ⟨O_paired, F_paired.kp, b_paired, m_paired⟩ ⟨O_lissum, F_lissum.kp, b_lissum, m_lissum⟩ ⟨O_pick, F_pick.kp, b_pick, m_pick⟩ ⟨O_rows, F_rows.kp, b_rows, m_rows⟩ ⟨O_worth, F_worth.kp, b_worth, m_worth⟩ ⟨O_byrows, F_byrows.kp, b_byrows, m_byrows⟩
theorem walk {l : PySem.W.OpenLaw} {q : Program} {loose : List Str} {XP : (Str → Option Value) → Heap → Prop} {YP : World → Heap → Prop} {d : DefRec} {K : Params → PySem.W.Frag} (hn : l.most = some 63) (hdf : d.params.defaults = [])
    (hY : ∀ (w : World) (h : Heap), YP w h → (K w.params).In h)
    (F : ∀ (w : World) (mg : Str → Option Value) (fa : Addr) (h : Heap), (K w.params).In h → h.Ns mainGlobals mg → mg d.name = some (.ref fa) →
      ∃ fd : FuncData, (∀ (s : Shared) (u : Value), BindsTo s fd ⟨[u], []⟩ [("_law_script", u)]) ∧ ∀ base : Heap, (K w.params).In base → base.Ns mainGlobals mg → FnOk l.prog w (K w.params) mg base CX0 5 fa fd ["_law_script"] (spLaw (K w.params))) :
    PySem.W.WalkO q loose XP YP l.row.toRowW d [] (fun f vs => PySem.call f vs) :=
  L2.walk_of (n := 63) (k := 5) (x := "_law_script") (CX := fun _ => CX0) (sp := fun w => spLaw (K w.params)) hn (by decide) hdf ⟨rfl, by decide, by decide⟩ hY F (fun _ _ a ns hl _ hS => ⟨a, ns, rfl, hS, hl, fun _ => rfl⟩) fun _ _ _ _ _ z => z
end K31
open PySem PySem.W PyProof.Rows
set_option maxRecDepth 100000 in
set_option maxHeartbeats 0 in
theorem PySem.Challenge.cw_cutorall_k31_least_over_helpers_holds : PySem.Challenge.rw_cutorall_k31_least_over_helpers.Holds := by
  w_on; o_law; k_head; (case hw => w_witness2)
  k_fill
  refine K31.walk (l := PySem.Challenge.rw_cutorall_k31_least_over_helpers) rfl rfl (fun w h Y => PySem.W.kIn_of Y) ?F
  case F =>
    intro w mg fa h KX G hmg
    refine' K31.all_mk KX G hmg (K31.Tops.mk ?n_below (K31.defd ?l_below ?c_below ?k_below) ?n_rising (K31.defd ?l_rising ?c_rising ?k_rising) ?n_member (K31.defd ?l_member ?c_member ?k_member) ?n_issum (K31.defd ?l_issum ?c_issum ?k_issum) ?n_triple (K31.defd ?l_triple ?c_triple ?k_triple) ?n_paired (K31.defd ?l_paired ?c_paired ?k_paired) ?n_draw (K31.defd ?l_draw ?c_draw ?k_draw) ?n_state (K31.defd ?l_state ?c_state ?k_state) ?n_pick (K31.defd ?l_pick ?c_pick ?k_pick) ?n_amount (K31.defd ?l_amount ?c_amount ?k_amount) ?n_drawn (K31.defd ?l_drawn ?c_drawn ?k_drawn) ?n_more (K31.defd ?l_more ?c_more ?k_more) ?n_lsum (K31.defd ?l_lsum ?c_lsum ?k_lsum) ?n_worth (K31.defd ?l_worth ?c_worth ?k_worth) ?n_rows (K31.defd ?l_rows ?c_rows ?k_rows) ?n_bent (K31.defd ?l_bent ?c_bent ?k_bent) ?n_byrows (K31.defd ?l_byrows ?c_byrows ?k_byrows) ?n_lissum (K31.defd ?l_lissum ?c_lissum ?k_lissum) ?n_law (K31.defd ?l_law ?c_law ?k_law) ?n_C ?a_ainit ?i_ainit (K31.defd ?l_ainit ?c_ainit ?k_ainit) ?a_aadd ?i_aadd (K31.defd ?l_aadd ?c_aadd ?k_aadd) ?a_atold ?i_atold (K31.defd ?l_atold ?c_atold ?k_atold) ?pg ?hd ?po ?sa ?mkC ?kc ?nN ?n_ML ?z_int ?z_len ?z_range ?z_abs ?z_tuple ?z_sorted ?z_set ?z_list ?z_isinstance ?z_bool ?z_all ?z_zip ?z_min)
    (case n_below => k_is); (case l_below => k_is); (case c_below => k_is); (case k_below => k_is)
    (case n_rising => k_is); (case l_rising => k_is); (case c_rising => k_is); (case k_rising => k_is)
    (case n_member => k_is); (case l_member => k_is); (case c_member => k_is); (case k_member => k_is)
    (case n_issum => k_is); (case l_issum => k_is); (case c_issum => k_is); (case k_issum => k_is)
    (case n_triple => k_is); (case l_triple => k_is); (case c_triple => k_is); (case k_triple => k_is)
    (case n_paired => k_is); (case l_paired => k_is); (case c_paired => k_is); (case k_paired => k_is)
    (case n_draw => k_is); (case l_draw => k_is); (case c_draw => k_is); (case k_draw => k_is)
    (case n_state => k_is); (case l_state => k_is); (case c_state => k_is); (case k_state => k_is)
    (case n_pick => k_is); (case l_pick => k_is); (case c_pick => k_is); (case k_pick => k_is)
    (case n_amount => k_is); (case l_amount => k_is); (case c_amount => k_is); (case k_amount => k_is)
    (case n_drawn => k_is); (case l_drawn => k_is); (case c_drawn => k_is); (case k_drawn => k_is)
    (case n_more => k_is); (case l_more => k_is); (case c_more => k_is); (case k_more => k_is)
    (case n_lsum => k_is); (case l_lsum => k_is); (case c_lsum => k_is); (case k_lsum => k_is)
    (case n_worth => k_is); (case l_worth => k_is); (case c_worth => k_is); (case k_worth => k_is)
    (case n_rows => k_is); (case l_rows => k_is); (case c_rows => k_is); (case k_rows => k_is)
    (case n_bent => k_is); (case l_bent => k_is); (case c_bent => k_is); (case k_bent => k_is)
    (case n_byrows => k_is); (case l_byrows => k_is); (case c_byrows => k_is); (case k_byrows => k_is)
    (case n_lissum => k_is); (case l_lissum => k_is); (case c_lissum => k_is); (case k_lissum => k_is)
    (case n_law => k_is); (case l_law => k_is); (case c_law => k_is); (case k_law => k_is)
    (case n_C => k_is)
    (case a_ainit => k_is); (case i_ainit => k_is); (case l_ainit => k_is); (case c_ainit => k_is); (case k_ainit => k_is)
    (case a_aadd => k_is); (case i_aadd => k_is); (case l_aadd => k_is); (case c_aadd => k_is); (case k_aadd => k_is)
    (case a_atold => k_is); (case i_atold => k_is); (case l_atold => k_is); (case c_atold => k_is); (case k_atold => k_is)
    (case pg => k_is); (case hd => k_is); (case po => k_is); (case sa => k_is); (case mkC => k_is); (case kc => k_is); (case nN => k_is); (case n_ML => k_is)
    (case z_int => k_is); (case z_len => k_is); (case z_range => k_is); (case z_abs => k_is); (case z_tuple => k_is); (case z_sorted => k_is); (case z_set => k_is); (case z_list => k_is); (case z_isinstance => k_is); (case z_bool => k_is); (case z_all => k_is); (case z_zip => k_is); (case z_min => k_is)
