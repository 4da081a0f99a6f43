import PyProof.Rows.All
import HandS.ForMost
import HandS.ForExc
import HandS.Wide
import HandS.WideBits
import HandS.Flow
import HandS.IsInst
import HandS.Gcd
import HandS.WordsExc
import HandS.Ends
import HandS.HeadEnd
import HandS.Iter
import HandS.Zip
import HandS.Comp
import HandS.TryOnly
import HandS.ExcIs
import HandS.HeadHook4
import HandS.Defaults
import PySem.Challenge.RW_latelaw_k01_fractions_computed
import HandS.Head3
import KE.KStateDown
import Lean
set_option Elab.async false
set_option linter.all false
set_option maxRecDepth 100000
/-! Evaluation by values: data with the addresses that bear them. -/
namespace Ev
open PySem PySem.Spec PyProof.Rows L2

abbrev D := PyData
/-- how many layers of lists stand unshared; none: all of them -/
abbrev Lv := Option Nat
def pd : Lv → Lv
  | none => none
  | some k => some (k - 1)
def sc : Lv → Lv
  | none => none
  | some k => some (k + 1)
def mn : Lv → Lv → Lv
  | none, b => b
  | a, none => a
  | some a, some b => some (min a b)
/-- the addresses of a datum's objects -/
inductive Tr where
  | n (a : Addr) (ts : List Tr)
def Tr.at : Tr → Addr
  | .n a _ => a
def Tr.kids : Tr → List Tr
  | .n _ ts => ts
def valOf : D → Tr → V
  | .none, _ => .non
  | .bool b, _ => .bl b
  | .int i, _ => .int i
  | .str x, _ => .str x
  | .list _, t => .ref t.at
  | .tuple _, t => .ref t.at
  | .dict _, t => .ref t.at
def valsOf : List D → List Tr → List V
  | d :: ds, t :: ts => valOf d t :: valsOf ds ts
  | _, _ => []
def keyOf : D → Key
  | .str x => .inr x
  | .int i => .inl i
  | _ => .inl 0
def okKey : D → Bool
  | .str _ => true
  | .int _ => true
  | _ => false
def dvals : List (D × D) → List Tr → List (Key × V)
  | (q, d) :: r, t :: ts => (keyOf q, valOf d t) :: dvals r ts
  | _, _ => []
/-- a list that is shared: tracked, known to its object, or an object of the written part -/
def RdL (K : PySem.W.Frag) (Z : Hp) (a : Addr) (xs : List V) : Prop :=
  Rd Z a (.lst xs) ∨ ∃ (its : List Value) (n : Nat), Vals xs its ∧ xs.length ≤ sizeLine ∧ K.lookup a = some { cls := .type "list", data := .seq its.toArray n }
theorem RdL.sq {K : PySem.W.Frag} {Z : Hp} {a : Addr} {xs : List V} (h : RdL K Z a xs) : SqL K Z a xs := by
  rcases h with h | ⟨its, n, r, z, h⟩
  · exact .inl h
  · exact .inr ⟨_, its.toArray, n, h, rfl, rfl, rfl, by rw [List.size_toArray, ← r.length]; exact z, by simpa using r⟩
def LstAt (K : PySem.W.Frag) (Z H : Hp) (k : Lv) (a : Addr) (xs : List V) : Prop :=
  if k = some 0 then RdL K Z a xs else Z a = none ∧ H a = some (.lst xs)
def DctAt (Z H : Hp) (k : Lv) (a : Addr) (xs : List (Key × V)) : Prop :=
  if k = some 0 then Z a = some (.dK xs) else Z a = none ∧ H a = some (.dK xs)
mutual
/-- d stands in the heap H at t; what is not unshared stands in the part Z, which is never written -/
def Ob (K : PySem.W.Frag) (Z H : Hp) : Lv → D → Tr → Prop
  | k, .tuple ds, t => SqT K Z t.at (valsOf ds t.kids) ∧ Obs K Z H k ds t.kids
  | k, .list ds, t => LstAt K Z H k t.at (valsOf ds t.kids) ∧ Obs K Z H (pd k) ds t.kids
  | k, .dict kvs, t => DctAt Z H k t.at (dvals kvs t.kids) ∧ ObK K Z H (pd k) kvs t.kids
  | _, .none, _ => True
  | _, .bool _, _ => True
  | _, .int _, _ => True
  | _, .str _, _ => True
def Obs (K : PySem.W.Frag) (Z H : Hp) : Lv → List D → List Tr → Prop
  | _, [], [] => True
  | k, d :: ds, t :: ts => Ob K Z H k d t ∧ Obs K Z H k ds ts
  | _, [], _ :: _ => False
  | _, _ :: _, [] => False
def ObK (K : PySem.W.Frag) (Z H : Hp) : Lv → List (D × D) → List Tr → Prop
  | _, [], [] => True
  | k, (q, d) :: r, t :: ts => okKey q = true ∧ Ob K Z H k d t ∧ ObK K Z H k r ts
  | _, [], _ :: _ => False
  | _, _ :: _, [] => False
end
mutual
/-- the addresses of the unshared objects -/
def own : Lv → D → Tr → List Addr
  | k, .tuple ds, t => owns k ds t.kids
  | k, .list ds, t => (if k = some 0 then [] else [t.at]) ++ owns (pd k) ds t.kids
  | k, .dict kvs, t => (if k = some 0 then [] else [t.at]) ++ ownK (pd k) kvs t.kids
  | _, .none, _ => []
  | _, .bool _, _ => []
  | _, .int _, _ => []
  | _, .str _, _ => []
def owns : Lv → List D → List Tr → List Addr
  | k, d :: ds, t :: ts => own k d t ++ owns k ds ts
  | _, _, _ => []
def ownK : Lv → List (D × D) → List Tr → List Addr
  | k, (_, d) :: r, t :: ts => own k d t ++ ownK k r ts
  | _, _, _ => []
end
mutual
/-- no list and no dict within -/
def flat : D → Bool
  | .tuple ds => flats ds
  | .list _ => false
  | .dict _ => false
  | .none => true
  | .bool _ => true
  | .int _ => true
  | .str _ => true
def flats : List D → Bool
  | [] => true
  | d :: ds => flat d && flats ds
end

section
variable {K : PySem.W.Frag} {Z H Z' H' : Hp}
mutual
theorem own_zero : ∀ (d : D) (t : Tr), own (some 0) d t = []
  | .tuple ds, t => by simp only [own]; exact owns_zero ds t.kids
  | .list ds, t => by simp only [own, if_true, List.nil_append]; exact owns_zero ds t.kids
  | .dict kvs, t => by simp only [own, if_true, List.nil_append]; exact ownK_zero kvs t.kids
  | .none, _ => rfl
  | .bool _, _ => rfl
  | .int _, _ => rfl
  | .str _, _ => rfl
theorem owns_zero : ∀ (ds : List D) (ts : List Tr), owns (some 0) ds ts = []
  | [], _ => by simp [owns]
  | _ :: _, [] => by simp [owns]
  | d :: ds, t :: ts => by simp only [owns, own_zero d t, owns_zero ds ts, List.append_nil]
theorem ownK_zero : ∀ (ds : List (D × D)) (ts : List Tr), ownK (some 0) ds ts = []
  | [], _ => by simp [ownK]
  | _ :: _, [] => by simp [ownK]
  | (q, d) :: ds, t :: ts => by simp only [ownK, own_zero d t, ownK_zero ds ts, List.append_nil]
end
theorem Same.rd (e : Same Z Z') {a : Addr} {u : HO} (h : Rd Z a u) : Rd Z' a u := by
  rcases h with h | ⟨o, h⟩
  · exact .inl (e _ _ h)
  · exact .inr ⟨o, e _ _ h⟩
theorem Same.sqT (e : Same Z Z') {a : Addr} {xs : List V} (h : SqT K Z a xs) : SqT K Z' a xs := by
  rcases h with (h | ⟨o, h⟩) | h
  · exact .inl (.inl (e _ _ h))
  · exact .inl (.inr ⟨o, e _ _ h⟩)
  · exact .inr h
theorem Same.rdl (e : Same Z Z') {a : Addr} {xs : List V} (h : RdL K Z a xs) : RdL K Z' a xs := by
  rcases h with h | h
  · exact .inl (Same.rd e h)
  · exact .inr h
theorem LstAt.ext {k : Lv} {a : Addr} {xs : List V} (h : LstAt K Z H k a xs) (zz : Same Z Z') (hz : k ≠ some 0 → Z' a = none) (hh : k ≠ some 0 → ∀ o, H a = some o → H' a = some o) : LstAt K Z' H' k a xs := by
  unfold LstAt at *
  by_cases e : k = some 0
  · rw [if_pos e] at h ⊢
    exact Same.rdl zz h
  · rw [if_neg e] at h ⊢
    exact ⟨hz e, hh e _ h.2⟩
theorem DctAt.ext {k : Lv} {a : Addr} {xs : List (Key × V)} (h : DctAt Z H k a xs) (zz : Same Z Z') (hz : k ≠ some 0 → Z' a = none) (hh : k ≠ some 0 → ∀ o, H a = some o → H' a = some o) : DctAt Z' H' k a xs := by
  unfold DctAt at *
  by_cases e : k = some 0
  · rw [if_pos e] at h ⊢
    exact zz _ _ h
  · rw [if_neg e] at h ⊢
    exact ⟨hz e, hh e _ h.2⟩
mutual
/-- the heap grows, the shared part grows, beside the unshared objects -/
theorem Ob.ext (zz : Same Z Z') : ∀ (d : D) (k : Lv) (t : Tr), Ob K Z H k d t → (∀ a ∈ own k d t, Z' a = none) → (∀ a ∈ own k d t, ∀ o, H a = some o → H' a = some o) → Ob K Z' H' k d t
  | .tuple ds, k, t, h, h1, h2 => by
    simp only [Ob, own] at *
    exact ⟨Same.sqT zz h.1, Obs.ext zz ds k t.kids h.2 h1 h2⟩
  | .list ds, k, t, h, h1, h2 => by
    simp only [Ob, own] at *
    refine ⟨h.1.ext zz (fun e => h1 _ (by simp [e])) (fun e => h2 _ (by simp [e])), Obs.ext zz ds _ t.kids h.2 (fun a m => h1 a (by simp [m])) (fun a m => h2 a (by simp [m]))⟩
  | .dict kvs, k, t, h, h1, h2 => by
    simp only [Ob, own] at *
    refine ⟨h.1.ext zz (fun e => h1 _ (by simp [e])) (fun e => h2 _ (by simp [e])), ObK.ext zz kvs _ t.kids h.2 (fun a m => h1 a (by simp [m])) (fun a m => h2 a (by simp [m]))⟩
  | .none, _, _, _, _, _ => by simp only [Ob]
  | .bool _, _, _, _, _, _ => by simp only [Ob]
  | .int _, _, _, _, _, _ => by simp only [Ob]
  | .str _, _, _, _, _, _ => by simp only [Ob]
theorem Obs.ext (zz : Same Z Z') : ∀ (ds : List D) (k : Lv) (ts : List Tr), Obs K Z H k ds ts → (∀ a ∈ owns k ds ts, Z' a = none) → (∀ a ∈ owns k ds ts, ∀ o, H a = some o → H' a = some o) → Obs K Z' H' k ds ts
  | [], _, [], _, _, _ => by simp only [Obs]
  | d :: ds, k, t :: ts, h, h1, h2 => by
    simp only [Obs, owns] at *
    exact ⟨Ob.ext zz d k t h.1 (fun a m => h1 a (by simp [m])) (fun a m => h2 a (by simp [m])), Obs.ext zz ds k ts h.2 (fun a m => h1 a (by simp [m])) (fun a m => h2 a (by simp [m]))⟩
  | [], _, _ :: _, h, _, _ => by simp only [Obs] at h
  | _ :: _, _, [], h, _, _ => by simp only [Obs] at h
theorem ObK.ext (zz : Same Z Z') : ∀ (ds : List (D × D)) (k : Lv) (ts : List Tr), ObK K Z H k ds ts → (∀ a ∈ ownK k ds ts, Z' a = none) → (∀ a ∈ ownK k ds ts, ∀ o, H a = some o → H' a = some o) → ObK K Z' H' k ds ts
  | [], _, [], _, _, _ => by simp only [ObK]
  | (q, d) :: ds, k, t :: ts, h, h1, h2 => by
    simp only [ObK, ownK] at *
    exact ⟨h.1, Ob.ext zz d k t h.2.1 (fun a m => h1 a (by simp [m])) (fun a m => h2 a (by simp [m])), ObK.ext zz ds k ts h.2.2 (fun a m => h1 a (by simp [m])) (fun a m => h2 a (by simp [m]))⟩
  | [], _, _ :: _, h, _, _ => by simp only [ObK] at h
  | _ :: _, _, [], h, _, _ => by simp only [ObK] at h
end
mutual
theorem Ob.own : ∀ (d : D) (k : Lv) (t : Tr), Ob K Z H k d t → ∀ a ∈ own k d t, Z a = none ∧ ∃ o, H a = some o ∧ (∀ xs, o ≠ .tup xs) ∧ ∀ u w, o ≠ .frz u w
  | .tuple ds, k, t, h, a, m => by
    simp only [Ob, Ev.own] at *
    exact Obs.own ds k t.kids h.2 a m
  | .list ds, k, t, h, a, m => by
    simp only [Ob, Ev.own] at *
    rcases List.mem_append.mp m with m | m
    · by_cases e : k = some 0
      · rw [if_pos e] at m; cases m
      · rw [if_neg e] at m
        have q := h.1
        unfold LstAt at q
        rw [if_neg e] at q
        rw [List.mem_singleton.mp m]
        exact ⟨q.1, _, q.2, (by intro xs z; cases z), by intro u w z; cases z⟩
    · exact Obs.own ds _ t.kids h.2 a m
  | .dict kvs, k, t, h, a, m => by
    simp only [Ob, Ev.own] at *
    rcases List.mem_append.mp m with m | m
    · by_cases e : k = some 0
      · rw [if_pos e] at m; cases m
      · rw [if_neg e] at m
        have q := h.1
        unfold DctAt at q
        rw [if_neg e] at q
        rw [List.mem_singleton.mp m]
        exact ⟨q.1, _, q.2, (by intro xs z; cases z), by intro u w z; cases z⟩
    · exact ObK.own kvs _ t.kids h.2 a m
  | .none, _, _, _, a, m => by simp [Ev.own] at m
  | .bool _, _, _, _, a, m => by simp [Ev.own] at m
  | .int _, _, _, _, a, m => by simp [Ev.own] at m
  | .str _, _, _, _, a, m => by simp [Ev.own] at m
theorem Obs.own : ∀ (ds : List D) (k : Lv) (ts : List Tr), Obs K Z H k ds ts → ∀ a ∈ owns k ds ts, Z a = none ∧ ∃ o, H a = some o ∧ (∀ xs, o ≠ .tup xs) ∧ ∀ u w, o ≠ .frz u w
  | [], _, _, _, a, m => by simp [owns] at m
  | _ :: _, _, [], _, a, m => by simp [owns] at m
  | d :: ds, k, t :: ts, h, a, m => by
    simp only [Obs, owns] at *
    rcases List.mem_append.mp m with m | m
    · exact Ob.own d k t h.1 a m
    · exact Obs.own ds k ts h.2 a m
theorem ObK.own : ∀ (ds : List (D × D)) (k : Lv) (ts : List Tr), ObK K Z H k ds ts → ∀ a ∈ ownK k ds ts, Z a = none ∧ ∃ o, H a = some o ∧ (∀ xs, o ≠ .tup xs) ∧ ∀ u w, o ≠ .frz u w
  | [], _, _, _, a, m => by simp [ownK] at m
  | _ :: _, _, [], _, a, m => by simp [ownK] at m
  | (q, d) :: ds, k, t :: ts, h, a, m => by
    simp only [ObK, ownK] at *
    rcases List.mem_append.mp m with m | m
    · exact Ob.own d k t h.2.1 a m
    · exact ObK.own ds k ts h.2.2 a m
end
theorem pd_zero : pd (some 0) = some 0 := rfl
mutual
/-- what was unshared is shared from here on -/
theorem Ob.freeze (zz : Same Z Z') : ∀ (d : D) (k : Lv) (t : Tr), Ob K Z H k d t → (∀ a ∈ own k d t, Z' a = H a) → Ob K Z' H' (some 0) d t
  | .tuple ds, k, t, h, h1 => by
    simp only [Ob, Ev.own] at *
    exact ⟨Same.sqT zz h.1, Obs.freeze zz ds k t.kids h.2 h1⟩
  | .list ds, k, t, h, h1 => by
    simp only [Ob, Ev.own] at *
    refine ⟨?_, Obs.freeze zz ds (pd k) t.kids h.2 (fun a m => h1 a (by simp [m]))⟩
    have q := h.1
    unfold LstAt at q ⊢
    rw [if_pos rfl]
    by_cases e : k = some 0
    · rw [if_pos e] at q
      exact Same.rdl zz q
    · rw [if_neg e] at q
      refine .inl (Rd.of ?_)
      rw [h1 _ (by simp [e])]
      exact q.2
  | .dict kvs, k, t, h, h1 => by
    simp only [Ob, Ev.own] at *
    refine ⟨?_, ObK.freeze zz kvs (pd k) t.kids h.2 (fun a m => h1 a (by simp [m]))⟩
    have q := h.1
    unfold DctAt at q ⊢
    rw [if_pos rfl]
    by_cases e : k = some 0
    · rw [if_pos e] at q
      exact zz _ _ q
    · rw [if_neg e] at q
      rw [h1 _ (by simp [e])]
      exact q.2
  | .none, _, _, _, _ => by simp only [Ob]
  | .bool _, _, _, _, _ => by simp only [Ob]
  | .int _, _, _, _, _ => by simp only [Ob]
  | .str _, _, _, _, _ => by simp only [Ob]
theorem Obs.freeze (zz : Same Z Z') : ∀ (ds : List D) (k : Lv) (ts : List Tr), Obs K Z H k ds ts → (∀ a ∈ owns k ds ts, Z' a = H a) → Obs K Z' H' (some 0) ds ts
  | [], _, [], _, _ => by simp only [Obs]
  | d :: ds, k, t :: ts, h, h1 => by
    simp only [Obs, owns] at *
    exact ⟨Ob.freeze zz d k t h.1 (fun a m => h1 a (by simp [m])), Obs.freeze zz ds k ts h.2 (fun a m => h1 a (by simp [m]))⟩
  | [], _, _ :: _, h, _ => by simp only [Obs] at h
  | _ :: _, _, [], h, _ => by simp only [Obs] at h
theorem ObK.freeze (zz : Same Z Z') : ∀ (ds : List (D × D)) (k : Lv) (ts : List Tr), ObK K Z H k ds ts → (∀ a ∈ ownK k ds ts, Z' a = H a) → ObK K Z' H' (some 0) ds ts
  | [], _, [], _, _ => by simp only [ObK]
  | (q, d) :: ds, k, t :: ts, h, h1 => by
    simp only [ObK, ownK] at *
    exact ⟨h.1, Ob.freeze zz d k t h.2.1 (fun a m => h1 a (by simp [m])), ObK.freeze zz ds k ts h.2.2 (fun a m => h1 a (by simp [m]))⟩
  | [], _, _ :: _, h, _ => by simp only [ObK] at h
  | _ :: _, _, [], h, _ => by simp only [ObK] at h
end
mutual
theorem flat_own : ∀ (d : D) (k : Lv) (t : Tr), flat d = true → own k d t = []
  | .tuple ds, k, t, h => by simp only [flat, Ev.own] at *; exact flats_owns ds k t.kids h
  | .list ds, k, t, h => by simp [flat] at h
  | .dict kvs, k, t, h => by simp [flat] at h
  | .none, _, _, _ => rfl
  | .bool _, _, _, _ => rfl
  | .int _, _, _, _ => rfl
  | .str _, _, _, _ => rfl
theorem flats_owns : ∀ (ds : List D) (k : Lv) (ts : List Tr), flats ds = true → owns k ds ts = []
  | [], _, _, _ => by simp [owns]
  | _ :: _, _, [], _ => by simp [owns]
  | d :: ds, k, t :: ts, h => by
    simp only [flats, Bool.and_eq_true] at h
    simp only [owns, flat_own d k t h.1, flats_owns ds k ts h.2, List.append_nil]
end
mutual
theorem flat_ob : ∀ (d : D) (k k' : Lv) (t : Tr), flat d = true → Ob K Z H k d t → Ob K Z H k' d t
  | .tuple ds, k, k', t, h, o => by
    simp only [flat, Ob] at *
    exact ⟨o.1, flats_obs ds k k' t.kids h o.2⟩
  | .list ds, _, _, t, h, _ => by simp [flat] at h
  | .dict kvs, _, _, t, h, _ => by simp [flat] at h
  | .none, _, _, _, _, _ => by simp only [Ob]
  | .bool _, _, _, _, _, _ => by simp only [Ob]
  | .int _, _, _, _, _, _ => by simp only [Ob]
  | .str _, _, _, _, _, _ => by simp only [Ob]
theorem flats_obs : ∀ (ds : List D) (k k' : Lv) (ts : List Tr), flats ds = true → Obs K Z H k ds ts → Obs K Z H k' ds ts
  | [], _, _, [], _, _ => by simp only [Obs]
  | d :: ds, k, k', t :: ts, h, o => by
    simp only [flats, Bool.and_eq_true] at h
    simp only [Obs] at *
    exact ⟨flat_ob d k k' t h.1 o.1, flats_obs ds k k' ts h.2 o.2⟩
  | [], _, _, _ :: _, _, o => by simp only [Obs] at o
  | _ :: _, _, _, [], _, o => by simp only [Obs] at o
end
theorem Obs.len : ∀ {ds : List D} {k : Lv} {ts : List Tr}, Obs K Z H k ds ts → ds.length = ts.length
  | [], _, [], _ => rfl
  | d :: ds, k, t :: ts, h => by
    simp only [Obs] at h
    simp only [List.length_cons, Obs.len h.2]
  | [], _, _ :: _, h => by simp only [Obs] at h
  | _ :: _, _, [], h => by simp only [Obs] at h
theorem valsOf_length : ∀ {ds : List D} {ts : List Tr}, ds.length = ts.length → (valsOf ds ts).length = ds.length
  | [], _, _ => by simp [valsOf]
  | d :: ds, t :: ts, h => by
    simp only [valsOf, List.length_cons] at *
    rw [valsOf_length (by omega)]
  | _ :: _, [], h => by simp at h
theorem valsOf_get : ∀ {ds : List D} {ts : List Tr} {i : Nat} {d : D} {t : Tr}, ds[i]? = some d → ts[i]? = some t → (valsOf ds ts)[i]? = some (valOf d t)
  | [], _, _, _, _, h, _ => by simp at h
  | _ :: _, [], _, _, _, _, h => by simp at h
  | d :: ds, t :: ts, 0, _, _, h1, h2 => by simp at h1 h2; subst h1; subst h2; simp [valsOf]
  | d :: ds, t :: ts, i + 1, _, _, h1, h2 => by simp only [valsOf, List.getElem?_cons_succ] at *; exact valsOf_get h1 h2
theorem Obs.get : ∀ {ds : List D} {k : Lv} {ts : List Tr} {i : Nat} {d : D}, Obs K Z H k ds ts → ds[i]? = some d → ∃ t, ts[i]? = some t ∧ Ob K Z H k d t
  | [], _, _, _, _, _, h => by simp at h
  | _ :: _, _, [], _, _, o, _ => by simp only [Obs] at o
  | d :: ds, k, t :: ts, 0, _, o, h => by
    simp at h; subst h
    simp only [Obs] at o
    exact ⟨t, by simp, o.1⟩
  | d :: ds, k, t :: ts, i + 1, _, o, h => by
    simp only [Obs] at o
    obtain ⟨t', e, o'⟩ := Obs.get o.2 (by simpa using h)
    exact ⟨t', by simpa using e, o'⟩
theorem owns_get : ∀ {ds : List D} {k : Lv} {ts : List Tr} {i : Nat} {d : D} {t : Tr}, ds[i]? = some d → ts[i]? = some t → ∀ a ∈ own k d t, a ∈ owns k ds ts
  | [], _, _, _, _, _, h, _ => by simp at h
  | _ :: _, _, [], _, _, _, _, h => by simp at h
  | d :: ds, k, t :: ts, 0, _, _, h1, h2 => fun a m => by
    simp at h1 h2; subst h1; subst h2
    simp only [owns]
    exact List.mem_append_left _ m
  | d :: ds, k, t :: ts, i + 1, _, _, h1, h2 => fun a m => by
    simp only [owns]
    exact List.mem_append_right _ (owns_get (by simpa using h1) (by simpa using h2) a m)
theorem owns_nodup : ∀ {ds : List D} {k : Lv} {ts : List Tr} {i : Nat} {d : D} {t : Tr}, (owns k ds ts).Nodup → ds[i]? = some d → ts[i]? = some t → (own k d t).Nodup
  | [], _, _, _, _, _, _, h, _ => by simp at h
  | _ :: _, _, [], _, _, _, _, _, h => by simp at h
  | d :: ds, k, t :: ts, 0, _, _, hn, h1, h2 => by
    simp at h1 h2; subst h1; subst h2
    simp only [owns] at hn
    exact (List.nodup_append.mp hn).1
  | d :: ds, k, t :: ts, i + 1, _, _, hn, h1, h2 => by
    simp only [owns] at hn
    exact owns_nodup (List.nodup_append.mp hn).2.1 (by simpa using h1) (by simpa using h2)
mutual
/-- in the terms of the deep comparison -/
theorem Ob.dp (zh : Same Z H) : ∀ (d : D) (k : Lv) (t : Tr), d.hasDict = false → Ob K Z H k d t → Dp K H (valOf d t) d
  | .tuple ds, k, t, hd, h => by
    simp only [Ob] at h
    simp only [PyData.hasDict] at hd
    exact .tup (Same.sqT zh h.1) (Obs.dp zh ds k t.kids hd h.2)
  | .list ds, k, t, hd, h => by
    simp only [Ob] at h
    simp only [PyData.hasDict] at hd
    refine .lst ?_ (Obs.dp zh ds _ t.kids hd h.2)
    have q := h.1
    unfold LstAt at q
    by_cases e : k = some 0
    · rw [if_pos e] at q
      exact (Same.rdl zh q).sq
    · rw [if_neg e] at q
      exact SqL.of q.2
  | .dict kvs, _, t, hd, _ => by simp [PyData.hasDict] at hd
  | .none, _, _, _, _ => .non
  | .bool b, _, _, _, _ => .bl b
  | .int i, _, _, _, _ => .int i
  | .str x, _, _, _, _ => .str x
theorem Obs.dp (zh : Same Z H) : ∀ (ds : List D) (k : Lv) (ts : List Tr), PyData.hasDictAll ds = false → Obs K Z H k ds ts → DpAll K H (valsOf ds ts) ds
  | [], _, [], _, _ => .nil
  | d :: ds, k, t :: ts, hd, h => by
    simp only [Obs] at h
    simp only [PyData.hasDictAll, Bool.or_eq_false_iff] at hd
    exact .cons (Ob.dp zh d k t hd.1 h.1) (Obs.dp zh ds k ts hd.2 h.2)
  | [], _, _ :: _, _, h => by simp only [Obs] at h
  | _ :: _, _, [], _, h => by simp only [Obs] at h
end
/-- a list is to be read in the heap -/
theorem LstAt.rdl (zh : Same Z H) {k : Lv} {a : Addr} {xs : List V} (h : LstAt K Z H k a xs) : RdL K H a xs := by
  unfold LstAt at h
  by_cases e : k = some 0
  · rw [if_pos e] at h
    exact Same.rdl zh h
  · rw [if_neg e] at h
    exact .inl (Rd.of h.2)
theorem LstAt.sq (zh : Same Z H) {k : Lv} {a : Addr} {xs : List V} (h : LstAt K Z H k a xs) : SqL K H a xs := (h.rdl zh).sq
theorem DctAt.rd (zh : Same Z H) {k : Lv} {a : Addr} {xs : List (Key × V)} (h : DctAt Z H k a xs) : H a = some (.dK xs) := by
  unfold DctAt at h
  by_cases e : k = some 0
  · rw [if_pos e] at h
    exact zh _ _ h
  · rw [if_neg e] at h
    exact h.2
end
end Ev

set_option Elab.async false
set_option linter.all false
set_option maxRecDepth 100000
namespace Ev
open PySem PySem.Spec PyProof.Rows L2

/-- a slot: unknown, a datum, another name of a part of the datum in slot j -/
inductive Sl where
  | em
  | ex (a : Addr)
  | va (k : Lv) (d : D)
  | al (j : Nat) (p : List Nat)
abbrev Rho := List Sl
/-- a value; b: it is a slot's -/
structure BV where
  b : Bool
  k : Lv
  d : D
inductive Res (α : Type) where
  | ok (a : α)
  | rz (c : Str)
  | er
def Res.bind {α β : Type} (r : Res α) (f : α → Res β) : Res β := match r with
  | .ok a => f a
  | .rz c => .rz c
  | .er => .er
@[simp] theorem Res.bind_ok {α β : Type} (a : α) (f : α → Res β) : (Res.ok a).bind f = f a := rfl
@[simp] theorem Res.bind_rz {α β : Type} (c : Str) (f : α → Res β) : (Res.rz c).bind f = .rz c := rfl
@[simp] theorem Res.bind_er {α β : Type} (f : α → Res β) : (Res.er : Res α).bind f = .er := rfl

def kidsD : D → List D
  | .list ds => ds
  | .tuple ds => ds
  | .dict kvs => kvs.map (·.2)
  | _ => []
def lvK (k : Lv) : D → Lv
  | .tuple _ => k
  | _ => pd k
def sub (k : Lv) (d : D) (t : Tr) : List Nat → Option (Lv × D × Tr)
  | [] => some (k, d, t)
  | i :: p => match (kidsD d)[i]?, t.kids[i]? with
    | some d', some t' => sub (lvK k d) d' t' p
    | _, _ => none
def subD (k : Lv) (d : D) : List Nat → Option (Lv × D)
  | [] => some (k, d)
  | i :: p => match (kidsD d)[i]? with
    | some d' => subD (lvK k d) d' p
    | none => none

def ownR : Rho → List Tr → List Addr
  | .va k d :: ρ, t :: ts => own k d t ++ ownR ρ ts
  | .em :: ρ, _ :: ts => ownR ρ ts
  | .ex _ :: ρ, _ :: ts => ownR ρ ts
  | .al _ _ :: ρ, _ :: ts => ownR ρ ts
  | _, _ => []
/-- a value under way -/
structure Tm where
  b : Bool
  k : Lv
  d : D
  t : Tr
def ownT : List Tm → List Addr
  | [] => []
  | c :: τ => (if c.b then [] else own c.k c.d c.t) ++ ownT τ

/-- the heap grows; the shared part grows by what is new -/
structure Step (Z H Z' H' : Hp) : Prop where
  zz : Same Z Z'
  hh : Same H H'
  zn : ∀ a o, Z' a = some o → Z a = some o ∨ H a = none
theorem Step.refl {Z H : Hp} : Step Z H Z H := ⟨Same.refl _, Same.refl _, fun _ _ h => .inl h⟩
theorem Step.trans {Z H Z1 H1 Z2 H2 : Hp} (a : Step Z H Z1 H1) (b : Step Z1 H1 Z2 H2) : Step Z H Z2 H2 :=
  ⟨a.zz.trans b.zz, a.hh.trans b.hh, fun c o h => by
    rcases b.zn c o h with h | h
    · exact a.zn c o h
    · exact .inr (a.hh.free h)⟩
theorem Step.none {Z H Z' H' : Hp} (s : Step Z H Z' H') {a : Addr} {o : HO} (h1 : Z a = Option.none) (h2 : H a = some o) : Z' a = Option.none := by
  cases e : Z' a with
  | none => rfl
  | some u =>
    rcases s.zn a u e with h | h
    · rw [h1] at h; cases h
    · rw [h2] at h; cases h

def SlOk (K : PySem.W.Frag) (Z H : Hp) (σ : L2.St) (ρ : Rho) (ts : List Tr) (i : Nat) : Sl → Prop
  | .va k d => ∃ t, ts[i]? = some t ∧ Ob K Z H k d t ∧ σ[i]? = some (some (valOf d t))
  | .al j p => ∃ k d t k' d' t', ρ[j]? = some (.va k d) ∧ ts[j]? = some t ∧ sub k d t p = some (k', d', t') ∧ σ[i]? = some (some (valOf d' t'))
  | .em => True
  | .ex a => σ[i]? = some (some (.ref a))

/-- THE RELATION: the slots σ and the heap H bear the data ρ at ts, and the values under way τ. Z: what is shared. H0: the heap at the entry -/
structure Rl (K : PySem.W.Frag) (Z0 H0 Z H : Hp) (σ : L2.St) (ρ : Rho) (ts : List Tr) (τ : List Tm) : Prop where
  zh : Same Z H
  h0 : Same H0 H
  z0 : Same Z0 Z
  zn : ∀ a o, Z a = some o → Z0 a = some o ∨ H0 a = none
  lr : ρ.length = σ.length
  lt : ts.length = σ.length
  sl : ∀ i s, ρ[i]? = some s → SlOk K Z H σ ρ ts i s
  tm : ∀ c ∈ τ, Ob K Z H c.k c.d c.t ∧ (c.b = true → (own c.k c.d c.t).Nodup ∧ ∀ a ∈ own c.k c.d c.t, a ∈ ownR ρ ts)
  nd : (ownR ρ ts ++ ownT τ).Nodup
  o0 : ∀ a ∈ ownR ρ ts ++ ownT τ, H0 a = none

theorem ownR_get : ∀ {ρ : Rho} {ts : List Tr} {i : Nat} {k : Lv} {d : D} {t : Tr}, ρ[i]? = some (.va k d) → ts[i]? = some t → ∀ a ∈ own k d t, a ∈ ownR ρ ts
  | [], _, _, _, _, _, h, _, _, _ => by simp at h
  | _ :: _, [], _, _, _, _, _, h, _, _ => by simp at h
  | s :: ρ, t :: ts, 0, _, _, _, h1, h2, a, m => by
    simp at h1 h2; subst h1; subst h2
    simp only [ownR]
    exact List.mem_append_left _ m
  | s :: ρ, t :: ts, i + 1, _, _, _, h1, h2, a, m => by
    have q := ownR_get (ρ := ρ) (ts := ts) (by simpa using h1) (by simpa using h2) a m
    cases s with
    | em => simpa only [ownR] using q
    | ex a0 => simpa only [ownR] using q
    | va k d => simp only [ownR]; exact List.mem_append_right _ q
    | al j p => simpa only [ownR] using q
theorem ownR_nodup : ∀ {ρ : Rho} {ts : List Tr} {i : Nat} {k : Lv} {d : D} {t : Tr}, (ownR ρ ts).Nodup → ρ[i]? = some (.va k d) → ts[i]? = some t → (own k d t).Nodup
  | [], _, _, _, _, _, _, h, _ => by simp at h
  | _ :: _, [], _, _, _, _, _, _, h => by simp at h
  | s :: ρ, t :: ts, 0, _, _, _, n, h1, h2 => by
    simp at h1 h2; subst h1; subst h2
    simp only [ownR] at n
    exact (List.nodup_append.mp n).1
  | s :: ρ, t :: ts, i + 1, _, _, _, n, h1, h2 => by
    have n' : (ownR ρ ts).Nodup := by
      cases s with
      | em => simpa only [ownR] using n
      | ex a0 => simpa only [ownR] using n
      | va k d => simp only [ownR] at n; exact (List.nodup_append.mp n).2.1
      | al j p => simpa only [ownR] using n
    exact ownR_nodup n' (by simpa using h1) (by simpa using h2)
theorem ownT_mem : ∀ {τ : List Tm} {c : Tm}, c ∈ τ → c.b = false → ∀ a ∈ own c.k c.d c.t, a ∈ ownT τ
  | [], _, h, _, _, _ => by cases h
  | e :: τ, c, h, hb, a, m => by
    simp only [ownT]
    rcases List.mem_cons.mp h with h | h
    · subst h
      rw [hb]
      exact List.mem_append_left _ (by simpa using m)
    · exact List.mem_append_right _ (ownT_mem h hb a m)

section
variable {K : PySem.W.Frag} {Z0 H0 Z H Z' H' : Hp} {σ : L2.St} {ρ : Rho} {ts : List Tr} {τ : List Tm}
theorem Rl.own_z (R : Rl K Z0 H0 Z H σ ρ ts τ) : ∀ a ∈ ownR ρ ts ++ ownT τ, Z a = none ∧ ∃ o, H a = some o ∧ (∀ xs, o ≠ .tup xs) ∧ ∀ u w, o ≠ .frz u w := by
  have sl : ∀ (ρ' : Rho) (ts' : List Tr) (n : Nat), (∀ i s, ρ'[i]? = some s → SlOk K Z H (σ.drop n) ρ' ts' i s ∨ ∃ j p, s = .al j p) → ∀ a ∈ ownR ρ' ts', Z a = none ∧ ∃ o, H a = some o ∧ (∀ xs, o ≠ .tup xs) ∧ ∀ u w, o ≠ .frz u w := by
    intro ρ'
    induction ρ' with
    | nil => intro ts' n _ a m; simp [ownR] at m
    | cons s r ih =>
      intro ts' n h a m
      cases ts' with
      | nil => cases s <;> simp [ownR] at m
      | cons t tr =>
        have rest : ∀ a ∈ ownR r tr, Z a = none ∧ ∃ o, H a = some o ∧ (∀ xs, o ≠ .tup xs) ∧ ∀ u w, o ≠ .frz u w := fun a m => by
          refine ih tr (n + 1) (fun i s' e => ?_) a m
          cases s' with
          | em => exact .inl trivial
          | ex a0 =>
            rcases h (i + 1) _ (by simpa using e) with q | ⟨j, p, q⟩
            · refine .inl ?_
              simp only [SlOk] at q ⊢
              rw [List.getElem?_drop] at q ⊢
              rw [← q]
              congr 1
              omega
            · cases q
          | al j p => exact .inr ⟨j, p, rfl⟩
          | va k d =>
            rcases h (i + 1) _ (by simpa using e) with q | ⟨j, p, q⟩
            · obtain ⟨t', e1, o, e2⟩ := q
              refine .inl ⟨t', by simpa using e1, o, ?_⟩
              rw [List.getElem?_drop] at e2 ⊢
              rw [← e2]
              congr 1
              omega
            · cases q
        cases s with
        | em => exact rest a (by simpa only [ownR] using m)
        | ex a0 => exact rest a (by simpa only [ownR] using m)
        | al j p => exact rest a (by simpa only [ownR] using m)
        | va k d =>
          simp only [ownR] at m
          rcases List.mem_append.mp m with m | m
          · rcases h 0 (.va k d) (by simp) with q | ⟨j, p, q⟩
            · obtain ⟨t', e1, o, e2⟩ := q
              simp at e1
              subst e1
              exact Ob.own d k t o a m
            · cases q
          · exact rest a m
  intro a m
  rcases List.mem_append.mp m with m | m
  · exact sl ρ ts 0 (fun i s e => .inl (by simpa using R.sl i s e)) a m
  · have tm : ∀ τ' : List Tm, (∀ c ∈ τ', Ob K Z H c.k c.d c.t) → ∀ a ∈ ownT τ', Z a = none ∧ ∃ o, H a = some o ∧ (∀ xs, o ≠ .tup xs) ∧ ∀ u w, o ≠ .frz u w := by
      intro τ'
      induction τ' with
      | nil => intro _ a m; simp [ownT] at m
      | cons c r ih =>
        intro h a m
        simp only [ownT] at m
        rcases List.mem_append.mp m with m | m
        · cases hb : c.b with
          | true => rw [hb] at m; simp at m
          | false =>
            rw [hb] at m
            exact Ob.own c.d c.k c.t (h c List.mem_cons_self) a (by simpa using m)
        · exact ih (fun c hc => h c (List.mem_cons_of_mem _ hc)) a m
    exact tm τ (fun c hc => (R.tm c hc).1) a m
theorem SlOk.ext {i : Nat} {s : Sl} (h : SlOk K Z H σ ρ ts i s) (he : ρ[i]? = some s) (zz : Same Z Z') (h1 : ∀ a ∈ ownR ρ ts, Z' a = none) (h2 : ∀ a ∈ ownR ρ ts, ∀ o, H a = some o → H' a = some o) : SlOk K Z' H' σ ρ ts i s := by
  cases s with
  | em => trivial
  | ex a0 => exact h
  | al j p => exact h
  | va k d =>
    obtain ⟨t, e1, o, e2⟩ := h
    have m := ownR_get he e1
    exact ⟨t, e1, Ob.ext zz d k t o (fun a q => h1 a (m a q)) (fun a q => h2 a (m a q)), e2⟩
/-- the heap goes on -/
theorem Rl.ext (R : Rl K Z0 H0 Z H σ ρ ts τ) (zz : Same Z Z') (h1 : ∀ a ∈ ownR ρ ts ++ ownT τ, Z' a = none) (h2 : ∀ a ∈ ownR ρ ts ++ ownT τ, ∀ o, H a = some o → H' a = some o)
    (zh : Same Z' H') (h0 : Same H0 H') (zn : ∀ a o, Z' a = some o → Z0 a = some o ∨ H0 a = none) : Rl K Z0 H0 Z' H' σ ρ ts τ := by
  have hr : ∀ a ∈ ownR ρ ts, a ∈ ownR ρ ts ++ ownT τ := fun a m => List.mem_append_left _ m
  refine ⟨zh, h0, R.z0.trans zz, zn, R.lr, R.lt, fun i s e => (R.sl i s e).ext e zz (fun a m => h1 a (hr a m)) (fun a m => h2 a (hr a m)), fun c hc => ?_, R.nd, R.o0⟩
  obtain ⟨o, hb⟩ := R.tm c hc
  have m : ∀ a ∈ own c.k c.d c.t, a ∈ ownR ρ ts ++ ownT τ := fun a m => by
    cases q : c.b with
    | true => exact hr a ((hb q).2 a m)
    | false => exact List.mem_append_right _ (ownT_mem hc q a m)
  exact ⟨Ob.ext zz c.d c.k c.t o (fun a q => h1 a (m a q)) (fun a q => h2 a (m a q)), hb⟩
theorem Rl.step (R : Rl K Z0 H0 Z H σ ρ ts τ) (s : Step Z H Z' H') (zh : Same Z' H') : Rl K Z0 H0 Z' H' σ ρ ts τ := by
  refine R.ext s.zz (fun a m => ?_) (fun a _ o e => s.hh a o e) zh (R.h0.trans s.hh) fun a o e => ?_
  · obtain ⟨z, o, e, _⟩ := R.own_z a m
    exact s.none z e
  · rcases s.zn a o e with h | h
    · exact R.zn a o h
    · exact .inr (R.h0.free h)
/-- a value under way comes on top -/
theorem Rl.push (R : Rl K Z0 H0 Z H σ ρ ts τ) {c : Tm} (o : Ob K Z H c.k c.d c.t) (hb : c.b = true → (own c.k c.d c.t).Nodup ∧ ∀ a ∈ own c.k c.d c.t, a ∈ ownR ρ ts)
    (hn : c.b = false → (own c.k c.d c.t).Nodup ∧ (∀ a ∈ own c.k c.d c.t, a ∉ ownR ρ ts ++ ownT τ) ∧ ∀ a ∈ own c.k c.d c.t, H0 a = none) : Rl K Z0 H0 Z H σ ρ ts (c :: τ) := by
  have key : (ownR ρ ts ++ ownT (c :: τ)).Nodup ∧ ∀ a ∈ ownR ρ ts ++ ownT (c :: τ), H0 a = none := by
    cases q : c.b with
    | true =>
      have e : ownT (c :: τ) = ownT τ := by simp [ownT, q]
      rw [e]
      exact ⟨R.nd, R.o0⟩
    | false =>
      have e : ownT (c :: τ) = own c.k c.d c.t ++ ownT τ := by simp [ownT, q]
      rw [e]
      obtain ⟨n1, n2, n3⟩ := hn q
      obtain ⟨r1, r2, r3⟩ := List.nodup_append.mp R.nd
      refine ⟨List.nodup_append.mpr ⟨r1, List.nodup_append.mpr ⟨n1, r2, fun a ha b hb e => ?_⟩, fun a ha b hb e => ?_⟩, fun a m => ?_⟩
      · subst e
        exact n2 a ha (List.mem_append_right _ hb)
      · subst e
        rcases List.mem_append.mp hb with hb | hb
        · exact n2 a hb (List.mem_append_left _ ha)
        · exact r3 a ha a hb rfl
      · rcases List.mem_append.mp m with m | m
        · exact R.o0 a (List.mem_append_left _ m)
        · rcases List.mem_append.mp m with m | m
          · exact n3 a m
          · exact R.o0 a (List.mem_append_right _ m)
  refine ⟨R.zh, R.h0, R.z0, R.zn, R.lr, R.lt, R.sl, fun e he => ?_, key.1, key.2⟩
  rcases List.mem_cons.mp he with h | h
  · subst h
    exact ⟨o, hb⟩
  · exact R.tm e h
/-- a value under way that has no objects of its own -/
theorem Rl.push0 (R : Rl K Z0 H0 Z H σ ρ ts τ) {b : Bool} {k : Lv} {d : D} {t : Tr} (o : Ob K Z H k d t) (hn : own k d t = []) : Rl K Z0 H0 Z H σ ρ ts (⟨b, k, d, t⟩ :: τ) :=
  R.push o (fun _ => ⟨by show (own k d t).Nodup; rw [hn]; exact List.Pairwise.nil, fun a (m : a ∈ own k d t) => by rw [hn] at m; cases m⟩) fun _ => ⟨by show (own k d t).Nodup; rw [hn]; exact List.Pairwise.nil, (fun a (m : a ∈ own k d t) => by rw [hn] at m; cases m), fun a (m : a ∈ own k d t) => by rw [hn] at m; cases m⟩
theorem Rl.pop {c : Tm} (R : Rl K Z0 H0 Z H σ ρ ts (c :: τ)) : Rl K Z0 H0 Z H σ ρ ts τ := by
  have sub : ∀ a ∈ ownT τ, a ∈ ownT (c :: τ) := fun a m => by simp only [ownT]; exact List.mem_append_right _ m
  obtain ⟨r1, r2, r3⟩ := List.nodup_append.mp R.nd
  refine ⟨R.zh, R.h0, R.z0, R.zn, R.lr, R.lt, R.sl, fun e he => R.tm e (List.mem_cons_of_mem _ he), List.nodup_append.mpr ⟨r1, ?_, fun a ha b hb => r3 a ha b (sub b hb)⟩, fun a m => ?_⟩
  · simp only [ownT] at r2
    exact (List.nodup_append.mp r2).2.1
  · rcases List.mem_append.mp m with m | m
    · exact R.o0 a (List.mem_append_left _ m)
    · exact R.o0 a (List.mem_append_right _ (sub a m))
/-- the values under way change their places or some are dropped -/
theorem Rl.perm {τ' : List Tm} (R : Rl K Z0 H0 Z H σ ρ ts τ) (hm : ∀ c ∈ τ', c ∈ τ) (hn : (ownT τ').Nodup) : Rl K Z0 H0 Z H σ ρ ts τ' := by
  have sub : ∀ a ∈ ownT τ', a ∈ ownT τ := by
    intro a m
    have : ∀ l : List Tm, (∀ c ∈ l, c ∈ τ) → a ∈ ownT l → a ∈ ownT τ := by
      intro l
      induction l with
      | nil => intro _ m; simp [ownT] at m
      | cons c r ih =>
        intro h m
        simp only [ownT] at m
        rcases List.mem_append.mp m with m | m
        · cases hb : c.b with
          | true => rw [hb] at m; simp at m
          | false =>
            rw [hb] at m
            exact ownT_mem (h c List.mem_cons_self) hb a (by simpa using m)
        · exact ih (fun c hc => h c (List.mem_cons_of_mem _ hc)) m
    exact this τ' hm m
  obtain ⟨r1, r2, r3⟩ := List.nodup_append.mp R.nd
  refine ⟨R.zh, R.h0, R.z0, R.zn, R.lr, R.lt, R.sl, fun e he => R.tm e (hm e he), List.nodup_append.mpr ⟨r1, hn, fun a ha b hb => r3 a ha b (sub b hb)⟩, fun a m => ?_⟩
  rcases List.mem_append.mp m with m | m
  · exact R.o0 a (List.mem_append_left _ m)
  · exact R.o0 a (List.mem_append_right _ (sub a m))
end
end Ev

set_option Elab.async false
set_option linter.all false
set_option maxRecDepth 100000
namespace Ev
open PySem PySem.Spec PyProof.Rows L2

/-! ### the widest readings -/
def wE (X : Cx) (e : Expr) : TE := fun σ H Q => ∀ (pins : List (Addr × Obj)) (s : Shared), Inv X pins σ H s → wpAny (model X.prog X.w) X.A (eval e X.env) (EP X pins σ Q) X.xe s
def wT (X : Cx) (e : Expr) : TT := fun σ H Q => ∀ (pins : List (Addr × Obj)) (s : Shared), Inv X pins σ H s → wpAny (model X.prog X.w) X.A (isTrue e X.env (eval e X.env)) (TP X pins σ Q) X.xe s
def wW (X : Cx) (e : Expr) : TT := fun σ H Q => ∀ (whole : Sem Value) (pins : List (Addr × Obj)) (s : Shared), Inv X pins σ H s → wpAny (model X.prog X.w) X.A (isTrue e X.env whole) (TP X pins σ Q) X.xe s
def wA (X : Cx) (es : List Expr) : TA := fun σ H Q => ∀ (pos : Pos) (pins : List (Addr × Obj)) (s : Shared), Inv X pins σ H s → wpAny (model X.prog X.w) X.A (spliced (backTo pos (starEach es X.env))) (AP X pins σ Q) X.xe s
def wS (X : Cx) (st : Stmt) : TS := fun D σ H => ∀ (pins : List (Addr × Obj)) (s : Shared), Inv X pins σ H s → wpAny (model X.prog X.w) X.A (exec st X.env) (SP X pins D) X.xe s
def wSs (X : Cx) (st : List Stmt) : TS := fun D σ H => ∀ (pins : List (Addr × Obj)) (s : Shared), Inv X pins σ H s → wpAny (model X.prog X.w) X.A (execs st X.env) (SP X pins D) X.xe s
def wO (X : Cx) (f : Value → Value → Sem Value) : R2 := fun x y H Q => ∀ (pins : List (Addr × Obj)) (s : Shared) (σ : L2.St) (v u : Value), Inv X pins σ H s → RelV x v → RelV y u → wpAny (model X.prog X.w) X.A (f v u) (EP X pins σ Q) X.xe s
def wU (X : Cx) (f : Value → Sem Value) : V → Hp → VK → Prop := fun x H Q => ∀ (pins : List (Addr × Obj)) (s : Shared) (σ : L2.St) (v : Value), Inv X pins σ H s → RelV x v → wpAny (model X.prog X.w) X.A (f v) (EP X pins σ Q) X.xe s
def wC (X : Cx) (f : Value) : List V → Hp → VK → Prop := fun xs H Q => ∀ (pins : List (Addr × Obj)) (s : Shared) (σ : L2.St) (us : List Value), Inv X pins σ H s → Vals xs us → wpAny (model X.prog X.w) X.A (call f us) (EP X pins σ Q) X.xe s
section
variable {X : Cx}
theorem pe_w {e : Expr} : PE X e (wE X e) := ⟨fun pins s σ H Q I h => h pins s I⟩
theorem pt_w {e : Expr} : PT X e (wT X e) := ⟨fun pins s σ H Q I h => h pins s I⟩
theorem pw_w {e : Expr} : PW X e (wW X e) := ⟨fun wh pins s σ H Q I h => h wh pins s I⟩
theorem pa_w {es : List Expr} : PA X es (wA X es) := ⟨fun pos pins s σ H Q I h => h pos pins s I⟩
theorem ps_w {st : Stmt} : PS X st (wS X st) := ⟨fun pins s σ H D I h => h pins s I⟩
theorem pss_w {st : List Stmt} : PSs X st (wSs X st) := ⟨fun pins s σ H D I h => h pins s I⟩
theorem opR_w {f : Value → Value → Sem Value} : OpR X f (wO X f) := fun pins s σ H x y v u Q I rx ry h => h pins s σ v u I rx ry
theorem unR_w {f : Value → Sem Value} : UnR X f (wU X f) := fun pins s σ H x v Q I rx h => h pins s σ v I rx
theorem callR_w {f : Value} : CallR X f (wC X f) := fun pins s σ H xs us Q I r h => h pins s σ us I r
theorem wE_of {e : Expr} {t : TE} {σ : L2.St} {H : Hp} {Q : VK} (h : PE X e t) (q : t σ H Q) : wE X e σ H Q := fun pins s I => h.run pins s σ H Q I q
theorem wT_of {e : Expr} {t : TT} {σ : L2.St} {H : Hp} {Q : Bool → Hp → Prop} (h : PT X e t) (q : t σ H Q) : wT X e σ H Q := fun pins s I => h.run pins s σ H Q I q
theorem wW_of {e : Expr} {t : TT} {σ : L2.St} {H : Hp} {Q : Bool → Hp → Prop} (h : PW X e t) (q : t σ H Q) : wW X e σ H Q := fun wh pins s I => h.run wh pins s σ H Q I q
theorem wA_of {es : List Expr} {t : TA} {σ : L2.St} {H : Hp} {Q : List V → Hp → Prop} (h : PA X es t) (q : t σ H Q) : wA X es σ H Q := fun pos pins s I => h.run pos pins s σ H Q I q
theorem wS_of {st : Stmt} {t : TS} {σ : L2.St} {H : Hp} {D : Ends} (h : PS X st t) (q : t D σ H) : wS X st D σ H := fun pins s I => h.run pins s σ H D I q
theorem wSs_of {st : List Stmt} {t : TS} {σ : L2.St} {H : Hp} {D : Ends} (h : PSs X st t) (q : t D σ H) : wSs X st D σ H := fun pins s I => h.run pins s σ H D I q
theorem wO_of {f : Value → Value → Sem Value} {r : R2} {x y : V} {H : Hp} {Q : VK} (h : OpR X f r) (q : r x y H Q) : wO X f x y H Q := fun pins s σ v u I rx ry => h pins s σ H x y v u Q I rx ry q
theorem wU_of {f : Value → Sem Value} {r : V → Hp → VK → Prop} {x : V} {H : Hp} {Q : VK} (h : UnR X f r) (q : r x H Q) : wU X f x H Q := fun pins s σ v I rx => h pins s σ H x v Q I rx q
theorem wC_of {f : Value} {r : List V → Hp → VK → Prop} {xs : List V} {H : Hp} {Q : VK} (h : CallR X f r) (q : r xs H Q) : wC X f xs H Q := fun pins s σ us I rx => h pins s σ H xs us Q I rx q
end

/-! ### what a result asks -/
/-- the state in which something is evaluated -/
structure Sta where
  Z0 : Hp
  H0 : Hp
  Z : Hp
  H : Hp
  σ : L2.St
  ρ : Rho
  ts : List Tr
  τ : List Tm
def Sta.R (K : PySem.W.Frag) (S : Sta) : Prop := Rl K S.Z0 S.H0 S.Z S.H S.σ S.ρ S.ts S.τ
/-- S' lies behind S: the same slots, grown heaps -/
structure Aft (S S' : Sta) : Prop where
  z0 : S'.Z0 = S.Z0
  h0 : S'.H0 = S.H0
  σ : S'.σ = S.σ
  ρ : S'.ρ = S.ρ
  ts : S'.ts = S.ts
  st : Step S.Z S.H S'.Z S'.H
theorem Aft.refl {S : Sta} : Aft S S := ⟨rfl, rfl, rfl, rfl, rfl, Step.refl⟩
theorem Aft.trans {S S1 S2 : Sta} (a : Aft S S1) (b : Aft S1 S2) : Aft S S2 :=
  ⟨b.z0.trans a.z0, b.h0.trans a.h0, b.σ.trans a.σ, b.ρ.trans a.ρ, b.ts.trans a.ts, a.st.trans b.st⟩
/-- the object of a raised exception -/
def Raised (X : Cx) (W : WX) (c : Str) (σ : L2.St) (H : Hp) : Prop := ∀ C, X.mg c = some (.ref C) → W (.ref C) none σ H
def GoodE (X : Cx) (W : WX) (S : Sta) (Q : VK) : Res BV → Prop
  | .ok v => ∀ (S' : Sta) (t : Tr), Aft S S' → S'.τ = ⟨v.b, v.k, v.d, t⟩ :: S.τ → S'.R X.K → (v.b = false → ∀ a ∈ own v.k v.d t, S.H a = none) → Q (valOf v.d t) S'.H
  | .rz c => ∀ S' : Sta, Aft S S' → S'.τ = S.τ → S'.R X.K → Raised X W c S'.σ S'.H
  | .er => False
def GoodT (X : Cx) (W : WX) (S : Sta) (Q : Bool → Hp → Prop) : Res Bool → Prop
  | .ok b => ∀ S' : Sta, Aft S S' → S'.τ = S.τ → S'.R X.K → Q b S'.H
  | .rz c => ∀ S' : Sta, Aft S S' → S'.τ = S.τ → S'.R X.K → Raised X W c S'.σ S'.H
  | .er => False
/-- e is evaluated as x says -/
def SE (X : Cx) (W : WX) (e : Expr) (x : Rho → Res BV) : Prop := ∀ (S : Sta) (Q : VK), S.R X.K → GoodE X W S Q (x S.ρ) → wE X e S.σ S.H Q
def STs (X : Cx) (W : WX) (e : Expr) (x : Rho → Res Bool) : Prop := ∀ (S : Sta) (Q : Bool → Hp → Prop), S.R X.K → GoodT X W S Q (x S.ρ) → wT X e S.σ S.H Q
def SW (X : Cx) (W : WX) (e : Expr) (x : Rho → Res Bool) : Prop := ∀ (S : Sta) (Q : Bool → Hp → Prop), S.R X.K → GoodT X W S Q (x S.ρ) → wW X e S.σ S.H Q

def Sta.put (S : Sta) (Z H : Hp) (τ : List Tm) : Sta := { S with Z := Z, H := H, τ := τ }
theorem Sta.aft_put {S : Sta} {Z H : Hp} {τ : List Tm} (s : Step S.Z S.H Z H) : Aft S (S.put Z H τ) := ⟨rfl, rfl, rfl, rfl, rfl, s⟩
theorem Aft.put {S S' : Sta} {Z H : Hp} {τ : List Tm} (a : Aft S S') (s : Step S'.Z S'.H Z H) : Aft S (S'.put Z H τ) := a.trans (Sta.aft_put s)

def scal : D → Bool
  | .none => true
  | .bool _ => true
  | .int _ => true
  | .str _ => true
  | _ => false
theorem scal_own {d : D} (h : scal d = true) (k : Lv) (t : Tr) : own k d t = [] := by
  cases d <;> first | rfl | cases h
theorem scal_ob {K : PySem.W.Frag} {Z H : Hp} {d : D} (h : scal d = true) (k : Lv) (t : Tr) : Ob K Z H k d t := by
  cases d <;> first | (simp only [Ob]; done) | exact Bool.noConfusion h
theorem scal_val {d : D} (h : scal d = true) (t t' : Tr) : valOf d t = valOf d t' := by
  cases d <;> first | rfl | cases h
abbrev t0 : Tr := .n 0 []
section
variable {X : Cx} {W : WX} {S S' : Sta}
theorem Sta.R.pop {c : Tm} {τ : List Tm} (R : S.R X.K) (e : S.τ = c :: τ) : (S.put S.Z S.H τ).R X.K := by
  have R' : Rl X.K S.Z0 S.H0 S.Z S.H S.σ S.ρ S.ts S.τ := R
  rw [e] at R'
  exact R'.pop
theorem Sta.R.pop2 {c c' : Tm} {τ : List Tm} (R : S.R X.K) (e : S.τ = c :: c' :: τ) : (S.put S.Z S.H τ).R X.K := by
  have R' : Rl X.K S.Z0 S.H0 S.Z S.H S.σ S.ρ S.ts S.τ := R
  rw [e] at R'
  exact R'.pop.pop
/-- the end with a plain value -/
theorem GoodE.scal {Q : VK} {b : Bool} {k : Lv} {d : D} (h : GoodE X W S Q (.ok ⟨b, k, d⟩)) (hs : scal d = true) {Z H : Hp} (s : Step S.Z S.H Z H) (R : (S.put Z H S.τ).R X.K) : Q (valOf d t0) H := by
  have R' : Rl X.K S.Z0 S.H0 Z H S.σ S.ρ S.ts S.τ := R
  exact h (S.put Z H (⟨b, k, d, t0⟩ :: S.τ)) t0 (Sta.aft_put s) rfl (R'.push0 (scal_ob hs _ _) (scal_own hs _ _)) fun _ a m => by
    rw [scal_own hs] at m
    cases m
/-- a later start -/
theorem GoodE.later {Q : VK} {r : Res BV} {c : Tm} (h : GoodE X W S Q r) (a : Aft S S') (e : S'.τ = S.τ) : GoodE X W S' Q r := by
  cases r with
  | ok v => exact fun S2 t a2 e2 R f => h S2 t (a.trans a2) (e2.trans (by rw [e])) R fun hb x m => a.st.hh.free (f hb x m)
  | rz c => exact fun S2 a2 e2 R => h S2 (a.trans a2) (e2.trans e) R
  | er => exact h
/-! ### names and constants -/
def lookR (ρ : Rho) (i : Nat) : Res BV := match ρ[i]? with
  | some (.va k d) => .ok ⟨true, k, d⟩
  | some (.al j p) => match ρ[j]? with
    | some (.va k d) => match subD k d p with
      | some (k', d') => .ok ⟨true, k', d'⟩
      | none => .er
    | _ => .er
  | _ => .er
def xVa (i : Nat) : Rho → Res BV := fun ρ => lookR ρ i
def xCn (d : D) : Rho → Res BV := fun _ => .ok ⟨false, none, d⟩
theorem kids_ob {K : PySem.W.Frag} {Z H : Hp} : ∀ {d : D} {k : Lv} {t : Tr} {i : Nat} {d' : D}, Ob K Z H k d t → (kidsD d)[i]? = some d' → ∃ t', t.kids[i]? = some t' ∧ Ob K Z H (lvK k d) d' t' ∧ ∀ a ∈ own (lvK k d) d' t', a ∈ own k d t
  | .list ds, k, t, i, d', o, e => by
    simp only [Ob] at o
    obtain ⟨t', e1, o'⟩ := Obs.get o.2 e
    refine ⟨t', e1, o', fun a m => ?_⟩
    simp only [Ev.own]
    exact List.mem_append_right _ (owns_get e e1 a m)
  | .tuple ds, k, t, i, d', o, e => by
    simp only [Ob] at o
    obtain ⟨t', e1, o'⟩ := Obs.get o.2 e
    refine ⟨t', e1, o', fun a m => ?_⟩
    simp only [Ev.own]
    exact owns_get e e1 a m
  | .dict kvs, k, t, i, d', o, e => by
    simp only [Ob] at o
    have main : ∀ (kvs : List (D × D)) (ts : List Tr) (k : Lv) (i : Nat) (d' : D), ObK K Z H k kvs ts → (kvs.map (·.2))[i]? = some d' → ∃ t', ts[i]? = some t' ∧ Ob K Z H k d' t' ∧ ∀ a ∈ own k d' t', a ∈ ownK k kvs ts := by
      intro kvs
      induction kvs with
      | nil => intro ts k i d' _ e; simp at e
      | cons p r ih =>
        intro ts k i d' o e
        obtain ⟨q, d⟩ := p
        cases ts with
        | nil => simp only [ObK] at o
        | cons t ts =>
          simp only [ObK] at o
          cases i with
          | zero =>
            simp at e; subst e
            exact ⟨t, by simp, o.2.1, fun a m => by simp only [ownK]; exact List.mem_append_left _ m⟩
          | succ i =>
            obtain ⟨t', e1, o', h⟩ := ih ts k i d' o.2.2 (by simpa using e)
            exact ⟨t', by simpa using e1, o', fun a m => by simp only [ownK]; exact List.mem_append_right _ (h a m)⟩
    obtain ⟨t', e1, o', h⟩ := main kvs t.kids (pd k) i d' o.2 e
    exact ⟨t', e1, o', fun a m => by simp only [Ev.own]; exact List.mem_append_right _ (h a m)⟩
  | .none, _, _, _, _, _, e => by simp [kidsD] at e
  | .bool _, _, _, _, _, _, e => by simp [kidsD] at e
  | .int _, _, _, _, _, _, e => by simp [kidsD] at e
  | .str _, _, _, _, _, _, e => by simp [kidsD] at e
theorem sub_ob {K : PySem.W.Frag} {Z H : Hp} : ∀ {p : List Nat} {k : Lv} {d : D} {t : Tr} {k' : Lv} {d' : D}, Ob K Z H k d t → subD k d p = some (k', d') → ∃ t', sub k d t p = some (k', d', t') ∧ Ob K Z H k' d' t' ∧ ∀ a ∈ own k' d' t', a ∈ own k d t
  | [], k, d, t, k', d', o, e => by
    simp only [subD, Option.some.injEq, Prod.mk.injEq] at e
    obtain ⟨rfl, rfl⟩ := e
    exact ⟨t, rfl, o, fun _ m => m⟩
  | i :: p, k, d, t, k', d', o, e => by
    simp only [subD] at e
    cases q : (kidsD d)[i]? with
    | none => rw [q] at e; cases e
    | some d1 =>
      rw [q] at e
      obtain ⟨t1, e1, o1, h1⟩ := kids_ob o q
      obtain ⟨t', e2, o', h'⟩ := sub_ob (p := p) o1 e
      refine ⟨t', ?_, o', fun a m => h1 a (h' a m)⟩
      simp only [sub, q, e1]
      exact e2
theorem ownK_nodup : ∀ {kvs : List (D × D)} {k : Lv} {ts : List Tr} {i : Nat} {d : D} {t : Tr}, (ownK k kvs ts).Nodup → (kvs.map (·.2))[i]? = some d → ts[i]? = some t → (own k d t).Nodup
  | [], _, _, _, _, _, _, h, _ => by simp at h
  | _ :: _, _, [], _, _, _, _, _, h => by simp at h
  | (q, d) :: r, k, t :: ts, 0, _, _, hn, h1, h2 => by
    simp at h1 h2; subst h1; subst h2
    simp only [ownK] at hn
    exact (List.nodup_append.mp hn).1
  | (q, d) :: r, k, t :: ts, i + 1, _, _, hn, h1, h2 => by
    simp only [ownK] at hn
    exact ownK_nodup (List.nodup_append.mp hn).2.1 (by simpa using h1) (by simpa using h2)
theorem kid_nodup {d : D} {k : Lv} {t : Tr} {i : Nat} {d' : D} {t' : Tr} (n : (own k d t).Nodup) (e : (kidsD d)[i]? = some d') (e' : t.kids[i]? = some t') : (own (lvK k d) d' t').Nodup := by
  cases d with
  | list ds =>
    simp only [Ev.own] at n
    exact owns_nodup (List.nodup_append.mp n).2.1 e e'
  | tuple ds =>
    simp only [Ev.own] at n
    exact owns_nodup n e e'
  | dict kvs =>
    simp only [Ev.own] at n
    exact ownK_nodup (List.nodup_append.mp n).2.1 e e'
  | _ => simp [kidsD] at e
theorem sub_nodup : ∀ {p : List Nat} {k : Lv} {d : D} {t : Tr} {k' : Lv} {d' : D} {t' : Tr}, (own k d t).Nodup → sub k d t p = some (k', d', t') → (own k' d' t').Nodup
  | [], k, d, t, k', d', t', n, e => by
    simp only [sub, Option.some.injEq, Prod.mk.injEq] at e
    obtain ⟨rfl, rfl, rfl⟩ := e
    exact n
  | i :: p, k, d, t, k', d', t', n, e => by
    simp only [sub] at e
    cases q : (kidsD d)[i]? with
    | none => rw [q] at e; cases e
    | some d1 =>
      cases q2 : t.kids[i]? with
      | none => rw [q, q2] at e; cases e
      | some t1 =>
        rw [q, q2] at e
        exact sub_nodup (kid_nodup n q q2) e
theorem sub_subD : ∀ {p : List Nat} {k : Lv} {d : D} {t : Tr} {k' : Lv} {d' : D} {t' : Tr}, sub k d t p = some (k', d', t') → subD k d p = some (k', d')
  | [], k, d, t, k', d', t', e => by
    simp only [sub, Option.some.injEq, Prod.mk.injEq] at e
    obtain ⟨rfl, rfl, rfl⟩ := e
    rfl
  | i :: p, k, d, t, k', d', t', e => by
    simp only [sub] at e
    cases q : (kidsD d)[i]? with
    | none => rw [q] at e; cases e
    | some d1 =>
      cases q2 : t.kids[i]? with
      | none => rw [q, q2] at e; cases e
      | some t1 =>
        rw [q, q2] at e
        simp only [subD, q]
        exact sub_subD e
/-- what a name says -/
theorem look_ok {Z0 H0 Z H : Hp} {σ : L2.St} {ρ : Rho} {ts : List Tr} {τ : List Tm} {i : Nat} {v : BV} (R : Rl X.K Z0 H0 Z H σ ρ ts τ) (e : lookR ρ i = .ok v) :
    v.b = true ∧ ∃ t, σ[i]? = some (some (valOf v.d t)) ∧ Ob X.K Z H v.k v.d t ∧ (own v.k v.d t).Nodup ∧ ∀ a ∈ own v.k v.d t, a ∈ ownR ρ ts := by
  have nr := (List.nodup_append.mp R.nd).1
  unfold lookR at e
  cases q : ρ[i]? with
  | none => rw [q] at e; cases e
  | some s =>
    rw [q] at e
    cases s with
    | em => cases e
    | ex a0 => cases e
    | va k d =>
      cases e
      obtain ⟨t, e1, o, e2⟩ := R.sl i _ q
      exact ⟨rfl, t, e2, o, ownR_nodup nr q e1, ownR_get q e1⟩
    | al j p =>
      obtain ⟨k, d, t, k', d', t', q1, q2, q3, q4⟩ := R.sl i _ q
      have q3' := sub_subD q3
      simp only [q1, q3'] at e
      cases e
      obtain ⟨t2, e1, o, e2⟩ := R.sl j _ q1
      rw [q2] at e1; cases e1
      obtain ⟨t3, e3, o3, h3⟩ := sub_ob o q3'
      rw [q3] at e3; cases e3
      exact ⟨rfl, t', q4, o3, sub_nodup (ownR_nodup nr q1 q2) q3, fun a m => ownR_get q1 q2 a (h3 a m)⟩
theorem se_va {i : Nat} {x : Str} {pos : Pos} (hN : X.N[i]? = some x) (hv : Vis X.env.scope x) (hd : (x == ("__debug__" : Str)) = false) (hcd : (x == ("__classdict__" : Str)) = false) : SE X W (.Name x pos) (xVa i) := by
  intro S Q R g
  refine wE_of (pe_var (i := i) hN hv hd hcd) ?_
  unfold xVa at g
  cases q : lookR S.ρ i with
  | er => rw [q] at g; exact g.elim
  | rz c =>
    exfalso
    unfold lookR at q
    split at q
    · cases q
    · split at q
      · split at q <;> cases q
      · cases q
    · cases q
  | ok v =>
    rw [q] at g
    obtain ⟨hb, t, e, o, m⟩ := look_ok R q
    refine ⟨valOf v.d t, e, g (S.put S.Z S.H (⟨v.b, v.k, v.d, t⟩ :: S.τ)) t (Sta.aft_put Step.refl) rfl ?_ fun hf => ?_⟩
    · exact Rl.push (c := ⟨v.b, v.k, v.d, t⟩) R o (fun _ => m) fun hf => by
        have hf' : v.b = false := hf
        rw [hb] at hf'; cases hf'
    · rw [hb] at hf; cases hf
theorem se_scal {e : Expr} {d : D} (hs : scal d = true) (hp : PE X e (tC (valOf d t0))) : SE X W e (xCn d) := by
  intro S Q R g
  exact wE_of hp (GoodE.scal g hs Step.refl R)
theorem se_int {i : Int} {j pos} : SE X W (.Constant (.int i) j pos) (xCn (.int i)) := se_scal rfl pe_int
theorem se_bl {b : Bool} {j pos} : SE X W (.Constant (.bool b) j pos) (xCn (.bool b)) := se_scal rfl pe_bl
theorem se_non {j pos} : SE X W (.Constant .none j pos) (xCn .none) := se_scal rfl pe_non
theorem se_str {x : Str} {j pos} : SE X W (.Constant (.str x) j pos) (xCn (.str x)) := se_scal rfl pe_str
theorem se_glob {x : Str} {d : D} {u : Value} {pos : Pos} (hs : scal d = true) (hg : Gl X x) (hm : X.mg x = some u) (r : RelV (valOf d t0) u) (hd : (x == ("__debug__" : Str)) = false) : SE X W (.Name x pos) (xCn d) := se_scal hs (pe_glob hg hm r hd)

/-! ### one operand, two operands -/
def x1 (f : BV → Res BV) (a : Rho → Res BV) : Rho → Res BV := fun ρ => (a ρ).bind f
def x2 (f : BV → BV → Res BV) (a b : Rho → Res BV) : Rho → Res BV := fun ρ => (a ρ).bind fun u => (b ρ).bind fun v => f u v
/-- a value's own objects are new since S -/
def Fresh (S : Sta) (v : BV) (t : Tr) : Prop := v.b = false → ∀ a ∈ own v.k v.d t, S.H a = none
theorem GoodE.rz_later {Q : VK} {c : Str} {S1 : Sta} {c1 : Tm} (h : GoodE X W S Q (.rz c)) (a : Aft S S1) (e : S1.τ = c1 :: S.τ) {Q' : VK} : GoodE X W S1 Q' (.rz c) := by
  intro S2 a2 e2 R2
  exact h (S2.put S2.Z S2.H S.τ) ((a.trans a2).put Step.refl) rfl (R2.pop (c := c1) (τ := S.τ) (e2.trans e))
theorem one {a : Expr} {xa : Rho → Res BV} (ha : SE X W a xa) {Q Q' : VK} {f : BV → Res BV} (R : S.R X.K) (g : GoodE X W S Q ((xa S.ρ).bind f))
    (k : ∀ (u : BV) (S1 : Sta) (t : Tr), Aft S S1 → S1.τ = ⟨u.b, u.k, u.d, t⟩ :: S.τ → S1.R X.K → Fresh S u t → GoodE X W S Q (f u) → Q' (valOf u.d t) S1.H) : wE X a S.σ S.H Q' := by
  refine ha S Q' R ?_
  cases q : xa S.ρ with
  | er => rw [q] at g; exact g
  | rz c => rw [q] at g; exact g
  | ok u =>
    rw [q] at g
    exact fun S1 t a1 e1 R1 f1 => k u S1 t a1 e1 R1 f1 g
theorem two {a b : Expr} {xa xb : Rho → Res BV} (ha : SE X W a xa) (hb : SE X W b xb) {Q : VK} {R' : V → V → Hp → Prop} {f : BV → BV → Res BV} (R : S.R X.K) (g : GoodE X W S Q (x2 f xa xb S.ρ))
    (k : ∀ (u v : BV) (S2 : Sta) (t t' : Tr), Aft S S2 → S2.τ = ⟨v.b, v.k, v.d, t'⟩ :: ⟨u.b, u.k, u.d, t⟩ :: S.τ → S2.R X.K → Fresh S u t → Fresh S v t' → GoodE X W S Q (f u v) → R' (valOf u.d t) (valOf v.d t') S2.H) :
    wE X a S.σ S.H (fun x H1 => wE X b S.σ H1 fun y H2 => R' x y H2) := by
  refine one ha R g fun u S1 t a1 e1 R1 f1 g1 => ?_
  have z : wE X b S1.σ S1.H fun y H2 => R' (valOf u.d t) y H2 := by
    refine hb S1 _ R1 ?_
    rw [a1.ρ]
    cases q : xb S.ρ with
    | er => rw [q] at g1; exact g1
    | rz c =>
      rw [q] at g1
      exact GoodE.rz_later (c := c) g1 a1 e1
    | ok v =>
      rw [q] at g1
      intro S2 t' a2 e2 R2 f2
      exact k u v S2 t t' (a1.trans a2) (by rw [e2, e1]) R2 f1 (fun hv x m => a1.st.hh.free (f2 hv x m)) g1
  rw [a1.σ] at z
  exact z
/-- an operation on two values is as g says -/
def OpS (X : Cx) (W : WX) (f : Value → Value → Sem Value) (g : BV → BV → Res BV) : Prop :=
  ∀ (S : Sta) (Q : VK) (u v : BV) (S2 : Sta) (t t' : Tr), S.R X.K → Aft S S2 → S2.τ = ⟨v.b, v.k, v.d, t'⟩ :: ⟨u.b, u.k, u.d, t⟩ :: S.τ → S2.R X.K → Fresh S u t → Fresh S v t' → GoodE X W S Q (g u v) →
    wO X f (valOf u.d t) (valOf v.d t') S2.H Q
theorem se_bin {o : Operator} {a b : Expr} {pos : Pos} {g : BV → BV → Res BV} {xa xb : Rho → Res BV} (ho : OpS X W (binaryOp o) g) (ha : SE X W a xa) (hb : SE X W b xb) : SE X W (.BinOp a o b pos) (x2 g xa xb) := by
  intro S Q R h
  exact wE_of (pe_op opR_w pe_w pe_w) (two ha hb R h fun u v S2 t t' a2 e2 R2 f1 f2 g2 => ho S Q u v S2 t t' R a2 e2 R2 f1 f2 g2)
theorem se_cmp {o : CmpOp} {a b : Expr} {pos : Pos} {g : BV → BV → Res BV} {xa xb : Rho → Res BV} (ho : OpS X W (compareOp o) g) (hm : behindInMarks o b = false) (ha : SE X W a xa) (hb : SE X W b xb) : SE X W (.Compare a [o] [b] pos) (x2 g xa xb) := by
  intro S Q R h
  exact wE_of (pe_cmpR opR_w pe_w pe_w hm) (two ha hb R h fun u v S2 t t' a2 e2 R2 f1 f2 g2 => ho S Q u v S2 t t' R a2 e2 R2 f1 f2 g2)
/-- an operation with a plain result -/
theorem OpS.scal {f : Value → Value → Sem Value} {g : D → D → Res D} (h : ∀ d e r, g d e = .ok r → scal r = true) (hz : ∀ d e c, g d e ≠ .rz c)
    (ho : ∀ (d e r : D) (t t' : Tr) (Z H : Hp) (k k' : Lv) (Q : VK), g d e = .ok r → Same Z H → Ob X.K Z H k d t → Ob X.K Z H k' e t' → Q (valOf r t0) H → wO X f (valOf d t) (valOf e t') H Q) :
    OpS X W f (fun u v => (g u.d v.d).bind fun d => .ok ⟨false, none, d⟩) := by
  intro S Q u v S2 t t' R a2 e2 R2 f1 f2 g2
  have g2 : GoodE X W S Q ((g u.d v.d).bind fun d => .ok ⟨false, none, d⟩) := g2
  cases q : g u.d v.d with
  | er => rw [q] at g2; exact g2.elim
  | rz c => exact absurd q (hz _ _ _)
  | ok r =>
    rw [q] at g2
    have R2' : Rl X.K S2.Z0 S2.H0 S2.Z S2.H S2.σ S2.ρ S2.ts S2.τ := R2
    have m1 := (R2'.tm ⟨v.b, v.k, v.d, t'⟩ (by rw [e2]; exact List.mem_cons_self)).1
    have m2 := (R2'.tm ⟨u.b, u.k, u.d, t⟩ (by rw [e2]; exact List.mem_cons_of_mem _ List.mem_cons_self)).1
    refine ho u.d v.d r t t' S2.Z S2.H u.k v.k Q q R2'.zh m2 m1 ?_
    have R3 := R2.pop2 (X := X) e2
    have e : S2.put S2.Z S2.H S.τ = S.put S2.Z S2.H S.τ := by
      obtain ⟨a, b, c, d, e, _⟩ := a2
      cases S; cases S2
      simp only [Sta.put] at *
      subst a; subst b; subst c; subst d; subst e
      rfl
    rw [e] at R3
    exact GoodE.scal g2 (h _ _ _ q) a2.st R3
end
end Ev

set_option Elab.async false
set_option linter.all false
set_option maxRecDepth 100000
namespace Ev
open PySem PySem.Spec PyProof.Rows L2

section
variable {K : PySem.W.Frag} {Z0 H0 Z H : Hp} {σ : L2.St} {ρ : Rho} {ts : List Tr} {τ cs : List Tm}
theorem ownT_app : ∀ (a b : List Tm), ownT (a ++ b) = ownT a ++ ownT b
  | [], b => rfl
  | c :: a, b => by simp only [List.cons_append, ownT, ownT_app a b, List.append_assoc]
/-- values under way are bound together in a new object -/
theorem Rl.wrap (R : Rl K Z0 H0 Z H σ ρ ts (cs ++ τ)) {Z' : Hp} {p : Addr} {o : HO} {k : Lv} {d : D} {t : Tr} (hp : H p = none) (hz : Z' = Z ∨ Z' = upd Z p o)
    (ob : Ob K Z' (upd H p o) k d t) (hd : (own k d t).Nodup) (hs : ∀ a ∈ own k d t, (a = p ∧ Z' = Z) ∨ a ∈ ownT cs) : Rl K Z0 H0 Z' (upd H p o) σ ρ ts (⟨false, k, d, t⟩ :: τ) := by
  have zp : Z p = none := R.zh.free hp
  have hh : Same H (upd H p o) := fun b u e => by rw [upd_ne (ne_of_none e hp)]; exact e
  have zz : Same Z Z' := fun b u e => by
    rcases hz with h | h
    · rw [h]; exact e
    · rw [h, upd_ne (ne_of_none e zp)]; exact e
  have st : Step Z H Z' (upd H p o) := ⟨zz, hh, fun a u e => by
    rcases hz with h | h
    · rw [h] at e; exact .inl e
    · rw [h] at e
      by_cases q : a = p
      · subst q; exact .inr hp
      · rw [upd_ne q] at e; exact .inl e⟩
  have zh : Same Z' (upd H p o) := fun b u e => by
    rcases hz with h | h
    · rw [h] at e; exact hh _ _ (R.zh _ _ e)
    · rw [h] at e
      by_cases q : b = p
      · subst q; rw [upd_same] at e ⊢; exact e
      · rw [upd_ne q] at e ⊢; exact R.zh _ _ e
  have n := R.nd
  rw [ownT_app, ← List.append_assoc] at n
  obtain ⟨n1, n2, n3⟩ := List.nodup_append.mp n
  obtain ⟨n4, n5, n6⟩ := List.nodup_append.mp n1
  have R2 : Rl K Z0 H0 Z H σ ρ ts τ := R.perm (fun c h => List.mem_append_right _ h) n2
  have R1 : Rl K Z0 H0 Z' (upd H p o) σ ρ ts τ := R2.step st zh
  refine R1.push ob (fun h => nomatch h) fun _ => ⟨hd, fun a m => ?_, fun a m => ?_⟩
  · rcases hs a m with ⟨e, _⟩ | h
    · subst e
      intro z
      obtain ⟨_, u, e, _⟩ := R2.own_z _ z
      rw [hp] at e; cases e
    · intro z
      rcases List.mem_append.mp z with z | z
      · exact n6 a z a h rfl
      · exact n3 a (List.mem_append_right _ h) a z rfl
  · rcases hs a m with ⟨e, _⟩ | h
    · subst e
      exact R2.h0.free hp
    · exact R.o0 a (List.mem_append_right _ (by rw [ownT_app]; exact List.mem_append_left _ h))
def frzZ (Z H : Hp) (A : List Addr) : Hp := fun a => if a ∈ A then H a else Z a
/-- a value under way is shared from here on -/
theorem Rl.frz {c : Tm} (R : Rl K Z0 H0 Z H σ ρ ts (cs ++ c :: τ)) (hb : c.b = false) : Rl K Z0 H0 (frzZ Z H (own c.k c.d c.t)) H σ ρ ts (cs ++ ⟨false, some 0, c.d, c.t⟩ :: τ) := by
  have hc : c ∈ cs ++ c :: τ := List.mem_append_right _ List.mem_cons_self
  have e1 : ownT (cs ++ c :: τ) = ownT cs ++ (own c.k c.d c.t ++ ownT τ) := by rw [ownT_app]; simp [ownT, hb]
  have e2 : ownT (cs ++ ⟨false, some 0, c.d, c.t⟩ :: τ) = ownT cs ++ ownT τ := by rw [ownT_app]; simp [ownT, own_zero]
  have n := R.nd
  rw [e1] at n
  have oz : ∀ a ∈ own c.k c.d c.t, Z a = none ∧ ∃ o, H a = some o := fun a m => by
    obtain ⟨z, o, h, _⟩ := Ob.own c.d c.k c.t (R.tm c hc).1 a m
    exact ⟨z, o, h⟩
  have zz : Same Z (frzZ Z H (own c.k c.d c.t)) := fun b o e => by
    unfold frzZ
    split
    · rename_i h
      rw [(oz b h).1] at e; cases e
    · exact e
  have off : ∀ a, a ∈ ownR ρ ts ++ (ownT cs ++ ownT τ) → a ∉ own c.k c.d c.t := fun a m h => by
    have c1 : ownR ρ ts ++ (ownT cs ++ (own c.k c.d c.t ++ ownT τ)) = (ownR ρ ts ++ ownT cs) ++ (own c.k c.d c.t ++ ownT τ) := by simp [List.append_assoc]
    rw [c1] at n
    obtain ⟨m1, m2, m3⟩ := List.nodup_append.mp n
    obtain ⟨m4, m5, m6⟩ := List.nodup_append.mp m2
    rcases List.mem_append.mp m with m | m
    · exact m3 a (List.mem_append_left _ m) a (List.mem_append_left _ h) rfl
    · rcases List.mem_append.mp m with m | m
      · exact m3 a (List.mem_append_right _ m) a (List.mem_append_left _ h) rfl
      · exact m6 a h a m rfl
  have keep : ∀ a, a ∈ ownR ρ ts ++ (ownT cs ++ ownT τ) → frzZ Z H (own c.k c.d c.t) a = none := fun a m => by
    unfold frzZ
    rw [if_neg (off a m)]
    refine (R.own_z a ?_).1
    rw [e1]
    rcases List.mem_append.mp m with m | m
    · exact List.mem_append_left _ m
    · rcases List.mem_append.mp m with m | m
      · exact List.mem_append_right _ (List.mem_append_left _ m)
      · exact List.mem_append_right _ (List.mem_append_right _ (List.mem_append_right _ m))
  refine ⟨fun b o e => ?_, R.h0, R.z0.trans zz, fun a o e => ?_, R.lr, R.lt, fun i s e => (R.sl i s e).ext e zz (fun a m => keep a (List.mem_append_left _ m)) (fun _ _ _ q => q), fun e he => ?_, ?_, fun a m => ?_⟩
  · unfold frzZ at e
    split at e
    · exact e
    · exact R.zh _ _ e
  · unfold frzZ at e
    split at e
    · rename_i h
      exact .inr (R.o0 a (by rw [e1]; exact List.mem_append_right _ (List.mem_append_right _ (List.mem_append_left _ h))))
    · exact R.zn a o e
  · have other : ∀ e : Tm, e ∈ cs ∨ e ∈ τ → Ob K (frzZ Z H (own c.k c.d c.t)) H e.k e.d e.t ∧ (e.b = true → (own e.k e.d e.t).Nodup ∧ ∀ a ∈ own e.k e.d e.t, a ∈ ownR ρ ts) := fun e he => by
      have hm : e ∈ cs ++ c :: τ := he.elim (fun h => List.mem_append_left _ h) fun h => List.mem_append_right _ (List.mem_cons_of_mem _ h)
      obtain ⟨o, hbr⟩ := R.tm e hm
      refine ⟨Ob.ext zz _ _ _ o (fun a m => keep a ?_) (fun _ _ _ q => q), hbr⟩
      cases q : e.b with
      | true => exact List.mem_append_left _ ((hbr q).2 a m)
      | false =>
        rcases he with h | h
        · exact List.mem_append_right _ (List.mem_append_left _ (ownT_mem h q a m))
        · exact List.mem_append_right _ (List.mem_append_right _ (ownT_mem h q a m))
    rcases List.mem_append.mp he with h | h
    · exact other e (.inl h)
    · rcases List.mem_cons.mp h with h | h
      · subst h
        refine ⟨Ob.freeze zz _ _ _ (R.tm c hc).1 fun a m => ?_, fun z => nomatch z⟩
        unfold frzZ
        rw [if_pos m]
      · exact other e (.inr h)
  · rw [e2]
    have c1 : ownR ρ ts ++ (ownT cs ++ (own c.k c.d c.t ++ ownT τ)) = (ownR ρ ts ++ ownT cs) ++ (own c.k c.d c.t ++ ownT τ) := by simp [List.append_assoc]
    rw [c1] at n
    obtain ⟨m1, m2, m3⟩ := List.nodup_append.mp n
    obtain ⟨m4, m5, m6⟩ := List.nodup_append.mp m2
    rw [← List.append_assoc]
    exact List.nodup_append.mpr ⟨m1, m5, fun a ha b hb' => m3 a ha b (List.mem_append_right _ hb')⟩
  · rw [e2] at m
    refine R.o0 a ?_
    rw [e1]
    rcases List.mem_append.mp m with m | m
    · exact List.mem_append_left _ m
    · rcases List.mem_append.mp m with m | m
      · exact List.mem_append_right _ (List.mem_append_left _ m)
      · exact List.mem_append_right _ (List.mem_append_right _ (List.mem_append_right _ m))
theorem frz_step {A : List Addr} {Zs Hs : Hp} (s : Step Zs Hs Z H) (hA : ∀ a ∈ A, Hs a = none) (hz : ∀ a ∈ A, Z a = none) : Step Zs Hs (frzZ Z H A) H := by
  refine ⟨fun b o e => ?_, s.hh, fun a o e => ?_⟩
  · unfold frzZ
    split
    · rename_i h
      have z := hz b h
      rw [s.zz _ _ e] at z; cases z
    · exact s.zz _ _ e
  · unfold frzZ at e
    split at e
    · rename_i h
      exact .inr (hA a h)
    · exact s.zn a o e
end

/-! ### plain operations -/
def dAdd : D → D → Res D
  | .int i, .int j => .ok (.int (i + j))
  | .str x, .str y => if x.length + y.length ≤ sizeLine then .ok (.str (x ++ y)) else .er
  | _, _ => .er
def dSub : D → D → Res D
  | .int i, .int j => .ok (.int (i - j))
  | _, _ => .er
def dMul : D → D → Res D
  | .int i, .int j => if i.natAbs.log2 + j.natAbs.log2 < 1000000 then .ok (.int (i * j)) else .er
  | _, _ => .er
def dDiv : D → D → Res D
  | .int i, .int j => if j ≠ 0 ∧ j.natAbs.log2 < 9000 then .ok (.int (i.fdiv j)) else .er
  | _, _ => .er
def dMod : D → D → Res D
  | .int i, .int j => if j ≠ 0 then .ok (.int (i.fmod j)) else .er
  | _, _ => .er
def dPow : D → D → Res D
  | .int i, .int j => if 0 ≤ j ∧ j ≤ 1000000 ∧ i.natAbs < 2 ^ 64 then .ok (.int (i ^ j.toNat)) else .er
  | _, _ => .er
def dAnd : D → D → Res D
  | .int i, .int j => .ok (.int (Builtin.bitAnd i j))
  | _, _ => .er
def dShr : D → D → Res D
  | .int i, .int j => if 0 ≤ j then .ok (.int (i / 2 ^ j.toNat)) else .er
  | _, _ => .er
def dCmp (f : Int → Int → Bool) : D → D → Res D
  | .int i, .int j => .ok (.bool (f i j))
  | _, _ => .er
abbrev dLt : D → D → Res D := dCmp fun i j => decide (i < j)
abbrev dLe : D → D → Res D := dCmp fun i j => decide (i ≤ j)
abbrev dGt : D → D → Res D := dCmp fun i j => decide (j < i)
abbrev dGe : D → D → Res D := dCmp fun i j => decide (j ≤ i)
def dEq (d e : D) : Res D := if SeqAt.shaped d = true ∧ SeqAt.shaped e = true then .ok (.bool (PyData.eqv d e)) else .er
def dNe (d e : D) : Res D := if SeqAt.shaped d = true ∧ SeqAt.shaped e = true then .ok (.bool (!PyData.eqv d e)) else .er
def isNon : D → Bool
  | .none => true
  | _ => false
def dIs : D → D → Res D
  | d, .none => .ok (.bool (isNon d))
  | _, _ => .er
def dIsNot : D → D → Res D
  | d, .none => .ok (.bool (!isNon d))
  | _, _ => .er
/-- an item among plain items -/
def flatI : D → Bool
  | .none => true
  | .bool _ => true
  | .int _ => true
  | .str _ => true
  | _ => false
def dInL (neg : Bool) (d : D) (ds : List D) : Res D := if flatI d = true ∧ ds.all flatI = true then .ok (.bool ((ds.any fun y => PyData.eqv y d) != neg)) else .er
def dIn (neg : Bool) : D → D → Res D
  | d, .list ds => dInL neg d ds
  | d, .tuple ds => dInL neg d ds
  | _, _ => .er
/-- the plain operation as one on values -/
def pl (g : D → D → Res D) : BV → BV → Res BV := fun u v => (g u.d v.d).bind fun d => .ok ⟨false, none, d⟩
section
variable {X : Cx} {W : WX}
theorem valOf_int (i : Int) (t : Tr) : valOf (.int i) t = .int i := by cases t; rfl
theorem op_fdivV : OpR X (binaryOp .FloorDiv) (rI (fun _ j => j ≠ 0 ∧ j.natAbs.log2 < 9000) fun i j => .int (i.fdiv j)) := opI fun i j _ _ _ _ _ hc q => by
  exact floordiv_int hc.1 q (.inl (PyProof.noPylong_of_log2 hc.2))
theorem OpS.int {f : Value → Value → Sem Value} {g : D → D → Res D} {C : Int → Int → Prop} {h : Int → Int → V} (ho : OpR X f (rI C h))
    (hg : ∀ d e r, g d e = .ok r → ∃ i j, d = .int i ∧ e = .int j ∧ C i j ∧ Ev.scal r = true ∧ valOf r t0 = h i j) (hz : ∀ d e c, g d e ≠ .rz c) : OpS X W f (pl g) := by
  refine OpS.scal (fun d e r q => ?_) hz fun d e r t t' Z H k k' Q q zh o1 o2 hq => ?_
  · obtain ⟨_, _, _, _, _, h, _⟩ := hg d e r q
    exact h
  · obtain ⟨i, j, rfl, rfl, c, _, e⟩ := hg d e r q
    rw [e] at hq
    exact wO_of ho ⟨i, j, rfl, rfl, c, hq⟩
theorem ops_sub : OpS X W (binaryOp .Sub) (pl dSub) := by
  refine OpS.int (C := fun _ _ => True) (h := fun i j => .int (i - j)) (fun pins s σ H x y v u Q I rx ry ⟨i, j, e1, e2, _, q⟩ => op_sub pins s σ H x y v u Q I rx ry ⟨i, j, e1, e2, q⟩) (fun d e r q => ?_) fun d e c q => ?_
  · cases d <;> cases e <;> first | cases q | skip
    exact ⟨_, _, rfl, rfl, trivial, rfl, rfl⟩
  · cases d <;> cases e <;> cases q
theorem ops_mul : OpS X W (binaryOp .Mult) (pl dMul) := by
  refine OpS.int op_mulW (fun d e r q => ?_) fun d e c q => ?_
  · cases d <;> cases e <;> first | (cases q; done) | skip
    simp only [dMul] at q
    split at q
    · rename_i h
      cases q
      exact ⟨_, _, rfl, rfl, h, rfl, rfl⟩
    · cases q
  · cases d <;> cases e <;> first | (cases q; done) | skip
    simp only [dMul] at q
    split at q <;> cases q
theorem ops_div : OpS X W (binaryOp .FloorDiv) (pl dDiv) := by
  refine OpS.int op_fdivV (fun d e r q => ?_) fun d e c q => ?_
  · cases d <;> cases e <;> first | (cases q; done) | skip
    simp only [dDiv] at q
    split at q
    · rename_i h
      cases q
      exact ⟨_, _, rfl, rfl, h, rfl, rfl⟩
    · cases q
  · cases d <;> cases e <;> first | (cases q; done) | skip
    simp only [dDiv] at q
    split at q <;> cases q
theorem ops_mod : OpS X W (binaryOp .Mod) (pl dMod) := by
  refine OpS.int op_modN (fun d e r q => ?_) fun d e c q => ?_
  · cases d <;> cases e <;> first | (cases q; done) | skip
    simp only [dMod] at q
    split at q
    · rename_i h
      cases q
      exact ⟨_, _, rfl, rfl, h, rfl, rfl⟩
    · cases q
  · cases d <;> cases e <;> first | (cases q; done) | skip
    simp only [dMod] at q
    split at q <;> cases q
theorem ops_pow : OpS X W (binaryOp .Pow) (pl dPow) := by
  refine OpS.int op_pow (fun d e r q => ?_) fun d e c q => ?_
  · cases d <;> cases e <;> first | (cases q; done) | skip
    simp only [dPow] at q
    split at q
    · rename_i h
      cases q
      exact ⟨_, _, rfl, rfl, h, rfl, rfl⟩
    · cases q
  · cases d <;> cases e <;> first | (cases q; done) | skip
    simp only [dPow] at q
    split at q <;> cases q
theorem ops_shr : OpS X W (binaryOp .RShift) (pl dShr) := by
  refine OpS.int op_shr (fun d e r q => ?_) fun d e c q => ?_
  · cases d <;> cases e <;> first | (cases q; done) | skip
    simp only [dShr] at q
    split at q
    · rename_i h
      cases q
      exact ⟨_, _, rfl, rfl, h, rfl, rfl⟩
    · cases q
  · cases d <;> cases e <;> first | (cases q; done) | skip
    simp only [dShr] at q
    split at q <;> cases q
theorem ops_and : OpS X W (binaryOp .BitAnd) (pl dAnd) := by
  refine OpS.int (C := fun _ _ => True) (h := fun i j => .int (Builtin.bitAnd i j)) (fun pins s σ H x y v u Q I rx ry ⟨i, j, e1, e2, _, q⟩ => op_and pins s σ H x y v u Q I rx ry ⟨i, j, e1, e2, q⟩) (fun d e r q => ?_) fun d e c q => ?_
  · cases d <;> cases e <;> first | cases q | skip
    exact ⟨_, _, rfl, rfl, trivial, rfl, rfl⟩
  · cases d <;> cases e <;> cases q
theorem ops_cmp {f : Value → Value → Sem Value} {p : Int → Int → Bool} (ho : OpR X f (rI0 fun i j => .bl (p i j))) : OpS X W f (pl (dCmp p)) := by
  refine OpS.int (C := fun _ _ => True) (h := fun i j => .bl (p i j)) (fun pins s σ H x y v u Q I rx ry ⟨i, j, e1, e2, _, q⟩ => ho pins s σ H x y v u Q I rx ry ⟨i, j, e1, e2, q⟩) (fun d e r q => ?_) fun d e c q => ?_
  · cases d <;> cases e <;> first | cases q | skip
    exact ⟨_, _, rfl, rfl, trivial, rfl, rfl⟩
  · cases d <;> cases e <;> cases q
theorem ops_lt : OpS X W (compareOp .Lt) (pl dLt) := ops_cmp op_lt
theorem ops_le : OpS X W (compareOp .LtE) (pl dLe) := ops_cmp op_le
theorem ops_gt : OpS X W (compareOp .Gt) (pl dGt) := ops_cmp op_gt
theorem ops_ge : OpS X W (compareOp .GtE) (pl dGe) := ops_cmp op_ge
theorem ops_add : OpS X W (binaryOp .Add) (pl dAdd) := by
  refine OpS.scal (fun d e r q => ?_) (fun d e c q => ?_) fun d e r t t' Z H k k' Q q zh o1 o2 hq => ?_
  · cases d <;> cases e <;> first | (cases q; done) | skip
    · cases q; rfl
    · simp only [dAdd] at q
      split at q
      · cases q; rfl
      · cases q
  · cases d <;> cases e <;> first | (cases q; done) | skip
    simp only [dAdd] at q
    split at q <;> cases q
  · cases d <;> cases e <;> first | (cases q; done) | skip
    · cases q
      exact wO_of op_add ⟨_, _, rfl, rfl, hq⟩
    · simp only [dAdd] at q
      split at q
      · rename_i h
        cases q
        exact wO_of op_add_str ⟨_, _, rfl, rfl, h, hq⟩
      · cases q
theorem ob_dp {K : PySem.W.Frag} {Z H : Hp} {k : Lv} {d : D} {t : Tr} (zh : Same Z H) (o : Ob K Z H k d t) (s : SeqAt.shaped d = true) : Dp K H (valOf d t) d := by
  refine Ob.dp zh d k t ?_ o
  unfold SeqAt.shaped at s
  rw [Bool.and_eq_true] at s
  exact PyData.hasDict_of_canLay d s.1
theorem ops_eq (hu : X.A.units + 64 < cLine) : OpS X W (compareOp .Eq) (pl dEq) := by
  refine OpS.scal (fun d e r q => ?_) (fun d e c q => ?_) fun d e r t t' Z H k k' Q q zh o1 o2 hq => ?_
  · unfold dEq at q
    split at q <;> cases q
    rfl
  · unfold dEq at q
    split at q <;> cases q
  · unfold dEq at q
    split at q
    · rename_i h
      cases q
      exact wO_of (op_eqD hu) ⟨d, e, ob_dp zh o1 h.1, ob_dp zh o2 h.2, h.1, h.2, hq⟩
    · cases q
theorem ops_ne (hu : X.A.units + 64 < cLine) : OpS X W (compareOp .NotEq) (pl dNe) := by
  refine OpS.scal (fun d e r q => ?_) (fun d e c q => ?_) fun d e r t t' Z H k k' Q q zh o1 o2 hq => ?_
  · unfold dNe at q
    split at q <;> cases q
    rfl
  · unfold dNe at q
    split at q <;> cases q
  · unfold dNe at q
    split at q
    · rename_i h
      cases q
      exact wO_of (op_neD hu) ⟨d, e, ob_dp zh o1 h.1, ob_dp zh o2 h.2, h.1, h.2, hq⟩
    · cases q
theorem val_non {d : D} {t : Tr} : decide (valOf d t = .non) = isNon d := by
  cases d <;> simp [valOf, isNon]
theorem ops_is : OpS X W (compareOp .Is) (pl dIs) := by
  refine OpS.scal (fun d e r q => ?_) (fun d e c q => ?_) fun d e r t t' Z H k k' Q q zh o1 o2 hq => ?_
  · cases e <;> cases q; rfl
  · cases e <;> cases q
  · cases e <;> cases q
    refine wO_of op_isN ⟨rfl, ?_⟩
    rw [val_non]
    exact hq
theorem ops_isNot : OpS X W (compareOp .IsNot) (pl dIsNot) := by
  refine OpS.scal (fun d e r q => ?_) (fun d e c q => ?_) fun d e r t t' Z H k k' Q q zh o1 o2 hq => ?_
  · cases e <;> cases q; rfl
  · cases e <;> cases q
  · cases e <;> cases q
    refine wO_of op_notN ⟨rfl, ?_⟩
    rw [val_non]
    exact hq
theorem flatI_val {d : D} (t : Tr) (h : flatI d = true) : flatV (valOf d t) = true := by
  cases d <;> first | rfl | exact Bool.noConfusion h
theorem flatI_vals : ∀ {ds : List D} {ts : List Tr}, ds.all flatI = true → (valsOf ds ts).all flatV = true
  | [], _, _ => by simp [valsOf]
  | _ :: _, [], _ => by simp [valsOf]
  | d :: ds, t :: ts, h => by
    simp only [List.all_cons, Bool.and_eq_true] at h
    simp only [valsOf, List.all_cons, Bool.and_eq_true]
    exact ⟨flatI_val t h.1, flatI_vals h.2⟩
theorem eqV_eqv {d e : D} (t t' : Tr) (h : flatI d = true) (h' : flatI e = true) : eqV (valOf d t) (valOf e t') = PyData.eqv d e := by
  cases d <;> cases e <;> first | (exact Bool.noConfusion h) | (exact Bool.noConfusion h') | (simp only [valOf, PyData.eqv]; rfl) | skip
  all_goals (simp only [valOf, PyData.eqv]; unfold eqV; first | rfl | skip)
theorem inV_any {d : D} {t : Tr} (h : flatI d = true) : ∀ {ds : List D} {ts : List Tr}, ds.length = ts.length → ds.all flatI = true → inV (valOf d t) (valsOf ds ts) = ds.any fun y => PyData.eqv y d
  | [], _, _, _ => by simp [valsOf, inV]
  | _ :: _, [], e, _ => by simp at e
  | x :: ds, y :: ts, e, hs => by
    simp only [List.all_cons, Bool.and_eq_true] at hs
    have ih := inV_any (d := d) (t := t) h (ds := ds) (ts := ts) (by simpa using e) hs.2
    unfold inV at ih ⊢
    simp only [valsOf, List.any_cons, eqV_eqv y t hs.1 h, ih]
theorem ops_in (neg : Bool) : OpS X W (compareOp (if neg then .NotIn else .In)) (pl (dIn neg)) := by
  refine OpS.scal (fun d e r q => ?_) (fun d e c q => ?_) fun d e r t t' Z H k k' Q q zh o1 o2 hq => ?_
  · cases e <;> first | (cases q; done) | skip
    all_goals
      simp only [dIn, dInL] at q
      split at q <;> cases q
      rfl
  · cases e <;> first | (cases q; done) | skip
    all_goals
      simp only [dIn, dInL] at q
      split at q <;> cases q
  · have go : ∀ (ds : List D) (ts : List Tr) (p : Addr), (SqL X.K H p (valsOf ds ts) ∨ SqT X.K H p (valsOf ds ts)) → ds.length = ts.length → dInL neg d ds = .ok r → wO X (compareOp (if neg then .NotIn else .In)) (valOf d t) (.ref p) H Q := fun ds ts p hp hl q => by
      unfold dInL at q
      split at q
      · rename_i h
        cases q
        cases neg with
        | false =>
          refine wO_of op_in_seq ⟨p, _, rfl, hp, flatI_val t h.1, flatI_vals h.2, ?_⟩
          rw [inV_any h.1 hl h.2]
          simpa [valOf] using hq
        | true =>
          refine wO_of op_notIn_seq ⟨p, _, rfl, hp, flatI_val t h.1, flatI_vals h.2, ?_⟩
          rw [inV_any h.1 hl h.2]
          simpa [valOf] using hq
      · cases q
    cases e <;> first | (cases q; done) | skip
    · simp only [Ob] at o2
      exact go _ _ _ (.inl (o2.1.sq zh)) o2.2.len q
    · simp only [Ob] at o2
      exact go _ _ _ (.inr (Same.sqT zh o2.1)) o2.2.len q
end
end Ev

set_option Elab.async false
set_option linter.all false
set_option maxRecDepth 100000
namespace Ev
open PySem PySem.Spec PyProof.Rows L2

/-! ### truth -/
def truth : D → Res Bool
  | .none => .ok false
  | .bool b => .ok b
  | .int i => .ok (i != 0)
  | .str x => if x.length ≤ sizeLine then .ok ((x.length : Int) != 0) else .er
  | .list ds => .ok (!ds.isEmpty)
  | .tuple ds => .ok (!ds.isEmpty)
  | .dict kvs => .ok (!kvs.isEmpty)
theorem truth_rz {d : D} {c : Str} : truth d ≠ .rz c := by
  intro h
  cases d <;> first | (cases h; done) | skip
  simp only [truth] at h
  split at h <;> cases h
theorem vals_empty {K : PySem.W.Frag} {Z H : Hp} : ∀ {ds : List D} {k : Lv} {ts : List Tr}, Obs K Z H k ds ts → (valsOf ds ts).isEmpty = ds.isEmpty
  | [], _, ts, _ => by cases ts <;> rfl
  | d :: ds, _, t :: ts, _ => rfl
  | _ :: _, _, [], h => by simp only [Obs] at h
theorem dvals_empty {K : PySem.W.Frag} {Z H : Hp} : ∀ {ds : List (D × D)} {k : Lv} {ts : List Tr}, ObK K Z H k ds ts → (dvals ds ts).isEmpty = ds.isEmpty
  | [], _, ts, _ => by cases ts <;> rfl
  | d :: ds, _, t :: ts, _ => rfl
  | (_, _) :: _, _, [], h => by simp only [ObK] at h
theorem truth_ok {K : PySem.W.Frag} {Z H : Hp} {d : D} {k : Lv} {t : Tr} {b : Bool} (zh : Same Z H) (o : Ob K Z H k d t) (h : truth d = .ok b) : TruV K (valOf d t) H b := by
  cases d with
  | none => cases h; rfl
  | bool c => cases h; rfl
  | int i => cases h; rfl
  | str x =>
    simp only [truth] at h
    split at h
    · rename_i hx
      cases h
      exact ⟨hx, rfl⟩
    · cases h
  | list ds =>
    simp only [Ob] at o
    cases h
    exact .inl ⟨_, o.1.sq zh, by rw [vals_empty o.2]⟩
  | tuple ds =>
    simp only [Ob] at o
    cases h
    exact .inr (.inl ⟨_, Same.sqT zh o.1, by rw [vals_empty o.2]⟩)
  | dict kvs =>
    simp only [Ob] at o
    cases h
    exact .inr (.inr ⟨_, o.1.rd zh, by rw [dvals_empty o.2]⟩)
/-- a plain value's bool -/
def theB : D → Res Bool
  | .bool b => .ok b
  | _ => .er

section
variable {X : Cx} {W : WX} {S : Sta}
theorem Sta.R.tm1 {c : Tm} {τ : List Tm} (R : S.R X.K) (e : S.τ = c :: τ) : Ob X.K S.Z S.H c.k c.d c.t ∧ Same S.Z S.H := by
  have R' : Rl X.K S.Z0 S.H0 S.Z S.H S.σ S.ρ S.ts S.τ := R
  exact ⟨(R'.tm c (by rw [e]; exact List.mem_cons_self)).1, R'.zh⟩
/-- back to the values under way of S -/
theorem Aft.back {S' : Sta} (a : Aft S S') : S'.put S'.Z S'.H S.τ = S.put S'.Z S'.H S.τ := by
  obtain ⟨h1, h2, h3, h4, h5, _⟩ := a
  cases S; cases S'
  simp only [Sta.put] at *
  subst h1; subst h2; subst h3; subst h4; subst h5
  rfl
theorem GoodT.end1 {Q : Bool → Hp → Prop} {b : Bool} {S' : Sta} {c : Tm} (g : GoodT X W S Q (.ok b)) (a : Aft S S') (e : S'.τ = c :: S.τ) (R : S'.R X.K) : Q b S'.H :=
  g (S'.put S'.Z S'.H S.τ) (a.put Step.refl) rfl (R.pop (X := X) e)
/-- a test of a value -/
def xTru (a : Rho → Res BV) : Rho → Res Bool := fun ρ => (a ρ).bind fun v => truth v.d
theorem st_val {e : Expr} {x : Rho → Res BV} (h : SE X W e x) (he : ∀ whole, isTrue e X.env whole = (do let v ← whole; standAt e.pos; holding [v] (truthy v))) : STs X W e (xTru x) := by
  intro S Q R g
  refine wT_of (pt_truth pe_w he) ?_
  refine h S _ R ?_
  unfold xTru at g
  cases q : x S.ρ with
  | er => rw [q] at g; exact g
  | rz c => rw [q] at g; exact g
  | ok v =>
    rw [q] at g
    have g : GoodT X W S Q (truth v.d) := g
    intro S1 t a1 e1 R1 f1
    cases q1 : truth v.d with
    | er => rw [q1] at g; exact g.elim
    | rz c => exact absurd q1 truth_rz
    | ok b =>
      rw [q1] at g
      obtain ⟨o, zh⟩ := R1.tm1 e1
      exact ⟨b, truth_ok zh o q1, g.end1 a1 e1 R1⟩
def xTb (a : Rho → Res BV) : Rho → Res Bool := fun ρ => (a ρ).bind fun v => theB v.d
/-- a bool as a test -/
theorem tb_go {e : Expr} {x : Rho → Res BV} (h : SE X W e x) {Q : Bool → Hp → Prop} (R : S.R X.K) (g : GoodT X W S Q (xTb x S.ρ)) : wE X e S.σ S.H fun v H' => ∃ k, v = .bl k ∧ Q k H' := by
  refine h S _ R ?_
  unfold xTb at g
  cases q : x S.ρ with
  | er => rw [q] at g; exact g
  | rz c => rw [q] at g; exact g
  | ok v =>
    rw [q] at g
    have g : GoodT X W S Q (theB v.d) := g
    intro S1 t a1 e1 R1 f1
    cases hd : v.d <;> rw [hd] at g <;> first | exact g.elim | skip
    exact ⟨_, rfl, GoodT.end1 g a1 e1 R1⟩
theorem st_cmp {o : CmpOp} {a b : Expr} {pos : Pos} {g : BV → BV → Res BV} {xa xb : Rho → Res BV} (ho : OpS X W (compareOp o) g) (hm : behindInMarks o b = false) (ha : SE X W a xa) (hb : SE X W b xb) : STs X W (.Compare a [o] [b] pos) (xTb (x2 g xa xb)) := by
  intro S Q R h
  refine wT_of (pt_cmpR opR_w pe_w pe_w hm) ?_
  -- the compare's value, then the bool
  have key : wE X a S.σ S.H (fun x H1 => wE X b S.σ H1 fun y H2 => wO X (compareOp o) x y H2 fun z H3 => ∃ k, z = .bl k ∧ Q k H3) := by
    refine two ha hb (Q := fun z H3 => ∃ k, z = .bl k ∧ Q k H3) R ?_ fun u v S2 t t' a2 e2 R2 f1 f2 g2 => ho S _ u v S2 t t' R a2 e2 R2 f1 f2 g2
    unfold xTb at h
    cases q : x2 g xa xb S.ρ with
    | er => rw [q] at h; exact h
    | rz c => rw [q] at h; exact h
    | ok v =>
      rw [q] at h
      have h : GoodT X W S Q (theB v.d) := h
      intro S1 t a1 e1 R1 f1
      cases hd : v.d <;> rw [hd] at h <;> first | exact h.elim | skip
      exact ⟨_, rfl, GoodT.end1 h a1 e1 R1⟩
  exact key
/-- a chain of two comparisons -/
def x3c (g g' : D → D → Res D) (a b c : Rho → Res BV) : Rho → Res BV := fun ρ => (a ρ).bind fun u => (b ρ).bind fun v => (g u.d v.d).bind fun d => (theB d).bind fun k =>
  if k = true then (c ρ).bind fun w => (g' v.d w.d).bind fun d => .ok ⟨false, none, d⟩ else .ok ⟨false, none, .bool false⟩
/-- a plain comparison: what it asks -/
def OpP (X : Cx) (f : Value → Value → Sem Value) (g : D → D → Res D) : Prop :=
  (∀ d e r, g d e = .ok r → scal r = true) ∧ (∀ d e c, g d e ≠ .rz c) ∧
    ∀ (d e r : D) (t t' : Tr) (Z H : Hp) (k k' : Lv) (Q : VK), g d e = .ok r → Same Z H → Ob X.K Z H k d t → Ob X.K Z H k' e t' → Q (valOf r t0) H → wO X f (valOf d t) (valOf e t') H Q
theorem OpP.ops {f : Value → Value → Sem Value} {g : D → D → Res D} (h : OpP X f g) : OpS X W f (pl g) := OpS.scal h.1 h.2.1 h.2.2
theorem opp_cmp {f : Value → Value → Sem Value} {p : Int → Int → Bool} (ho : OpR X f (rI0 fun i j => .bl (p i j))) : OpP X f (dCmp p) := by
  refine ⟨fun d e r q => ?_, fun d e c q => ?_, fun d e r t t' Z H k k' Q q zh o1 o2 hq => ?_⟩
  · cases d <;> cases e <;> cases q
    rfl
  · cases d <;> cases e <;> cases q
  · cases d <;> cases e <;> cases q
    exact wO_of ho ⟨_, _, rfl, rfl, hq⟩
theorem chain_go {o o' : CmpOp} {a b c : Expr} {g g' : D → D → Res D} {xa xb xc : Rho → Res BV} {Q : VK} (ho : OpP X (compareOp o) g) (ho' : OpP X (compareOp o') g') (ha : SE X W a xa) (hb : SE X W b xb) (hc : SE X W c xc) (R : S.R X.K) (h : GoodE X W S Q (x3c g g' xa xb xc S.ρ)) :
    tChain (wO X (compareOp o)) (wO X (compareOp o')) (wE X a) (wE X b) (wE X c) S.σ S.H Q := by
  refine two (f := fun u v => (g u.d v.d).bind fun d => (theB d).bind fun k => if k = true then (xc S.ρ).bind fun w => (g' v.d w.d).bind fun d => .ok ⟨false, none, d⟩ else .ok ⟨false, none, .bool false⟩) ha hb R h fun u v S2 t t' a2 e2 R2 f1 f2 g2 => ?_
  replace g2 : GoodE X W S Q ((g u.d v.d).bind fun d => (theB d).bind fun k => if k = true then (xc S.ρ).bind fun w => (g' v.d w.d).bind fun d => .ok ⟨false, none, d⟩ else .ok ⟨false, none, .bool false⟩) := g2
  cases q : g u.d v.d with
  | er => rw [q] at g2; exact g2.elim
  | rz c => exact absurd q (ho.2.1 _ _ _)
  | ok d =>
    rw [q] at g2
    replace g2 : GoodE X W S Q ((theB d).bind fun k => if k = true then (xc S.ρ).bind fun w => (g' v.d w.d).bind fun d => .ok ⟨false, none, d⟩ else .ok ⟨false, none, .bool false⟩) := g2
    cases d <;> first | exact g2.elim | skip
    rename_i k
    have R2' : Rl X.K S2.Z0 S2.H0 S2.Z S2.H S2.σ S2.ρ S2.ts S2.τ := R2
    have m1 := (R2'.tm ⟨v.b, v.k, v.d, t'⟩ (by rw [e2]; exact List.mem_cons_self)).1
    have m2 := (R2'.tm ⟨u.b, u.k, u.d, t⟩ (by rw [e2]; exact List.mem_cons_of_mem _ List.mem_cons_self)).1
    refine ho.2.2 u.d v.d _ t t' S2.Z S2.H u.k v.k _ q R2'.zh m2 m1 ⟨k, rfl, ?_⟩
    have R3 := R2.pop2 (X := X) e2
    rw [a2.back] at R3
    cases k with
    | false =>
      rw [if_neg (by simp)]
      exact GoodE.scal g2 rfl a2.st R3
    | true =>
      rw [if_pos rfl]
      have z : wE X c S2.σ S2.H fun w H4 => wO X (compareOp o') (valOf v.d t') w H4 Q := by
        refine hc S2 _ R2 ?_
        rw [a2.ρ]
        have g2 : GoodE X W S Q ((xc S.ρ).bind fun w => (g' v.d w.d).bind fun d => .ok ⟨false, none, d⟩) := g2
        cases q2 : xc S.ρ with
        | er => rw [q2] at g2; exact g2
        | rz cc =>
          rw [q2] at g2
          intro S4 a4 e4 R4
          exact g2 (S4.put S4.Z S4.H S.τ) ((a2.trans a4).put Step.refl) rfl (R4.pop2 (X := X) (e4.trans e2))
        | ok w =>
          rw [q2] at g2
          intro S4 t4 a4 e4 R4 f4
          have g2 : GoodE X W S Q ((g' v.d w.d).bind fun d => .ok ⟨false, none, d⟩) := g2
          cases q3 : g' v.d w.d with
          | er => rw [q3] at g2; exact g2.elim
          | rz c => exact absurd q3 (ho'.2.1 _ _ _)
          | ok d3 =>
            rw [q3] at g2
            have R4' : Rl X.K S4.Z0 S4.H0 S4.Z S4.H S4.σ S4.ρ S4.ts S4.τ := R4
            have n1 := (R4'.tm ⟨w.b, w.k, w.d, t4⟩ (by rw [e4]; exact List.mem_cons_self)).1
            have n2 := (R4'.tm ⟨v.b, v.k, v.d, t'⟩ (by rw [e4, e2]; exact List.mem_cons_of_mem _ List.mem_cons_self)).1
            refine ho'.2.2 v.d w.d d3 t' t4 S4.Z S4.H v.k w.k Q q3 R4'.zh n2 n1 ?_
            have a5 := a2.trans a4
            have e5 : S4.τ = ⟨w.b, w.k, w.d, t4⟩ :: ⟨v.b, v.k, v.d, t'⟩ :: ⟨u.b, u.k, u.d, t⟩ :: S.τ := e4.trans (by rw [e2])
            have R5 : (S.put S4.Z S4.H S.τ).R X.K := by
              rw [← a5.back]
              have R6 : Rl X.K S4.Z0 S4.H0 S4.Z S4.H S4.σ S4.ρ S4.ts S4.τ := R4
              rw [e5] at R6
              exact R6.pop.pop.pop
            exact GoodE.scal g2 (ho'.1 _ _ _ q3) a5.st R5
      rw [a2.σ] at z
      exact z
theorem se_chain {o o' : CmpOp} {a b c : Expr} {pos : Pos} {g g' : D → D → Res D} {xa xb xc : Rho → Res BV} (ho : OpP X (compareOp o) g) (ho' : OpP X (compareOp o') g') (hm : lastMarks [o, o'] [b, c] = false) (ha : SE X W a xa) (hb : SE X W b xb) (hc : SE X W c xc) :
    SE X W (.Compare a [o, o'] [b, c] pos) (x3c g g' xa xb xc) := fun S Q R h => wE_of (pe_chain opR_w opR_w pe_w pe_w pe_w hm) (chain_go ho ho' ha hb hc R h)
theorem st_chain {o o' : CmpOp} {a b c : Expr} {pos : Pos} {g g' : D → D → Res D} {xa xb xc : Rho → Res BV} (ho : OpP X (compareOp o) g) (ho' : OpP X (compareOp o') g') (hm : lastMarks [o, o'] [b, c] = false) (ha : SE X W a xa) (hb : SE X W b xb) (hc : SE X W c xc) :
    STs X W (.Compare a [o, o'] [b, c] pos) (xTb (x3c g g' xa xb xc)) := by
  intro S Q R h
  refine wT_of (pt_chain opR_w opR_w pe_w pe_w pe_w hm) ?_
  refine chain_go ho ho' ha hb hc (Q := fun z H3 => ∃ k, z = .bl k ∧ Q k H3) R ?_
  unfold xTb at h
  cases q : x3c g g' xa xb xc S.ρ with
  | er => rw [q] at h; exact h
  | rz c => rw [q] at h; exact h
  | ok v =>
    rw [q] at h
    have h : GoodT X W S Q (theB v.d) := h
    intro S1 t a1 e1 R1 f1
    cases hd : v.d <;> rw [hd] at h <;> first | exact h.elim | skip
    exact ⟨_, rfl, GoodT.end1 h a1 e1 R1⟩
theorem st_of_se {e : Expr} {x : Rho → Res BV} (h : SE X W e x) (hp : ∀ {σ : L2.St} {H : Hp} {Q : Bool → Hp → Prop}, wE X e σ H (fun v H' => ∃ k, v = .bl k ∧ Q k H') → wT X e σ H Q) : STs X W e (xTb x) := by
  intro S Q R g
  exact hp (tb_go h R g)

/-! ### and, or, not -/
def tAndX (a b : Rho → Res Bool) : Rho → Res Bool := fun ρ => (a ρ).bind fun c => if c = true then b ρ else .ok false
def tOrX (a b : Rho → Res Bool) : Rho → Res Bool := fun ρ => (a ρ).bind fun c => if c = true then .ok true else b ρ
def tNotX (a : Rho → Res Bool) : Rho → Res Bool := fun ρ => (a ρ).bind fun c => .ok (!c)
theorem GoodT.bind {Q : Bool → Hp → Prop} {r : Res Bool} {f : Bool → Res Bool} (g : GoodT X W S Q (r.bind f)) : GoodT X W S (fun b H => ∀ S' : Sta, Aft S S' → S'.τ = S.τ → S'.R X.K → S'.H = H → GoodT X W S Q (f b) ) r := by
  cases r with
  | er => exact g
  | rz c => exact g
  | ok b => exact fun S' a e R S2 _ _ _ _ => g
/-- a test, then what hangs on it -/
theorem testing {e : Expr} {x : Rho → Res Bool} (h : STs X W e x) {f : Bool → Res Bool} {Q Q' : Bool → Hp → Prop} (R : S.R X.K) (g : GoodT X W S Q ((x S.ρ).bind f))
    (k : ∀ (b : Bool) (S1 : Sta), Aft S S1 → S1.τ = S.τ → S1.R X.K → GoodT X W S Q (f b) → Q' b S1.H) : wT X e S.σ S.H Q' := by
  refine h S Q' R ?_
  cases q : x S.ρ with
  | er => rw [q] at g; exact g
  | rz c => rw [q] at g; exact g
  | ok b =>
    rw [q] at g
    exact fun S1 a1 e1 R1 => k b S1 a1 e1 R1 g
theorem GoodT.later {Q : Bool → Hp → Prop} {r : Res Bool} {S1 : Sta} (g : GoodT X W S Q r) (a : Aft S S1) (e : S1.τ = S.τ) : GoodT X W S1 Q r := by
  cases r with
  | ok b => exact fun S2 a2 e2 R2 => g S2 (a.trans a2) (e2.trans e) R2
  | rz c => exact fun S2 a2 e2 R2 => g S2 (a.trans a2) (e2.trans e) R2
  | er => exact g
theorem sw_and1 {a : Expr} {pos : Pos} {xa : Rho → Res Bool} (ha : STs X W a xa) : SW X W (.BoolOp .And [a] pos) xa := by
  intro S Q R g
  exact wW_of (pw_and1 pt_w) (ha S Q R g)
theorem sw_or1 {a : Expr} {pos : Pos} {xa : Rho → Res Bool} (ha : STs X W a xa) : SW X W (.BoolOp .Or [a] pos) xa := by
  intro S Q R g
  exact wW_of (pw_or1 pt_w) (ha S Q R g)
theorem sw_and {a b : Expr} {es : List Expr} {pos : Pos} {xa xb : Rho → Res Bool} (ha : STs X W a xa) (hb : SW X W (.BoolOp .And (b :: es) pos) xb) : SW X W (.BoolOp .And (a :: b :: es) pos) (tAndX xa xb) := by
  intro S Q R g
  refine wW_of (pw_and pt_w pw_w) (testing ha R g fun c S1 a1 e1 R1 g1 => ?_)
  cases c with
  | true =>
    rw [if_pos rfl]
    have z := hb S1 Q R1 (by rw [a1.ρ]; exact GoodT.later g1 a1 e1)
    rw [a1.σ] at z
    exact z
  | false =>
    rw [if_neg (by simp)]
    exact g1 S1 a1 e1 R1
theorem sw_or {a b : Expr} {es : List Expr} {pos : Pos} {xa xb : Rho → Res Bool} (ha : STs X W a xa) (hb : SW X W (.BoolOp .Or (b :: es) pos) xb) : SW X W (.BoolOp .Or (a :: b :: es) pos) (tOrX xa xb) := by
  intro S Q R g
  refine wW_of (pw_or pt_w pw_w) (testing ha R g fun c S1 a1 e1 R1 g1 => ?_)
  cases c with
  | true =>
    rw [if_pos rfl]
    exact g1 S1 a1 e1 R1
  | false =>
    rw [if_neg (by simp)]
    have z := hb S1 Q R1 (by rw [a1.ρ]; exact GoodT.later g1 a1 e1)
    rw [a1.σ] at z
    exact z
theorem st_bool {o : BoolOp} {es : List Expr} {pos : Pos} {x : Rho → Res Bool} (h : SW X W (.BoolOp o es pos) x) : STs X W (.BoolOp o es pos) x := by
  intro S Q R g
  exact wT_of pw_w.pt (h S Q R g)
theorem st_not {a : Expr} {pos : Pos} {xa : Rho → Res Bool} (ha : STs X W a xa) : STs X W (.UnaryOp .Not a pos) (tNotX xa) := by
  intro S Q R g
  exact wT_of (pt_not pt_w) (testing ha R g fun c S1 a1 e1 R1 g1 => g1 S1 a1 e1 R1)
/-- a test as a value: what is a bool -/
def vOf (a : Rho → Res Bool) : Rho → Res BV := fun ρ => (a ρ).bind fun b => .ok ⟨false, none, .bool b⟩
def xAndV (a b : Rho → Res BV) : Rho → Res BV := fun ρ => (a ρ).bind fun u => (theB u.d).bind fun c => if c = true then b ρ else .ok ⟨false, none, .bool false⟩
def xOrV (a b : Rho → Res BV) : Rho → Res BV := fun ρ => (a ρ).bind fun u => (theB u.d).bind fun c => if c = true then .ok ⟨false, none, .bool true⟩ else b ρ
def xNotV (a : Rho → Res BV) : Rho → Res BV := fun ρ => (a ρ).bind fun u => (theB u.d).bind fun c => .ok ⟨false, none, .bool (!c)⟩
theorem se_one {o : BoolOp} {a : Expr} {pos : Pos} {xa : Rho → Res BV} (ha : SE X W a xa) : SE X W (.BoolOp o [a] pos) xa := by
  intro S Q R g
  exact wE_of (pe_one pe_w) (ha S Q R g)
/-- a bool, then what hangs on it -/
theorem booling {e : Expr} {x : Rho → Res BV} (h : SE X W e x) {f : Bool → Res BV} {Q Q' : VK} (R : S.R X.K) (g : GoodE X W S Q ((x S.ρ).bind fun u => (theB u.d).bind f))
    (k : ∀ (b : Bool) (S1 : Sta), Aft S S1 → S1.τ = S.τ → S1.R X.K → GoodE X W S Q (f b) → Q' (.bl b) S1.H) : wE X e S.σ S.H Q' := by
  refine one h R g fun u S1 t a1 e1 R1 f1 g1 => ?_
  cases hd : u.d <;> rw [hd] at g1 <;> first | exact g1.elim | skip
  exact k _ (S1.put S1.Z S1.H S.τ) (a1.put Step.refl) rfl (R1.pop (X := X) e1) g1
theorem se_and {a b : Expr} {es : List Expr} {pos : Pos} {xa xb : Rho → Res BV} (ha : SE X W a xa) (hb : SE X W (.BoolOp .And (b :: es) pos) xb) : SE X W (.BoolOp .And (a :: b :: es) pos) (xAndV xa xb) := by
  intro S Q R g
  refine wE_of (pe_and pe_w pe_w) (booling ha R g fun c S1 a1 e1 R1 g1 => ⟨c, rfl, ?_⟩)
  cases c with
  | true =>
    rw [if_pos rfl]
    have z := hb S1 Q R1 (by rw [a1.ρ]; exact GoodE.later (c := ⟨true, none, .none, t0⟩) g1 a1 e1)
    rw [a1.σ] at z
    exact z
  | false =>
    rw [if_neg (by simp)]
    have R2 := R1
    rw [show S1 = S1.put S1.Z S1.H S.τ by cases S1; simp only [Sta.put] at *; subst e1; rfl, a1.back] at R2
    exact GoodE.scal g1 rfl a1.st R2
theorem se_or {a b : Expr} {es : List Expr} {pos : Pos} {xa xb : Rho → Res BV} (ha : SE X W a xa) (hb : SE X W (.BoolOp .Or (b :: es) pos) xb) : SE X W (.BoolOp .Or (a :: b :: es) pos) (xOrV xa xb) := by
  intro S Q R g
  refine wE_of (pe_or pe_w pe_w) (booling ha R g fun c S1 a1 e1 R1 g1 => ⟨c, rfl, ?_⟩)
  cases c with
  | false =>
    rw [if_neg (by simp)]
    have z := hb S1 Q R1 (by rw [a1.ρ]; exact GoodE.later (c := ⟨true, none, .none, t0⟩) g1 a1 e1)
    rw [a1.σ] at z
    exact z
  | true =>
    rw [if_pos rfl]
    have R2 := R1
    rw [show S1 = S1.put S1.Z S1.H S.τ by cases S1; simp only [Sta.put] at *; subst e1; rfl, a1.back] at R2
    exact GoodE.scal g1 rfl a1.st R2
theorem se_not {a : Expr} {pos : Pos} {xa : Rho → Res BV} (ha : SE X W a xa) : SE X W (.UnaryOp .Not a pos) (xNotV xa) := by
  intro S Q R g
  refine wE_of (pe_not pe_w) (booling ha R g fun c S1 a1 e1 R1 g1 => ⟨c, rfl, ?_⟩)
  have R2 := R1
  rw [show S1 = S1.put S1.Z S1.H S.τ by cases S1; simp only [Sta.put] at *; subst e1; rfl, a1.back] at R2
  exact GoodE.scal g1 rfl a1.st R2
/-- a if c else b -/
def xIte (c : Rho → Res Bool) (a b : Rho → Res BV) : Rho → Res BV := fun ρ => (c ρ).bind fun k => if k = true then a ρ else b ρ
def tIteX (c a b : Rho → Res Bool) : Rho → Res Bool := fun ρ => (c ρ).bind fun k => if k = true then a ρ else b ρ
theorem testE {e : Expr} {x : Rho → Res Bool} (h : STs X W e x) {f : Bool → Res BV} {Q : VK} {Q' : Bool → Hp → Prop} (R : S.R X.K) (g : GoodE X W S Q ((x S.ρ).bind f))
    (k : ∀ (b : Bool) (S1 : Sta), Aft S S1 → S1.τ = S.τ → S1.R X.K → GoodE X W S Q (f b) → Q' b S1.H) : wT X e S.σ S.H Q' := by
  refine h S Q' R ?_
  cases q : x S.ρ with
  | er => rw [q] at g; exact g
  | rz c => rw [q] at g; exact g
  | ok b =>
    rw [q] at g
    exact fun S1 a1 e1 R1 => k b S1 a1 e1 R1 g
theorem se_ite {c a b : Expr} {pos : Pos} {xc : Rho → Res Bool} {xa xb : Rho → Res BV} (hc : STs X W c xc) (ha : SE X W a xa) (hb : SE X W b xb) : SE X W (.IfExp c a b pos) (xIte xc xa xb) := by
  intro S Q R g
  refine wE_of (pe_ifExp pt_w pe_w pe_w) (testE hc R g fun k S1 a1 e1 R1 g1 => ?_)
  cases k with
  | true =>
    rw [if_pos rfl]
    have z := ha S1 Q R1 (by rw [a1.ρ]; exact GoodE.later (c := ⟨true, none, .none, t0⟩) g1 a1 e1)
    rw [a1.σ] at z
    exact z
  | false =>
    rw [if_neg (by simp)]
    have z := hb S1 Q R1 (by rw [a1.ρ]; exact GoodE.later (c := ⟨true, none, .none, t0⟩) g1 a1 e1)
    rw [a1.σ] at z
    exact z
theorem st_ite {c a b : Expr} {pos : Pos} {xc xa xb : Rho → Res Bool} (hc : STs X W c xc) (ha : STs X W a xa) (hb : STs X W b xb) : STs X W (.IfExp c a b pos) (tIteX xc xa xb) := by
  intro S Q R g pins s I
  have e : ∀ whole, isTrue (.IfExp c a b pos) X.env whole = (do if ← isTrue c X.env (eval c X.env) then isTrue a X.env (eval a X.env) else isTrue b X.env (eval b X.env)) := fun _ => rfl
  rw [e]
  refine wpAny_bind (thn (testing (Q' := fun k H1 => if k = true then wT X a S.σ H1 Q else wT X b S.σ H1 Q) hc R g (fun k S1 a1 e1 R1 g1 => ?_) pins s I) fun k s1 ⟨H1, I1, q1⟩ => ?_)
  · cases k with
    | true =>
      rw [if_pos rfl]
      have z := ha S1 Q R1 (by rw [a1.ρ]; exact GoodT.later g1 a1 e1)
      rw [a1.σ] at z
      exact z
    | false =>
      rw [if_neg (by simp)]
      have z := hb S1 Q R1 (by rw [a1.ρ]; exact GoodT.later g1 a1 e1)
      rw [a1.σ] at z
      exact z
  · cases k with
    | true => exact q1 pins s1 I1
    | false => exact q1 pins s1 I1
/-! ### one operand -/
def dNeg : D → Res D
  | .int i => .ok (.int (-i))
  | _ => .er
def p1 (g : D → Res D) : BV → Res BV := fun u => (g u.d).bind fun d => .ok ⟨false, none, d⟩
theorem se_neg {a : Expr} {pos : Pos} {xa : Rho → Res BV} (ha : SE X W a xa) : SE X W (.UnaryOp .USub a pos) (x1 (p1 dNeg) xa) := by
  intro S Q R g
  refine wE_of (pe_un un_neg pe_w) (one ha R g fun u S1 t a1 e1 R1 f1 g1 => ?_)
  unfold p1 at g1
  cases hd : u.d <;> rw [hd] at g1 <;> first | exact g1.elim | skip
  refine ⟨_, rfl, ?_⟩
  have R2 := R1.pop (X := X) e1
  rw [a1.back] at R2
  exact GoodE.scal g1 rfl a1.st R2
end
end Ev

set_option Elab.async false
set_option linter.all false
set_option maxRecDepth 100000
namespace Ev
open PySem PySem.Spec PyProof.Rows L2

/-! ### argument lists and displays -/
/-- how a value is handed on: to a call (fr: its own objects are shared), into a display -/
def settle (fr : Bool) (v : BV) : Res BV :=
  if flat v.d = true then .ok ⟨false, none, v.d⟩
  else if v.b = true then (if fr = true ∨ v.k = some 0 then .ok v else .er)
  else if fr = false ∧ v.k = none then .ok v else .ok ⟨false, some 0, v.d⟩
def evA (fr : Bool) : List (Rho → Res BV) → Rho → Res (List BV)
  | [], _ => .ok []
  | x :: xs, ρ => (x ρ).bind fun v => (settle fr v).bind fun v => (evA fr xs ρ).bind fun vs => .ok (v :: vs)
def stk : List BV → List Tr → List Tm
  | v :: vs, t :: ts => stk vs ts ++ [⟨v.b, v.k, v.d, t⟩]
  | _, _ => []
def valsB : List BV → List Tr → List V
  | v :: vs, t :: ts => valOf v.d t :: valsB vs ts
  | _, _ => []
def GoodA (X : Cx) (W : WX) (S : Sta) (Q : List V → Hp → Prop) : Res (List BV) → Prop
  | .ok vs => ∀ (S' : Sta) (tr : List Tr), Aft S S' → tr.length = vs.length → S'.τ = stk vs tr ++ S.τ → S'.R X.K → (∀ a ∈ ownT (stk vs tr), S.H a = none) → Q (valsB vs tr) S'.H
  | .rz c => ∀ S' : Sta, Aft S S' → S'.τ = S.τ → S'.R X.K → Raised X W c S'.σ S'.H
  | .er => False
def SA (X : Cx) (W : WX) (fr : Bool) (es : List Expr) (xs : List (Rho → Res BV)) : Prop := ∀ (S : Sta) (Q : List V → Hp → Prop), S.R X.K → GoodA X W S Q (evA fr xs S.ρ) → wA X es S.σ S.H Q
section
variable {X : Cx} {W : WX} {S : Sta} {fr : Bool}
theorem settle_ok {v v' : BV} (h : settle fr v = .ok v') : v'.d = v.d := by
  unfold settle at h
  split at h
  · cases h; rfl
  · split at h
    · split at h <;> cases h
      rfl
    · split at h <;> cases h <;> rfl
/-- what is true of a value that is handed on -/
def Setd (fr : Bool) (v : BV) : Prop := (fr = true → v.b = false → flat v.d = true ∨ v.k = some 0) ∧ (fr = false → (v.b = true → v.k = some 0) ∧ (v.b = false → v.k = none ∨ v.k = some 0))
/-- the value on top is handed on -/
theorem settle_go {v v' : BV} {S1 : Sta} {t : Tr} {τ : List Tm} (h : settle fr v = .ok v') (R : S1.R X.K) (e : S1.τ = ⟨v.b, v.k, v.d, t⟩ :: τ) (f : Fresh S v t) (a : Aft S S1) :
    ∃ S2 : Sta, Aft S S2 ∧ S2.H = S1.H ∧ S2.R X.K ∧ S2.τ = ⟨v'.b, v'.k, v'.d, t⟩ :: τ ∧ Fresh S v' t ∧ Setd fr v' := by
  have R1 : Rl X.K S1.Z0 S1.H0 S1.Z S1.H S1.σ S1.ρ S1.ts S1.τ := R
  rw [e] at R1
  unfold settle at h
  split at h
  · rename_i hf
    cases h
    have o := (R1.tm _ List.mem_cons_self).1
    refine ⟨S1.put S1.Z S1.H (⟨false, none, v.d, t⟩ :: τ), a.put Step.refl, rfl, ?_, rfl, fun _ x m => ?_, fun _ _ => .inl hf, fun _ => ⟨(fun q => Bool.noConfusion q), fun _ => .inl rfl⟩⟩
    · exact R1.pop.push0 (flat_ob v.d v.k none t hf o) (flat_own v.d none t hf)
    · have m : x ∈ own none v.d t := m
      rw [flat_own v.d none t hf] at m
      cases m
  · split at h
    · rename_i hb
      split at h <;> cases h
      rename_i hk
      refine ⟨S1, a, rfl, R, e, f, fun _ q => ?_, fun q => ⟨fun _ => ?_, fun q2 => ?_⟩⟩
      · rw [hb] at q; cases q
      · rcases hk with hk | hk
        · rw [q] at hk; cases hk
        · exact hk
      · rw [hb] at q2; cases q2
    · rename_i hb
      have hb' : v.b = false := by simpa using hb
      split at h <;> cases h
      · rename_i hk
        exact ⟨S1, a, rfl, R, e, f, fun q => absurd q (by rw [hk.1]; simp), fun _ => ⟨fun q => absurd q hb, fun _ => .inl hk.2⟩⟩
      · have R2 := Rl.frz (cs := []) (c := ⟨v.b, v.k, v.d, t⟩) R1 hb'
        have oz : ∀ x ∈ own v.k v.d t, S1.Z x = none := fun x m => (Ob.own v.d v.k t (R1.tm _ List.mem_cons_self).1 x m).1
        have key : Step S.Z S.H (frzZ S1.Z S1.H (own v.k v.d t)) S1.H := frz_step a.st (f hb') oz
        refine ⟨S1.put (frzZ S1.Z S1.H (own v.k v.d t)) S1.H (⟨false, some 0, v.d, t⟩ :: τ), ⟨a.z0, a.h0, a.σ, a.ρ, a.ts, key⟩, rfl, R2, rfl, fun _ x m => ?_, fun _ _ => .inr rfl, fun _ => ⟨(fun q => Bool.noConfusion q), fun _ => .inr rfl⟩⟩
        have m : x ∈ own (some 0) v.d t := m
        rw [own_zero] at m
        cases m
theorem stk_cons (v : BV) (vs : List BV) (t : Tr) (tr : List Tr) : stk (v :: vs) (t :: tr) = stk vs tr ++ [⟨v.b, v.k, v.d, t⟩] := rfl
theorem evA_setd : ∀ {xs : List (Rho → Res BV)} {ρ : Rho} {vs : List BV}, evA fr xs ρ = .ok vs → ∀ v ∈ vs, ∃ u, settle fr u = .ok v
  | [], _, _, h => by
    cases h
    intro v hv
    cases hv
  | x :: xs, ρ, vs, h => by
    unfold evA at h
    cases q : x ρ with
    | er => rw [q] at h; cases h
    | rz c => rw [q] at h; cases h
    | ok v =>
      rw [q] at h
      replace h : (settle fr v).bind (fun v => (evA fr xs ρ).bind fun vs => .ok (v :: vs)) = .ok vs := h
      cases q2 : settle fr v with
      | er => rw [q2] at h; cases h
      | rz c => rw [q2] at h; cases h
      | ok v' =>
        rw [q2] at h
        replace h : (evA fr xs ρ).bind (fun vs => .ok (v' :: vs)) = .ok vs := h
        cases q3 : evA fr xs ρ with
        | er => rw [q3] at h; cases h
        | rz c => rw [q3] at h; cases h
        | ok vs' =>
          rw [q3] at h
          cases h
          intro w hw
          rcases List.mem_cons.mp hw with e | hw
          · exact ⟨v, by rw [q2, e]⟩
          · exact evA_setd q3 w hw
theorem settle_setd {v v' : BV} (h : settle fr v = .ok v') : Setd fr v' := by
  unfold settle at h
  split at h
  · rename_i hf
    cases h
    exact ⟨fun _ _ => .inl hf, fun _ => ⟨(fun q => Bool.noConfusion q), fun _ => .inl rfl⟩⟩
  · split at h
    · rename_i hb
      split at h <;> cases h
      rename_i hk
      refine ⟨fun _ q => ?_, fun q => ⟨fun _ => ?_, fun q2 => ?_⟩⟩
      · rw [hb] at q; cases q
      · rcases hk with hk | hk
        · rw [q] at hk; cases hk
        · exact hk
      · rw [hb] at q2; cases q2
    · rename_i hb
      split at h <;> cases h
      · rename_i hk
        exact ⟨fun q => absurd q (by rw [hk.1]; simp), fun _ => ⟨fun q => absurd q hb, fun _ => .inl hk.2⟩⟩
      · exact ⟨fun _ _ => .inr rfl, fun _ => ⟨(fun q => Bool.noConfusion q), fun _ => .inr rfl⟩⟩
theorem evA_len : ∀ {xs : List (Rho → Res BV)} {ρ : Rho} {vs : List BV}, evA fr xs ρ = .ok vs → vs.length = xs.length
  | [], _, _, h => by cases h; rfl
  | x :: xs, ρ, vs, h => by
    unfold evA at h
    cases q : x ρ with
    | er => rw [q] at h; cases h
    | rz c => rw [q] at h; cases h
    | ok v =>
      rw [q] at h
      replace h : (settle fr v).bind (fun v => (evA fr xs ρ).bind fun vs => .ok (v :: vs)) = .ok vs := h
      cases q2 : settle fr v with
      | er => rw [q2] at h; cases h
      | rz c => rw [q2] at h; cases h
      | ok v' =>
        rw [q2] at h
        replace h : (evA fr xs ρ).bind (fun vs => .ok (v' :: vs)) = .ok vs := h
        cases q3 : evA fr xs ρ with
        | er => rw [q3] at h; cases h
        | rz c => rw [q3] at h; cases h
        | ok vs' =>
          rw [q3] at h
          cases h
          show vs'.length + 1 = xs.length + 1
          rw [evA_len q3]
theorem sa_nil : SA X W fr [] [] := by
  intro S Q R g
  exact wA_of pa_nil (g S [] Aft.refl rfl rfl R fun a m => by cases m)
theorem GoodA.rz {Q : List V → Hp → Prop} {c : Str} {S1 : Sta} {τ : List Tm} (g : GoodA X W S Q (.rz c)) (a : Aft S S1) (e : S1.τ = τ ++ S.τ) (R : S1.R X.K) : Raised X W c S1.σ S1.H := by
  refine g (S1.put S1.Z S1.H S.τ) (a.put Step.refl) rfl ?_
  have R1 : Rl X.K S1.Z0 S1.H0 S1.Z S1.H S1.σ S1.ρ S1.ts S1.τ := R
  rw [e] at R1
  refine Rl.perm R1 (fun c h => List.mem_append_right _ h) ?_
  have n := R1.nd
  rw [ownT_app, ← List.append_assoc] at n
  exact (List.nodup_append.mp n).2.1
theorem sa_cons {e : Expr} {es : List Expr} {x : Rho → Res BV} {xs : List (Rho → Res BV)} (he : SE X W e x) (hes : SA X W fr es xs) (hs : starEach (e :: es) X.env = (false, eval e X.env) :: starEach es X.env) : SA X W fr (e :: es) (x :: xs) := by
  intro S Q R g
  refine wA_of (pa_cons pe_w pa_w hs) ?_
  show wE X e S.σ S.H fun y H1 => wA X es S.σ H1 fun ys H2 => Q (y :: ys) H2
  unfold evA at g
  refine he S _ R ?_
  cases q : x S.ρ with
  | er => rw [q] at g; exact g
  | rz c => rw [q] at g; exact g
  | ok v =>
    rw [q] at g
    replace g : GoodA X W S Q ((settle fr v).bind fun v => (evA fr xs S.ρ).bind fun vs => .ok (v :: vs)) := g
    intro S1 t a1 e1 R1 f1
    cases q2 : settle fr v with
    | er => rw [q2] at g; exact g.elim
    | rz c =>
      exfalso
      unfold settle at q2
      split at q2
      · cases q2
      · split at q2
        · split at q2 <;> cases q2
        · split at q2 <;> cases q2
    | ok v' =>
      rw [q2] at g
      replace g : GoodA X W S Q ((evA fr xs S.ρ).bind fun vs => .ok (v' :: vs)) := g
      obtain ⟨S2, a2, h2, R2, e2, f2, _⟩ := settle_go q2 R1 e1 f1 a1
      rw [← h2, ← settle_ok q2]
      have z : wA X es S2.σ S2.H fun ys H2 => Q (valOf v'.d t :: ys) H2 := by
        refine hes S2 _ R2 ?_
        rw [a2.ρ]
        cases q3 : evA fr xs S.ρ with
        | er => rw [q3] at g; exact g
        | rz c =>
          rw [q3] at g
          intro S3 a3 e3 R3
          exact GoodA.rz (c := c) g (a2.trans a3) (τ := [⟨v'.b, v'.k, v'.d, t⟩]) (by rw [e3, e2]; rfl) R3
        | ok vs =>
          rw [q3] at g
          intro S3 tr a3 l3 e3 R3 f3
          refine g S3 (t :: tr) (a2.trans a3) (by simp [l3]) (by rw [stk_cons, e3, e2, List.append_assoc]; rfl) R3 fun a m => ?_
          rw [stk_cons, ownT_app] at m
          rcases List.mem_append.mp m with m | m
          · exact a2.st.hh.free (f3 a m)
          · simp only [ownT, List.append_nil] at m
            cases hb : v'.b with
            | true => rw [hb] at m; simp at m
            | false =>
              rw [hb] at m
              exact f2 hb a (by simpa using m)
      rw [a2.σ] at z
      exact z
/-! ### what the values of an argument list are together -/
def dsB : List BV → List D := fun vs => vs.map (·.d)
theorem valsB_of : ∀ (vs : List BV) (tr : List Tr), valsB vs tr = valsOf (dsB vs) tr
  | [], tr => by cases tr <;> rfl
  | v :: vs, [] => rfl
  | v :: vs, t :: tr => by
    show valOf v.d t :: valsB vs tr = valOf v.d t :: valsOf (dsB vs) tr
    rw [valsB_of vs tr]
theorem valsB_length : ∀ {vs : List BV} {tr : List Tr}, tr.length = vs.length → (valsB vs tr).length = vs.length
  | [], tr, _ => by cases tr <;> rfl
  | v :: vs, [], h => by simp at h
  | v :: vs, t :: tr, h => by
    show (valsB vs tr).length + 1 = vs.length + 1
    rw [valsB_length (by simpa using h)]
theorem stk_mem : ∀ {vs : List BV} {tr : List Tr} {c : Tm}, c ∈ stk vs tr → ∃ v t, v ∈ vs ∧ c = ⟨v.b, v.k, v.d, t⟩
  | [], tr, c, h => by cases tr <;> cases h
  | v :: vs, [], c, h => by cases h
  | v :: vs, t :: tr, c, h => by
    rw [stk_cons] at h
    rcases List.mem_append.mp h with h | h
    · obtain ⟨w, u, hw, e⟩ := stk_mem h
      exact ⟨w, u, List.mem_cons_of_mem _ hw, e⟩
    · exact ⟨v, t, List.mem_cons_self, List.mem_singleton.mp h⟩
/-- all of level k -/
def lvAll (k : Lv) (vs : List BV) : Prop := ∀ v ∈ vs, v.k = k ∨ flat v.d = true
theorem stk_obs {Z H : Hp} {k : Lv} : ∀ {vs : List BV} {tr : List Tr}, tr.length = vs.length → lvAll k vs → (∀ c ∈ stk vs tr, Ob X.K Z H c.k c.d c.t) → Obs X.K Z H k (dsB vs) tr
  | [], [], _, _, _ => by simp [dsB, Obs]
  | [], _ :: _, h, _, _ => by simp at h
  | v :: vs, [], h, _, _ => by simp at h
  | v :: vs, t :: tr, h, hl, hc => by
    rw [stk_cons] at hc
    have o := hc ⟨v.b, v.k, v.d, t⟩ (List.mem_append_right _ (by simp))
    show Obs X.K Z H k (v.d :: dsB vs) (t :: tr)
    simp only [Obs]
    refine ⟨?_, stk_obs (by simpa using h) (fun w hw => hl w (List.mem_cons_of_mem _ hw)) fun c h => hc c (List.mem_append_left _ h)⟩
    rcases hl v List.mem_cons_self with e | e
    · rw [← e]; exact o
    · exact flat_ob v.d v.k k t e o
theorem owns_perm {k : Lv} : ∀ {vs : List BV} {tr : List Tr}, tr.length = vs.length → (∀ v ∈ vs, (v.k = k ∧ v.b = false) ∨ flat v.d = true) → (ownT (stk vs tr)).Perm (owns k (dsB vs) tr)
  | [], [], _, _ => by simp [dsB, owns, stk, ownT]
  | [], _ :: _, h, _ => by simp at h
  | v :: vs, [], h, _ => by simp at h
  | v :: vs, t :: tr, h, hl => by
    rw [stk_cons, ownT_app]
    show (ownT (stk vs tr) ++ ownT [⟨v.b, v.k, v.d, t⟩]).Perm (owns k (v.d :: dsB vs) (t :: tr))
    simp only [owns]
    refine List.Perm.trans List.perm_append_comm (List.Perm.append (List.Perm.of_eq ?_) (owns_perm (by simpa using h) fun w hw => hl w (List.mem_cons_of_mem _ hw)))
    simp only [ownT, List.append_nil]
    rcases hl v List.mem_cons_self with ⟨e, hb⟩ | e
    · rw [hb, ← e]; rfl
    · rw [flat_own v.d v.k t e, flat_own v.d k t e]
      split <;> rfl
/-- the level of a display's items -/
def dispLv (vs : List BV) : Res Lv := if (vs.all fun v => (v.k == none && !v.b) || flat v.d) = true then .ok none else if (vs.all fun v => v.k == some 0 || flat v.d) = true then .ok (some 0) else .er
def mkTup (vs : List BV) : Res BV := (dispLv vs).bind fun k => .ok ⟨false, k, .tuple (dsB vs)⟩
def mkLst (vs : List BV) : Res BV := (dispLv vs).bind fun k => .ok ⟨false, sc k, .list (dsB vs)⟩
def xA (fr : Bool) (f : List BV → Res BV) (xs : List (Rho → Res BV)) : Rho → Res BV := fun ρ => (evA fr xs ρ).bind f
theorem pd_sc (k : Lv) : pd (sc k) = k := by cases k <;> rfl
theorem sc_ne (k : Lv) : sc k ≠ some 0 := by cases k <;> simp [sc]
theorem disp_ok {vs : List BV} {k : Lv} (h : dispLv vs = .ok k) : lvAll k vs ∧ ((∀ v ∈ vs, (v.k = k ∧ v.b = false) ∨ flat v.d = true) ∨ k = some 0) := by
  unfold dispLv at h
  split at h
  · rename_i q
    cases h
    rw [List.all_eq_true] at q
    have q' : ∀ v ∈ vs, (v.k = none ∧ v.b = false) ∨ flat v.d = true := fun v hv => by
      have := q v hv
      simpa [Bool.or_eq_true, Bool.and_eq_true] using this
    exact ⟨fun v hv => (q' v hv).elim (fun z => .inl z.1) .inr, .inl q'⟩
  · split at h <;> cases h
    rename_i q
    rw [List.all_eq_true] at q
    exact ⟨fun v hv => by have := q v hv; simpa [Bool.or_eq_true] using this, .inr rfl⟩
theorem disp_rz {vs : List BV} {c : Str} : dispLv vs ≠ .rz c := by
  intro h
  unfold dispLv at h
  split at h
  · cases h
  · split at h <;> cases h
theorem disp_own {vs : List BV} {k : Lv} {tr : List Tr} (h : dispLv vs = .ok k) (hl : tr.length = vs.length) (n : (ownT (stk vs tr)).Nodup) : (owns k (dsB vs) tr).Nodup ∧ ∀ a ∈ owns k (dsB vs) tr, a ∈ ownT (stk vs tr) := by
  rcases (disp_ok h).2 with q | q
  · have p := owns_perm hl q
    exact ⟨(p.nodup_iff).mp n, fun a m => p.mem_iff.mpr m⟩
  · subst q
    rw [owns_zero]
    exact ⟨List.Pairwise.nil, fun a m => by cases m⟩
theorem Sta.R.stk {cs τ : List Tm} (R : S.R X.K) (e : S.τ = cs ++ τ) : Rl X.K S.Z0 S.H0 S.Z S.H S.σ S.ρ S.ts (cs ++ τ) := by
  have R1 : Rl X.K S.Z0 S.H0 S.Z S.H S.σ S.ρ S.ts S.τ := R
  rw [e] at R1
  exact R1
theorem rl_nd {K : PySem.W.Frag} {Z0 H0 Z H : Hp} {σ : L2.St} {ρ : Rho} {ts : List Tr} {cs τ : List Tm} (R : Rl K Z0 H0 Z H σ ρ ts (cs ++ τ)) : (ownT cs).Nodup := by
  have n := R.nd
  rw [ownT_app] at n
  exact (List.nodup_append.mp (List.nodup_append.mp n).2.1).1
/-- the end with a new object made of the values under way -/
theorem GoodE.made {Q : VK} {S2 : Sta} {cs : List Tm} {k : Lv} {d : D} {t : Tr} {p : Addr} {o : HO} {Z' : Hp} (g : GoodE X W S Q (.ok ⟨false, k, d⟩)) (a2 : Aft S S2) (e2 : S2.τ = cs ++ S.τ) (R2 : S2.R X.K)
    (f2 : ∀ a ∈ ownT cs, S.H a = none) (hp : S2.H p = none) (hz : Z' = S2.Z ∨ Z' = upd S2.Z p o) (ob : Ob X.K Z' (upd S2.H p o) k d t) (hd : (own k d t).Nodup) (hs : ∀ a ∈ own k d t, (a = p ∧ Z' = S2.Z) ∨ a ∈ ownT cs) : Q (valOf d t) (upd S2.H p o) := by
  have R3 := Rl.wrap (R2.stk e2) hp hz ob hd hs
  have zp : S2.Z p = none := by
    have R2' : Rl X.K S2.Z0 S2.H0 S2.Z S2.H S2.σ S2.ρ S2.ts S2.τ := R2
    exact R2'.zh.free hp
  refine g (S2.put Z' (upd S2.H p o) (⟨false, k, d, t⟩ :: S.τ)) t (a2.trans (Sta.aft_put ⟨fun b u e => ?_, fun b u e => ?_, fun b u e => ?_⟩)) rfl R3 fun _ a m => ?_
  · rcases hz with h | h
    · rw [h]; exact e
    · rw [h, upd_ne (ne_of_none e zp)]; exact e
  · rw [upd_ne (ne_of_none e hp)]; exact e
  · rcases hz with h | h
    · rw [h] at e; exact .inl e
    · rw [h] at e
      by_cases q : b = p
      · subst q; exact .inr hp
      · rw [upd_ne q] at e; exact .inl e
  · rcases hs a m with ⟨e, _⟩ | h
    · rw [e]; exact a2.st.hh.free hp
    · exact f2 a h
theorem SA.go {es : List Expr} {xs : List (Rho → Res BV)} (h : SA X W fr es xs) {f : List BV → Res BV} {Q : VK} {Q' : List V → Hp → Prop} (R : S.R X.K) (g : GoodE X W S Q (xA fr f xs S.ρ))
    (k : ∀ (vs : List BV) (S2 : Sta) (tr : List Tr), Aft S S2 → tr.length = vs.length → S2.τ = Ev.stk vs tr ++ S.τ → S2.R X.K → (∀ a ∈ ownT (Ev.stk vs tr), S.H a = none) → (∀ v ∈ vs, Setd fr v) → GoodE X W S Q (f vs) → Q' (valsB vs tr) S2.H) : wA X es S.σ S.H Q' := by
  refine h S Q' R ?_
  unfold xA at g
  cases q : evA fr xs S.ρ with
  | er => rw [q] at g; exact g
  | rz c => rw [q] at g; exact g
  | ok vs =>
    rw [q] at g
    exact fun S2 tr a2 l2 e2 R2 f2 => k vs S2 tr a2 l2 e2 R2 f2 (fun v hv => by obtain ⟨u, hu⟩ := evA_setd q v hv; exact settle_setd hu) g
theorem se_tup {es : List Expr} {xs : List (Rho → Res BV)} {n : Nat} {pos : Pos} (h : SA X W fr es xs) (hz : xs.length ≤ 1000) : SE X W (.Tuple es n pos) (xA fr mkTup xs) := by
  intro S Q R g
  refine wE_of (pe_tup pa_w) ?_
  refine SA.go (Q := Q) (f := fun vs => if vs.length ≤ 1000 then mkTup vs else .er) h R ?_ fun vs S2 tr a2 l2 e2 R2 f2 sd g2 => ?_
  · unfold xA at g ⊢
    cases q : evA fr xs S.ρ with
    | er => rw [q] at g; exact g
    | rz c => rw [q] at g; exact g
    | ok vs =>
      rw [q] at g
      show GoodE X W S Q (if vs.length ≤ 1000 then mkTup vs else .er)
      rw [if_pos (by rw [evA_len q]; exact hz)]
      exact g
  · by_cases hv : vs.length ≤ 1000
    · rw [if_pos hv] at g2
      refine ⟨by rw [valsB_length l2]; exact Nat.le_of_lt (small1000 hv), fun p hp => ?_⟩
      unfold mkTup at g2
      cases q : dispLv vs with
      | er => rw [q] at g2; exact g2.elim
      | rz c => exact absurd q disp_rz
      | ok k =>
        rw [q] at g2
        replace g2 : GoodE X W S Q (.ok ⟨false, k, .tuple (dsB vs)⟩) := g2
        have R2' := R2.stk e2
        have ow := disp_own q l2 (rl_nd R2')
        rw [valsB_of]
        refine GoodE.made (t := .n p tr) (p := p) (o := .tup (valsOf (dsB vs) tr)) (Z' := upd S2.Z p (.tup (valsOf (dsB vs) tr))) g2 a2 e2 R2 f2 hp (.inr rfl) ?_ ow.1 fun a m => .inr (ow.2 a m)
        simp only [Ob]
        refine ⟨SqT.of upd_same, Obs.ext (Z := S2.Z) (H := S2.H) (fun b u e => ?_) _ _ _ (stk_obs l2 (disp_ok q).1 fun c hc => (R2'.tm c (List.mem_append_left _ hc)).1) (fun a m => ?_) fun a m o e => ?_⟩
        · rw [upd_ne (ne_of_none e (R2'.zh.free hp))]; exact e
        · have := R2'.own_z a (List.mem_append_right _ (by rw [ownT_app]; exact List.mem_append_left _ (ow.2 a m)))
          obtain ⟨z, u, e, _⟩ := this
          rw [upd_ne (ne_of_none e hp)]
          exact z
        · rw [upd_ne (ne_of_none e hp)]; exact e
    · rw [if_neg hv] at g2
      exact g2.elim
theorem se_lst {es : List Expr} {xs : List (Rho → Res BV)} {pos : Pos} (h : SA X W fr es xs) (hz : xs.length ≤ 1000) : SE X W (.List es pos) (xA fr mkLst xs) := by
  intro S Q R g
  refine wE_of (pe_lst pa_w) ?_
  refine SA.go (Q := Q) (f := fun vs => if vs.length ≤ 1000 then mkLst vs else .er) h R ?_ fun vs S2 tr a2 l2 e2 R2 f2 sd g2 => ?_
  · unfold xA at g ⊢
    cases q : evA fr xs S.ρ with
    | er => rw [q] at g; exact g
    | rz c => rw [q] at g; exact g
    | ok vs =>
      rw [q] at g
      show GoodE X W S Q (if vs.length ≤ 1000 then mkLst vs else .er)
      rw [if_pos (by rw [evA_len q]; exact hz)]
      exact g
  · by_cases hv : vs.length ≤ 1000
    · rw [if_pos hv] at g2
      refine ⟨by rw [valsB_length l2]; exact Nat.le_of_lt (small1000 hv), fun p hp => ?_⟩
      unfold mkLst at g2
      cases q : dispLv vs with
      | er => rw [q] at g2; exact g2.elim
      | rz c => exact absurd q disp_rz
      | ok k =>
        rw [q] at g2
        replace g2 : GoodE X W S Q (.ok ⟨false, sc k, .list (dsB vs)⟩) := g2
        have R2' := R2.stk e2
        have ow := disp_own q l2 (rl_nd R2')
        have old : ∀ a ∈ owns k (dsB vs) tr, S2.Z a = none ∧ ∃ o, S2.H a = some o := fun a m => by
          obtain ⟨z, u, e, _⟩ := R2'.own_z a (List.mem_append_right _ (by rw [ownT_app]; exact List.mem_append_left _ (ow.2 a m)))
          exact ⟨z, u, e⟩
        rw [valsB_of]
        refine GoodE.made (t := .n p tr) (p := p) (o := .lst (valsOf (dsB vs) tr)) (Z' := S2.Z) g2 a2 e2 R2 f2 hp (.inl rfl) ?_ ?_ fun a m => ?_
        · simp only [Ob, pd_sc]
          refine ⟨?_, Obs.ext (Z := S2.Z) (H := S2.H) (Same.refl _) _ _ _ (stk_obs l2 (disp_ok q).1 fun c hc => (R2'.tm c (List.mem_append_left _ hc)).1) (fun a m => (old a m).1) fun a m o e => ?_⟩
          · unfold LstAt
            rw [if_neg (sc_ne k)]
            exact ⟨R2'.zh.free hp, upd_same⟩
          · rw [upd_ne (ne_of_none e hp)]; exact e
        · simp only [Ev.own, pd_sc, if_neg (sc_ne k)]
          refine List.nodup_append.mpr ⟨by simp, ow.1, fun a ha b hb e => ?_⟩
          have ea : a = p := List.mem_singleton.mp ha
          obtain ⟨_, o, q⟩ := old _ hb
          rw [← e, ea, hp] at q
          cases q
        · simp only [Ev.own, pd_sc, if_neg (sc_ne k)] at m
          rcases List.mem_append.mp m with m | m
          · exact .inl ⟨List.mem_singleton.mp m, rfl⟩
          · exact .inr (ow.2 a m)
    · rw [if_neg hv] at g2
      exact g2.elim
end
end Ev

set_option Elab.async false
set_option linter.all false
set_option maxRecDepth 100000
namespace Ev
open PySem PySem.Spec PyProof.Rows L2

/-! ### an item -/
def pick (u : BV) (k : Lv) (d : D) : BV := if flat d = true then ⟨false, none, d⟩ else ⟨u.b, k, d⟩
def ixD (u v : BV) : Res BV := match u.d, v.d with
  | .list ds, .int i => match atI ds i with
    | some d => .ok (pick u (pd u.k) d)
    | none => .er
  | .tuple ds, .int i => match atI ds i with
    | some d => .ok (pick u u.k d)
    | none => .er
  | _, _ => .er
def wI (X : Cx) : R2 := fun x y H Q => ∀ (value slice : Expr) (pins : List (Addr × Obj)) (s : Shared) (σ : L2.St) (v u : Value), Inv X pins σ H s → RelV x v → RelV y u →
  subscripted slice false v u = operate [v, u] (getItem v u) → wpAny (model X.prog X.w) X.A (subscriptTail value slice v u) (EP X pins σ Q) X.xe s
section
variable {K : PySem.W.Frag} {Z0 H0 Z H : Hp} {σ : L2.St} {ρ : Rho} {ts : List Tr} {τ : List Tm}
/-- a part of the value on top in its place -/
theorem Rl.pick {u : BV} {t t' : Tr} {i : Nat} {d' : D} (R : Rl K Z0 H0 Z H σ ρ ts (⟨u.b, u.k, u.d, t⟩ :: τ)) (e : (kidsD u.d)[i]? = some d') (e' : t.kids[i]? = some t') :
    Rl K Z0 H0 Z H σ ρ ts (⟨(Ev.pick u (lvK u.k u.d) d').b, (Ev.pick u (lvK u.k u.d) d').k, d', t'⟩ :: τ) := by
  obtain ⟨o, hb⟩ := R.tm _ List.mem_cons_self
  obtain ⟨t2, e2, o2, m2⟩ := kids_ob o e
  have et : t2 = t' := Option.some.inj (e2.symm.trans e')
  subst et
  have n := R.nd
  obtain ⟨n1, n2, n3⟩ := List.nodup_append.mp n
  unfold Ev.pick
  by_cases hf : flat d' = true
  · rw [if_pos hf]
    exact R.pop.push0 (flat_ob d' _ none t2 hf o2) (flat_own d' none t2 hf)
  · rw [if_neg hf]
    refine R.pop.push o2 (fun q => ⟨kid_nodup (hb q).1 e e', fun a m => (hb q).2 a (m2 a m)⟩) fun q => ?_
    have q : u.b = false := q
    simp only [ownT, q, if_neg (show ¬ (false = true) by simp)] at n2
    obtain ⟨n4, n5, n6⟩ := List.nodup_append.mp n2
    refine ⟨kid_nodup n4 e e', fun a m z => ?_, fun a m => R.o0 a (List.mem_append_right _ ?_)⟩
    · rcases List.mem_append.mp z with z | z
      · refine n3 a z a ?_ rfl
        simp only [ownT, q, if_neg (show ¬ (false = true) by simp)]
        exact List.mem_append_left _ (m2 a m)
      · exact n6 a (m2 a m) a z rfl
    · simp only [ownT, q, if_neg (show ¬ (false = true) by simp)]
      exact List.mem_append_left _ (m2 a m)
end
theorem atI_valsOf {K : PySem.W.Frag} {Z H : Hp} {k : Lv} {ds : List D} {ts : List Tr} {i : Int} {d : D} (o : Obs K Z H k ds ts) (h : atI ds i = some d) : ∃ (j : Nat) (t : Tr), ds[j]? = some d ∧ ts[j]? = some t ∧ atI (valsOf ds ts) i = some (valOf d t) := by
  unfold atI at h ⊢
  rw [valsOf_length o.len]
  cases q : ixN ds.length i with
  | none => rw [q] at h; cases h
  | some j =>
    rw [q] at h
    obtain ⟨t, e, _⟩ := o.get h
    exact ⟨j, t, h, e, valsOf_get h e⟩
section
variable {X : Cx} {W : WX} {S : Sta} {fr : Bool}
theorem Sta.R.rl {τ : List Tm} (R : S.R X.K) (e : S.τ = τ) : Rl X.K S.Z0 S.H0 S.Z S.H S.σ S.ρ S.ts τ := by
  subst e
  exact R
theorem Aft.rl {S2 : Sta} {τ : List Tm} {Z H : Hp} (a : Aft S S2) (R : Rl X.K S2.Z0 S2.H0 Z H S2.σ S2.ρ S2.ts τ) : (S.put Z H τ).R X.K := by
  obtain ⟨h1, h2, h3, h4, h5, _⟩ := a
  show Rl X.K S.Z0 S.H0 Z H S.σ S.ρ S.ts τ
  rw [← h1, ← h2, ← h3, ← h4, ← h5]
  exact R
theorem Aft.at {S2 : Sta} {Z H : Hp} {τ : List Tm} (a : Aft S S2) (st : Step S.Z S.H Z H) : Aft S (S.put Z H τ) := Sta.aft_put st
/-- the end with a part of the first of two values -/
theorem GoodE.part {Q : VK} {S2 : Sta} {u v : BV} {t t' t2 : Tr} {i : Nat} {d : D} (g : GoodE X W S Q (.ok (Ev.pick u (lvK u.k u.d) d))) (a2 : Aft S S2) (e2 : S2.τ = ⟨v.b, v.k, v.d, t'⟩ :: ⟨u.b, u.k, u.d, t⟩ :: S.τ) (R2 : S2.R X.K) (f1 : Fresh S u t)
    (e : (kidsD u.d)[i]? = some d) (e' : t.kids[i]? = some t2) : Q (valOf d t2) S2.H := by
  have R3 := Rl.pick ((R2.rl e2).pop) e e'
  have o := ((R2.rl e2).pop.tm _ List.mem_cons_self).1
  obtain ⟨t3, e3, o3, m3⟩ := kids_ob o e
  have et : t3 = t2 := Option.some.inj (e3.symm.trans e')
  subst et
  have pd_ : (Ev.pick u (lvK u.k u.d) d).d = d := by unfold Ev.pick; split <;> rfl
  have := g (S.put S2.Z S2.H (⟨(Ev.pick u (lvK u.k u.d) d).b, (Ev.pick u (lvK u.k u.d) d).k, d, t3⟩ :: S.τ)) t3 (Sta.aft_put a2.st) (by rw [pd_]; rfl) (a2.rl R3) (fun hb a m => ?_)
  · rw [pd_] at this
    exact this
  · rw [pd_] at m
    unfold Ev.pick at hb m
    by_cases hf : flat d = true
    · rw [if_pos hf] at m
      have m : a ∈ own none d t3 := m
      rw [flat_own d none t3 hf] at m
      cases m
    · rw [if_neg hf] at hb m
      exact f1 hb a (m3 a m)
theorem ixR_w : IxR X (wI X) := fun value slice pins s σ H x y v u Q I rx ry h hs => h value slice pins s σ v u I rx ry hs
theorem wI_of {r : R2} {x y : V} {H : Hp} {Q : VK} (h : IxR X r) (q : r x y H Q) : wI X x y H Q := fun value slice pins s σ v u I rx ry hs => h value slice pins s σ H x y v u Q I rx ry q hs
theorem se_ix {a b : Expr} {pos : Pos} {xa xb : Rho → Res BV} (ha : SE X W a xa) (hb : SE X W b xb) (hs : PlainIx b) : SE X W (.Subscript a b pos) (x2 ixD xa xb) := by
  intro S Q R g
  refine wE_of (pe_ix ixR_w pe_w pe_w hs) (two ha hb R g fun u v S2 t t' a2 e2 R2 f1 f2 g2 => ?_)
  have R2' := R2.rl e2
  have o := (R2'.tm _ (List.mem_cons_of_mem _ List.mem_cons_self)).1
  replace o : Ob X.K S2.Z S2.H u.k u.d t := o
  unfold ixD at g2
  cases hu : u.d <;> rw [hu] at g2 <;> first | exact g2.elim | skip
  · rename_i ds
    cases hv : v.d <;> rw [hv] at g2 <;> first | exact g2.elim | skip
    rename_i i
    dsimp only at g2
    cases q : atI ds i with
    | none => rw [q] at g2; exact g2.elim
    | some d =>
      rw [q] at g2
      rw [hu] at o
      simp only [Ob] at o
      obtain ⟨j, t2, h1, h2, h3⟩ := atI_valsOf o.2 q
      refine wI_of ix_list ⟨t.at, _, i, _, rfl, rfl, o.1.sq R2'.zh, h3, ?_⟩
      have e1 : lvK u.k u.d = pd u.k := by rw [hu]; rfl
      refine GoodE.part (i := j) (d := d) (by rw [e1]; exact g2) a2 e2 R2 f1 (by rw [hu]; exact h1) h2
  · rename_i ds
    cases hv : v.d <;> rw [hv] at g2 <;> first | exact g2.elim | skip
    rename_i i
    dsimp only at g2
    cases q : atI ds i with
    | none => rw [q] at g2; exact g2.elim
    | some d =>
      rw [q] at g2
      rw [hu] at o
      simp only [Ob] at o
      obtain ⟨j, t2, h1, h2, h3⟩ := atI_valsOf o.2 q
      refine wI_of ix_tup ⟨t.at, _, i, _, rfl, rfl, Same.sqT R2'.zh o.1, h3, ?_⟩
      have e1 : lvK u.k u.d = u.k := by rw [hu]; rfl
      refine GoodE.part (i := j) (d := d) (by rw [e1]; exact g2) a2 e2 R2 f1 (by rw [hu]; exact h1) h2

/-! ### calls of built-ins -/
/-- a built-in is as g says -/
def BlS (X : Cx) (W : WX) (f : Value) (g : List BV → Res BV) : Prop :=
  ∀ (S : Sta) (Q : VK) (vs : List BV) (S2 : Sta) (tr : List Tr), S.R X.K → Aft S S2 → tr.length = vs.length → S2.τ = stk vs tr ++ S.τ → S2.R X.K → (∀ a ∈ ownT (stk vs tr), S.H a = none) → (∀ v ∈ vs, Setd true v) → GoodE X W S Q (g vs) →
    wC X f (valsB vs tr) S2.H Q
theorem se_callB {g : List BV → Res BV} {x : Str} {p pos : Pos} {e : Expr} {es : List Expr} {xs : List (Rho → Res BV)} {id : String} (h : BlS X W (.builtin id) g) (hg : Gl X x) (hm : X.mg x = none) (hv : bootBuiltins x = some (.builtin id)) (ha : SA X W true (e :: es) xs)
    (hn : x ≠ "__name__") (hdb : (x == ("__debug__" : Str)) = false) (he : starEach (e :: es) X.env = (false, eval e X.env) :: starEach es X.env) (hpl : (backTo pos (starEach es X.env)).any (·.1) = false) : SE X W (.Call (.Name x p) (e :: es) [] pos) (xA true g xs) := by
  intro S Q R gd
  exact wE_of (pe_callB callR_w hg hm hv pa_w hn hdb he hpl) (SA.go ha R gd fun vs S2 tr a2 l2 e2 R2 f2 sd g2 => h S Q vs S2 tr R a2 l2 e2 R2 f2 sd g2)
theorem se_callTy {T : String} {g : List BV → Res BV} {x : Str} {p pos : Pos} {e : Expr} {es : List Expr} {xs : List (Rho → Res BV)} (h : BlS X W (.type T) g) (hg : Gl X x) (hm : X.mg x = none) (hv : bootBuiltins x = some (.type T)) (ha : SA X W true (e :: es) xs)
    (hn : x ≠ "__name__") (hdb : (x == ("__debug__" : Str)) = false) (he : starEach (e :: es) X.env = (false, eval e X.env) :: starEach es X.env) (hpl : (backTo pos (starEach es X.env)).any (·.1) = false) : SE X W (.Call (.Name x p) (e :: es) [] pos) (xA true g xs) := by
  intro S Q R gd
  exact wE_of (pe_callTy callR_w hg hm hv pa_w hn hdb he hpl) (SA.go ha R gd fun vs S2 tr a2 l2 e2 R2 f2 sd g2 => h S Q vs S2 tr R a2 l2 e2 R2 f2 sd g2)
theorem se_callBf {id : String} {g : List BV → Res BV} {x : Str} {p pos : Pos} {e : Expr} {es : List Expr} {xs : List (Rho → Res BV)} (h : BlS X W (.builtin id) g) (hg : Gl X x) (hm : X.mg x = some (.builtin id)) (ha : SA X W true (e :: es) xs)
    (hdb : (x == ("__debug__" : Str)) = false) (he : starEach (e :: es) X.env = (false, eval e X.env) :: starEach es X.env) (hpl : (backTo pos (starEach es X.env)).any (·.1) = false) : SE X W (.Call (.Name x p) (e :: es) [] pos) (xA true g xs) := by
  intro S Q R gd
  exact wE_of (pe_callBfun callR_w hg hm pa_w hdb he hpl) (SA.go ha R gd fun vs S2 tr a2 l2 e2 R2 f2 sd g2 => h S Q vs S2 tr R a2 l2 e2 R2 f2 sd g2)
/-- back behind the arguments -/
theorem argsBack {S2 : Sta} {cs : List Tm} (a2 : Aft S S2) (e2 : S2.τ = cs ++ S.τ) (R2 : S2.R X.K) : (S.put S2.Z S2.H S.τ).R X.K := by
  have R3 := R2.rl e2
  refine a2.rl (Rl.perm R3 (fun c h => List.mem_append_right _ h) ?_)
  have n := R3.nd
  rw [ownT_app, ← List.append_assoc] at n
  exact (List.nodup_append.mp n).2.1
/-- one argument, a plain result -/
def b1 (g : D → Res D) : List BV → Res BV
  | [v] => (g v.d).bind fun d => .ok ⟨false, none, d⟩
  | _ => .er
theorem BlS.one {f : Value} {g : D → Res D} (h : ∀ d r, g d = .ok r → scal r = true) (hz : ∀ d c, g d ≠ .rz c)
    (ho : ∀ (d r : D) (t : Tr) (Z H : Hp) (k : Lv) (Q : VK), g d = .ok r → Same Z H → Ob X.K Z H k d t → Q (valOf r t0) H → wC X f [valOf d t] H Q) : BlS X W f (b1 g) := by
  intro S Q vs S2 tr R a2 l2 e2 R2 f2 sd g2
  match vs, tr, l2 with
  | [], [], _ => exact g2.elim
  | [v], [t], _ =>
    replace g2 : GoodE X W S Q ((g v.d).bind fun d => .ok ⟨false, none, d⟩) := g2
    cases q : g v.d with
    | er => rw [q] at g2; exact g2.elim
    | rz c => exact absurd q (hz _ _)
    | ok r =>
      rw [q] at g2
      have R3 := R2.rl e2
      have o := (R3.tm ⟨v.b, v.k, v.d, t⟩ (List.mem_append_left _ (by simp [Ev.stk]))).1
      exact ho v.d r t S2.Z S2.H v.k Q q R3.zh o (GoodE.scal g2 (h _ _ q) a2.st (argsBack a2 e2 R2))
  | _ :: _ :: _, _ :: _ :: _, _ => exact g2.elim
def b2 (g : D → D → Res D) : List BV → Res BV
  | [u, v] => (g u.d v.d).bind fun d => .ok ⟨false, none, d⟩
  | _ => .er
theorem BlS.two {f : Value} {g : D → D → Res D} (h : ∀ d e r, g d e = .ok r → scal r = true) (hz : ∀ d e c, g d e ≠ .rz c)
    (ho : ∀ (d e r : D) (t t' : Tr) (Z H : Hp) (k k' : Lv) (Q : VK), g d e = .ok r → Same Z H → Ob X.K Z H k d t → Ob X.K Z H k' e t' → Q (valOf r t0) H → wC X f [valOf d t, valOf e t'] H Q) : BlS X W f (b2 g) := by
  intro S Q vs S2 tr R a2 l2 e2 R2 f2 sd g2
  match vs, tr, l2 with
  | [], [], _ => exact g2.elim
  | [_], [_], _ => exact g2.elim
  | [u, v], [t, t'], _ =>
    replace g2 : GoodE X W S Q ((g u.d v.d).bind fun d => .ok ⟨false, none, d⟩) := g2
    cases q : g u.d v.d with
    | er => rw [q] at g2; exact g2.elim
    | rz c => exact absurd q (hz _ _ _)
    | ok r =>
      rw [q] at g2
      have R3 := R2.rl e2
      have o1 := (R3.tm ⟨u.b, u.k, u.d, t⟩ (List.mem_append_left _ (by simp [Ev.stk]))).1
      have o2 := (R3.tm ⟨v.b, v.k, v.d, t'⟩ (List.mem_append_left _ (by simp [Ev.stk]))).1
      exact ho u.d v.d r t t' S2.Z S2.H u.k v.k Q q R3.zh o1 o2 (GoodE.scal g2 (h _ _ _ q) a2.st (argsBack a2 e2 R2))
  | _ :: _ :: _ :: _, _ :: _ :: _ :: _, _ => exact g2.elim
/-! len, int, abs, any, all, min, max, sum, gcd -/
def dLen : D → Res D
  | .str x => if x.length ≤ sizeLine then .ok (.int (x.length : Nat)) else .er
  | .list ds => .ok (.int (ds.length : Nat))
  | .tuple ds => .ok (.int (ds.length : Nat))
  | _ => .er
theorem bl_len : BlS X W (.builtin "len") (b1 dLen) := by
  refine BlS.one (fun d r q => ?_) (fun d c q => ?_) fun d r t Z H k Q q zh o hq => ?_
  · cases d <;> first | (cases q; done) | skip
    · simp only [dLen] at q
      split at q <;> cases q
      rfl
    · cases q; rfl
    · cases q; rfl
  · cases d <;> first | (cases q; done) | skip
    simp only [dLen] at q
    split at q <;> cases q
  · cases d <;> first | (cases q; done) | skip
    · simp only [dLen] at q
      split at q <;> cases q
      rename_i h
      exact wC_of call_len ⟨_, _, rfl, ⟨h, rfl⟩, hq⟩
    · cases q
      simp only [Ob] at o
      refine wC_of call_len ⟨_, _, rfl, .inl ⟨_, o.1.sq zh, rfl⟩, ?_⟩
      rw [valsOf_length o.2.len]
      exact hq
    · cases q
      simp only [Ob] at o
      refine wC_of call_len ⟨_, _, rfl, .inr ⟨_, Same.sqT zh o.1, rfl⟩, ?_⟩
      rw [valsOf_length o.2.len]
      exact hq
def dInt : D → Res D
  | .int i => .ok (.int i)
  | .bool b => .ok (.int (if b then 1 else 0))
  | _ => .er
theorem bl_int : BlS X W (.type "int") (b1 dInt) := by
  refine BlS.one (fun d r q => ?_) (fun d c q => ?_) fun d r t Z H k Q q zh o hq => ?_
  · cases d <;> cases q <;> rfl
  · cases d <;> cases q
  · cases d <;> cases q
    · exact wC_of call_int1 (.inr ⟨_, rfl, hq⟩)
    · exact wC_of call_int1 (.inl ⟨_, rfl, hq⟩)
def dAbs : D → Res D
  | .int i => .ok (.int (if i < 0 then -i else i))
  | _ => .er
theorem bl_abs : BlS X W (.builtin "abs") (b1 dAbs) := by
  refine BlS.one (fun d r q => ?_) (fun d c q => ?_) fun d r t Z H k Q q zh o hq => ?_
  · cases d <;> cases q
    rfl
  · cases d <;> cases q
  · cases d <;> cases q
    exact wC_of call_abs ⟨_, rfl, hq⟩
/-- the bools of a list -/
def boolsD : List D → Option (List Bool)
  | [] => some []
  | .bool b :: ds => (boolsD ds).map (b :: ·)
  | _ => none
theorem bools_vals : ∀ {ds : List D} {ts : List Tr} {bs : List Bool}, ds.length = ts.length → boolsD ds = some bs → valsOf ds ts = bs.map V.bl
  | [], ts, bs, _, h => by cases h; cases ts <;> rfl
  | .bool b :: ds, t :: ts, bs, hl, h => by
    simp only [boolsD] at h
    cases q : boolsD ds with
    | none => rw [q] at h; cases h
    | some cs =>
      rw [q] at h; cases h
      simp only [valsOf, List.map_cons, valOf]
      rw [bools_vals (by simpa using hl) q]
  | .bool _ :: _, [], _, hl, _ => by simp at hl
  | .none :: _, _, _, _, h => by cases h
  | .int _ :: _, _, _, _, h => by cases h
  | .str _ :: _, _, _, _, h => by cases h
  | .list _ :: _, _, _, _, h => by cases h
  | .tuple _ :: _, _, _, _, h => by cases h
  | .dict _ :: _, _, _, _, h => by cases h
def intsD : List D → Option (List Int)
  | [] => some []
  | .int b :: ds => (intsD ds).map (b :: ·)
  | _ => none
theorem ints_vals : ∀ {ds : List D} {ts : List Tr} {bs : List Int}, ds.length = ts.length → intsD ds = some bs → valsOf ds ts = bs.map V.int
  | [], ts, bs, _, h => by cases h; cases ts <;> rfl
  | .int b :: ds, t :: ts, bs, hl, h => by
    simp only [intsD] at h
    cases q : intsD ds with
    | none => rw [q] at h; cases h
    | some cs =>
      rw [q] at h; cases h
      simp only [valsOf, List.map_cons, valOf]
      rw [ints_vals (by simpa using hl) q]
  | .int _ :: _, [], _, hl, _ => by simp at hl
  | .none :: _, _, _, _, h => by cases h
  | .bool _ :: _, _, _, _, h => by cases h
  | .str _ :: _, _, _, _, h => by cases h
  | .list _ :: _, _, _, _, h => by cases h
  | .tuple _ :: _, _, _, _, h => by cases h
  | .dict _ :: _, _, _, _, h => by cases h
def dQuant (f : List Bool → Bool) : D → Res D
  | .list ds => match boolsD ds with
    | some bs => .ok (.bool (f bs))
    | none => .er
  | _ => .er
theorem bl_quant {f : List Bool → Bool} {id : String} (hc : CallR X (.builtin id) (fun vs H Q => ∃ (a : Addr) (bs : List Bool), vs = [V.ref a] ∧ SqL X.K H a (bs.map V.bl) ∧ Q (.bl (f bs)) H)) : BlS X W (.builtin id) (b1 (dQuant f)) := by
  refine BlS.one (fun d r q => ?_) (fun d c q => ?_) fun d r t Z H k Q q zh o hq => ?_
  · cases d <;> first | (cases q; done) | skip
    simp only [dQuant] at q
    split at q <;> cases q
    rfl
  · cases d <;> first | (cases q; done) | skip
    simp only [dQuant] at q
    split at q <;> cases q
  · cases d <;> first | (cases q; done) | skip
    simp only [dQuant] at q
    split at q <;> cases q
    rename_i bs h
    simp only [Ob] at o
    refine wC_of hc ⟨t.at, bs, rfl, ?_, hq⟩
    rw [← bools_vals o.2.len h]
    exact o.1.sq zh
theorem bl_any (hc : X.calm = true) : BlS X W (.builtin "any") (b1 (dQuant fun bs => bs.any id)) := bl_quant (cr_any hc)
theorem bl_all (hc : X.calm = true) : BlS X W (.builtin "all") (b1 (dQuant fun bs => bs.all id)) := bl_quant (cr_all hc)
def minI : List Int → Int
  | [] => 0
  | [a] => a
  | a :: b :: r => min a (minI (b :: r))
def maxI : List Int → Int
  | [] => 0
  | [a] => a
  | a :: b :: r => max a (maxI (b :: r))
theorem minI_le : ∀ {l : List Int} {y : Int}, y ∈ l → minI l ≤ y
  | [a], y, h => by simp at h; subst h; exact Int.le_refl _
  | a :: b :: r, y, h => by
    show min a (minI (b :: r)) ≤ y
    rcases List.mem_cons.mp h with h | h
    · subst h; exact Int.min_le_left _ _
    · exact Int.le_trans (Int.min_le_right _ _) (minI_le h)
theorem minI_mem : ∀ {l : List Int}, 0 < l.length → minI l ∈ l
  | [a], _ => by simp [minI]
  | a :: b :: r, _ => by
    show min a (minI (b :: r)) ∈ a :: b :: r
    have := minI_mem (l := b :: r) (by simp)
    rcases Int.le_total a (minI (b :: r)) with h | h
    · rw [Int.min_eq_left h]; exact List.mem_cons_self
    · rw [Int.min_eq_right h]; exact List.mem_cons_of_mem _ this
theorem le_maxI : ∀ {l : List Int} {y : Int}, y ∈ l → y ≤ maxI l
  | [a], y, h => by simp at h; subst h; exact Int.le_refl _
  | a :: b :: r, y, h => by
    show y ≤ max a (maxI (b :: r))
    rcases List.mem_cons.mp h with h | h
    · subst h; exact Int.le_max_left _ _
    · exact Int.le_trans (le_maxI h) (Int.le_max_right _ _)
theorem maxI_mem : ∀ {l : List Int}, 0 < l.length → maxI l ∈ l
  | [a], _ => by simp [maxI]
  | a :: b :: r, _ => by
    show max a (maxI (b :: r)) ∈ a :: b :: r
    have := maxI_mem (l := b :: r) (by simp)
    rcases Int.le_total a (maxI (b :: r)) with h | h
    · rw [Int.max_eq_right h]; exact List.mem_cons_of_mem _ this
    · rw [Int.max_eq_left h]; exact List.mem_cons_self
def dIntsF (f : List Int → Res Int) : D → Res D
  | .list ds => match intsD ds with
    | some bs => (f bs).bind fun i => .ok (.int i)
    | none => .er
  | _ => .er
theorem bl_ints {f : List Int → Res Int} {id : String} (hz : ∀ l c, f l ≠ .rz c) (hc : CallR X (.builtin id) (fun vs H Q => ∃ (a : Addr) (bs : List Int) (i : Int), vs = [V.ref a] ∧ SqL X.K H a (bs.map V.int) ∧ f bs = .ok i ∧ Q (.int i) H)) : BlS X W (.builtin id) (b1 (dIntsF f)) := by
  refine BlS.one (fun d r q => ?_) (fun d c q => ?_) fun d r t Z H k Q q zh o hq => ?_
  · cases d <;> first | (cases q; done) | skip
    simp only [dIntsF] at q
    split at q <;> first | (cases q; done) | skip
    rename_i bs h
    cases q2 : f bs <;> rw [q2] at q <;> cases q
    rfl
  · cases d <;> first | (cases q; done) | skip
    simp only [dIntsF] at q
    split at q <;> first | (cases q; done) | skip
    rename_i bs h
    cases q2 : f bs <;> rw [q2] at q <;> cases q
    exact absurd q2 (hz _ _)
  · cases d <;> first | (cases q; done) | skip
    simp only [dIntsF] at q
    split at q <;> first | (cases q; done) | skip
    rename_i bs h
    cases q2 : f bs <;> rw [q2] at q <;> cases q
    simp only [Ob] at o
    refine wC_of hc ⟨t.at, bs, _, rfl, ?_, q2, hq⟩
    rw [← ints_vals o.2.len h]
    exact o.1.sq zh
def fMin (l : List Int) : Res Int := if 0 < l.length then .ok (minI l) else .er
def fMax (l : List Int) : Res Int := if 0 < l.length then .ok (maxI l) else .er
def fSum (l : List Int) : Res Int := .ok l.sum
theorem bl_min (hc : X.calm = true) : BlS X W (.builtin "min") (b1 (dIntsF fMin)) := by
  refine bl_ints (fun l c q => ?_) fun pins s σ H xs us Q I r h => ?_
  · unfold fMin at q
    split at q <;> cases q
  · obtain ⟨a, bs, i, rfl, hs, q, hq⟩ := h
    unfold fMin at q
    split at q <;> cases q
    rename_i hl
    refine cr_min hc pins s σ H _ us Q I r ⟨a, bs, rfl, hs, hl, fun m h1 h2 => ?_⟩
    have e : m = minI bs := Int.le_antisymm (h2 _ (minI_mem hl)) (minI_le h1)
    rw [e]
    exact hq
theorem bl_max (hc : X.calm = true) : BlS X W (.builtin "max") (b1 (dIntsF fMax)) := by
  refine bl_ints (fun l c q => ?_) fun pins s σ H xs us Q I r h => ?_
  · unfold fMax at q
    split at q <;> cases q
  · obtain ⟨a, bs, i, rfl, hs, q, hq⟩ := h
    unfold fMax at q
    split at q <;> cases q
    rename_i hl
    refine cr_max hc pins s σ H _ us Q I r ⟨a, bs, rfl, hs, hl, fun m h1 h2 => ?_⟩
    have e : m = maxI bs := Int.le_antisymm (le_maxI h1) (h2 _ (maxI_mem hl))
    rw [e]
    exact hq
theorem bl_sum (hc : X.calm = true) : BlS X W (.builtin "sum") (b1 (dIntsF fSum)) := by
  refine bl_ints (fun l c q => by cases q) fun pins s σ H xs us Q I r h => ?_
  obtain ⟨a, bs, i, rfl, hs, q, hq⟩ := h
  cases q
  exact cr_sum hc pins s σ H _ us Q I r ⟨a, bs, rfl, hs, hq⟩
def dGcd : D → D → Res D
  | .int a, .int b => .ok (.int ((Nat.gcd a.natAbs b.natAbs : Nat) : Int))
  | _, _ => .er
theorem bl_gcd : BlS X W (.builtin "math.gcd") (b2 dGcd) := by
  refine BlS.two (fun d e r q => ?_) (fun d e c q => ?_) fun d e r t t' Z H k k' Q q zh o o' hq => ?_
  · cases d <;> cases e <;> cases q
    rfl
  · cases d <;> cases e <;> cases q
  · cases d <;> cases e <;> cases q
    exact wC_of cr_gcd ⟨_, _, rfl, hq⟩
def dMin2 : D → D → Res D
  | .int a, .int b => .ok (.int (if b < a then b else a))
  | _, _ => .er
theorem bl_min2 (hc : X.calm = true) : BlS X W (.builtin "min") (b2 dMin2) := by
  refine BlS.two (fun d e r q => ?_) (fun d e c q => ?_) fun d e r t t' Z H k k' Q q zh o o' hq => ?_
  · cases d <;> cases e <;> cases q
    rfl
  · cases d <;> cases e <;> cases q
  · cases d <;> cases e <;> cases q
    exact wC_of (call_min2 hc) ⟨_, _, rfl, hq⟩
/-! isinstance -/
def tyD : D → String
  | .none => "NoneType"
  | .bool _ => "bool"
  | .int _ => "int"
  | .str _ => "str"
  | .list _ => "list"
  | .tuple _ => "tuple"
  | .dict _ => "dict"
theorem tyX_ob {K : PySem.W.Frag} {Z H : Hp} {k : Lv} {d : D} {t : Tr} (zh : Same Z H) (o : Ob K Z H k d t) : TyX K H (valOf d t) (.type (tyD d)) := by
  cases d with
  | none => exact .base .non
  | bool b => exact .base (.bl b)
  | int i => exact .base (.int i)
  | str x => exact .base (.str x)
  | list ds =>
    simp only [Ob] at o
    rcases o.1.rdl zh with (h | ⟨ob, h⟩) | ⟨its, n, _, _, h⟩
    · exact .base (.lst h)
    · exact .base (.frz h)
    · exact .kList h rfl
  | tuple ds =>
    simp only [Ob] at o
    rcases Same.sqT zh o.1 with (h | ⟨ob, h⟩) | ⟨ob, its, n, h, c, _⟩
    · exact .base (.tup h)
    · exact .fTuple h
    · exact .kTuple h c
  | dict kvs =>
    simp only [Ob] at o
    exact .base (.dK (o.1.rd zh))
def dIsi (T : String) (d : D) : Res D := match kitB (tyD d) T with
  | some b => .ok (.bool b)
  | none => .er
theorem se_isi {T : String} {x : Str} {p p2 pos : Pos} {e : Expr} {xe : Rho → Res BV} (he : SE X W e xe) (hg : Gl X "isinstance") (hm : X.mg "isinstance" = none) (hv : bootBuiltins "isinstance" = some (.builtin "isinstance"))
    (hT : Gl X x) (hmT : X.mg x = none) (hvT : bootBuiltins x = some (.type T)) (hn : x ≠ "__name__") (hd : (x == ("__debug__" : Str)) = false)
    (hs : starEach [e, .Name x p2] X.env = (false, eval e X.env) :: starEach [.Name x p2] X.env) (hs2 : starEach [.Name x p2] X.env = (false, eval (.Name x p2) X.env) :: starEach [] X.env) (hpl : (backTo pos (starEach [.Name x p2] X.env)).any (·.1) = false) :
    SE X W (.Call (.Name "isinstance" p) [e, .Name x p2] [] pos) (x1 (p1 (dIsi T)) xe) := by
  intro S Q R g
  refine wE_of (pe_callB call_isi hg hm hv (pa_cons pe_w (pa_cons (pe_bltn (v := .ty T) hT hmT hvT rfl hn hd) pa_nil hs2) hs) (by decide) (by decide) hs hpl) ?_
  refine one he R g fun u S1 t a1 e1 R1 f1 g1 => ?_
  replace g1 : GoodE X W S Q ((dIsi T u.d).bind fun d => .ok ⟨false, none, d⟩) := g1
  unfold dIsi at g1
  obtain ⟨o, zh⟩ := R1.tm1 e1
  cases q : kitB (tyD u.d) T with
  | none => rw [q] at g1; exact g1.elim
  | some b =>
    rw [q] at g1
    have R2 := R1.pop (X := X) e1
    rw [a1.back] at R2
    exact ⟨_, _, _, _, b, rfl, .ty T, tyX_ob zh o, kit_ty q, GoodE.scal g1 rfl a1.st R2⟩
/-! n.bit_length() -/
def dBits : D → Res D
  | .int i => .ok (.int (Builtin.Int.intBits i : Nat))
  | _ => .er
theorem se_bits {o : Expr} {apos pos : Pos} {xo : Rho → Res BV} (ho : SE X W o xo) (hbase : attributeBase o "bit_length" X.env (eval o X.env) = eval o X.env) (hline : (apos.endLine == pos.line) = true) : SE X W (.Call (.Attribute o "bit_length" apos) [] [] pos) (x1 (p1 dBits) xo) := by
  intro S Q R g
  refine wE_of (pe_bits pe_w hbase hline) (one ho R g fun u S1 t a1 e1 R1 f1 g1 => ?_)
  unfold p1 at g1
  cases hd : u.d <;> rw [hd] at g1 <;> first | exact g1.elim | skip
  have R2 := R1.pop (X := X) e1
  rw [a1.back] at R2
  exact ⟨_, rfl, GoodE.scal g1 rfl a1.st R2⟩
end
end Ev

set_option Elab.async false
set_option linter.all false
set_option maxRecDepth 100000
namespace Ev
open PySem PySem.Spec PyProof.Rows L2

/-! ### the calls of own defs -/
structure RoomG (k : Nat) (A : Around) : Prop where
  r : Room k A
  g : A.guards = some []
theorem RoomG.mono {j k : Nat} {A : Around} (r : RoomG k A) (h : j ≤ k) : RoomG j A := ⟨r.r.mono h, r.g⟩
/-- what a def's answer asks -/
def GoodC (K : PySem.W.Frag) (mg : Str → Option Value) (Z H : Hp) (Q : VK) (E : XK) : Res (Lv × D) → Prop
  | .ok r => ∀ (Z' H' : Hp) (t : Tr), Step Z H Z' H' → Same Z' H' → Ob K Z' H' r.1 r.2 t → (own r.1 r.2 t).Nodup → (∀ a ∈ own r.1 r.2 t, H a = none) → Q (valOf r.2 t) H'
  | .rz c => ∀ Z' H' : Hp, Step Z H Z' H' → Same Z' H' → ∀ C, mg c = some (.ref C) → E (.ref C) none H'
  | .er => False
/-- the def at f of n parameters answers as φ says -/
structure FnS (P : Program) (w : World) (K : PySem.W.Frag) (mg : Str → Option Value) (base : Heap) (k : Nat) (f : Addr) (n : Nat) (φ : List D → Res (Lv × D)) : Prop where
  run : ∀ (A : Around) (outer : List Env) (s : Shared) (H : Hp) (us : List Value) (Z : Hp) (ds : List D) (ts : List Tr) (Q : VK) (E : XK), RoomG k A → Env0 P w K mg base A outer s H → Vals (valsOf ds ts) us → ds.length = n → Same Z H → Obs K Z H (some 0) ds ts →
    GoodC K mg Z H Q E (φ ds) → codeAny (model P w) A (.call (.ref f) ⟨us, []⟩) (CR (L2.CX P w) outer P w H s Q E) s
theorem FnS.mono {P : Program} {w : World} {K : PySem.W.Frag} {mg : Str → Option Value} {base : Heap} {j k : Nat} {f : Addr} {n : Nat} {φ : List D → Res (Lv × D)} (F : FnS P w K mg base j f n φ) (h : j ≤ k) : FnS P w K mg base k f n φ :=
  ⟨fun A outer s H us Z ds ts Q E hr => F.run A outer s H us Z ds ts Q E (hr.mono h)⟩
def xCall (φ : List D → Res (Lv × D)) (n : Nat) (vs : List BV) : Res BV := if vs.length = n then (φ (dsB vs)).bind fun r =>
    if flat r.2 = true then .ok ⟨false, none, r.2⟩ else if r.1 = none then .ok ⟨false, none, r.2⟩ else if (vs.all fun v => v.k == some 0 || flat v.d) = true then .ok ⟨false, r.1, r.2⟩ else .er
  else .er
/-- all objects of the values under way, whosever they are -/
def ownU : List Tm → List Addr
  | [] => []
  | c :: τ => own c.k c.d c.t ++ ownU τ
theorem ownU_mem : ∀ {τ : List Tm} {c : Tm}, c ∈ τ → ∀ a ∈ own c.k c.d c.t, a ∈ ownU τ
  | [], _, h, _, _ => by cases h
  | e :: τ, c, h, a, m => by
    simp only [ownU]
    rcases List.mem_cons.mp h with h | h
    · subst h; exact List.mem_append_left _ m
    · exact List.mem_append_right _ (ownU_mem h a m)
theorem of_ownU : ∀ {τ : List Tm} {a : Addr}, a ∈ ownU τ → ∃ c ∈ τ, a ∈ own c.k c.d c.t
  | [], _, h => by cases h
  | e :: τ, a, h => by
    simp only [ownU] at h
    rcases List.mem_append.mp h with h | h
    · exact ⟨e, List.mem_cons_self, h⟩
    · obtain ⟨c, hc, m⟩ := of_ownU h
      exact ⟨c, List.mem_cons_of_mem _ hc, m⟩
def hideZ (Z : Hp) (A : List Addr) : Hp := fun a => if a ∈ A then none else Z a
mutual
/-- an answer that is all its own does not lean on what was lent -/
theorem Ob.hide {K : PySem.W.Frag} {Z H : Hp} {A : List Addr} (hA : ∀ a ∈ A, ∀ xs, ¬ Rd Z a (.tup xs)) : ∀ (d : D) (t : Tr), Ob K Z H none d t → Ob K (hideZ Z A) H none d t
  | .tuple ds, t, h => by
    simp only [Ob] at *
    refine ⟨?_, Obs.hide hA ds t.kids h.2⟩
    rcases h.1 with q | q
    · have n : t.at ∉ A := fun m => hA _ m _ q
      refine .inl ?_
      unfold Rd hideZ
      simp only [if_neg n]
      exact q
    · exact .inr q
  | .list ds, t, h => by
    simp only [Ob] at *
    refine ⟨?_, Obs.hide hA ds t.kids h.2⟩
    have q := h.1
    unfold LstAt at q ⊢
    rw [if_neg (by simp)] at q ⊢
    refine ⟨?_, q.2⟩
    unfold hideZ
    split
    · rfl
    · exact q.1
  | .dict kvs, t, h => by
    simp only [Ob] at *
    refine ⟨?_, ObK.hide hA kvs t.kids h.2⟩
    have q := h.1
    unfold DctAt at q ⊢
    rw [if_neg (by simp)] at q ⊢
    refine ⟨?_, q.2⟩
    unfold hideZ
    split
    · rfl
    · exact q.1
  | .none, _, _ => by simp only [Ob]
  | .bool _, _, _ => by simp only [Ob]
  | .int _, _, _ => by simp only [Ob]
  | .str _, _, _ => by simp only [Ob]
theorem Obs.hide {K : PySem.W.Frag} {Z H : Hp} {A : List Addr} (hA : ∀ a ∈ A, ∀ xs, ¬ Rd Z a (.tup xs)) : ∀ (ds : List D) (ts : List Tr), Obs K Z H none ds ts → Obs K (hideZ Z A) H none ds ts
  | [], [], _ => by simp only [Obs]
  | d :: ds, t :: ts, h => by
    simp only [Obs] at *
    exact ⟨Ob.hide hA d t h.1, Obs.hide hA ds ts h.2⟩
  | [], _ :: _, h => by simp only [Obs] at h
  | _ :: _, [], h => by simp only [Obs] at h
theorem ObK.hide {K : PySem.W.Frag} {Z H : Hp} {A : List Addr} (hA : ∀ a ∈ A, ∀ xs, ¬ Rd Z a (.tup xs)) : ∀ (ds : List (D × D)) (ts : List Tr), ObK K Z H none ds ts → ObK K (hideZ Z A) H none ds ts
  | [], [], _ => by simp only [ObK]
  | (q, d) :: ds, t :: ts, h => by
    simp only [ObK] at *
    exact ⟨h.1, Ob.hide hA d t h.2.1, ObK.hide hA ds ts h.2.2⟩
  | [], _ :: _, h => by simp only [ObK] at h
  | _ :: _, [], h => by simp only [ObK] at h
end
section
variable {X : Cx} {W : WX} {S : Sta} {k : Nat} {f : Addr} {n : Nat} {φ : List D → Res (Lv × D)}
theorem stk_frz {Z H Z' : Hp} (zz : Same Z Z') : ∀ {vs : List BV} {tr : List Tr}, tr.length = vs.length → (∀ c ∈ stk vs tr, Ob X.K Z H c.k c.d c.t ∧ ∀ a ∈ own c.k c.d c.t, Z' a = H a) → Obs X.K Z' H (some 0) (dsB vs) tr
  | [], [], _, _ => by simp [dsB, Obs]
  | [], _ :: _, h, _ => by simp at h
  | v :: vs, [], h, _ => by simp at h
  | v :: vs, t :: tr, h, hc => by
    rw [stk_cons] at hc
    obtain ⟨o, m⟩ := hc ⟨v.b, v.k, v.d, t⟩ (List.mem_append_right _ (by simp))
    show Obs X.K Z' H (some 0) (v.d :: dsB vs) (t :: tr)
    simp only [Obs]
    exact ⟨Ob.freeze zz v.d v.k t o m, stk_frz zz (by simpa using h) fun c h => hc c (List.mem_append_left _ h)⟩
/-- a call of a value in the slots σ -/
def wF (X : Cx) (f : Value) (σ : L2.St) : List V → Hp → VK → Prop := fun xs H Q => ∀ (pins : List (Addr × Obj)) (s : Shared) (us : List Value), Inv X pins σ H s → Vals xs us → wpAny (model X.prog X.w) X.A (call f us) (EP X pins σ Q) X.xe s
theorem fn_go (F : FnS X.prog X.w X.K X.mg X.base k f n φ) (hr : RoomG k X.A) (tk : Takes X W) {Q : VK} {vs : List BV} {S2 : Sta} {tr : List Tr} (R : S.R X.K) (a2 : Aft S S2) (l2 : tr.length = vs.length) (e2 : S2.τ = stk vs tr ++ S.τ) (R2 : S2.R X.K)
    (f2 : ∀ a ∈ ownT (stk vs tr), S.H a = none) (g2 : GoodE X W S Q (xCall φ n vs)) : wF X (.ref f) S.σ (valsB vs tr) S2.H Q := by
  intro pins s us I rv
  have R3 := R2.rl e2
  unfold xCall at g2
  by_cases hn : vs.length = n
  · rw [if_pos hn] at g2
    have hA : ∀ a ∈ ownU (stk vs tr), S2.Z a = none ∧ ∃ o, S2.H a = some o ∧ (∀ xs, o ≠ .tup xs) ∧ ∀ u w, o ≠ .frz u w := fun a m => by
      obtain ⟨c, hc, m⟩ := of_ownU m
      exact Ob.own c.d c.k c.t (R3.tm c (List.mem_append_left _ hc)).1 a m
    have zz : Same S2.Z (frzZ S2.Z S2.H (ownU (stk vs tr))) := fun b o e => by
      unfold frzZ
      split
      · rename_i h
        rw [(hA b h).1] at e; cases e
      · exact e
    have zh : Same (frzZ S2.Z S2.H (ownU (stk vs tr))) S2.H := fun b o e => by
      unfold frzZ at e
      split at e
      · exact e
      · exact R3.zh _ _ e
    have ob := stk_frz (X := X) zz l2 (H := S2.H) fun c hc => ⟨(R3.tm c (List.mem_append_left _ hc)).1, fun a m => by unfold frzZ; rw [if_pos (ownU_mem hc a m)]⟩
    have step : ∀ {Z' H' : Hp}, Step (frzZ S2.Z S2.H (ownU (stk vs tr))) S2.H Z' H' → Step S2.Z S2.H (hideZ Z' (ownU (stk vs tr))) H' := fun {Z' H'} s => by
      refine ⟨fun b o e => ?_, s.hh, fun b o e => ?_⟩
      · have nb : b ∉ ownU (stk vs tr) := fun m => by rw [(hA b m).1] at e; cases e
        unfold hideZ
        rw [if_neg nb]
        exact s.zz _ _ (zz _ _ e)
      · unfold hideZ at e
        split at e
        · cases e
        · rename_i nb
          rcases s.zn b o e with q | q
          · unfold frzZ at q
            rw [if_neg nb] at q
            exact .inl q
          · exact .inr q
    have sameH : ∀ {Z' H' : Hp}, Same Z' H' → Same (hideZ Z' (ownU (stk vs tr))) H' := fun {Z' H'} s b o e => by
      unfold hideZ at e
      split at e
      · cases e
      · exact s _ _ e
    have R4 := argsBack a2 e2 R2
    rw [valsB_of] at rv
    refine wpAny_call (codeAny_mono (F.run X.A X.stack s S2.H us _ (dsB vs) tr Q (fun cls d H' => W cls d S.σ H') hr I.env0 rv (by simp [dsB, hn]) zh ob ?_) fun r s' hq => ?_)
    · cases q : φ (dsB vs) with
      | er => rw [q] at g2; exact g2
      | rz c =>
        rw [q] at g2
        intro Z' H' s zh' C hC
        have sc := step s
        have R5 : (S.put (hideZ Z' (ownU (stk vs tr))) H' S.τ).R X.K := Rl.step R4 sc (sameH zh')
        exact g2 (S.put (hideZ Z' (ownU (stk vs tr))) H' S.τ) (Sta.aft_put (a2.st.trans sc)) rfl R5 C hC
      | ok r =>
        rw [q] at g2
        intro Z' H' t s zh' o nd fr
        have sc := step s
        have R5 : (S.put (hideZ Z' (ownU (stk vs tr))) H' S.τ).R X.K := Rl.step R4 sc (sameH zh')
        have low : ∀ a ∈ own r.1 r.2 t, a ∉ ownR S.ρ S.ts ++ ownT S.τ := fun a m z => by
          obtain ⟨_, o, e, _⟩ := Rl.own_z R4 a z
          have e' : S2.H a = some o := e
          rw [fr a m] at e'; cases e'
        have h0 : ∀ a ∈ own r.1 r.2 t, S.H0 a = none := fun a m => Same.free (Rl.h0 R4) (fr a m)
        have hb : ∀ a ∈ own r.1 r.2 t, S.H a = none := fun a m => a2.st.hh.free (fr a m)
        have hid : Ob X.K Z' H' none r.2 t → Ob X.K (hideZ Z' (ownU (stk vs tr))) H' none r.2 t := fun o => by
          refine Ob.hide (fun a m xs rd => ?_) r.2 t o
          obtain ⟨_, o', e, n1, n2⟩ := hA a m
          have e' : Z' a = some o' := s.zz _ _ (by unfold frzZ; rw [if_pos m]; exact e)
          rcases rd with rd | ⟨u, rd⟩
          · rw [rd] at e'; cases e'; exact n1 _ rfl
          · rw [rd] at e'; cases e'; exact n2 _ _ rfl
        have fin : ∀ k' : Lv, Ob X.K (hideZ Z' (ownU (stk vs tr))) H' k' r.2 t → (∀ a ∈ own k' r.2 t, a ∈ own r.1 r.2 t) → (own k' r.2 t).Nodup → GoodE X W S Q (.ok ⟨false, k', r.2⟩) → Q (valOf r.2 t) H' := fun k' o hs hnd g => by
          refine g (S.put (hideZ Z' (ownU (stk vs tr))) H' (⟨false, k', r.2, t⟩ :: S.τ)) t (Sta.aft_put (a2.st.trans sc)) rfl ?_ fun _ a m => hb a (hs a m)
          exact Rl.push R5 o (fun z => nomatch z) fun _ => ⟨hnd, fun a m => low a (hs a m), fun a m => h0 a (hs a m)⟩
        replace g2 : GoodE X W S Q (if flat r.2 = true then .ok ⟨false, none, r.2⟩ else if r.1 = none then .ok ⟨false, none, r.2⟩ else if (vs.all fun v => v.k == some 0 || flat v.d) = true then .ok ⟨false, r.1, r.2⟩ else .er) := g2
        by_cases hf : flat r.2 = true
        · rw [if_pos hf] at g2
          exact fin none (hid (flat_ob r.2 r.1 none t hf o)) (fun a m => by rw [flat_own r.2 none t hf] at m; cases m) (by rw [flat_own r.2 none t hf]; exact List.Pairwise.nil) g2
        · rw [if_neg hf] at g2
          by_cases hk : r.1 = none
          · rw [if_pos hk] at g2
            rw [hk] at o
            exact fin none (hid o) (fun a m => by rw [hk]; exact m) (by rw [← hk]; exact nd) g2
          · rw [if_neg hk] at g2
            split at g2
            · rename_i hall
              have e0 : ownU (stk vs tr) = [] := by
                have : ∀ a, a ∉ ownU (stk vs tr) := fun a m => by
                  obtain ⟨c, hc, m⟩ := of_ownU m
                  obtain ⟨v, t, hv, e⟩ := stk_mem hc
                  subst e
                  rw [List.all_eq_true] at hall
                  have := hall v hv
                  rw [Bool.or_eq_true] at this
                  rcases this with h | h
                  · have h : v.k = some 0 := by simpa using h
                    have m : a ∈ own v.k v.d t := m
                    rw [h, own_zero] at m; cases m
                  · have m : a ∈ own v.k v.d t := m
                    rw [flat_own v.d v.k t h] at m; cases m
                exact List.eq_nil_iff_forall_not_mem.mpr this
              have ez : hideZ Z' (ownU (stk vs tr)) = Z' := by
                funext a
                unfold hideZ
                rw [e0]
                simp
              exact fin r.1 (by rw [ez]; exact o) (fun _ m => m) nd g2
            · exact g2.elim
    · cases r with
      | error e => exact tk _ _ (XE.of_call I (fun cls d H' h => h) hq)
      | ok fl =>
        cases fl with
        | ret u => exact I.after hq
        | next => exact False.elim hq
        | brk => exact False.elim hq
        | cont => exact False.elim hq
  · rw [if_neg hn] at g2
    exact g2.elim
theorem se_call {x : Str} {p pos : Pos} {e : Expr} {es : List Expr} {xs : List (Rho → Res BV)} (F : FnS X.prog X.w X.K X.mg X.base k f n φ) (hr : RoomG k X.A) (tk : Takes X W) (hg : Gl X x) (hm : X.mg x = some (.ref f)) (hk : PySem.W.keepIn X.K (.ref f) = true)
    (ha : SA X W true (e :: es) xs) (hdb : (x == ("__debug__" : Str)) = false) (he : starEach (e :: es) X.env = (false, eval e X.env) :: starEach es X.env) (hpl : (backTo pos (starEach es X.env)).any (·.1) = false) : SE X W (.Call (.Name x p) (e :: es) [] pos) (xA true (xCall φ n) xs) := by
  intro S Q R g pins s I
  refine wpAny_Call_Name_kw (ld_glob I hg hm ?_ hdb)
  refine PySem.W.callWith_K (h₀ := X.base) I.ok.mod.kin hk (thn (SA.go ha R g (Q' := fun vs H1 => wF X (.ref f) S.σ vs H1 Q) (fun vs S2 tr a2 l2 e2 R2 f2 sd g2 => fn_go F hr tk R a2 l2 e2 R2 f2 g2) pos pins s I) fun us s1 hh => ?_) he hpl
  obtain ⟨vs, H1, I1, r, q⟩ := hh
  exact ⟨I1.kIn, q pins s1 us I1 r⟩
end
end Ev

set_option Elab.async false
set_option linter.all false
set_option maxRecDepth 100000
namespace Ev
open PySem PySem.Spec PyProof.Rows L2

/-! ### slots stored -/
def killA (i : Nat) (ρ : Rho) : Rho := ρ.map fun s => match s with
  | .al j p => if j = i then .em else .al j p
  | s => s
def setSl (ρ : Rho) (i : Nat) (s : Sl) : Rho := (killA i ρ).set i s
def partS : Sl → Tr → List Addr
  | .va k d, t => own k d t
  | _, _ => []
theorem ownR_cons (s : Sl) (ρ : Rho) (t : Tr) (ts : List Tr) : ownR (s :: ρ) (t :: ts) = partS s t ++ ownR ρ ts := by
  cases s <;> simp [ownR, partS]
theorem ownR_kill {i : Nat} : ∀ {ρ : Rho} {ts : List Tr}, ownR (killA i ρ) ts = ownR ρ ts
  | [], ts => by cases ts <;> rfl
  | s :: ρ, [] => by cases s <;> simp [killA, ownR]
  | s :: ρ, t :: ts => by
    have ih := ownR_kill (i := i) (ρ := ρ) (ts := ts)
    unfold killA at ih ⊢
    rw [List.map_cons, ownR_cons, ownR_cons, ih]
    congr 1
    cases s with
    | em => rfl
    | ex a0 => rfl
    | va k d => rfl
    | al j p =>
      by_cases h : j = i
      · simp [h, partS]
      · simp [h, partS]
theorem ownR_split : ∀ {ρ : Rho} {ts : List Tr} {i : Nat}, i < ρ.length → i < ts.length → ∃ s t rest, ρ[i]? = some s ∧ ts[i]? = some t ∧ (ownR ρ ts).Perm (partS s t ++ rest) ∧ ∀ s' t', (ownR (ρ.set i s') (ts.set i t')).Perm (partS s' t' ++ rest)
  | [], _, _, h, _ => by simp at h
  | _ :: _, [], _, _, h => by simp at h
  | s :: ρ, t :: ts, 0, _, _ => ⟨s, t, ownR ρ ts, by simp, by simp, by rw [ownR_cons], fun s' t' => by rw [List.set_cons_zero, List.set_cons_zero, ownR_cons]⟩
  | s :: ρ, t :: ts, i + 1, h1, h2 => by
    obtain ⟨s0, t0, rest, e1, e2, p1, p2⟩ := ownR_split (ρ := ρ) (ts := ts) (i := i) (by simpa using h1) (by simpa using h2)
    refine ⟨s0, t0, partS s t ++ rest, by simpa using e1, by simpa using e2, ?_, fun s' t' => ?_⟩
    · rw [ownR_cons]
      refine (List.Perm.append_left _ p1).trans ?_
      rw [← List.append_assoc, ← List.append_assoc]
      exact List.Perm.append_right _ List.perm_append_comm
    · rw [List.set_cons_succ, List.set_cons_succ, ownR_cons]
      refine (List.Perm.append_left _ (p2 s' t')).trans ?_
      rw [← List.append_assoc, ← List.append_assoc]
      exact List.Perm.append_right _ List.perm_append_comm
theorem killA_get {i j : Nat} {ρ : Rho} {s : Sl} (h : (killA i ρ)[j]? = some s) : ∃ s0, ρ[j]? = some s0 ∧ ((s = s0 ∧ ∀ p, s0 ≠ .al i p) ∨ s = .em) := by
  unfold killA at h
  rw [List.getElem?_map] at h
  cases e : ρ[j]? with
  | none => rw [e] at h; cases h
  | some s0 =>
    rw [e] at h
    refine ⟨s0, rfl, ?_⟩
    simp only [Option.map_some, Option.some.injEq] at h
    subst h
    cases s0 with
    | em => exact .inr rfl
    | ex a0 => exact .inl ⟨rfl, fun p z => nomatch z⟩
    | va k d => exact .inl ⟨rfl, fun p z => nomatch z⟩
    | al j' p =>
      dsimp only
      by_cases q : j' = i
      · rw [if_pos q]; exact .inr rfl
      · rw [if_neg q]
        exact .inl ⟨rfl, fun p' z => by cases z; exact q rfl⟩
theorem killA_va {i j : Nat} {ρ : Rho} {k : Lv} {d : D} (h : ρ[j]? = some (.va k d)) : (killA i ρ)[j]? = some (.va k d) := by
  unfold killA
  rw [List.getElem?_map, h]
  rfl
theorem killA_length {i : Nat} {ρ : Rho} : (killA i ρ).length = ρ.length := by simp [killA]
/-- nothing of the slots is lent to the values under way -/
def Clean (τ : List Tm) : Prop := ∀ c ∈ τ, c.b = true → own c.k c.d c.t = []
section
variable {K : PySem.W.Frag} {Z0 H0 Z H : Hp} {σ : L2.St} {ρ : Rho} {ts : List Tr} {τ : List Tm}
/-- the value on top is stored in the slot i -/
theorem Rl.store {k : Lv} {d : D} {t : Tr} {i : Nat} (R : Rl K Z0 H0 Z H σ ρ ts (⟨false, k, d, t⟩ :: τ)) (hc : Clean τ) (hi : i < σ.length) : Rl K Z0 H0 Z H (σ.set i (some (valOf d t))) (setSl ρ i (.va k d)) (ts.set i t) τ := by
  have l1 : i < ρ.length := by rw [R.lr]; exact hi
  have l2 : i < ts.length := by rw [R.lt]; exact hi
  obtain ⟨s0, t1, rest, e1, e2, p1, p2⟩ := ownR_split (ρ := killA i ρ) (ts := ts) (i := i) (by rw [killA_length]; exact l1) l2
  rw [ownR_kill] at p1
  have p2 := p2 (.va k d) t
  have n := R.nd
  have eT : ownT (⟨false, k, d, t⟩ :: τ) = own k d t ++ ownT τ := by simp [ownT]
  rw [eT] at n
  have o0 := R.o0
  rw [eT] at o0
  have key : ∀ a, a ∈ ownR (setSl ρ i (.va k d)) (ts.set i t) ++ ownT τ → a ∈ ownR ρ ts ++ (own k d t ++ ownT τ) := fun a m => by
    rcases List.mem_append.mp m with m | m
    · have m := p2.mem_iff.mp m
      rcases List.mem_append.mp m with m | m
      · exact List.mem_append_right _ (List.mem_append_left _ m)
      · exact List.mem_append_left _ (p1.mem_iff.mpr (List.mem_append_right _ m))
    · exact List.mem_append_right _ (List.mem_append_right _ m)
  refine ⟨R.zh, R.h0, R.z0, R.zn, ?_, ?_, fun j s e => ?_, fun c hcm => ?_, ?_, fun a m => o0 a (key a m)⟩
  · simp only [setSl, List.length_set, killA_length]; exact R.lr
  · simp only [List.length_set]; exact R.lt
  · by_cases hj : j = i
    · subst hj
      unfold setSl at e
      rw [List.getElem?_set_self (by rw [killA_length]; exact l1)] at e
      cases e
      exact ⟨t, by rw [List.getElem?_set_self l2], (R.tm _ List.mem_cons_self).1, by rw [List.getElem?_set_self hi]⟩
    · unfold setSl at e
      rw [List.getElem?_set_ne (Ne.symm hj)] at e
      obtain ⟨s0, e0, h⟩ := killA_get e
      rcases h with ⟨rfl, hal⟩ | rfl
      · have q := R.sl j s e0
        cases s with
        | em => trivial
        | ex a0 =>
          show (σ.set i _)[j]? = _
          rw [List.getElem?_set_ne (Ne.symm hj)]
          exact q
        | va k' d' =>
          obtain ⟨t', q1, q2, q3⟩ := q
          exact ⟨t', by rw [List.getElem?_set_ne (Ne.symm hj)]; exact q1, q2, by rw [List.getElem?_set_ne (Ne.symm hj)]; exact q3⟩
        | al j' p =>
          obtain ⟨k1, d1, t1, k2, d2, t2, q1, q2, q3, q4⟩ := q
          have hj' : j' ≠ i := fun z => hal p (by rw [z])
          refine ⟨k1, d1, t1, k2, d2, t2, ?_, by rw [List.getElem?_set_ne (Ne.symm hj')]; exact q2, q3, by rw [List.getElem?_set_ne (Ne.symm hj)]; exact q4⟩
          unfold setSl
          rw [List.getElem?_set_ne (Ne.symm hj')]
          exact killA_va q1
      · trivial
  · obtain ⟨o, hb⟩ := R.tm c (List.mem_cons_of_mem _ hcm)
    exact ⟨o, fun q => ⟨(hb q).1, fun a m => by rw [hc c hcm q] at m; cases m⟩⟩
  · have q : (partS (.va k d) t ++ rest ++ ownT τ).Nodup := by
      have n' : ((partS s0 t1 ++ rest) ++ (own k d t ++ ownT τ)).Nodup := (List.Perm.append_right _ p1).nodup_iff.mp n
      obtain ⟨a1, a2, a3⟩ := List.nodup_append.mp n'
      obtain ⟨b1, b2, b3⟩ := List.nodup_append.mp a1
      obtain ⟨c1, c2, c3⟩ := List.nodup_append.mp a2
      refine List.nodup_append.mpr ⟨List.nodup_append.mpr ⟨c1, b2, fun a ha b hb e => ?_⟩, c2, fun a ha b hb e => ?_⟩
      · subst e
        exact a3 a (List.mem_append_right _ hb) a (List.mem_append_left _ ha) rfl
      · subst e
        rcases List.mem_append.mp ha with ha | ha
        · exact c3 a ha a hb rfl
        · exact a3 a (List.mem_append_right _ ha) a (List.mem_append_right _ hb) rfl
    exact (List.Perm.append_right _ p2).nodup_iff.mpr q
/-- slots are forgotten: ρ' knows less -/
theorem Rl.forget {i : Nat} (R : Rl K Z0 H0 Z H σ ρ ts τ) (hc : Clean τ) : Rl K Z0 H0 Z H σ (setSl ρ i .em) ts τ := by
  by_cases hi : i < ρ.length
  · have l2 : i < ts.length := by rw [R.lt, ← R.lr]; exact hi
    obtain ⟨s0, t1, rest, e1, e2, p1, p2⟩ := ownR_split (ρ := killA i ρ) (ts := ts) (i := i) (by rw [killA_length]; exact hi) l2
    rw [ownR_kill] at p1
    have p2 := p2 .em t1
    have et : ts.set i t1 = ts := by
      refine List.ext_getElem? fun j => ?_
      by_cases hj : j = i
      · subst hj; rw [List.getElem?_set_self l2, e2]
      · rw [List.getElem?_set_ne (Ne.symm hj)]
    rw [et] at p2
    have sub : ∀ a, a ∈ ownR (setSl ρ i .em) ts → a ∈ ownR ρ ts := fun a m => p1.mem_iff.mpr (List.mem_append_right _ (by simpa [partS] using p2.mem_iff.mp m))
    refine ⟨R.zh, R.h0, R.z0, R.zn, by simp only [setSl, List.length_set, killA_length]; exact R.lr, R.lt, fun j s e => ?_, fun c hcm => ?_, ?_, fun a m => ?_⟩
    · by_cases hj : j = i
      · subst hj
        unfold setSl at e
        rw [List.getElem?_set_self (by rw [killA_length]; exact hi)] at e
        cases e
        trivial
      · unfold setSl at e
        rw [List.getElem?_set_ne (Ne.symm hj)] at e
        obtain ⟨s0, e0, h⟩ := killA_get e
        rcases h with ⟨rfl, hal⟩ | rfl
        · have q := R.sl j s e0
          cases s with
          | em => trivial
          | ex a0 => exact q
          | va k' d' => exact q
          | al j' p =>
            obtain ⟨k1, d1, t1, k2, d2, t2, q1, q2, q3, q4⟩ := q
            have hj' : j' ≠ i := fun z => hal p (by rw [z])
            refine ⟨k1, d1, t1, k2, d2, t2, ?_, q2, q3, q4⟩
            unfold setSl
            rw [List.getElem?_set_ne (Ne.symm hj')]
            exact killA_va q1
        · trivial
    · obtain ⟨o, hb⟩ := R.tm c hcm
      exact ⟨o, fun q => ⟨(hb q).1, fun a m => by rw [hc c hcm q] at m; cases m⟩⟩
    · have n' : ((partS s0 t1 ++ rest) ++ ownT τ).Nodup := (List.Perm.append_right _ p1).nodup_iff.mp R.nd
      obtain ⟨a1, a2, a3⟩ := List.nodup_append.mp n'
      refine (List.Perm.append_right _ p2).nodup_iff.mpr ?_
      exact List.nodup_append.mpr ⟨by simpa [partS] using (List.nodup_append.mp a1).2.1, a2, fun a ha b hb => a3 a (List.mem_append_right _ (by simpa [partS] using ha)) b hb⟩
    · rcases List.mem_append.mp m with m | m
      · exact R.o0 a (List.mem_append_left _ (sub a m))
      · exact R.o0 a (List.mem_append_right _ m)
  · have e : setSl ρ i .em = killA i ρ := by
      unfold setSl
      rw [List.set_eq_of_length_le]
      rw [killA_length]
      omega
    rw [e]
    refine ⟨R.zh, R.h0, R.z0, R.zn, by rw [killA_length]; exact R.lr, R.lt, fun j s e => ?_, fun c hcm => ?_, by rw [ownR_kill]; exact R.nd, by rw [ownR_kill]; exact R.o0⟩
    · obtain ⟨s0, e0, h⟩ := killA_get e
      rcases h with ⟨rfl, hal⟩ | rfl
      · have q := R.sl j s e0
        cases s with
        | em => trivial
        | ex a0 => exact q
        | va k' d' => exact q
        | al j' p =>
          obtain ⟨k1, d1, t1, k2, d2, t2, q1, q2, q3, q4⟩ := q
          exact ⟨k1, d1, t1, k2, d2, t2, killA_va q1, q2, q3, q4⟩
      · trivial
    · obtain ⟨o, hb⟩ := R.tm c hcm
      exact ⟨o, fun q => ⟨(hb q).1, fun a m => by rw [hc c hcm q] at m; cases m⟩⟩
/-- the slot i is shared from here on -/
theorem Rl.share {i : Nat} {k : Lv} {d : D} {t : Tr} (R : Rl K Z0 H0 Z H σ ρ ts τ) (hc : Clean τ) (e : ρ[i]? = some (.va k d)) (e' : ts[i]? = some t) : Rl K Z0 H0 (frzZ Z H (own k d t)) H σ (ρ.set i (.va (some 0) d)) ts τ := by
  have hi : i < ρ.length := (List.getElem?_eq_some_iff.mp e).1
  have l2 : i < ts.length := by rw [R.lt, ← R.lr]; exact hi
  obtain ⟨s0, t1, rest, e1, e2, p1, p2⟩ := ownR_split (ρ := ρ) (ts := ts) (i := i) hi l2
  rw [e] at e1; cases e1
  rw [e'] at e2; cases e2
  have p2 := p2 (.va (some 0) d) t
  have et : ts.set i t = ts := by
    refine List.ext_getElem? fun j => ?_
    by_cases hj : j = i
    · subst hj; rw [List.getElem?_set_self l2, e']
    · rw [List.getElem?_set_ne (Ne.symm hj)]
  rw [et] at p2
  have p2' : (ownR (ρ.set i (.va (some 0) d)) ts).Perm rest := by simpa [partS, own_zero] using p2
  have p1' : (ownR ρ ts).Perm (own k d t ++ rest) := p1
  obtain ⟨t2, q1, ob, q2⟩ := R.sl i _ e
  rw [e'] at q1; cases q1
  have oz : ∀ a ∈ own k d t, Z a = none := fun a m => (Ob.own d k t ob a m).1
  have n' : ((own k d t ++ rest) ++ ownT τ).Nodup := (List.Perm.append_right _ p1').nodup_iff.mp R.nd
  obtain ⟨a1, a2, a3⟩ := List.nodup_append.mp n'
  obtain ⟨b1, b2, b3⟩ := List.nodup_append.mp a1
  have zz : Same Z (frzZ Z H (own k d t)) := fun b o q => by
    unfold frzZ
    split
    · rename_i h
      rw [oz b h] at q; cases q
    · exact q
  have off : ∀ a, a ∈ ownR (ρ.set i (.va (some 0) d)) ts ++ ownT τ → a ∉ own k d t := fun a m h => by
    rcases List.mem_append.mp m with m | m
    · exact b3 a h a (p2'.mem_iff.mp m) rfl
    · exact a3 a (List.mem_append_left _ h) a m rfl
  have old : ∀ a, a ∈ ownR (ρ.set i (.va (some 0) d)) ts ++ ownT τ → a ∈ ownR ρ ts ++ ownT τ := fun a m => by
    rcases List.mem_append.mp m with m | m
    · exact List.mem_append_left _ (p1'.mem_iff.mpr (List.mem_append_right _ (p2'.mem_iff.mp m)))
    · exact List.mem_append_right _ m
  have keep : ∀ a, a ∈ ownR (ρ.set i (.va (some 0) d)) ts ++ ownT τ → frzZ Z H (own k d t) a = none := fun a m => by
    unfold frzZ
    rw [if_neg (off a m)]
    exact (R.own_z a (old a m)).1
  have subz : ∀ {p : List Nat} {k' : Lv} {d' : D} {t' : Tr}, sub k d t p = some (k', d', t') → ∃ k2, sub (some 0) d t p = some (k2, d', t') := by
    have main : ∀ (p : List Nat) (k k1 : Lv) (d : D) (t : Tr) (k' : Lv) (d' : D) (t' : Tr), sub k d t p = some (k', d', t') → ∃ k2, sub k1 d t p = some (k2, d', t') := by
      intro p
      induction p with
      | nil =>
        intro k k1 d t k' d' t' h
        simp only [sub, Option.some.injEq, Prod.mk.injEq] at h
        obtain ⟨_, rfl, rfl⟩ := h
        exact ⟨k1, rfl⟩
      | cons j p ih =>
        intro k k1 d t k' d' t' h
        simp only [sub] at h ⊢
        cases q : (kidsD d)[j]? with
        | none => rw [q] at h; cases h
        | some d1 =>
          cases q2 : t.kids[j]? with
          | none => rw [q, q2] at h; cases h
          | some t1 =>
            rw [q, q2] at h
            exact ih _ _ _ _ _ _ _ h
    exact fun {p k' d' t'} h => main p _ _ _ _ _ _ _ h
  refine ⟨fun b o q => ?_, R.h0, R.z0.trans zz, fun b o q => ?_, by rw [List.length_set]; exact R.lr, R.lt, fun j s es => ?_, fun c hcm => ?_, ?_, fun a m => R.o0 a (old a m)⟩
  · unfold frzZ at q
    split at q
    · exact q
    · exact R.zh _ _ q
  · unfold frzZ at q
    split at q
    · rename_i h
      exact .inr (R.o0 b (List.mem_append_left _ (p1'.mem_iff.mpr (List.mem_append_left _ h))))
    · exact R.zn b o q
  · by_cases hj : j = i
    · subst hj
      rw [List.getElem?_set_self hi] at es
      cases es
      exact ⟨t, e', Ob.freeze zz d k t ob fun a m => by unfold frzZ; rw [if_pos m], q2⟩
    · rw [List.getElem?_set_ne (Ne.symm hj)] at es
      have q := R.sl j s es
      cases s with
      | em => trivial
      | ex a0 => exact q
      | va k' d' =>
        obtain ⟨t', r1, r2, r3⟩ := q
        have m : ∀ a ∈ own k' d' t', a ∈ ownR (ρ.set i (.va (some 0) d)) ts ++ ownT τ := fun a m => List.mem_append_left _ (ownR_get (by rw [List.getElem?_set_ne (Ne.symm hj)]; exact es) r1 a m)
        exact ⟨t', r1, Ob.ext zz d' k' t' r2 (fun a q => keep a (m a q)) (fun _ _ _ q => q), r3⟩
      | al j' p =>
        obtain ⟨k1, d1, t1, k2, d2, t2, r1, r2, r3, r4⟩ := q
        by_cases hj' : j' = i
        · subst hj'
          rw [e] at r1; cases r1
          rw [e'] at r2; cases r2
          obtain ⟨k3, r3'⟩ := subz r3
          exact ⟨some 0, d, t, k3, d2, t2, by rw [List.getElem?_set_self hi], e', r3', r4⟩
        · exact ⟨k1, d1, t1, k2, d2, t2, by rw [List.getElem?_set_ne (Ne.symm hj')]; exact r1, r2, r3, r4⟩
  · obtain ⟨o, hb⟩ := R.tm c hcm
    have m : ∀ a ∈ own c.k c.d c.t, a ∈ ownR (ρ.set i (.va (some 0) d)) ts ++ ownT τ := fun a m => by
      cases q : c.b with
      | true => rw [hc c hcm q] at m; cases m
      | false => exact List.mem_append_right _ (ownT_mem hcm q a m)
    exact ⟨Ob.ext zz _ _ _ o (fun a q => keep a (m a q)) (fun _ _ _ q => q), fun q => ⟨(hb q).1, fun a m => by rw [hc c hcm q] at m; cases m⟩⟩
  · exact List.nodup_append.mpr ⟨p2'.nodup_iff.mpr b2, a2, fun a ha b hb => a3 a (List.mem_append_right _ (p2'.mem_iff.mp ha)) b hb⟩
end
end Ev

set_option Elab.async false
set_option linter.all false
set_option maxRecDepth 100000
namespace Ev
open PySem PySem.Spec PyProof.Rows L2

theorem frz_same {Z H : Hp} {A : List Addr} (h : ∀ a ∈ A, Z a = none) : Same Z (frzZ Z H A) := fun b o e => by
  unfold frzZ
  split
  · rename_i q
    rw [h b q] at e; cases e
  · exact e

/-! ### statements -/
inductive SR where
  | nx (ρ : Rho)
  | bk (ρ : Rho)
  | ct (ρ : Rho)
  | rt (k : Lv) (d : D)
  | rz (c : Str) (ρ : Rho)
  | er
/-- S' lies behind S: other slots, the shared part has grown -/
structure AftS (S S' : Sta) : Prop where
  z0 : S'.Z0 = S.Z0
  h0 : S'.H0 = S.H0
  zz : Same S.Z S'.Z
theorem AftS.refl {S : Sta} : AftS S S := ⟨rfl, rfl, Same.refl _⟩
theorem AftS.trans {S S1 S2 : Sta} (a : AftS S S1) (b : AftS S1 S2) : AftS S S2 := ⟨b.z0.trans a.z0, b.h0.trans a.h0, a.zz.trans b.zz⟩
theorem Aft.s {S S' : Sta} (a : Aft S S') : AftS S S' := ⟨a.z0, a.h0, a.st.zz⟩
def GoodS (X : Cx) (W : WX) (S : Sta) (D : Ends) : SR → Prop
  | .nx ρ => ∀ S' : Sta, AftS S S' → S'.ρ = ρ → S'.τ = S.τ → S'.R X.K → D.nx S'.σ S'.H
  | .bk ρ => ∀ S' : Sta, AftS S S' → S'.ρ = ρ → S'.τ = S.τ → S'.R X.K → D.bk S'.σ S'.H
  | .ct ρ => ∀ S' : Sta, AftS S S' → S'.ρ = ρ → S'.τ = S.τ → S'.R X.K → D.ct S'.σ S'.H
  | .rt k d => ∀ (Z' H' : Hp) (t : Tr), Step S.Z0 S.H0 Z' H' → Same Z' H' → Ob X.K Z' H' k d t → (own k d t).Nodup → (∀ a ∈ own k d t, S.H0 a = none) → D.rt (valOf d t) H'
  | .rz c ρ => ∀ S' : Sta, AftS S S' → S'.ρ = ρ → S'.τ = S.τ → S'.R X.K → Raised X W c S'.σ S'.H
  | .er => False
def SSt (X : Cx) (W : WX) (st : Stmt) (s : Rho → SR) : Prop := ∀ (S : Sta) (D : Ends), S.R X.K → Clean S.τ → GoodS X W S D (s S.ρ) → wS X st D S.σ S.H
def SSs (X : Cx) (W : WX) (st : List Stmt) (s : Rho → SR) : Prop := ∀ (S : Sta) (D : Ends), S.R X.K → Clean S.τ → GoodS X W S D (s S.ρ) → wSs X st D S.σ S.H
theorem GoodS.later {X : Cx} {W : WX} {S S1 : Sta} {D : Ends} {r : SR} (g : GoodS X W S D r) (a : AftS S S1) (e : S1.τ = S.τ) : GoodS X W S1 D r := by
  cases r with
  | nx ρ => exact fun S2 a2 e1 e2 R => g S2 (a.trans a2) e1 (e2.trans e) R
  | bk ρ => exact fun S2 a2 e1 e2 R => g S2 (a.trans a2) e1 (e2.trans e) R
  | ct ρ => exact fun S2 a2 e1 e2 R => g S2 (a.trans a2) e1 (e2.trans e) R
  | rz c ρ => exact fun S2 a2 e1 e2 R => g S2 (a.trans a2) e1 (e2.trans e) R
  | rt k d =>
    intro Z' H' t s zh o nd fr
    rw [a.z0, a.h0] at s
    exact g Z' H' t s zh o nd fun x m => by have := fr x m; rw [a.h0] at this; exact this
  | er => exact g
/-- the result of what comes behind -/
def SR.seq (r : SR) (t : Rho → SR) : SR := match r with
  | .nx ρ => t ρ
  | r => r
@[simp] theorem SR.seq_nx (ρ : Rho) (t : Rho → SR) : (SR.nx ρ).seq t = t ρ := rfl
@[simp] theorem SR.seq_bk (ρ : Rho) (t : Rho → SR) : (SR.bk ρ).seq t = .bk ρ := rfl
@[simp] theorem SR.seq_ct (ρ : Rho) (t : Rho → SR) : (SR.ct ρ).seq t = .ct ρ := rfl
@[simp] theorem SR.seq_rt (k : Lv) (d : D) (t : Rho → SR) : (SR.rt k d).seq t = .rt k d := rfl
@[simp] theorem SR.seq_rz (c : Str) (ρ : Rho) (t : Rho → SR) : (SR.rz c ρ).seq t = .rz c ρ := rfl
@[simp] theorem SR.seq_er (t : Rho → SR) : SR.er.seq t = .er := rfl
def sNil : Rho → SR := fun ρ => .nx ρ
def sSeq (s t : Rho → SR) : Rho → SR := fun ρ => (s ρ).seq t
section
variable {X : Cx} {W : WX} {S : Sta} {De : Ends}
theorem ss_nil : SSs X W [] sNil := fun S D R _ g => wSs_of pss_nil (g S AftS.refl rfl rfl R)
theorem ss_cons {st : Stmt} {rest : List Stmt} {s t : Rho → SR} (h1 : SSt X W st s) (h2 : SSs X W rest t) : SSs X W (st :: rest) (sSeq s t) := by
  intro S D R hc g
  refine wSs_of (pss_cons ps_w pss_w) (h1 S { D with nx := fun σ H => wSs X rest D σ H } R hc ?_)
  unfold sSeq at g
  cases q : s S.ρ <;> rw [q] at g <;> first | exact g | skip
  rename_i ρ
  replace g : GoodS X W S D (t ρ) := g
  intro S1 a1 e1 e2 R1
  refine h2 S1 D R1 (by rw [e2]; exact hc) ?_
  rw [e1]
  exact GoodS.later g a1 e2
theorem ss_one {st : Stmt} {s : Rho → SR} (h1 : SSt X W st s) : SSs X W [st] s := fun S D R hc g => wSs_of (pss_one ps_w) (h1 S D R hc g)
/-- a ghost step ahead: the state is seen otherwise -/
theorem ss_ghost {st : List Stmt} {s : Rho → SR} {g : Rho → Rho} (h : SSs X W st s) (hg : ∀ S : Sta, S.R X.K → Clean S.τ → ∃ Z', Same S.Z Z' ∧ ({ S with Z := Z', ρ := g S.ρ } : Sta).R X.K) : SSs X W st (fun ρ => s (g ρ)) := by
  intro S D R hc gd
  obtain ⟨Z', zz, R'⟩ := hg S R hc
  exact h { S with Z := Z', ρ := g S.ρ } D R' hc (GoodS.later gd ⟨rfl, rfl, zz⟩ rfl)
/-- the slots of is are forgotten -/
def fgt (is : List Nat) (ρ : Rho) : Rho := is.foldl (fun ρ i => setSl ρ i .em) ρ
theorem fgt_go : ∀ (is : List Nat) (S : Sta), S.R X.K → Clean S.τ → ∃ Z', Same S.Z Z' ∧ ({ S with Z := Z', ρ := fgt is S.ρ } : Sta).R X.K
  | [], S, R, _ => ⟨S.Z, Same.refl _, R⟩
  | i :: is, S, R, hc => by
    have R1 : ({ S with ρ := setSl S.ρ i .em } : Sta).R X.K := Rl.forget R hc
    obtain ⟨Z', zz, R2⟩ := fgt_go is { S with ρ := setSl S.ρ i .em } R1 hc
    exact ⟨Z', zz, R2⟩
theorem ss_fgt {st : List Stmt} {s : Rho → SR} (is : List Nat) (h : SSs X W st s) : SSs X W st (fun ρ => s (fgt is ρ)) := ss_ghost h (fgt_go is)
/-- the slots of is are shared -/
def shr1 (i : Nat) (ρ : Rho) : Rho := match ρ[i]? with
  | some (.va _ d) => ρ.set i (.va (some 0) d)
  | _ => ρ
def shr (is : List Nat) (ρ : Rho) : Rho := is.foldl (fun ρ i => shr1 i ρ) ρ
theorem shr_go : ∀ (is : List Nat) (S : Sta), S.R X.K → Clean S.τ → ∃ Z', Same S.Z Z' ∧ ({ S with Z := Z', ρ := shr is S.ρ } : Sta).R X.K
  | [], S, R, _ => ⟨S.Z, Same.refl _, R⟩
  | i :: is, S, R, hc => by
    have step : ∃ Z', Same S.Z Z' ∧ ({ S with Z := Z', ρ := shr1 i S.ρ } : Sta).R X.K := by
      unfold shr1
      cases e : S.ρ[i]? with
      | none => exact ⟨S.Z, Same.refl _, R⟩
      | some s =>
        cases s with
        | em => exact ⟨S.Z, Same.refl _, R⟩
        | ex a0 => exact ⟨S.Z, Same.refl _, R⟩
        | al j p => exact ⟨S.Z, Same.refl _, R⟩
        | va k d =>
          obtain ⟨t, e', o, _⟩ := Rl.sl R i _ e
          have R1 := Rl.share R hc e e'
          exact ⟨_, frz_same fun a m => (Ob.own d k t o a m).1, R1⟩
    obtain ⟨Z1, zz1, R1⟩ := step
    obtain ⟨Z', zz, R2⟩ := shr_go is { S with Z := Z1, ρ := shr1 i S.ρ } R1 hc
    exact ⟨Z', zz1.trans zz, R2⟩
theorem ss_shr {st : List Stmt} {s : Rho → SR} (is : List Nat) (h : SSs X W st s) : SSs X W st (fun ρ => s (shr is ρ)) := ss_ghost h (shr_go is)
/-- an expression, then a statement's end -/
def eS (x : Rho → Res BV) (f : Rho → BV → SR) : Rho → SR := fun ρ => match x ρ with
  | .ok v => f ρ v
  | .rz c => .rz c ρ
  | .er => .er
theorem oneS {e : Expr} {x : Rho → Res BV} (he : SE X W e x) {f : Rho → BV → SR} {Q' : VK} (R : S.R X.K) (g : GoodS X W S De (eS x f S.ρ))
    (k : ∀ (v : BV) (S1 : Sta) (t : Tr), Aft S S1 → S1.τ = ⟨v.b, v.k, v.d, t⟩ :: S.τ → S1.R X.K → Fresh S v t → GoodS X W S De (f S.ρ v) → Q' (valOf v.d t) S1.H) : wE X e S.σ S.H Q' := by
  refine he S Q' R ?_
  unfold eS at g
  cases q : x S.ρ with
  | er => rw [q] at g; exact g
  | rz c =>
    rw [q] at g
    intro S1 a1 e1 R1
    exact g S1 a1.s a1.ρ e1 R1
  | ok v =>
    rw [q] at g
    exact fun S1 t a1 e1 R1 f1 => k v S1 t a1 e1 R1 f1 g
def tS (x : Rho → Res Bool) (f : Rho → Bool → SR) : Rho → SR := fun ρ => match x ρ with
  | .ok v => f ρ v
  | .rz c => .rz c ρ
  | .er => .er
theorem testS {e : Expr} {x : Rho → Res Bool} (he : STs X W e x) {f : Rho → Bool → SR} {Q' : Bool → Hp → Prop} (R : S.R X.K) (g : GoodS X W S De (tS x f S.ρ))
    (k : ∀ (b : Bool) (S1 : Sta), Aft S S1 → S1.τ = S.τ → S1.R X.K → GoodS X W S De (f S.ρ b) → Q' b S1.H) : wT X e S.σ S.H Q' := by
  refine he S Q' R ?_
  unfold tS at g
  cases q : x S.ρ with
  | er => rw [q] at g; exact g
  | rz c =>
    rw [q] at g
    intro S1 a1 e1 R1
    exact g S1 a1.s a1.ρ e1 R1
  | ok v =>
    rw [q] at g
    exact fun S1 a1 e1 R1 => k v S1 a1 e1 R1 g
/-- what is stored -/
def asgV (v : BV) : Res (Lv × D) := if flat v.d = true then .ok (none, v.d) else if v.b = false then .ok (v.k, v.d) else if v.k = some 0 then .ok (some 0, v.d) else .er
theorem asgV_rz {v : BV} {c : Str} : asgV v ≠ .rz c := by
  intro h
  unfold asgV at h
  split at h
  · cases h
  · split at h
    · cases h
    · split at h <;> cases h
theorem asg_go {Z0 H0 Z H : Hp} {σ : L2.St} {ρ : Rho} {ts : List Tr} {τ : List Tm} {v : BV} {r : Lv × D} {t : Tr} (h : asgV v = .ok r) (R : Rl X.K Z0 H0 Z H σ ρ ts (⟨v.b, v.k, v.d, t⟩ :: τ)) : r.2 = v.d ∧ Rl X.K Z0 H0 Z H σ ρ ts (⟨false, r.1, r.2, t⟩ :: τ) := by
  unfold asgV at h
  have o := (R.tm _ List.mem_cons_self).1
  split at h
  · rename_i hf
    cases h
    exact ⟨rfl, R.pop.push0 (flat_ob v.d v.k none t hf o) (flat_own v.d none t hf)⟩
  · split at h
    · rename_i hb
      cases h
      rw [hb] at R
      exact ⟨rfl, R⟩
    · split at h <;> cases h
      rename_i hk
      rw [hk] at o
      exact ⟨rfl, R.pop.push0 o (own_zero v.d t)⟩
def sAsg (i : Nat) (x : Rho → Res BV) : Rho → SR := eS x fun ρ v => match asgV v with
  | .ok r => .nx (setSl ρ i (.va r.1 r.2))
  | _ => .er
/-- the store of the value on top -/
theorem store_go {v : BV} {i : Nat} {S1 : Sta} {t : Tr} (R : S.R X.K) (hc : Clean S.τ) (hi : i < S.σ.length) (a1 : Aft S S1) (e1 : S1.τ = ⟨v.b, v.k, v.d, t⟩ :: S.τ) (R1 : S1.R X.K)
    (g : GoodS X W S De (match asgV v with | .ok r => .nx (setSl S.ρ i (.va r.1 r.2)) | _ => .er)) : De.nx (S.σ.set i (some (valOf v.d t))) S1.H := by
  cases q : asgV v with
  | er => rw [q] at g; exact g.elim
  | rz c => exact absurd q asgV_rz
  | ok r =>
    rw [q] at g
    obtain ⟨ed, R2⟩ := asg_go q (R1.rl e1)
    have R3 := Rl.store R2 hc (by rw [a1.σ]; exact hi)
    rw [ed] at R3
    have g3 := g ⟨S1.Z0, S1.H0, S1.Z, S1.H, S1.σ.set i (some (valOf v.d t)), setSl S1.ρ i (.va r.1 v.d), S1.ts.set i t, S.τ⟩ ⟨a1.z0, a1.h0, a1.st.zz⟩ (by show setSl S1.ρ i _ = _; rw [a1.ρ, ed]) rfl R3
    rw [← a1.σ]
    exact g3
theorem lt_of_N {i : Nat} {x : Str} {pins : List (Addr × Obj)} {σ : L2.St} {H : Hp} {s : Shared} (I : Inv X pins σ H s) (hi : X.N[i]? = some x) : i < σ.length := by
  rw [I.len]
  exact (List.getElem?_eq_some_iff.mp hi).1
theorem st_asg {i : Nat} {x : Str} {e : Expr} {xe : Rho → Res BV} {pos pos' : Pos} (hN : X.N.Nodup) (hi : X.N[i]? = some x) (hx : Loc X.env.scope x) (he : SE X W e xe) (hs : swapsWith e (some (.Name x pos')) pos.line X.env = pure false)
    (hf : X.fn x = true ∨ X.env.scope.names.lookup x = some .local) : SSt X W (.Assign [.Name x pos'] e pos) (sAsg i xe) := by
  intro S D R hc g pins s I
  refine wS_of (ps_set hN hi hx pe_w hs hf) ?_ pins s I
  exact oneS he R g fun v S1 t a1 e1 R1 f1 g1 => store_go R hc (lt_of_N I hi) a1 e1 R1 g1
def sRet (x : Rho → Res BV) : Rho → SR := eS x fun _ v => if flat v.d = true then .rt none v.d else .rt v.k v.d
theorem st_ret {e : Expr} {xe : Rho → Res BV} {pos : Pos} (he : SE X W e xe) : SSt X W (.Return (some e) pos) (sRet xe) := by
  intro S D R hc g
  refine wS_of (ps_ret pe_w) (oneS he R g fun v S1 t a1 e1 R1 f1 g1 => ?_)
  have R2 := R1.rl e1
  obtain ⟨o, hb⟩ := R2.tm _ List.mem_cons_self
  have st : Step S.Z0 S.H0 S1.Z S1.H := by
    have h1 : S1.Z0 = S.Z0 := a1.z0
    have h2 : S1.H0 = S.H0 := a1.h0
    rw [← h1, ← h2]
    exact ⟨R2.z0, R2.h0, R2.zn⟩
  have eh : S1.H0 = S.H0 := a1.h0
  by_cases hf : flat v.d = true
  · rw [if_pos hf] at g1
    refine g1 S1.Z S1.H t st R2.zh (flat_ob v.d v.k none t hf o) ?_ fun a m => ?_
    · rw [flat_own v.d none t hf]; exact List.Pairwise.nil
    · rw [flat_own v.d none t hf] at m; cases m
  · rw [if_neg hf] at g1
    have nd : (own v.k v.d t).Nodup ∧ ∀ a ∈ own v.k v.d t, a ∈ ownR S1.ρ S1.ts ++ ownT (⟨v.b, v.k, v.d, t⟩ :: S.τ) := by
      cases q : v.b with
      | true => exact ⟨(hb q).1, fun a m => List.mem_append_left _ ((hb q).2 a m)⟩
      | false =>
        have n := R2.nd
        obtain ⟨n1, n2, n3⟩ := List.nodup_append.mp n
        rw [q] at n2
        simp only [ownT, if_neg (show ¬ (false = true) by simp)] at n2
        refine ⟨(List.nodup_append.mp n2).1, fun a m => List.mem_append_right _ ?_⟩
        simp only [ownT, if_neg (show ¬ (false = true) by simp)]
        exact List.mem_append_left _ m
    exact g1 S1.Z S1.H t st R2.zh o nd.1 fun a m => by rw [← eh]; exact R2.o0 a (nd.2 a m)
def sRetN : Rho → SR := fun _ => .rt none .none
theorem st_retN {pos : Pos} : SSt X W (.Return none pos) sRetN := by
  intro S D R hc g
  have R' : Rl X.K S.Z0 S.H0 S.Z S.H S.σ S.ρ S.ts S.τ := R
  exact wS_of ps_retN (g S.Z S.H t0 ⟨R'.z0, R'.h0, R'.zn⟩ R'.zh (by simp only [Ob]) List.Pairwise.nil fun a m => by cases m)
def sIf (c : Rho → Res Bool) (a b : Rho → SR) : Rho → SR := tS c fun ρ k => if k = true then a ρ else b ρ
theorem st_if {c : Expr} {a b : List Stmt} {pos : Pos} {xc : Rho → Res Bool} {sa sb : Rho → SR} (hc : STs X W c xc) (ha : SSs X W a sa) (hb : SSs X W b sb) : SSt X W (.If c a b pos) (sIf xc sa sb) := by
  intro S D R hcl g
  refine wS_of (ps_if pt_w pss_w pss_w) (testS hc R g fun k S1 a1 e1 R1 g1 => ?_)
  cases k with
  | true =>
    rw [if_pos rfl] at g1 ⊢
    have z := ha S1 D R1 (by rw [e1]; exact hcl) (by rw [a1.ρ]; exact GoodS.later g1 a1.s e1)
    rw [a1.σ] at z
    exact z
  | false =>
    rw [if_neg (by simp)] at g1 ⊢
    have z := hb S1 D R1 (by rw [e1]; exact hcl) (by rw [a1.ρ]; exact GoodS.later g1 a1.s e1)
    rw [a1.σ] at z
    exact z
def sBk : Rho → SR := fun ρ => .bk ρ
def sCt : Rho → SR := fun ρ => .ct ρ
theorem st_break {pos : Pos} : SSt X W (.Break pos) sBk := fun S D R _ g => wS_of ps_break (g S AftS.refl rfl rfl R)
theorem st_continue {pos : Pos} : SSt X W (.Continue pos) sCt := fun S D R _ g => wS_of ps_continue (g S AftS.refl rfl rfl R)
theorem st_pass {pos : Pos} : SSt X W (.Pass pos) sNil := fun S D R _ g => wS_of ps_pass (g S AftS.refl rfl rfl R)
theorem st_doc {x : Str} {j pos pos'} : SSt X W (.Expr (.Constant (.str x) j pos) pos') sNil := fun S D R _ g => wS_of ps_doc (g S AftS.refl rfl rfl R)
def sEx (x : Rho → Res BV) : Rho → SR := eS x fun ρ _ => .nx ρ
theorem st_expr {e : Expr} {xe : Rho → Res BV} {pos : Pos} (he : SE X W e xe) (hs : swapsWith e none pos.line X.env = pure false) : SSt X W (.Expr e pos) (sEx xe) := by
  intro S D R hc g
  refine wS_of (ps_expr pe_w hs) (oneS he R g fun v S1 t a1 e1 R1 f1 g1 => ?_)
  have R2 := R1.pop (X := X) e1
  rw [← a1.σ]
  exact g1 (S1.put S1.Z S1.H S.τ) (a1.put Step.refl).s a1.ρ rfl R2
/-! ### raise -/
def sRz (c : Str) : Rho → SR := fun ρ => .rz c ρ
theorem st_raise {e : Expr} {C : Addr} {c : Str} {pos : Pos} (hc : X.calm = true) (tk : Takes X W) (hm : X.mg c = some (.ref C)) (he : PMk X e (fun _ H Q => Q (.ref C) none H)) : SSt X W (.Raise (some e) none pos) (sRz c) := by
  intro S D R hcl g
  exact wS_of (ps_raise hc tk he) (g S AftS.refl rfl rfl R C hm)
end
end Ev

set_option Elab.async false
set_option linter.all false
set_option maxRecDepth 100000
namespace Ev
open PySem PySem.Spec PyProof.Rows L2

/-! ### a def as a whole -/
def startR (n : Nat) (ds : List D) : Rho := ds.map (fun d => Sl.va (some 0) d) ++ List.replicate (n - ds.length) .em
/-- a def of n slots and m parameters, by its body -/
def runB (s : Rho → SR) (n m : Nat) (ds : List D) : Res (Lv × D) := if ds.length = m then
    match s (startR n ds) with
    | .nx _ => .ok (none, .none)
    | .rt k d => .ok (k, d)
    | .rz c _ => .rz c
    | _ => .er
  else .er
theorem valsOf_get' : ∀ {ds : List D} {ts : List Tr} {i : Nat} {d : D}, ds.length = ts.length → ds[i]? = some d → ∃ t, ts[i]? = some t ∧ (valsOf ds ts)[i]? = some (valOf d t) := fun {ds ts i d} hl h => by
  have hi : i < ts.length := by rw [← hl]; exact (List.getElem?_eq_some_iff.mp h).1
  exact ⟨ts[i], by simp [hi], valsOf_get h (by simp [hi])⟩
theorem start_rl {K : PySem.W.Frag} {Z H : Hp} {N : List Str} {ds : List D} {ts : List Tr} (zh : Same Z H) (o : Obs K Z H (some 0) ds ts) (hl : ds.length ≤ N.length) :
    Rl K Z H Z H (L2.start N (valsOf ds ts)) (startR N.length ds) (ts ++ List.replicate (N.length - ds.length) t0) [] := by
  have el := o.len
  have lv : (valsOf ds ts).length = ds.length := valsOf_length el
  have own0 : ∀ (ds : List D) (ts : List Tr) (m : Nat), ds.length = ts.length → ownR (ds.map (fun d => Sl.va (some 0) d) ++ List.replicate m .em) (ts ++ List.replicate m t0) = [] := by
    intro ds
    induction ds with
    | nil =>
      intro ts m h
      cases ts with
      | nil =>
        induction m with
        | zero => rfl
        | succ m ih => simpa [List.replicate_succ, ownR] using ih
      | cons => simp at h
    | cons d ds ih =>
      intro ts m h
      cases ts with
      | nil => simp at h
      | cons t ts =>
        have := ih ts m (by simpa using h)
        simp only [List.map_cons, List.cons_append, ownR, own_zero, List.nil_append]
        exact this
  refine ⟨zh, Same.refl _, Same.refl _, fun a u e => .inl e, ?_, ?_, fun i s e => ?_, (fun c hc => by cases hc), ?_, fun a m => ?_⟩
  · simp only [startR, L2.start, List.length_append, List.length_map, List.length_replicate, lv]
  · simp only [L2.start, List.length_append, List.length_map, List.length_replicate, lv, el]
  · unfold startR at e
    by_cases hi : i < ds.length
    · rw [List.getElem?_append_left (by simpa using hi), List.getElem?_map] at e
      cases q : ds[i]? with
      | none => rw [q] at e; cases e
      | some d =>
        rw [q] at e
        cases e
        obtain ⟨t, e1, e2⟩ := valsOf_get' el q
        obtain ⟨t', e3, o'⟩ := o.get q
        rw [e1] at e3; cases e3
        refine ⟨t, ?_, o', ?_⟩
        · rw [List.getElem?_append_left (by rw [← el]; exact hi)]; exact e1
        · unfold L2.start
          rw [List.getElem?_append_left (by rw [List.length_map, lv]; exact hi), List.getElem?_map, e2]
          rfl
    · rw [List.getElem?_append_right (by simp only [List.length_map]; omega)] at e
      have : s = .em := by
        have := List.mem_of_getElem? e
        exact (List.mem_replicate.mp this).2
      subst this
      trivial
  · show (ownR (startR N.length ds) _ ++ ownT []).Nodup
    unfold startR
    rw [own0 ds ts _ el]
    exact List.Pairwise.nil
  · unfold startR at m
    rw [own0 ds ts _ el] at m
    cases m
section
variable {P : Program} {w : World} {K : PySem.W.Frag} {mg : Str → Option Value} {base : Heap}
/-- the context of the def st at f, called with Around A -/
abbrev bodyX (P : Program) (w : World) (K : PySem.W.Frag) (mg : Str → Option Value) (base : Heap) (N : List Str) (qual : Str) (st : Stmt) (f : Addr) (cd : Value) (A : Around) (outer : List Env) (s : Shared) (H : Hp) (E : XK) : Cx :=
  cxOf (L2.CX P w) P w K mg base N qual (defScope st) f cd A outer s H E
abbrev bodyW (E : XK) : WX := fun cls d _ H => E cls d H
theorem fnS_of {x qual : Str} {st : Stmt} {f : Addr} {fd : FuncData} {N ps : List Str} {k : Nat} {sb : Rho → SR} (F : Fun K x qual st f fd) (Sc : FnScope N ps (defScope st)) (hN : ps.length ≤ N.length)
    (hb : ∀ (kV doc pm : Value) (an : Option Addr) (cdv ct : Value) (us : List Value), us.length = ps.length → bindArgs (PySem.W.fnOf x qual (defArgs st) (defBody st) (defScope st) .none kV doc pm an cdv ct) ⟨us, []⟩ = pure (ps.zip us))
    (body : ∀ (cd : Value) (A : Around) (outer : List Env) (s : Shared) (H : Hp) (E : XK), RoomG k (A.deeper (envOfC qual (defScope st) s.heap.objs.size f cd)) → SSs (bodyX P w K mg base N qual st f cd A outer s H E) (bodyW E) (defBody st) sb) :
    FnS P w K mg base (k + 1) f ps.length (runB sb N.length ps.length) := by
  obtain ⟨oc, od, kV, doc, pm, an, cdv, ct, osl, rfl, lk, hcd⟩ := F.ex
  refine ⟨fun A outer s H us Z ds ts Q E hr e0 rv hl zh o g => ?_⟩
  have el : us.length = ps.length := by rw [← rv.length, valsOf_length o.len, hl]
  have hK : K.In s.heap := e0.mod.kin.keeps fun b u e => (e0.bs b u e).1
  have hlim : s.heap.NoLimit := e0.mod.nolimit.keeps fun b u e => (e0.bs b u e).1
  have kinds : ∀ y ∈ ps.zip us, (defScope st).names.lookup y.1 = some .local ∨ ((defScope st).names.lookup y.1 = some .cell ∧ ((cellsFrom (s.heap.objs.size + 1) (defScope st).names []).lookup y.1).isSome = true) := fun ⟨n, v⟩ hy =>
    (Sc.par n (List.of_mem_zip hy).1).elim .inl fun q => .inr ⟨q, PySem.W.cellsFrom_some _ _ _ (.inl q)⟩
  refine codeAny_call_function hr.r.depth (hK _ _ lk) rfl Sc.co Sc.gen rfl (PySem.W.codeRec_of hK hcd) ((BindsTo.of_eq (hb kV doc pm an cdv ct us el)) _ _ _ _ ?_)
  refine wpAny_newFunctionEnv_cells Sc.kind kinds fun env he s1 xc => ?_
  subst he
  refine ⟨hlim.keeps xc.toInCall.keep, codeAny_func ?_⟩
  have lv : (valsOf ds ts).length = ps.length := by rw [valsOf_length o.len, hl]
  have I : Inv (bodyX P w K mg base N qual st f cdv A outer s H E) [] (start N (valsOf ds ts)) H s1 := inv_start Sc hr.r.hd e0 lv rv xc
  have R := start_rl (N := N) zh o (by rw [hl]; exact hN)
  have hrun := body cdv A outer s H E ⟨hr.r.deeper _, hr.g⟩ ⟨Z, H, Z, H, _, _, _, []⟩ { nx := fun _ H' => Q .non H', rt := Q } R (fun c hc => by cases hc) ?_ [] s1 I
  · have fin : ∀ {σ' : L2.St} {H' : Hp} {v : V} {u : Value} {s' : Shared}, Inv (bodyX P w K mg base N qual st f cdv A outer s H E) [] σ' H' s' → RelV v u → Q v H' → CE outer P w H s Q u s' := fun {σ' H' v u s'} J rv q => ⟨v, H', J.os, J.bare, J.base, J.hok, rv, q⟩
    refine wpAny_mono hrun (fun fl s' hs => ?_) fun e s' hs => hs
    cases fl with
    | ret u =>
      obtain ⟨v, σ', H', J, rv, q⟩ := hs
      exact fin J rv q
    | next =>
      obtain ⟨σ', H', J, q⟩ := hs
      exact fin (v := .non) (u := .none) J rfl q
    | brk => obtain ⟨_, _, _, q⟩ := hs; exact q.elim
    | cont => obtain ⟨_, _, _, q⟩ := hs; exact q.elim
  · unfold runB at g
    rw [if_pos hl] at g
    show GoodS _ _ _ _ (sb (startR N.length ds))
    cases q : sb (startR N.length ds) with
    | nx ρ =>
      rw [q] at g
      intro S' a e1 e2 R'
      have R2 : Rl K S'.Z0 S'.H0 S'.Z S'.H S'.σ S'.ρ S'.ts S'.τ := R'
      have z0 : S'.Z0 = Z := a.z0
      have h0 : S'.H0 = H := a.h0
      refine g S'.Z S'.H t0 ⟨by rw [← z0]; exact R2.z0, by rw [← h0]; exact R2.h0, by rw [← z0, ← h0]; exact R2.zn⟩ R2.zh ?_ List.Pairwise.nil fun a m => by cases m
      simp only [Ob]
    | bk ρ => rw [q] at g; exact g.elim
    | ct ρ => rw [q] at g; exact g.elim
    | rt k d =>
      rw [q] at g
      exact fun Z' H' t st zh o nd fr => g Z' H' t st zh o nd fr
    | rz c ρ =>
      rw [q] at g
      intro S' a e1 e2 R' C hC
      have R2 : Rl K S'.Z0 S'.H0 S'.Z S'.H S'.σ S'.ρ S'.ts S'.τ := R'
      have z0 : S'.Z0 = Z := a.z0
      have h0 : S'.H0 = H := a.h0
      exact g S'.Z S'.H ⟨by rw [← z0]; exact R2.z0, by rw [← h0]; exact R2.h0, by rw [← z0, ← h0]; exact R2.zn⟩ R2.zh C hC
    | er => rw [q] at g; exact g
end
/-! ### the end of a law -/
theorem ints_len {ns : List Int} : (ns.map fun n => (PyData.int n : D)).length = ns.length := List.length_map _
theorem obs_ints {K : PySem.W.Frag} {Z H : Hp} {k : Lv} : ∀ ns : List Int, Obs K Z H k (ns.map PyData.int) (ns.map fun _ => t0)
  | [] => by simp only [List.map_nil, Obs]
  | n :: ns => by
    simp only [List.map_cons, Obs]
    exact ⟨by simp only [Ob], obs_ints ns⟩
theorem vals_ints' : ∀ ns : List Int, valsOf (ns.map PyData.int) (ns.map fun _ => t0) = ns.map V.int
  | [] => rfl
  | n :: ns => by
    simp only [List.map_cons, valsOf, valOf, vals_ints' ns]
theorem law_go {P : Program} {w : World} {K : PySem.W.Frag} {mg mb : Str → Option Value} {k : Nat} {fa a : Addr} {φ : List D → Res (Lv × D)} {s : Shared} {vs : List Value} {ns : List Int}
    (KX : K.In s.heap) (hmg : s.heap.Ns mainGlobals mg) (hmb : s.heap.Ns builtinsNs mb) (hbb : ∀ x : Str, x ≠ "__name__" → mb x = bootBuiltins x) (hlim : s.heap.NoLimit) (hgen : s.gens = #[])
    (hobj : s.heap.get? a = some { cls := .type "list", data := .seq vs.toArray }) (hi : IntsAre vs ns) (hlen : ns.length ≤ sizeLine) (hr : RoomG k callerA)
    (F : ∀ base : Heap, K.In base → base.Ns mainGlobals mg → FnS P w K mg base k fa 1 φ) (hφ : φ [.list (ns.map .int)] = .ok (none, .bool true)) :
    codeAny (model P w) callerA (.call (.ref fa) ⟨[.ref a], []⟩) (fun r s' => r = .ok (.ret (.bool true)) ∧ OldK s.heap s'.heap ∧ s'.os = s.os ∧ AllBare s'.gens) s := by
  have rv := vals_ints hi
  -- the heap H tracks the script or nothing
  have main : ∀ H : Hp, (∀ b, H b = none ∨ ∃ o xs, H b = some (.frz o (.lst xs))) → RdL K H a (ns.map V.int) → HOk P w H s.heap → (∀ b, H b ≠ none → b = a ∧ K.lookup a = none) →
      codeAny (model P w) callerA (.call (.ref fa) ⟨[.ref a], []⟩) (fun r s' => r = .ok (.ret (.bool true)) ∧ OldK s.heap s'.heap ∧ s'.os = s.os ∧ AllBare s'.gens) s := by
    intro H only hs ok hat
    have keep : ∀ {b : Addr} {o : Obj} {es : Array DictEntry} {ep : Nat}, s.heap.get? b = some o → o.data = .dict es ep → H b = none := fun {b o es ep} e dd => by
      cases q : H b with
      | none => rfl
      | some u =>
        obtain ⟨rfl, _⟩ := hat b (by rw [q]; simp)
        rw [hobj] at e
        cases e
        cases dd
    have nsB : ∀ {b : Addr} {m : Str → Option Value}, s.heap.Ns b m → (hidT s.heap H).Ns b m := fun {b m} ⟨o, es, ep, e, dd, r⟩ => ⟨o, es, ep, hidT_get e (keep e dd), dd, r⟩
    have kB : K.In (hidT s.heap H) := fun b o e => hidT_get (KX b o e) (by
      cases q : H b with
      | none => rfl
      | some u =>
        obtain ⟨rfl, n⟩ := hat b (by rw [q]; simp)
        rw [n] at e; cases e)
    have md : Mod K mg (hidT s.heap H) := ⟨kB, nsB hmg, ⟨mb, nsB hmb, hbb⟩, let ⟨mc, h1, h2⟩ := hlim; ⟨mc, nsB h1, h2⟩⟩
    have e0 : Env0 P w K mg (hidT s.heap H) callerA [] s H := ⟨rfl, md, fun b o e => of_hidT e, Nat.le_of_eq (hidT_size _ _), trivial, (fun b hb => by cases hb), ok, .of_eq hgen⟩
    have ob : Obs K H H (some 0) [PyData.list (ns.map .int)] [.n a (ns.map fun _ => t0)] := by
      simp only [Obs, Ob, and_true]
      refine ⟨?_, obs_ints ns⟩
      unfold LstAt
      rw [if_pos rfl]
      show RdL K H a (valsOf (ns.map PyData.int) (ns.map fun _ => t0))
      rw [vals_ints']
      exact hs
    refine codeAny_mono ((F _ kB (nsB hmg)).run callerA [] s H [.ref a] H [.list (ns.map .int)] [.n a (ns.map fun _ => t0)] (fun v _ => v = .bl true) (fun _ _ _ => False) hr e0 (.cons rfl .nil) rfl (Same.refl _) ob ?_) fun r s' h => ?_
    · rw [hφ]
      intro Z' H' t _ _ _ _ _
      rfl
    · cases r with
      | error e =>
        obtain ⟨_, _, _, _, _, _, _, _, _, _, _, _, z⟩ := h
        exact z.elim
      | ok fl =>
        cases fl with
        | next => exact False.elim h
        | brk => exact False.elim h
        | cont => exact False.elim h
        | ret u =>
          obtain ⟨v, H', os, bare, un, ok', rr, q⟩ := h
          have q' : v = .bl true := q
          subst q'
          obtain rfl : u = Value.bool true := rr
          refine ⟨rfl, OldK.of_keep fun b o e => ?_, os, bare⟩
          rcases only b with z | ⟨o', xs, z⟩
          · exact un.keep b o e z (fun m => by cases m) (fun m => by cases m)
          · obtain ⟨e1, _⟩ := ok b _ z
            obtain ⟨e2, _⟩ := ok' b _ (un.frzs b o' _ z)
            rw [e] at e1; cases e1
            exact e2
  have len' : (ns.map V.int).length ≤ sizeLine := by rw [List.length_map]; exact hlen
  cases hk : K.lookup a with
  | some o =>
    have e := KX a o hk
    rw [hobj] at e
    cases e
    exact main (fun _ => none) (fun _ => .inl rfl) (.inr ⟨vs, _, rv, len', hk⟩) (fun b u z => by cases z) fun b z => absurd rfl z
  | none =>
    have hself : (fun b => if b = a then some (HO.frz { cls := .type "list", data := .seq vs.toArray } (.lst (ns.map V.int))) else none : Hp) a = some (.frz { cls := .type "list", data := .seq vs.toArray } (.lst (ns.map V.int))) := if_pos rfl
    refine main (fun b => if b = a then some (.frz { cls := .type "list", data := .seq vs.toArray } (.lst (ns.map V.int))) else none) (fun b => ?_) (.inl (.inr ⟨_, hself⟩)) (fun b u z => ?_) fun b z => ?_
    · by_cases hb : b = a
      · exact .inr ⟨_, _, if_pos hb⟩
      · exact .inl (if_neg hb)
    · by_cases hb : b = a
      · subst hb
        rw [hself] at z
        cases z
        exact ⟨hobj, len', vs, _, rv, hobj⟩
      · dsimp only at z
        rw [if_neg hb] at z; cases z
    · by_cases hb : b = a
      · exact ⟨hb, hk⟩
      · exact absurd (if_neg hb) z
/-- THE END: the law's def answers True at every script -/
theorem law_end {l : PySem.W.OpenLaw} {n k : Nat} {q : Program} {loose : List Str} {XP : (Str → Option Value) → Heap → Prop} {YP : World → Heap → Prop} {d : DefRec} {φ : List D → Res (Lv × D)}
    (hn : l.most = some n) (hn2 : n ≤ sizeLine) (hdf : d.params.defaults = []) (hr : RoomG k callerA)
    (F : ∀ (w : World) (mg : Str → Option Value) (fa : Addr) (h : Heap), YP w h → h.Ns mainGlobals mg → mg d.name = some (.ref fa) → ∃ K : PySem.W.Frag, K.In h ∧ ∀ base : Heap, K.In base → base.Ns mainGlobals mg → FnS l.prog w K mg base k fa 1 φ)
    (hφ : ∀ ns : List Int, ns.length ≤ n → φ [.list (ns.map .int)] = .ok (none, .bool true)) :
    PySem.W.WalkO q loose XP YP l.row.toRowW d [] (fun f vs => PySem.call f vs) := by
  refine Att.attach_call hn hdf fun w s₀ s₁ mg mb fa o pm cd doc a vs ns G Y ho hd hcd hmg hobj hints hlen hgen => ?_
  obtain ⟨K, KX, hF⟩ := F w mg fa _ Y G.T.g hmg
  exact law_go KX G.T.g G.T.b G.T.builtins G.T.nolimit hgen hobj hints (Nat.le_trans hlen hn2) hr hF (hφ ns hlen)
end Ev

set_option Elab.async false
set_option linter.all false
set_option maxRecDepth 100000
namespace Ev
open PySem PySem.Spec PyProof.Rows L2

/-! ### what is walked -/
/-- the iterator J gives the items, while the values cs stand -/
structure ItG (K : PySem.W.Frag) (J : It) (items : List BV) (cs : List Tm) : Prop where
  go : ∀ {Z0 H0 Z H : Hp} {σ : L2.St} {ρ : Rho} {ts : List Tr} {τ : List Tm} {i : Nat} {v : BV}, Rl K Z0 H0 Z H σ ρ ts (cs ++ τ) → items[i]? = some v →
    J.go i H ∧ ∀ x H', J.yld i H x H' → ∃ Z' t, Step Z H Z' H' ∧ Same Z' H' ∧ Ob K Z' H' v.k v.d t ∧ own v.k v.d t = [] ∧ x = valOf v.d t
  stop : ∀ {Z0 H0 Z H : Hp} {σ : L2.St} {ρ : Rho} {ts : List Tr} {τ : List Tm} {i : Nat}, Rl K Z0 H0 Z H σ ρ ts (cs ++ τ) → items.length ≤ i → J.stop i H
def wPI (X : Cx) (tg iter : Expr) : TI := fun σ H R => ∀ (pins : List (Addr × Obj)) (s : Shared), Inv X pins σ H s →
  wpAny (model X.prog X.w) X.A (eval iter X.env) (fun v s1 => wpAny (model X.prog X.w) X.A (pyIter v) (PIE X pins σ tg R) X.xe s1) X.xe s
theorem pi_w {X : Cx} {tg iter : Expr} : PI X tg iter (wPI X tg iter) := ⟨fun pins s σ H R I h => h pins s I⟩
theorem wPI_of {X : Cx} {tg iter : Expr} {wi : TI} {σ : L2.St} {H : Hp} {R : It → Hp → Prop} (h : PI X tg iter wi) (q : wi σ H R) : wPI X tg iter σ H R := fun pins s I => h.run pins s σ H R I q
def GoodI (X : Cx) (W : WX) (cl : Bool) (S : Sta) (Q : It → Hp → Prop) : Res (List BV) → Prop
  | .ok items => ∀ (S' : Sta) (cs : List Tm) (J : It), Aft S S' → S'.τ = cs ++ S.τ → S'.R X.K → ItG X.K J items cs → (cl = true → Clean cs) → Q J S'.H
  | .rz c => ∀ S' : Sta, Aft S S' → S'.τ = S.τ → S'.R X.K → Raised X W c S'.σ S'.H
  | .er => False
def SI (X : Cx) (W : WX) (cl : Bool) (tg iter : Expr) (xi : Rho → Res (List BV)) : Prop := ∀ (S : Sta) (Q : It → Hp → Prop), S.R X.K → GoodI X W cl S Q (xi S.ρ) → wPI X tg iter S.σ S.H Q
def itm (d : D) : BV := ⟨false, if flat d = true then none else some 0, d⟩
theorem itm_own (d : D) (t : Tr) : own (itm d).k d t = [] := by
  unfold itm
  by_cases h : flat d = true
  · simp only [if_pos h]; exact flat_own d none t h
  · simp only [if_neg h]; exact own_zero d t
theorem itm_ob {K : PySem.W.Frag} {Z H : Hp} {k : Lv} {d : D} {t : Tr} (o : Ob K Z H k d t) (h : flat d = true ∨ k = some 0) : Ob K Z H (itm d).k d t := by
  unfold itm
  by_cases hf : flat d = true
  · simp only [if_pos hf]; exact flat_ob d k none t hf o
  · simp only [if_neg hf]
    rcases h with h | h
    · exact absurd h hf
    · rw [← h]; exact o
/-- the items of a list, of a tuple; cl: it must be shared -/
def itemsV (cl : Bool) (v : BV) : Res (List BV) := match v.d with
  | .list ds => if v.k = some 0 ∨ cl = false ∧ flats ds = true then .ok (ds.map itm) else .er
  | .tuple ds => if v.k = some 0 ∨ flat v.d = true then .ok (ds.map itm) else .er
  | _ => .er
def xItV (cl : Bool) (x : Rho → Res BV) : Rho → Res (List BV) := fun ρ => (x ρ).bind fun v => (settle true v).bind (itemsV cl)
section
variable {X : Cx} {W : WX} {S : Sta} {cl : Bool}
theorem settle_rz {fr : Bool} {v : BV} {c : Str} : settle fr v ≠ .rz c := by
  intro h
  unfold settle at h
  split at h
  · cases h
  · split at h
    · split at h <;> cases h
    · split at h <;> cases h
theorem itemsV_rz {v : BV} {c : Str} : itemsV cl v ≠ .rz c := by
  intro h
  unfold itemsV at h
  split at h
  · split at h <;> cases h
  · split at h <;> cases h
  · cases h
/-- a list or a tuple is walked -/
theorem pi_both {tg l : Expr} {tl : TE} (hl : PE X l tl) : PI X tg l (fun σ H R => tl σ H fun x H1 => ∃ a, x = .ref a ∧ ((∃ xs, SqL X.K H1 a xs ∧ R (Itl X.K a) H1) ∨ ∃ xs, SqT X.K H1 a xs ∧ R (Itt X.K a) H1)) := by
  refine ⟨fun pins s σ H R I h => thn (hl.run pins s σ H _ I h) fun v s1 ⟨x, H1, I1, rx, a, ex, q⟩ => ?_⟩
  subst ex
  cases rx
  have new : ∀ b ∈ [s1.heap.objs.size], FpOk X pins H1 b := fun b hb => by
    rw [List.mem_singleton.mp hb]
    exact I1.fpOk (Nat.le_refl _) (I1.hok.fresh (Nat.le_refl _))
  rcases q with ⟨xs, hq, q⟩ | ⟨xs, hq, q⟩
  · obtain ⟨its, _, hp, _⟩ := I1.list hq
    exact wpAny_pyIter_list hp.isList ⟨_, [s1.heap.objs.size], _, _, H1, rfl, I1.kept (t' := s1.toks) fun b o e => Heap.get?_push_of_some _ e, turn_list a _, ⟨_, Heap.get?_push_size _ rfl, rfl, rfl⟩, new, q⟩
  · obtain ⟨its, _, hp, _⟩ := I1.tuple hq
    exact wpAny_pyIter_tuple (show s1.heap.IsTuple a its.toArray from hp) ⟨_, [s1.heap.objs.size], _, _, H1, rfl, I1.kept (t' := s1.toks) fun b o e => Heap.get?_push_of_some _ e, turn_tuple a _, ⟨_, Heap.get?_push_size _ rfl, rfl, rfl⟩, new, q⟩
theorem get_itm {ds : List D} {i : Nat} {v : BV} (h : (ds.map itm)[i]? = some v) : ∃ d, ds[i]? = some d ∧ v = itm d := by
  rw [List.getElem?_map] at h
  cases e : ds[i]? with
  | none => rw [e] at h; cases h
  | some d => rw [e] at h; cases h; exact ⟨d, rfl, rfl⟩
theorem flats_mem : ∀ {l : List D}, flats l = true → ∀ d ∈ l, flat d = true
  | [], _, d, hd => by cases hd
  | a :: r, h, d, hd => by
    simp only [flats, Bool.and_eq_true] at h
    rcases List.mem_cons.mp hd with rfl | hd
    · exact h.1
    · exact flats_mem h.2 d hd
theorem kid_ok {k : Lv} {ds : List D} (h : k = some 0 ∨ flats ds = true) {d : D} (hd : d ∈ ds) : flat d = true ∨ pd k = some 0 := by
  rcases h with h | h
  · subst h; exact .inr rfl
  · exact .inl (flats_mem h d hd)
theorem itg_list {b : Bool} {k : Lv} {ds : List D} {t : Tr} (hk : k = some 0 ∨ flats ds = true) : ItG X.K (Itl X.K t.at) (ds.map itm) [⟨b, k, .list ds, t⟩] := by
  refine ⟨fun {Z0 H0 Z H σ ρ ts τ i v} R e => ?_, fun {Z0 H0 Z H σ ρ ts τ i} R hi => ?_⟩
  · obtain ⟨d, e1, rfl⟩ := get_itm e
    have o := (R.tm _ List.mem_cons_self).1
    simp only [Ob] at o
    obtain ⟨t', e2, o'⟩ := o.2.get e1
    have q := o.1.sq R.zh
    refine ⟨⟨_, _, q, valsOf_get e1 e2⟩, fun x H' y => ?_⟩
    obtain ⟨rfl, y⟩ := y
    have ex := y _ q
    rw [valsOf_get e1 e2] at ex
    cases ex
    exact ⟨Z, t', Step.refl, R.zh, itm_ob o' (kid_ok hk (List.mem_of_getElem? e1)), itm_own d t', rfl⟩
  · have o := (R.tm _ List.mem_cons_self).1
    simp only [Ob] at o
    refine ⟨_, o.1.sq R.zh, ?_⟩
    rw [valsOf_length o.2.len]
    rw [List.length_map] at hi
    exact hi
theorem itg_tup {b : Bool} {k : Lv} {ds : List D} {t : Tr} (hk : k = some 0 ∨ flat (.tuple ds) = true) : ItG X.K (Itt X.K t.at) (ds.map itm) [⟨b, k, .tuple ds, t⟩] := by
  have fl : flat (.tuple ds) = true → ∀ d ∈ ds, flat d = true := fun h => flats_mem (by simpa only [flat] using h)
  refine ⟨fun {Z0 H0 Z H σ ρ ts τ i v} R e => ?_, fun {Z0 H0 Z H σ ρ ts τ i} R hi => ?_⟩
  · obtain ⟨d, e1, rfl⟩ := get_itm e
    have o := (R.tm _ List.mem_cons_self).1
    simp only [Ob] at o
    obtain ⟨t', e2, o'⟩ := o.2.get e1
    have q := Same.sqT R.zh o.1
    refine ⟨⟨_, _, q, valsOf_get e1 e2⟩, fun x H' y => ?_⟩
    obtain ⟨rfl, y⟩ := y
    have ex := y _ q
    rw [valsOf_get e1 e2] at ex
    cases ex
    refine ⟨Z, t', Step.refl, R.zh, itm_ob o' ?_, itm_own d t', rfl⟩
    rcases hk with hk | hk
    · exact .inr hk
    · exact .inl (fl hk d (List.mem_of_getElem? e1))
  · have o := (R.tm _ List.mem_cons_self).1
    simp only [Ob] at o
    refine ⟨_, Same.sqT R.zh o.1, ?_⟩
    rw [valsOf_length o.2.len]
    rw [List.length_map] at hi
    exact hi
theorem si_seq {tg l : Expr} {x : Rho → Res BV} (hl : SE X W l x) : SI X W cl tg l (xItV cl x) := by
  intro S Q R g
  refine wPI_of (pi_both pe_w) (hl S _ R ?_)
  unfold xItV at g
  cases q : x S.ρ with
  | er => rw [q] at g; exact g
  | rz c => rw [q] at g; exact g
  | ok v =>
    rw [q] at g
    intro S1 t a1 e1 R1 f1
    replace g : GoodI X W cl S Q ((settle true v).bind (itemsV cl)) := g
    cases q2 : settle true v with
    | er => rw [q2] at g; exact g.elim
    | rz c => exact absurd q2 settle_rz
    | ok v' =>
      rw [q2] at g
      obtain ⟨S2, a2, h2, R2, e2, f2, _⟩ := settle_go q2 R1 e1 f1 a1
      have ed := settle_ok q2
      replace g : GoodI X W cl S Q (itemsV cl v') := g
      rw [← h2, ← ed]
      unfold itemsV at g
      have R3 := R2.rl e2
      have o := (R3.tm _ List.mem_cons_self).1
      cases hd : v'.d <;> rw [hd] at g <;> first | exact g.elim | skip
      · rename_i ds
        dsimp only at g
        split at g
        · rename_i hk
          rw [hd] at o e2
          simp only [Ob] at o
          exact ⟨t.at, rfl, .inl ⟨_, o.1.sq R3.zh, g S2 [⟨v'.b, v'.k, .list ds, t⟩] _ a2 e2 R2 (itg_list (hk.imp_right fun z => z.2)) fun q c hc _ => by
            rw [List.mem_singleton.mp hc]
            rcases hk with hk | hk
            · rw [hk]; exact own_zero _ t
            · rw [hk.1] at q; cases q⟩⟩
        · exact g.elim
      · rename_i ds
        dsimp only at g
        split at g
        · rename_i hk
          rw [hd] at o e2
          simp only [Ob] at o
          exact ⟨t.at, rfl, .inr ⟨_, Same.sqT R3.zh o.1, g S2 [⟨v'.b, v'.k, .tuple ds, t⟩] _ a2 e2 R2 (itg_tup hk) fun q c hc _ => by
            rw [List.mem_singleton.mp hc]
            rcases hk with hk | hk
            · rw [hk]; exact own_zero _ t
            · exact flat_own _ v'.k t hk⟩⟩
        · exact g.elim
/-! ranges -/
def intItems (lo c : Int) (n : Nat) : List BV := (List.range n).map fun i => ⟨false, none, .int (lo + (i : Nat) * c)⟩
theorem intItems_get {lo c : Int} {n i : Nat} {v : BV} (h : (intItems lo c n)[i]? = some v) : i < n ∧ v = ⟨false, none, .int (lo + (i : Nat) * c)⟩ := by
  unfold intItems at h
  rw [List.getElem?_map] at h
  by_cases hi : i < n
  · rw [List.getElem?_range hi] at h
    cases h
    exact ⟨hi, rfl⟩
  · rw [List.getElem?_eq_none_iff.mpr (by simpa using hi)] at h
    cases h
theorem intItems_length {lo c : Int} {n : Nat} : (intItems lo c n).length = n := by simp [intItems]
theorem itg_range {lo : Int} {n : Nat} : ItG X.K (Itr lo n) (intItems lo 1 n) [] := by
  refine ⟨fun {Z0 H0 Z H σ ρ ts τ i v} R e => ?_, fun {Z0 H0 Z H σ ρ ts τ i} R hi => ?_⟩
  · obtain ⟨hi, rfl⟩ := intItems_get e
    refine ⟨hi, fun x H' y => ?_⟩
    obtain ⟨rfl, rfl⟩ := y
    refine ⟨Z, t0, Step.refl, R.zh, by simp only [Ob], rfl, ?_⟩
    rw [Int.mul_one]
    rfl
  · rw [intItems_length] at hi
    exact hi
theorem itg_rangeC {lo c : Int} {n : Nat} : ItG X.K (Itc lo c n) (intItems lo c n) [] := by
  refine ⟨fun {Z0 H0 Z H σ ρ ts τ i v} R e => ?_, fun {Z0 H0 Z H σ ρ ts τ i} R hi => ?_⟩
  · obtain ⟨hi, rfl⟩ := intItems_get e
    refine ⟨hi, fun x H' y => ?_⟩
    obtain ⟨rfl, rfl⟩ := y
    exact ⟨Z, t0, Step.refl, R.zh, by simp only [Ob], rfl, rfl⟩
  · rw [intItems_length] at hi
    exact hi
def inLine (i : Int) : Bool := decide (-(2 ^ 62) ≤ i) && decide (i < 2 ^ 62)
theorem inLine_of {i : Int} (h1 : -(2 ^ 40) ≤ i) (h2 : i < 2 ^ 40) : inLine i = true := by
  unfold inLine
  rw [decide_eq_true (by omega), decide_eq_true (by omega)]
  rfl
theorem inLine_ok {i : Int} (h : inLine i = true) : -(2 ^ 62) ≤ i ∧ i < 2 ^ 62 := by
  unfold inLine at h
  simpa using h
/-- range of one, two, three values -/
def rangeV1 : List BV → Res (List BV)
  | [u] => match u.d with
    | .int j => if inLine j = true then .ok (intItems 0 1 j.toNat) else .er
    | _ => .er
  | _ => .er
def rangeV2 : List BV → Res (List BV)
  | [u, v] => match u.d, v.d with
    | .int i, .int j => if inLine i = true ∧ inLine j = true then .ok (intItems i 1 (j - i).toNat) else .er
    | _, _ => .er
  | _ => .er
def rangeV3 : List BV → Res (List BV)
  | [u, v, w] => match u.d, v.d, w.d with
    | .int i, .int j, .int c => if c ≠ 0 ∧ c.natAbs < 1073741824 ∧ Builtin.Range.small i j c = true ∧ 0 ≤ Builtin.Range.rangeSize i j c then .ok (intItems i c (Builtin.Range.rangeSize i j c).toNat) else .er
    | _, _, _ => .er
  | _ => .er
theorem GoodI.args {fr : Bool} {es : List Expr} {xs : List (Rho → Res BV)} (h : SA X W fr es xs) {f : List BV → Res (List BV)} {Q : It → Hp → Prop} {Q' : List V → Hp → Prop} (R : S.R X.K) (g : GoodI X W cl S Q ((evA fr xs S.ρ).bind f))
    (k : ∀ (vs : List BV) (S2 : Sta) (tr : List Tr), Aft S S2 → tr.length = vs.length → S2.τ = stk vs tr ++ S.τ → S2.R X.K → (∀ v ∈ vs, Setd fr v) → GoodI X W cl S Q (f vs) → Q' (valsB vs tr) S2.H) : wA X es S.σ S.H Q' := by
  refine h S Q' R ?_
  cases q : evA fr xs S.ρ with
  | er => rw [q] at g; exact g
  | rz c => rw [q] at g; exact g
  | ok vs =>
    rw [q] at g
    exact fun S2 tr a2 l2 e2 R2 f2 => k vs S2 tr a2 l2 e2 R2 (fun v hv => by obtain ⟨u, hu⟩ := evA_setd q v hv; exact settle_setd hu) g
def xItA (f : List BV → Res (List BV)) (xs : List (Rho → Res BV)) : Rho → Res (List BV) := fun ρ => (evA true xs ρ).bind f
/-- a walk that leans on nothing -/
theorem GoodI.none {Q : It → Hp → Prop} {items : List BV} {S2 : Sta} {cs : List Tm} {J : It} (g : GoodI X W cl S Q (.ok items)) (a2 : Aft S S2) (e2 : S2.τ = cs ++ S.τ) (R2 : S2.R X.K) (h : ItG X.K J items []) : Q J S2.H :=
  g (S.put S2.Z S2.H S.τ) [] J (Sta.aft_put a2.st) rfl (argsBack a2 e2 R2) h fun _ c hc => by cases hc
theorem si_range1 {tg a : Expr} {xs : List (Rho → Res BV)} {p pos : Pos} (hg : Gl X "range") (hm : X.mg "range" = none) (ha : SA X W true [a] xs) (hs : starEach [a] X.env = [(false, eval a X.env)]) : SI X W cl tg (.Call (.Name "range" p) [a] [] pos) (xItA rangeV1 xs) := by
  intro S Q R g
  refine wPI_of (pi_range1 hg hm pa_w hs) (GoodI.args ha R g fun vs S2 tr a2 l2 e2 R2 sd g2 => ?_)
  match vs, tr, l2 with
  | [], [], _ => exact g2.elim
  | [u], [t], _ =>
    unfold rangeV1 at g2
    dsimp only at g2
    cases hd : u.d <;> rw [hd] at g2 <;> first | exact g2.elim | skip
    rename_i j
    dsimp only at g2
    split at g2
    · rename_i hj
      obtain ⟨h1, h2⟩ := inLine_ok hj
      refine ⟨j, by simp [valsB, hd, valOf], h1, h2, ?_⟩
      exact GoodI.none g2 a2 e2 R2 itg_range
    · exact g2.elim
  | _ :: _ :: _, _ :: _ :: _, _ => exact g2.elim
theorem si_range2 {tg a b : Expr} {xs : List (Rho → Res BV)} {p pos : Pos} (hg : Gl X "range") (hm : X.mg "range" = none) (ha : SA X W true [a, b] xs) (hs : starEach [a, b] X.env = [(false, eval a X.env), (false, eval b X.env)]) (hs2 : starEach [b] X.env = [(false, eval b X.env)]) : SI X W cl tg (.Call (.Name "range" p) [a, b] [] pos) (xItA rangeV2 xs) := by
  intro S Q R g
  refine wPI_of (pi_range2 hg hm pa_w hs hs2) (GoodI.args ha R g fun vs S2 tr a2 l2 e2 R2 sd g2 => ?_)
  match vs, tr, l2 with
  | [], [], _ => exact g2.elim
  | [_], [_], _ => exact g2.elim
  | [u, v], [t, t'], _ =>
    unfold rangeV2 at g2
    dsimp only at g2
    cases hd : u.d <;> rw [hd] at g2 <;> first | exact g2.elim | skip
    cases hv : v.d <;> rw [hv] at g2 <;> first | exact g2.elim | skip
    rename_i i j
    dsimp only at g2
    split at g2
    · rename_i hj
      obtain ⟨h1, h2⟩ := inLine_ok hj.1
      obtain ⟨h3, h4⟩ := inLine_ok hj.2
      refine ⟨i, j, by simp [valsB, hd, hv, valOf], ⟨h1, h2, h3, h4⟩, ?_⟩
      exact GoodI.none g2 a2 e2 R2 itg_range
    · exact g2.elim
  | _ :: _ :: _ :: _, _ :: _ :: _ :: _, _ => exact g2.elim
theorem si_range3 {tg a b c : Expr} {xs : List (Rho → Res BV)} {p pos : Pos} (ha : SA X W true [a, b, c] xs) (hp : PI X tg (.Call (.Name "range" p) [a, b, c] [] pos) (iRng3 (wA X [a, b, c]))) : SI X W cl tg (.Call (.Name "range" p) [a, b, c] [] pos) (xItA rangeV3 xs) := by
  intro S Q R g
  refine wPI_of hp (GoodI.args ha R g fun vs S2 tr a2 l2 e2 R2 sd g2 => ?_)
  match vs, tr, l2 with
  | [], [], _ => exact g2.elim
  | [_], [_], _ => exact g2.elim
  | [_, _], [_, _], _ => exact g2.elim
  | [u, v, w], [t, t', t''], _ =>
    unfold rangeV3 at g2
    dsimp only at g2
    cases hd : u.d <;> rw [hd] at g2 <;> first | exact g2.elim | skip
    cases hv : v.d <;> rw [hv] at g2 <;> first | exact g2.elim | skip
    cases hw : w.d <;> rw [hw] at g2 <;> first | exact g2.elim | skip
    rename_i i j c
    dsimp only at g2
    split at g2
    · rename_i hj
      refine ⟨i, j, c, _, by simp [valsB, hd, hv, hw, valOf], ⟨hj.1, hj.2.1, hj.2.2.1, (Int.toNat_of_nonneg hj.2.2.2).symm⟩, ?_⟩
      exact GoodI.none g2 a2 e2 R2 itg_rangeC
    · exact g2.elim
  | _ :: _ :: _ :: _ :: _, _ :: _ :: _ :: _ :: _, _ => exact g2.elim
/-! enumerate, zip -/
/-- the list of an argument whose items may be handed on -/
def lstI (cl : Bool) (v : BV) : Res (List D) := match v.d with
  | .list ds => if v.k = some 0 ∨ cl = false ∧ flats ds = true then .ok ds else .er
  | _ => .er
theorem lstI_ok {v : BV} {ds : List D} (h : lstI cl v = .ok ds) : v.d = .list ds ∧ (v.k = some 0 ∨ cl = false ∧ flats ds = true) := by
  unfold lstI at h
  cases hd : v.d <;> rw [hd] at h <;> first | (cases h; done) | skip
  dsimp only at h
  split at h <;> cases h
  rename_i hk
  exact ⟨rfl, hk⟩
theorem lstI_rz {v : BV} {c : Str} : lstI cl v ≠ .rz c := by
  intro h
  unfold lstI at h
  cases hd : v.d <;> rw [hd] at h <;> first | (cases h; done) | skip
  dsimp only at h
  split at h <;> cases h
theorem clean_list {v : BV} {ds : List D} {t : Tr} (h : v.k = some 0 ∨ cl = false ∧ flats ds = true) (q : cl = true) : own v.k v.d t = [] := by
  rcases h with h | h
  · rw [h]; exact own_zero _ t
  · rw [h.1] at q; cases q
def enumV (cl : Bool) : List BV → Res (List BV)
  | [v] => (lstI cl v).bind fun ds => .ok (ds.mapIdx fun i d => itm (.tuple [.int (i : Nat), d]))
  | _ => .er
def zipV (cl : Bool) : List BV → Res (List BV)
  | [u, v] => (lstI cl u).bind fun ds => (lstI cl v).bind fun es => .ok (List.zipWith (fun d e => itm (.tuple [d, e])) ds es)
  | _ => .er
/-- a new pair of the walk's -/
theorem pair_ok {K : PySem.W.Frag} {Z H : Hp} {d e : D} {t t' : Tr} {k k' : Lv} {T : Addr} (zh : Same Z H) (hT : H T = none) (o : Ob K Z H k d t) (o' : Ob K Z H k' e t') (h : flat d = true ∨ k = some 0) (h' : flat e = true ∨ k' = some 0) :
    ∃ Z', Step Z H Z' (upd H T (.tup [valOf d t, valOf e t'])) ∧ Same Z' (upd H T (.tup [valOf d t, valOf e t'])) ∧ Ob K Z' (upd H T (.tup [valOf d t, valOf e t'])) (itm (.tuple [d, e])).k (.tuple [d, e]) (.n T [t, t']) := by
  have zT : Z T = none := zh.free hT
  have fz : ∀ {d : D} {k : Lv} {t : Tr}, Ob K Z H k d t → (flat d = true ∨ k = some 0) → Ob K (upd Z T (.tup [valOf d t, valOf e t'])) (upd H T (.tup [valOf d t, valOf e t'])) (some 0) d t := fun {d k t} o h => by
    refine Ob.ext (Z := Z) (H := H) (fun b u q => ?_) d (some 0) t ?_ (fun a m => by rw [own_zero] at m; cases m) (fun a m => by rw [own_zero] at m; cases m)
    · rw [upd_ne (ne_of_none q zT)]; exact q
    · rcases h with h | h
      · exact flat_ob d k (some 0) t h o
      · rw [← h]; exact o
  have fz2 : ∀ {d' : D} {k : Lv} {t2 : Tr}, Ob K Z H k d' t2 → (flat d' = true ∨ k = some 0) → Ob K (upd Z T (.tup [valOf d t, valOf e t'])) (upd H T (.tup [valOf d t, valOf e t'])) (some 0) d' t2 := fun {d' k t2} o h => by
    refine Ob.ext (Z := Z) (H := H) (fun b u q => ?_) d' (some 0) t2 ?_ (fun a m => by rw [own_zero] at m; cases m) (fun a m => by rw [own_zero] at m; cases m)
    · rw [upd_ne (ne_of_none q zT)]; exact q
    · rcases h with h | h
      · exact flat_ob d' k (some 0) t2 h o
      · rw [← h]; exact o
  refine ⟨upd Z T (.tup [valOf d t, valOf e t']), ⟨fun b u q => ?_, fun b u q => ?_, fun b u q => ?_⟩, fun b u q => ?_, ?_⟩
  · rw [upd_ne (ne_of_none q zT)]; exact q
  · rw [upd_ne (ne_of_none q hT)]; exact q
  · by_cases hb : b = T
    · subst hb; exact .inr hT
    · rw [upd_ne hb] at q; exact .inl q
  · by_cases hb : b = T
    · subst hb; rw [upd_same] at q ⊢; exact q
    · rw [upd_ne hb] at q ⊢; exact zh _ _ q
  · have base : Ob K (upd Z T (.tup [valOf d t, valOf e t'])) (upd H T (.tup [valOf d t, valOf e t'])) (some 0) (.tuple [d, e]) (.n T [t, t']) := by
      simp only [Ob, Tr.kids, Obs, and_true]
      exact ⟨SqT.of upd_same, fz2 o h, fz2 o' h'⟩
    exact itm_ob base (.inr rfl)
theorem si_enum {elts : List Expr} {kk : Nat} {tpos : Pos} {e : Expr} {xs : List (Rho → Res BV)} {p pos : Pos} (hg : Gl X "enumerate") (hm : X.mg "enumerate" = none) (ha : SA X W true [e] xs) (hs : starEach [e] X.env = [(false, eval e X.env)]) : SI X W cl (.Tuple elts kk tpos) (.Call (.Name "enumerate" p) [e] [] pos) (xItA (enumV cl) xs) := by
  intro S Q R g
  refine wPI_of (pi_enum hg hm pa_w hs) (GoodI.args ha R g fun vs S2 tr a2 l2 e2 R2 sd g2 => ?_)
  match vs, tr, l2 with
  | [], [], _ => exact g2.elim
  | [v], [t], _ =>
    replace g2 : GoodI X W cl S Q ((lstI cl v).bind fun ds => .ok (ds.mapIdx fun i d => itm (.tuple [.int (i : Nat), d]))) := g2
    cases q : lstI cl v with
    | er => rw [q] at g2; exact g2.elim
    | rz c => exact absurd q lstI_rz
    | ok ds =>
      rw [q] at g2
      obtain ⟨hd, hk⟩ := lstI_ok q
      have ob : ∀ {Z0 H0 Z H : Hp} {σ : L2.St} {ρ : Rho} {ts : List Tr} {τ : List Tm}, Rl X.K Z0 H0 Z H σ ρ ts (stk [v] [t] ++ τ) → SqL X.K H t.at (valsOf ds t.kids) ∧ Obs X.K Z H (pd v.k) ds t.kids := fun R => by
        have o := (R.tm ⟨v.b, v.k, v.d, t⟩ (by simp [Ev.stk])).1
        replace o : Ob X.K _ _ v.k v.d t := o
        rw [hd] at o
        simp only [Ob] at o
        exact ⟨o.1.sq R.zh, o.2⟩
      have ob2 := ob (R2.rl e2)
      refine ⟨t.at, valsOf ds t.kids, by simp [valsB, hd, valOf], ob2.1, ?_⟩
      refine g2 S2 (stk [v] [t]) _ a2 e2 R2 ⟨fun {Z0 H0 Z H σ ρ ts τ i w} R e => ?_, fun {Z0 H0 Z H σ ρ ts τ i} R hi => ?_⟩ fun qc c hc _ => ?_
      · obtain ⟨sq, os⟩ := ob R
        rw [List.getElem?_mapIdx] at e
        cases ed : ds[i]? with
        | none => rw [ed] at e; cases e
        | some d =>
          rw [ed] at e
          simp only [Option.map_some, Option.some.injEq] at e
          subst e
          obtain ⟨t2, et, o2⟩ := os.get ed
          refine ⟨⟨_, _, sq, valsOf_get ed et⟩, fun x H' y => ?_⟩
          obtain ⟨T, x', rfl, hT, rfl, hx⟩ := y
          have ex := hx _ sq
          rw [valsOf_get ed et] at ex
          cases ex
          obtain ⟨Z', st, zh, o3⟩ := pair_ok (d := .int (i : Nat)) (t := t0) (k := none) R.zh hT (by simp only [Ob]) o2 (.inl rfl) (kid_ok (hk.imp_right fun z => z.2) (List.mem_of_getElem? ed))
          exact ⟨Z', .n T [t0, t2], st, zh, o3, itm_own _ _, rfl⟩
      · obtain ⟨sq, os⟩ := ob R
        refine ⟨_, sq, ?_⟩
        rw [valsOf_length os.len]
        rw [List.length_mapIdx] at hi
        exact hi
      · have e : c = ⟨v.b, v.k, v.d, t⟩ := by simpa [Ev.stk] using hc
        subst e
        exact clean_list (v := v) hk qc
  | _ :: _ :: _, _ :: _ :: _, _ => exact g2.elim
theorem si_zip {elts : List Expr} {kk : Nat} {tpos : Pos} {a b : Expr} {xs : List (Rho → Res BV)} {p pos : Pos} (hg : Gl X "zip") (hm : X.mg "zip" = none) (ha : SA X W true [a, b] xs) (hs : starEach [a, b] X.env = (false, eval a X.env) :: starEach [b] X.env) (hpl : (backTo pos (starEach [b] X.env)).any (·.1) = false) :
    SI X W cl (.Tuple elts kk tpos) (.Call (.Name "zip" p) [a, b] [] pos) (xItA (zipV cl) xs) := by
  intro S Q R g
  refine wPI_of (pi_zip hg hm pa_w hs hpl) (GoodI.args ha R g fun vs S2 tr a2 l2 e2 R2 sd g2 => ?_)
  match vs, tr, l2 with
  | [], [], _ => exact g2.elim
  | [_], [_], _ => exact g2.elim
  | [u, v], [t, t'], _ =>
    replace g2 : GoodI X W cl S Q ((lstI cl u).bind fun ds => (lstI cl v).bind fun es => .ok (List.zipWith (fun d e => itm (.tuple [d, e])) ds es)) := g2
    cases q : lstI cl u with
    | er => rw [q] at g2; exact g2.elim
    | rz c => exact absurd q lstI_rz
    | ok ds =>
      rw [q] at g2
      replace g2 : GoodI X W cl S Q ((lstI cl v).bind fun es => .ok (List.zipWith (fun d e => itm (.tuple [d, e])) ds es)) := g2
      cases q2 : lstI cl v with
      | er => rw [q2] at g2; exact g2.elim
      | rz c => exact absurd q2 lstI_rz
      | ok es =>
        rw [q2] at g2
        obtain ⟨hd, hk⟩ := lstI_ok q
        obtain ⟨hd2, hk2⟩ := lstI_ok q2
        have ob : ∀ {Z0 H0 Z H : Hp} {σ : L2.St} {ρ : Rho} {ts : List Tr} {τ : List Tm}, Rl X.K Z0 H0 Z H σ ρ ts (stk [u, v] [t, t'] ++ τ) → (SqL X.K H t.at (valsOf ds t.kids) ∧ Obs X.K Z H (pd u.k) ds t.kids) ∧ SqL X.K H t'.at (valsOf es t'.kids) ∧ Obs X.K Z H (pd v.k) es t'.kids := fun R => by
          have o := (R.tm ⟨u.b, u.k, u.d, t⟩ (by simp [Ev.stk])).1
          have o' := (R.tm ⟨v.b, v.k, v.d, t'⟩ (by simp [Ev.stk])).1
          replace o : Ob X.K _ _ u.k u.d t := o
          replace o' : Ob X.K _ _ v.k v.d t' := o'
          rw [hd] at o
          rw [hd2] at o'
          simp only [Ob] at o o'
          exact ⟨⟨o.1.sq R.zh, o.2⟩, o'.1.sq R.zh, o'.2⟩
        have ob2 := ob (R2.rl e2)
        refine ⟨t.at, t'.at, valsOf ds t.kids, valsOf es t'.kids, by simp [valsB, hd, hd2, valOf], ob2.1.1, ob2.2.1, ?_⟩
        refine g2 S2 (stk [u, v] [t, t']) _ a2 e2 R2 ⟨fun {Z0 H0 Z H σ ρ ts τ i w} R e => ?_, fun {Z0 H0 Z H σ ρ ts τ i} R hi => ?_⟩ fun qc c hc _ => ?_
        · obtain ⟨⟨sq, os⟩, sq2, os2⟩ := ob R
          rw [List.getElem?_zipWith] at e
          cases ed : ds[i]? with
          | none => rw [ed] at e; cases e
          | some d =>
            cases ee : es[i]? with
            | none => rw [ed, ee] at e; cases e
            | some d2 =>
              rw [ed, ee] at e
              simp only [Option.some.injEq] at e
              subst e
              obtain ⟨t2, et, o2⟩ := os.get ed
              obtain ⟨t3, et3, o3⟩ := os2.get ee
              refine ⟨⟨_, _, _, _, sq, sq2, valsOf_get ed et, valsOf_get ee et3⟩, fun x H' y => ?_⟩
              obtain ⟨T, x', y', rfl, hT, rfl, hx, hy⟩ := y
              have ex := hx _ sq
              have ey := hy _ sq2
              rw [valsOf_get ed et] at ex
              rw [valsOf_get ee et3] at ey
              cases ex; cases ey
              obtain ⟨Z', st, zh, o4⟩ := pair_ok R.zh hT o2 o3 (kid_ok (hk.imp_right fun z => z.2) (List.mem_of_getElem? ed)) (kid_ok (hk2.imp_right fun z => z.2) (List.mem_of_getElem? ee))
              exact ⟨Z', .n T [t2, t3], st, zh, o4, itm_own _ _, rfl⟩
        · obtain ⟨⟨sq, os⟩, sq2, os2⟩ := ob R
          refine ⟨_, _, sq, sq2, ?_⟩
          rw [valsOf_length os.len, valsOf_length os2.len]
          rw [List.length_zipWith] at hi
          omega
        · have e : c = ⟨v.b, v.k, v.d, t'⟩ ∨ c = ⟨u.b, u.k, u.d, t⟩ := by simpa [Ev.stk] using hc
          rcases e with e | e
          · subst e; exact clean_list (v := v) hk2 qc
          · subst e; exact clean_list (v := u) hk qc
  | _ :: _ :: _ :: _, _ :: _ :: _ :: _, _ => exact g2.elim
end
end Ev

set_option Elab.async false
set_option linter.all false
set_option maxRecDepth 100000
namespace Ev
open PySem PySem.Spec PyProof.Rows L2

theorem Rl.store' {K : PySem.W.Frag} {Z0 H0 Z H : Hp} {σ : L2.St} {ρ : Rho} {ts : List Tr} {τ : List Tm} {k : Lv} {d : D} {t : Tr} {i : Nat} (R : Rl K Z0 H0 Z H σ ρ ts (⟨false, k, d, t⟩ :: τ)) (hc : Clean τ) : Rl K Z0 H0 Z H (σ.set i (some (valOf d t))) (setSl ρ i (.va k d)) (ts.set i t) τ := by
  by_cases hi : i < σ.length
  · exact R.store hc hi
  · have e1 : σ.set i (some (valOf d t)) = σ := List.set_eq_of_length_le (by omega)
    have e2 : ts.set i t = ts := List.set_eq_of_length_le (by rw [R.lt]; omega)
    have e3 : setSl ρ i (.va k d) = setSl ρ i .em := by
      unfold setSl
      rw [List.set_eq_of_length_le (by rw [killA_length, R.lr]; omega), List.set_eq_of_length_le (by rw [killA_length, R.lr]; omega)]
    rw [e1, e2, e3]
    exact R.pop.forget hc

/-! ### targets -/
def wG (X : Cx) (tg : Expr) : TG := fun v σ H Q => ∀ (pins : List (Addr × Obj)) (s : Shared) (u : Value), Inv X pins σ H s → RelV v u →
  wpAny (model X.prog X.w) X.A (assign tg X.env u) (fun _ s' => ∃ σ' H', Inv X pins σ' H' s' ∧ Q σ' H') X.xe s
theorem pg_w {X : Cx} {tg : Expr} : PG X tg (wG X tg) := ⟨fun pins s σ H v u Q I r h => h pins s u I r⟩
/-- names in the slots is take the items ds -/
def bindN : List Nat → List D → Rho → Rho
  | i :: is, d :: ds, ρ => bindN is ds (setSl ρ i (.va (itm d).k d))
  | _, _, ρ => ρ
def bd1 (i : Nat) : Rho → BV → Res Rho := fun ρ v => .ok (setSl ρ i (.va v.k v.d))
def bdT (is : List Nat) : Rho → BV → Res Rho := fun ρ v => match v.d with
  | .tuple ds => if ds.length = is.length then .ok (bindN is ds ρ) else .er
  | _ => .er
/-- a target with the slots is, its reading g, as bd says -/
structure SG (K : PySem.W.Frag) (is : List Nat) (g : TG) (bd : Rho → BV → Res Rho) : Prop where
  run : ∀ {Z0 H0 Z H : Hp} {σ : L2.St} {ρ ρ' : Rho} {ts : List Tr} {τ : List Tm} {v : BV} {t : Tr} {Q : L2.St → Hp → Prop}, Rl K Z0 H0 Z H σ ρ ts τ → Clean τ → Ob K Z H v.k v.d t → own v.k v.d t = [] → (v.k = some 0 ∨ flat v.d = true) → bd ρ v = .ok ρ' →
    (∀ σ' ts', Rl K Z0 H0 Z H σ' ρ' ts' τ → (∀ vs : List Nat, (∀ i ∈ is, i ∈ vs) → wipe σ' vs = wipe σ vs) → Q σ' H) → g (valOf v.d t) σ H Q
theorem wipe_get {σ : L2.St} {i : Nat} : ∀ {vs : List Nat}, (wipe σ vs)[i]? = if i ∈ vs ∧ i < σ.length then some none else σ[i]?
  | [] => by simp [wipe]
  | v :: vs => by
    have ih := wipe_get (σ := σ) (i := i) (vs := vs)
    unfold wipe
    by_cases h : i = v
    · subst h
      by_cases hl : i < σ.length
      · rw [List.getElem?_set_self (by rw [wipe_length]; exact hl), if_pos ⟨List.mem_cons_self, hl⟩]
      · rw [if_neg (fun z => hl z.2), List.getElem?_eq_none_iff.mpr (by rw [List.length_set, wipe_length]; omega), List.getElem?_eq_none_iff.mpr (by omega)]
    · rw [List.getElem?_set_ne (Ne.symm h), ih]
      have e : i ∈ v :: vs ↔ i ∈ vs := by
        rw [List.mem_cons]
        exact ⟨fun z => z.elim (fun q => absurd q h) _root_.id, .inr⟩
      simp only [e]
theorem wipe_set {σ : L2.St} {i : Nat} {x : Option V} {vs : List Nat} (h : i ∈ vs) : wipe (σ.set i x) vs = wipe σ vs := by
  refine List.ext_getElem? fun j => ?_
  rw [wipe_get, wipe_get, List.length_set]
  by_cases hj : j = i
  · subst hj
    by_cases hl : j < σ.length
    · rw [if_pos ⟨h, hl⟩, if_pos ⟨h, hl⟩]
    · rw [if_neg (fun z => hl z.2), if_neg (fun z => hl z.2), List.getElem?_eq_none_iff.mpr (by rw [List.length_set]; omega), List.getElem?_eq_none_iff.mpr (by omega)]
  · rw [List.getElem?_set_ne (Ne.symm hj)]
theorem sg_name {K : PySem.W.Frag} {i : Nat} : SG K [i] (gName i) (bd1 i) := by
  refine ⟨fun {Z0 H0 Z H σ ρ ρ' ts τ v t Q} R hc o ow lv e k => ?_⟩
  cases e
  have R1 : Rl K Z0 H0 Z H σ ρ ts (⟨false, v.k, v.d, t⟩ :: τ) := R.push0 o ow
  exact k _ _ (Rl.store' R1 hc) fun vs h => wipe_set (h i (by simp))
def gNames : List Nat → TGs
  | [] => gNil
  | i :: is => gCons (gName i) (gNames is)
theorem names_go {K : PySem.W.Frag} : ∀ (is : List Nat) (ds : List D) {Z0 H0 Z H : Hp} {σ : L2.St} {ρ : Rho} {ts tr : List Tr} {τ : List Tm} {k : Lv} {Q : L2.St → Hp → Prop}, Rl K Z0 H0 Z H σ ρ ts τ → Clean τ → Obs K Z H k ds tr → (k = some 0 ∨ flats ds = true) → ds.length = is.length →
    (∀ σ' ts', Rl K Z0 H0 Z H σ' (bindN is ds ρ) ts' τ → (∀ vs : List Nat, (∀ i ∈ is, i ∈ vs) → wipe σ' vs = wipe σ vs) → Q σ' H) → gNames is (valsOf ds tr) σ H Q
  | [], [], Z0, H0, Z, H, σ, ρ, ts, tr, τ, k, Q, R, hc, o, lv, hl, q => by
    cases tr with
    | nil => exact ⟨rfl, q σ ts R fun _ _ => rfl⟩
    | cons => simp only [Obs] at o
  | i :: is, d :: ds, Z0, H0, Z, H, σ, ρ, ts, tr, τ, k, Q, R, hc, o, lv, hl, q => by
    cases tr with
    | nil => simp only [Obs] at o
    | cons t tr =>
      simp only [Obs] at o
      refine ⟨valOf d t, valsOf ds tr, rfl, ?_⟩
      have lvd : flat d = true ∨ k = some 0 := by
        rcases lv with h | h
        · exact .inr h
        · simp only [flats, Bool.and_eq_true] at h; exact .inl h.1
      have R1 : Rl K Z0 H0 Z H σ ρ ts (⟨false, (itm d).k, d, t⟩ :: τ) := R.push0 (itm_ob o.1 lvd) (itm_own d t)
      have R2 := Rl.store' (i := i) R1 hc
      refine names_go is ds R2 hc o.2 ?_ (by simpa using hl) fun σ' ts' R' hw => q σ' ts' R' fun vs h => ?_
      · rcases lv with h | h
        · exact .inl h
        · simp only [flats, Bool.and_eq_true] at h; exact .inr h.2
      · rw [hw vs fun j hj => h j (List.mem_cons_of_mem _ hj)]
        exact wipe_set (h i (by simp))
  | [], _ :: _, _, _, _, _, _, _, _, _, _, _, _, _, _, _, _, hl, _ => by simp at hl
  | _ :: _, [], _, _, _, _, _, _, _, _, _, _, _, _, _, _, _, hl, _ => by simp at hl
theorem sg_tup {K : PySem.W.Frag} {is : List Nat} : SG K is (gTup K is.length (gNames is)) (bdT is) := by
  refine ⟨fun {Z0 H0 Z H σ ρ ρ' ts τ v t Q} R hc o ow lv e k => ?_⟩
  unfold bdT at e
  cases hd : v.d <;> rw [hd] at e <;> first | (cases e; done) | skip
  rename_i ds
  dsimp only at e
  split at e <;> cases e
  rename_i hl
  rw [hd] at o lv
  simp only [Ob] at o
  refine ⟨t.at, _, rfl, Same.sqT R.zh o.1, by rw [valsOf_length o.2.len, hl], ?_⟩
  exact names_go is ds R hc o.2 (lv.imp_right fun h => by simpa only [flat] using h) hl k

/-! ### for -/
def SR.unbk : SR → SR
  | .bk ρ => .nx ρ
  | r => r
def forL (bd : Rho → BV → Res Rho) (body : Rho → SR) : List BV → Rho → SR
  | [], ρ => .nx ρ
  | v :: vs, ρ => match bd ρ v with
    | .ok ρ1 => match body ρ1 with
      | .nx ρ2 => forL bd body vs ρ2
      | .ct ρ2 => forL bd body vs ρ2
      | r => r
    | _ => .er
def sFor (xi : Rho → Res (List BV)) (bd : Rho → BV → Res Rho) (body : Rho → SR) : Rho → SR := fun ρ => match xi ρ with
  | .ok vs => (forL bd body vs ρ).unbk
  | .rz c => .rz c ρ
  | .er => .er
section
variable {X : Cx} {W : WX} {S : Sta} {De : Ends}
theorem GoodS.unbk {r : SR} (g : GoodS X W S De r.unbk) : GoodS X W S { De with bk := De.nx } r := by
  cases r <;> exact g
theorem clean_app {a b : List Tm} (h : Clean a) (h' : Clean b) : Clean (a ++ b) := fun c hc => (List.mem_append.mp hc).elim (h c) (h' c)
/-- fewer values under way in the end -/
theorem GoodS.drop {r : SR} {S1 : Sta} {cs : List Tm} (g : GoodS X W S De r) (a : AftS S S1) (e : S1.τ = cs ++ S.τ) : GoodS X W S1 De r := by
  have back : ∀ {S2 : Sta}, S2.τ = S1.τ → S2.R X.K → (S2.put S2.Z S2.H S.τ).R X.K := fun {S2} e2 R => by
    have R2 := R.rl (e2.trans e)
    refine Rl.perm R2 (fun c h => List.mem_append_right _ h) ?_
    have n := R2.nd
    rw [ownT_app, ← List.append_assoc] at n
    exact (List.nodup_append.mp n).2.1
  cases r with
  | nx ρ => exact fun S2 a2 e1 e2 R => g (S2.put S2.Z S2.H S.τ) ⟨(a.trans a2).z0, (a.trans a2).h0, (a.trans a2).zz⟩ e1 rfl (back e2 R)
  | bk ρ => exact fun S2 a2 e1 e2 R => g (S2.put S2.Z S2.H S.τ) ⟨(a.trans a2).z0, (a.trans a2).h0, (a.trans a2).zz⟩ e1 rfl (back e2 R)
  | ct ρ => exact fun S2 a2 e1 e2 R => g (S2.put S2.Z S2.H S.τ) ⟨(a.trans a2).z0, (a.trans a2).h0, (a.trans a2).zz⟩ e1 rfl (back e2 R)
  | rz c ρ => exact fun S2 a2 e1 e2 R => g (S2.put S2.Z S2.H S.τ) ⟨(a.trans a2).z0, (a.trans a2).h0, (a.trans a2).zz⟩ e1 rfl (back e2 R)
  | rt k d =>
    intro Z' H' t s zh o nd fr
    rw [a.z0, a.h0] at s
    exact g Z' H' t s zh o nd fun x m => by have := fr x m; rw [a.h0] at this; exact this
  | er => exact g
/-- what holds ahead of a turn -/
def ForP (X : Cx) (W : WX) (S : Sta) (D : Ends) (τ : List Tm) (r : Rho → SR) (σ : L2.St) (H : Hp) : Prop := ∃ S2 : Sta, AftS S S2 ∧ S2.σ = σ ∧ S2.H = H ∧ S2.τ = τ ∧ S2.R X.K ∧ GoodS X W S D (r S2.ρ)
theorem st_for {tg iter : Expr} {body : List Stmt} {pos : Pos} {is : List Nat} {g : TG} {bd : Rho → BV → Res Rho} {xi : Rho → Res (List BV)} {sb : Rho → SR} (hp : PassesOwn (model X.prog X.w) X.A X.env X.xe) (hcm : X.calm = true) (hi : SI X W true tg iter xi) (hpg : PG X tg g) (hg : SG X.K is g bd)
    (hitm : ∀ ρ vs, xi ρ = .ok vs → ∀ v ∈ vs, v.k = some 0 ∨ flat v.d = true) (hb : SSs X W body sb) (hs : ∀ x, foldedSetIterable iter X.env x = pure x) : SSt X W (.For tg iter body [] pos) (sFor xi bd sb) := by
  intro S D R hc g0
  refine wS_of (ps_for hp hcm pi_w hpg pss_w hs) (hi S _ R ?_)
  unfold sFor at g0
  cases q : xi S.ρ with
  | er => rw [q] at g0; exact g0
  | rz c =>
    rw [q] at g0
    exact fun S1 a1 e1 R1 => g0 S1 a1.s a1.ρ e1 R1
  | ok items =>
    rw [q] at g0
    replace g0 : GoodS X W S D (forL bd sb items S.ρ).unbk := g0
    intro S1 cs J a1 e1 R1 itg cln
    have ccs : Clean (cs ++ S.τ) := clean_app (cln rfl) hc
    refine ⟨fun i m σ H => m = items.length - i ∧ i ≤ items.length ∧ ForP X W S D (cs ++ S.τ) (fun ρ => (forL bd sb (items.drop i) ρ).unbk) σ H,
      ⟨items.length, by simp, Nat.zero_le _, S1, a1.s, a1.σ, rfl, e1, R1, by rw [a1.ρ]; exact g0⟩, ?_⟩
    rintro i m σ H ⟨rfl, hile, S2, a2, rfl, rfl, e2, R2, g2⟩
    by_cases hlt : i < items.length
    · obtain ⟨v, hv⟩ : ∃ v, items[i]? = some v := ⟨items[i], by simp [hlt]⟩
      have ed : items.drop i = v :: items.drop (i + 1) := by
        rw [List.drop_eq_getElem_cons hlt]
        congr 1
        have := List.getElem?_eq_getElem hlt
        rw [this] at hv
        exact Option.some.inj hv
      dsimp only at g2
      rw [ed] at g2
      obtain ⟨go, yld⟩ := itg.go (R2.rl e2) hv
      refine .inr ⟨go, ForP X W S D (cs ++ S.τ) (fun ρ => (forL bd sb (items.drop (i + 1)) ρ).unbk), fun σ' H' hN => ⟨items.length - (i + 1), by omega, rfl, hlt, hN⟩, fun x H' y => ?_⟩
      obtain ⟨Z', t, st, zh, ob, ow, rfl⟩ := yld x H' y
      have R3 := Rl.step (R2.rl e2) st zh
      unfold forL at g2
      cases qb : bd S2.ρ v with
      | er => rw [qb] at g2; exact g2.elim
      | rz c => rw [qb] at g2; exact g2.elim
      | ok ρ1 =>
        rw [qb] at g2
        refine hg.run R3 ccs ob ow (hitm _ _ q v (List.mem_of_getElem? hv)) qb fun σ' ts' R4 _ => ?_
        have a4 : AftS S ⟨S2.Z0, S2.H0, Z', H', σ', ρ1, ts', cs ++ S.τ⟩ := ⟨a2.z0, a2.h0, a2.zz.trans st.zz⟩
        refine hb ⟨S2.Z0, S2.H0, Z', H', σ', ρ1, ts', cs ++ S.τ⟩ { D with nx := ForP X W S D (cs ++ S.τ) (fun ρ => (forL bd sb (items.drop (i + 1)) ρ).unbk), ct := ForP X W S D (cs ++ S.τ) (fun ρ => (forL bd sb (items.drop (i + 1)) ρ).unbk), bk := D.nx } R4 ccs ?_
        show GoodS X W _ _ (sb ρ1)
        dsimp only at g2
        cases qs : sb ρ1 with
        | nx ρ2 =>
          rw [qs] at g2
          exact fun S5 a5 e5 t5 R5 => ⟨S5, a4.trans a5, rfl, rfl, t5, R5, by rw [e5]; exact g2⟩
        | ct ρ2 =>
          rw [qs] at g2
          exact fun S5 a5 e5 t5 R5 => ⟨S5, a4.trans a5, rfl, rfl, t5, R5, by rw [e5]; exact g2⟩
        | bk ρ2 =>
          rw [qs] at g2
          replace g2 : GoodS X W S D (.nx ρ2) := g2
          exact fun S5 a5 e5 t5 R5 => GoodS.drop (cs := cs) g2 (a4.trans a5) t5 S5 AftS.refl e5 rfl R5
        | rt k d =>
          rw [qs] at g2
          replace g2 : GoodS X W S D (.rt k d) := g2
          exact GoodS.drop (cs := cs) g2 a4 rfl
        | rz c ρ2 =>
          rw [qs] at g2
          replace g2 : GoodS X W S D (.rz c ρ2) := g2
          exact fun S5 a5 e5 t5 R5 => GoodS.drop (cs := cs) g2 (a4.trans a5) t5 S5 AftS.refl e5 rfl R5
        | er => rw [qs] at g2; exact g2.elim
    · have e : i = items.length := by omega
      subst e
      refine .inl ⟨itg.stop (R2.rl e2) (Nat.le_refl _), ?_⟩
      dsimp only at g2
      rw [List.drop_length] at g2
      replace g2 : GoodS X W S D (.nx S2.ρ) := g2
      exact GoodS.drop (cs := cs) g2 a2 e2 S2 AftS.refl rfl rfl R2
end
end Ev

set_option Elab.async false
set_option linter.all false
set_option maxRecDepth 100000
namespace Ev
open PySem PySem.Spec PyProof.Rows L2

/-! ### the items of a walk are shared -/
def ItmOk (cl : Bool) (xi : Rho → Res (List BV)) : Prop := ∀ ρ vs, xi ρ = .ok vs → ∀ v ∈ vs, v.k = some 0 ∨ flat v.d = true
theorem itm_ok (d : D) : (itm d).k = some 0 ∨ flat (itm d).d = true := by
  unfold itm
  by_cases h : flat d = true
  · exact .inr h
  · simp only [if_neg h]; exact .inl trivial
theorem itmOk_seq {cl : Bool} {x : Rho → Res BV} : ItmOk cl (xItV cl x) := by
  intro ρ vs h v hv
  unfold xItV at h
  cases q : x ρ with
  | er => rw [q] at h; cases h
  | rz c => rw [q] at h; cases h
  | ok u =>
    rw [q] at h
    replace h : (settle true u).bind (itemsV cl) = .ok vs := h
    cases q2 : settle true u with
    | er => rw [q2] at h; cases h
    | rz c => rw [q2] at h; cases h
    | ok w =>
      rw [q2] at h
      replace h : itemsV cl w = .ok vs := h
      unfold itemsV at h
      have fin : ∀ ds : List D, ds.map itm = vs → v.k = some 0 ∨ flat v.d = true := fun ds e => by
        rw [← e] at hv
        obtain ⟨d, _, rfl⟩ := List.mem_map.mp hv
        exact itm_ok d
      split at h
      · split at h <;> cases h
        exact fin _ rfl
      · split at h <;> cases h
        exact fin _ rfl
      · cases h
theorem itmOk_args {cl : Bool} {f : List BV → Res (List BV)} {xs : List (Rho → Res BV)} (hf : ∀ us vs, f us = .ok vs → ∀ v ∈ vs, v.k = some 0 ∨ flat v.d = true) : ItmOk cl (xItA f xs) := by
  intro ρ vs h
  unfold xItA at h
  cases q : evA true xs ρ with
  | er => rw [q] at h; cases h
  | rz c => rw [q] at h; cases h
  | ok us => rw [q] at h; exact hf us vs h
theorem ints_ok {lo c : Int} {n : Nat} : ∀ v ∈ intItems lo c n, v.k = some 0 ∨ flat v.d = true := fun v hv => by
  unfold intItems at hv
  obtain ⟨i, _, rfl⟩ := List.mem_map.mp hv
  exact .inr rfl
theorem itmOk_range1 {cl : Bool} {xs : List (Rho → Res BV)} : ItmOk cl (xItA rangeV1 xs) := itmOk_args fun us vs h => by
  unfold rangeV1 at h
  split at h
  · split at h
    · split at h <;> cases h
      exact ints_ok
    · cases h
  · cases h
theorem itmOk_range2 {cl : Bool} {xs : List (Rho → Res BV)} : ItmOk cl (xItA rangeV2 xs) := itmOk_args fun us vs h => by
  unfold rangeV2 at h
  split at h
  · split at h
    · split at h <;> cases h
      exact ints_ok
    · cases h
  · cases h
theorem itmOk_range3 {cl : Bool} {xs : List (Rho → Res BV)} : ItmOk cl (xItA rangeV3 xs) := itmOk_args fun us vs h => by
  unfold rangeV3 at h
  split at h
  · split at h
    · split at h <;> cases h
      exact ints_ok
    · cases h
  · cases h
theorem itmOk_enum {cl : Bool} {xs : List (Rho → Res BV)} : ItmOk cl (xItA (enumV cl) xs) := itmOk_args fun us vs h v hv => by
  unfold enumV at h
  split at h
  · rename_i u
    cases q : lstI cl u with
    | er => rw [q] at h; cases h
    | rz c => rw [q] at h; cases h
    | ok ds =>
      rw [q] at h
      cases h
      obtain ⟨i, hi, rfl⟩ := List.mem_mapIdx.mp hv
      exact itm_ok _
  · cases h
theorem itmOk_zip {cl : Bool} {xs : List (Rho → Res BV)} : ItmOk cl (xItA (zipV cl) xs) := itmOk_args fun us vs h v hv => by
  unfold zipV at h
  split at h
  · rename_i u u'
    cases q : lstI cl u with
    | er => rw [q] at h; cases h
    | rz c => rw [q] at h; cases h
    | ok ds =>
      rw [q] at h
      replace h : (lstI cl u').bind (fun es => .ok (List.zipWith (fun d e => itm (.tuple [d, e])) ds es)) = .ok vs := h
      cases q2 : lstI cl u' with
      | er => rw [q2] at h; cases h
      | rz c => rw [q2] at h; cases h
      | ok es =>
        rw [q2] at h
        cases h
        obtain ⟨j, hj, rfl⟩ := List.mem_iff_getElem.mp hv
        rw [List.getElem_zipWith]
        exact itm_ok _
  · cases h

/-! ### list comprehensions -/
/-- what is raised within is not told -/
def noRz {α : Type} : Res α → Res α
  | .rz _ => .er
  | r => r
/-- bd binds an item, c is the test, x the element -/
def lcL (bd : Rho → BV → Res Rho) (c : Rho → Res Bool) (x : Rho → Res BV) (ρ : Rho) : List BV → Res (List BV)
  | [] => .ok []
  | v :: vs => match bd ρ v with
    | .ok ρ1 => (noRz (c ρ1)).bind fun b => if b = true then (noRz (x ρ1)).bind fun u => (settle false u).bind fun u => (lcL bd c x ρ vs).bind fun us => .ok (u :: us) else lcL bd c x ρ vs
    | _ => .er
def xLc (xi : Rho → Res (List BV)) (own : List Nat) (bd : Rho → BV → Res Rho) (c : Rho → Res Bool) (x : Rho → Res BV) : Rho → Res BV := fun ρ => (xi ρ).bind fun vs =>
  if vs.length ≤ 1000000 then (lcL bd c x (fgt own ρ) vs).bind mkLst else .er
/-- an element's reading in every block -/
def uE (X : Cx) (scope : Scope) (e : Expr) : TE := fun σ H Q => ∀ (s : Shared) (H0 : Hp) (C : Addr) (cl : List (Str × Addr)) (fp : List Addr), wE (X.blk s H0 scope (compEnvC scope cl C X.env) fp) e σ H Q
def uT (X : Cx) (scope : Scope) (e : Expr) : TT := fun σ H Q => ∀ (s : Shared) (H0 : Hp) (C : Addr) (cl : List (Str × Addr)) (fp : List Addr), wT (X.blk s H0 scope (compEnvC scope cl C X.env) fp) e σ H Q
abbrev W0 : WX := fun _ _ _ _ => False
/-- every block of the comprehension -/
def AllB (X : Cx) (scope : Scope) (p : Cx → Prop) : Prop := ∀ (s : Shared) (H : Hp) (C : Addr) (cl : List (Str × Addr)) (fp : List Addr), p (X.blk s H scope (compEnvC scope cl C X.env) fp)
section
variable {K : PySem.W.Frag} {Z0 H0 Z H : Hp} {σ : L2.St} {ρ : Rho} {ts : List Tr} {τ : List Tm}
theorem setEm_get {i j : Nat} {s : Sl} (h : (setSl ρ i .em)[j]? = some s) : s = .em ∨ (j ≠ i ∧ ρ[j]? = some s ∧ ∀ p, s ≠ .al i p) := by
  unfold setSl at h
  by_cases hj : j = i
  · subst hj
    by_cases hl : j < (killA j ρ).length
    · rw [List.getElem?_set_self hl] at h
      cases h; exact .inl rfl
    · rw [List.getElem?_eq_none_iff.mpr (by rw [List.length_set]; omega)] at h
      cases h
  · rw [List.getElem?_set_ne (Ne.symm hj)] at h
    obtain ⟨s0, e, q⟩ := killA_get h
    rcases q with ⟨rfl, q⟩ | q
    · exact .inr ⟨hj, e, q⟩
    · exact .inl q
theorem fgt_get : ∀ {is : List Nat} {ρ : Rho} {j : Nat} {s : Sl}, (fgt is ρ)[j]? = some s → s = .em ∨ (j ∉ is ∧ ρ[j]? = some s ∧ ∀ i ∈ is, ∀ p, s ≠ .al i p)
  | [], ρ, j, s, h => .inr ⟨by simp, h, fun i hi => by cases hi⟩
  | i :: is, ρ, j, s, h => by
    have h : (fgt is (setSl ρ i .em))[j]? = some s := h
    rcases fgt_get h with q | ⟨q1, q2, q3⟩
    · exact .inl q
    · rcases setEm_get q2 with q | ⟨r1, r2, r3⟩
      · exact .inl q
      · refine .inr ⟨by simp [r1, q1], r2, fun k hk p => ?_⟩
        rcases List.mem_cons.mp hk with e | hk
        · rw [e]; exact r3 p
        · exact q3 k hk p
theorem fgt_length : ∀ {is : List Nat} {ρ : Rho}, (fgt is ρ).length = ρ.length
  | [], _ => rfl
  | i :: is, ρ => by
    show (fgt is (setSl ρ i .em)).length = _
    rw [fgt_length]
    simp [setSl, killA_length]
theorem fgt_rl : ∀ (is : List Nat) {ρ : Rho}, Rl K Z0 H0 Z H σ ρ ts τ → Clean τ → Rl K Z0 H0 Z H σ (fgt is ρ) ts τ
  | [], _, R, _ => R
  | i :: is, _, R, hc => fgt_rl is (R.forget hc) hc
/-- the block's start: its own slots wiped -/
theorem Rl.wipe (R : Rl K Z0 H0 Z H σ ρ ts τ) (hc : Clean τ) (is : List Nat) : Rl K Z0 H0 Z H (L2.wipe σ is) (fgt is ρ) ts τ := by
  have R1 := fgt_rl is R hc
  refine ⟨R1.zh, R1.h0, R1.z0, R1.zn, by rw [wipe_length]; exact R1.lr, by rw [wipe_length]; exact R1.lt, fun j s e => ?_, R1.tm, R1.nd, R1.o0⟩
  have q := R1.sl j s e
  rcases fgt_get e with h | ⟨h1, h2, h3⟩
  · subst h; trivial
  · have keep : (L2.wipe σ is)[j]? = σ[j]? := by rw [wipe_get, if_neg (fun z => h1 z.1)]
    cases s with
    | em => trivial
    | ex a0 =>
      show (L2.wipe σ is)[j]? = _
      rw [keep]
      exact q
    | va k d =>
      obtain ⟨t, q1, q2, q3⟩ := q
      exact ⟨t, q1, q2, by rw [keep]; exact q3⟩
    | al j' p =>
      obtain ⟨k1, d1, t1, k2, d2, t2, q1, q2, q3, q4⟩ := q
      exact ⟨k1, d1, t1, k2, d2, t2, q1, q2, q3, by rw [keep]; exact q4⟩
end
section
variable {X : Cx} {W : WX} {S : Sta}
theorem lcL_app {bd : Rho → BV → Res Rho} {c : Rho → Res Bool} {x : Rho → Res BV} {ρ : Rho} {vs : List BV} {us : List BV} (h : lcL bd c x ρ vs = .ok us) : us.length ≤ vs.length := by
  induction vs generalizing us with
  | nil => cases h; simp
  | cons v vs ih =>
    unfold lcL at h
    cases q : bd ρ v with
    | er => rw [q] at h; cases h
    | rz c => rw [q] at h; cases h
    | ok ρ1 =>
      rw [q] at h
      replace h : (noRz (c ρ1)).bind (fun b => if b = true then (noRz (x ρ1)).bind fun u => (settle false u).bind fun u => (lcL bd c x ρ vs).bind fun us => .ok (u :: us) else lcL bd c x ρ vs) = .ok us := h
      cases q1 : noRz (c ρ1) with
      | er => rw [q1] at h; cases h
      | rz c => rw [q1] at h; cases h
      | ok b =>
        rw [q1] at h
        cases b with
        | false => exact Nat.le_succ_of_le (ih h)
        | true =>
          replace h : (noRz (x ρ1)).bind (fun u => (settle false u).bind fun u => (lcL bd c x ρ vs).bind fun us => .ok (u :: us)) = .ok us := h
          cases q2 : noRz (x ρ1) with
          | er => rw [q2] at h; cases h
          | rz c => rw [q2] at h; cases h
          | ok u =>
            rw [q2] at h
            replace h : (settle false u).bind (fun u => (lcL bd c x ρ vs).bind fun us => .ok (u :: us)) = .ok us := h
            cases q3 : settle false u with
            | er => rw [q3] at h; cases h
            | rz c => rw [q3] at h; cases h
            | ok u' =>
              rw [q3] at h
              replace h : (lcL bd c x ρ vs).bind (fun us => .ok (u' :: us)) = .ok us := h
              cases q4 : lcL bd c x ρ vs with
              | er => rw [q4] at h; cases h
              | rz c => rw [q4] at h; cases h
              | ok us' =>
                rw [q4] at h
                cases h
                exact Nat.succ_le_succ (ih q4)
/-- the state of a comprehension: us are made so far, the new list stands at Da -/
structure LcP (X : Cx) (S S2 : Sta) (cs : List Tm) (Da : Addr) (us : List BV) (tr : List Tr) : Prop where
  a : Aft S S2
  R : S2.R X.K
  e : S2.τ = stk us tr ++ (cs ++ S.τ)
  l : tr.length = us.length
  hd : S2.H Da = some (.lst (valsB us tr))
  zd : S2.Z Da = none
  nd : ∀ a ∈ ownR S2.ρ S2.ts ++ ownT S2.τ, a ≠ Da
  fr : ∀ a ∈ ownT (stk us tr), S.H a = none
  sd : S.H Da = none
  s0 : S.H0 Da = none
theorem stk_snoc : ∀ {us : List BV} {tr : List Tr} {u : BV} {t : Tr}, tr.length = us.length → stk (us ++ [u]) (tr ++ [t]) = ⟨u.b, u.k, u.d, t⟩ :: stk us tr
  | [], [], u, t, _ => rfl
  | [], _ :: _, _, _, h => by simp at h
  | v :: us, [], _, _, h => by simp at h
  | v :: us, s :: tr, u, t, h => by
    rw [List.cons_append, List.cons_append, stk_cons, stk_cons, stk_snoc (by simpa using h), List.cons_append]
theorem valsB_snoc : ∀ {us : List BV} {tr : List Tr} {u : BV} {t : Tr}, tr.length = us.length → valsB (us ++ [u]) (tr ++ [t]) = valsB us tr ++ [valOf u.d t]
  | [], [], u, t, _ => rfl
  | [], _ :: _, _, _, h => by simp at h
  | v :: us, [], _, _, h => by simp at h
  | v :: us, s :: tr, u, t, h => by
    show valOf v.d s :: valsB (us ++ [u]) (tr ++ [t]) = valOf v.d s :: (valsB us tr ++ [valOf u.d t])
    rw [valsB_snoc (by simpa using h)]
/-- the heap of the block goes on -/
theorem LcP.step {S2 : Sta} {cs : List Tm} {Da : Addr} {us : List BV} {tr : List Tr} (P : LcP X S S2 cs Da us tr) {Z' H' : Hp} (st : Step S2.Z S2.H Z' H') (zh : Same Z' H') : LcP X S (S2.put Z' H' S2.τ) cs Da us tr :=
  ⟨P.a.put st, Rl.step P.R st zh, P.e, P.l, st.hh _ _ P.hd, st.none P.zd P.hd, P.nd, P.fr, P.sd, P.s0⟩
/-- an element is appended -/
theorem LcP.snoc {S2 : Sta} {cs : List Tm} {Da : Addr} {us : List BV} {tr : List Tr} (P : LcP X S S2 cs Da us tr) {Z' H' : Hp} {u : BV} {t : Tr} (st : Step S2.Z S2.H Z' H') (zh : Same Z' H') (ob : Ob X.K Z' H' u.k u.d t) (nd : (own u.k u.d t).Nodup)
    (hb : u.b = true → own u.k u.d t = []) (fr : ∀ a ∈ own u.k u.d t, S2.H a = none) : LcP X S (S2.put Z' (upd H' Da (.lst (valsB us tr ++ [valOf u.d t]))) (⟨u.b, u.k, u.d, t⟩ :: S2.τ)) cs Da (us ++ [u]) (tr ++ [t]) := by
  have P1 := P.step st zh
  have R1 : Rl X.K S2.Z0 S2.H0 Z' H' S2.σ S2.ρ S2.ts S2.τ := P1.R
  have hd1 : H' Da = some (.lst (valsB us tr)) := P1.hd
  have zd1 : Z' Da = none := P1.zd
  have neD : ∀ a ∈ own u.k u.d t, a ≠ Da := fun a m z => by
    have := fr a m
    rw [z, P.hd] at this; cases this
  have R2 : Rl X.K S2.Z0 S2.H0 Z' H' S2.σ S2.ρ S2.ts (⟨u.b, u.k, u.d, t⟩ :: S2.τ) := by
    refine R1.push ob (fun q => ⟨nd, fun a m => by have m : a ∈ own u.k u.d t := m; rw [hb q] at m; cases m⟩) fun _ => ⟨nd, fun a m z => ?_, fun a m => ?_⟩
    · obtain ⟨_, o, e, _⟩ := Rl.own_z P.R a z
      rw [fr a m] at e; cases e
    · exact Rl.h0 P.R |>.free (fr a m)
  have nd2 : ∀ a ∈ ownR S2.ρ S2.ts ++ ownT (⟨u.b, u.k, u.d, t⟩ :: S2.τ), a ≠ Da := fun a m => by
    rcases List.mem_append.mp m with m | m
    · exact P.nd a (List.mem_append_left _ m)
    · simp only [ownT] at m
      rcases List.mem_append.mp m with m | m
      · cases q : u.b with
        | true => rw [q] at m; simp at m
        | false => rw [q] at m; exact neD a (by simpa using m)
      · exact P.nd a (List.mem_append_right _ m)
  have off : ∀ a, a ≠ Da → ∀ o, H' a = some o → upd H' Da (.lst (valsB us tr ++ [valOf u.d t])) a = some o := fun a ne o e => by rw [upd_ne ne]; exact e
  have z0 : S2.H0 Da = none := by
    rw [P.a.h0]
    exact P.s0
  refine ⟨⟨P.a.z0, P.a.h0, P.a.σ, P.a.ρ, P.a.ts, ?_⟩, ?_, ?_, by simp [P.l], ?_, zd1, nd2, fun a m => ?_, P.sd, P.s0⟩
  · have s1 := P1.a.st
    refine ⟨s1.zz, fun b o e => ?_, s1.zn⟩
    have ne : b ≠ Da := fun z => by rw [z, P.sd] at e; cases e
    show upd H' Da _ b = some o
    rw [upd_ne ne]
    exact s1.hh b o e
  · show Rl X.K S2.Z0 S2.H0 Z' (upd H' Da (.lst (valsB us tr ++ [valOf u.d t]))) S2.σ S2.ρ S2.ts (⟨u.b, u.k, u.d, t⟩ :: S2.τ)
    refine R2.ext (Same.refl _) (fun a m => (R2.own_z a m).1) (fun a m o e => off a (nd2 a m) o e) (fun b o e => ?_) (fun b o e => ?_) R2.zn
    · exact off b (fun z => by rw [z, zd1] at e; cases e) o (R2.zh b o e)
    · exact off b (fun z => by rw [z, z0] at e; cases e) o (R2.h0 b o e)
  · show ⟨u.b, u.k, u.d, t⟩ :: S2.τ = _
    rw [stk_snoc P.l, P.e]
    rfl
  · show upd H' Da _ Da = _
    rw [upd_same, valsB_snoc P.l]
  · rw [stk_snoc P.l] at m
    simp only [ownT] at m
    rcases List.mem_append.mp m with m | m
    · cases q : u.b with
      | true => rw [q] at m; simp at m
      | false => rw [q] at m; exact P.a.st.hh.free (fr a (by simpa using m))
    · exact P.fr a m
theorem wipe_wipe {σ : L2.St} {vs : List Nat} : L2.wipe (L2.wipe σ vs) vs = L2.wipe σ vs := by
  refine List.ext_getElem? fun j => ?_
  rw [wipe_get, wipe_length, wipe_get]
  split <;> rfl
/-- the tests of a clause -/
def STt (Y : Cx) (ifs : List Expr) (c : Rho → Res Bool) : Prop := ∀ (S : Sta) (Q : Bool → Hp → Prop), S.R Y.K → GoodT Y W0 S Q (c S.ρ) → ∀ (pins : List (Addr × Obj)) (s : Shared), Inv Y pins S.σ S.H s →
  wpAny (model Y.prog Y.w) Y.A (forIn ifs true fun c r => if r = true then do let b ← isTrue c Y.env (eval c Y.env); pure (ForInStep.yield b) else pure (ForInStep.yield r)) (TP Y pins S.σ Q) Y.xe s
def tTrue : Rho → Res Bool := fun _ => .ok true
theorem stt_nil {Y : Cx} : STt Y [] tTrue := fun S Q R g pins s I => pts_nil.run pins s S.σ S.H Q I (g S Aft.refl rfl R)
theorem stt_one {Y : Cx} {e : Expr} {c : Rho → Res Bool} (h : STs Y W0 e c) : STt Y [e] c := fun S Q R g pins s I => (pts_one pt_w).run pins s S.σ S.H Q I (h S Q R g)
def uTs (X : Cx) (scope : Scope) (ifs : List Expr) : TT := fun σ H Q => ∀ (s0 : Shared) (H0 : Hp) (C : Addr) (cl : List (Str × Addr)) (fp : List Addr) (pins : List (Addr × Obj)) (s : Shared), Inv (X.blk s0 H0 scope (compEnvC scope cl C X.env) fp) pins σ H s →
  wpAny (model X.prog X.w) X.A (forIn ifs true fun c r => if r = true then do let b ← isTrue c (compEnvC scope cl C X.env) (eval c (compEnvC scope cl C X.env)); pure (ForInStep.yield b) else pure (ForInStep.yield r)) (TP (X.blk s0 H0 scope (compEnvC scope cl C X.env) fp) pins σ Q) (fun _ _ => False) s
theorem noRz_bind {α β : Type} {r : Res α} {f : α → Res β} {S : Sta} {Q : VK} {h : Res β → Res BV} (he : h .er = .er) (g : GoodE X W S Q (h ((noRz r).bind f))) : ∃ a, r = .ok a ∧ GoodE X W S Q (h (f a)) := by
  cases r with
  | ok a => exact ⟨a, rfl, g⟩
  | rz c =>
    have g : GoodE X W S Q (h .er) := g
    rw [he] at g
    exact g.elim
  | er =>
    have g : GoodE X W S Q (h .er) := g
    rw [he] at g
    exact g.elim
theorem rl_empty {K : PySem.W.Frag} {Z0 H0 Z H : Hp} {σ : L2.St} {ρ : Rho} {ts : List Tr} {τ : List Tm} (R : Rl K Z0 H0 Z H σ ρ ts τ) : Rl K Z0 H0 Z H σ ρ ts [] := Rl.perm R (fun c h => by cases h) List.Pairwise.nil
theorem tm_nodup {K : PySem.W.Frag} {Z0 H0 Z H : Hp} {σ : L2.St} {ρ : Rho} {ts : List Tr} {τ : List Tm} {c : Tm} (R : Rl K Z0 H0 Z H σ ρ ts (c :: τ)) : (own c.k c.d c.t).Nodup := by
  cases q : c.b with
  | true => exact ((R.tm c List.mem_cons_self).2 q).1
  | false =>
    have n := (List.nodup_append.mp R.nd).2.1
    simp only [ownT, q, if_neg (show ¬ (false = true) by simp)] at n
    exact (List.nodup_append.mp n).1
theorem se_lc {elt tg iter : Expr} {ifs : List Expr} {scope : Scope} {ow : List (Str × Nat)} {pos : Pos} {is : List Nat} {g : TG} {bd : Rho → BV → Res Rho} {xi : Rho → Res (List BV)} {c : Rho → Res Bool} {x : Rho → Res BV} (hcm : X.calm = true) (hN : X.N.Nodup) (ok : BlkOk X.N X.env.scope scope ow)
    (hi : SI X W false tg iter xi) (hitm : ItmOk false xi) (hpg : AllB X scope fun Y => PG Y tg g) (hg : SG X.K is g bd) (his : ∀ i ∈ is, i ∈ ow.map (·.2)) (ht : AllB X scope fun Y => STt Y ifs c) (he : AllB X scope fun Y => SE Y W0 elt x) (hs : ∀ x, foldedSetIterable iter X.env x = pure x) :
    SE X W (.ListComp elt [⟨tg, iter, ifs, 0⟩] scope pos) (xLc xi (ow.map (·.2)) bd c x) := by
  intro S Q R g0
  refine wE_of (pe_lc hcm hN pi_w ok hpg (tt := uTs X scope ifs) (te := uE X scope elt) (fun s H C cl fp => ⟨fun pins s1 σ H1 Q I h => h s H C cl fp pins s1 I⟩) (fun s H C cl fp => ⟨fun pins s1 σ H1 Q I h => h s H C cl fp pins s1 I⟩) hs) ?_
  refine hi S _ R ?_
  unfold xLc at g0
  cases q : xi S.ρ with
  | er => rw [q] at g0; exact g0
  | rz cc => rw [q] at g0; exact g0
  | ok items =>
    rw [q] at g0
    replace g0 : GoodE X W S Q (if items.length ≤ 1000000 then (lcL bd c x (fgt (ow.map (·.2)) S.ρ) items).bind mkLst else .er) := g0
    by_cases hlen : items.length ≤ 1000000
    · rw [if_pos hlen] at g0
      intro S1 cs J a1 e1 R1 itg _ Da hDa
      have R1' : Rl X.K S1.Z0 S1.H0 S1.Z S1.H S1.σ S1.ρ S1.ts S1.τ := R1
      have hS : S.H Da = none := a1.st.hh.free hDa
      have hS0 : S.H0 Da = none := Rl.h0 R |>.free hS
      have st0 : Step S1.Z S1.H S1.Z (upd S1.H Da (.lst [])) := ⟨Same.refl _, fun b u e => by rw [upd_ne (ne_of_none e hDa)]; exact e, fun b u e => .inl e⟩
      have zh0 : Same S1.Z (upd S1.H Da (.lst [])) := fun b u e => st0.hh _ _ (R1'.zh _ _ e)
      refine ⟨fun i m H => m = items.length - i ∧ i ≤ items.length ∧ ∃ S2 us tr, LcP X S S2 cs Da us tr ∧ S2.H = H ∧ us.length ≤ i ∧ GoodE X W S Q ((lcL bd c x (fgt (ow.map (·.2)) S.ρ) (items.drop i)).bind fun r => mkLst (us ++ r)),
        ⟨items.length, by simp, Nat.zero_le _, S1.put S1.Z (upd S1.H Da (.lst [])) S1.τ, [], [], ⟨a1.put st0, Rl.step R1' st0 zh0, e1, rfl, upd_same, R1'.zh.free hDa, fun a m z => ?_, (fun a m => by cases m), hS, hS0⟩, rfl, Nat.le_refl _, by rw [List.drop_zero]; exact g0⟩, ?_⟩
      · obtain ⟨_, o, e, _⟩ := R1'.own_z a m
        rw [z, hDa] at e; cases e
      rintro i m H ⟨rfl, hile, S2, us, tr, P, rfl, hul, g2⟩
      by_cases hlt : i < items.length
      · obtain ⟨v, hv⟩ : ∃ v, items[i]? = some v := ⟨items[i], by simp [hlt]⟩
        have ed : items.drop i = v :: items.drop (i + 1) := by
          rw [List.drop_eq_getElem_cons hlt]
          congr 1
          have := List.getElem?_eq_getElem hlt
          rw [this] at hv
          exact Option.some.inj hv
        rw [ed] at g2
        have RP : Rl X.K S2.Z0 S2.H0 S2.Z S2.H S2.σ S2.ρ S2.ts (stk us tr ++ (cs ++ S.τ)) := P.R.rl P.e
        have Rcs : Rl X.K S2.Z0 S2.H0 S2.Z S2.H S2.σ S2.ρ S2.ts (cs ++ S.τ) := by
          refine Rl.perm RP (fun c h => List.mem_append_right _ h) ?_
          have n := RP.nd
          rw [ownT_app, ← List.append_assoc] at n
          exact (List.nodup_append.mp n).2.1
        obtain ⟨go, yld⟩ := itg.go Rcs hv
        refine .inr ⟨go, fun H' => ∃ S3 us tr, LcP X S S3 cs Da us tr ∧ S3.H = H' ∧ us.length ≤ i + 1 ∧ GoodE X W S Q ((lcL bd c x (fgt (ow.map (·.2)) S.ρ) (items.drop (i + 1))).bind fun r => mkLst (us ++ r)), fun H' hN => ⟨items.length - (i + 1), by omega, rfl, hlt, hN⟩, fun y H' hy => ?_⟩
        obtain ⟨Z', t, st, zh, ob, owv, rfl⟩ := yld y H' hy
        have P1 := P.step st zh
        have R3 : Rl X.K S2.Z0 S2.H0 Z' H' S2.σ S2.ρ S2.ts [] := rl_empty P1.R
        have R4 := R3.wipe (fun c hc => by cases hc) (ow.map (·.2))
        unfold lcL at g2
        cases qb : bd (fgt (ow.map (·.2)) S.ρ) v with
        | er => rw [qb] at g2; exact g2.elim
        | rz cc => rw [qb] at g2; exact g2.elim
        | ok ρ1 =>
          rw [qb] at g2
          dsimp only at g2
          have eρ : S2.ρ = S.ρ := P.a.ρ
          have eσ : S2.σ = S.σ := P.a.σ
          rw [eρ, eσ] at R4
          refine hg.run R4 (fun c hc => by cases hc) ob owv (hitm _ _ q v (List.mem_of_getElem? hv)) qb fun σ' ts' R5 hw => ?_
          have hw' : L2.wipe σ' (ow.map (·.2)) = L2.wipe S.σ (ow.map (·.2)) := (hw _ his).trans wipe_wipe
          refine ⟨hw', ?_⟩
          obtain ⟨b, hcb, g3⟩ := noRz_bind (h := fun r => r.bind fun r => mkLst (us ++ r)) rfl g2
          intro s0 H0 C clo fp pins s I
          have R5' : Sta.R X.K ⟨S2.Z0, S2.H0, Z', H', σ', ρ1, ts', []⟩ := R5
          refine ht s0 H0 C clo fp ⟨S2.Z0, S2.H0, Z', H', σ', ρ1, ts', []⟩ _ R5' ?_ pins s I
          rw [show c (⟨S2.Z0, S2.H0, Z', H', σ', ρ1, ts', []⟩ : Sta).ρ = .ok b from hcb]
          intro S6 a6 e6 R6
          have R6' : Rl X.K S6.Z0 S6.H0 S6.Z S6.H S6.σ S6.ρ S6.ts S6.τ := R6
          have P2 := P1.step (Z' := S6.Z) (H' := S6.H) a6.st R6'.zh
          cases b with
          | false =>
            rw [if_neg (by simp)]
            exact ⟨_, us, tr, P2, rfl, Nat.le_succ_of_le hul, g3⟩
          | true =>
            rw [if_pos rfl]
            replace g3 : GoodE X W S Q (((noRz (x ρ1)).bind fun u => (settle false u).bind fun u => (lcL bd c x (fgt (ow.map (·.2)) S.ρ) (items.drop (i + 1))).bind fun us => .ok (u :: us)).bind fun r => mkLst (us ++ r)) := g3
            obtain ⟨u, hxu, g4⟩ := noRz_bind (h := fun r => r.bind fun r => mkLst (us ++ r)) rfl g3
            intro s1 H1 C1 clo1 fp1
            have eσ6 : S6.σ = σ' := a6.σ
            have eρ6 : S6.ρ = ρ1 := a6.ρ
            rw [← eσ6]
            refine he s1 H1 C1 clo1 fp1 S6 _ R6 ?_
            rw [show x S6.ρ = .ok u by rw [eρ6]; exact hxu]
            intro S7 t7 a7 e7 R7 f7
            cases qs : settle false u with
            | er => rw [qs] at g4; exact g4.elim
            | rz cc => exact absurd qs settle_rz
            | ok u' =>
              rw [qs] at g4
              replace g4 : GoodE X W S Q (((lcL bd c x (fgt (ow.map (·.2)) S.ρ) (items.drop (i + 1))).bind fun us => .ok (u' :: us)).bind fun r => mkLst (us ++ r)) := g4
              obtain ⟨S8, a8, h8, R8, e8, f8, sd8⟩ := settle_go qs R7 e7 f7 a7
              have R8' : Rl X.K S8.Z0 S8.H0 S8.Z S8.H S8.σ S8.ρ S8.ts (⟨u'.b, u'.k, u'.d, t7⟩ :: S6.τ) := R8.rl e8
              have own8 : u'.b = true → own u'.k u'.d t7 = [] := fun q => by rw [(sd8.2 rfl).1 q]; exact own_zero _ _
              have P3 := P2.snoc (Z' := S8.Z) (H' := S8.H) (u := u') (t := t7) a8.st R8'.zh (R8'.tm _ List.mem_cons_self).1 (tm_nodup R8') own8 (fun a m => by
                cases q : u'.b with
                | true => rw [own8 q] at m; cases m
                | false => exact f8 q a m)
              have hacc : S7.H Da = some (.lst (valsB us tr)) := by
                rw [← h8]
                exact a8.st.hh _ _ P2.hd
              refine ⟨valsB us tr, hacc, ?_, ?_⟩
              · rw [valsB_length P.l, sizeLine_eq]
                omega
              · refine ⟨_, us ++ [u'], tr ++ [t7], P3, ?_, by simp; omega, ?_⟩
                · show upd S8.H Da _ = upd S7.H Da _
                  rw [h8, settle_ok qs]
                · cases ql : lcL bd c x (fgt (ow.map (·.2)) S.ρ) (items.drop (i + 1)) with
                  | er => rw [ql] at g4; exact g4
                  | rz cc => rw [ql] at g4; exact g4
                  | ok rest =>
                    rw [ql] at g4
                    replace g4 : GoodE X W S Q (mkLst (us ++ (u' :: rest))) := g4
                    show GoodE X W S Q (mkLst ((us ++ [u']) ++ rest))
                    rw [List.append_assoc]
                    exact g4
      · have e : i = items.length := by omega
        subst e
        have RP : Rl X.K S2.Z0 S2.H0 S2.Z S2.H S2.σ S2.ρ S2.ts (stk us tr ++ (cs ++ S.τ)) := P.R.rl P.e
        have Rcs : Rl X.K S2.Z0 S2.H0 S2.Z S2.H S2.σ S2.ρ S2.ts (cs ++ S.τ) := by
          refine Rl.perm RP (fun c h => List.mem_append_right _ h) ?_
          have n := RP.nd
          rw [ownT_app, ← List.append_assoc] at n
          exact (List.nodup_append.mp n).2.1
        refine .inl ⟨itg.stop Rcs (Nat.le_refl _), ?_⟩
        rw [List.drop_length] at g2
        replace g2 : GoodE X W S Q (mkLst (us ++ [])) := g2
        rw [List.append_nil] at g2
        unfold mkLst at g2
        cases qd : dispLv us with
        | er => rw [qd] at g2; exact g2.elim
        | rz cc => exact absurd qd disp_rz
        | ok k =>
          rw [qd] at g2
          replace g2 : GoodE X W S Q (.ok ⟨false, sc k, .list (dsB us)⟩) := g2
          have ow' := disp_own qd P.l (rl_nd RP)
          have Rτ : Rl X.K S2.Z0 S2.H0 S2.Z S2.H S2.σ S2.ρ S2.ts S.τ := by
            refine Rl.perm Rcs (fun c h => List.mem_append_right _ h) ?_
            have n := Rcs.nd
            rw [ownT_app, ← List.append_assoc] at n
            exact (List.nodup_append.mp n).2.1
          have oe : ∀ a, a ∈ own (sc k) (.list (dsB us)) (.n Da tr) → a = Da ∨ a ∈ owns k (dsB us) tr := fun a m => by
            simp only [Ev.own, pd_sc, if_neg (sc_ne k)] at m
            rcases List.mem_append.mp m with m | m
            · exact .inl (List.mem_singleton.mp m)
            · exact .inr m
          have hD0 : S2.H0 Da = none := by rw [P.a.h0]; exact hS0
          have R9 : Rl X.K S2.Z0 S2.H0 S2.Z S2.H S2.σ S2.ρ S2.ts (⟨false, sc k, .list (dsB us), .n Da tr⟩ :: S.τ) := by
            refine Rτ.push ?_ (fun z => nomatch z) fun _ => ⟨?_, fun a m z => ?_, fun a m => ?_⟩
            · simp only [Ob, pd_sc]
              refine ⟨?_, stk_obs P.l (disp_ok qd).1 fun c hc => (RP.tm c (List.mem_append_left _ hc)).1⟩
              unfold LstAt
              rw [if_neg (sc_ne k)]
              exact ⟨P.zd, by rw [← valsB_of]; exact P.hd⟩
            · simp only [Ev.own, pd_sc, if_neg (sc_ne k)]
              refine List.nodup_append.mpr ⟨by simp, ow'.1, fun a ha b hb e => ?_⟩
              have ea : a = Da := List.mem_singleton.mp ha
              refine P.nd b ?_ (e ▸ ea)
              rw [P.e, ownT_app]
              exact List.mem_append_right _ (List.mem_append_left _ (ow'.2 b hb))
            · rcases oe a m with e | m
              · refine P.nd a ?_ e
                rw [P.e, ownT_app, ownT_app]
                rcases List.mem_append.mp z with z | z
                · exact List.mem_append_left _ z
                · exact List.mem_append_right _ (List.mem_append_right _ (List.mem_append_right _ z))
              · have n := RP.nd
                rw [ownT_app, ownT_app] at n
                have m' := ow'.2 a m
                obtain ⟨n1, n2, n3⟩ := List.nodup_append.mp n
                obtain ⟨n4, n5, n6⟩ := List.nodup_append.mp n2
                rcases List.mem_append.mp z with z | z
                · exact n3 a z a (List.mem_append_left _ m') rfl
                · exact n6 a m' a (List.mem_append_right _ z) rfl
            · rcases oe a m with e | m
              · rw [e]; exact hD0
              · exact RP.o0 a (List.mem_append_right _ (by rw [ownT_app]; exact List.mem_append_left _ (ow'.2 a m)))
          refine g2 (S2.put S2.Z S2.H (⟨false, sc k, .list (dsB us), .n Da tr⟩ :: S.τ)) (.n Da tr) (P.a.put Step.refl) rfl R9 fun _ a m => ?_
          rcases oe a m with e | m
          · rw [e]; exact hS
          · exact P.fr a (ow'.2 a m)
    · rw [if_neg hlen] at g0
      exact g0.elim
end
end Ev

set_option Elab.async false
set_option linter.all false
set_option maxRecDepth 100000
namespace Ev
open PySem PySem.Spec PyProof.Rows L2

/-! ### a part changed in its place -/
def setD : D → List Nat → D → D
  | _, [], x => x
  | .list ds, i :: p, x => .list (ds.set i (setD ((ds[i]?).getD .none) p x))
  | .tuple ds, i :: p, x => .tuple (ds.set i (setD ((ds[i]?).getD .none) p x))
  | .dict kvs, i :: p, x => .dict (kvs.set i (((kvs[i]?).map (·.1)).getD .none, setD (((kvs[i]?).map (·.2)).getD .none) p x))
  | d, _ :: _, _ => d
def setT : Tr → List Nat → Tr → Tr
  | _, [], y => y
  | t, i :: p, y => .n t.at (t.kids.set i (setT ((t.kids[i]?).getD t0) p y))
section
variable {K : PySem.W.Frag} {Z H H' : Hp}
theorem owns_split : ∀ {ds : List D} {ts : List Tr} {i : Nat} {d : D} {t : Tr} {k : Lv}, ds[i]? = some d → ts[i]? = some t → ∃ rest, (owns k ds ts).Perm (own k d t ++ rest) ∧ ∀ x y, (owns k (ds.set i x) (ts.set i y)).Perm (own k x y ++ rest)
  | [], _, _, _, _, _, h, _ => by simp at h
  | _ :: _, [], _, _, _, _, _, h => by simp at h
  | d :: ds, t :: ts, 0, _, _, k, h1, h2 => by
    simp at h1 h2; subst h1; subst h2
    exact ⟨owns k ds ts, by simp only [owns]; exact List.Perm.refl _, fun x y => by simp only [List.set_cons_zero, owns]; exact List.Perm.refl _⟩
  | e :: ds, u :: ts, i + 1, d, t, k, h1, h2 => by
    obtain ⟨rest, p1, p2⟩ := owns_split (ds := ds) (ts := ts) (i := i) (k := k) (by simpa using h1) (by simpa using h2)
    refine ⟨own k e u ++ rest, ?_, fun x y => ?_⟩
    · simp only [owns]
      refine (List.Perm.append_left _ p1).trans ?_
      rw [← List.append_assoc, ← List.append_assoc]
      exact List.Perm.append_right _ List.perm_append_comm
    · simp only [List.set_cons_succ, owns]
      refine (List.Perm.append_left _ (p2 x y)).trans ?_
      rw [← List.append_assoc, ← List.append_assoc]
      exact List.Perm.append_right _ List.perm_append_comm
theorem ownK_split : ∀ {kvs : List (D × D)} {ts : List Tr} {i : Nat} {q d : D} {t : Tr} {k : Lv}, kvs[i]? = some (q, d) → ts[i]? = some t → ∃ rest, (ownK k kvs ts).Perm (own k d t ++ rest) ∧ ∀ x y, (ownK k (kvs.set i (q, x)) (ts.set i y)).Perm (own k x y ++ rest)
  | [], _, _, _, _, _, _, h, _ => by simp at h
  | _ :: _, [], _, _, _, _, _, _, h => by simp at h
  | (q, d) :: r, t :: ts, 0, _, _, _, k, h1, h2 => by
    simp at h1 h2; obtain ⟨rfl, rfl⟩ := h1; subst h2
    exact ⟨ownK k r ts, by simp only [ownK]; exact List.Perm.refl _, fun x y => by simp only [List.set_cons_zero, ownK]; exact List.Perm.refl _⟩
  | (q0, e) :: r, u :: ts, i + 1, q, d, t, k, h1, h2 => by
    obtain ⟨rest, p1, p2⟩ := ownK_split (kvs := r) (ts := ts) (i := i) (k := k) (by simpa using h1) (by simpa using h2)
    refine ⟨own k e u ++ rest, ?_, fun x y => ?_⟩
    · simp only [ownK]
      refine (List.Perm.append_left _ p1).trans ?_
      rw [← List.append_assoc, ← List.append_assoc]
      exact List.Perm.append_right _ List.perm_append_comm
    · simp only [List.set_cons_succ, ownK]
      refine (List.Perm.append_left _ (p2 x y)).trans ?_
      rw [← List.append_assoc, ← List.append_assoc]
      exact List.Perm.append_right _ List.perm_append_comm
theorem valsOf_set : ∀ {ds : List D} {ts : List Tr} {i : Nat} {d x : D} {t y : Tr}, ds[i]? = some d → ts[i]? = some t → valOf x y = valOf d t → valsOf (ds.set i x) (ts.set i y) = valsOf ds ts
  | [], _, _, _, _, _, _, h, _, _ => by simp at h
  | _ :: _, [], _, _, _, _, _, _, h, _ => by simp at h
  | d :: ds, t :: ts, 0, _, _, _, _, h1, h2, e => by
    simp at h1 h2; subst h1; subst h2
    simp only [List.set_cons_zero, valsOf, e]
  | d :: ds, t :: ts, i + 1, _, _, _, _, h1, h2, e => by
    simp only [List.set_cons_succ, valsOf]
    rw [valsOf_set (by simpa using h1) (by simpa using h2) e]
theorem dvals_set : ∀ {kvs : List (D × D)} {ts : List Tr} {i : Nat} {q d x : D} {t y : Tr}, kvs[i]? = some (q, d) → ts[i]? = some t → valOf x y = valOf d t → dvals (kvs.set i (q, x)) (ts.set i y) = dvals kvs ts
  | [], _, _, _, _, _, _, _, h, _, _ => by simp at h
  | _ :: _, [], _, _, _, _, _, _, _, h, _ => by simp at h
  | (q, d) :: r, t :: ts, 0, _, _, _, _, _, h1, h2, e => by
    simp at h1 h2; obtain ⟨rfl, rfl⟩ := h1; subst h2
    simp only [List.set_cons_zero, dvals, e]
  | (q, d) :: r, t :: ts, i + 1, _, _, _, _, _, h1, h2, e => by
    simp only [List.set_cons_succ, dvals]
    rw [dvals_set (by simpa using h1) (by simpa using h2) e]
/-- the others stand, one is new -/
theorem Obs.set {b : Addr} (hh : ∀ a, a ≠ b → ∀ o, H a = some o → H' a = some o) : ∀ {ds : List D} {ts : List Tr} {i : Nat} {d x : D} {t y : Tr} {k : Lv}, Obs K Z H k ds ts → (owns k ds ts).Nodup → ds[i]? = some d → ts[i]? = some t → b ∈ Ev.own k d t → Ob K Z H' k x y → Obs K Z H' k (ds.set i x) (ts.set i y)
  | [], _, _, _, _, _, _, _, _, _, h, _, _, _ => by simp at h
  | _ :: _, [], _, _, _, _, _, _, _, _, _, h, _, _ => by simp at h
  | d :: ds, t :: ts, 0, _, _, _, _, k, o, n, h1, h2, hb, ob => by
    simp at h1 h2; subst h1; subst h2
    simp only [Obs, owns, List.set_cons_zero] at *
    obtain ⟨n1, n2, n3⟩ := List.nodup_append.mp n
    refine ⟨ob, Obs.ext (Same.refl _) ds k ts o.2 (fun a m => (Obs.own ds k ts o.2 a m).1) fun a m => hh a ?_⟩
    intro z
    exact n3 b hb a m z.symm
  | e :: ds, u :: ts, i + 1, d, x, t, y, k, o, n, h1, h2, hb, ob => by
    simp only [Obs, owns, List.set_cons_succ] at *
    obtain ⟨n1, n2, n3⟩ := List.nodup_append.mp n
    have h1' : ds[i]? = some d := by simpa using h1
    have h2' : ts[i]? = some t := by simpa using h2
    refine ⟨Ob.ext (Same.refl _) e k u o.1 (fun a m => (Ob.own e k u o.1 a m).1) (fun a m => hh a fun z => ?_), Obs.set hh o.2 n2 h1' h2' hb ob⟩
    exact n3 a m b (owns_get h1' h2' b hb) z
theorem ownK_get : ∀ {kvs : List (D × D)} {k : Lv} {ts : List Tr} {i : Nat} {q d : D} {t : Tr}, kvs[i]? = some (q, d) → ts[i]? = some t → ∀ a ∈ own k d t, a ∈ ownK k kvs ts
  | [], _, _, _, _, _, _, h, _ => by simp at h
  | _ :: _, _, [], _, _, _, _, _, h => by simp at h
  | (q, d) :: r, k, t :: ts, 0, _, _, _, h1, h2 => fun a m => by
    simp at h1 h2; obtain ⟨rfl, rfl⟩ := h1; subst h2
    simp only [ownK]
    exact List.mem_append_left _ m
  | (q, d) :: r, k, t :: ts, i + 1, _, _, _, h1, h2 => fun a m => by
    simp only [ownK]
    exact List.mem_append_right _ (ownK_get (by simpa using h1) (by simpa using h2) a m)
theorem ObK.set {b : Addr} (hh : ∀ a, a ≠ b → ∀ o, H a = some o → H' a = some o) : ∀ {kvs : List (D × D)} {ts : List Tr} {i : Nat} {q d x : D} {t y : Tr} {k : Lv}, ObK K Z H k kvs ts → (ownK k kvs ts).Nodup → kvs[i]? = some (q, d) → ts[i]? = some t → b ∈ Ev.own k d t → Ob K Z H' k x y → ObK K Z H' k (kvs.set i (q, x)) (ts.set i y)
  | [], _, _, _, _, _, _, _, _, _, _, h, _, _, _ => by simp at h
  | _ :: _, [], _, _, _, _, _, _, _, _, _, _, h, _, _ => by simp at h
  | (q, d) :: r, t :: ts, 0, _, _, _, _, _, k, o, n, h1, h2, hb, ob => by
    simp at h1 h2; obtain ⟨rfl, rfl⟩ := h1; subst h2
    simp only [ObK, ownK, List.set_cons_zero] at *
    obtain ⟨n1, n2, n3⟩ := List.nodup_append.mp n
    refine ⟨o.1, ob, ObK.ext (Same.refl _) r k ts o.2.2 (fun a m => (ObK.own r k ts o.2.2 a m).1) fun a m => hh a fun z => ?_⟩
    exact n3 b hb a m z.symm
  | (q0, e) :: r, u :: ts, i + 1, q, d, x, t, y, k, o, n, h1, h2, hb, ob => by
    simp only [ObK, ownK, List.set_cons_succ] at *
    obtain ⟨n1, n2, n3⟩ := List.nodup_append.mp n
    have h1' : r[i]? = some (q, d) := by simpa using h1
    have h2' : ts[i]? = some t := by simpa using h2
    refine ⟨o.1, Ob.ext (Same.refl _) e k u o.2.1 (fun a m => (Ob.own e k u o.2.1 a m).1) (fun a m => hh a fun z => ?_), ObK.set hh o.2.2 n2 h1' h2' hb ob⟩
    exact n3 a m b (ownK_get h1' h2' b hb) z
/-- what the change of a part asks and gives -/
structure Upd (K : PySem.W.Frag) (Z H' : Hp) (k : Lv) (d d2 : D) (t t2 : Tr) (N : List Addr) : Prop where
  ob : Ob K Z H' k d2 t2
  nd : (own k d2 t2).Nodup
  sub : ∀ a ∈ own k d2 t2, a ∈ own k d t ∨ a ∈ N
  val : valOf d2 t2 = valOf d t
theorem upd_path {k' : Lv} {d' x : D} {t' y : Tr} {N : List Addr} (hh : ∀ a, a ≠ t'.at → ∀ o, H a = some o → H' a = some o) (hN : ∀ a ∈ N, H a = none ∨ True) (hb : t'.at ∈ own k' d' t') (u : Upd K Z H' k' d' x t' y N) :
    ∀ (p : List Nat) {k : Lv} {d : D} {t : Tr}, Ob K Z H k d t → (own k d t).Nodup → (∀ a ∈ N, a ∉ own k d t) → sub k d t p = some (k', d', t') → Upd K Z H' k d (setD d p x) t (setT t p y) N
  | [], k, d, t, o, n, _, e => by
    simp only [Ev.sub, Option.some.injEq, Prod.mk.injEq] at e
    obtain ⟨rfl, rfl, rfl⟩ := e
    exact u
  | i :: p, k, d, t, o, n, hNd, e => by
    simp only [Ev.sub] at e
    cases q : (kidsD d)[i]? with
    | none => rw [q] at e; cases e
    | some d1 =>
      cases q2 : t.kids[i]? with
      | none => rw [q, q2] at e; cases e
      | some t1 =>
        rw [q, q2] at e
        have e : Ev.sub (lvK k d) d1 t1 p = some (k', d', t') := e
        obtain ⟨t1', q2', o1, m1⟩ := kids_ob o q
        rw [q2] at q2'; cases q2'
        have n1 := kid_nodup n q q2
        have ih := upd_path hh hN hb u p o1 n1 (fun a m z => hNd a m (m1 a z)) e
        -- the changed object is the kid's
        have hb1 : t'.at ∈ own (lvK k d) d1 t1 := by
          have main : ∀ (p : List Nat) {k : Lv} {d : D} {t : Tr}, Ob K Z H k d t → Ev.sub k d t p = some (k', d', t') → t'.at ∈ own k d t := by
            intro p
            induction p with
            | nil =>
              intro k d t _ e
              simp only [Ev.sub, Option.some.injEq, Prod.mk.injEq] at e
              obtain ⟨rfl, rfl, rfl⟩ := e
              exact hb
            | cons j p ih =>
              intro k d t o e
              simp only [Ev.sub] at e
              cases r : (kidsD d)[j]? with
              | none => rw [r] at e; cases e
              | some d2 =>
                cases r2 : t.kids[j]? with
                | none => rw [r, r2] at e; cases e
                | some t2 =>
                  rw [r, r2] at e
                  obtain ⟨t3, r3, o3, m3⟩ := kids_ob o r
                  rw [r2] at r3; cases r3
                  exact m3 _ (ih o3 e)
          exact main p o1 e
        have et : (t.kids[i]?).getD t0 = t1 := by rw [q2]; rfl
        cases d with
        | list ds =>
          have q : ds[i]? = some d1 := q
          have ed : (ds[i]?).getD .none = d1 := by rw [q]; rfl
          simp only [Ob, Ev.own, lvK] at o n n1 hb1 hNd ih m1
          simp only [setD, setT, ed, et]
          obtain ⟨rest, p1, p2⟩ := owns_split (k := pd k) q q2
          have p2 := p2 (setD d1 p x) (setT t1 p y)
          have nt : (owns (pd k) ds t.kids).Nodup := (List.nodup_append.mp n).2.1
          have tne : k ≠ some 0 → t.at ≠ t'.at := fun hk z => by
            refine (List.nodup_append.mp n).2.2 t.at (by simp [hk]) t'.at ?_ z
            exact owns_get q q2 _ hb1
          have nr := (p1.nodup_iff.mp nt)
          obtain ⟨r1, r2, r3⟩ := List.nodup_append.mp nr
          have sub2 : ∀ a ∈ owns (pd k) (ds.set i (setD d1 p x)) (t.kids.set i (setT t1 p y)), a ∈ owns (pd k) ds t.kids ∨ a ∈ N := fun a m => by
            rcases List.mem_append.mp (p2.mem_iff.mp m) with m | m
            · rcases ih.sub a m with z | z
              · exact .inl (p1.mem_iff.mpr (List.mem_append_left _ z))
              · exact .inr z
            · exact .inl (p1.mem_iff.mpr (List.mem_append_right _ m))
          refine ⟨?_, ?_, fun a m => ?_, rfl⟩
          · simp only [Ob]
            refine ⟨?_, Obs.set hh o.2 nt q q2 hb1 ih.ob⟩
            show LstAt K Z H' k t.at (valsOf (ds.set i (setD d1 p x)) (t.kids.set i (setT t1 p y)))
            rw [valsOf_set q q2 ih.val]
            exact o.1.ext (Same.refl _) (fun hk => by
              have := o.1
              unfold LstAt at this
              rw [if_neg hk] at this
              exact this.1) fun hk => hh _ (tne hk)
          · simp only [Ev.own]
            refine List.nodup_append.mpr ⟨(List.nodup_append.mp n).1, p2.nodup_iff.mpr (List.nodup_append.mpr ⟨ih.nd, r2, fun a ha b hb' z => ?_⟩), fun a ha b hb' z => ?_⟩
            · subst z
              rcases ih.sub a ha with m | m
              · exact r3 a m a hb' rfl
              · refine hNd a m (List.mem_append_right _ (p1.mem_iff.mpr (List.mem_append_right _ hb')))
            · subst z
              rcases sub2 a hb' with m | m
              · exact (List.nodup_append.mp n).2.2 a ha a m rfl
              · exact hNd a m (List.mem_append_left _ ha)
          · simp only [Ev.own] at m ⊢
            rcases List.mem_append.mp m with m | m
            · exact .inl (List.mem_append_left _ m)
            · rcases sub2 a m with z | z
              · exact .inl (List.mem_append_right _ z)
              · exact .inr z
        | tuple ds =>
          have q : ds[i]? = some d1 := q
          have ed : (ds[i]?).getD .none = d1 := by rw [q]; rfl
          simp only [Ob, Ev.own, lvK] at o n n1 hb1 hNd ih m1
          simp only [setD, setT, ed, et]
          obtain ⟨rest, p1, p2⟩ := owns_split (k := k) q q2
          have p2 := p2 (setD d1 p x) (setT t1 p y)
          have nr := (p1.nodup_iff.mp n)
          obtain ⟨r1, r2, r3⟩ := List.nodup_append.mp nr
          have sub2 : ∀ a ∈ owns k (ds.set i (setD d1 p x)) (t.kids.set i (setT t1 p y)), a ∈ owns k ds t.kids ∨ a ∈ N := fun a m => by
            rcases List.mem_append.mp (p2.mem_iff.mp m) with m | m
            · rcases ih.sub a m with z | z
              · exact .inl (p1.mem_iff.mpr (List.mem_append_left _ z))
              · exact .inr z
            · exact .inl (p1.mem_iff.mpr (List.mem_append_right _ m))
          refine ⟨?_, ?_, fun a m => ?_, rfl⟩
          · simp only [Ob]
            refine ⟨?_, Obs.set hh o.2 n q q2 hb1 ih.ob⟩
            show SqT K Z t.at (valsOf (ds.set i (setD d1 p x)) (t.kids.set i (setT t1 p y)))
            rw [valsOf_set q q2 ih.val]
            exact o.1
          · simp only [Ev.own]
            refine p2.nodup_iff.mpr (List.nodup_append.mpr ⟨ih.nd, r2, fun a ha b hb' z => ?_⟩)
            subst z
            rcases ih.sub a ha with m | m
            · exact r3 a m a hb' rfl
            · exact hNd a m (p1.mem_iff.mpr (List.mem_append_right _ hb'))
          · simp only [Ev.own] at m ⊢
            exact sub2 a m
        | dict kvs =>
          have q : (kvs.map (·.2))[i]? = some d1 := q
          rw [List.getElem?_map] at q
          cases qk : kvs[i]? with
          | none => rw [qk] at q; cases q
          | some pr =>
            obtain ⟨ky, dv⟩ := pr
            rw [qk] at q
            have edv : dv = d1 := by simpa using q
            subst edv
            simp only [Ob, Ev.own, lvK] at o n n1 hb1 hNd ih m1
            simp only [setD, setT, qk, et, Option.map_some, Option.getD_some]
            obtain ⟨rest, p1, p2⟩ := ownK_split (k := pd k) qk q2
            have p2 := p2 (setD dv p x) (setT t1 p y)
            have nt : (ownK (pd k) kvs t.kids).Nodup := (List.nodup_append.mp n).2.1
            have tne : k ≠ some 0 → t.at ≠ t'.at := fun hk z => by
              refine (List.nodup_append.mp n).2.2 t.at (by simp [hk]) t'.at ?_ z
              exact ownK_get qk q2 _ hb1
            have nr := (p1.nodup_iff.mp nt)
            obtain ⟨r1, r2, r3⟩ := List.nodup_append.mp nr
            have sub2 : ∀ a ∈ ownK (pd k) (kvs.set i (ky, setD dv p x)) (t.kids.set i (setT t1 p y)), a ∈ ownK (pd k) kvs t.kids ∨ a ∈ N := fun a m => by
              rcases List.mem_append.mp (p2.mem_iff.mp m) with m | m
              · rcases ih.sub a m with z | z
                · exact .inl (p1.mem_iff.mpr (List.mem_append_left _ z))
                · exact .inr z
              · exact .inl (p1.mem_iff.mpr (List.mem_append_right _ m))
            refine ⟨?_, ?_, fun a m => ?_, rfl⟩
            · simp only [Ob]
              refine ⟨?_, ObK.set hh o.2 nt qk q2 hb1 ih.ob⟩
              show DctAt Z H' k t.at (dvals (kvs.set i (ky, setD dv p x)) (t.kids.set i (setT t1 p y)))
              rw [dvals_set qk q2 ih.val]
              exact o.1.ext (Same.refl _) (fun hk => by
                have := o.1
                unfold DctAt at this
                rw [if_neg hk] at this
                exact this.1) fun hk => hh _ (tne hk)
            · simp only [Ev.own]
              refine List.nodup_append.mpr ⟨(List.nodup_append.mp n).1, p2.nodup_iff.mpr (List.nodup_append.mpr ⟨ih.nd, r2, fun a ha b hb' z => ?_⟩), fun a ha b hb' z => ?_⟩
              · subst z
                rcases ih.sub a ha with m | m
                · exact r3 a m a hb' rfl
                · refine hNd a m (List.mem_append_right _ (p1.mem_iff.mpr (List.mem_append_right _ hb')))
              · subst z
                rcases sub2 a hb' with m | m
                · exact (List.nodup_append.mp n).2.2 a ha a m rfl
                · exact hNd a m (List.mem_append_left _ ha)
            · simp only [Ev.own] at m ⊢
              rcases List.mem_append.mp m with m | m
              · exact .inl (List.mem_append_left _ m)
              · rcases sub2 a m with z | z
                · exact .inl (List.mem_append_right _ z)
                · exact .inr z
        | none => simp [kidsD] at q
        | bool _ => simp [kidsD] at q
        | int _ => simp [kidsD] at q
        | str _ => simp [kidsD] at q
end
end Ev

set_option Elab.async false
set_option linter.all false
set_option maxRecDepth 100000
namespace Ev
open PySem PySem.Spec PyProof.Rows L2

theorem ownR_apart : ∀ {ρ : Rho} {ts : List Tr} {i j : Nat} {k k' : Lv} {d d' : D} {t t' : Tr}, (ownR ρ ts).Nodup → i ≠ j → ρ[i]? = some (.va k d) → ts[i]? = some t → ρ[j]? = some (.va k' d') → ts[j]? = some t' → ∀ a ∈ own k d t, a ∉ own k' d' t'
  | [], _, _, _, _, _, _, _, _, _, _, _, h, _, _, _ => by simp at h
  | _ :: _, [], _, _, _, _, _, _, _, _, _, _, _, h, _, _ => by simp at h
  | s :: ρ, u :: ts, 0, 0, _, _, _, _, _, _, _, h, _, _, _, _ => absurd rfl h
  | s :: ρ, u :: ts, 0, j + 1, _, _, _, _, _, _, n, _, h1, h2, h3, h4 => fun a m m' => by
    simp at h1 h2; subst h1; subst h2
    simp only [ownR] at n
    exact (List.nodup_append.mp n).2.2 a m a (ownR_get (by simpa using h3) (by simpa using h4) a m') rfl
  | s :: ρ, u :: ts, i + 1, 0, _, _, _, _, _, _, n, _, h1, h2, h3, h4 => fun a m m' => by
    simp at h3 h4; subst h3; subst h4
    simp only [ownR] at n
    exact (List.nodup_append.mp n).2.2 a m' a (ownR_get (by simpa using h1) (by simpa using h2) a m) rfl
  | s :: ρ, u :: ts, i + 1, j + 1, _, _, _, _, _, _, n, h, h1, h2, h3, h4 => by
    have n' : (ownR ρ ts).Nodup := by
      cases s with
      | em => simpa only [ownR] using n
      | ex a0 => simpa only [ownR] using n
      | va k d => simp only [ownR] at n; exact (List.nodup_append.mp n).2.1
      | al j p => simpa only [ownR] using n
    exact ownR_apart n' (fun z => h (congrArg (· + 1) z)) (by simpa using h1) (by simpa using h2) (by simpa using h3) (by simpa using h4)
section
variable {K : PySem.W.Frag} {Z0 H0 Z H H' : Hp} {σ : L2.St} {ρ : Rho} {ts : List Tr} {τ : List Tm}
/-- the datum of the slot j is changed in its place; what it takes up was under way -/
theorem Rl.upd {j : Nat} {kv : Lv} {dv : D} {tv : Tr} {k k2 : Lv} {d d2 : D} {t t2 : Tr} {b : Addr} (R : Rl K Z0 H0 Z H σ ρ ts (⟨false, kv, dv, tv⟩ :: τ)) (hc : Clean τ) (e : ρ[j]? = some (.va k d)) (e' : ts[j]? = some t) (hb : b ∈ own k d t)
    (hh : ∀ a, a ≠ b → ∀ o, H a = some o → H' a = some o) (ob : Ob K Z H' k2 d2 t2) (nd : (own k2 d2 t2).Nodup) (sub : ∀ a ∈ own k2 d2 t2, a ∈ own k d t ∨ a ∈ own kv dv tv) (val : valOf d2 t2 = valOf d t) :
    Rl K Z0 H0 Z H' σ (setSl ρ j (.va k2 d2)) (ts.set j t2) τ := by
  have l1 : j < ρ.length := (List.getElem?_eq_some_iff.mp e).1
  have l2 : j < ts.length := (List.getElem?_eq_some_iff.mp e').1
  have lσ : j < σ.length := by rw [← R.lr]; exact l1
  obtain ⟨s0, t1, rest, e1, e2, p1, p2⟩ := ownR_split (ρ := killA j ρ) (ts := ts) (i := j) (by rw [killA_length]; exact l1) l2
  rw [killA_va e] at e1; cases e1
  rw [e'] at e2; cases e2
  rw [ownR_kill] at p1
  have p2 := p2 (.va k2 d2) t2
  have p1' : (ownR ρ ts).Perm (own k d t ++ rest) := p1
  have p2' : (ownR (setSl ρ j (.va k2 d2)) (ts.set j t2)).Perm (own k2 d2 t2 ++ rest) := p2
  have eT : ownT (⟨false, kv, dv, tv⟩ :: τ) = own kv dv tv ++ ownT τ := by simp [ownT]
  have n := R.nd
  rw [eT] at n
  have n' : ((own k d t ++ rest) ++ (own kv dv tv ++ ownT τ)).Nodup := (List.Perm.append_right _ p1').nodup_iff.mp n
  obtain ⟨a1, a2, a3⟩ := List.nodup_append.mp n'
  obtain ⟨b1, b2, b3⟩ := List.nodup_append.mp a1
  obtain ⟨c1, c2, c3⟩ := List.nodup_append.mp a2
  have old : ∀ a, a ∈ ownR (setSl ρ j (.va k2 d2)) (ts.set j t2) ++ ownT τ → a ∈ ownR ρ ts ++ (own kv dv tv ++ ownT τ) := fun a m => by
    rcases List.mem_append.mp m with m | m
    · rcases List.mem_append.mp (p2'.mem_iff.mp m) with m | m
      · rcases sub a m with m | m
        · exact List.mem_append_left _ (p1'.mem_iff.mpr (List.mem_append_left _ m))
        · exact List.mem_append_right _ (List.mem_append_left _ m)
      · exact List.mem_append_left _ (p1'.mem_iff.mpr (List.mem_append_right _ m))
    · exact List.mem_append_right _ (List.mem_append_right _ m)
  have zb : Z b = none ∧ H0 b = none := by
    have m : b ∈ ownR ρ ts ++ ownT (⟨false, kv, dv, tv⟩ :: τ) := List.mem_append_left _ (ownR_get e e' b hb)
    exact ⟨(R.own_z b m).1, R.o0 b m⟩
  have off : ∀ a, a ∈ rest → a ≠ b := fun a m z => b3 b hb a m z.symm
  have offT : ∀ a, a ∈ ownT τ → a ≠ b := fun a m z => a3 b (List.mem_append_left _ hb) a (List.mem_append_right _ m) z.symm
  refine ⟨fun a o q => hh a (fun z => by rw [z, zb.1] at q; cases q) o (R.zh a o q), fun a o q => hh a (fun z => by rw [z, zb.2] at q; cases q) o (R.h0 a o q), R.z0, R.zn, ?_, ?_, fun i s es => ?_, fun c hcm => ?_, ?_, fun a m => ?_⟩
  · simp only [setSl, List.length_set, killA_length]; exact R.lr
  · simp only [List.length_set]; exact R.lt
  · by_cases hi : i = j
    · subst hi
      unfold setSl at es
      rw [List.getElem?_set_self (by rw [killA_length]; exact l1)] at es
      cases es
      obtain ⟨t0', q1, _, q2⟩ := R.sl i _ e
      rw [e'] at q1; cases q1
      exact ⟨t2, by rw [List.getElem?_set_self l2], ob, by rw [val]; exact q2⟩
    · unfold setSl at es
      rw [List.getElem?_set_ne (Ne.symm hi)] at es
      obtain ⟨s0, e0, h⟩ := killA_get es
      rcases h with ⟨rfl, hal⟩ | rfl
      · have q := R.sl i s e0
        cases s with
        | em => trivial
        | ex a0 => exact q
        | va k' d' =>
          obtain ⟨t', q1, q2, q3⟩ := q
          have q1' : (ts.set j t2)[i]? = some t' := by rw [List.getElem?_set_ne (Ne.symm hi)]; exact q1
          refine ⟨t', q1', Ob.ext (Same.refl _) d' k' t' q2 (fun a m => (Ob.own d' k' t' q2 a m).1) (fun a m => hh a fun z => ?_), q3⟩
          exact ownR_apart (List.nodup_append.mp n).1 hi e0 q1 e e' a m (z ▸ hb)
        | al j' p =>
          obtain ⟨k1, d1, t1, k3, d3, t3, q1, q2, q3, q4⟩ := q
          have hj' : j' ≠ j := fun z => hal p (by rw [z])
          refine ⟨k1, d1, t1, k3, d3, t3, ?_, by rw [List.getElem?_set_ne (Ne.symm hj')]; exact q2, q3, q4⟩
          unfold setSl
          rw [List.getElem?_set_ne (Ne.symm hj')]
          exact killA_va q1
      · trivial
  · obtain ⟨o, hbr⟩ := R.tm c (List.mem_cons_of_mem _ hcm)
    have m : ∀ a ∈ own c.k c.d c.t, a ∈ ownT τ := fun a m => by
      cases q : c.b with
      | true => rw [hc c hcm q] at m; cases m
      | false => exact ownT_mem hcm q a m
    exact ⟨Ob.ext (Same.refl _) _ _ _ o (fun a q => (Ob.own _ _ _ o a q).1) (fun a q => hh a (offT a (m a q))), fun q => ⟨(hbr q).1, fun a m => by rw [hc c hcm q] at m; cases m⟩⟩
  · refine (List.Perm.append_right _ p2').nodup_iff.mpr ?_
    refine List.nodup_append.mpr ⟨List.nodup_append.mpr ⟨nd, b2, fun a ha x hx z => ?_⟩, c2, fun a ha x hx z => ?_⟩
    · subst z
      rcases sub a ha with m | m
      · exact b3 a m a hx rfl
      · exact a3 a (List.mem_append_right _ hx) a (List.mem_append_left _ m) rfl
    · subst z
      rcases List.mem_append.mp ha with m | m
      · rcases sub a m with m | m
        · exact a3 a (List.mem_append_left _ m) a (List.mem_append_right _ hx) rfl
        · exact c3 a m a hx rfl
      · exact a3 a (List.mem_append_right _ m) a (List.mem_append_right _ hx) rfl
  · have := old a m
    rw [← eT] at this
    exact R.o0 a this
end

/-! ### places -/
def plcR (ρ : Rho) (i : Nat) : Res (Nat × List Nat) := match ρ[i]? with
  | some (.va _ _) => .ok (i, [])
  | some (.al j p) => .ok (j, p)
  | _ => .er
def xPl (i : Nat) : Rho → Res (Nat × List Nat) := fun ρ => plcR ρ i
/-- what stands at a place -/
def atP (ρ : Rho) (q : Nat × List Nat) : Res (Lv × D) := match ρ[q.1]? with
  | some (.va k d) => match subD k d q.2 with
    | some r => .ok r
    | none => .er
  | _ => .er
def GoodP (X : Cx) (W : WX) (S : Sta) (Q : VK) : Res (Nat × List Nat) → Prop
  | .ok q => ∀ (S' : Sta) (k : Lv) (d : D) (t : Tr) (k' : Lv) (d' : D) (t' : Tr), Aft S S' → S'.τ = S.τ → S'.R X.K → S.ρ[q.1]? = some (.va k d) → S'.ts[q.1]? = some t → sub k d t q.2 = some (k', d', t') → Q (valOf d' t') S'.H
  | .rz c => ∀ S' : Sta, Aft S S' → S'.τ = S.τ → S'.R X.K → Raised X W c S'.σ S'.H
  | .er => False
def SP (X : Cx) (W : WX) (e : Expr) (x : Rho → Res (Nat × List Nat)) : Prop := ∀ (S : Sta) (Q : VK), S.R X.K → GoodP X W S Q (x S.ρ) → wE X e S.σ S.H Q
theorem sub_app : ∀ {p q : List Nat} {k : Lv} {d : D} {t : Tr} {k1 : Lv} {d1 : D} {t1 : Tr}, sub k d t p = some (k1, d1, t1) → sub k d t (p ++ q) = sub k1 d1 t1 q
  | [], q, k, d, t, k1, d1, t1, h => by
    simp only [sub, Option.some.injEq, Prod.mk.injEq] at h
    obtain ⟨rfl, rfl, rfl⟩ := h
    rfl
  | i :: p, q, k, d, t, k1, d1, t1, h => by
    simp only [sub, List.cons_append] at h ⊢
    cases e : (kidsD d)[i]? with
    | none => rw [e] at h; cases h
    | some d2 =>
      cases e2 : t.kids[i]? with
      | none => rw [e, e2] at h; cases h
      | some t2 =>
        rw [e, e2] at h
        exact sub_app h
section
variable {X : Cx} {W : WX} {S : Sta} {De : Ends}
theorem sp_name {i : Nat} {x : Str} {pos : Pos} (hN : X.N[i]? = some x) (hv : Vis X.env.scope x) (hd : (x == ("__debug__" : Str)) = false) (hcd : (x == ("__classdict__" : Str)) = false) : SP X W (.Name x pos) (xPl i) := by
  intro S Q R g
  refine wE_of (pe_var (i := i) hN hv hd hcd) ?_
  unfold xPl plcR at g
  have R' : Rl X.K S.Z0 S.H0 S.Z S.H S.σ S.ρ S.ts S.τ := R
  cases q : S.ρ[i]? with
  | none => rw [q] at g; exact g.elim
  | some s =>
    rw [q] at g
    cases s with
    | em => exact g.elim
    | ex a0 => exact g.elim
    | va k d =>
      obtain ⟨t, e1, o, e2⟩ := R'.sl i _ q
      exact ⟨_, e2, g S k d t k d t Aft.refl rfl R q e1 rfl⟩
    | al j p =>
      obtain ⟨k, d, t, k', d', t', e1, e2, e3, e4⟩ := R'.sl i _ q
      exact ⟨_, e4, g S k d t k' d' t' Aft.refl rfl R e1 e2 e3⟩
/-- the item of a place -/
def posD : Lv × D → D → Res Nat
  | (_, .list ds), .int i => match ixN ds.length i with
    | some n => .ok n
    | none => .er
  | _, _ => .er
theorem posD_inv (r : Lv × D) (d : D) : posD r d = .er ∨ ∃ ds i n, r.2 = .list ds ∧ d = .int i ∧ ixN ds.length i = some n ∧ posD r d = .ok n := by
  obtain ⟨rk, rd⟩ := r
  cases rd <;> try exact .inl rfl
  cases d <;> try exact .inl rfl
  rename_i ds i
  cases q : ixN ds.length i with
  | none => exact .inl (by unfold posD; dsimp only; rw [q])
  | some n => exact .inr ⟨ds, i, n, rfl, rfl, q, by unfold posD; dsimp only; rw [q]⟩
def xPlIx (a : Rho → Res (Nat × List Nat)) (b : Rho → Res BV) : Rho → Res (Nat × List Nat) := fun ρ => (a ρ).bind fun q => (b ρ).bind fun v => (atP ρ q).bind fun r => (posD r v.d).bind fun n => .ok (q.1, q.2 ++ [n])
theorem atP_ok {ρ : Rho} {q : Nat × List Nat} {r : Lv × D} (h : atP ρ q = .ok r) : ∃ k d, ρ[q.1]? = some (.va k d) ∧ subD k d q.2 = some r := by
  unfold atP at h
  split at h
  · rename_i k d e
    split at h <;> cases h
    rename_i r e2
    exact ⟨k, d, e, e2⟩
  · cases h
/-- what stands at a place, in any later state -/
theorem atP_at {q : Nat × List Nat} {r : Lv × D} (h : atP S.ρ q = .ok r) (R : S.R X.K) : ∃ k d t t', S.ρ[q.1]? = some (.va k d) ∧ S.ts[q.1]? = some t ∧ sub k d t q.2 = some (r.1, r.2, t') ∧ Ob X.K S.Z S.H k d t ∧ Ob X.K S.Z S.H r.1 r.2 t' ∧ (own k d t).Nodup ∧ ∀ a ∈ own r.1 r.2 t', a ∈ own k d t := by
  have R' : Rl X.K S.Z0 S.H0 S.Z S.H S.σ S.ρ S.ts S.τ := R
  obtain ⟨k, d, e1, e2⟩ := atP_ok h
  obtain ⟨t, e3, o, _⟩ := R'.sl _ _ e1
  obtain ⟨t', e4, o', m⟩ := sub_ob o (k' := r.1) (d' := r.2) e2
  exact ⟨k, d, t, t', e1, e3, e4, o, o', ownR_nodup (List.nodup_append.mp R'.nd).1 e1 e3, m⟩
theorem sp_ix {a b : Expr} {pos : Pos} {xa : Rho → Res (Nat × List Nat)} {xb : Rho → Res BV} (ha : SP X W a xa) (hb : SE X W b xb) (hs : PlainIx b) : SP X W (.Subscript a b pos) (xPlIx xa xb) := by
  intro S Q R g
  refine wE_of (pe_ix ixR_w pe_w pe_w hs) ?_
  refine ha S _ R ?_
  unfold xPlIx at g
  cases q : xa S.ρ with
  | er => rw [q] at g; exact g
  | rz c => rw [q] at g; exact g
  | ok q1 =>
    rw [q] at g
    intro S1 k d t k' d' t' a1 e1 R1 h1 h2 h3
    have z : wE X b S1.σ S1.H fun y H2 => wI X (valOf d' t') y H2 Q := by
      refine hb S1 _ R1 ?_
      rw [a1.ρ]
      replace g : GoodP X W S Q ((xb S.ρ).bind fun v => (atP S.ρ q1).bind fun r => (posD r v.d).bind fun n => .ok (q1.1, q1.2 ++ [n])) := g
      cases qb : xb S.ρ with
      | er => rw [qb] at g; exact g
      | rz c =>
        rw [qb] at g
        exact fun S2 a2 e2 R2 => g S2 (a1.trans a2) (e2.trans e1) R2
      | ok v =>
        rw [qb] at g
        intro S2 tv a2 e2 R2 f2
        replace g : GoodP X W S Q ((atP S.ρ q1).bind fun r => (posD r v.d).bind fun n => .ok (q1.1, q1.2 ++ [n])) := g
        have a3 := a1.trans a2
        cases qr : atP S.ρ q1 with
        | er => rw [qr] at g; exact g.elim
        | rz c =>
          exfalso
          unfold atP at qr
          split at qr
          · split at qr <;> cases qr
          · cases qr
        | ok r =>
          rw [qr] at g
          replace g : GoodP X W S Q ((posD r v.d).bind fun n => .ok (q1.1, q1.2 ++ [n])) := g
          obtain ⟨k0, d0, t0', t1, f1, f3, f4, o0, o1, _, _⟩ := atP_at (S := S2) (by rw [a3.ρ]; exact qr) R2
          rw [a3.ρ] at f1
          rw [h1] at f1; cases f1
          have ets : S2.ts = S1.ts := a2.ts
          rw [ets, h2] at f3; cases f3
          rw [h3] at f4
          cases f4
          rcases posD_inv r v.d with z | ⟨ds, i, n, hr, hvd, qi, z⟩
          · rw [z] at g
            exact g.elim
          · rw [z] at g
            replace g : GoodP X W S Q (.ok (q1.1, q1.2 ++ [n])) := g
            obtain ⟨rk, rd⟩ := r
            cases hr
            rw [hvd]
            simp only [Ob] at o1
            have R2' := R2.rl e2
            have hn : n < ds.length := (ixN_seq qi).2.1
            obtain ⟨dn, hdn⟩ : ∃ dn, ds[n]? = some dn := ⟨ds[n], by simp [hn]⟩
            have hat : atI ds i = some dn := by unfold atI; rw [qi]; exact hdn
            obtain ⟨j, t2, g1, g2, g3⟩ := atI_valsOf o1.2 hat
            obtain ⟨t3, g4, o3⟩ := o1.2.get hdn
            have g5 : atI (valsOf ds t'.kids) i = some (valOf dn t3) := by
              unfold atI
              rw [valsOf_length o1.2.len, qi]
              exact valsOf_get hdn g4
            refine wI_of ix_list ⟨t'.at, _, i, _, rfl, rfl, o1.1.sq R2'.zh, g5, ?_⟩
            have R3 := R2'.pop
            refine g (S2.put S2.Z S2.H S.τ) k d t (pd rk) dn t3 (a3.put Step.refl) rfl ?_ h1 (by show S2.ts[q1.1]? = _; rw [ets]; exact h2) ?_
            · rw [← e1]; exact R3
            · rw [sub_app h3]
              simp only [sub, kidsD, hdn, g4]
              rfl
    rw [a1.σ] at z
    exact z

/-! ### what is put into a list -/
/-- the level of a list that takes up v; root: it is a slot's own datum -/
def takeLv (root : Bool) (k : Lv) (others : List D) (v : BV) : Res Lv :=
  if k = some 0 then .er
  else if flat v.d = true then .ok k
  else if v.k = none then (if k = none then .ok k else .er)
  else if pd k = some 0 then .ok k
  else if root = true ∧ flats others = true then .ok (some 1) else .er
theorem takeLv_ok {root : Bool} {k k2 : Lv} {ds : List D} {v : BV} (h : takeLv root k ds v = .ok k2) (hv : v.b = false → flat v.d = true ∨ v.k = none ∨ v.k = some 0) (hb : v.b = true → v.k = some 0) :
    k ≠ some 0 ∧ k2 ≠ some 0 ∧ (flat v.d = true ∨ pd k2 = v.k) ∧ (k2 = k ∨ root = true ∧ flats ds = true) := by
  unfold takeLv at h
  split at h
  · cases h
  · rename_i h0
    split at h
    · rename_i hf
      cases h
      exact ⟨h0, h0, .inl hf, .inl rfl⟩
    · rename_i hf
      have vk : v.k = none ∨ v.k = some 0 := by
        cases q : v.b with
        | true => exact .inr (hb q)
        | false => exact (hv q).elim (fun z => absurd z hf) _root_.id
      split at h
      · rename_i hn
        split at h <;> cases h
        rename_i hk
        refine ⟨h0, h0, .inr ?_, .inl rfl⟩
        rw [hk, hn]; rfl
      · rename_i hn
        have v0 : v.k = some 0 := vk.elim (fun z => absurd z hn) _root_.id
        split at h
        · rename_i hk
          cases h
          exact ⟨h0, h0, .inr (by rw [hk, v0]), .inl rfl⟩
        · split at h <;> cases h
          rename_i hr
          exact ⟨h0, by simp, .inr (by rw [v0]; rfl), .inr hr⟩
theorem takeLv_rz {root : Bool} {k : Lv} {ds : List D} {v : BV} {c : Str} : takeLv root k ds v ≠ .rz c := by
  intro h
  unfold takeLv at h
  split at h
  · cases h
  · split at h
    · cases h
    · split at h
      · split at h <;> cases h
      · split at h
        · cases h
        · split at h <;> cases h
theorem obs_app {K : PySem.W.Frag} {Z H : Hp} {k : Lv} {d : D} {t : Tr} : ∀ {ds : List D} {ts : List Tr}, Obs K Z H k ds ts → Ob K Z H k d t → Obs K Z H k (ds ++ [d]) (ts ++ [t])
  | [], [], _, o => by simp only [List.nil_append, Obs, and_true]; exact o
  | e :: ds, u :: ts, h, o => by
    simp only [List.cons_append, Obs] at *
    exact ⟨h.1, obs_app h.2 o⟩
  | [], _ :: _, h, _ => by simp only [Obs] at h
  | _ :: _, [], h, _ => by simp only [Obs] at h
theorem owns_app {k : Lv} {d : D} {t : Tr} : ∀ {ds : List D} {ts : List Tr}, ds.length = ts.length → owns k (ds ++ [d]) (ts ++ [t]) = owns k ds ts ++ own k d t
  | [], [], _ => by simp [owns]
  | e :: ds, u :: ts, h => by
    simp only [List.cons_append, owns, List.append_assoc]
    rw [owns_app (by simpa using h)]
  | [], _ :: _, h => by simp at h
  | _ :: _, [], h => by simp at h
theorem vals_app {d : D} {t : Tr} : ∀ {ds : List D} {ts : List Tr}, ds.length = ts.length → valsOf (ds ++ [d]) (ts ++ [t]) = valsOf ds ts ++ [valOf d t]
  | [], [], _ => by simp [valsOf]
  | e :: ds, u :: ts, h => by
    simp only [List.cons_append, valsOf]
    rw [vals_app (by simpa using h)]
  | [], _ :: _, h => by simp at h
  | _ :: _, [], h => by simp at h
end
end Ev

set_option Elab.async false
set_option linter.all false
set_option maxRecDepth 100000
namespace Ev
open PySem PySem.Spec PyProof.Rows L2

/-! ### a list changed in its place -/
section
variable {K : PySem.W.Frag} {Z0 H0 Z H : Hp} {σ : L2.St} {ρ : Rho} {ts : List Tr} {τ : List Tm}
theorem mut_list {q : Nat × List Nat} {k k' k2 : Lv} {d dv : D} {ds ds2 : List D} {t t' : Tr} {kv : Lv} {tv : Tr} {kids2 : List Tr} (R : Rl K Z0 H0 Z H σ ρ ts (⟨false, kv, dv, tv⟩ :: τ)) (hc : Clean τ)
    (e : ρ[q.1]? = some (.va k d)) (e' : ts[q.1]? = some t) (es : sub k d t q.2 = some (k', .list ds, t')) (hk : k' ≠ some 0) (hk2 : k2 ≠ some 0) (hr : k2 = k' ∨ q.2 = [])
    (ob : ∀ H' : Hp, (∀ a, a ≠ t'.at → ∀ o, H a = some o → H' a = some o) → t'.at ∉ owns (pd k') ds t'.kids → t'.at ∉ own kv dv tv → Obs K Z H' (pd k2) ds2 kids2)
    (nd : (owns (pd k') ds t'.kids ++ own kv dv tv).Nodup → (owns (pd k2) ds2 kids2).Nodup) (sb : ∀ a ∈ owns (pd k2) ds2 kids2, a ∈ owns (pd k') ds t'.kids ∨ a ∈ own kv dv tv) :
    H t'.at = some (.lst (valsOf ds t'.kids)) ∧ Rl K Z0 H0 Z (upd H t'.at (.lst (valsOf ds2 kids2))) σ (setSl ρ q.1 (.va (if q.2 = [] then k2 else k) (setD d q.2 (.list ds2)))) (ts.set q.1 (setT t q.2 (.n t'.at kids2))) τ := by
  obtain ⟨t1, e1, o, _⟩ := R.sl _ _ e
  rw [e'] at e1; cases e1
  obtain ⟨t2, e2, o2, m2⟩ := sub_ob o (sub_subD es)
  rw [es] at e2; cases e2
  simp only [Ob] at o2
  have ht : Z t'.at = none ∧ H t'.at = some (.lst (valsOf ds t'.kids)) := by
    have := o2.1
    unfold LstAt at this
    rw [if_neg hk] at this
    exact this
  have mb : t'.at ∈ own k' (.list ds) t' := by simp only [Ev.own, if_neg hk]; exact List.mem_append_left _ (List.mem_singleton.mpr rfl)
  have n := R.nd
  have eT : ownT (⟨false, kv, dv, tv⟩ :: τ) = own kv dv tv ++ ownT τ := by simp [ownT]
  rw [eT] at n
  have nR := (List.nodup_append.mp n).1
  have nd0 : (own k d t).Nodup := ownR_nodup nR e e'
  have ndk : (own k' (.list ds) t').Nodup := sub_nodup nd0 es
  have ndv : (own kv dv tv).Nodup := (List.nodup_append.mp (List.nodup_append.mp n).2.1).1
  have dis : ∀ a ∈ own kv dv tv, a ∉ own k d t := fun a m m' => (List.nodup_append.mp n).2.2 a (ownR_get e e' a m') a (List.mem_append_left _ m) rfl
  have n1 : t'.at ∉ owns (pd k') ds t'.kids := by
    have := ndk
    simp only [Ev.own, if_neg hk] at this
    exact fun z => (List.nodup_append.mp this).2.2 _ (List.mem_singleton.mpr rfl) _ z rfl
  have n2 : t'.at ∉ own kv dv tv := fun z => dis _ z (m2 _ mb)
  have hh : ∀ a, a ≠ t'.at → ∀ o, H a = some o → upd H t'.at (.lst (valsOf ds2 kids2)) a = some o := fun a h o q => by rw [upd_ne h]; exact q
  have nd2 := nd (by
    refine List.nodup_append.mpr ⟨?_, ndv, fun a m b m' z => ?_⟩
    · have := ndk
      simp only [Ev.own] at this
      exact (List.nodup_append.mp this).2.1
    · subst z
      exact dis a m' (m2 a (by simp only [Ev.own]; exact List.mem_append_right _ m)))
  have u0 : (Ob K Z (upd H t'.at (.lst (valsOf ds2 kids2))) k2 (.list ds2) (.n t'.at kids2) ∧ (Ev.own k2 (.list ds2) (.n t'.at kids2)).Nodup ∧ (∀ a ∈ Ev.own k2 (.list ds2) (.n t'.at kids2), a ∈ Ev.own k' (.list ds) t' ∨ a ∈ own kv dv tv)) := by
    refine ⟨?_, ?_, fun a m => ?_⟩
    · simp only [Ob]
      refine ⟨?_, ob _ hh n1 n2⟩
      unfold LstAt
      rw [if_neg hk2]
      exact ⟨ht.1, upd_same⟩
    · simp only [Ev.own, if_neg hk2]
      refine List.nodup_append.mpr ⟨by simp, nd2, fun a m b m' z => ?_⟩
      subst z
      have := List.mem_singleton.mp m
      subst this
      rcases sb _ m' with h | h
      · exact n1 h
      · exact n2 h
    · simp only [Ev.own, if_neg hk2, if_neg hk] at m ⊢
      rcases List.mem_append.mp m with m | m
      · exact .inl (List.mem_append_left _ m)
      · rcases sb a m with h | h
        · exact .inl (List.mem_append_right _ h)
        · exact .inr h
  refine ⟨ht.2, ?_⟩
  by_cases hp : q.2 = []
  · rw [if_pos hp, hp]
    rw [hp] at es
    simp only [Ev.sub, Option.some.injEq, Prod.mk.injEq] at es
    obtain ⟨rfl, rfl, rfl⟩ := es
    have z := Rl.upd R hc e e' mb hh u0.1 u0.2.1 u0.2.2 rfl
    simp only [setD, setT]
    exact z
  · rw [if_neg hp]
    have hkk : k2 = k' := hr.elim _root_.id fun z => absurd z hp
    subst hkk
    have u0' : Upd K Z (upd H t'.at (.lst (valsOf ds2 kids2))) k2 (.list ds) (.list ds2) t' (.n t'.at kids2) (own kv dv tv) := ⟨u0.1, u0.2.1, u0.2.2, rfl⟩
    have u := upd_path hh (fun _ _ => .inr trivial) mb u0' q.2 o nd0 dis es
    exact Rl.upd R hc e e' (m2 _ mb) hh u.ob u.nd u.sub u.val
end
theorem setdF {v : BV} (h : Setd false v) : (v.b = true → v.k = some 0) ∧ (v.b = false → flat v.d = true ∨ v.k = none ∨ v.k = some 0) := ⟨(h.2 rfl).1, fun q => .inr ((h.2 rfl).2 q)⟩
/-- what is put in has the level of what is there -/
theorem put_lv {K : PySem.W.Frag} {Z H : Hp} {k2 kv : Lv} {dv : D} {tv : Tr} (h : flat dv = true ∨ pd k2 = kv) (o : Ob K Z H kv dv tv) : Ob K Z H (pd k2) dv tv ∧ own (pd k2) dv tv = own kv dv tv := by
  rcases h with h | h
  · exact ⟨flat_ob dv _ _ tv h o, by rw [flat_own dv _ tv h, flat_own dv _ tv h]⟩
  · rw [h]; exact ⟨o, rfl⟩
theorem Obs.lv {K : PySem.W.Frag} {Z H : Hp} {k k2 : Lv} {ds : List D} {ts : List Tr} (h : k2 = k ∨ flats ds = true) (o : Obs K Z H k ds ts) : Obs K Z H k2 ds ts ∧ owns k2 ds ts = owns k ds ts := by
  rcases h with h | h
  · rw [h]; exact ⟨o, rfl⟩
  · have h' : flat (.tuple ds) = true := by simp only [flat]; exact h
    have e : ∀ k, owns k ds ts = [] := fun k => by
      have := flat_own (.tuple ds) k (.n 0 ts) h'
      simpa only [Ev.own, Tr.kids] using this
    refine ⟨?_, by rw [e, e]⟩
    exact flats_obs ds k k2 ts h o
def isRoot (p : List Nat) : Bool := match p with
  | [] => true
  | _ => false
theorem isRoot_of {p : List Nat} (h : isRoot p = true) : p = [] := by
  cases p with
  | nil => rfl
  | cons a b => cases h
/-- the slots behind a change at the place q -/
def chg (ρ : Rho) (q : Nat × List Nat) (k2 : Lv) (x : D) : Rho := match ρ[q.1]? with
  | some (.va k d) => setSl ρ q.1 (.va (if q.2 = [] then k2 else k) (setD d q.2 x))
  | _ => ρ
theorem chg_va {ρ : Rho} {q : Nat × List Nat} {k2 : Lv} {x : D} {k : Lv} {d : D} (e : ρ[q.1]? = some (.va k d)) : chg ρ q k2 x = setSl ρ q.1 (.va (if q.2 = [] then k2 else k) (setD d q.2 x)) := by
  unfold chg; rw [e]
def appV (ρ : Rho) (q : Nat × List Nat) (v : BV) : Res Rho := (settle false v).bind fun v => (atP ρ q).bind fun r => match r.2 with
  | .list ds => if ds.length < sizeLine then (takeLv (isRoot q.2) r.1 ds v).bind fun k2 => .ok (chg ρ q k2 (.list (ds ++ [v.d]))) else .er
  | _ => .er
/-- a list stands at the place -/
def isL (ρ : Rho) (q : Nat × List Nat) : Bool := match atP ρ q with
  | .ok (_, .list _) => true
  | _ => false
theorem isL_of {ρ : Rho} {q : Nat × List Nat} (h : isL ρ q = true) : ∃ k ds, atP ρ q = .ok (k, .list ds) := by
  unfold isL at h
  split at h
  · exact ⟨_, _, ‹_›⟩
  · cases h
def sApp (a : Rho → Res (Nat × List Nat)) (x : Rho → Res BV) : Rho → SR := fun ρ => match a ρ with
  | .ok q => if isL ρ q = true then match x ρ with
    | .ok v => match appV ρ q v with
      | .ok ρ' => .nx ρ'
      | _ => .er
    | .rz c => .rz c ρ
    | .er => .er else .er
  | .rz c => .rz c ρ
  | .er => .er
theorem atP_rz {ρ : Rho} {q : Nat × List Nat} {c : Str} : atP ρ q ≠ .rz c := by
  intro h
  unfold atP at h
  split at h
  · split at h <;> cases h
  · cases h
theorem appV_ok {ρ ρ' : Rho} {q : Nat × List Nat} {v : BV} (h : appV ρ q v = .ok ρ') : ∃ v' k' ds k2, settle false v = .ok v' ∧ atP ρ q = .ok (k', .list ds) ∧ ds.length < sizeLine ∧ takeLv (isRoot q.2) k' ds v' = .ok k2 ∧ ρ' = chg ρ q k2 (.list (ds ++ [v'.d])) := by
  unfold appV at h
  cases q1 : settle false v with
  | er => rw [q1] at h; cases h
  | rz c => exact absurd q1 settle_rz
  | ok v' =>
    rw [q1] at h
    replace h : (atP ρ q).bind (fun r => match r.2 with | .list ds => if ds.length < sizeLine then (takeLv (isRoot q.2) r.1 ds v').bind fun k2 => .ok (chg ρ q k2 (.list (ds ++ [v'.d]))) else .er | _ => .er) = .ok ρ' := h
    cases q2 : atP ρ q with
    | er => rw [q2] at h; cases h
    | rz c => exact absurd q2 atP_rz
    | ok r =>
      rw [q2] at h
      obtain ⟨k', dd⟩ := r
      simp only [Res.bind_ok] at h
      cases dd <;> try (cases h; done)
      rename_i ds
      simp only at h
      split at h
      · rename_i hl
        cases q3 : takeLv (isRoot q.2) k' ds v' with
        | er => rw [q3] at h; cases h
        | rz c => exact absurd q3 takeLv_rz
        | ok k2 =>
          rw [q3] at h
          cases h
          exact ⟨v', k', ds, k2, rfl, rfl, hl, q3, rfl⟩
      · cases h
section
variable {X : Cx} {W : WX} {S : Sta} {De : Ends}
theorem st_app {o e : Expr} {a : Rho → Res (Nat × List Nat)} {x : Rho → Res BV} {apos cpos pos : Pos} (ho : SP X W o a) (he : SE X W e x)
    (hbase : attributeBase o "append" X.env (eval o X.env) = eval o X.env := by rfl)
    (hfew : ((backTo cpos (starEach [e] X.env)).all (fun x => !x.1) && (backToKw cpos (keywordEach [] X.env)).all (fun x => x.1.isSome)
      && decide (([e] : List Expr).length + ([] : List Keyword).length + (if ([] : List Keyword).isEmpty then 0 else 1) < 30)) = true := by rfl)
    (hline : (apos.endLine == cpos.line) = true := by rfl) (hs : starEach [e] X.env = (false, eval e X.env) :: starEach [] X.env := by rfl) (hplain : (backTo cpos (starEach [] X.env)).any (·.1) = false := by rfl)
    (hsw : swapsWith (.Call (.Attribute o "append" apos) [e] [] cpos) none pos.line X.env = pure false) : SSt X W (.Expr (.Call (.Attribute o "append" apos) [e] [] cpos) pos) (sApp a x) := by
  intro S De R hc g
  have ha : SA X W false [e] [x] := sa_cons he sa_nil hs
  refine wS_of (ps_expr (pe_bm PySem.F.plainAttrs_list PySem.F.slot_list_append PySem.F.type_list_append mt_append (pe_w (e := o)) (pa_w (es := [e])) hbase hfew hline hs hplain) hsw) ?_
  refine ho S _ R ?_
  unfold sApp at g
  cases qa : a S.ρ with
  | er => rw [qa] at g; exact g
  | rz c => rw [qa] at g; exact fun S1 a1 e1 R1 => g S1 a1.s a1.ρ e1 R1
  | ok q =>
    rw [qa] at g
    intro S1 k d t k' d' t' a1 e1 R1 h1 h2 h3
    dsimp only at g
    by_cases hL : isL S.ρ q = true
    rotate_left
    · rw [if_neg hL] at g; exact g.elim
    rw [if_pos hL] at g
    obtain ⟨kL, dsL, eL⟩ := isL_of hL
    obtain ⟨kL', dL', eL4, eL5⟩ := atP_ok eL
    rw [h1] at eL4; cases eL4
    have eL6 := sub_subD h3
    rw [eL5] at eL6; cases eL6
    have o1 : Ob X.K S1.Z S1.H k' (.list dsL) t' := by
      have R1' : Rl X.K S1.Z0 S1.H0 S1.Z S1.H S1.σ S1.ρ S1.ts S1.τ := R1
      obtain ⟨t1, f1, o, _⟩ := R1'.sl _ _ (by rw [a1.ρ]; exact h1)
      rw [h2] at f1; cases f1
      obtain ⟨t2, f2, o2, _⟩ := sub_ob o (sub_subD h3)
      rw [h3] at f2; cases f2
      exact o2
    have z : wA X [e] S1.σ S1.H fun xs H2 => rAppend (valOf (.list dsL) t') xs H2 fun _ H3 => De.nx S.σ H3 := by
      refine ha S1 _ R1 ?_
      rw [a1.ρ]
      unfold evA
      cases qx : x S.ρ with
      | er => rw [qx] at g; exact g.elim
      | rz c =>
        rw [qx] at g
        exact fun S2 a2 e2 R2 => g S2 (a1.trans a2).s (a1.trans a2).ρ (e2.trans e1) R2
      | ok v =>
        rw [qx] at g
        dsimp only at g
        cases qp : appV S.ρ q v with
        | er => rw [qp] at g; exact g.elim
        | rz c => rw [qp] at g; exact g.elim
        | ok ρ' =>
          rw [qp] at g
          dsimp only at g
          obtain ⟨v', k1, ds, k2, s1, s2, s3, s4, rfl⟩ := appV_ok qp
          have sd := settle_setd s1
          rw [Res.bind_ok, s1]
          intro S2 tr a2 l2 e2 R2 f2
          cases tr with
          | nil => cases l2
          | cons tv tr =>
            cases tr with
            | cons _ _ => simp at l2
            | nil =>
              have a3 := a1.trans a2
              have R2' : Rl X.K S2.Z0 S2.H0 S2.Z S2.H S2.σ S2.ρ S2.ts (⟨v'.b, v'.k, v'.d, tv⟩ :: S.τ) := by
                have := R2.rl e2
                rw [e1] at this
                exact this
              have R3 : Rl X.K S2.Z0 S2.H0 S2.Z S2.H S2.σ S2.ρ S2.ts (⟨false, v'.k, v'.d, tv⟩ :: S.τ) := by
                cases qb : v'.b with
                | false => rw [qb] at R2'; exact R2'
                | true =>
                  have k0 := (setdF sd).1 qb
                  have ov := (R2'.tm _ List.mem_cons_self).1
                  exact R2'.pop.push0 ov (by show own v'.k v'.d tv = []; rw [k0]; exact own_zero _ _)
              rw [eL] at s2; cases s2
              obtain ⟨t1, t2, t3, t4⟩ := takeLv_ok s4 (setdF sd).2 (setdF sd).1
              have ov := (R3.tm _ List.mem_cons_self).1
              have ets : S2.ts[q.1]? = some t := by rw [a2.ts]; exact h2
              have eρ : S2.ρ[q.1]? = some (.va k d) := by rw [a3.ρ]; exact h1
              obtain ⟨pv, po⟩ := put_lv t3 ov
              have lv : pd k2 = pd k' ∨ flats dsL = true := t4.elim (fun z => .inl (by rw [z])) fun z => .inr z.2
              have o2 : Ob X.K S2.Z S2.H k' (.list dsL) t' := by
                obtain ⟨u1, u2, u3, _⟩ := R3.sl _ _ eρ
                rw [ets] at u2; cases u2
                obtain ⟨u4, u5, u6, _⟩ := sub_ob u3 (sub_subD h3)
                rw [h3] at u5; cases u5
                exact u6
              simp only [Ob] at o2
              have ll := o2.2.len
              have M := mut_list (q := q) (ds2 := dsL ++ [v'.d]) (kids2 := t'.kids ++ [tv]) (k2 := k2) R3 hc eρ ets h3 t1 t2 (t4.elim .inl fun z => .inr (isRoot_of z.1)) (fun H' hh m1 m2 => ?_) (fun n => ?_) fun a m => ?_
              · refine ⟨t'.at, valsOf dsL t'.kids, valOf v'.d tv, rfl, rfl, M.1, by rw [valsOf_length ll]; exact s3, ?_⟩
                have R4 := M.2
                rw [vals_app ll] at R4
                have g3 := g ⟨S2.Z0, S2.H0, S2.Z, upd S2.H t'.at (.lst (valsOf dsL t'.kids ++ [valOf v'.d tv])), S2.σ, setSl S2.ρ q.1 (.va (if q.2 = [] then k2 else k) (setD d q.2 (.list (dsL ++ [v'.d])))), S2.ts.set q.1 (setT t q.2 (.n t'.at (t'.kids ++ [tv]))), S.τ⟩ ⟨a3.z0, a3.h0, a3.st.zz⟩ (by show setSl S2.ρ q.1 _ = _; rw [a3.ρ, chg_va h1]) rfl R4
                rw [← a3.σ]
                exact g3
              · refine obs_app ?_ ?_
                · refine (Obs.lv (H := H') lv ?_).1
                  refine Obs.ext (Same.refl _) dsL _ t'.kids o2.2 (fun a m => (Obs.own dsL _ t'.kids o2.2 a m).1) fun a m => hh a fun z => m1 (z ▸ m)
                · exact Ob.ext (Same.refl _) _ _ _ pv (fun a m => (Ob.own _ _ _ pv a m).1) fun a m => hh a fun z => m2 (by rw [← z, ← po]; exact m)
              · rw [owns_app ll, (Obs.lv lv o2.2).2, po]
                exact n
              · rw [owns_app ll, (Obs.lv lv o2.2).2, po] at m
                exact List.mem_append.mp m
    rw [a1.σ] at z
    refine ⟨?_, z⟩
    simp only [Ob] at o1
    have R1'' : Rl X.K S1.Z0 S1.H0 S1.Z S1.H S1.σ S1.ρ S1.ts S1.τ := R1
    exact .inl ⟨rfl, _, o1.1.sq R1''.zh⟩
end
end Ev

set_option Elab.async false
set_option linter.all false
set_option maxRecDepth 100000
namespace Ev
open PySem PySem.Spec PyProof.Rows L2

/-! ### try -/
section
variable {K : PySem.W.Frag} {Z0 H0 Z H : Hp} {σ : L2.St} {ρ : Rho} {ts : List Tr} {τ : List Tm}
theorem ownR_ex {a : Addr} : ∀ {ρ : Rho} {ts : List Tr} {i : Nat}, ownR (ρ.set i (.ex a)) ts = ownR (ρ.set i .em) ts
  | [], _, _ => by simp
  | s :: ρ, [], 0 => by simp [ownR]
  | s :: ρ, [], i + 1 => by simp [ownR]
  | s :: ρ, t :: ts, 0 => by simp [ownR]
  | s :: ρ, t :: ts, i + 1 => by
    simp only [List.set_cons_succ]
    cases s <;> simp only [ownR, ownR_ex (ρ := ρ) (ts := ts) (i := i)]
/-- a slot is set by hand: to an exception, or to nothing -/
theorem Rl.hand {i : Nat} {v : Option V} {s : Sl} (R : Rl K Z0 H0 Z H σ ρ ts τ) (hc : Clean τ) (hs : s = .em ∨ ∃ a, s = .ex a ∧ v = some (.ref a)) : Rl K Z0 H0 Z H (σ.set i v) (setSl ρ i s) ts τ := by
  have R1 := R.forget (i := i) hc
  have eo : ownR (setSl ρ i s) ts = ownR (setSl ρ i .em) ts := by
    rcases hs with rfl | ⟨a, rfl, _⟩
    · rfl
    · unfold setSl; exact ownR_ex
  refine ⟨R1.zh, R1.h0, R1.z0, R1.zn, ?_, ?_, fun j s' e => ?_, fun c hcm => ?_, by rw [eo]; exact R1.nd, by rw [eo]; exact R1.o0⟩
  · simp only [setSl, List.length_set, killA_length]; exact R.lr
  · simp only [List.length_set]; exact R.lt
  · by_cases hj : j = i
    · subst hj
      have l1 : j < ρ.length := by
        have := (List.getElem?_eq_some_iff.mp e).1
        simpa only [setSl, List.length_set, killA_length] using this
      unfold setSl at e
      rw [List.getElem?_set_self (by rw [killA_length]; exact l1)] at e
      cases e
      rcases hs with rfl | ⟨a, rfl, rfl⟩
      · trivial
      · show (σ.set j _)[j]? = _
        rw [List.getElem?_set_self (by rw [← R.lr]; exact l1)]
    · have e' : (setSl ρ i .em)[j]? = some s' := by
        unfold setSl at e ⊢
        rw [List.getElem?_set_ne (Ne.symm hj)] at e ⊢
        exact e
      have q := R1.sl j s' e'
      cases s' with
      | em => trivial
      | ex a0 =>
        show (σ.set i _)[j]? = _
        rw [List.getElem?_set_ne (Ne.symm hj)]
        exact q
      | va k' d' =>
        obtain ⟨t', q1, q2, q3⟩ := q
        exact ⟨t', q1, q2, by rw [List.getElem?_set_ne (Ne.symm hj)]; exact q3⟩
      | al j' p =>
        obtain ⟨k1, d1, t1, k2, d2, t2, q1, q2, q3, q4⟩ := q
        have hj' : j' ≠ i := fun z => by
          subst z
          unfold setSl at q1
          by_cases l : j' < ρ.length
          · rw [List.getElem?_set_self (by rw [killA_length]; exact l)] at q1
            cases q1
          · rw [List.getElem?_eq_none (by simp only [List.length_set, killA_length]; omega)] at q1
            cases q1
        refine ⟨k1, d1, t1, k2, d2, t2, ?_, q2, q3, by rw [List.getElem?_set_ne (Ne.symm hj)]; exact q4⟩
        unfold setSl at q1 ⊢
        rw [List.getElem?_set_ne (Ne.symm hj')] at q1 ⊢
        exact q1
  · obtain ⟨o, hb⟩ := R1.tm c hcm
    exact ⟨o, fun q => ⟨(hb q).1, fun a m => by rw [eo]; exact (hb q).2 a m⟩⟩
end
def SR.kill (i : Nat) : SR → SR
  | .nx ρ => .nx (setSl ρ i .em)
  | .bk ρ => .bk (setSl ρ i .em)
  | .ct ρ => .ct (setSl ρ i .em)
  | .rt k d => .rt k d
  | _ => .er
def SR.hot : SR → SR
  | .rz _ _ => .er
  | r => r
/-- try .. except x as n; cs: is the class caught -/
def sTryAs (i : Nat) (cs : Str → Option Bool) (b : Rho → SR) (s : Addr → Str → Rho → SR) : Rho → SR := fun ρ => match b ρ with
  | .rz c ρ' => match cs c with
    | some true => (s 0 c (setSl ρ' i (.ex 0))).kill i
    | some false => .rz c ρ'
    | none => .er
  | r => r
def sTry (cs : Str → Option Bool) (b : Rho → SR) (s : Str → Rho → SR) : Rho → SR := fun ρ => match b ρ with
  | .rz c ρ' => match cs c with
    | some true => (s c ρ').hot
    | some false => .rz c ρ'
    | none => .er
  | r => r
/-- what the caught class says of the classes -/
def Caught (K : PySem.W.Frag) (mg : Str → Option Value) (v : Value) (cs : Str → Option Bool) : Prop := ∀ c b, cs c = some b → ∀ C, mg c = some (.ref C) → PySem.W.exmOne K (.ref C) v = some b
abbrev noX : WX := fun _ _ _ _ => False
section
variable {X : Cx} {W : WX} {S : Sta} {De : Ends}
theorem GoodS.tr {pn : List (Addr × Obj)} {xe : Value → Shared → Prop} {W1 : WX} {r : SR} (g : GoodS X W S De r) (h : ∀ c ρ, r = .rz c ρ → ∀ S' : Sta, AftS S S' → S'.ρ = ρ → S'.τ = S.τ → S'.R X.K → Raised X W1 c S'.σ S'.H) : GoodS (X.tr pn xe) W1 S De r := by
  cases r with
  | nx ρ => exact g
  | bk ρ => exact g
  | ct ρ => exact g
  | rt k d => exact g
  | rz c ρ => exact h c ρ rfl
  | er => exact g
theorem st_tryAs {x n : Str} {v : Value} {i : Nat} {cs : Str → Option Bool} {body suite : List Stmt} {b₀ : Stmt} {np pos pos' : Pos} {sb : Rho → SR} {s : Addr → Str → Rho → SR} (hs : X.stack = X.env :: X.outer) (hf : X.env.frame = some X.env.locals) (hN : X.N.Nodup) (hi : X.N[i]? = some n) (hln : X.env.kindOf n = some .local) (hc : Names X x v) (tk : Takes X W)
    (hcs : Caught X.K X.mg v cs) (hb : ∀ (W : WX) (pn : List (Addr × Obj)) (xe : Value → Shared → Prop), Takes (X.tr pn xe) W → SSs (X.tr pn xe) W body sb)
    (hsu : ∀ (a : Addr) (oe : Obj) (c : Str) (C : Addr) (pn : List (Addr × Obj)), X.mg c = some (.ref C) → Zc (.ref C) none oe → (∃ vs, oe.data = .fields vs) → SSs (X.suite a ((a, oe) :: pn)) noX (b₀ :: suite) (s a c))
    (hu : ∀ a c ρ, (s a c (setSl ρ i (.ex a))).kill i = (s 0 c (setSl ρ i (.ex 0))).kill i) :
    SSt X W (.Try body [.ExceptHandler (some (.Name x np)) (some n) (b₀ :: suite) pos'] [] [] pos) (sTryAs i cs sb s) := by
  intro S De R hcl g
  refine wS_of (ps_try_as (tb := fun W1 De σ H => ∀ (pn : List (Addr × Obj)) (xe : Value → Shared → Prop), Takes (X.tr pn xe) W1 → wSs (X.tr pn xe) body De σ H)
    (ts := fun a cls d De σ H => ∀ (oe : Obj) (pn : List (Addr × Obj)), Zc cls d oe → (∃ vs, oe.data = .fields vs) → wSs (X.suite a ((a, oe) :: pn)) (b₀ :: suite) De σ H) (Wout := W) hs hf hN hi hln hc tk
    (fun W1 pn xe tk1 _ => ⟨fun pins s1 σ H De I h => h pn xe tk1 pins s1 I⟩) (fun a oe cls d pn hz hd => ⟨fun pins s1 σ H De I h => h oe pn hz hd pins s1 I⟩)) ?_
  intro pn xe tk1
  refine hb _ pn xe tk1 S De R hcl ?_
  unfold sTryAs at g
  cases q : sb S.ρ with
  | nx ρ => rw [q] at g; exact g
  | bk ρ => rw [q] at g; exact g
  | ct ρ => rw [q] at g; exact g
  | rt k d => rw [q] at g; exact g
  | er => rw [q] at g; exact g
  | rz c ρ' =>
    rw [q] at g
    dsimp only at g
    intro S1 a1 e1 e2 R1 C hC
    cases qc : cs c with
    | none => rw [qc] at g; exact g.elim
    | some b =>
      rw [qc] at g
      refine ⟨b, hcs c b qc C hC, fun hb1 a ha oe pn' hz hd => ?_, fun hb0 => ?_⟩
      · subst hb1
        dsimp only at g
        have R2 : Rl X.K S1.Z0 S1.H0 S1.Z S1.H (S1.σ.set i (some (.ref a))) (setSl S1.ρ i (.ex a)) S1.ts S1.τ := Rl.hand R1 (by rw [e2]; exact hcl) (.inr ⟨a, rfl, rfl⟩)
        refine hsu a oe c C pn' hC hz hd ⟨S1.Z0, S1.H0, S1.Z, S1.H, S1.σ.set i (some (.ref a)), setSl S1.ρ i (.ex a), S1.ts, S1.τ⟩ _ R2 (by show Clean S1.τ; rw [e2]; exact hcl) ?_
        show GoodS _ _ _ _ (s a c (setSl S1.ρ i (.ex a)))
        rw [e1]
        rw [← hu a c ρ'] at g
        have fin : ∀ (S3 : Sta), AftS (⟨S1.Z0, S1.H0, S1.Z, S1.H, S1.σ.set i (some (.ref a)), setSl S1.ρ i (.ex a), S1.ts, S1.τ⟩ : Sta) S3 → S3.τ = S1.τ → S3.R X.K → AftS S (⟨S3.Z0, S3.H0, S3.Z, S3.H, S3.σ.set i none, setSl S3.ρ i .em, S3.ts, S3.τ⟩ : Sta) ∧ S3.τ = S.τ ∧ (⟨S3.Z0, S3.H0, S3.Z, S3.H, S3.σ.set i none, setSl S3.ρ i .em, S3.ts, S3.τ⟩ : Sta).R X.K := fun S3 a3 e3 R3 =>
          ⟨⟨a3.z0.trans a1.z0, a3.h0.trans a1.h0, a1.zz.trans a3.zz⟩, e3.trans e2, Rl.hand R3 (by rw [e3, e2]; exact hcl) (.inl rfl)⟩
        cases qs : s a c (setSl ρ' i (.ex a)) with
        | nx ρ2 =>
          rw [qs] at g
          intro S3 a3 f1 f2 R3
          obtain ⟨h1, h2, h3⟩ := fin S3 ⟨a3.z0, a3.h0, a3.zz⟩ f2 R3
          exact g _ h1 (by show setSl S3.ρ i .em = _; rw [f1]) h2 h3
        | bk ρ2 =>
          rw [qs] at g
          intro S3 a3 f1 f2 R3
          obtain ⟨h1, h2, h3⟩ := fin S3 ⟨a3.z0, a3.h0, a3.zz⟩ f2 R3
          exact g _ h1 (by show setSl S3.ρ i .em = _; rw [f1]) h2 h3
        | ct ρ2 =>
          rw [qs] at g
          intro S3 a3 f1 f2 R3
          obtain ⟨h1, h2, h3⟩ := fin S3 ⟨a3.z0, a3.h0, a3.zz⟩ f2 R3
          exact g _ h1 (by show setSl S3.ρ i .em = _; rw [f1]) h2 h3
        | rt k d =>
          rw [qs] at g
          intro Z' H' t st zh o nd fr
          have z0 : S1.Z0 = S.Z0 := a1.z0
          have h0 : S1.H0 = S.H0 := a1.h0
          refine g Z' H' t (by rw [← z0, ← h0]; exact st) zh o nd fun x m => by rw [← h0]; exact fr x m
        | rz c2 ρ2 => rw [qs] at g; exact g.elim
        | er => rw [qs] at g; exact g.elim
      · subst hb0
        exact g S1 a1 e1 e2 R1 C hC
theorem st_try {x : Str} {v : Value} {cs : Str → Option Bool} {body suite : List Stmt} {b₀ : Stmt} {np pos pos' : Pos} {sb : Rho → SR} {s : Str → Rho → SR} (hs : X.stack = X.env :: X.outer) (hf : X.env.frame = some X.env.locals) (hc : Names X x v) (tk : Takes X W)
    (hcs : Caught X.K X.mg v cs) (hb : ∀ (W : WX) (pn : List (Addr × Obj)) (xe : Value → Shared → Prop), Takes (X.tr pn xe) W → SSs (X.tr pn xe) W body sb)
    (hsu : ∀ (a : Addr) (oe : Obj) (c : Str) (C : Addr) (pn : List (Addr × Obj)), X.mg c = some (.ref C) → Zc (.ref C) none oe → (∃ vs, oe.data = .fields vs) → SSs (X.suite a ((a, oe) :: pn)) noX (b₀ :: suite) (s c)) :
    SSt X W (.Try body [.ExceptHandler (some (.Name x np)) none (b₀ :: suite) pos'] [] [] pos) (sTry cs sb s) := by
  intro S De R hcl g
  refine wS_of (ps_try_only (tb := fun W1 De σ H => ∀ (pn : List (Addr × Obj)) (xe : Value → Shared → Prop), Takes (X.tr pn xe) W1 → wSs (X.tr pn xe) body De σ H)
    (ts := fun a cls d De σ H => ∀ (oe : Obj) (pn : List (Addr × Obj)), Zc cls d oe → (∃ vs, oe.data = .fields vs) → wSs (X.suite a ((a, oe) :: pn)) (b₀ :: suite) De σ H) (Wout := W) hs hf hc tk
    (fun W1 pn xe tk1 _ => ⟨fun pins s1 σ H De I h => h pn xe tk1 pins s1 I⟩) (fun a oe cls d pn hz hd => ⟨fun pins s1 σ H De I h => h oe pn hz hd pins s1 I⟩)) ?_
  intro pn xe tk1
  refine hb _ pn xe tk1 S De R hcl ?_
  unfold sTry at g
  cases q : sb S.ρ with
  | nx ρ => rw [q] at g; exact g
  | bk ρ => rw [q] at g; exact g
  | ct ρ => rw [q] at g; exact g
  | rt k d => rw [q] at g; exact g
  | er => rw [q] at g; exact g
  | rz c ρ' =>
    rw [q] at g
    dsimp only at g
    intro S1 a1 e1 e2 R1 C hC
    cases qc : cs c with
    | none => rw [qc] at g; exact g.elim
    | some b =>
      rw [qc] at g
      refine ⟨b, hcs c b qc C hC, fun hb1 a ha oe pn' hz hd => ?_, fun hb0 => ?_⟩
      · subst hb1
        dsimp only at g
        refine hsu a oe c C pn' hC hz hd S1 De R1 (by rw [e2]; exact hcl) ?_
        rw [e1]
        have g2 := GoodS.later g a1 e2
        cases qs : s c ρ' with
        | nx ρ2 => rw [qs] at g2; exact g2
        | bk ρ2 => rw [qs] at g2; exact g2
        | ct ρ2 => rw [qs] at g2; exact g2
        | rt k d => rw [qs] at g2; exact g2
        | rz c2 ρ2 => rw [qs] at g2; exact g2.elim
        | er => rw [qs] at g2; exact g2.elim
      · subst hb0
        exact g S1 a1 e1 e2 R1 C hC

theorem kill_ret {i : Nat} {x y : Rho → Res BV} {ρ ρ' : Rho} (h : x ρ = y ρ') : (sRet x ρ).kill i = (sRet y ρ').kill i := by
  unfold sRet eS
  rw [h]
  cases y ρ' with
  | ok v => rfl
  | rz c => rfl
  | er => rfl
/-! ### isinstance(e, C), e the exception in hand -/
def xIsE (i : Nat) (a : Addr) (b : Option Bool) : Rho → Res BV := fun ρ => match ρ[i]? with
  | some (.ex a') => if a' = a then match b with
    | some b => .ok ⟨false, none, .bool b⟩
    | none => .er else .er
  | _ => .er
theorem xIsE_set {i : Nat} {a : Addr} {b : Option Bool} {ρ : Rho} : xIsE i a b (setSl ρ i (.ex a)) = if i < ρ.length then (match b with | some b => .ok ⟨false, none, .bool b⟩ | none => .er) else .er := by
  unfold xIsE setSl
  by_cases h : i < ρ.length
  · rw [List.getElem?_set_self (by rw [killA_length]; exact h), if_pos h]
    show (if a = a then _ else _) = _
    rw [if_pos rfl]
  · rw [List.getElem?_eq_none (by simp only [List.length_set, killA_length]; omega), if_neg h]
/-- what isinstance says of the instances of c -/
def IsA (K : PySem.W.Frag) (mg : Str → Option Value) (c : Str) (cv : Value) (b : Option Bool) : Prop := ∀ C b', b = some b' → mg c = some (.ref C) → ExcC K C ∧ PySem.W.kitOne K (.ref C) cv = some b'
theorem se_isE {a : Addr} {oe : Obj} {pn : List (Addr × Obj)} {i : Nat} {n c : Str} {C : Addr} {b : Option Bool} {p p1 pos : Pos} {e2 : Expr} {cl : V} {cv : Value} (hC : X.mg c = some (.ref C)) (hz : Zc (.ref C) none oe) (hd : ∃ vs, oe.data = .fields vs)
    (hN : X.N[i]? = some n) (hv : Vis X.env.scope n) (hdb : (n == ("__debug__" : Str)) = false) (hcd : (n == ("__classdict__" : Str)) = false)
    (hg : Gl X "isinstance") (hm : X.mg "isinstance" = none) (hvi : bootBuiltins "isinstance" = some (.builtin "isinstance"))
    (hcl : PE (X.suite a ((a, oe) :: pn)) e2 (tC cl)) (hcv : ∀ u, RelV cl u → u = cv) (hk : IsA X.K X.mg c cv b)
    (hs : starEach [.Name n p1, e2] X.env = (false, eval (.Name n p1) X.env) :: starEach [e2] X.env) (hs2 : starEach [e2] X.env = (false, eval e2 X.env) :: starEach [] X.env) (hpl : (backTo pos (starEach [e2] X.env)).any (·.1) = false) :
    SE (X.suite a ((a, oe) :: pn)) W (.Call (.Name "isinstance" p) [.Name n p1, e2] [] pos) (xIsE i a b) := by
  intro S Q R g
  unfold xIsE at g
  cases q : S.ρ[i]? with
  | none => rw [q] at g; exact g.elim
  | some s =>
    rw [q] at g
    cases s with
    | em => exact g.elim
    | va k d => exact g.elim
    | al j p => exact g.elim
    | ex a' =>
      dsimp only at g
      by_cases ha : a' = a
      · subst ha
        rw [if_pos rfl] at g
        cases b with
        | none => exact g.elim
        | some b =>
          obtain ⟨EC, hk2⟩ := hk C b rfl hC
          have R' : Rl X.K S.Z0 S.H0 S.Z S.H S.σ S.ρ S.ts S.τ := R
          have e1 := R'.sl i _ q
          refine wE_of (pe_callB (X := X.suite a' ((a', oe) :: pn)) (call_isE EC hz hd) hg hm hvi (pa_cons (pe_var (i := i) hN hv hdb hcd) (pa_cons hcl pa_nil hs2) hs) (by decide) (by decide) hs hpl) ?_
          exact ⟨_, e1, cl, cv, b, rfl, hcv, hk2, GoodE.scal (S := S) g rfl Step.refl R⟩
      · rw [if_neg ha] at g; exact g.elim
end
end Ev

set_option Elab.async false
set_option linter.all false
set_option maxRecDepth 100000
namespace Ev
open PySem PySem.Spec PyProof.Rows L2

/-! ### small words -/
def visB (sc : Scope) (x : Str) : Bool := match sc.names.lookup x with
  | some .local => true
  | some .cell => true
  | some .free => true
  | _ => false
theorem vis {sc : Scope} {x : Str} (h : visB sc x = true) : Vis sc x := by
  unfold visB at h
  unfold Vis
  split at h
  · exact .inl ‹_›
  · exact .inr (.inl ‹_›)
  · exact .inr (.inr ‹_›)
  · cases h
def locB (sc : Scope) (x : Str) : Bool := match sc.names.lookup x with
  | some .local => true
  | some .cell => true
  | _ => false
theorem locl {sc : Scope} {x : Str} (h : locB sc x = true) : L2.Loc sc x := by
  unfold locB at h
  unfold L2.Loc
  split at h
  · exact .inl ‹_›
  · exact .inr ‹_›
  · cases h
theorem takes_no {X : Cx} : Takes X (fun _ _ _ _ => False) := fun _ _ ⟨_, _, _, _, _, _, _, _, _, _, _, _, _, _, _, _, z⟩ => z.elim
theorem fun_of {K : PySem.W.Frag} {x qual : Str} {st : Stmt} {f : Addr} {fd : FuncData} (F : FunD K x qual (defArgs st) (defBody st) (defScope st) [] [] f fd) : Fun K x qual st f fd := by
  obtain ⟨oc, od, dV, kV, doc, pm, an, cdv, ct, osl, e, lk, hcd, hD, _⟩ := F.ex
  rcases hD with ⟨_, rfl⟩ | ⟨z, _⟩
  · exact ⟨⟨oc, od, kV, doc, pm, an, cdv, ct, osl, e, lk, hcd⟩, F.kp⟩
  · exact absurd rfl z
/-- what isinstance asks of an exception's class, as a Bool -/
def excCB (K : PySem.W.Frag) (C : Addr) : Bool :=
  He.eqO (PySem.W.findIn K (.ref C) "__getattribute__") (some (some (.builtin "BaseException.__getattribute__"))) && (He.eqO (PySem.W.findIn K (.ref C) "__getattr__") (some none) && (decide (PySem.W.subIn K (.ref C) (.type "BaseException") = some true) && (PySem.W.hasDictIn K C &&
    (He.eqO (PySem.W.findIn K (.ref C) "__class__") (some (some (.builtin "object.__class__"))) && (He.eqO (PySem.W.specialIn K (.builtin "object.__class__") "__get__") (some (some (.builtin "getset_descriptor.__get__"))) && (decide (PySem.W.takesIn K (.builtin "object.__class__") = some true) && decide (PySem.W.mroIn K C (.type "object") = some true)))))))
theorem excC_of {K : PySem.W.Frag} {C : Addr} (h : excCB K C = true) : ExcC K C := by
  obtain ⟨h1, h⟩ := He.ba h
  obtain ⟨h2, h⟩ := He.ba h
  obtain ⟨h3, h⟩ := He.ba h
  obtain ⟨h4, h⟩ := He.ba h
  obtain ⟨h5, h⟩ := He.ba h
  obtain ⟨h6, h⟩ := He.ba h
  obtain ⟨h7, h8⟩ := He.ba h
  exact ⟨He.eqO_ok h1, He.eqO_ok h2, of_decide_eq_true h3, h4, He.eqO_ok h5, He.eqO_ok h6, of_decide_eq_true h7, of_decide_eq_true h8⟩

theorem bb_len : bootBuiltins "len" = some (.builtin "len") := by decide +kernel
theorem bb_abs : bootBuiltins "abs" = some (.builtin "abs") := by decide +kernel
theorem bb_any : bootBuiltins "any" = some (.builtin "any") := by decide +kernel
theorem bb_all : bootBuiltins "all" = some (.builtin "all") := by decide +kernel
theorem bb_min : bootBuiltins "min" = some (.builtin "min") := by decide +kernel
theorem bb_max : bootBuiltins "max" = some (.builtin "max") := by decide +kernel
theorem bb_sum : bootBuiltins "sum" = some (.builtin "sum") := by decide +kernel
theorem bb_isinstance : bootBuiltins "isinstance" = some (.builtin "isinstance") := by decide +kernel
theorem bb_sorted : bootBuiltins "sorted" = some (.builtin "sorted") := by decide +kernel
theorem bb_repr : bootBuiltins "repr" = some (.builtin "repr") := by decide +kernel
theorem bb_int : bootBuiltins "int" = some (.type "int") := by decide +kernel
theorem bb_bool : bootBuiltins "bool" = some (.type "bool") := by decide +kernel
theorem bb_str : bootBuiltins "str" = some (.type "str") := by decide +kernel
theorem bb_list : bootBuiltins "list" = some (.type "list") := by decide +kernel
theorem bb_tuple : bootBuiltins "tuple" = some (.type "tuple") := by decide +kernel
theorem bb_dict : bootBuiltins "dict" = some (.type "dict") := by decide +kernel
theorem bb_range : bootBuiltins "range" = some (.type "range") := by decide +kernel
theorem bb_enumerate : bootBuiltins "enumerate" = some (.type "enumerate") := by decide +kernel
theorem bb_zip : bootBuiltins "zip" = some (.type "zip") := by decide +kernel
theorem bb_reversed : bootBuiltins "reversed" = some (.type "reversed") := by decide +kernel
theorem bb_ValueError : bootBuiltins "ValueError" = some (.type "ValueError") := by decide +kernel
theorem exGet {l : List Bool} (h : (l.all fun b => b) = true) (i : Nat) {b : Bool} (e : l[i]? = some b) : b = true := List.all_eq_true.mp h b (List.mem_of_getElem? e)

/-! ### a, b = e -/
def sUnp (bd : Rho → BV → Res Rho) (x : Rho → Res BV) : Rho → SR := eS x fun ρ v => match settle true v with
  | .ok v' => if v'.b = true ∧ ¬ v'.k = some 0 then .er else match bd ρ v' with
    | .ok ρ' => .nx ρ'
    | _ => .er
  | _ => .er
section
variable {X : Cx} {W : WX} {S : Sta} {De : Ends}
theorem st_unp {tg e : Expr} {x : Rho → Res BV} {is : List Nat} {g : TG} {bd : Rho → BV → Res Rho} {pos : Pos} (he : SE X W e x) (hg : PG X tg g) (sg : SG X.K is g bd) (hs : swapsWithSole [tg] e pos.line X.env = pure false := by rfl) (hw : swappedStores [tg] e X.env = pure none := by rfl)
    (h1 : (assignEach [tg] X.env).map (·.2) = [assign tg X.env] := by rfl) : SSt X W (.Assign [tg] e pos) (sUnp bd x) := by
  intro S De R hc g0
  refine wS_of (ps_asg pe_w hg hs hw h1) (oneS he R g0 fun v S1 t a1 e1 R1 f1 g1 => ?_)
  cases q : settle true v with
  | er => rw [q] at g1; exact g1.elim
  | rz c => exact absurd q settle_rz
  | ok v' =>
    rw [q] at g1
    dsimp only at g1
    obtain ⟨S2, a2, h2, R2, e2, f2, sd⟩ := settle_go q R1 e1 f1 a1
    split at g1
    · exact g1.elim
    · rename_i hb
      cases qb : bd S.ρ v' with
      | er => rw [qb] at g1; exact g1.elim
      | rz c => rw [qb] at g1; exact g1.elim
      | ok ρ' =>
        rw [qb] at g1
        have R3 := R2.rl e2
        have o := (R3.tm _ List.mem_cons_self).1
        have lv : v'.k = some 0 ∨ flat v'.d = true := by
          cases qv : v'.b with
          | true =>
            refine .inl ?_
            exact Classical.byContradiction fun z => hb ⟨qv, z⟩
          | false => exact ((sd.1 rfl) qv).elim .inr .inl
        have ow : own v'.k v'.d t = [] := by
          rcases lv with z | z
          · rw [z]; exact own_zero _ _
          · exact flat_own _ _ _ z
        rw [← h2, ← settle_ok q]
        rw [← a2.ρ] at qb
        have z := sg.run (Q := fun σ' H' => De.nx σ' H') R3.pop hc o ow lv qb fun σ' ts' R4 _ => ?_
        · rw [a2.σ] at z
          exact z
        · exact g1 ⟨S2.Z0, S2.H0, S2.Z, S2.H, σ', ρ', ts', S.τ⟩ ⟨a2.z0, a2.h0, a2.st.zz⟩ rfl rfl R4
end
end Ev

set_option Elab.async false
set_option linter.all false
set_option maxRecDepth 100000
namespace Ev
open PySem PySem.Spec PyProof.Rows L2

/-! ### evaluation by simp: what is under way first -/
/-- a statement's end by its value -/
def Res.sr {α : Type} (r : Res α) (ρ : Rho) (f : α → SR) : SR := match r with
  | .ok v => f v
  | .rz c => .rz c ρ
  | .er => .er
@[simp] theorem sr_ok {α : Type} {v : α} {ρ : Rho} {f : α → SR} : (Res.ok v).sr ρ f = f v := Eq.trans rfl rfl
@[simp] theorem sr_rz {α : Type} {c : Str} {ρ : Rho} {f : α → SR} : (Res.rz c : Res α).sr ρ f = .rz c ρ := Eq.trans rfl rfl
@[simp] theorem sr_er {α : Type} {ρ : Rho} {f : α → SR} : (Res.er : Res α).sr ρ f = .er := Eq.trans rfl rfl
section
variable {ρ : Rho} {a b c : Rho → Res BV} {s t : Rho → SR} {p q : Rho → Res Bool}
@[simp] theorem ap_seq : sSeq s t ρ = (s ρ).seq t := Eq.trans rfl rfl
@[simp] theorem ap_nil : sNil ρ = .nx ρ := Eq.trans rfl rfl
@[simp] theorem ap_retN : sRetN ρ = .rt none .none := Eq.trans rfl rfl
@[simp] theorem ap_bk : sBk ρ = .bk ρ := Eq.trans rfl rfl
@[simp] theorem ap_ct : sCt ρ = .ct ρ := Eq.trans rfl rfl
@[simp] theorem ap_rz {c : Str} : sRz c ρ = .rz c ρ := Eq.trans rfl rfl
@[simp] theorem ap_if : sIf p s t ρ = (p ρ).sr ρ fun k => if k = true then s ρ else t ρ := by
  unfold sIf tS Res.sr
  cases p ρ <;> rfl
def asgR (ρ : Rho) (i : Nat) (v : BV) : SR := match asgV v with
  | .ok r => .nx (setSl ρ i (.va r.1 r.2))
  | _ => .er
@[simp] theorem asgR_int {i : Nat} {bb : Bool} {k : Lv} {n : Int} : asgR ρ i ⟨bb, k, .int n⟩ = .nx (setSl ρ i (.va none (.int n))) := Eq.trans rfl rfl
@[simp] theorem asgR_bool {i : Nat} {bb : Bool} {k : Lv} {n : Bool} : asgR ρ i ⟨bb, k, .bool n⟩ = .nx (setSl ρ i (.va none (.bool n))) := Eq.trans rfl rfl
@[simp] theorem asgR_none {i : Nat} {bb : Bool} {k : Lv} : asgR ρ i ⟨bb, k, .none⟩ = .nx (setSl ρ i (.va none .none)) := Eq.trans rfl rfl
@[simp] theorem asgR_str {i : Nat} {bb : Bool} {k : Lv} {x : Str} : asgR ρ i ⟨bb, k, .str x⟩ = .nx (setSl ρ i (.va none (.str x))) := Eq.trans rfl rfl
theorem asgR_flat {i : Nat} {v : BV} (h : flat v.d = true) : asgR ρ i v = .nx (setSl ρ i (.va none v.d)) := by
  unfold asgR asgV
  rw [if_pos h]
@[simp] theorem asgR_flat' {i : Nat} {bb : Bool} {k : Lv} {d : D} (h : flat d = true) : asgR ρ i ⟨bb, k, d⟩ = .nx (setSl ρ i (.va none d)) := asgR_flat h
@[simp] theorem asgR_own {i : Nat} {k : Lv} {ds : List D} : asgR ρ i ⟨false, k, .list ds⟩ = .nx (setSl ρ i (.va k (.list ds))) := Eq.trans rfl rfl
@[simp] theorem asgR_shd {i : Nat} {ds : List D} : asgR ρ i ⟨true, some 0, .list ds⟩ = .nx (setSl ρ i (.va (some 0) (.list ds))) := Eq.trans rfl rfl
@[simp] theorem ap_asg {i : Nat} : sAsg i a ρ = (a ρ).sr ρ fun v => asgR ρ i v := by
  unfold sAsg eS Res.sr asgR
  cases a ρ <;> rfl
def retR (v : BV) : SR := if flat v.d = true then .rt none v.d else .rt v.k v.d
@[simp] theorem retR_int {bb : Bool} {k : Lv} {n : Int} : retR ⟨bb, k, .int n⟩ = .rt none (.int n) := Eq.trans rfl rfl
@[simp] theorem retR_bool {bb : Bool} {k : Lv} {n : Bool} : retR ⟨bb, k, .bool n⟩ = .rt none (.bool n) := Eq.trans rfl rfl
@[simp] theorem retR_none {bb : Bool} {k : Lv} : retR ⟨bb, k, .none⟩ = .rt none .none := Eq.trans rfl rfl
@[simp] theorem retR_str {bb : Bool} {k : Lv} {x : Str} : retR ⟨bb, k, .str x⟩ = .rt none (.str x) := Eq.trans rfl rfl
@[simp] theorem retR_list {bb : Bool} {k : Lv} {ds : List D} : retR ⟨bb, k, .list ds⟩ = .rt k (.list ds) := Eq.trans rfl rfl
@[simp] theorem retR_flat {bb : Bool} {k : Lv} {d : D} (h : flat d = true) : retR ⟨bb, k, d⟩ = .rt none d := if_pos h
@[simp] theorem ap_ret : sRet a ρ = (a ρ).sr ρ retR := by
  unfold sRet eS Res.sr retR
  cases a ρ <;> rfl
@[simp] theorem ap_ex : sEx a ρ = (a ρ).sr ρ fun _ => .nx ρ := by
  unfold sEx eS Res.sr
  cases a ρ <;> rfl
/-! the slots -/
@[simp] theorem kil_nil {j : Nat} : killA j [] = [] := Eq.trans rfl rfl
@[simp] theorem kil_va {j : Nat} {k : Lv} {d : D} : killA j (.va k d :: ρ) = .va k d :: killA j ρ := Eq.trans rfl rfl
@[simp] theorem kil_em {j : Nat} : killA j (.em :: ρ) = .em :: killA j ρ := Eq.trans rfl rfl
@[simp] theorem kil_ex {j : Nat} {x : Addr} : killA j (.ex x :: ρ) = .ex x :: killA j ρ := Eq.trans rfl rfl
def noAl : Sl → Bool
  | .al _ _ => false
  | _ => true
@[simp] theorem noAl_va {k : Lv} {d : D} : noAl (.va k d) = true := Eq.trans rfl rfl
@[simp] theorem noAl_em : noAl .em = true := Eq.trans rfl rfl
@[simp] theorem kil_na {j : Nat} {x : Sl} (h : noAl x = true) : killA j (x :: ρ) = x :: killA j ρ := by
  cases x <;> first | rfl | cases h
theorem setSl_eq {i : Nat} {x : Sl} : setSl ρ i x = (killA i ρ).set i x := rfl
@[simp] theorem setSl_0 {k : Lv} {d : D} {y x : Sl} (h : ∀ j p, y ≠ .al j p) : setSl (y :: ρ) 0 x = x :: killA 0 ρ := by
  unfold setSl killA
  rfl
/-! values -/
@[simp] theorem ap_cn {d : D} : xCn d ρ = .ok ⟨false, none, d⟩ := Eq.trans rfl rfl
@[simp] theorem ap_x1 {f : BV → Res BV} : x1 f a ρ = (a ρ).bind f := Eq.trans rfl rfl
@[simp] theorem ap_x2 {f : BV → BV → Res BV} : x2 f a b ρ = (a ρ).bind fun u => (b ρ).bind fun v => f u v := Eq.trans rfl rfl
@[simp] theorem ap_tb : xTb a ρ = (a ρ).bind fun v => theB v.d := Eq.trans rfl rfl
@[simp] theorem theB_b {k : Bool} : theB (.bool k) = .ok k := Eq.trans rfl rfl
@[simp] theorem ap_tru : xTru a ρ = (a ρ).bind fun v => truth v.d := Eq.trans rfl rfl
@[simp] theorem truth_b {k : Bool} : truth (.bool k) = .ok k := Eq.trans rfl rfl
@[simp] theorem truth_n : truth .none = .ok false := Eq.trans rfl rfl
@[simp] theorem truth_i {n : Int} : truth (.int n) = .ok (n != 0) := Eq.trans rfl rfl
@[simp] theorem truth_l {ds : List D} : truth (.list ds) = .ok (!ds.isEmpty) := Eq.trans rfl rfl
@[simp] theorem truth_t {ds : List D} : truth (.tuple ds) = .ok (!ds.isEmpty) := Eq.trans rfl rfl
@[simp] theorem ap_tand : tAndX p q ρ = (p ρ).bind fun c => if c = true then q ρ else .ok false := Eq.trans rfl rfl
@[simp] theorem ap_tor : tOrX p q ρ = (p ρ).bind fun c => if c = true then .ok true else q ρ := Eq.trans rfl rfl
@[simp] theorem ap_tnot : tNotX p ρ = (p ρ).bind fun c => .ok (!c) := Eq.trans rfl rfl
@[simp] theorem ap_and : xAndV a b ρ = (a ρ).bind fun u => (theB u.d).bind fun c => if c = true then b ρ else .ok ⟨false, none, .bool false⟩ := Eq.trans rfl rfl
@[simp] theorem ap_or : xOrV a b ρ = (a ρ).bind fun u => (theB u.d).bind fun c => if c = true then .ok ⟨false, none, .bool true⟩ else b ρ := Eq.trans rfl rfl
@[simp] theorem ap_not : xNotV a ρ = (a ρ).bind fun u => (theB u.d).bind fun c => .ok ⟨false, none, .bool (!c)⟩ := Eq.trans rfl rfl
@[simp] theorem ap_ite : xIte p a b ρ = (p ρ).bind fun k => if k = true then a ρ else b ρ := Eq.trans rfl rfl
@[simp] theorem ap_chain {g g' : D → D → Res D} : x3c g g' a b c ρ = (a ρ).bind fun u => (b ρ).bind fun v => (g u.d v.d).bind fun d => (theB d).bind fun k => if k = true then (c ρ).bind fun w => (g' v.d w.d).bind fun d => .ok ⟨false, none, d⟩ else .ok ⟨false, none, .bool false⟩ := Eq.trans rfl rfl
@[simp] theorem ap_xA {fr : Bool} {f : List BV → Res BV} {xs : List (Rho → Res BV)} : xA fr f xs ρ = (evA fr xs ρ).bind f := Eq.trans rfl rfl
@[simp] theorem evA_nil {fr : Bool} : evA fr [] ρ = .ok [] := Eq.trans rfl rfl
@[simp] theorem evA_cons {fr : Bool} {xs : List (Rho → Res BV)} : evA fr (a :: xs) ρ = (a ρ).bind fun v => (Ev.settle fr v).bind fun v => (evA fr xs ρ).bind fun vs => .ok (v :: vs) := Eq.trans rfl rfl
@[simp] theorem settle_i {fr bb : Bool} {k : Lv} {n : Int} : Ev.settle fr ⟨bb, k, .int n⟩ = .ok ⟨false, none, .int n⟩ := Eq.trans rfl rfl
@[simp] theorem settle_b {fr bb : Bool} {k : Lv} {n : Bool} : Ev.settle fr ⟨bb, k, .bool n⟩ = .ok ⟨false, none, .bool n⟩ := Eq.trans rfl rfl
@[simp] theorem settle_n {fr bb : Bool} {k : Lv} : Ev.settle fr ⟨bb, k, .none⟩ = .ok ⟨false, none, .none⟩ := Eq.trans rfl rfl
@[simp] theorem settle_f {fr bb : Bool} {k : Lv} {d : D} (h : flat d = true) : Ev.settle fr ⟨bb, k, d⟩ = .ok ⟨false, none, d⟩ := if_pos h
@[simp] theorem settle_lt {k : Lv} {ds : List D} : Ev.settle true ⟨true, k, .list ds⟩ = .ok ⟨true, k, .list ds⟩ := by simp [Ev.settle, flat]
@[simp] theorem settle_lo {k : Lv} {ds : List D} : Ev.settle true ⟨false, k, .list ds⟩ = .ok ⟨false, some 0, .list ds⟩ := by simp [Ev.settle, flat]
@[simp] theorem settle_ln {ds : List D} : Ev.settle false ⟨false, none, .list ds⟩ = .ok ⟨false, none, .list ds⟩ := by simp [Ev.settle, flat]
@[simp] theorem settle_ls {k : Nat} {ds : List D} : Ev.settle false ⟨false, some k, .list ds⟩ = .ok ⟨false, some 0, .list ds⟩ := by simp [Ev.settle, flat]
@[simp] theorem settle_l0 {ds : List D} : Ev.settle false ⟨true, some 0, .list ds⟩ = .ok ⟨true, some 0, .list ds⟩ := by simp [Ev.settle, flat]
@[simp] theorem flat_i {n : Int} : flat (.int n) = true := Eq.trans rfl rfl
@[simp] theorem flat_b {n : Bool} : flat (.bool n) = true := Eq.trans rfl rfl
@[simp] theorem flat_n : flat .none = true := Eq.trans rfl rfl
@[simp] theorem flat_s {x : Str} : flat (.str x) = true := Eq.trans rfl rfl
@[simp] theorem flat_t {ds : List D} : flat (.tuple ds) = flats ds := by simp only [flat]
@[simp] theorem flat_l {ds : List D} : flat (.list ds) = false := by simp only [flat]
@[simp] theorem flats_n : flats [] = true := Eq.trans rfl rfl
@[simp] theorem flats_c {d : D} {ds : List D} : flats (d :: ds) = (flat d && flats ds) := by simp only [flats]
@[simp] theorem dispLv_n : dispLv [] = .ok none := Eq.trans rfl rfl
/-! operations -/
@[simp] theorem pl_ap {g : D → D → Res D} {u v : BV} : pl g u v = (g u.d v.d).bind fun d => .ok ⟨false, none, d⟩ := Eq.trans rfl rfl
@[simp] theorem p1_ap {g : D → Res D} {u : BV} : p1 g u = (g u.d).bind fun d => .ok ⟨false, none, d⟩ := Eq.trans rfl rfl
@[simp] theorem b1_ap {g : D → Res D} {u : BV} : b1 g [u] = (g u.d).bind fun d => .ok ⟨false, none, d⟩ := Eq.trans rfl rfl
@[simp] theorem b2_ap {g : D → D → Res D} {u v : BV} : b2 g [u, v] = (g u.d v.d).bind fun d => .ok ⟨false, none, d⟩ := Eq.trans rfl rfl
@[simp] theorem dAdd_i {i j : Int} : dAdd (.int i) (.int j) = .ok (.int (i + j)) := Eq.trans rfl rfl
@[simp] theorem dSub_i {i j : Int} : dSub (.int i) (.int j) = .ok (.int (i - j)) := Eq.trans rfl rfl
theorem dMul_i {i j : Int} (h : i.natAbs.log2 + j.natAbs.log2 < 1000000) : dMul (.int i) (.int j) = .ok (.int (i * j)) := if_pos h
theorem dDiv_i {i j : Int} (h : j ≠ 0) (h2 : j.natAbs.log2 < 9000) : dDiv (.int i) (.int j) = .ok (.int (i.fdiv j)) := if_pos ⟨h, h2⟩
@[simp] theorem dMod_i {i j : Int} (h : j ≠ 0) : dMod (.int i) (.int j) = .ok (.int (i.fmod j)) := if_pos h
@[simp] theorem dNeg_i {i : Int} : dNeg (.int i) = .ok (.int (-i)) := Eq.trans rfl rfl
@[simp] theorem dLt_i {i j : Int} : dLt (.int i) (.int j) = .ok (.bool (decide (i < j))) := Eq.trans rfl rfl
@[simp] theorem dLe_i {i j : Int} : dLe (.int i) (.int j) = .ok (.bool (decide (i ≤ j))) := Eq.trans rfl rfl
@[simp] theorem dGt_i {i j : Int} : dGt (.int i) (.int j) = .ok (.bool (decide (j < i))) := Eq.trans rfl rfl
@[simp] theorem dGe_i {i j : Int} : dGe (.int i) (.int j) = .ok (.bool (decide (j ≤ i))) := Eq.trans rfl rfl
@[simp] theorem eqv_i {i j : Int} : PyData.eqv (.int i) (.int j) = decide (i = j) := by
  simp only [PyData.eqv]
  by_cases h : i = j <;> simp [h]
@[simp] theorem dEq_i {i j : Int} : dEq (.int i) (.int j) = .ok (.bool (decide (i = j))) := by
  unfold dEq
  rw [if_pos ⟨by rfl, by rfl⟩, eqv_i]
@[simp] theorem dNe_i {i j : Int} : dNe (.int i) (.int j) = .ok (.bool (!decide (i = j))) := by
  unfold dNe
  rw [if_pos ⟨by rfl, by rfl⟩, eqv_i]
@[simp] theorem dIs_n {d : D} : dIs d .none = .ok (.bool (isNon d)) := Eq.trans rfl rfl
@[simp] theorem dIsNot_n {d : D} : dIsNot d .none = .ok (.bool (!isNon d)) := Eq.trans rfl rfl
@[simp] theorem isNon_n : isNon .none = true := Eq.trans rfl rfl
@[simp] theorem isNon_t {ds : List D} : isNon (.tuple ds) = false := Eq.trans rfl rfl
@[simp] theorem isNon_i {n : Int} : isNon (.int n) = false := Eq.trans rfl rfl
@[simp] theorem isNon_l {ds : List D} : isNon (.list ds) = false := Eq.trans rfl rfl
@[simp] theorem dGcd_i {i j : Int} : dGcd (.int i) (.int j) = .ok (.int ((Nat.gcd i.natAbs j.natAbs : Nat) : Int)) := Eq.trans rfl rfl
@[simp] theorem dLen_l {ds : List D} : dLen (.list ds) = .ok (.int (ds.length : Nat)) := Eq.trans rfl rfl
@[simp] theorem dLen_t {ds : List D} : dLen (.tuple ds) = .ok (.int (ds.length : Nat)) := Eq.trans rfl rfl
@[simp] theorem dInt_i {i : Int} : dInt (.int i) = .ok (.int i) := Eq.trans rfl rfl
@[simp] theorem dInt_b {b : Bool} : dInt (.bool b) = .ok (.int (if b then 1 else 0)) := Eq.trans rfl rfl
@[simp] theorem dAbs_i {i : Int} : dAbs (.int i) = .ok (.int i.natAbs) := by
  show Res.ok (PyData.int (if i < 0 then -i else i)) = _
  congr 2
  split <;> omega
@[simp] theorem dBits_i {i : Int} : dBits (.int i) = .ok (.int (Builtin.Int.intBits i : Nat)) := Eq.trans rfl rfl
@[simp] theorem xCall_ap {φ : List D → Res (Lv × D)} {n : Nat} {vs : List BV} (h : vs.length = n) : xCall φ n vs = (φ (dsB vs)).bind fun r => if flat r.2 = true then .ok ⟨false, none, r.2⟩ else if r.1 = none then .ok ⟨false, none, r.2⟩ else if (vs.all fun v => v.k == some 0 || flat v.d) = true then .ok ⟨false, r.1, r.2⟩ else .er := if_pos h
@[simp] theorem dsB_n : dsB [] = [] := Eq.trans rfl rfl
@[simp] theorem dsB_c {v : BV} {vs : List BV} : dsB (v :: vs) = v.d :: dsB vs := Eq.trans rfl rfl
theorem kit_tt : kitB "tuple" "tuple" = some true := by decide +kernel
@[simp] theorem dIsi_tup {ds : List D} : dIsi "tuple" (.tuple ds) = .ok (.bool true) := by
  unfold dIsi
  show (match kitB "tuple" "tuple" with | some b => Res.ok (PyData.bool b) | none => .er) = _
  rw [kit_tt]
theorem kit_ib : kitB "int" "bool" = some false := by decide +kernel
@[simp] theorem dIsi_bi {i : Int} : dIsi "bool" (.int i) = .ok (.bool false) := by
  unfold dIsi
  show (match kitB "int" "bool" with | some b => Res.ok (PyData.bool b) | none => .er) = _
  rw [kit_ib]
@[simp] theorem ixD_l {b2 : Bool} {k2 : Lv} {ds : List D} {i : Int} {d : D} {bb : Bool} {k : Lv} (h : atI ds i = some d) : ixD ⟨bb, k, .list ds⟩ ⟨b2, k2, .int i⟩ = .ok (pick ⟨bb, k, .list ds⟩ (pd k) d) := by
  unfold ixD
  dsimp only
  rw [h]
@[simp] theorem ixD_t {b2 : Bool} {k2 : Lv} {ds : List D} {i : Int} {d : D} {bb : Bool} {k : Lv} (h : atI ds i = some d) : ixD ⟨bb, k, .tuple ds⟩ ⟨b2, k2, .int i⟩ = .ok (pick ⟨bb, k, .tuple ds⟩ k d) := by
  unfold ixD
  dsimp only
  rw [h]
@[simp] theorem pick_flat {u : BV} {k : Lv} {d : D} (h : flat d = true) : pick u k d = ⟨false, none, d⟩ := if_pos h
@[simp] theorem pick_l {u : BV} {k : Lv} {ds : List D} : pick u k (.list ds) = ⟨u.b, k, .list ds⟩ := by simp [pick]
@[simp] theorem xVa_0 {k : Lv} {d : D} : xVa 0 (.va k d :: ρ) = .ok ⟨true, k, d⟩ := Eq.trans rfl rfl
@[simp] theorem xVa_1 {s0 : Sl} {k : Lv} {d : D} : xVa 1 (s0 :: .va k d :: ρ) = .ok ⟨true, k, d⟩ := Eq.trans rfl rfl
@[simp] theorem xVa_2 {s0 s1 : Sl} {k : Lv} {d : D} : xVa 2 (s0 :: s1 :: .va k d :: ρ) = .ok ⟨true, k, d⟩ := Eq.trans rfl rfl
@[simp] theorem xVa_3 {s0 s1 s2 : Sl} {k : Lv} {d : D} : xVa 3 (s0 :: s1 :: s2 :: .va k d :: ρ) = .ok ⟨true, k, d⟩ := Eq.trans rfl rfl
@[simp] theorem xVa_4 {s0 s1 s2 s3 : Sl} {k : Lv} {d : D} : xVa 4 (s0 :: s1 :: s2 :: s3 :: .va k d :: ρ) = .ok ⟨true, k, d⟩ := Eq.trans rfl rfl
@[simp] theorem xVa_5 {s0 s1 s2 s3 s4 : Sl} {k : Lv} {d : D} : xVa 5 (s0 :: s1 :: s2 :: s3 :: s4 :: .va k d :: ρ) = .ok ⟨true, k, d⟩ := Eq.trans rfl rfl
@[simp] theorem xVa_6 {s0 s1 s2 s3 s4 s5 : Sl} {k : Lv} {d : D} : xVa 6 (s0 :: s1 :: s2 :: s3 :: s4 :: s5 :: .va k d :: ρ) = .ok ⟨true, k, d⟩ := Eq.trans rfl rfl
@[simp] theorem xVa_7 {s0 s1 s2 s3 s4 s5 s6 : Sl} {k : Lv} {d : D} : xVa 7 (s0 :: s1 :: s2 :: s3 :: s4 :: s5 :: s6 :: .va k d :: ρ) = .ok ⟨true, k, d⟩ := Eq.trans rfl rfl
@[simp] theorem xVa_8 {s0 s1 s2 s3 s4 s5 s6 s7 : Sl} {k : Lv} {d : D} : xVa 8 (s0 :: s1 :: s2 :: s3 :: s4 :: s5 :: s6 :: s7 :: .va k d :: ρ) = .ok ⟨true, k, d⟩ := Eq.trans rfl rfl
@[simp] theorem xVa_9 {s0 s1 s2 s3 s4 s5 s6 s7 s8 : Sl} {k : Lv} {d : D} : xVa 9 (s0 :: s1 :: s2 :: s3 :: s4 :: s5 :: s6 :: s7 :: s8 :: .va k d :: ρ) = .ok ⟨true, k, d⟩ := Eq.trans rfl rfl
@[simp] theorem xVa_10 {s0 s1 s2 s3 s4 s5 s6 s7 s8 s9 : Sl} {k : Lv} {d : D} : xVa 10 (s0 :: s1 :: s2 :: s3 :: s4 :: s5 :: s6 :: s7 :: s8 :: s9 :: .va k d :: ρ) = .ok ⟨true, k, d⟩ := Eq.trans rfl rfl
@[simp] theorem xVa_11 {s0 s1 s2 s3 s4 s5 s6 s7 s8 s9 s10 : Sl} {k : Lv} {d : D} : xVa 11 (s0 :: s1 :: s2 :: s3 :: s4 :: s5 :: s6 :: s7 :: s8 :: s9 :: s10 :: .va k d :: ρ) = .ok ⟨true, k, d⟩ := Eq.trans rfl rfl
@[simp] theorem xVa_12 {s0 s1 s2 s3 s4 s5 s6 s7 s8 s9 s10 s11 : Sl} {k : Lv} {d : D} : xVa 12 (s0 :: s1 :: s2 :: s3 :: s4 :: s5 :: s6 :: s7 :: s8 :: s9 :: s10 :: s11 :: .va k d :: ρ) = .ok ⟨true, k, d⟩ := Eq.trans rfl rfl
@[simp] theorem xVa_13 {s0 s1 s2 s3 s4 s5 s6 s7 s8 s9 s10 s11 s12 : Sl} {k : Lv} {d : D} : xVa 13 (s0 :: s1 :: s2 :: s3 :: s4 :: s5 :: s6 :: s7 :: s8 :: s9 :: s10 :: s11 :: s12 :: .va k d :: ρ) = .ok ⟨true, k, d⟩ := Eq.trans rfl rfl
@[simp] theorem xVa_14 {s0 s1 s2 s3 s4 s5 s6 s7 s8 s9 s10 s11 s12 s13 : Sl} {k : Lv} {d : D} : xVa 14 (s0 :: s1 :: s2 :: s3 :: s4 :: s5 :: s6 :: s7 :: s8 :: s9 :: s10 :: s11 :: s12 :: s13 :: .va k d :: ρ) = .ok ⟨true, k, d⟩ := Eq.trans rfl rfl
@[simp] theorem xVa_15 {s0 s1 s2 s3 s4 s5 s6 s7 s8 s9 s10 s11 s12 s13 s14 : Sl} {k : Lv} {d : D} : xVa 15 (s0 :: s1 :: s2 :: s3 :: s4 :: s5 :: s6 :: s7 :: s8 :: s9 :: s10 :: s11 :: s12 :: s13 :: s14 :: .va k d :: ρ) = .ok ⟨true, k, d⟩ := Eq.trans rfl rfl
@[simp] theorem xVa_16 {s0 s1 s2 s3 s4 s5 s6 s7 s8 s9 s10 s11 s12 s13 s14 s15 : Sl} {k : Lv} {d : D} : xVa 16 (s0 :: s1 :: s2 :: s3 :: s4 :: s5 :: s6 :: s7 :: s8 :: s9 :: s10 :: s11 :: s12 :: s13 :: s14 :: s15 :: .va k d :: ρ) = .ok ⟨true, k, d⟩ := Eq.trans rfl rfl
@[simp] theorem xVa_17 {s0 s1 s2 s3 s4 s5 s6 s7 s8 s9 s10 s11 s12 s13 s14 s15 s16 : Sl} {k : Lv} {d : D} : xVa 17 (s0 :: s1 :: s2 :: s3 :: s4 :: s5 :: s6 :: s7 :: s8 :: s9 :: s10 :: s11 :: s12 :: s13 :: s14 :: s15 :: s16 :: .va k d :: ρ) = .ok ⟨true, k, d⟩ := Eq.trans rfl rfl
@[simp] theorem xVa_18 {s0 s1 s2 s3 s4 s5 s6 s7 s8 s9 s10 s11 s12 s13 s14 s15 s16 s17 : Sl} {k : Lv} {d : D} : xVa 18 (s0 :: s1 :: s2 :: s3 :: s4 :: s5 :: s6 :: s7 :: s8 :: s9 :: s10 :: s11 :: s12 :: s13 :: s14 :: s15 :: s16 :: s17 :: .va k d :: ρ) = .ok ⟨true, k, d⟩ := Eq.trans rfl rfl
@[simp] theorem xVa_19 {s0 s1 s2 s3 s4 s5 s6 s7 s8 s9 s10 s11 s12 s13 s14 s15 s16 s17 s18 : Sl} {k : Lv} {d : D} : xVa 19 (s0 :: s1 :: s2 :: s3 :: s4 :: s5 :: s6 :: s7 :: s8 :: s9 :: s10 :: s11 :: s12 :: s13 :: s14 :: s15 :: s16 :: s17 :: s18 :: .va k d :: ρ) = .ok ⟨true, k, d⟩ := Eq.trans rfl rfl
@[simp] theorem xVa_20 {s0 s1 s2 s3 s4 s5 s6 s7 s8 s9 s10 s11 s12 s13 s14 s15 s16 s17 s18 s19 : Sl} {k : Lv} {d : D} : xVa 20 (s0 :: s1 :: s2 :: s3 :: s4 :: s5 :: s6 :: s7 :: s8 :: s9 :: s10 :: s11 :: s12 :: s13 :: s14 :: s15 :: s16 :: s17 :: s18 :: s19 :: .va k d :: ρ) = .ok ⟨true, k, d⟩ := Eq.trans rfl rfl
@[simp] theorem xVa_21 {s0 s1 s2 s3 s4 s5 s6 s7 s8 s9 s10 s11 s12 s13 s14 s15 s16 s17 s18 s19 s20 : Sl} {k : Lv} {d : D} : xVa 21 (s0 :: s1 :: s2 :: s3 :: s4 :: s5 :: s6 :: s7 :: s8 :: s9 :: s10 :: s11 :: s12 :: s13 :: s14 :: s15 :: s16 :: s17 :: s18 :: s19 :: s20 :: .va k d :: ρ) = .ok ⟨true, k, d⟩ := Eq.trans rfl rfl
@[simp] theorem xVa_22 {s0 s1 s2 s3 s4 s5 s6 s7 s8 s9 s10 s11 s12 s13 s14 s15 s16 s17 s18 s19 s20 s21 : Sl} {k : Lv} {d : D} : xVa 22 (s0 :: s1 :: s2 :: s3 :: s4 :: s5 :: s6 :: s7 :: s8 :: s9 :: s10 :: s11 :: s12 :: s13 :: s14 :: s15 :: s16 :: s17 :: s18 :: s19 :: s20 :: s21 :: .va k d :: ρ) = .ok ⟨true, k, d⟩ := Eq.trans rfl rfl
@[simp] theorem xVa_23 {s0 s1 s2 s3 s4 s5 s6 s7 s8 s9 s10 s11 s12 s13 s14 s15 s16 s17 s18 s19 s20 s21 s22 : Sl} {k : Lv} {d : D} : xVa 23 (s0 :: s1 :: s2 :: s3 :: s4 :: s5 :: s6 :: s7 :: s8 :: s9 :: s10 :: s11 :: s12 :: s13 :: s14 :: s15 :: s16 :: s17 :: s18 :: s19 :: s20 :: s21 :: s22 :: .va k d :: ρ) = .ok ⟨true, k, d⟩ := Eq.trans rfl rfl
theorem xVa_ap {i : Nat} {k : Lv} {d : D} (h : ρ[i]? = some (.va k d)) : xVa i ρ = .ok ⟨true, k, d⟩ := by
  unfold xVa lookR
  rw [h]

/-! loops -/
theorem forL_nil {bd : Rho → BV → Res Rho} : forL bd s [] ρ = .nx ρ := rfl
theorem forL_nx {bd : Rho → BV → Res Rho} {v : BV} {vs : List BV} {ρ1 ρ2 : Rho} (h1 : bd ρ v = .ok ρ1) (h2 : s ρ1 = .nx ρ2) : forL bd s (v :: vs) ρ = forL bd s vs ρ2 := by
  rw [forL, h1]
  dsimp only
  rw [h2]
theorem forL_ct {bd : Rho → BV → Res Rho} {v : BV} {vs : List BV} {ρ1 ρ2 : Rho} (h1 : bd ρ v = .ok ρ1) (h2 : s ρ1 = .ct ρ2) : forL bd s (v :: vs) ρ = forL bd s vs ρ2 := by
  rw [forL, h1]
  dsimp only
  rw [h2]
theorem forL_rt {bd : Rho → BV → Res Rho} {v : BV} {vs : List BV} {ρ1 : Rho} {k : Lv} {d : D} (h1 : bd ρ v = .ok ρ1) (h2 : s ρ1 = .rt k d) : forL bd s (v :: vs) ρ = .rt k d := by
  rw [forL, h1]
  dsimp only
  rw [h2]
theorem forL_bk {bd : Rho → BV → Res Rho} {v : BV} {vs : List BV} {ρ1 ρ2 : Rho} (h1 : bd ρ v = .ok ρ1) (h2 : s ρ1 = .bk ρ2) : forL bd s (v :: vs) ρ = .bk ρ2 := by
  rw [forL, h1]
  dsimp only
  rw [h2]
theorem sFor_of {xi : Rho → Res (List BV)} {bd : Rho → BV → Res Rho} {vs : List BV} (h : xi ρ = .ok vs) : sFor xi bd s ρ = (forL bd s vs ρ).unbk := by
  unfold sFor
  rw [h]
@[simp] theorem unbk_nx {ρ : Rho} : (SR.nx ρ).unbk = .nx ρ := Eq.trans rfl rfl
@[simp] theorem unbk_bk {ρ : Rho} : (SR.bk ρ).unbk = .nx ρ := Eq.trans rfl rfl
@[simp] theorem unbk_rt {k : Lv} {d : D} : (SR.rt k d).unbk = .rt k d := Eq.trans rfl rfl
theorem xIt_of {f : List BV → Res (List BV)} {xs : List (Rho → Res BV)} : xItA f xs ρ = (evA true xs ρ).bind f := rfl
theorem xItV_of {cl : Bool} : xItV cl a ρ = (a ρ).bind fun v => (Ev.settle true v).bind (itemsV cl) := rfl
theorem intItems_len {lo c : Int} {n : Nat} : (intItems lo c n).length = n := by simp [intItems]
theorem range1_i {j : Int} {bb : Bool} {k : Lv} (h : inLine j = true) : rangeV1 [⟨bb, k, .int j⟩] = .ok (intItems 0 1 j.toNat) := if_pos h
theorem items_shd {cl bb : Bool} {ds : List D} : itemsV cl ⟨bb, some 0, .list ds⟩ = .ok (ds.map itm) := by
  unfold itemsV
  simp
theorem itm_flat {d : D} (h : flat d = true) : itm d = ⟨false, none, d⟩ := by unfold itm; rw [if_pos h]

/-! bounds -/
def Bd (n : Nat) (x : Int) : Prop := x.natAbs < 2 ^ n
theorem Bd.mono {n m : Nat} {x : Int} (h : Bd n x) (l : n ≤ m) : Bd m x := Nat.lt_of_lt_of_le h (Nat.pow_le_pow_right (by omega) l)
theorem Bd.neg {n : Nat} {x : Int} (h : Bd n x) : Bd n (-x) := by unfold Bd at *; rw [Int.natAbs_neg]; exact h
theorem Bd.add {n : Nat} {x y : Int} (h : Bd n x) (h' : Bd n y) : Bd (n + 1) (x + y) := by
  unfold Bd at *
  have := Int.natAbs_add_le x y
  rw [Nat.pow_succ]
  omega
theorem Bd.sub {n : Nat} {x y : Int} (h : Bd n x) (h' : Bd n y) : Bd (n + 1) (x - y) := by
  rw [Int.sub_eq_add_neg]
  exact h.add h'.neg
theorem Bd.mul {n m : Nat} {x y : Int} (h : Bd n x) (h' : Bd m y) : Bd (n + m) (x * y) := by
  unfold Bd at *
  rw [Int.natAbs_mul, Nat.pow_add]
  exact Nat.mul_lt_mul'' h h'
theorem Bd.log {n : Nat} {x : Int} (h : Bd n x) : x.natAbs.log2 ≤ n := by
  by_cases h0 : x.natAbs = 0
  · rw [h0]; exact Nat.zero_le _
  · exact Nat.le_of_lt ((Nat.log2_lt h0).mpr h)
theorem Bd.le {n : Nat} {x y : Int} (h : Bd n y) (l : x.natAbs ≤ y.natAbs) : Bd n x := Nat.lt_of_le_of_lt l h
theorem Bd.of {n : Nat} {x : Int} {m : Nat} (h : x.natAbs ≤ m) (l : m < 2 ^ n) : Bd n x := Nat.lt_of_le_of_lt h l
theorem dMul_b {n m : Nat} {i j : Int} (h : Bd n i) (h' : Bd m j) (l : n + m < 1000000) : dMul (.int i) (.int j) = .ok (.int (i * j)) := dMul_i (by have := h.log; have := h'.log; omega)
theorem dDiv_b {n : Nat} {i j : Int} (h0 : j ≠ 0) (h : Bd n j) (l : n < 9000) : dDiv (.int i) (.int j) = .ok (.int (i.fdiv j)) := dDiv_i h0 (by have := h.log; omega)
/-! pairs -/
def pr (a b : Int) : D := .tuple [.int a, .int b]
theorem shaped_pr {a b : Int} : SeqAt.shaped (pr a b) = true := Eq.trans rfl rfl
theorem dNe_self {d : D} (h : SeqAt.shaped d = true) : dNe d d = .ok (.bool false) := by
  unfold dNe
  rw [if_pos ⟨h, h⟩, SeqAt.eqv_refl d (SeqAt.canLay_of_shaped h)]
  rfl
theorem dEq_self {d : D} (h : SeqAt.shaped d = true) : dEq d d = .ok (.bool true) := by
  unfold dEq
  rw [if_pos ⟨h, h⟩, SeqAt.eqv_refl d (SeqAt.canLay_of_shaped h)]
@[simp] theorem isNon_pr {a b : Int} : isNon (pr a b) = false := Eq.trans rfl rfl
@[simp] theorem flat_pr {a b : Int} : flat (pr a b) = true := Eq.trans rfl rfl
@[simp] theorem ix_pr0 {a b : Int} {bb : Bool} {k : Lv} : ixD ⟨bb, k, pr a b⟩ ⟨false, none, .int 0⟩ = .ok ⟨false, none, .int a⟩ := Eq.trans rfl rfl
@[simp] theorem ix_pr1 {a b : Int} {bb : Bool} {k : Lv} : ixD ⟨bb, k, pr a b⟩ ⟨false, none, .int 1⟩ = .ok ⟨false, none, .int b⟩ := Eq.trans rfl rfl
theorem mk_pr {a b : Int} : mkTup [⟨false, none, .int a⟩, ⟨false, none, .int b⟩] = .ok ⟨false, none, pr a b⟩ := Eq.trans rfl rfl
@[simp] theorem mk_prs {a b : Int} : mkTup [⟨false, none, .int a⟩, ⟨false, none, .int b⟩] = .ok ⟨false, none, pr a b⟩ := mk_pr
@[simp] theorem retR_pr {bb : Bool} {k : Lv} {a b : Int} : retR ⟨bb, k, pr a b⟩ = .rt none (pr a b) := Eq.trans rfl rfl
theorem ixN_in {n : Nat} {i : Int} (h0 : 0 ≤ i) (h : i < n) : ixN n i = some i.toNat := by
  unfold ixN
  rw [if_pos h0, if_pos h]
theorem atI_nat {α : Type} {xs : List α} {i : Nat} {x : α} (h : xs[i]? = some x) : atI xs (i : Int) = some x := by
  have l := (List.getElem?_eq_some_iff.mp h).1
  unfold atI
  rw [ixN_in (by omega) (by omega)]
  exact h
theorem atI_map {α β : Type} {f : α → β} {xs : List α} {i : Int} {x : α} (h0 : 0 ≤ i) (h : xs[i.toNat]? = some x) : atI (xs.map f) i = some (f x) := by
  have e : i = ((i.toNat : Nat) : Int) := by omega
  rw [e]
  exact atI_nat (by rw [List.getElem?_map, h]; rfl)
theorem kil_all {j : Nat} {ρ : Rho} (h : ρ.all noAl = true) : killA j ρ = ρ := by
  induction ρ with
  | nil => rfl
  | cons x r ih =>
    simp only [List.all_cons, Bool.and_eq_true] at h
    rw [kil_na h.1, ih h.2]
theorem setSl_na {i : Nat} {x : Sl} {ρ : Rho} (h : ρ.all noAl = true) : setSl ρ i x = ρ.set i x := by rw [setSl_eq, kil_all h]
theorem asg_step {i : Nat} {bb : Bool} {k : Lv} {d : D} (h : a ρ = .ok ⟨bb, k, d⟩) (hf : flat d = true) (hn : ρ.all noAl = true) : sAsg i a ρ = .nx (ρ.set i (.va none d)) := by
  rw [ap_asg, h, sr_ok, asgR_flat' hf, setSl_na hn]
theorem if_tt {p : Rho → Res Bool} {s t : Rho → SR} (h : p ρ = .ok true) : sIf p s t ρ = s ρ := by rw [ap_if, h]; rfl
theorem if_ff {p : Rho → Res Bool} {s t : Rho → SR} (h : p ρ = .ok false) : sIf p s t ρ = t ρ := by rw [ap_if, h]; rfl
theorem not_tt {p : Rho → Res Bool} {b : Bool} (h : p ρ = .ok b) : tNotX p ρ = .ok (!b) := by rw [ap_tnot, h]; rfl
theorem or_ff {p q : Rho → Res Bool} (h : p ρ = .ok false) : tOrX p q ρ = q ρ := by rw [ap_tor, h]; rfl
theorem or_tt {p q : Rho → Res Bool} (h : p ρ = .ok true) : tOrX p q ρ = .ok true := by rw [ap_tor, h]; rfl
theorem and_tt {p q : Rho → Res Bool} (h : p ρ = .ok true) : tAndX p q ρ = q ρ := by rw [ap_tand, h]; rfl
theorem and_ff {p q : Rho → Res Bool} (h : p ρ = .ok false) : tAndX p q ρ = .ok false := by rw [ap_tand, h]; rfl
theorem tru_b {e : Rho → Res BV} {bb : Bool} {k : Lv} {b : Bool} (h : e ρ = .ok ⟨bb, k, .bool b⟩) : xTru e ρ = .ok b := by rw [ap_tru, h]; rfl
theorem unp2 {i j : Nat} {bb : Bool} {k : Lv} {x y : Int} (h : a ρ = .ok ⟨bb, k, pr x y⟩) (hn : ρ.all noAl = true) : sUnp (bdT [i, j]) a ρ = .nx ((ρ.set i (.va none (.int x))).set j (.va none (.int y))) := by
  unfold sUnp eS
  rw [h]
  have e : Ev.settle true ⟨bb, k, pr x y⟩ = .ok ⟨false, none, pr x y⟩ := settle_f flat_pr
  dsimp only
  rw [e]
  dsimp only
  have hn2 : (ρ.set i (.va none (.int x))).all noAl = true := by
    rw [List.all_eq_true] at hn ⊢
    intro z hz
    rcases List.mem_or_eq_of_mem_set hz with hz | hz
    · exact hn z hz
    · rw [hz]; rfl
  have e2 : bdT [i, j] ρ ⟨false, none, pr x y⟩ = .ok (setSl (setSl ρ i (.va none (.int x))) j (.va none (.int y))) := Eq.trans rfl rfl
  rw [e2, setSl_na hn, setSl_na hn2]
  rfl
/-! calls -/
theorem call_ok {φ : List D → Res (Lv × D)} {n : Nat} {xs : List (Rho → Res BV)} {vs : List BV} {d : D} (h1 : evA true xs ρ = .ok vs) (hl : vs.length = n) (h2 : φ (dsB vs) = .ok (none, d)) : xA true (xCall φ n) xs ρ = .ok ⟨false, none, d⟩ := by
  rw [ap_xA, h1, Res.bind_ok, xCall_ap hl, h2, Res.bind_ok]
  dsimp only
  split
  · rfl
  · rfl
theorem call_rz {φ : List D → Res (Lv × D)} {n : Nat} {xs : List (Rho → Res BV)} {vs : List BV} {c : Str} (h1 : evA true xs ρ = .ok vs) (hl : vs.length = n) (h2 : φ (dsB vs) = .rz c) : xA true (xCall φ n) xs ρ = .rz c := by
  rw [ap_xA, h1, Res.bind_ok, xCall_ap hl, h2]
  rfl
/-! steps -/
theorem sSeq_nx {ρ' : Rho} (h : s ρ = .nx ρ') : sSeq s t ρ = t ρ' := by rw [ap_seq, h]; rfl
theorem sSeq_rt {k : Lv} {d : D} (h : s ρ = .rt k d) : sSeq s t ρ = .rt k d := by rw [ap_seq, h]; rfl
theorem runB_rt {n m : Nat} {ds : List D} {k : Lv} {d : D} (h : ds.length = m) (e : s (startR n ds) = .rt k d) : runB s n m ds = .ok (k, d) := by
  unfold runB
  rw [if_pos h, e]
theorem runB_rz {n m : Nat} {ds : List D} {c : Str} {ρ' : Rho} (h : ds.length = m) (e : s (startR n ds) = .rz c ρ') : runB s n m ds = .rz c := by
  unfold runB
  rw [if_pos h, e]
theorem sFor_rt {xi : Rho → Res (List BV)} {bd : Rho → BV → Res Rho} {vs : List BV} {k : Lv} {d : D} (h : xi ρ = .ok vs) (e : forL bd s vs ρ = .rt k d) : sFor xi bd s ρ = .rt k d := by
  rw [sFor_of h, e]
  rfl
theorem sFor_nx {xi : Rho → Res (List BV)} {bd : Rho → BV → Res Rho} {vs : List BV} {ρ' : Rho} (h : xi ρ = .ok vs) (e : forL bd s vs ρ = .nx ρ') : sFor xi bd s ρ = .nx ρ' := by
  rw [sFor_of h, e]
  rfl
theorem sFor_bk {xi : Rho → Res (List BV)} {bd : Rho → BV → Res Rho} {vs : List BV} {ρ' : Rho} (h : xi ρ = .ok vs) (e : forL bd s vs ρ = .bk ρ') : sFor xi bd s ρ = .nx ρ' := by
  rw [sFor_of h, e]
  rfl
/-! append to a slot's list -/
def appR (ρ : Rho) (i : Nat) (k : Lv) (ds : List D) (v : BV) : SR := match appV ρ (i, []) v with
  | .ok ρ' => .nx ρ'
  | _ => .er
theorem app_of {i : Nat} {k : Lv} {ds : List D} (h : ρ[i]? = some (.va k (.list ds))) : sApp (xPl i) a ρ = (a ρ).sr ρ fun v => appR ρ i k ds v := by
  have e1 : xPl i ρ = .ok (i, []) := by unfold xPl plcR; rw [h]
  have e2 : atP ρ (i, []) = .ok (k, .list ds) := by unfold atP; rw [h]; rfl
  have e3 : isL ρ (i, []) = true := by unfold isL; rw [e2]
  unfold sApp
  rw [e1]
  dsimp only
  rw [if_pos e3]
  unfold Res.sr appR
  cases a ρ <;> rfl
theorem appR_flat {i : Nat} {k : Lv} {ds : List D} {v : BV} (h : ρ[i]? = some (.va k (.list ds))) (hf : flat v.d = true) (hk : k ≠ some 0) (hl : ds.length < sizeLine) : appR ρ i k ds v = .nx (setSl ρ i (.va k (.list (ds ++ [v.d])))) := by
  have e2 : atP ρ (i, []) = .ok (k, .list ds) := by unfold atP; rw [h]; rfl
  have e4 : Ev.settle false v = .ok ⟨false, none, v.d⟩ := if_pos hf
  have e5 : takeLv true k ds ⟨false, none, v.d⟩ = .ok k := by
    unfold takeLv
    rw [if_neg hk]
    exact if_pos hf
  unfold appR appV
  rw [e4, Res.bind_ok, e2, Res.bind_ok]
  dsimp only
  rw [if_pos hl]
  show (match (takeLv true k ds ⟨false, none, v.d⟩).bind _ with | .ok ρ' => SR.nx ρ' | _ => SR.er) = _
  rw [e5, Res.bind_ok]
  dsimp only
  rw [chg_va h]
  rfl
@[simp] theorem ap_app_0 {k : Lv} {ds : List D} : sApp (xPl 0) a (.va k (.list ds) :: ρ) = (a (.va k (.list ds) :: ρ)).sr (.va k (.list ds) :: ρ) fun v => appR (.va k (.list ds) :: ρ) 0 k ds v := app_of rfl
@[simp] theorem appR_0 {k : Lv} {ds : List D} {v : BV} (hf : flat v.d = true) (hk : k ≠ some 0) (hl : ds.length < sizeLine) : appR (.va k (.list ds) :: ρ) 0 k ds v = .nx (setSl (.va k (.list ds) :: ρ) 0 (.va k (.list (ds ++ [v.d])))) := appR_flat rfl hf hk hl
@[simp] theorem ap_app_1 {s0 : Sl} {k : Lv} {ds : List D} : sApp (xPl 1) a (s0 :: .va k (.list ds) :: ρ) = (a (s0 :: .va k (.list ds) :: ρ)).sr (s0 :: .va k (.list ds) :: ρ) fun v => appR (s0 :: .va k (.list ds) :: ρ) 1 k ds v := app_of rfl
@[simp] theorem appR_1 {s0 : Sl} {k : Lv} {ds : List D} {v : BV} (hf : flat v.d = true) (hk : k ≠ some 0) (hl : ds.length < sizeLine) : appR (s0 :: .va k (.list ds) :: ρ) 1 k ds v = .nx (setSl (s0 :: .va k (.list ds) :: ρ) 1 (.va k (.list (ds ++ [v.d])))) := appR_flat rfl hf hk hl
@[simp] theorem ap_app_2 {s0 s1 : Sl} {k : Lv} {ds : List D} : sApp (xPl 2) a (s0 :: s1 :: .va k (.list ds) :: ρ) = (a (s0 :: s1 :: .va k (.list ds) :: ρ)).sr (s0 :: s1 :: .va k (.list ds) :: ρ) fun v => appR (s0 :: s1 :: .va k (.list ds) :: ρ) 2 k ds v := app_of rfl
@[simp] theorem appR_2 {s0 s1 : Sl} {k : Lv} {ds : List D} {v : BV} (hf : flat v.d = true) (hk : k ≠ some 0) (hl : ds.length < sizeLine) : appR (s0 :: s1 :: .va k (.list ds) :: ρ) 2 k ds v = .nx (setSl (s0 :: s1 :: .va k (.list ds) :: ρ) 2 (.va k (.list (ds ++ [v.d])))) := appR_flat rfl hf hk hl
@[simp] theorem ap_app_3 {s0 s1 s2 : Sl} {k : Lv} {ds : List D} : sApp (xPl 3) a (s0 :: s1 :: s2 :: .va k (.list ds) :: ρ) = (a (s0 :: s1 :: s2 :: .va k (.list ds) :: ρ)).sr (s0 :: s1 :: s2 :: .va k (.list ds) :: ρ) fun v => appR (s0 :: s1 :: s2 :: .va k (.list ds) :: ρ) 3 k ds v := app_of rfl
@[simp] theorem appR_3 {s0 s1 s2 : Sl} {k : Lv} {ds : List D} {v : BV} (hf : flat v.d = true) (hk : k ≠ some 0) (hl : ds.length < sizeLine) : appR (s0 :: s1 :: s2 :: .va k (.list ds) :: ρ) 3 k ds v = .nx (setSl (s0 :: s1 :: s2 :: .va k (.list ds) :: ρ) 3 (.va k (.list (ds ++ [v.d])))) := appR_flat rfl hf hk hl
@[simp] theorem ap_app_4 {s0 s1 s2 s3 : Sl} {k : Lv} {ds : List D} : sApp (xPl 4) a (s0 :: s1 :: s2 :: s3 :: .va k (.list ds) :: ρ) = (a (s0 :: s1 :: s2 :: s3 :: .va k (.list ds) :: ρ)).sr (s0 :: s1 :: s2 :: s3 :: .va k (.list ds) :: ρ) fun v => appR (s0 :: s1 :: s2 :: s3 :: .va k (.list ds) :: ρ) 4 k ds v := app_of rfl
@[simp] theorem appR_4 {s0 s1 s2 s3 : Sl} {k : Lv} {ds : List D} {v : BV} (hf : flat v.d = true) (hk : k ≠ some 0) (hl : ds.length < sizeLine) : appR (s0 :: s1 :: s2 :: s3 :: .va k (.list ds) :: ρ) 4 k ds v = .nx (setSl (s0 :: s1 :: s2 :: s3 :: .va k (.list ds) :: ρ) 4 (.va k (.list (ds ++ [v.d])))) := appR_flat rfl hf hk hl
@[simp] theorem ap_app_5 {s0 s1 s2 s3 s4 : Sl} {k : Lv} {ds : List D} : sApp (xPl 5) a (s0 :: s1 :: s2 :: s3 :: s4 :: .va k (.list ds) :: ρ) = (a (s0 :: s1 :: s2 :: s3 :: s4 :: .va k (.list ds) :: ρ)).sr (s0 :: s1 :: s2 :: s3 :: s4 :: .va k (.list ds) :: ρ) fun v => appR (s0 :: s1 :: s2 :: s3 :: s4 :: .va k (.list ds) :: ρ) 5 k ds v := app_of rfl
@[simp] theorem appR_5 {s0 s1 s2 s3 s4 : Sl} {k : Lv} {ds : List D} {v : BV} (hf : flat v.d = true) (hk : k ≠ some 0) (hl : ds.length < sizeLine) : appR (s0 :: s1 :: s2 :: s3 :: s4 :: .va k (.list ds) :: ρ) 5 k ds v = .nx (setSl (s0 :: s1 :: s2 :: s3 :: s4 :: .va k (.list ds) :: ρ) 5 (.va k (.list (ds ++ [v.d])))) := appR_flat rfl hf hk hl
@[simp] theorem ap_app_6 {s0 s1 s2 s3 s4 s5 : Sl} {k : Lv} {ds : List D} : sApp (xPl 6) a (s0 :: s1 :: s2 :: s3 :: s4 :: s5 :: .va k (.list ds) :: ρ) = (a (s0 :: s1 :: s2 :: s3 :: s4 :: s5 :: .va k (.list ds) :: ρ)).sr (s0 :: s1 :: s2 :: s3 :: s4 :: s5 :: .va k (.list ds) :: ρ) fun v => appR (s0 :: s1 :: s2 :: s3 :: s4 :: s5 :: .va k (.list ds) :: ρ) 6 k ds v := app_of rfl
@[simp] theorem appR_6 {s0 s1 s2 s3 s4 s5 : Sl} {k : Lv} {ds : List D} {v : BV} (hf : flat v.d = true) (hk : k ≠ some 0) (hl : ds.length < sizeLine) : appR (s0 :: s1 :: s2 :: s3 :: s4 :: s5 :: .va k (.list ds) :: ρ) 6 k ds v = .nx (setSl (s0 :: s1 :: s2 :: s3 :: s4 :: s5 :: .va k (.list ds) :: ρ) 6 (.va k (.list (ds ++ [v.d])))) := appR_flat rfl hf hk hl
@[simp] theorem ap_app_7 {s0 s1 s2 s3 s4 s5 s6 : Sl} {k : Lv} {ds : List D} : sApp (xPl 7) a (s0 :: s1 :: s2 :: s3 :: s4 :: s5 :: s6 :: .va k (.list ds) :: ρ) = (a (s0 :: s1 :: s2 :: s3 :: s4 :: s5 :: s6 :: .va k (.list ds) :: ρ)).sr (s0 :: s1 :: s2 :: s3 :: s4 :: s5 :: s6 :: .va k (.list ds) :: ρ) fun v => appR (s0 :: s1 :: s2 :: s3 :: s4 :: s5 :: s6 :: .va k (.list ds) :: ρ) 7 k ds v := app_of rfl
@[simp] theorem appR_7 {s0 s1 s2 s3 s4 s5 s6 : Sl} {k : Lv} {ds : List D} {v : BV} (hf : flat v.d = true) (hk : k ≠ some 0) (hl : ds.length < sizeLine) : appR (s0 :: s1 :: s2 :: s3 :: s4 :: s5 :: s6 :: .va k (.list ds) :: ρ) 7 k ds v = .nx (setSl (s0 :: s1 :: s2 :: s3 :: s4 :: s5 :: s6 :: .va k (.list ds) :: ρ) 7 (.va k (.list (ds ++ [v.d])))) := appR_flat rfl hf hk hl
@[simp] theorem ap_app_8 {s0 s1 s2 s3 s4 s5 s6 s7 : Sl} {k : Lv} {ds : List D} : sApp (xPl 8) a (s0 :: s1 :: s2 :: s3 :: s4 :: s5 :: s6 :: s7 :: .va k (.list ds) :: ρ) = (a (s0 :: s1 :: s2 :: s3 :: s4 :: s5 :: s6 :: s7 :: .va k (.list ds) :: ρ)).sr (s0 :: s1 :: s2 :: s3 :: s4 :: s5 :: s6 :: s7 :: .va k (.list ds) :: ρ) fun v => appR (s0 :: s1 :: s2 :: s3 :: s4 :: s5 :: s6 :: s7 :: .va k (.list ds) :: ρ) 8 k ds v := app_of rfl
@[simp] theorem appR_8 {s0 s1 s2 s3 s4 s5 s6 s7 : Sl} {k : Lv} {ds : List D} {v : BV} (hf : flat v.d = true) (hk : k ≠ some 0) (hl : ds.length < sizeLine) : appR (s0 :: s1 :: s2 :: s3 :: s4 :: s5 :: s6 :: s7 :: .va k (.list ds) :: ρ) 8 k ds v = .nx (setSl (s0 :: s1 :: s2 :: s3 :: s4 :: s5 :: s6 :: s7 :: .va k (.list ds) :: ρ) 8 (.va k (.list (ds ++ [v.d])))) := appR_flat rfl hf hk hl
@[simp] theorem ap_app_9 {s0 s1 s2 s3 s4 s5 s6 s7 s8 : Sl} {k : Lv} {ds : List D} : sApp (xPl 9) a (s0 :: s1 :: s2 :: s3 :: s4 :: s5 :: s6 :: s7 :: s8 :: .va k (.list ds) :: ρ) = (a (s0 :: s1 :: s2 :: s3 :: s4 :: s5 :: s6 :: s7 :: s8 :: .va k (.list ds) :: ρ)).sr (s0 :: s1 :: s2 :: s3 :: s4 :: s5 :: s6 :: s7 :: s8 :: .va k (.list ds) :: ρ) fun v => appR (s0 :: s1 :: s2 :: s3 :: s4 :: s5 :: s6 :: s7 :: s8 :: .va k (.list ds) :: ρ) 9 k ds v := app_of rfl
@[simp] theorem appR_9 {s0 s1 s2 s3 s4 s5 s6 s7 s8 : Sl} {k : Lv} {ds : List D} {v : BV} (hf : flat v.d = true) (hk : k ≠ some 0) (hl : ds.length < sizeLine) : appR (s0 :: s1 :: s2 :: s3 :: s4 :: s5 :: s6 :: s7 :: s8 :: .va k (.list ds) :: ρ) 9 k ds v = .nx (setSl (s0 :: s1 :: s2 :: s3 :: s4 :: s5 :: s6 :: s7 :: s8 :: .va k (.list ds) :: ρ) 9 (.va k (.list (ds ++ [v.d])))) := appR_flat rfl hf hk hl
@[simp] theorem ap_app_10 {s0 s1 s2 s3 s4 s5 s6 s7 s8 s9 : Sl} {k : Lv} {ds : List D} : sApp (xPl 10) a (s0 :: s1 :: s2 :: s3 :: s4 :: s5 :: s6 :: s7 :: s8 :: s9 :: .va k (.list ds) :: ρ) = (a (s0 :: s1 :: s2 :: s3 :: s4 :: s5 :: s6 :: s7 :: s8 :: s9 :: .va k (.list ds) :: ρ)).sr (s0 :: s1 :: s2 :: s3 :: s4 :: s5 :: s6 :: s7 :: s8 :: s9 :: .va k (.list ds) :: ρ) fun v => appR (s0 :: s1 :: s2 :: s3 :: s4 :: s5 :: s6 :: s7 :: s8 :: s9 :: .va k (.list ds) :: ρ) 10 k ds v := app_of rfl
@[simp] theorem appR_10 {s0 s1 s2 s3 s4 s5 s6 s7 s8 s9 : Sl} {k : Lv} {ds : List D} {v : BV} (hf : flat v.d = true) (hk : k ≠ some 0) (hl : ds.length < sizeLine) : appR (s0 :: s1 :: s2 :: s3 :: s4 :: s5 :: s6 :: s7 :: s8 :: s9 :: .va k (.list ds) :: ρ) 10 k ds v = .nx (setSl (s0 :: s1 :: s2 :: s3 :: s4 :: s5 :: s6 :: s7 :: s8 :: s9 :: .va k (.list ds) :: ρ) 10 (.va k (.list (ds ++ [v.d])))) := appR_flat rfl hf hk hl
@[simp] theorem ap_app_11 {s0 s1 s2 s3 s4 s5 s6 s7 s8 s9 s10 : Sl} {k : Lv} {ds : List D} : sApp (xPl 11) a (s0 :: s1 :: s2 :: s3 :: s4 :: s5 :: s6 :: s7 :: s8 :: s9 :: s10 :: .va k (.list ds) :: ρ) = (a (s0 :: s1 :: s2 :: s3 :: s4 :: s5 :: s6 :: s7 :: s8 :: s9 :: s10 :: .va k (.list ds) :: ρ)).sr (s0 :: s1 :: s2 :: s3 :: s4 :: s5 :: s6 :: s7 :: s8 :: s9 :: s10 :: .va k (.list ds) :: ρ) fun v => appR (s0 :: s1 :: s2 :: s3 :: s4 :: s5 :: s6 :: s7 :: s8 :: s9 :: s10 :: .va k (.list ds) :: ρ) 11 k ds v := app_of rfl
@[simp] theorem appR_11 {s0 s1 s2 s3 s4 s5 s6 s7 s8 s9 s10 : Sl} {k : Lv} {ds : List D} {v : BV} (hf : flat v.d = true) (hk : k ≠ some 0) (hl : ds.length < sizeLine) : appR (s0 :: s1 :: s2 :: s3 :: s4 :: s5 :: s6 :: s7 :: s8 :: s9 :: s10 :: .va k (.list ds) :: ρ) 11 k ds v = .nx (setSl (s0 :: s1 :: s2 :: s3 :: s4 :: s5 :: s6 :: s7 :: s8 :: s9 :: s10 :: .va k (.list ds) :: ρ) 11 (.va k (.list (ds ++ [v.d])))) := appR_flat rfl hf hk hl
@[simp] theorem ap_app_12 {s0 s1 s2 s3 s4 s5 s6 s7 s8 s9 s10 s11 : Sl} {k : Lv} {ds : List D} : sApp (xPl 12) a (s0 :: s1 :: s2 :: s3 :: s4 :: s5 :: s6 :: s7 :: s8 :: s9 :: s10 :: s11 :: .va k (.list ds) :: ρ) = (a (s0 :: s1 :: s2 :: s3 :: s4 :: s5 :: s6 :: s7 :: s8 :: s9 :: s10 :: s11 :: .va k (.list ds) :: ρ)).sr (s0 :: s1 :: s2 :: s3 :: s4 :: s5 :: s6 :: s7 :: s8 :: s9 :: s10 :: s11 :: .va k (.list ds) :: ρ) fun v => appR (s0 :: s1 :: s2 :: s3 :: s4 :: s5 :: s6 :: s7 :: s8 :: s9 :: s10 :: s11 :: .va k (.list ds) :: ρ) 12 k ds v := app_of rfl
@[simp] theorem appR_12 {s0 s1 s2 s3 s4 s5 s6 s7 s8 s9 s10 s11 : Sl} {k : Lv} {ds : List D} {v : BV} (hf : flat v.d = true) (hk : k ≠ some 0) (hl : ds.length < sizeLine) : appR (s0 :: s1 :: s2 :: s3 :: s4 :: s5 :: s6 :: s7 :: s8 :: s9 :: s10 :: s11 :: .va k (.list ds) :: ρ) 12 k ds v = .nx (setSl (s0 :: s1 :: s2 :: s3 :: s4 :: s5 :: s6 :: s7 :: s8 :: s9 :: s10 :: s11 :: .va k (.list ds) :: ρ) 12 (.va k (.list (ds ++ [v.d])))) := appR_flat rfl hf hk hl
@[simp] theorem ap_app_13 {s0 s1 s2 s3 s4 s5 s6 s7 s8 s9 s10 s11 s12 : Sl} {k : Lv} {ds : List D} : sApp (xPl 13) a (s0 :: s1 :: s2 :: s3 :: s4 :: s5 :: s6 :: s7 :: s8 :: s9 :: s10 :: s11 :: s12 :: .va k (.list ds) :: ρ) = (a (s0 :: s1 :: s2 :: s3 :: s4 :: s5 :: s6 :: s7 :: s8 :: s9 :: s10 :: s11 :: s12 :: .va k (.list ds) :: ρ)).sr (s0 :: s1 :: s2 :: s3 :: s4 :: s5 :: s6 :: s7 :: s8 :: s9 :: s10 :: s11 :: s12 :: .va k (.list ds) :: ρ) fun v => appR (s0 :: s1 :: s2 :: s3 :: s4 :: s5 :: s6 :: s7 :: s8 :: s9 :: s10 :: s11 :: s12 :: .va k (.list ds) :: ρ) 13 k ds v := app_of rfl
@[simp] theorem appR_13 {s0 s1 s2 s3 s4 s5 s6 s7 s8 s9 s10 s11 s12 : Sl} {k : Lv} {ds : List D} {v : BV} (hf : flat v.d = true) (hk : k ≠ some 0) (hl : ds.length < sizeLine) : appR (s0 :: s1 :: s2 :: s3 :: s4 :: s5 :: s6 :: s7 :: s8 :: s9 :: s10 :: s11 :: s12 :: .va k (.list ds) :: ρ) 13 k ds v = .nx (setSl (s0 :: s1 :: s2 :: s3 :: s4 :: s5 :: s6 :: s7 :: s8 :: s9 :: s10 :: s11 :: s12 :: .va k (.list ds) :: ρ) 13 (.va k (.list (ds ++ [v.d])))) := appR_flat rfl hf hk hl
@[simp] theorem ap_app_14 {s0 s1 s2 s3 s4 s5 s6 s7 s8 s9 s10 s11 s12 s13 : Sl} {k : Lv} {ds : List D} : sApp (xPl 14) a (s0 :: s1 :: s2 :: s3 :: s4 :: s5 :: s6 :: s7 :: s8 :: s9 :: s10 :: s11 :: s12 :: s13 :: .va k (.list ds) :: ρ) = (a (s0 :: s1 :: s2 :: s3 :: s4 :: s5 :: s6 :: s7 :: s8 :: s9 :: s10 :: s11 :: s12 :: s13 :: .va k (.list ds) :: ρ)).sr (s0 :: s1 :: s2 :: s3 :: s4 :: s5 :: s6 :: s7 :: s8 :: s9 :: s10 :: s11 :: s12 :: s13 :: .va k (.list ds) :: ρ) fun v => appR (s0 :: s1 :: s2 :: s3 :: s4 :: s5 :: s6 :: s7 :: s8 :: s9 :: s10 :: s11 :: s12 :: s13 :: .va k (.list ds) :: ρ) 14 k ds v := app_of rfl
@[simp] theorem appR_14 {s0 s1 s2 s3 s4 s5 s6 s7 s8 s9 s10 s11 s12 s13 : Sl} {k : Lv} {ds : List D} {v : BV} (hf : flat v.d = true) (hk : k ≠ some 0) (hl : ds.length < sizeLine) : appR (s0 :: s1 :: s2 :: s3 :: s4 :: s5 :: s6 :: s7 :: s8 :: s9 :: s10 :: s11 :: s12 :: s13 :: .va k (.list ds) :: ρ) 14 k ds v = .nx (setSl (s0 :: s1 :: s2 :: s3 :: s4 :: s5 :: s6 :: s7 :: s8 :: s9 :: s10 :: s11 :: s12 :: s13 :: .va k (.list ds) :: ρ) 14 (.va k (.list (ds ++ [v.d])))) := appR_flat rfl hf hk hl
@[simp] theorem ap_app_15 {s0 s1 s2 s3 s4 s5 s6 s7 s8 s9 s10 s11 s12 s13 s14 : Sl} {k : Lv} {ds : List D} : sApp (xPl 15) a (s0 :: s1 :: s2 :: s3 :: s4 :: s5 :: s6 :: s7 :: s8 :: s9 :: s10 :: s11 :: s12 :: s13 :: s14 :: .va k (.list ds) :: ρ) = (a (s0 :: s1 :: s2 :: s3 :: s4 :: s5 :: s6 :: s7 :: s8 :: s9 :: s10 :: s11 :: s12 :: s13 :: s14 :: .va k (.list ds) :: ρ)).sr (s0 :: s1 :: s2 :: s3 :: s4 :: s5 :: s6 :: s7 :: s8 :: s9 :: s10 :: s11 :: s12 :: s13 :: s14 :: .va k (.list ds) :: ρ) fun v => appR (s0 :: s1 :: s2 :: s3 :: s4 :: s5 :: s6 :: s7 :: s8 :: s9 :: s10 :: s11 :: s12 :: s13 :: s14 :: .va k (.list ds) :: ρ) 15 k ds v := app_of rfl
@[simp] theorem appR_15 {s0 s1 s2 s3 s4 s5 s6 s7 s8 s9 s10 s11 s12 s13 s14 : Sl} {k : Lv} {ds : List D} {v : BV} (hf : flat v.d = true) (hk : k ≠ some 0) (hl : ds.length < sizeLine) : appR (s0 :: s1 :: s2 :: s3 :: s4 :: s5 :: s6 :: s7 :: s8 :: s9 :: s10 :: s11 :: s12 :: s13 :: s14 :: .va k (.list ds) :: ρ) 15 k ds v = .nx (setSl (s0 :: s1 :: s2 :: s3 :: s4 :: s5 :: s6 :: s7 :: s8 :: s9 :: s10 :: s11 :: s12 :: s13 :: s14 :: .va k (.list ds) :: ρ) 15 (.va k (.list (ds ++ [v.d])))) := appR_flat rfl hf hk hl
@[simp] theorem ap_app_16 {s0 s1 s2 s3 s4 s5 s6 s7 s8 s9 s10 s11 s12 s13 s14 s15 : Sl} {k : Lv} {ds : List D} : sApp (xPl 16) a (s0 :: s1 :: s2 :: s3 :: s4 :: s5 :: s6 :: s7 :: s8 :: s9 :: s10 :: s11 :: s12 :: s13 :: s14 :: s15 :: .va k (.list ds) :: ρ) = (a (s0 :: s1 :: s2 :: s3 :: s4 :: s5 :: s6 :: s7 :: s8 :: s9 :: s10 :: s11 :: s12 :: s13 :: s14 :: s15 :: .va k (.list ds) :: ρ)).sr (s0 :: s1 :: s2 :: s3 :: s4 :: s5 :: s6 :: s7 :: s8 :: s9 :: s10 :: s11 :: s12 :: s13 :: s14 :: s15 :: .va k (.list ds) :: ρ) fun v => appR (s0 :: s1 :: s2 :: s3 :: s4 :: s5 :: s6 :: s7 :: s8 :: s9 :: s10 :: s11 :: s12 :: s13 :: s14 :: s15 :: .va k (.list ds) :: ρ) 16 k ds v := app_of rfl
@[simp] theorem appR_16 {s0 s1 s2 s3 s4 s5 s6 s7 s8 s9 s10 s11 s12 s13 s14 s15 : Sl} {k : Lv} {ds : List D} {v : BV} (hf : flat v.d = true) (hk : k ≠ some 0) (hl : ds.length < sizeLine) : appR (s0 :: s1 :: s2 :: s3 :: s4 :: s5 :: s6 :: s7 :: s8 :: s9 :: s10 :: s11 :: s12 :: s13 :: s14 :: s15 :: .va k (.list ds) :: ρ) 16 k ds v = .nx (setSl (s0 :: s1 :: s2 :: s3 :: s4 :: s5 :: s6 :: s7 :: s8 :: s9 :: s10 :: s11 :: s12 :: s13 :: s14 :: s15 :: .va k (.list ds) :: ρ) 16 (.va k (.list (ds ++ [v.d])))) := appR_flat rfl hf hk hl
@[simp] theorem ap_app_17 {s0 s1 s2 s3 s4 s5 s6 s7 s8 s9 s10 s11 s12 s13 s14 s15 s16 : Sl} {k : Lv} {ds : List D} : sApp (xPl 17) a (s0 :: s1 :: s2 :: s3 :: s4 :: s5 :: s6 :: s7 :: s8 :: s9 :: s10 :: s11 :: s12 :: s13 :: s14 :: s15 :: s16 :: .va k (.list ds) :: ρ) = (a (s0 :: s1 :: s2 :: s3 :: s4 :: s5 :: s6 :: s7 :: s8 :: s9 :: s10 :: s11 :: s12 :: s13 :: s14 :: s15 :: s16 :: .va k (.list ds) :: ρ)).sr (s0 :: s1 :: s2 :: s3 :: s4 :: s5 :: s6 :: s7 :: s8 :: s9 :: s10 :: s11 :: s12 :: s13 :: s14 :: s15 :: s16 :: .va k (.list ds) :: ρ) fun v => appR (s0 :: s1 :: s2 :: s3 :: s4 :: s5 :: s6 :: s7 :: s8 :: s9 :: s10 :: s11 :: s12 :: s13 :: s14 :: s15 :: s16 :: .va k (.list ds) :: ρ) 17 k ds v := app_of rfl
@[simp] theorem appR_17 {s0 s1 s2 s3 s4 s5 s6 s7 s8 s9 s10 s11 s12 s13 s14 s15 s16 : Sl} {k : Lv} {ds : List D} {v : BV} (hf : flat v.d = true) (hk : k ≠ some 0) (hl : ds.length < sizeLine) : appR (s0 :: s1 :: s2 :: s3 :: s4 :: s5 :: s6 :: s7 :: s8 :: s9 :: s10 :: s11 :: s12 :: s13 :: s14 :: s15 :: s16 :: .va k (.list ds) :: ρ) 17 k ds v = .nx (setSl (s0 :: s1 :: s2 :: s3 :: s4 :: s5 :: s6 :: s7 :: s8 :: s9 :: s10 :: s11 :: s12 :: s13 :: s14 :: s15 :: s16 :: .va k (.list ds) :: ρ) 17 (.va k (.list (ds ++ [v.d])))) := appR_flat rfl hf hk hl
@[simp] theorem ap_app_18 {s0 s1 s2 s3 s4 s5 s6 s7 s8 s9 s10 s11 s12 s13 s14 s15 s16 s17 : Sl} {k : Lv} {ds : List D} : sApp (xPl 18) a (s0 :: s1 :: s2 :: s3 :: s4 :: s5 :: s6 :: s7 :: s8 :: s9 :: s10 :: s11 :: s12 :: s13 :: s14 :: s15 :: s16 :: s17 :: .va k (.list ds) :: ρ) = (a (s0 :: s1 :: s2 :: s3 :: s4 :: s5 :: s6 :: s7 :: s8 :: s9 :: s10 :: s11 :: s12 :: s13 :: s14 :: s15 :: s16 :: s17 :: .va k (.list ds) :: ρ)).sr (s0 :: s1 :: s2 :: s3 :: s4 :: s5 :: s6 :: s7 :: s8 :: s9 :: s10 :: s11 :: s12 :: s13 :: s14 :: s15 :: s16 :: s17 :: .va k (.list ds) :: ρ) fun v => appR (s0 :: s1 :: s2 :: s3 :: s4 :: s5 :: s6 :: s7 :: s8 :: s9 :: s10 :: s11 :: s12 :: s13 :: s14 :: s15 :: s16 :: s17 :: .va k (.list ds) :: ρ) 18 k ds v := app_of rfl
@[simp] theorem appR_18 {s0 s1 s2 s3 s4 s5 s6 s7 s8 s9 s10 s11 s12 s13 s14 s15 s16 s17 : Sl} {k : Lv} {ds : List D} {v : BV} (hf : flat v.d = true) (hk : k ≠ some 0) (hl : ds.length < sizeLine) : appR (s0 :: s1 :: s2 :: s3 :: s4 :: s5 :: s6 :: s7 :: s8 :: s9 :: s10 :: s11 :: s12 :: s13 :: s14 :: s15 :: s16 :: s17 :: .va k (.list ds) :: ρ) 18 k ds v = .nx (setSl (s0 :: s1 :: s2 :: s3 :: s4 :: s5 :: s6 :: s7 :: s8 :: s9 :: s10 :: s11 :: s12 :: s13 :: s14 :: s15 :: s16 :: s17 :: .va k (.list ds) :: ρ) 18 (.va k (.list (ds ++ [v.d])))) := appR_flat rfl hf hk hl
@[simp] theorem ap_app_19 {s0 s1 s2 s3 s4 s5 s6 s7 s8 s9 s10 s11 s12 s13 s14 s15 s16 s17 s18 : Sl} {k : Lv} {ds : List D} : sApp (xPl 19) a (s0 :: s1 :: s2 :: s3 :: s4 :: s5 :: s6 :: s7 :: s8 :: s9 :: s10 :: s11 :: s12 :: s13 :: s14 :: s15 :: s16 :: s17 :: s18 :: .va k (.list ds) :: ρ) = (a (s0 :: s1 :: s2 :: s3 :: s4 :: s5 :: s6 :: s7 :: s8 :: s9 :: s10 :: s11 :: s12 :: s13 :: s14 :: s15 :: s16 :: s17 :: s18 :: .va k (.list ds) :: ρ)).sr (s0 :: s1 :: s2 :: s3 :: s4 :: s5 :: s6 :: s7 :: s8 :: s9 :: s10 :: s11 :: s12 :: s13 :: s14 :: s15 :: s16 :: s17 :: s18 :: .va k (.list ds) :: ρ) fun v => appR (s0 :: s1 :: s2 :: s3 :: s4 :: s5 :: s6 :: s7 :: s8 :: s9 :: s10 :: s11 :: s12 :: s13 :: s14 :: s15 :: s16 :: s17 :: s18 :: .va k (.list ds) :: ρ) 19 k ds v := app_of rfl
@[simp] theorem appR_19 {s0 s1 s2 s3 s4 s5 s6 s7 s8 s9 s10 s11 s12 s13 s14 s15 s16 s17 s18 : Sl} {k : Lv} {ds : List D} {v : BV} (hf : flat v.d = true) (hk : k ≠ some 0) (hl : ds.length < sizeLine) : appR (s0 :: s1 :: s2 :: s3 :: s4 :: s5 :: s6 :: s7 :: s8 :: s9 :: s10 :: s11 :: s12 :: s13 :: s14 :: s15 :: s16 :: s17 :: s18 :: .va k (.list ds) :: ρ) 19 k ds v = .nx (setSl (s0 :: s1 :: s2 :: s3 :: s4 :: s5 :: s6 :: s7 :: s8 :: s9 :: s10 :: s11 :: s12 :: s13 :: s14 :: s15 :: s16 :: s17 :: s18 :: .va k (.list ds) :: ρ) 19 (.va k (.list (ds ++ [v.d])))) := appR_flat rfl hf hk hl
@[simp] theorem ap_app_20 {s0 s1 s2 s3 s4 s5 s6 s7 s8 s9 s10 s11 s12 s13 s14 s15 s16 s17 s18 s19 : Sl} {k : Lv} {ds : List D} : sApp (xPl 20) a (s0 :: s1 :: s2 :: s3 :: s4 :: s5 :: s6 :: s7 :: s8 :: s9 :: s10 :: s11 :: s12 :: s13 :: s14 :: s15 :: s16 :: s17 :: s18 :: s19 :: .va k (.list ds) :: ρ) = (a (s0 :: s1 :: s2 :: s3 :: s4 :: s5 :: s6 :: s7 :: s8 :: s9 :: s10 :: s11 :: s12 :: s13 :: s14 :: s15 :: s16 :: s17 :: s18 :: s19 :: .va k (.list ds) :: ρ)).sr (s0 :: s1 :: s2 :: s3 :: s4 :: s5 :: s6 :: s7 :: s8 :: s9 :: s10 :: s11 :: s12 :: s13 :: s14 :: s15 :: s16 :: s17 :: s18 :: s19 :: .va k (.list ds) :: ρ) fun v => appR (s0 :: s1 :: s2 :: s3 :: s4 :: s5 :: s6 :: s7 :: s8 :: s9 :: s10 :: s11 :: s12 :: s13 :: s14 :: s15 :: s16 :: s17 :: s18 :: s19 :: .va k (.list ds) :: ρ) 20 k ds v := app_of rfl
@[simp] theorem appR_20 {s0 s1 s2 s3 s4 s5 s6 s7 s8 s9 s10 s11 s12 s13 s14 s15 s16 s17 s18 s19 : Sl} {k : Lv} {ds : List D} {v : BV} (hf : flat v.d = true) (hk : k ≠ some 0) (hl : ds.length < sizeLine) : appR (s0 :: s1 :: s2 :: s3 :: s4 :: s5 :: s6 :: s7 :: s8 :: s9 :: s10 :: s11 :: s12 :: s13 :: s14 :: s15 :: s16 :: s17 :: s18 :: s19 :: .va k (.list ds) :: ρ) 20 k ds v = .nx (setSl (s0 :: s1 :: s2 :: s3 :: s4 :: s5 :: s6 :: s7 :: s8 :: s9 :: s10 :: s11 :: s12 :: s13 :: s14 :: s15 :: s16 :: s17 :: s18 :: s19 :: .va k (.list ds) :: ρ) 20 (.va k (.list (ds ++ [v.d])))) := appR_flat rfl hf hk hl
@[simp] theorem ap_app_21 {s0 s1 s2 s3 s4 s5 s6 s7 s8 s9 s10 s11 s12 s13 s14 s15 s16 s17 s18 s19 s20 : Sl} {k : Lv} {ds : List D} : sApp (xPl 21) a (s0 :: s1 :: s2 :: s3 :: s4 :: s5 :: s6 :: s7 :: s8 :: s9 :: s10 :: s11 :: s12 :: s13 :: s14 :: s15 :: s16 :: s17 :: s18 :: s19 :: s20 :: .va k (.list ds) :: ρ) = (a (s0 :: s1 :: s2 :: s3 :: s4 :: s5 :: s6 :: s7 :: s8 :: s9 :: s10 :: s11 :: s12 :: s13 :: s14 :: s15 :: s16 :: s17 :: s18 :: s19 :: s20 :: .va k (.list ds) :: ρ)).sr (s0 :: s1 :: s2 :: s3 :: s4 :: s5 :: s6 :: s7 :: s8 :: s9 :: s10 :: s11 :: s12 :: s13 :: s14 :: s15 :: s16 :: s17 :: s18 :: s19 :: s20 :: .va k (.list ds) :: ρ) fun v => appR (s0 :: s1 :: s2 :: s3 :: s4 :: s5 :: s6 :: s7 :: s8 :: s9 :: s10 :: s11 :: s12 :: s13 :: s14 :: s15 :: s16 :: s17 :: s18 :: s19 :: s20 :: .va k (.list ds) :: ρ) 21 k ds v := app_of rfl
@[simp] theorem appR_21 {s0 s1 s2 s3 s4 s5 s6 s7 s8 s9 s10 s11 s12 s13 s14 s15 s16 s17 s18 s19 s20 : Sl} {k : Lv} {ds : List D} {v : BV} (hf : flat v.d = true) (hk : k ≠ some 0) (hl : ds.length < sizeLine) : appR (s0 :: s1 :: s2 :: s3 :: s4 :: s5 :: s6 :: s7 :: s8 :: s9 :: s10 :: s11 :: s12 :: s13 :: s14 :: s15 :: s16 :: s17 :: s18 :: s19 :: s20 :: .va k (.list ds) :: ρ) 21 k ds v = .nx (setSl (s0 :: s1 :: s2 :: s3 :: s4 :: s5 :: s6 :: s7 :: s8 :: s9 :: s10 :: s11 :: s12 :: s13 :: s14 :: s15 :: s16 :: s17 :: s18 :: s19 :: s20 :: .va k (.list ds) :: ρ) 21 (.va k (.list (ds ++ [v.d])))) := appR_flat rfl hf hk hl
@[simp] theorem ap_app_22 {s0 s1 s2 s3 s4 s5 s6 s7 s8 s9 s10 s11 s12 s13 s14 s15 s16 s17 s18 s19 s20 s21 : Sl} {k : Lv} {ds : List D} : sApp (xPl 22) a (s0 :: s1 :: s2 :: s3 :: s4 :: s5 :: s6 :: s7 :: s8 :: s9 :: s10 :: s11 :: s12 :: s13 :: s14 :: s15 :: s16 :: s17 :: s18 :: s19 :: s20 :: s21 :: .va k (.list ds) :: ρ) = (a (s0 :: s1 :: s2 :: s3 :: s4 :: s5 :: s6 :: s7 :: s8 :: s9 :: s10 :: s11 :: s12 :: s13 :: s14 :: s15 :: s16 :: s17 :: s18 :: s19 :: s20 :: s21 :: .va k (.list ds) :: ρ)).sr (s0 :: s1 :: s2 :: s3 :: s4 :: s5 :: s6 :: s7 :: s8 :: s9 :: s10 :: s11 :: s12 :: s13 :: s14 :: s15 :: s16 :: s17 :: s18 :: s19 :: s20 :: s21 :: .va k (.list ds) :: ρ) fun v => appR (s0 :: s1 :: s2 :: s3 :: s4 :: s5 :: s6 :: s7 :: s8 :: s9 :: s10 :: s11 :: s12 :: s13 :: s14 :: s15 :: s16 :: s17 :: s18 :: s19 :: s20 :: s21 :: .va k (.list ds) :: ρ) 22 k ds v := app_of rfl
@[simp] theorem appR_22 {s0 s1 s2 s3 s4 s5 s6 s7 s8 s9 s10 s11 s12 s13 s14 s15 s16 s17 s18 s19 s20 s21 : Sl} {k : Lv} {ds : List D} {v : BV} (hf : flat v.d = true) (hk : k ≠ some 0) (hl : ds.length < sizeLine) : appR (s0 :: s1 :: s2 :: s3 :: s4 :: s5 :: s6 :: s7 :: s8 :: s9 :: s10 :: s11 :: s12 :: s13 :: s14 :: s15 :: s16 :: s17 :: s18 :: s19 :: s20 :: s21 :: .va k (.list ds) :: ρ) 22 k ds v = .nx (setSl (s0 :: s1 :: s2 :: s3 :: s4 :: s5 :: s6 :: s7 :: s8 :: s9 :: s10 :: s11 :: s12 :: s13 :: s14 :: s15 :: s16 :: s17 :: s18 :: s19 :: s20 :: s21 :: .va k (.list ds) :: ρ) 22 (.va k (.list (ds ++ [v.d])))) := appR_flat rfl hf hk hl
@[simp] theorem ap_app_23 {s0 s1 s2 s3 s4 s5 s6 s7 s8 s9 s10 s11 s12 s13 s14 s15 s16 s17 s18 s19 s20 s21 s22 : Sl} {k : Lv} {ds : List D} : sApp (xPl 23) a (s0 :: s1 :: s2 :: s3 :: s4 :: s5 :: s6 :: s7 :: s8 :: s9 :: s10 :: s11 :: s12 :: s13 :: s14 :: s15 :: s16 :: s17 :: s18 :: s19 :: s20 :: s21 :: s22 :: .va k (.list ds) :: ρ) = (a (s0 :: s1 :: s2 :: s3 :: s4 :: s5 :: s6 :: s7 :: s8 :: s9 :: s10 :: s11 :: s12 :: s13 :: s14 :: s15 :: s16 :: s17 :: s18 :: s19 :: s20 :: s21 :: s22 :: .va k (.list ds) :: ρ)).sr (s0 :: s1 :: s2 :: s3 :: s4 :: s5 :: s6 :: s7 :: s8 :: s9 :: s10 :: s11 :: s12 :: s13 :: s14 :: s15 :: s16 :: s17 :: s18 :: s19 :: s20 :: s21 :: s22 :: .va k (.list ds) :: ρ) fun v => appR (s0 :: s1 :: s2 :: s3 :: s4 :: s5 :: s6 :: s7 :: s8 :: s9 :: s10 :: s11 :: s12 :: s13 :: s14 :: s15 :: s16 :: s17 :: s18 :: s19 :: s20 :: s21 :: s22 :: .va k (.list ds) :: ρ) 23 k ds v := app_of rfl
@[simp] theorem appR_23 {s0 s1 s2 s3 s4 s5 s6 s7 s8 s9 s10 s11 s12 s13 s14 s15 s16 s17 s18 s19 s20 s21 s22 : Sl} {k : Lv} {ds : List D} {v : BV} (hf : flat v.d = true) (hk : k ≠ some 0) (hl : ds.length < sizeLine) : appR (s0 :: s1 :: s2 :: s3 :: s4 :: s5 :: s6 :: s7 :: s8 :: s9 :: s10 :: s11 :: s12 :: s13 :: s14 :: s15 :: s16 :: s17 :: s18 :: s19 :: s20 :: s21 :: s22 :: .va k (.list ds) :: ρ) 23 k ds v = .nx (setSl (s0 :: s1 :: s2 :: s3 :: s4 :: s5 :: s6 :: s7 :: s8 :: s9 :: s10 :: s11 :: s12 :: s13 :: s14 :: s15 :: s16 :: s17 :: s18 :: s19 :: s20 :: s21 :: s22 :: .va k (.list ds) :: ρ) 23 (.va k (.list (ds ++ [v.d])))) := appR_flat rfl hf hk hl
end
end Ev

set_option Elab.async false
set_option linter.all false
set_option maxRecDepth 100000
set_option maxHeartbeats 0

namespace Lw
open PySem PySem.Spec PyProof.Rows L2 Ev

def top (i : Nat) : Stmt := PySem.Challenge.pw_latelaw_k01_fractions_computed.main.body.getD i (.Pass ⟨0, 0, 0, 0⟩)
def ct_OutOfRange (c : Str) : Option Bool := if c = "OutOfRange" then some true else none
def isa_BadWork (c : Str) : Option Bool := if c = "OutOfRange" then some false else none
def isa_LateError (c : Str) : Option Bool := if c = "OutOfRange" then some true else none
def isa_ValueError (c : Str) : Option Bool := if c = "OutOfRange" then some true else none
structure Fx (K : PySem.W.Frag) (mg : Str → Option Value) : Prop where
  g__law_draws : mg "_law_draws" = some (.ref (He.ga K "_law_draws"))
  d__law_draws : ∃ fd, FunD K "_law_draws" "_law_draws" (defArgs (top 13)) (defBody (top 13)) (defScope (top 13)) [] [] (He.ga K "_law_draws") fd
  k__law_draws : PySem.W.keepIn K (.ref (He.ga K "_law_draws")) = true
  g__law_gcd : mg "_law_gcd" = some (.ref (He.ga K "_law_gcd"))
  d__law_gcd : ∃ fd, FunD K "_law_gcd" "_law_gcd" (defArgs (top 14)) (defBody (top 14)) (defScope (top 14)) [] [] (He.ga K "_law_gcd") fd
  k__law_gcd : PySem.W.keepIn K (.ref (He.ga K "_law_gcd")) = true
  g__law_fraction : mg "_law_fraction" = some (.ref (He.ga K "_law_fraction"))
  d__law_fraction : ∃ fd, FunD K "_law_fraction" "_law_fraction" (defArgs (top 15)) (defBody (top 15)) (defScope (top 15)) [] [] (He.ga K "_law_fraction") fd
  k__law_fraction : PySem.W.keepIn K (.ref (He.ga K "_law_fraction")) = true
  g__law_moment : mg "_law_moment" = some (.ref (He.ga K "_law_moment"))
  d__law_moment : ∃ fd, FunD K "_law_moment" "_law_moment" (defArgs (top 21)) (defBody (top 21)) (defScope (top 21)) [] [] (He.ga K "_law_moment") fd
  k__law_moment : PySem.W.keepIn K (.ref (He.ga K "_law_moment")) = true
  g__law_is : mg "_law_is" = some (.ref (He.ga K "_law_is"))
  d__law_is : ∃ fd, FunD K "_law_is" "_law_is" (defArgs (top 25)) (defBody (top 25)) (defScope (top 25)) [] [] (He.ga K "_law_is") fd
  k__law_is : PySem.W.keepIn K (.ref (He.ga K "_law_is")) = true
  g_fraction : mg "fraction" = some (.ref (He.ga K "fraction"))
  d_fraction : ∃ fd, FunD K "fraction" "fraction" (defArgs (top 6)) (defBody (top 6)) (defScope (top 6)) [] [] (He.ga K "fraction") fd
  k_fraction : PySem.W.keepIn K (.ref (He.ga K "fraction")) = true
  g__law_no_low : mg "_law_no_low" = some (.ref (He.ga K "_law_no_low"))
  d__law_no_low : ∃ fd, FunD K "_law_no_low" "_law_no_low" (defArgs (top 23)) (defBody (top 23)) (defScope (top 23)) [] [] (He.ga K "_law_no_low") fd
  k__law_no_low : PySem.W.keepIn K (.ref (He.ga K "_law_no_low")) = true
  g__law_cell : mg "_law_cell" = some (.ref (He.ga K "_law_cell"))
  d__law_cell : ∃ fd, FunD K "_law_cell" "_law_cell" (defArgs (top 12)) (defBody (top 12)) (defScope (top 12)) [] [] (He.ga K "_law_cell") fd
  k__law_cell : PySem.W.keepIn K (.ref (He.ga K "_law_cell")) = true
  g_plus : mg "plus" = some (.ref (He.ga K "plus"))
  d_plus : ∃ fd, FunD K "plus" "plus" (defArgs (top 7)) (defBody (top 7)) (defScope (top 7)) [] [] (He.ga K "plus") fd
  k_plus : PySem.W.keepIn K (.ref (He.ga K "plus")) = true
  g_over : mg "over" = some (.ref (He.ga K "over"))
  d_over : ∃ fd, FunD K "over" "over" (defArgs (top 10)) (defBody (top 10)) (defScope (top 10)) [] [] (He.ga K "over") fd
  k_over : PySem.W.keepIn K (.ref (He.ga K "over")) = true
  g__law_no_over : mg "_law_no_over" = some (.ref (He.ga K "_law_no_over"))
  d__law_no_over : ∃ fd, FunD K "_law_no_over" "_law_no_over" (defArgs (top 24)) (defBody (top 24)) (defScope (top 24)) [] [] (He.ga K "_law_no_over") fd
  k__law_no_over : PySem.W.keepIn K (.ref (He.ga K "_law_no_over")) = true
  g_minus : mg "minus" = some (.ref (He.ga K "minus"))
  d_minus : ∃ fd, FunD K "minus" "minus" (defArgs (top 8)) (defBody (top 8)) (defScope (top 8)) [] [] (He.ga K "minus") fd
  k_minus : PySem.W.keepIn K (.ref (He.ga K "minus")) = true
  g_times : mg "times" = some (.ref (He.ga K "times"))
  d_times : ∃ fd, FunD K "times" "times" (defArgs (top 9)) (defBody (top 9)) (defScope (top 9)) [] [] (He.ga K "times") fd
  k_times : PySem.W.keepIn K (.ref (He.ga K "times")) = true
  g_law : mg "law" = some (.ref (He.ga K "law"))
  d_law : ∃ fd, FunD K "law" "law" (defArgs (top 26)) (defBody (top 26)) (defScope (top 26)) [] [] (He.ga K "law") fd
  k_law : PySem.W.keepIn K (.ref (He.ga K "law")) = true
  g_BadWork : mg "BadWork" = some (.ref (He.ga K "BadWork"))
  g_LateError : mg "LateError" = some (.ref (He.ga K "LateError"))
  g_OutOfRange : mg "OutOfRange" = some (.ref (He.ga K "OutOfRange"))
  x_OutOfRange : PySem.W.excIn K (He.ga K "OutOfRange") He.veBase "ValueError.__new__" = true
  k_OutOfRange : PySem.W.keepIn K (.ref (He.ga K "OutOfRange")) = true
  b_OutOfRange : PySem.W.subIn K (.ref (He.ga K "OutOfRange")) (.type "BaseException") = some true
  t_OutOfRange : PySem.W.typeIn K (.ref (He.ga K "OutOfRange")) = some (.type "type")
  n_ValueError : mg "ValueError" = none
  n_abs : mg "abs" = none
  n_any : mg "any" = none
  n_bool : mg "bool" = none
  n_int : mg "int" = none
  n_isinstance : mg "isinstance" = none
  n_len : mg "len" = none
  n_range : mg "range" = none
  n_tuple : mg "tuple" = none
  i_gcd : mg "gcd" = some (.builtin "math.gcd")
  h_OutOfRange : Caught K mg (.ref (He.ga K "OutOfRange")) ct_OutOfRange
  i_BadWork (c : Str) : IsA K mg c (.ref (He.ga K "BadWork")) (isa_BadWork c)
  i_LateError (c : Str) : IsA K mg c (.ref (He.ga K "LateError")) (isa_LateError c)
  i_ValueError (c : Str) : IsA K mg c (.type "ValueError") (isa_ValueError c)
def dd__law_draws : He.DefD := ⟨("_law_draws", none), "_law_draws", "_law_draws", defArgs (top 13), defBody (top 13), defScope (top 13), [], []⟩
def dd__law_gcd : He.DefD := ⟨("_law_gcd", none), "_law_gcd", "_law_gcd", defArgs (top 14), defBody (top 14), defScope (top 14), [], []⟩
def dd__law_fraction : He.DefD := ⟨("_law_fraction", none), "_law_fraction", "_law_fraction", defArgs (top 15), defBody (top 15), defScope (top 15), [], []⟩
def dd__law_moment : He.DefD := ⟨("_law_moment", none), "_law_moment", "_law_moment", defArgs (top 21), defBody (top 21), defScope (top 21), [], []⟩
def dd__law_is : He.DefD := ⟨("_law_is", none), "_law_is", "_law_is", defArgs (top 25), defBody (top 25), defScope (top 25), [], []⟩
def dd_fraction : He.DefD := ⟨("fraction", none), "fraction", "fraction", defArgs (top 6), defBody (top 6), defScope (top 6), [], []⟩
def dd__law_no_low : He.DefD := ⟨("_law_no_low", none), "_law_no_low", "_law_no_low", defArgs (top 23), defBody (top 23), defScope (top 23), [], []⟩
def dd__law_cell : He.DefD := ⟨("_law_cell", none), "_law_cell", "_law_cell", defArgs (top 12), defBody (top 12), defScope (top 12), [], []⟩
def dd_plus : He.DefD := ⟨("plus", none), "plus", "plus", defArgs (top 7), defBody (top 7), defScope (top 7), [], []⟩
def dd_over : He.DefD := ⟨("over", none), "over", "over", defArgs (top 10), defBody (top 10), defScope (top 10), [], []⟩
def dd__law_no_over : He.DefD := ⟨("_law_no_over", none), "_law_no_over", "_law_no_over", defArgs (top 24), defBody (top 24), defScope (top 24), [], []⟩
def dd_minus : He.DefD := ⟨("minus", none), "minus", "minus", defArgs (top 8), defBody (top 8), defScope (top 8), [], []⟩
def dd_times : He.DefD := ⟨("times", none), "times", "times", defArgs (top 9), defBody (top 9), defScope (top 9), [], []⟩
def dd_law : He.DefD := ⟨("law", none), "law", "law", defArgs (top 26), defBody (top 26), defScope (top 26), [], []⟩
def fn : List He.DefD := [dd__law_draws, dd__law_gcd, dd__law_fraction, dd__law_moment, dd__law_is, dd_fraction, dd__law_no_low, dd__law_cell, dd_plus, dd_over, dd__law_no_over, dd_minus, dd_times, dd_law]
def fa : List He.Fa := [.glo "_law_draws", .glo "_law_gcd", .glo "_law_fraction", .glo "_law_moment", .glo "_law_is", .glo "fraction", .glo "_law_no_low", .glo "_law_cell", .glo "plus", .glo "over", .glo "_law_no_over", .glo "minus", .glo "times", .glo "law", .glo "BadWork", .glo "LateError", .glo "OutOfRange", .exc "OutOfRange", .free "ValueError", .free "abs", .free "any", .free "bool", .free "int", .free "isinstance", .free "len", .free "range", .free "tuple", .exm "OutOfRange" "OutOfRange" true]
def exL (K : PySem.W.Frag) : List Bool := [He.eqO (PySem.W.nsIn K mainGlobals "gcd") (some (some (.builtin "math.gcd"))), excCB K (He.ga K "OutOfRange"), decide (PySem.W.kitOne K (.ref (He.ga K "OutOfRange")) (.ref (He.ga K "BadWork")) = some false), decide (PySem.W.kitOne K (.ref (He.ga K "OutOfRange")) (.ref (He.ga K "LateError")) = some true), decide (PySem.W.kitOne K (.ref (He.ga K "OutOfRange")) (.type "ValueError") = some true)]
abbrev exB : PySem.W.Frag → Bool := fun K => (exL K).all fun b => b
theorem fx_of {K : PySem.W.Frag} {mg : Str → Option Value} {h : Heap} {w : World} {h0 : Heap} (X : K.In h) (G : h.Ns mainGlobals mg) (c : He.SaysX fa fn [] [] exB w h0 K) : Fx K mg := by
  have glo : ∀ (i : Nat) {x : Str}, fa[i]? = some (.glo x) → mg x = some (.ref (He.ga K x)) := fun i {x} e => He.glo_ok X G (c.t.d.fact i e)
  have free : ∀ (i : Nat) {x : Str}, fa[i]? = some (.free x) → mg x = none := fun i {x} e => He.free_ok X G (c.t.d.fact i e)
  exact ⟨glo 0 rfl,
    c.t.d.def_ 0 (d := dd__law_draws) rfl,
    (c.t.d.def_ 0 (d := dd__law_draws) rfl).elim fun _ h => h.kp,
    glo 1 rfl,
    c.t.d.def_ 1 (d := dd__law_gcd) rfl,
    (c.t.d.def_ 1 (d := dd__law_gcd) rfl).elim fun _ h => h.kp,
    glo 2 rfl,
    c.t.d.def_ 2 (d := dd__law_fraction) rfl,
    (c.t.d.def_ 2 (d := dd__law_fraction) rfl).elim fun _ h => h.kp,
    glo 3 rfl,
    c.t.d.def_ 3 (d := dd__law_moment) rfl,
    (c.t.d.def_ 3 (d := dd__law_moment) rfl).elim fun _ h => h.kp,
    glo 4 rfl,
    c.t.d.def_ 4 (d := dd__law_is) rfl,
    (c.t.d.def_ 4 (d := dd__law_is) rfl).elim fun _ h => h.kp,
    glo 5 rfl,
    c.t.d.def_ 5 (d := dd_fraction) rfl,
    (c.t.d.def_ 5 (d := dd_fraction) rfl).elim fun _ h => h.kp,
    glo 6 rfl,
    c.t.d.def_ 6 (d := dd__law_no_low) rfl,
    (c.t.d.def_ 6 (d := dd__law_no_low) rfl).elim fun _ h => h.kp,
    glo 7 rfl,
    c.t.d.def_ 7 (d := dd__law_cell) rfl,
    (c.t.d.def_ 7 (d := dd__law_cell) rfl).elim fun _ h => h.kp,
    glo 8 rfl,
    c.t.d.def_ 8 (d := dd_plus) rfl,
    (c.t.d.def_ 8 (d := dd_plus) rfl).elim fun _ h => h.kp,
    glo 9 rfl,
    c.t.d.def_ 9 (d := dd_over) rfl,
    (c.t.d.def_ 9 (d := dd_over) rfl).elim fun _ h => h.kp,
    glo 10 rfl,
    c.t.d.def_ 10 (d := dd__law_no_over) rfl,
    (c.t.d.def_ 10 (d := dd__law_no_over) rfl).elim fun _ h => h.kp,
    glo 11 rfl,
    c.t.d.def_ 11 (d := dd_minus) rfl,
    (c.t.d.def_ 11 (d := dd_minus) rfl).elim fun _ h => h.kp,
    glo 12 rfl,
    c.t.d.def_ 12 (d := dd_times) rfl,
    (c.t.d.def_ 12 (d := dd_times) rfl).elim fun _ h => h.kp,
    glo 13 rfl,
    c.t.d.def_ 13 (d := dd_law) rfl,
    (c.t.d.def_ 13 (d := dd_law) rfl).elim fun _ h => h.kp,
    glo 14 rfl,
    glo 15 rfl,
    glo 16 rfl,
    (He.exc_ok (c.t.d.fact 17 rfl)).1,
    (He.exc_ok (c.t.d.fact 17 rfl)).2.1,
    (He.exc_ok (c.t.d.fact 17 rfl)).2.2.1,
    (He.exc_ok (c.t.d.fact 17 rfl)).2.2.2,
    free 18 rfl,
    free 19 rfl,
    free 20 rfl,
    free 21 rfl,
    free 22 rfl,
    free 23 rfl,
    free 24 rfl,
    free 25 rfl,
    free 26 rfl,
    PySem.W.mg_of X G (He.eqO_ok (exGet c.more 0 rfl)),
    (fun c0 b e C hC => by
      unfold ct_OutOfRange at e
      split at e
      · rename_i h; subst h; cases e
        have e1 := (glo 16 rfl).symm.trans hC
        cases e1
        exact He.exm_ok (c.t.d.fact 27 rfl)
      cases e),
    (fun c0 C b e hC => by
      unfold isa_BadWork at e
      split at e
      · rename_i h; subst h; cases e
        have e1 := (glo 16 rfl).symm.trans hC
        cases e1
        exact ⟨excC_of (exGet c.more 1 rfl), of_decide_eq_true (exGet c.more 2 rfl)⟩
      cases e),
    (fun c0 C b e hC => by
      unfold isa_LateError at e
      split at e
      · rename_i h; subst h; cases e
        have e1 := (glo 16 rfl).symm.trans hC
        cases e1
        exact ⟨excC_of (exGet c.more 1 rfl), of_decide_eq_true (exGet c.more 3 rfl)⟩
      cases e),
    (fun c0 C b e hC => by
      unfold isa_ValueError at e
      split at e
      · rename_i h; subst h; cases e
        have e1 := (glo 16 rfl).symm.trans hC
        cases e1
        exact ⟨excC_of (exGet c.more 1 rfl), of_decide_eq_true (exGet c.more 4 rfl)⟩
      cases e)⟩
section
variable {P : Program} {w : World} {K : PySem.W.Frag} {mg : Str → Option Value} {base : Heap}
def l__law_draws_0_i : Rho → Res (List BV) := xItV true (xVa 1)
def l__law_draws_0_b : Rho → SR := sIf (tAndX (xTru (xVa 5)) (xTb (x2 (pl dGt) (xVa 3) (xCn (.int 1))))) (sSeq (sApp (xPl 2) (x2 (pl dMod) (xA true (b1 dInt) [xVa 3]) (xVa 6))) (sAsg 3 (x2 (pl dDiv) (xVa 3) (xVa 6)))) (sSeq (sAsg 4 (x2 (pl dMod) (xA true (b1 dInt) [x2 (pl dAdd) (x2 (pl dMul) (xVa 4) (xCn (.int 48271))) (xCn (.int 11))]) (xCn (.int 2147483647)))) (sSeq (sAsg 4 (x2 (pl dMod) (xA true (b1 dInt) [x2 (pl dAdd) (x2 (pl dMul) (xVa 4) (xCn (.int 69621))) (xCn (.int 7))]) (xCn (.int 2147483647)))) (sApp (xPl 2) (x2 (pl dMod) (xA true (b1 dInt) [x2 (pl dDiv) (xVa 4) (xCn (.int 13))]) (xVa 6)))))
def s__law_draws : Rho → SR := sSeq (sAsg 2 (xA false mkLst [])) (sSeq (sAsg 3 (xA true (b1 dAbs) [xA true (b1 dInt) [xVa 0]])) (sSeq (sAsg 4 (x2 (pl dMod) (xA true (b1 dInt) [xVa 3]) (xCn (.int 2147483647)))) (sSeq (sAsg 5 (xOrV (x2 (pl dLt) (xVa 0) (xCn (.int 0))) (x2 (pl dGe) (xVa 0) (x2 (pl dPow) (xCn (.int 10)) (xCn (.int 18)))))) (sSeq (sFor l__law_draws_0_i (bd1 6) l__law_draws_0_b) (sRet (xVa 2))))))
abbrev f__law_draws : List D → Res (Lv × D) := runB s__law_draws 7 2
theorem sc__law_draws : FnScope ["_law_cell_here", "_law_limits", "_law_found", "_law_rest", "_law_state", "_law_free", "_law_limit"] ["_law_cell_here", "_law_limits"] (defScope (top 13)) := ⟨rfl, rfl, rfl, by decide +kernel, rfl, by decide +kernel, by decide +kernel⟩
theorem d__law_draws (F : Fx K mg) : FnS P w K mg base 1 (He.ga K "_law_draws") 2 f__law_draws := by
  obtain ⟨fd, FF⟩ := F.d__law_draws
  refine fnS_of (N := ["_law_cell_here", "_law_limits", "_law_found", "_law_rest", "_law_state", "_law_free", "_law_limit"]) (ps := ["_law_cell_here", "_law_limits"]) (k := 0) (fun_of FF) sc__law_draws (by decide) (fun _ _ _ _ _ _ us hl => match us, hl with | [_, _], _ => rfl) fun cd A outer s H E hr => ?_
  have tk : Takes (bodyX P w K mg base ["_law_cell_here", "_law_limits", "_law_found", "_law_rest", "_law_state", "_law_free", "_law_limit"] "_law_draws" (top 13) (He.ga K "_law_draws") cd A outer s H E) (bodyW E) := takes_of rfl rfl rfl rfl
  have hp : PassesOwn (model P w) _ _ _ := passes_of (X := bodyX P w K mg base ["_law_cell_here", "_law_limits", "_law_found", "_law_rest", "_law_state", "_law_free", "_law_limit"] "_law_draws" (top 13) (He.ga K "_law_draws") cd A outer s H E) rfl
  have hN := sc__law_draws.nd
  have hu := hr.r.units
  exact (ss_cons (st_asg (i := 2) hN (by rfl) (locl (by rfl)) (se_lst (fr := false) sa_nil (by decide)) (by rfl) (by first | exact .inr rfl | exact .inl rfl))
    (ss_cons (st_asg (i := 3) hN (by rfl) (locl (by rfl)) (se_callB bl_abs (by rfl) F.n_abs bb_abs (sa_cons (se_callTy bl_int (by rfl) F.n_int bb_int (sa_cons (se_va (i := 0) (by rfl) (vis (by rfl)) (by rfl) (by rfl)) sa_nil (by rfl)) (by decide) (by rfl) (by rfl) (by rfl)) sa_nil (by rfl)) (by decide) (by rfl) (by rfl) (by rfl)) (by rfl) (by first | exact .inr rfl | exact .inl rfl))
    (ss_cons (st_asg (i := 4) hN (by rfl) (locl (by rfl)) (se_bin ops_mod (se_callTy bl_int (by rfl) F.n_int bb_int (sa_cons (se_va (i := 3) (by rfl) (vis (by rfl)) (by rfl) (by rfl)) sa_nil (by rfl)) (by decide) (by rfl) (by rfl) (by rfl)) se_int) (by rfl) (by first | exact .inr rfl | exact .inl rfl))
    (ss_cons (st_asg (i := 5) hN (by rfl) (locl (by rfl)) (se_or (se_cmp ops_lt (nomark _) (se_va (i := 0) (by rfl) (vis (by rfl)) (by rfl) (by rfl)) se_int) (se_one (se_cmp ops_ge (nomark _) (se_va (i := 0) (by rfl) (vis (by rfl)) (by rfl) (by rfl)) (se_bin ops_pow se_int se_int)))) (by rfl) (by first | exact .inr rfl | exact .inl rfl))
    (ss_cons (st_for (is := [6]) (xi := l__law_draws_0_i) (bd := bd1 6) (sb := l__law_draws_0_b) hp rfl (si_seq (se_va (i := 1) (by rfl) (vis (by rfl)) (by rfl) (by rfl))) (pg_name (i := 6) hN (by rfl) (locl (by rfl)) (by first | exact .inr rfl | exact .inl rfl)) sg_name (itmOk_seq (cl := true)) (ss_one (st_if (st_bool (sw_and (st_val (se_va (i := 5) (by rfl) (vis (by rfl)) (by rfl) (by rfl)) (fun _ => rfl)) (sw_and1 (st_cmp ops_gt (nomark _) (se_va (i := 3) (by rfl) (vis (by rfl)) (by rfl) (by rfl)) se_int)))) (ss_cons (st_app (sp_name (i := 2) (by rfl) (vis (by rfl)) (by rfl) (by rfl)) (se_bin ops_mod (se_callTy bl_int (by rfl) F.n_int bb_int (sa_cons (se_va (i := 3) (by rfl) (vis (by rfl)) (by rfl) (by rfl)) sa_nil (by rfl)) (by decide) (by rfl) (by rfl) (by rfl)) (se_va (i := 6) (by rfl) (vis (by rfl)) (by rfl) (by rfl))) (by rfl) (by rfl) (by rfl) (by rfl) (by rfl) (by rfl))
    (ss_one (st_asg (i := 3) hN (by rfl) (locl (by rfl)) (se_bin ops_div (se_va (i := 3) (by rfl) (vis (by rfl)) (by rfl) (by rfl)) (se_va (i := 6) (by rfl) (vis (by rfl)) (by rfl) (by rfl))) (by rfl) (by first | exact .inr rfl | exact .inl rfl)))) (ss_cons (st_asg (i := 4) hN (by rfl) (locl (by rfl)) (se_bin ops_mod (se_callTy bl_int (by rfl) F.n_int bb_int (sa_cons (se_bin ops_add (se_bin ops_mul (se_va (i := 4) (by rfl) (vis (by rfl)) (by rfl) (by rfl)) se_int) se_int) sa_nil (by rfl)) (by decide) (by rfl) (by rfl) (by rfl)) se_int) (by rfl) (by first | exact .inr rfl | exact .inl rfl))
    (ss_cons (st_asg (i := 4) hN (by rfl) (locl (by rfl)) (se_bin ops_mod (se_callTy bl_int (by rfl) F.n_int bb_int (sa_cons (se_bin ops_add (se_bin ops_mul (se_va (i := 4) (by rfl) (vis (by rfl)) (by rfl) (by rfl)) se_int) se_int) sa_nil (by rfl)) (by decide) (by rfl) (by rfl) (by rfl)) se_int) (by rfl) (by first | exact .inr rfl | exact .inl rfl))
    (ss_one (st_app (sp_name (i := 2) (by rfl) (vis (by rfl)) (by rfl) (by rfl)) (se_bin ops_mod (se_callTy bl_int (by rfl) F.n_int bb_int (sa_cons (se_bin ops_div (se_va (i := 4) (by rfl) (vis (by rfl)) (by rfl) (by rfl)) se_int) sa_nil (by rfl)) (by decide) (by rfl) (by rfl) (by rfl)) (se_va (i := 6) (by rfl) (vis (by rfl)) (by rfl) (by rfl))) (by rfl) (by rfl) (by rfl) (by rfl) (by rfl) (by rfl))))))) (fun _ => rfl))
    (ss_one (st_ret (se_va (i := 2) (by rfl) (vis (by rfl)) (by rfl) (by rfl)))))))))
def l__law_gcd_0_i : Rho → Res (List BV) := xItA rangeV1 [x2 (pl dAdd) (x2 (pl dAdd) (x1 (p1 dBits) (xVa 0)) (x1 (p1 dBits) (xVa 1))) (xCn (.int 4))]
def l__law_gcd_0_b : Rho → SR := sSeq (sIf (xTb (x2 (pl dEq) (xVa 1) (xCn (.int 0)))) (sRet (xVa 0)) (sNil)) (sSeq (sAsg 3 (x2 (pl dMod) (xA true (b1 dInt) [xVa 0]) (xVa 1))) (sSeq (sAsg 0 (xVa 1)) (sAsg 1 (xVa 3))))
def s__law_gcd : Rho → SR := sSeq (sAsg 0 (xA true (b1 dAbs) [xVa 0])) (sSeq (sAsg 1 (xA true (b1 dAbs) [xVa 1])) (sSeq (sFor l__law_gcd_0_i (bd1 2) l__law_gcd_0_b) (sRet (xVa 0))))
abbrev f__law_gcd : List D → Res (Lv × D) := runB s__law_gcd 4 2
theorem sc__law_gcd : FnScope ["_law_a", "_law_b", "_law_k", "_law_rest"] ["_law_a", "_law_b"] (defScope (top 14)) := ⟨rfl, rfl, rfl, by decide +kernel, rfl, by decide +kernel, by decide +kernel⟩
theorem d__law_gcd (F : Fx K mg) : FnS P w K mg base 1 (He.ga K "_law_gcd") 2 f__law_gcd := by
  obtain ⟨fd, FF⟩ := F.d__law_gcd
  refine fnS_of (N := ["_law_a", "_law_b", "_law_k", "_law_rest"]) (ps := ["_law_a", "_law_b"]) (k := 0) (fun_of FF) sc__law_gcd (by decide) (fun _ _ _ _ _ _ us hl => match us, hl with | [_, _], _ => rfl) fun cd A outer s H E hr => ?_
  have tk : Takes (bodyX P w K mg base ["_law_a", "_law_b", "_law_k", "_law_rest"] "_law_gcd" (top 14) (He.ga K "_law_gcd") cd A outer s H E) (bodyW E) := takes_of rfl rfl rfl rfl
  have hp : PassesOwn (model P w) _ _ _ := passes_of (X := bodyX P w K mg base ["_law_a", "_law_b", "_law_k", "_law_rest"] "_law_gcd" (top 14) (He.ga K "_law_gcd") cd A outer s H E) rfl
  have hN := sc__law_gcd.nd
  have hu := hr.r.units
  exact (ss_cons (st_asg (i := 0) hN (by rfl) (locl (by rfl)) (se_callB bl_abs (by rfl) F.n_abs bb_abs (sa_cons (se_va (i := 0) (by rfl) (vis (by rfl)) (by rfl) (by rfl)) sa_nil (by rfl)) (by decide) (by rfl) (by rfl) (by rfl)) (by rfl) (by first | exact .inr rfl | exact .inl rfl))
    (ss_cons (st_asg (i := 1) hN (by rfl) (locl (by rfl)) (se_callB bl_abs (by rfl) F.n_abs bb_abs (sa_cons (se_va (i := 1) (by rfl) (vis (by rfl)) (by rfl) (by rfl)) sa_nil (by rfl)) (by decide) (by rfl) (by rfl) (by rfl)) (by rfl) (by first | exact .inr rfl | exact .inl rfl))
    (ss_cons (st_for (is := [2]) (xi := l__law_gcd_0_i) (bd := bd1 2) (sb := l__law_gcd_0_b) hp rfl (si_range1 (by rfl) F.n_range (sa_cons (se_bin ops_add (se_bin ops_add (se_bits (se_va (i := 0) (by rfl) (vis (by rfl)) (by rfl) (by rfl)) (by rfl) (by rfl)) (se_bits (se_va (i := 1) (by rfl) (vis (by rfl)) (by rfl) (by rfl)) (by rfl) (by rfl))) se_int) sa_nil (by rfl)) (by rfl)) (pg_name (i := 2) hN (by rfl) (locl (by rfl)) (by first | exact .inr rfl | exact .inl rfl)) sg_name (itmOk_range1 (cl := true)) (ss_cons (st_if (st_cmp (ops_eq hu) (nomark _) (se_va (i := 1) (by rfl) (vis (by rfl)) (by rfl) (by rfl)) se_int) (ss_one (st_ret (se_va (i := 0) (by rfl) (vis (by rfl)) (by rfl) (by rfl)))) ss_nil)
    (ss_cons (st_asg (i := 3) hN (by rfl) (locl (by rfl)) (se_bin ops_mod (se_callTy bl_int (by rfl) F.n_int bb_int (sa_cons (se_va (i := 0) (by rfl) (vis (by rfl)) (by rfl) (by rfl)) sa_nil (by rfl)) (by decide) (by rfl) (by rfl) (by rfl)) (se_va (i := 1) (by rfl) (vis (by rfl)) (by rfl) (by rfl))) (by rfl) (by first | exact .inr rfl | exact .inl rfl))
    (ss_cons (st_asg (i := 0) hN (by rfl) (locl (by rfl)) (se_va (i := 1) (by rfl) (vis (by rfl)) (by rfl) (by rfl)) (by rfl) (by first | exact .inr rfl | exact .inl rfl))
    (ss_one (st_asg (i := 1) hN (by rfl) (locl (by rfl)) (se_va (i := 3) (by rfl) (vis (by rfl)) (by rfl) (by rfl)) (by rfl) (by first | exact .inr rfl | exact .inl rfl)))))) (fun _ => rfl))
    (ss_one (st_ret (se_va (i := 0) (by rfl) (vis (by rfl)) (by rfl) (by rfl)))))))
def s__law_fraction : Rho → SR := sSeq (sAsg 2 (xA true (xCall f__law_gcd 2) [xVa 0, xVa 1])) (sSeq (sIf (xTb (x2 (pl dLt) (xVa 1) (xCn (.int 0)))) (sAsg 2 (x1 (p1 dNeg) (xVa 2))) (sNil)) (sRet (xA false mkTup [x2 (pl dDiv) (xVa 0) (xVa 2), x2 (pl dDiv) (xVa 1) (xVa 2)])))
abbrev f__law_fraction : List D → Res (Lv × D) := runB s__law_fraction 3 2
theorem sc__law_fraction : FnScope ["_law_top", "_law_low", "_law_common"] ["_law_top", "_law_low"] (defScope (top 15)) := ⟨rfl, rfl, rfl, by decide +kernel, rfl, by decide +kernel, by decide +kernel⟩
theorem d__law_fraction (F : Fx K mg) : FnS P w K mg base 2 (He.ga K "_law_fraction") 2 f__law_fraction := by
  obtain ⟨fd, FF⟩ := F.d__law_fraction
  refine fnS_of (N := ["_law_top", "_law_low", "_law_common"]) (ps := ["_law_top", "_law_low"]) (k := 1) (fun_of FF) sc__law_fraction (by decide) (fun _ _ _ _ _ _ us hl => match us, hl with | [_, _], _ => rfl) fun cd A outer s H E hr => ?_
  have tk : Takes (bodyX P w K mg base ["_law_top", "_law_low", "_law_common"] "_law_fraction" (top 15) (He.ga K "_law_fraction") cd A outer s H E) (bodyW E) := takes_of rfl rfl rfl rfl
  have hp : PassesOwn (model P w) _ _ _ := passes_of (X := bodyX P w K mg base ["_law_top", "_law_low", "_law_common"] "_law_fraction" (top 15) (He.ga K "_law_fraction") cd A outer s H E) rfl
  have hN := sc__law_fraction.nd
  have hu := hr.r.units
  exact (ss_cons (st_asg (i := 2) hN (by rfl) (locl (by rfl)) (se_call ((d__law_gcd F).mono (by omega)) hr tk (by rfl) F.g__law_gcd F.k__law_gcd (sa_cons (se_va (i := 0) (by rfl) (vis (by rfl)) (by rfl) (by rfl)) (sa_cons (se_va (i := 1) (by rfl) (vis (by rfl)) (by rfl) (by rfl)) sa_nil (by rfl)) (by rfl)) (by rfl) (by rfl) (by rfl)) (by rfl) (by first | exact .inr rfl | exact .inl rfl))
    (ss_cons (st_if (st_cmp ops_lt (nomark _) (se_va (i := 1) (by rfl) (vis (by rfl)) (by rfl) (by rfl)) se_int) (ss_one (st_asg (i := 2) hN (by rfl) (locl (by rfl)) (se_neg (se_va (i := 2) (by rfl) (vis (by rfl)) (by rfl) (by rfl))) (by rfl) (by first | exact .inr rfl | exact .inl rfl))) ss_nil)
    (ss_one (st_ret (se_tup (fr := false) (sa_cons (se_bin ops_div (se_va (i := 0) (by rfl) (vis (by rfl)) (by rfl) (by rfl)) (se_va (i := 2) (by rfl) (vis (by rfl)) (by rfl) (by rfl))) (sa_cons (se_bin ops_div (se_va (i := 1) (by rfl) (vis (by rfl)) (by rfl) (by rfl)) (se_va (i := 2) (by rfl) (vis (by rfl)) (by rfl) (by rfl))) sa_nil (by rfl)) (by rfl)) (by decide))))))
def s__law_moment : Rho → SR := sSeq (sAsg 1 (xA true (xCall f__law_draws 2) [xVa 0, xA false mkLst [xCn (.int 8), xCn (.int 21), xCn (.int 6), xCn (.int 2000001), xCn (.int 1000000)]])) (sSeq (sIf (xTb (x2 (pl dLt) (x2 ixD (xVa 1) (xCn (.int 0))) (xCn (.int 2)))) (sRet (xCn .none)) (sNil)) (sSeq (sIf (xTb (x2 (pl dEq) (x2 ixD (xVa 1) (xCn (.int 0))) (xCn (.int 2)))) (sRet (xA true (xCall f__law_fraction 2) [x2 (pl dSub) (x2 ixD (xVa 1) (xCn (.int 3))) (xCn (.int 1000000)), x2 (pl dAdd) (xCn (.int 1)) (x2 ixD (xVa 1) (xCn (.int 4)))])) (sNil)) (sSeq (sIf (xTb (x2 (pl dEq) (x2 ixD (xVa 1) (xCn (.int 0))) (xCn (.int 3)))) (sRet (xA true (xCall f__law_fraction 2) [x2 (pl dSub) (x2 ixD (xVa 1) (xCn (.int 1))) (xCn (.int 10)), x2 (pl dAdd) (xCn (.int 1)) (x2 ixD (xVa 1) (xCn (.int 2)))])) (sNil)) (sRet (xA false mkTup [x2 (pl dSub) (x2 ixD (xVa 1) (xCn (.int 1))) (xCn (.int 10)), xCn (.int 1)])))))
abbrev f__law_moment : List D → Res (Lv × D) := runB s__law_moment 2 1
theorem sc__law_moment : FnScope ["_law_cell_here", "_law_draws_here"] ["_law_cell_here"] (defScope (top 21)) := ⟨rfl, rfl, rfl, by decide +kernel, rfl, by decide +kernel, by decide +kernel⟩
theorem d__law_moment (F : Fx K mg) : FnS P w K mg base 3 (He.ga K "_law_moment") 1 f__law_moment := by
  obtain ⟨fd, FF⟩ := F.d__law_moment
  refine fnS_of (N := ["_law_cell_here", "_law_draws_here"]) (ps := ["_law_cell_here"]) (k := 2) (fun_of FF) sc__law_moment (by decide) (fun _ _ _ _ _ _ us hl => match us, hl with | [_], _ => rfl) fun cd A outer s H E hr => ?_
  have tk : Takes (bodyX P w K mg base ["_law_cell_here", "_law_draws_here"] "_law_moment" (top 21) (He.ga K "_law_moment") cd A outer s H E) (bodyW E) := takes_of rfl rfl rfl rfl
  have hp : PassesOwn (model P w) _ _ _ := passes_of (X := bodyX P w K mg base ["_law_cell_here", "_law_draws_here"] "_law_moment" (top 21) (He.ga K "_law_moment") cd A outer s H E) rfl
  have hN := sc__law_moment.nd
  have hu := hr.r.units
  exact (ss_cons (st_asg (i := 1) hN (by rfl) (locl (by rfl)) (se_call ((d__law_draws F).mono (by omega)) hr tk (by rfl) F.g__law_draws F.k__law_draws (sa_cons (se_va (i := 0) (by rfl) (vis (by rfl)) (by rfl) (by rfl)) (sa_cons (se_lst (fr := false) (sa_cons se_int (sa_cons se_int (sa_cons se_int (sa_cons se_int (sa_cons se_int sa_nil (by rfl)) (by rfl)) (by rfl)) (by rfl)) (by rfl)) (by decide)) sa_nil (by rfl)) (by rfl)) (by rfl) (by rfl) (by rfl)) (by rfl) (by first | exact .inr rfl | exact .inl rfl))
    (ss_cons (st_if (st_cmp ops_lt (nomark _) (se_ix (se_va (i := 1) (by rfl) (vis (by rfl)) (by rfl) (by rfl)) se_int (fun _ _ => rfl)) se_int) (ss_one (st_ret se_non)) ss_nil)
    (ss_cons (st_if (st_cmp (ops_eq hu) (nomark _) (se_ix (se_va (i := 1) (by rfl) (vis (by rfl)) (by rfl) (by rfl)) se_int (fun _ _ => rfl)) se_int) (ss_one (st_ret (se_call ((d__law_fraction F).mono (by omega)) hr tk (by rfl) F.g__law_fraction F.k__law_fraction (sa_cons (se_bin ops_sub (se_ix (se_va (i := 1) (by rfl) (vis (by rfl)) (by rfl) (by rfl)) se_int (fun _ _ => rfl)) se_int) (sa_cons (se_bin ops_add se_int (se_ix (se_va (i := 1) (by rfl) (vis (by rfl)) (by rfl) (by rfl)) se_int (fun _ _ => rfl))) sa_nil (by rfl)) (by rfl)) (by rfl) (by rfl) (by rfl)))) ss_nil)
    (ss_cons (st_if (st_cmp (ops_eq hu) (nomark _) (se_ix (se_va (i := 1) (by rfl) (vis (by rfl)) (by rfl) (by rfl)) se_int (fun _ _ => rfl)) se_int) (ss_one (st_ret (se_call ((d__law_fraction F).mono (by omega)) hr tk (by rfl) F.g__law_fraction F.k__law_fraction (sa_cons (se_bin ops_sub (se_ix (se_va (i := 1) (by rfl) (vis (by rfl)) (by rfl) (by rfl)) se_int (fun _ _ => rfl)) se_int) (sa_cons (se_bin ops_add se_int (se_ix (se_va (i := 1) (by rfl) (vis (by rfl)) (by rfl) (by rfl)) se_int (fun _ _ => rfl))) sa_nil (by rfl)) (by rfl)) (by rfl) (by rfl) (by rfl)))) ss_nil)
    (ss_one (st_ret (se_tup (fr := false) (sa_cons (se_bin ops_sub (se_ix (se_va (i := 1) (by rfl) (vis (by rfl)) (by rfl) (by rfl)) se_int (fun _ _ => rfl)) se_int) (sa_cons se_int sa_nil (by rfl)) (by rfl)) (by decide))))))))
def c__law_is_0_i : Rho → Res (List BV) := xItV false (xVa 0)
def c__law_is_0_c : Rho → Res Bool := tTrue
def c__law_is_0_x : Rho → Res BV := x1 (p1 (dIsi "bool")) (xVa 4)
def s__law_is : Rho → SR := sSeq (sAsg 3 (xA true (xCall f__law_fraction 2) [xVa 1, xVa 2])) (sSeq (sIf (tOrX (tNotX (xTru (x1 (p1 (dIsi "tuple")) (xVa 0)))) (xTb (x2 (pl dNe) (xVa 0) (xVa 3)))) (sRet (xCn (.bool false))) (sNil)) (sRet (xNotV (xA true (b1 (dQuant fun bs => bs.any id)) [xLc c__law_is_0_i [4] (bd1 4) c__law_is_0_c c__law_is_0_x]))))
abbrev f__law_is : List D → Res (Lv × D) := runB s__law_is 5 3
theorem sc__law_is : FnScope ["_law_actual", "_law_top", "_law_low", "_law_due", "_law_item"] ["_law_actual", "_law_top", "_law_low"] (defScope (top 25)) := ⟨rfl, rfl, rfl, by decide +kernel, rfl, by decide +kernel, by decide +kernel⟩
theorem d__law_is (F : Fx K mg) : FnS P w K mg base 3 (He.ga K "_law_is") 3 f__law_is := by
  obtain ⟨fd, FF⟩ := F.d__law_is
  refine fnS_of (N := ["_law_actual", "_law_top", "_law_low", "_law_due", "_law_item"]) (ps := ["_law_actual", "_law_top", "_law_low"]) (k := 2) (fun_of FF) sc__law_is (by decide) (fun _ _ _ _ _ _ us hl => match us, hl with | [_, _, _], _ => rfl) fun cd A outer s H E hr => ?_
  have tk : Takes (bodyX P w K mg base ["_law_actual", "_law_top", "_law_low", "_law_due", "_law_item"] "_law_is" (top 25) (He.ga K "_law_is") cd A outer s H E) (bodyW E) := takes_of rfl rfl rfl rfl
  have hp : PassesOwn (model P w) _ _ _ := passes_of (X := bodyX P w K mg base ["_law_actual", "_law_top", "_law_low", "_law_due", "_law_item"] "_law_is" (top 25) (He.ga K "_law_is") cd A outer s H E) rfl
  have hN := sc__law_is.nd
  have hu := hr.r.units
  exact (ss_cons (st_asg (i := 3) hN (by rfl) (locl (by rfl)) (se_call ((d__law_fraction F).mono (by omega)) hr tk (by rfl) F.g__law_fraction F.k__law_fraction (sa_cons (se_va (i := 1) (by rfl) (vis (by rfl)) (by rfl) (by rfl)) (sa_cons (se_va (i := 2) (by rfl) (vis (by rfl)) (by rfl) (by rfl)) sa_nil (by rfl)) (by rfl)) (by rfl) (by rfl) (by rfl)) (by rfl) (by first | exact .inr rfl | exact .inl rfl))
    (ss_cons (st_if (st_bool (sw_or (st_not (st_val (se_isi (se_va (i := 0) (by rfl) (vis (by rfl)) (by rfl) (by rfl)) (by rfl) F.n_isinstance bb_isinstance (by rfl) F.n_tuple bb_tuple (by decide) (by rfl) (by rfl) (by rfl) (by rfl)) (fun _ => rfl))) (sw_or1 (st_cmp (ops_ne hu) (nomark _) (se_va (i := 0) (by rfl) (vis (by rfl)) (by rfl) (by rfl)) (se_va (i := 3) (by rfl) (vis (by rfl)) (by rfl) (by rfl)))))) (ss_one (st_ret se_bl)) ss_nil)
    (ss_one (st_ret (se_not (se_callB (bl_any rfl) (by rfl) F.n_any bb_any (sa_cons (se_lc (is := [4]) (ow := [("_law_item", 4)]) (xi := c__law_is_0_i) (c := c__law_is_0_c) (x := c__law_is_0_x) (bd := bd1 4) rfl hN (blkOk_by (N := ["_law_actual", "_law_top", "_law_low", "_law_due", "_law_item"]) (sc := defScope (top 25)) (by decide +kernel)) (si_seq (se_va (i := 0) (by rfl) (vis (by rfl)) (by rfl) (by rfl))) itmOk_seq (fun bs bH bC bcl bfp => (pg_name (i := 4) hN (by rfl) (locl (by rfl)) (by first | exact .inr rfl | exact .inl rfl))) sg_name (by decide) (fun bs bH bC bcl bfp => stt_nil) (fun bs bH bC bcl bfp => (se_isi (se_va (i := 4) (by rfl) (vis (by rfl)) (by rfl) (by rfl)) (by rfl) F.n_isinstance bb_isinstance (by rfl) F.n_bool bb_bool (by decide) (by rfl) (by rfl) (by rfl) (by rfl))) (fun _ => rfl)) sa_nil (by rfl)) (by decide) (by rfl) (by rfl) (by rfl)))))))
def s_fraction : Rho → SR := sSeq (sIf (xTb (x2 (pl dEq) (xVa 1) (xCn (.int 0)))) (sRz "OutOfRange") (sNil)) (sSeq (sAsg 2 (xA true (b2 dGcd) [xVa 0, xVa 1])) (sSeq (sIf (xTb (x2 (pl dLt) (xVa 1) (xCn (.int 0)))) (sAsg 2 (x1 (p1 dNeg) (xVa 2))) (sNil)) (sRet (xA false mkTup [x2 (pl dDiv) (xVa 0) (xVa 2), x2 (pl dDiv) (xVa 1) (xVa 2)]))))
abbrev f_fraction : List D → Res (Lv × D) := runB s_fraction 3 2
theorem sc_fraction : FnScope ["top", "low", "divisor"] ["top", "low"] (defScope (top 6)) := ⟨rfl, rfl, rfl, by decide +kernel, rfl, by decide +kernel, by decide +kernel⟩
theorem d_fraction (F : Fx K mg) : FnS P w K mg base 1 (He.ga K "fraction") 2 f_fraction := by
  obtain ⟨fd, FF⟩ := F.d_fraction
  refine fnS_of (N := ["top", "low", "divisor"]) (ps := ["top", "low"]) (k := 0) (fun_of FF) sc_fraction (by decide) (fun _ _ _ _ _ _ us hl => match us, hl with | [_, _], _ => rfl) fun cd A outer s H E hr => ?_
  have tk : Takes (bodyX P w K mg base ["top", "low", "divisor"] "fraction" (top 6) (He.ga K "fraction") cd A outer s H E) (bodyW E) := takes_of rfl rfl rfl rfl
  have hp : PassesOwn (model P w) _ _ _ := passes_of (X := bodyX P w K mg base ["top", "low", "divisor"] "fraction" (top 6) (He.ga K "fraction") cd A outer s H E) rfl
  have hN := sc_fraction.nd
  have hu := hr.r.units
  exact (ss_cons (st_if (st_cmp (ops_eq hu) (nomark _) (se_va (i := 1) (by rfl) (vis (by rfl)) (by rfl) (by rfl)) se_int) (ss_one (st_raise rfl tk F.g_OutOfRange (pmk_own PySem.F.excBase_ValueError F.x_OutOfRange F.g_OutOfRange F.k_OutOfRange (raises_own F.b_OutOfRange F.t_OutOfRange) (by rfl) (by rfl)))) ss_nil)
    (ss_cons (st_asg (i := 2) hN (by rfl) (locl (by rfl)) (se_callBf bl_gcd (by rfl) F.i_gcd (sa_cons (se_va (i := 0) (by rfl) (vis (by rfl)) (by rfl) (by rfl)) (sa_cons (se_va (i := 1) (by rfl) (vis (by rfl)) (by rfl) (by rfl)) sa_nil (by rfl)) (by rfl)) (by rfl) (by rfl) (by rfl)) (by rfl) (by first | exact .inr rfl | exact .inl rfl))
    (ss_cons (st_if (st_cmp ops_lt (nomark _) (se_va (i := 1) (by rfl) (vis (by rfl)) (by rfl) (by rfl)) se_int) (ss_one (st_asg (i := 2) hN (by rfl) (locl (by rfl)) (se_neg (se_va (i := 2) (by rfl) (vis (by rfl)) (by rfl) (by rfl))) (by rfl) (by first | exact .inr rfl | exact .inl rfl))) ss_nil)
    (ss_one (st_ret (se_tup (fr := false) (sa_cons (se_bin ops_div (se_va (i := 0) (by rfl) (vis (by rfl)) (by rfl) (by rfl)) (se_va (i := 2) (by rfl) (vis (by rfl)) (by rfl) (by rfl))) (sa_cons (se_bin ops_div (se_va (i := 1) (by rfl) (vis (by rfl)) (by rfl) (by rfl)) (se_va (i := 2) (by rfl) (vis (by rfl)) (by rfl) (by rfl))) sa_nil (by rfl)) (by rfl)) (by decide)))))))
def t__law_no_low_0_s (a : Addr) (c : Str) : Rho → SR := sRet (xAndV (xIsE 1 a (isa_LateError c)) (xAndV (xIsE 1 a (isa_ValueError c)) (xNotV (xIsE 1 a (isa_BadWork c)))))
def s__law_no_low : Rho → SR := sSeq (sTryAs 1 ct_OutOfRange (sEx (xA true (xCall f_fraction 2) [xVa 0, xCn (.int 0)])) t__law_no_low_0_s) (sRet (xCn (.bool false)))
abbrev f__law_no_low : List D → Res (Lv × D) := runB s__law_no_low 2 1
theorem sc__law_no_low : FnScope ["_law_top", "e"] ["_law_top"] (defScope (top 23)) := ⟨rfl, rfl, rfl, by decide +kernel, rfl, by decide +kernel, by decide +kernel⟩
theorem d__law_no_low (F : Fx K mg) : FnS P w K mg base 2 (He.ga K "_law_no_low") 1 f__law_no_low := by
  obtain ⟨fd, FF⟩ := F.d__law_no_low
  refine fnS_of (N := ["_law_top", "e"]) (ps := ["_law_top"]) (k := 1) (fun_of FF) sc__law_no_low (by decide) (fun _ _ _ _ _ _ us hl => match us, hl with | [_], _ => rfl) fun cd A outer s H E hr => ?_
  have tk : Takes (bodyX P w K mg base ["_law_top", "e"] "_law_no_low" (top 23) (He.ga K "_law_no_low") cd A outer s H E) (bodyW E) := takes_of rfl rfl rfl rfl
  have hp : PassesOwn (model P w) _ _ _ := passes_of (X := bodyX P w K mg base ["_law_top", "e"] "_law_no_low" (top 23) (He.ga K "_law_no_low") cd A outer s H E) rfl
  have hN := sc__law_no_low.nd
  have hu := hr.r.units
  exact (ss_cons (st_tryAs (i := 1) (cs := ct_OutOfRange) (s := t__law_no_low_0_s) (by rfl) (by rfl) hN (by rfl) (by rfl) ⟨by rfl, by rfl, .inl F.g_OutOfRange⟩ tk F.h_OutOfRange (fun W pn xe tk => (ss_one (st_expr (se_call ((d_fraction F).mono (by omega)) hr tk (by rfl) F.g_fraction F.k_fraction (sa_cons (se_va (i := 0) (by rfl) (vis (by rfl)) (by rfl) (by rfl)) (sa_cons se_int sa_nil (by rfl)) (by rfl)) (by rfl) (by rfl) (by rfl)) (by rfl)))) (fun a oe c C pn hC hz hd => (ss_one (st_ret (se_and (se_isE hC hz hd (by rfl) (vis (by rfl)) (by rfl) (by rfl) (by rfl) F.n_isinstance bb_isinstance (pe_glob (v := .ref (He.ga K "LateError")) (by rfl) F.g_LateError rfl (by rfl)) (fun u h => h) (F.i_LateError c) (by rfl) (by rfl) (by rfl)) (se_and (se_isE hC hz hd (by rfl) (vis (by rfl)) (by rfl) (by rfl) (by rfl) F.n_isinstance bb_isinstance (pe_bltn (v := .ty "ValueError") (by rfl) F.n_ValueError bb_ValueError rfl (by decide) (by rfl)) (fun u h => h) (F.i_ValueError c) (by rfl) (by rfl) (by rfl)) (se_one (se_not (se_isE hC hz hd (by rfl) (vis (by rfl)) (by rfl) (by rfl) (by rfl) F.n_isinstance bb_isinstance (pe_glob (v := .ref (He.ga K "BadWork")) (by rfl) F.g_BadWork rfl (by rfl)) (fun u h => h) (F.i_BadWork c) (by rfl) (by rfl) (by rfl))))))))) (by intro a c ρ; exact kill_ret (by simp only [xTru, xTb, xAndV, xOrV, xNotV, xIte, tAndX, tNotX, xIsE_set])))
    (ss_one (st_ret se_bl)))
def s__law_cell : Rho → SR := sSeq (sIf (xTb (x2 (pl dLt) (xVa 1) (xA true (b1 dLen) [xVa 0]))) (sRet (xA true (b1 dInt) [x2 ixD (xVa 0) (xVa 1)])) (sNil)) (sRet (xCn (.int 0)))
abbrev f__law_cell : List D → Res (Lv × D) := runB s__law_cell 2 2
theorem sc__law_cell : FnScope ["_law_script", "_law_k"] ["_law_script", "_law_k"] (defScope (top 12)) := ⟨rfl, rfl, rfl, by decide +kernel, rfl, by decide +kernel, by decide +kernel⟩
theorem d__law_cell (F : Fx K mg) : FnS P w K mg base 1 (He.ga K "_law_cell") 2 f__law_cell := by
  obtain ⟨fd, FF⟩ := F.d__law_cell
  refine fnS_of (N := ["_law_script", "_law_k"]) (ps := ["_law_script", "_law_k"]) (k := 0) (fun_of FF) sc__law_cell (by decide) (fun _ _ _ _ _ _ us hl => match us, hl with | [_, _], _ => rfl) fun cd A outer s H E hr => ?_
  have tk : Takes (bodyX P w K mg base ["_law_script", "_law_k"] "_law_cell" (top 12) (He.ga K "_law_cell") cd A outer s H E) (bodyW E) := takes_of rfl rfl rfl rfl
  have hp : PassesOwn (model P w) _ _ _ := passes_of (X := bodyX P w K mg base ["_law_script", "_law_k"] "_law_cell" (top 12) (He.ga K "_law_cell") cd A outer s H E) rfl
  have hN := sc__law_cell.nd
  have hu := hr.r.units
  exact (ss_cons (st_if (st_cmp ops_lt (nomark _) (se_va (i := 1) (by rfl) (vis (by rfl)) (by rfl) (by rfl)) (se_callB bl_len (by rfl) F.n_len bb_len (sa_cons (se_va (i := 0) (by rfl) (vis (by rfl)) (by rfl) (by rfl)) sa_nil (by rfl)) (by decide) (by rfl) (by rfl) (by rfl))) (ss_one (st_ret (se_callTy bl_int (by rfl) F.n_int bb_int (sa_cons (se_ix (se_va (i := 0) (by rfl) (vis (by rfl)) (by rfl) (by rfl)) (se_va (i := 1) (by rfl) (vis (by rfl)) (by rfl) (by rfl)) (fun _ _ => rfl)) sa_nil (by rfl)) (by decide) (by rfl) (by rfl) (by rfl)))) ss_nil)
    (ss_one (st_ret se_int)))
def s_plus : Rho → SR := sSeq (sIf (tOrX (xTb (x2 (pl dIs) (xVa 0) (xCn .none))) (xTb (x2 (pl dIs) (xVa 1) (xCn .none)))) (sRet (xCn .none)) (sNil)) (sRet (xA true (xCall f_fraction 2) [x2 (pl dAdd) (x2 (pl dMul) (x2 ixD (xVa 0) (xCn (.int 0))) (x2 ixD (xVa 1) (xCn (.int 1)))) (x2 (pl dMul) (x2 ixD (xVa 1) (xCn (.int 0))) (x2 ixD (xVa 0) (xCn (.int 1)))), x2 (pl dMul) (x2 ixD (xVa 0) (xCn (.int 1))) (x2 ixD (xVa 1) (xCn (.int 1)))]))
abbrev f_plus : List D → Res (Lv × D) := runB s_plus 2 2
theorem sc_plus : FnScope ["first", "second"] ["first", "second"] (defScope (top 7)) := ⟨rfl, rfl, rfl, by decide +kernel, rfl, by decide +kernel, by decide +kernel⟩
theorem d_plus (F : Fx K mg) : FnS P w K mg base 2 (He.ga K "plus") 2 f_plus := by
  obtain ⟨fd, FF⟩ := F.d_plus
  refine fnS_of (N := ["first", "second"]) (ps := ["first", "second"]) (k := 1) (fun_of FF) sc_plus (by decide) (fun _ _ _ _ _ _ us hl => match us, hl with | [_, _], _ => rfl) fun cd A outer s H E hr => ?_
  have tk : Takes (bodyX P w K mg base ["first", "second"] "plus" (top 7) (He.ga K "plus") cd A outer s H E) (bodyW E) := takes_of rfl rfl rfl rfl
  have hp : PassesOwn (model P w) _ _ _ := passes_of (X := bodyX P w K mg base ["first", "second"] "plus" (top 7) (He.ga K "plus") cd A outer s H E) rfl
  have hN := sc_plus.nd
  have hu := hr.r.units
  exact (ss_cons (st_if (st_bool (sw_or (st_cmp ops_is (nomark _) (se_va (i := 0) (by rfl) (vis (by rfl)) (by rfl) (by rfl)) se_non) (sw_or1 (st_cmp ops_is (nomark _) (se_va (i := 1) (by rfl) (vis (by rfl)) (by rfl) (by rfl)) se_non)))) (ss_one (st_ret se_non)) ss_nil)
    (ss_one (st_ret (se_call ((d_fraction F).mono (by omega)) hr tk (by rfl) F.g_fraction F.k_fraction (sa_cons (se_bin ops_add (se_bin ops_mul (se_ix (se_va (i := 0) (by rfl) (vis (by rfl)) (by rfl) (by rfl)) se_int (fun _ _ => rfl)) (se_ix (se_va (i := 1) (by rfl) (vis (by rfl)) (by rfl) (by rfl)) se_int (fun _ _ => rfl))) (se_bin ops_mul (se_ix (se_va (i := 1) (by rfl) (vis (by rfl)) (by rfl) (by rfl)) se_int (fun _ _ => rfl)) (se_ix (se_va (i := 0) (by rfl) (vis (by rfl)) (by rfl) (by rfl)) se_int (fun _ _ => rfl)))) (sa_cons (se_bin ops_mul (se_ix (se_va (i := 0) (by rfl) (vis (by rfl)) (by rfl) (by rfl)) se_int (fun _ _ => rfl)) (se_ix (se_va (i := 1) (by rfl) (vis (by rfl)) (by rfl) (by rfl)) se_int (fun _ _ => rfl))) sa_nil (by rfl)) (by rfl)) (by rfl) (by rfl) (by rfl)))))
def s_over : Rho → SR := sRet (xA true (xCall f_fraction 2) [x2 (pl dMul) (x2 ixD (xVa 0) (xCn (.int 0))) (x2 ixD (xVa 1) (xCn (.int 1))), x2 (pl dMul) (x2 ixD (xVa 0) (xCn (.int 1))) (x2 ixD (xVa 1) (xCn (.int 0)))])
abbrev f_over : List D → Res (Lv × D) := runB s_over 2 2
theorem sc_over : FnScope ["first", "second"] ["first", "second"] (defScope (top 10)) := ⟨rfl, rfl, rfl, by decide +kernel, rfl, by decide +kernel, by decide +kernel⟩
theorem d_over (F : Fx K mg) : FnS P w K mg base 2 (He.ga K "over") 2 f_over := by
  obtain ⟨fd, FF⟩ := F.d_over
  refine fnS_of (N := ["first", "second"]) (ps := ["first", "second"]) (k := 1) (fun_of FF) sc_over (by decide) (fun _ _ _ _ _ _ us hl => match us, hl with | [_, _], _ => rfl) fun cd A outer s H E hr => ?_
  have tk : Takes (bodyX P w K mg base ["first", "second"] "over" (top 10) (He.ga K "over") cd A outer s H E) (bodyW E) := takes_of rfl rfl rfl rfl
  have hp : PassesOwn (model P w) _ _ _ := passes_of (X := bodyX P w K mg base ["first", "second"] "over" (top 10) (He.ga K "over") cd A outer s H E) rfl
  have hN := sc_over.nd
  have hu := hr.r.units
  exact (ss_one (st_ret (se_call ((d_fraction F).mono (by omega)) hr tk (by rfl) F.g_fraction F.k_fraction (sa_cons (se_bin ops_mul (se_ix (se_va (i := 0) (by rfl) (vis (by rfl)) (by rfl) (by rfl)) se_int (fun _ _ => rfl)) (se_ix (se_va (i := 1) (by rfl) (vis (by rfl)) (by rfl) (by rfl)) se_int (fun _ _ => rfl))) (sa_cons (se_bin ops_mul (se_ix (se_va (i := 0) (by rfl) (vis (by rfl)) (by rfl) (by rfl)) se_int (fun _ _ => rfl)) (se_ix (se_va (i := 1) (by rfl) (vis (by rfl)) (by rfl) (by rfl)) se_int (fun _ _ => rfl))) sa_nil (by rfl)) (by rfl)) (by rfl) (by rfl) (by rfl))))
def t__law_no_over_0_s (a : Addr) (c : Str) : Rho → SR := sRet (xAndV (xIsE 1 a (isa_LateError c)) (xAndV (xIsE 1 a (isa_ValueError c)) (xNotV (xIsE 1 a (isa_BadWork c)))))
def s__law_no_over : Rho → SR := sSeq (sTryAs 1 ct_OutOfRange (sEx (xA true (xCall f_over 2) [xVa 0, xA false mkTup [xCn (.int 0), xCn (.int 1)]])) t__law_no_over_0_s) (sRet (xCn (.bool false)))
abbrev f__law_no_over : List D → Res (Lv × D) := runB s__law_no_over 2 1
theorem sc__law_no_over : FnScope ["_law_first", "e"] ["_law_first"] (defScope (top 24)) := ⟨rfl, rfl, rfl, by decide +kernel, rfl, by decide +kernel, by decide +kernel⟩
theorem d__law_no_over (F : Fx K mg) : FnS P w K mg base 3 (He.ga K "_law_no_over") 1 f__law_no_over := by
  obtain ⟨fd, FF⟩ := F.d__law_no_over
  refine fnS_of (N := ["_law_first", "e"]) (ps := ["_law_first"]) (k := 2) (fun_of FF) sc__law_no_over (by decide) (fun _ _ _ _ _ _ us hl => match us, hl with | [_], _ => rfl) fun cd A outer s H E hr => ?_
  have tk : Takes (bodyX P w K mg base ["_law_first", "e"] "_law_no_over" (top 24) (He.ga K "_law_no_over") cd A outer s H E) (bodyW E) := takes_of rfl rfl rfl rfl
  have hp : PassesOwn (model P w) _ _ _ := passes_of (X := bodyX P w K mg base ["_law_first", "e"] "_law_no_over" (top 24) (He.ga K "_law_no_over") cd A outer s H E) rfl
  have hN := sc__law_no_over.nd
  have hu := hr.r.units
  exact (ss_cons (st_tryAs (i := 1) (cs := ct_OutOfRange) (s := t__law_no_over_0_s) (by rfl) (by rfl) hN (by rfl) (by rfl) ⟨by rfl, by rfl, .inl F.g_OutOfRange⟩ tk F.h_OutOfRange (fun W pn xe tk => (ss_one (st_expr (se_call ((d_over F).mono (by omega)) hr tk (by rfl) F.g_over F.k_over (sa_cons (se_va (i := 0) (by rfl) (vis (by rfl)) (by rfl) (by rfl)) (sa_cons (se_tup (fr := false) (sa_cons se_int (sa_cons se_int sa_nil (by rfl)) (by rfl)) (by decide)) sa_nil (by rfl)) (by rfl)) (by rfl) (by rfl) (by rfl)) (by rfl)))) (fun a oe c C pn hC hz hd => (ss_one (st_ret (se_and (se_isE hC hz hd (by rfl) (vis (by rfl)) (by rfl) (by rfl) (by rfl) F.n_isinstance bb_isinstance (pe_glob (v := .ref (He.ga K "LateError")) (by rfl) F.g_LateError rfl (by rfl)) (fun u h => h) (F.i_LateError c) (by rfl) (by rfl) (by rfl)) (se_and (se_isE hC hz hd (by rfl) (vis (by rfl)) (by rfl) (by rfl) (by rfl) F.n_isinstance bb_isinstance (pe_bltn (v := .ty "ValueError") (by rfl) F.n_ValueError bb_ValueError rfl (by decide) (by rfl)) (fun u h => h) (F.i_ValueError c) (by rfl) (by rfl) (by rfl)) (se_one (se_not (se_isE hC hz hd (by rfl) (vis (by rfl)) (by rfl) (by rfl) (by rfl) F.n_isinstance bb_isinstance (pe_glob (v := .ref (He.ga K "BadWork")) (by rfl) F.g_BadWork rfl (by rfl)) (fun u h => h) (F.i_BadWork c) (by rfl) (by rfl) (by rfl))))))))) (by intro a c ρ; exact kill_ret (by simp only [xTru, xTb, xAndV, xOrV, xNotV, xIte, tAndX, tNotX, xIsE_set])))
    (ss_one (st_ret se_bl)))
def s_minus : Rho → SR := sRet (xA true (xCall f_fraction 2) [x2 (pl dSub) (x2 (pl dMul) (x2 ixD (xVa 0) (xCn (.int 0))) (x2 ixD (xVa 1) (xCn (.int 1)))) (x2 (pl dMul) (x2 ixD (xVa 1) (xCn (.int 0))) (x2 ixD (xVa 0) (xCn (.int 1)))), x2 (pl dMul) (x2 ixD (xVa 0) (xCn (.int 1))) (x2 ixD (xVa 1) (xCn (.int 1)))])
abbrev f_minus : List D → Res (Lv × D) := runB s_minus 2 2
theorem sc_minus : FnScope ["first", "second"] ["first", "second"] (defScope (top 8)) := ⟨rfl, rfl, rfl, by decide +kernel, rfl, by decide +kernel, by decide +kernel⟩
theorem d_minus (F : Fx K mg) : FnS P w K mg base 2 (He.ga K "minus") 2 f_minus := by
  obtain ⟨fd, FF⟩ := F.d_minus
  refine fnS_of (N := ["first", "second"]) (ps := ["first", "second"]) (k := 1) (fun_of FF) sc_minus (by decide) (fun _ _ _ _ _ _ us hl => match us, hl with | [_, _], _ => rfl) fun cd A outer s H E hr => ?_
  have tk : Takes (bodyX P w K mg base ["first", "second"] "minus" (top 8) (He.ga K "minus") cd A outer s H E) (bodyW E) := takes_of rfl rfl rfl rfl
  have hp : PassesOwn (model P w) _ _ _ := passes_of (X := bodyX P w K mg base ["first", "second"] "minus" (top 8) (He.ga K "minus") cd A outer s H E) rfl
  have hN := sc_minus.nd
  have hu := hr.r.units
  exact (ss_one (st_ret (se_call ((d_fraction F).mono (by omega)) hr tk (by rfl) F.g_fraction F.k_fraction (sa_cons (se_bin ops_sub (se_bin ops_mul (se_ix (se_va (i := 0) (by rfl) (vis (by rfl)) (by rfl) (by rfl)) se_int (fun _ _ => rfl)) (se_ix (se_va (i := 1) (by rfl) (vis (by rfl)) (by rfl) (by rfl)) se_int (fun _ _ => rfl))) (se_bin ops_mul (se_ix (se_va (i := 1) (by rfl) (vis (by rfl)) (by rfl) (by rfl)) se_int (fun _ _ => rfl)) (se_ix (se_va (i := 0) (by rfl) (vis (by rfl)) (by rfl) (by rfl)) se_int (fun _ _ => rfl)))) (sa_cons (se_bin ops_mul (se_ix (se_va (i := 0) (by rfl) (vis (by rfl)) (by rfl) (by rfl)) se_int (fun _ _ => rfl)) (se_ix (se_va (i := 1) (by rfl) (vis (by rfl)) (by rfl) (by rfl)) se_int (fun _ _ => rfl))) sa_nil (by rfl)) (by rfl)) (by rfl) (by rfl) (by rfl))))
def s_times : Rho → SR := sRet (xA true (xCall f_fraction 2) [x2 (pl dMul) (x2 ixD (xVa 0) (xCn (.int 0))) (x2 ixD (xVa 1) (xCn (.int 0))), x2 (pl dMul) (x2 ixD (xVa 0) (xCn (.int 1))) (x2 ixD (xVa 1) (xCn (.int 1)))])
abbrev f_times : List D → Res (Lv × D) := runB s_times 2 2
theorem sc_times : FnScope ["first", "second"] ["first", "second"] (defScope (top 9)) := ⟨rfl, rfl, rfl, by decide +kernel, rfl, by decide +kernel, by decide +kernel⟩
theorem d_times (F : Fx K mg) : FnS P w K mg base 2 (He.ga K "times") 2 f_times := by
  obtain ⟨fd, FF⟩ := F.d_times
  refine fnS_of (N := ["first", "second"]) (ps := ["first", "second"]) (k := 1) (fun_of FF) sc_times (by decide) (fun _ _ _ _ _ _ us hl => match us, hl with | [_, _], _ => rfl) fun cd A outer s H E hr => ?_
  have tk : Takes (bodyX P w K mg base ["first", "second"] "times" (top 9) (He.ga K "times") cd A outer s H E) (bodyW E) := takes_of rfl rfl rfl rfl
  have hp : PassesOwn (model P w) _ _ _ := passes_of (X := bodyX P w K mg base ["first", "second"] "times" (top 9) (He.ga K "times") cd A outer s H E) rfl
  have hN := sc_times.nd
  have hu := hr.r.units
  exact (ss_one (st_ret (se_call ((d_fraction F).mono (by omega)) hr tk (by rfl) F.g_fraction F.k_fraction (sa_cons (se_bin ops_mul (se_ix (se_va (i := 0) (by rfl) (vis (by rfl)) (by rfl) (by rfl)) se_int (fun _ _ => rfl)) (se_ix (se_va (i := 1) (by rfl) (vis (by rfl)) (by rfl) (by rfl)) se_int (fun _ _ => rfl))) (sa_cons (se_bin ops_mul (se_ix (se_va (i := 0) (by rfl) (vis (by rfl)) (by rfl) (by rfl)) se_int (fun _ _ => rfl)) (se_ix (se_va (i := 1) (by rfl) (vis (by rfl)) (by rfl) (by rfl)) se_int (fun _ _ => rfl))) sa_nil (by rfl)) (by rfl)) (by rfl) (by rfl) (by rfl))))
def l_law_0_i : Rho → Res (List BV) := xItA rangeV3 [xCn (.int 0), x2 (pl dAdd) (xA true (b1 dLen) [xVa 0]) (xCn (.int 3)), xCn (.int 3)]
def l_law_0_b : Rho → SR := sSeq (sAsg 2 (x2 (pl dMul) (x2 (pl dMod) (xA true (b1 dInt) [xA true (xCall f__law_cell 2) [xVa 0, xVa 1]]) (x2 (pl dPow) (xCn (.int 10)) (xCn (.int 60)))) (x2 ixD (xA false mkLst [xCn (.int 1), x1 (p1 dNeg) (xCn (.int 1))]) (x2 (pl dAnd) (xA true (b1 dInt) [xA true (xCall f__law_cell 2) [xVa 0, xVa 1]]) (xCn (.int 1)))))) (sSeq (sAsg 3 (x2 (pl dMul) (x2 (pl dMod) (xA true (b1 dInt) [xA true (xCall f__law_cell 2) [xVa 0, x2 (pl dAdd) (xVa 1) (xCn (.int 1))]]) (x2 (pl dPow) (xCn (.int 10)) (xCn (.int 60)))) (x2 ixD (xA false mkLst [xCn (.int 1), x1 (p1 dNeg) (xCn (.int 1))]) (x2 (pl dAnd) (x2 (pl dDiv) (xA true (b1 dInt) [xA true (xCall f__law_cell 2) [xVa 0, x2 (pl dAdd) (xVa 1) (xCn (.int 1))]]) (xCn (.int 2))) (xCn (.int 1)))))) (sSeq (sAsg 4 (x2 (pl dAdd) (x2 (pl dMod) (xA true (b1 dInt) [xA true (xCall f__law_cell 2) [xVa 0, x2 (pl dAdd) (xVa 1) (xCn (.int 2))]]) (xCn (.int 1000))) (xCn (.int 1)))) (sSeq (sIf (xTb (x2 (pl dEq) (xVa 3) (xCn (.int 0)))) (sAsg 3 (xVa 4)) (sNil)) (sSeq (sIf (tOrX (tNotX (xTru (xA true (xCall f__law_is 3) [xA true (xCall f_fraction 2) [xVa 2, xVa 3], xVa 2, xVa 3]))) (tOrX (tNotX (xTru (xA true (xCall f__law_is 3) [xA true (xCall f_fraction 2) [x2 (pl dMul) (x1 (p1 dNeg) (xVa 2)) (xVa 4), x2 (pl dMul) (x1 (p1 dNeg) (xVa 3)) (xVa 4)], xVa 2, xVa 3]))) (tNotX (xTru (xA true (xCall f__law_no_low 1) [xVa 2]))))) (sRet (xCn (.bool false))) (sNil)) (sSeq (sAsg 5 (xA true (xCall f__law_moment 1) [xVa 2])) (sSeq (sAsg 6 (xA true (xCall f__law_moment 1) [xVa 3])) (sSeq (sIf (xTb (x2 (pl dEq) (x2 (pl dMod) (xA true (b1 dInt) [xVa 4]) (xCn (.int 5))) (xCn (.int 1)))) (sAsg 6 (xVa 5)) (sNil)) (sIf (tOrX (xTb (x2 (pl dIs) (xVa 5) (xCn .none))) (xTb (x2 (pl dIs) (xVa 6) (xCn .none)))) (sIf (tOrX (xTb (x2 (pl dIsNot) (xA true (xCall f_plus 2) [xVa 5, xVa 6]) (xCn .none))) (xTb (x2 (pl dIsNot) (xA true (xCall f_plus 2) [xVa 6, xVa 5]) (xCn .none)))) (sRet (xCn (.bool false))) (sNil)) (sSeq (sIf (xTb (x2 (pl dEq) (x2 (pl dMod) (xA true (b1 dInt) [xVa 4]) (xCn (.int 5))) (xCn (.int 2)))) (sAsg 6 (xA false mkTup [x1 (p1 dNeg) (x2 ixD (xVa 5) (xCn (.int 0))), x2 ixD (xVa 5) (xCn (.int 1))])) (sNil)) (sSeq (sUnp (bdT [7, 8]) (xVa 5)) (sSeq (sUnp (bdT [9, 10]) (xVa 6)) (sSeq (sIf (tOrX (tNotX (xTru (xA true (xCall f__law_is 3) [xA true (xCall f_plus 2) [xVa 5, xVa 6], x2 (pl dAdd) (x2 (pl dMul) (xVa 7) (xVa 10)) (x2 (pl dMul) (xVa 9) (xVa 8)), x2 (pl dMul) (xVa 8) (xVa 10)]))) (tNotX (xTru (xA true (xCall f__law_is 3) [xA true (xCall f_minus 2) [xVa 5, xVa 6], x2 (pl dSub) (x2 (pl dMul) (xVa 7) (xVa 10)) (x2 (pl dMul) (xVa 9) (xVa 8)), x2 (pl dMul) (xVa 8) (xVa 10)])))) (sRet (xCn (.bool false))) (sNil)) (sSeq (sIf (tOrX (tNotX (xTru (xA true (xCall f__law_is 3) [xA true (xCall f_times 2) [xVa 5, xVa 6], x2 (pl dMul) (xVa 7) (xVa 9), x2 (pl dMul) (xVa 8) (xVa 10)]))) (tNotX (xTru (xA true (xCall f__law_no_over 1) [xVa 5])))) (sRet (xCn (.bool false))) (sNil)) (sIf (tAndX (xTb (x2 (pl dNe) (xVa 9) (xCn (.int 0)))) (tNotX (xTru (xA true (xCall f__law_is 3) [xA true (xCall f_over 2) [xVa 5, xVa 6], x2 (pl dMul) (xVa 7) (xVa 10), x2 (pl dMul) (xVa 8) (xVa 9)])))) (sRet (xCn (.bool false))) (sNil)))))))))))))))
def s_law : Rho → SR := sSeq (sFor l_law_0_i (bd1 1) l_law_0_b) (sRet (xCn (.bool true)))
abbrev f_law : List D → Res (Lv × D) := runB s_law 11 1
theorem sc_law : FnScope ["_law_script", "_law_k", "_law_top", "_law_low", "_law_factor", "_law_first", "_law_second", "_law_a", "_law_b", "_law_c", "_law_d"] ["_law_script"] (defScope (top 26)) := ⟨rfl, rfl, rfl, by decide +kernel, rfl, by decide +kernel, by decide +kernel⟩
theorem d_law (F : Fx K mg) : FnS P w K mg base 4 (He.ga K "law") 1 f_law := by
  obtain ⟨fd, FF⟩ := F.d_law
  refine fnS_of (N := ["_law_script", "_law_k", "_law_top", "_law_low", "_law_factor", "_law_first", "_law_second", "_law_a", "_law_b", "_law_c", "_law_d"]) (ps := ["_law_script"]) (k := 3) (fun_of FF) sc_law (by decide) (fun _ _ _ _ _ _ us hl => match us, hl with | [_], _ => rfl) fun cd A outer s H E hr => ?_
  have tk : Takes (bodyX P w K mg base ["_law_script", "_law_k", "_law_top", "_law_low", "_law_factor", "_law_first", "_law_second", "_law_a", "_law_b", "_law_c", "_law_d"] "law" (top 26) (He.ga K "law") cd A outer s H E) (bodyW E) := takes_of rfl rfl rfl rfl
  have hp : PassesOwn (model P w) _ _ _ := passes_of (X := bodyX P w K mg base ["_law_script", "_law_k", "_law_top", "_law_low", "_law_factor", "_law_first", "_law_second", "_law_a", "_law_b", "_law_c", "_law_d"] "law" (top 26) (He.ga K "law") cd A outer s H E) rfl
  have hN := sc_law.nd
  have hu := hr.r.units
  exact (ss_cons (st_for (is := [1]) (xi := l_law_0_i) (bd := bd1 1) (sb := l_law_0_b) hp rfl (si_range3 (sa_cons se_int (sa_cons (se_bin ops_add (se_callB bl_len (by rfl) F.n_len bb_len (sa_cons (se_va (i := 0) (by rfl) (vis (by rfl)) (by rfl) (by rfl)) sa_nil (by rfl)) (by decide) (by rfl) (by rfl) (by rfl)) se_int) (sa_cons se_int sa_nil (by rfl)) (by rfl)) (by rfl)) (pi_range3 (by rfl) F.n_range pa_w)) (pg_name (i := 1) hN (by rfl) (locl (by rfl)) (by first | exact .inr rfl | exact .inl rfl)) sg_name (itmOk_range3 (cl := true)) (ss_cons (st_asg (i := 2) hN (by rfl) (locl (by rfl)) (se_bin ops_mul (se_bin ops_mod (se_callTy bl_int (by rfl) F.n_int bb_int (sa_cons (se_call ((d__law_cell F).mono (by omega)) hr tk (by rfl) F.g__law_cell F.k__law_cell (sa_cons (se_va (i := 0) (by rfl) (vis (by rfl)) (by rfl) (by rfl)) (sa_cons (se_va (i := 1) (by rfl) (vis (by rfl)) (by rfl) (by rfl)) sa_nil (by rfl)) (by rfl)) (by rfl) (by rfl) (by rfl)) sa_nil (by rfl)) (by decide) (by rfl) (by rfl) (by rfl)) (se_bin ops_pow se_int se_int)) (se_ix (se_lst (fr := false) (sa_cons se_int (sa_cons (se_neg se_int) sa_nil (by rfl)) (by rfl)) (by decide)) (se_bin ops_and (se_callTy bl_int (by rfl) F.n_int bb_int (sa_cons (se_call ((d__law_cell F).mono (by omega)) hr tk (by rfl) F.g__law_cell F.k__law_cell (sa_cons (se_va (i := 0) (by rfl) (vis (by rfl)) (by rfl) (by rfl)) (sa_cons (se_va (i := 1) (by rfl) (vis (by rfl)) (by rfl) (by rfl)) sa_nil (by rfl)) (by rfl)) (by rfl) (by rfl) (by rfl)) sa_nil (by rfl)) (by decide) (by rfl) (by rfl) (by rfl)) se_int) (fun _ _ => rfl))) (by rfl) (by first | exact .inr rfl | exact .inl rfl))
    (ss_cons (st_asg (i := 3) hN (by rfl) (locl (by rfl)) (se_bin ops_mul (se_bin ops_mod (se_callTy bl_int (by rfl) F.n_int bb_int (sa_cons (se_call ((d__law_cell F).mono (by omega)) hr tk (by rfl) F.g__law_cell F.k__law_cell (sa_cons (se_va (i := 0) (by rfl) (vis (by rfl)) (by rfl) (by rfl)) (sa_cons (se_bin ops_add (se_va (i := 1) (by rfl) (vis (by rfl)) (by rfl) (by rfl)) se_int) sa_nil (by rfl)) (by rfl)) (by rfl) (by rfl) (by rfl)) sa_nil (by rfl)) (by decide) (by rfl) (by rfl) (by rfl)) (se_bin ops_pow se_int se_int)) (se_ix (se_lst (fr := false) (sa_cons se_int (sa_cons (se_neg se_int) sa_nil (by rfl)) (by rfl)) (by decide)) (se_bin ops_and (se_bin ops_div (se_callTy bl_int (by rfl) F.n_int bb_int (sa_cons (se_call ((d__law_cell F).mono (by omega)) hr tk (by rfl) F.g__law_cell F.k__law_cell (sa_cons (se_va (i := 0) (by rfl) (vis (by rfl)) (by rfl) (by rfl)) (sa_cons (se_bin ops_add (se_va (i := 1) (by rfl) (vis (by rfl)) (by rfl) (by rfl)) se_int) sa_nil (by rfl)) (by rfl)) (by rfl) (by rfl) (by rfl)) sa_nil (by rfl)) (by decide) (by rfl) (by rfl) (by rfl)) se_int) se_int) (fun _ _ => rfl))) (by rfl) (by first | exact .inr rfl | exact .inl rfl))
    (ss_cons (st_asg (i := 4) hN (by rfl) (locl (by rfl)) (se_bin ops_add (se_bin ops_mod (se_callTy bl_int (by rfl) F.n_int bb_int (sa_cons (se_call ((d__law_cell F).mono (by omega)) hr tk (by rfl) F.g__law_cell F.k__law_cell (sa_cons (se_va (i := 0) (by rfl) (vis (by rfl)) (by rfl) (by rfl)) (sa_cons (se_bin ops_add (se_va (i := 1) (by rfl) (vis (by rfl)) (by rfl) (by rfl)) se_int) sa_nil (by rfl)) (by rfl)) (by rfl) (by rfl) (by rfl)) sa_nil (by rfl)) (by decide) (by rfl) (by rfl) (by rfl)) se_int) se_int) (by rfl) (by first | exact .inr rfl | exact .inl rfl))
    (ss_cons (st_if (st_cmp (ops_eq hu) (nomark _) (se_va (i := 3) (by rfl) (vis (by rfl)) (by rfl) (by rfl)) se_int) (ss_one (st_asg (i := 3) hN (by rfl) (locl (by rfl)) (se_va (i := 4) (by rfl) (vis (by rfl)) (by rfl) (by rfl)) (by rfl) (by first | exact .inr rfl | exact .inl rfl))) ss_nil)
    (ss_cons (st_if (st_bool (sw_or (st_not (st_val (se_call ((d__law_is F).mono (by omega)) hr tk (by rfl) F.g__law_is F.k__law_is (sa_cons (se_call ((d_fraction F).mono (by omega)) hr tk (by rfl) F.g_fraction F.k_fraction (sa_cons (se_va (i := 2) (by rfl) (vis (by rfl)) (by rfl) (by rfl)) (sa_cons (se_va (i := 3) (by rfl) (vis (by rfl)) (by rfl) (by rfl)) sa_nil (by rfl)) (by rfl)) (by rfl) (by rfl) (by rfl)) (sa_cons (se_va (i := 2) (by rfl) (vis (by rfl)) (by rfl) (by rfl)) (sa_cons (se_va (i := 3) (by rfl) (vis (by rfl)) (by rfl) (by rfl)) sa_nil (by rfl)) (by rfl)) (by rfl)) (by rfl) (by rfl) (by rfl)) (fun _ => rfl))) (sw_or (st_not (st_val (se_call ((d__law_is F).mono (by omega)) hr tk (by rfl) F.g__law_is F.k__law_is (sa_cons (se_call ((d_fraction F).mono (by omega)) hr tk (by rfl) F.g_fraction F.k_fraction (sa_cons (se_bin ops_mul (se_neg (se_va (i := 2) (by rfl) (vis (by rfl)) (by rfl) (by rfl))) (se_va (i := 4) (by rfl) (vis (by rfl)) (by rfl) (by rfl))) (sa_cons (se_bin ops_mul (se_neg (se_va (i := 3) (by rfl) (vis (by rfl)) (by rfl) (by rfl))) (se_va (i := 4) (by rfl) (vis (by rfl)) (by rfl) (by rfl))) sa_nil (by rfl)) (by rfl)) (by rfl) (by rfl) (by rfl)) (sa_cons (se_va (i := 2) (by rfl) (vis (by rfl)) (by rfl) (by rfl)) (sa_cons (se_va (i := 3) (by rfl) (vis (by rfl)) (by rfl) (by rfl)) sa_nil (by rfl)) (by rfl)) (by rfl)) (by rfl) (by rfl) (by rfl)) (fun _ => rfl))) (sw_or1 (st_not (st_val (se_call ((d__law_no_low F).mono (by omega)) hr tk (by rfl) F.g__law_no_low F.k__law_no_low (sa_cons (se_va (i := 2) (by rfl) (vis (by rfl)) (by rfl) (by rfl)) sa_nil (by rfl)) (by rfl) (by rfl) (by rfl)) (fun _ => rfl))))))) (ss_one (st_ret se_bl)) ss_nil)
    (ss_cons (st_asg (i := 5) hN (by rfl) (locl (by rfl)) (se_call ((d__law_moment F).mono (by omega)) hr tk (by rfl) F.g__law_moment F.k__law_moment (sa_cons (se_va (i := 2) (by rfl) (vis (by rfl)) (by rfl) (by rfl)) sa_nil (by rfl)) (by rfl) (by rfl) (by rfl)) (by rfl) (by first | exact .inr rfl | exact .inl rfl))
    (ss_cons (st_asg (i := 6) hN (by rfl) (locl (by rfl)) (se_call ((d__law_moment F).mono (by omega)) hr tk (by rfl) F.g__law_moment F.k__law_moment (sa_cons (se_va (i := 3) (by rfl) (vis (by rfl)) (by rfl) (by rfl)) sa_nil (by rfl)) (by rfl) (by rfl) (by rfl)) (by rfl) (by first | exact .inr rfl | exact .inl rfl))
    (ss_cons (st_if (st_cmp (ops_eq hu) (nomark _) (se_bin ops_mod (se_callTy bl_int (by rfl) F.n_int bb_int (sa_cons (se_va (i := 4) (by rfl) (vis (by rfl)) (by rfl) (by rfl)) sa_nil (by rfl)) (by decide) (by rfl) (by rfl) (by rfl)) se_int) se_int) (ss_one (st_asg (i := 6) hN (by rfl) (locl (by rfl)) (se_va (i := 5) (by rfl) (vis (by rfl)) (by rfl) (by rfl)) (by rfl) (by first | exact .inr rfl | exact .inl rfl))) ss_nil)
    (ss_one (st_if (st_bool (sw_or (st_cmp ops_is (nomark _) (se_va (i := 5) (by rfl) (vis (by rfl)) (by rfl) (by rfl)) se_non) (sw_or1 (st_cmp ops_is (nomark _) (se_va (i := 6) (by rfl) (vis (by rfl)) (by rfl) (by rfl)) se_non)))) (ss_one (st_if (st_bool (sw_or (st_cmp ops_isNot (nomark _) (se_call ((d_plus F).mono (by omega)) hr tk (by rfl) F.g_plus F.k_plus (sa_cons (se_va (i := 5) (by rfl) (vis (by rfl)) (by rfl) (by rfl)) (sa_cons (se_va (i := 6) (by rfl) (vis (by rfl)) (by rfl) (by rfl)) sa_nil (by rfl)) (by rfl)) (by rfl) (by rfl) (by rfl)) se_non) (sw_or1 (st_cmp ops_isNot (nomark _) (se_call ((d_plus F).mono (by omega)) hr tk (by rfl) F.g_plus F.k_plus (sa_cons (se_va (i := 6) (by rfl) (vis (by rfl)) (by rfl) (by rfl)) (sa_cons (se_va (i := 5) (by rfl) (vis (by rfl)) (by rfl) (by rfl)) sa_nil (by rfl)) (by rfl)) (by rfl) (by rfl) (by rfl)) se_non)))) (ss_one (st_ret se_bl)) ss_nil)) (ss_cons (st_if (st_cmp (ops_eq hu) (nomark _) (se_bin ops_mod (se_callTy bl_int (by rfl) F.n_int bb_int (sa_cons (se_va (i := 4) (by rfl) (vis (by rfl)) (by rfl) (by rfl)) sa_nil (by rfl)) (by decide) (by rfl) (by rfl) (by rfl)) se_int) se_int) (ss_one (st_asg (i := 6) hN (by rfl) (locl (by rfl)) (se_tup (fr := false) (sa_cons (se_neg (se_ix (se_va (i := 5) (by rfl) (vis (by rfl)) (by rfl) (by rfl)) se_int (fun _ _ => rfl))) (sa_cons (se_ix (se_va (i := 5) (by rfl) (vis (by rfl)) (by rfl) (by rfl)) se_int (fun _ _ => rfl)) sa_nil (by rfl)) (by rfl)) (by decide)) (by rfl) (by first | exact .inr rfl | exact .inl rfl))) ss_nil)
    (ss_cons (st_unp (is := [7, 8]) (bd := bdT [7, 8]) (se_va (i := 5) (by rfl) (vis (by rfl)) (by rfl) (by rfl)) (pg_tup rfl (pgs_cons (pg_name (i := 7) hN (by rfl) (locl (by rfl)) (by first | exact .inr rfl | exact .inl rfl)) (pgs_cons (pg_name (i := 8) hN (by rfl) (locl (by rfl)) (by first | exact .inr rfl | exact .inl rfl)) pgs_nil))) (sg_tup (is := [7, 8])))
    (ss_cons (st_unp (is := [9, 10]) (bd := bdT [9, 10]) (se_va (i := 6) (by rfl) (vis (by rfl)) (by rfl) (by rfl)) (pg_tup rfl (pgs_cons (pg_name (i := 9) hN (by rfl) (locl (by rfl)) (by first | exact .inr rfl | exact .inl rfl)) (pgs_cons (pg_name (i := 10) hN (by rfl) (locl (by rfl)) (by first | exact .inr rfl | exact .inl rfl)) pgs_nil))) (sg_tup (is := [9, 10])))
    (ss_cons (st_if (st_bool (sw_or (st_not (st_val (se_call ((d__law_is F).mono (by omega)) hr tk (by rfl) F.g__law_is F.k__law_is (sa_cons (se_call ((d_plus F).mono (by omega)) hr tk (by rfl) F.g_plus F.k_plus (sa_cons (se_va (i := 5) (by rfl) (vis (by rfl)) (by rfl) (by rfl)) (sa_cons (se_va (i := 6) (by rfl) (vis (by rfl)) (by rfl) (by rfl)) sa_nil (by rfl)) (by rfl)) (by rfl) (by rfl) (by rfl)) (sa_cons (se_bin ops_add (se_bin ops_mul (se_va (i := 7) (by rfl) (vis (by rfl)) (by rfl) (by rfl)) (se_va (i := 10) (by rfl) (vis (by rfl)) (by rfl) (by rfl))) (se_bin ops_mul (se_va (i := 9) (by rfl) (vis (by rfl)) (by rfl) (by rfl)) (se_va (i := 8) (by rfl) (vis (by rfl)) (by rfl) (by rfl)))) (sa_cons (se_bin ops_mul (se_va (i := 8) (by rfl) (vis (by rfl)) (by rfl) (by rfl)) (se_va (i := 10) (by rfl) (vis (by rfl)) (by rfl) (by rfl))) sa_nil (by rfl)) (by rfl)) (by rfl)) (by rfl) (by rfl) (by rfl)) (fun _ => rfl))) (sw_or1 (st_not (st_val (se_call ((d__law_is F).mono (by omega)) hr tk (by rfl) F.g__law_is F.k__law_is (sa_cons (se_call ((d_minus F).mono (by omega)) hr tk (by rfl) F.g_minus F.k_minus (sa_cons (se_va (i := 5) (by rfl) (vis (by rfl)) (by rfl) (by rfl)) (sa_cons (se_va (i := 6) (by rfl) (vis (by rfl)) (by rfl) (by rfl)) sa_nil (by rfl)) (by rfl)) (by rfl) (by rfl) (by rfl)) (sa_cons (se_bin ops_sub (se_bin ops_mul (se_va (i := 7) (by rfl) (vis (by rfl)) (by rfl) (by rfl)) (se_va (i := 10) (by rfl) (vis (by rfl)) (by rfl) (by rfl))) (se_bin ops_mul (se_va (i := 9) (by rfl) (vis (by rfl)) (by rfl) (by rfl)) (se_va (i := 8) (by rfl) (vis (by rfl)) (by rfl) (by rfl)))) (sa_cons (se_bin ops_mul (se_va (i := 8) (by rfl) (vis (by rfl)) (by rfl) (by rfl)) (se_va (i := 10) (by rfl) (vis (by rfl)) (by rfl) (by rfl))) sa_nil (by rfl)) (by rfl)) (by rfl)) (by rfl) (by rfl) (by rfl)) (fun _ => rfl)))))) (ss_one (st_ret se_bl)) ss_nil)
    (ss_cons (st_if (st_bool (sw_or (st_not (st_val (se_call ((d__law_is F).mono (by omega)) hr tk (by rfl) F.g__law_is F.k__law_is (sa_cons (se_call ((d_times F).mono (by omega)) hr tk (by rfl) F.g_times F.k_times (sa_cons (se_va (i := 5) (by rfl) (vis (by rfl)) (by rfl) (by rfl)) (sa_cons (se_va (i := 6) (by rfl) (vis (by rfl)) (by rfl) (by rfl)) sa_nil (by rfl)) (by rfl)) (by rfl) (by rfl) (by rfl)) (sa_cons (se_bin ops_mul (se_va (i := 7) (by rfl) (vis (by rfl)) (by rfl) (by rfl)) (se_va (i := 9) (by rfl) (vis (by rfl)) (by rfl) (by rfl))) (sa_cons (se_bin ops_mul (se_va (i := 8) (by rfl) (vis (by rfl)) (by rfl) (by rfl)) (se_va (i := 10) (by rfl) (vis (by rfl)) (by rfl) (by rfl))) sa_nil (by rfl)) (by rfl)) (by rfl)) (by rfl) (by rfl) (by rfl)) (fun _ => rfl))) (sw_or1 (st_not (st_val (se_call ((d__law_no_over F).mono (by omega)) hr tk (by rfl) F.g__law_no_over F.k__law_no_over (sa_cons (se_va (i := 5) (by rfl) (vis (by rfl)) (by rfl) (by rfl)) sa_nil (by rfl)) (by rfl) (by rfl) (by rfl)) (fun _ => rfl)))))) (ss_one (st_ret se_bl)) ss_nil)
    (ss_one (st_if (st_bool (sw_and (st_cmp (ops_ne hu) (nomark _) (se_va (i := 9) (by rfl) (vis (by rfl)) (by rfl) (by rfl)) se_int) (sw_and1 (st_not (st_val (se_call ((d__law_is F).mono (by omega)) hr tk (by rfl) F.g__law_is F.k__law_is (sa_cons (se_call ((d_over F).mono (by omega)) hr tk (by rfl) F.g_over F.k_over (sa_cons (se_va (i := 5) (by rfl) (vis (by rfl)) (by rfl) (by rfl)) (sa_cons (se_va (i := 6) (by rfl) (vis (by rfl)) (by rfl) (by rfl)) sa_nil (by rfl)) (by rfl)) (by rfl) (by rfl) (by rfl)) (sa_cons (se_bin ops_mul (se_va (i := 7) (by rfl) (vis (by rfl)) (by rfl) (by rfl)) (se_va (i := 10) (by rfl) (vis (by rfl)) (by rfl) (by rfl))) (sa_cons (se_bin ops_mul (se_va (i := 8) (by rfl) (vis (by rfl)) (by rfl) (by rfl)) (se_va (i := 9) (by rfl) (vis (by rfl)) (by rfl) (by rfl))) sa_nil (by rfl)) (by rfl)) (by rfl)) (by rfl) (by rfl) (by rfl)) (fun _ => rfl)))))) (ss_one (st_ret se_bl)) ss_nil))))))))))))))))) (fun _ => rfl))
    (ss_one (st_ret se_bl)))
end

end Lw

set_option Elab.async false
set_option linter.all false
set_option maxRecDepth 100000
set_option maxHeartbeats 400000
namespace Lw
open PySem PySem.Spec PyProof.Rows L2 Ev
def gz (t l : Int) : Int := ((Nat.gcd t.natAbs l.natAbs : Nat) : Int)
def sg (t l : Int) : Int := if l < 0 then -gz t l else gz t l
def nf (t l : Int) : D := .tuple [.int (t.fdiv (sg t l)), .int (l.fdiv (sg t l))]
theorem gz_pos {t l : Int} (h : l ≠ 0) : 0 < gz t l := by
  unfold gz
  have : 0 < Nat.gcd t.natAbs l.natAbs := Nat.gcd_pos_of_pos_right _ (by omega)
  omega
theorem sg_ne {t l : Int} (h : l ≠ 0) : sg t l ≠ 0 := by
  have := gz_pos (t := t) h
  unfold sg
  split <;> omega
theorem sg_abs {t l : Int} : (sg t l).natAbs = Nat.gcd t.natAbs l.natAbs := by
  unfold sg gz
  split <;> simp
theorem log_of {n : Nat} (h : n < 2 ^ 9000) : n.log2 < 9000 := by
  by_cases h0 : n = 0
  · subst h0; decide
  · exact (Nat.log2_lt h0).mpr h
theorem sg_log {t l : Int} (h : l ≠ 0) (hb : l.natAbs < 2 ^ 9000) : (sg t l).natAbs.log2 < 9000 := by
  rw [sg_abs]
  exact log_of (Nat.lt_of_le_of_lt (Nat.gcd_le_right _ (by omega)) hb)
theorem fraction_ok {t l : Int} (h : l ≠ 0) (hb : l.natAbs < 2 ^ 9000) : f_fraction [.int t, .int l] = .ok (none, nf t l) := by
  have hn := sg_ne (t := t) h
  have hl := sg_log (t := t) h hb
  unfold nf
  by_cases hneg : l < 0
  · have hs : sg t l = -gz t l := by unfold sg; rw [if_pos hneg]
    rw [hs] at hn hl ⊢
    unfold gz at hn hl ⊢
    simp [f_fraction, runB, s_fraction, startR, h, setSl_eq, hneg, mkTup, dispLv, dDiv_i hn hl]
    trace_state
  · have hs : sg t l = gz t l := by unfold sg; rw [if_neg hneg]
    rw [hs] at hn hl ⊢
    unfold gz at hn hl ⊢
    simp [f_fraction, runB, s_fraction, startR, h, setSl_eq, hneg, mkTup, dispLv, dDiv_i hn hl]
/-! ### the law's own gcd -/
theorem gcd_loop : ∀ (n : Nat) (vs : List BV) (a b : Nat) (s2 s3 : Sl), b ≤ a → a * b < 2 ^ n → n < vs.length → noAl s2 = true → noAl s3 = true →
    forL (bd1 2) l__law_gcd_0_b vs [.va none (.int a), .va none (.int b), s2, s3] = .rt none (.int (Nat.gcd a b : Nat))
  | n, [], _, _, _, _, _, _, h, _, _ => absurd h (Nat.not_lt_zero _)
  | n, v :: vs, a, b, s2, s3, hab, hp, hl, h2, h3 => by
    by_cases hb : b = 0
    · subst hb
      refine forL_rt (ρ1 := [.va none (.int a), .va none (.int (0 : Nat)), .va v.k v.d, s3]) (by simp [bd1, setSl_eq, h2, h3]) ?_
      simp [l__law_gcd_0_b]
    · have hb' : (b : Int) ≠ 0 := by omega
      have hm : (a : Int).fmod b = ((a % b : Nat) : Int) := by
        rw [Int.fmod_eq_emod_of_nonneg _ (by omega)]
        rfl
      cases n with
      | zero =>
        exfalso
        have h0 : a * b = 0 := by simpa using hp
        rcases Nat.mul_eq_zero.mp h0 with h0 | h0 <;> omega
      | succ n =>
        have hlt : a % b < b := Nat.mod_lt _ (by omega)
        have h2r : 2 * (a % b) ≤ a := by
          have h1 := Nat.div_add_mod a b
          have h4 : 1 ≤ a / b := (Nat.one_le_div_iff (by omega)).mpr hab
          have h5 : b * 1 ≤ b * (a / b) := Nat.mul_le_mul_left _ h4
          omega
        have hp' : b * (a % b) < 2 ^ n := by
          have h1 : b * (2 * (a % b)) ≤ b * a := Nat.mul_le_mul_left _ h2r
          have h3 : b * (2 * (a % b)) = 2 * (b * (a % b)) := by rw [← Nat.mul_assoc, Nat.mul_comm b 2, Nat.mul_assoc]
          have h4 : a * b = b * a := Nat.mul_comm _ _
          rw [Nat.pow_succ] at hp
          omega
        have ih := gcd_loop n vs b (a % b) (.va v.k v.d) (.va none (.int ((a : Int).fmod b))) (by omega) hp' (by simpa using hl) rfl rfl
        rw [← hm] at ih
        have e : Nat.gcd b (a % b) = Nat.gcd a b := by rw [Nat.gcd_comm b, ← Nat.gcd_rec b a, Nat.gcd_comm]
        rw [e] at ih
        refine (forL_nx (ρ1 := [.va none (.int a), .va none (.int b), .va v.k v.d, s3]) (by simp [bd1, setSl_eq, h2, h3]) ?_).trans ih
        simp [l__law_gcd_0_b, hb, hb', setSl_eq, h3]
theorem bits_lt (a : Int) : a.natAbs < 2 ^ Builtin.Int.intBits a := by
  unfold Builtin.Int.intBits
  by_cases h : a = 0
  · subst h; decide
  · have e : (a == 0) = false := by simpa using h
    rw [e]
    show a.natAbs < 2 ^ (a.natAbs.log2 + 1)
    exact (Nat.log2_lt (by omega)).mp (by omega)
theorem bits_le {a : Int} (h : a.natAbs < 2 ^ 9000) : Builtin.Int.intBits a ≤ 9000 := by
  unfold Builtin.Int.intBits
  by_cases h0 : a = 0
  · subst h0; decide
  · have e : (a == 0) = false := by simpa using h0
    rw [e]
    show a.natAbs.log2 + 1 ≤ 9000
    exact log_of h
theorem bits_abs (x : Int) : Builtin.Int.intBits (x.natAbs : Int) = Builtin.Int.intBits x := by
  unfold Builtin.Int.intBits
  by_cases h : x = 0
  · subst h; rfl
  · have q1 : (x == 0) = false := by simpa using h
    have q2 : ((x.natAbs : Int) == 0) = false := by simpa using h
    rw [q1, q2]
    rfl
theorem gcd_iter {a b n m : Nat} (hn : Builtin.Int.intBits (a : Int) = n) (hm : Builtin.Int.intBits (b : Int) = m) (h1 : n ≤ 9000) (h2 : m ≤ 9000) : l__law_gcd_0_i [.va none (.int a), .va none (.int b), .em, .em] = .ok (intItems 0 1 (n + m + 4)) := by
  have hl : inLine ((n : Int) + m + 4) = true := inLine_of (by omega) (by omega)
  have e : ((n : Int) + m + 4).toNat = n + m + 4 := by omega
  have hA : evA true [x2 (pl dAdd) (x2 (pl dAdd) (x1 (p1 dBits) (xVa 0)) (x1 (p1 dBits) (xVa 1))) (xCn (.int 4))] [.va none (.int a), .va none (.int b), .em, .em] = .ok [⟨false, none, .int ((n : Int) + m + 4)⟩] := by
    rw [← hn, ← hm]
    rfl
  unfold l__law_gcd_0_i
  rw [xIt_of, hA, Res.bind_ok, range1_i hl, e]
theorem gcd_key {a b n : Nat} (hp : a * b < 2 ^ n) {vs : List BV} (hl : n + 2 < vs.length) : forL (bd1 2) l__law_gcd_0_b vs [.va none (.int a), .va none (.int b), .em, .em] = .rt none (.int (Nat.gcd a b : Nat)) := by
  cases vs with
  | nil => simp at hl
  | cons v vs =>
    simp only [List.length_cons] at hl
    by_cases hb0 : b = 0
    · rw [hb0]
      refine forL_rt (ρ1 := [.va none (.int a), .va none (.int (0 : Nat)), .va v.k v.d, .em]) (by simp [bd1, setSl_eq]) ?_
      simp [l__law_gcd_0_b]
    · have hb' : (b : Int) ≠ 0 := by omega
      have hm : (a : Int).fmod b = ((a % b : Nat) : Int) := by
        rw [Int.fmod_eq_emod_of_nonneg _ (by omega)]
        rfl
      have hle : a % b ≤ a := Nat.mod_le _ _
      have hlt : a % b < b := Nat.mod_lt _ (by omega)
      have hp' : b * (a % b) < 2 ^ n := by
        have : b * (a % b) ≤ b * a := Nat.mul_le_mul_left _ hle
        rw [Nat.mul_comm b a] at this
        omega
      have ih := gcd_loop n vs b (a % b) (.va v.k v.d) (.va none (.int ((a : Int).fmod b))) (by omega) hp' (by omega) rfl rfl
      rw [← hm] at ih
      have e : Nat.gcd b (a % b) = Nat.gcd a b := by rw [Nat.gcd_comm b, ← Nat.gcd_rec b a, Nat.gcd_comm]
      rw [e] at ih
      refine (forL_nx (ρ1 := [.va none (.int a), .va none (.int b), .va v.k v.d, .em]) (by simp [bd1, setSl_eq]) ?_).trans ih
      simp [l__law_gcd_0_b, hb0, hb', setSl_eq]
theorem gcd_ok {a b : Int} (ha : a.natAbs < 2 ^ 9000) (hb : b.natAbs < 2 ^ 9000) : f__law_gcd [.int a, .int b] = .ok (none, .int (Nat.gcd a.natAbs b.natAbs : Nat)) := by
  have h1 := bits_le ha
  have h2 := bits_le hb
  clear ha hb
  have n1 := bits_lt a
  have n2 := bits_lt b
  have hp : a.natAbs * b.natAbs < 2 ^ (Builtin.Int.intBits a + Builtin.Int.intBits b) := by
    rw [Nat.pow_add]
    exact Nat.mul_lt_mul'' n1 n2
  have hi := gcd_iter (bits_abs a) (bits_abs b) h1 h2
  have key := gcd_key hp (vs := intItems 0 1 (Builtin.Int.intBits a + Builtin.Int.intBits b + 4)) (by rw [intItems_len]; omega)
  refine runB_rt rfl ?_
  show s__law_gcd [.va (some 0) (.int a), .va (some 0) (.int b), .em, .em] = _
  unfold s__law_gcd
  rw [sSeq_nx (ρ' := [.va none (.int a.natAbs), .va (some 0) (.int b), .em, .em]) (by simp only [ap_asg, ap_xA, evA_cons, evA_nil, xVa_0, Res.bind_ok, settle_i, b1_ap, dAbs_i, sr_ok, asgR_int]; rfl)]
  rw [sSeq_nx (ρ' := [.va none (.int a.natAbs), .va none (.int b.natAbs), .em, .em]) (by simp only [ap_asg, ap_xA, evA_cons, evA_nil, xVa_1, Res.bind_ok, settle_i, b1_ap, dAbs_i, sr_ok, asgR_int]; rfl)]
  exact sSeq_rt (sFor_rt hi key)
theorem law_fraction_ok {t l : Int} (h : l ≠ 0) (ht : t.natAbs < 2 ^ 9000) (hb : l.natAbs < 2 ^ 9000) : f__law_fraction [.int t, .int l] = .ok (none, nf t l) := by
  have hn := sg_ne (t := t) h
  have hl := sg_log (t := t) h hb
  have hg := gcd_ok ht hb
  clear ht hb
  refine runB_rt rfl ?_
  show s__law_fraction [.va (some 0) (.int t), .va (some 0) (.int l), .em] = _
  unfold s__law_fraction
  have e1 : xA true (xCall f__law_gcd 2) [xVa 0, xVa 1] [.va (some 0) (.int t), .va (some 0) (.int l), .em] = .ok ⟨false, none, .int (gz t l)⟩ := by
    exact call_ok (vs := [⟨false, none, .int t⟩, ⟨false, none, .int l⟩]) (by simp) rfl hg
  rw [sSeq_nx (ρ' := [.va (some 0) (.int t), .va (some 0) (.int l), .va none (.int (gz t l))]) (by rw [ap_asg, e1]; rfl)]
  have e2 : sIf (xTb (x2 (pl dLt) (xVa 1) (xCn (.int 0)))) (sAsg 2 (x1 (p1 dNeg) (xVa 2))) sNil [.va (some 0) (.int t), .va (some 0) (.int l), .va none (.int (gz t l))] = .nx [.va (some 0) (.int t), .va (some 0) (.int l), .va none (.int (sg t l))] := by
    unfold sg
    by_cases hneg : l < 0
    · simp [hneg, setSl_eq]
    · simp [hneg]
  rw [sSeq_nx e2]
  unfold nf
  simp [mkTup, dispLv, dDiv_i hn hl]
/-- the normal form is that of the number -/
theorem nf_scale {t l f : Int} (hl : l ≠ 0) (hf : 0 < f) : nf (t * f) (l * f) = nf t l := by
  have eg : sg (t * f) (l * f) = sg t l * f := by
    unfold sg gz
    have e1 : Nat.gcd (t * f).natAbs (l * f).natAbs = Nat.gcd t.natAbs l.natAbs * f.natAbs := by rw [Int.natAbs_mul, Int.natAbs_mul, Nat.gcd_mul_right]
    have e2 : ((f.natAbs : Nat) : Int) = f := by omega
    rw [e1]
    have e3 : (l * f < 0) ↔ l < 0 := by
      constructor
      · intro h
        apply Classical.byContradiction
        intro h'
        have := Int.mul_nonneg (show 0 ≤ l by omega) (show 0 ≤ f by omega)
        omega
      · intro h
        exact Int.mul_neg_of_neg_of_pos h hf
    by_cases h : l < 0
    · rw [if_pos h, if_pos (e3.mpr h), Int.natCast_mul, e2, Int.neg_mul]
    · rw [if_neg h, if_neg (fun z => h (e3.mp z)), Int.natCast_mul, e2]
  have q : ∀ x : Int, (x * f).fdiv (sg t l * f) = x.fdiv (sg t l) := fun x => by
    rw [Int.mul_comm x f, Int.mul_comm (sg t l) f]
    exact Int.mul_fdiv_mul_of_pos _ _ hf
  unfold nf
  rw [eg, q, q]
theorem nf_neg {t l : Int} (hl : l ≠ 0) : nf (-t) (-l) = nf t l := by
  have eg : sg (-t) (-l) = -sg t l := by
    unfold sg gz
    rw [Int.natAbs_neg, Int.natAbs_neg]
    by_cases h : l < 0
    · rw [if_pos h, if_neg (by omega), Int.neg_neg]
    · rw [if_neg h, if_pos (by omega)]
  unfold nf
  rw [eg, Int.neg_fdiv_neg, Int.neg_fdiv_neg]
/-! ### _law_is -/
theorem noBool {p q : Int} {s1 s2 s3 : Sl} (h1 : noAl s1 = true) (h2 : noAl s2 = true) (h3 : noAl s3 = true) :
    xLc c__law_is_0_i [4] (bd1 4) c__law_is_0_c c__law_is_0_x [.va (some 0) (pr p q), s1, s2, s3, .em] = .ok ⟨false, none, .list [.bool false, .bool false]⟩ := by
  have e1 : c__law_is_0_i [.va (some 0) (pr p q), s1, s2, s3, .em] = .ok [⟨false, none, .int p⟩, ⟨false, none, .int q⟩] := by
    unfold c__law_is_0_i
    rw [xItV_of]
    rfl
  have e2 : fgt [4] [.va (some 0) (pr p q), s1, s2, s3, .em] = [.va (some 0) (pr p q), s1, s2, s3, .em] := by
    simp [fgt, setSl_eq, h1, h2, h3]
  unfold xLc
  rw [e1, Res.bind_ok, if_pos (by simp), e2]
  simp [lcL, bd1, setSl_eq, h1, h2, h3, c__law_is_0_c, c__law_is_0_x, tTrue, noRz, mkLst, dispLv, sc]
theorem is_ok {t l : Int} (h : l ≠ 0) (ht : t.natAbs < 2 ^ 9000) (hb : l.natAbs < 2 ^ 9000) : f__law_is [nf t l, .int t, .int l] = .ok (none, .bool true) := by
  have hg := law_fraction_ok h ht hb
  clear ht hb
  obtain ⟨p, q, e⟩ : ∃ p q, nf t l = pr p q := ⟨_, _, rfl⟩
  rw [e] at hg ⊢
  refine runB_rt rfl ?_
  show s__law_is [.va (some 0) (pr p q), .va (some 0) (.int t), .va (some 0) (.int l), .em, .em] = _
  unfold s__law_is
  have hfl : flat (pr p q) = true := by simp [pr]
  have e1 : xA true (xCall f__law_fraction 2) [xVa 1, xVa 2] [.va (some 0) (pr p q), .va (some 0) (.int t), .va (some 0) (.int l), .em, .em] = .ok ⟨false, none, pr p q⟩ := by
    exact call_ok (vs := [⟨false, none, .int t⟩, ⟨false, none, .int l⟩]) (by simp) rfl hg
  rw [sSeq_nx (ρ' := [.va (some 0) (pr p q), .va (some 0) (.int t), .va (some 0) (.int l), .va none (pr p q), .em]) (by rw [ap_asg, e1, sr_ok, asgR_flat' hfl]; rfl)]
  have e2 : dIsi "tuple" (pr p q) = .ok (.bool true) := dIsi_tup
  rw [sSeq_nx (ρ' := [.va (some 0) (pr p q), .va (some 0) (.int t), .va (some 0) (.int l), .va none (pr p q), .em]) (by simp [e2, dNe_self shaped_pr])]
  rw [ap_ret, ap_not, ap_xA, evA_cons, noBool rfl rfl rfl]
  rfl
/-! ### the program's plus, minus, times, over -/
theorem call_fr {ρ : Rho} {xs : List (Rho → Res BV)} {t l : Int} (h1 : evA true xs ρ = .ok [⟨false, none, .int t⟩, ⟨false, none, .int l⟩]) (h : l ≠ 0) (hb : Bd 8000 l) : xA true (xCall f_fraction 2) xs ρ = .ok ⟨false, none, nf t l⟩ :=
  call_ok h1 rfl (fraction_ok h (hb.mono (by omega)))
theorem retR_nf {t l : Int} {bb : Bool} {k : Lv} : retR ⟨bb, k, nf t l⟩ = .rt none (nf t l) := retR_pr
theorem plus_ok {a b c d : Int} (ha : Bd 1000 a) (hb : Bd 1000 b) (hc : Bd 1000 c) (hd : Bd 1000 d) (b0 : b ≠ 0) (d0 : d ≠ 0) : f_plus [pr a b, pr c d] = .ok (none, nf (a * d + c * b) (b * d)) := by
  refine runB_rt rfl ?_
  show s_plus [.va (some 0) (pr a b), .va (some 0) (pr c d)] = _
  unfold s_plus
  rw [sSeq_nx (ρ' := [.va (some 0) (pr a b), .va (some 0) (pr c d)]) (by simp)]
  rw [ap_ret, call_fr (t := a * d + c * b) (l := b * d) (by simp [dMul_b ha hd, dMul_b hc hb, dMul_b hb hd]) (Int.mul_ne_zero b0 d0) ((hb.mul hd).mono (by omega)), sr_ok, retR_nf]
theorem plus_none1 {d : D} : f_plus [.none, d] = .ok (none, .none) := by
  refine runB_rt rfl ?_
  show s_plus [.va (some 0) .none, .va (some 0) d] = _
  unfold s_plus
  refine sSeq_rt ?_
  simp
theorem plus_none2 {d : D} : f_plus [d, .none] = .ok (none, .none) := by
  refine runB_rt rfl ?_
  show s_plus [.va (some 0) d, .va (some 0) .none] = _
  unfold s_plus
  refine sSeq_rt ?_
  simp
theorem minus_ok {a b c d : Int} (ha : Bd 1000 a) (hb : Bd 1000 b) (hc : Bd 1000 c) (hd : Bd 1000 d) (b0 : b ≠ 0) (d0 : d ≠ 0) : f_minus [pr a b, pr c d] = .ok (none, nf (a * d - c * b) (b * d)) := by
  refine runB_rt rfl ?_
  show s_minus [.va (some 0) (pr a b), .va (some 0) (pr c d)] = _
  unfold s_minus
  rw [ap_ret, call_fr (t := a * d - c * b) (l := b * d) (by simp [dMul_b ha hd, dMul_b hc hb, dMul_b hb hd]) (Int.mul_ne_zero b0 d0) ((hb.mul hd).mono (by omega)), sr_ok, retR_nf]
theorem times_ok {a b c d : Int} (ha : Bd 1000 a) (hb : Bd 1000 b) (hc : Bd 1000 c) (hd : Bd 1000 d) (b0 : b ≠ 0) (d0 : d ≠ 0) : f_times [pr a b, pr c d] = .ok (none, nf (a * c) (b * d)) := by
  refine runB_rt rfl ?_
  show s_times [.va (some 0) (pr a b), .va (some 0) (pr c d)] = _
  unfold s_times
  rw [ap_ret, call_fr (t := a * c) (l := b * d) (by simp [dMul_b ha hc, dMul_b hb hd]) (Int.mul_ne_zero b0 d0) ((hb.mul hd).mono (by omega)), sr_ok, retR_nf]
theorem over_ok {a b c d : Int} (ha : Bd 1000 a) (hb : Bd 1000 b) (hc : Bd 1000 c) (hd : Bd 1000 d) (b0 : b ≠ 0) (c0 : c ≠ 0) : f_over [pr a b, pr c d] = .ok (none, nf (a * d) (b * c)) := by
  refine runB_rt rfl ?_
  show s_over [.va (some 0) (pr a b), .va (some 0) (pr c d)] = _
  unfold s_over
  rw [ap_ret, call_fr (t := a * d) (l := b * c) (by simp [dMul_b ha hd, dMul_b hb hc]) (Int.mul_ne_zero b0 c0) ((hb.mul hc).mono (by omega)), sr_ok, retR_nf]
/-! ### what is refused -/
theorem fraction_0 {t : Int} : ∃ ρ', s_fraction [.va (some 0) (.int t), .va (some 0) (.int 0), .em] = .rz "OutOfRange" ρ' := by
  refine ⟨[.va (some 0) (.int t), .va (some 0) (.int 0), .em], ?_⟩
  unfold s_fraction
  rw [ap_seq]
  have : sIf (xTb (x2 (pl dEq) (xVa 1) (xCn (PyData.int 0)))) (sRz "OutOfRange") sNil [.va (some 0) (.int t), .va (some 0) (.int 0), .em] = .rz "OutOfRange" [.va (some 0) (.int t), .va (some 0) (.int 0), .em] := by simp
  rw [this, SR.seq_rz]
theorem fraction_rz {t : Int} : f_fraction [.int t, .int 0] = .rz "OutOfRange" := by
  obtain ⟨ρ', e⟩ := fraction_0 (t := t)
  exact runB_rz rfl e
theorem no_low_ok {t : Int} : f__law_no_low [.int t] = .ok (none, .bool true) := by
  refine runB_rt rfl ?_
  show s__law_no_low [.va (some 0) (.int t), .em] = _
  unfold s__law_no_low
  refine sSeq_rt ?_
  have e1 : xA true (xCall f_fraction 2) [xVa 0, xCn (.int 0)] [.va (some 0) (.int t), .em] = .rz "OutOfRange" := call_rz (vs := [⟨false, none, .int t⟩, ⟨false, none, .int 0⟩]) (by simp) rfl fraction_rz
  have e2 : sEx (xA true (xCall f_fraction 2) [xVa 0, xCn (.int 0)]) [.va (some 0) (.int t), .em] = .rz "OutOfRange" [.va (some 0) (.int t), .em] := by rw [ap_ex, e1]; rfl
  unfold sTryAs
  rw [e2]
  rfl
theorem no_over_ok {a b : Int} (ha : Bd 1000 a) (hb : Bd 1000 b) : f__law_no_over [pr a b] = .ok (none, .bool true) := by
  have hz : f_over [pr a b, pr 0 1] = .rz "OutOfRange" := by
    refine runB_rz (ρ' := [.va (some 0) (pr a b), .va (some 0) (pr 0 1)]) rfl ?_
    show s_over [.va (some 0) (pr a b), .va (some 0) (pr 0 1)] = _
    unfold s_over
    have e0 : Bd 1 (0 : Int) := by unfold Bd; decide
    have e1 : Bd 1 (1 : Int) := by unfold Bd; decide
    have q : xA true (xCall f_fraction 2) [x2 (pl dMul) (x2 ixD (xVa 0) (xCn (.int 0))) (x2 ixD (xVa 1) (xCn (.int 1))), x2 (pl dMul) (x2 ixD (xVa 0) (xCn (.int 1))) (x2 ixD (xVa 1) (xCn (.int 0)))] [.va (some 0) (pr a b), .va (some 0) (pr 0 1)] = .rz "OutOfRange" := call_rz (vs := [⟨false, none, .int a⟩, ⟨false, none, .int 0⟩]) (by simp [dMul_b ha e1, dMul_b hb e0]) rfl fraction_rz
    rw [ap_ret, q]
    rfl
  refine runB_rt rfl ?_
  show s__law_no_over [.va (some 0) (pr a b), .em] = _
  unfold s__law_no_over
  refine sSeq_rt ?_
  have e1 : xA true (xCall f_over 2) [xVa 0, xA false mkTup [xCn (.int 0), xCn (.int 1)]] [.va (some 0) (pr a b), .em] = .rz "OutOfRange" := call_rz (vs := [⟨false, none, pr a b⟩, ⟨false, none, pr 0 1⟩]) (by simp) rfl hz
  have e2 : sEx (xA true (xCall f_over 2) [xVa 0, xA false mkTup [xCn (.int 0), xCn (.int 1)]]) [.va (some 0) (pr a b), .em] = .rz "OutOfRange" [.va (some 0) (pr a b), .em] := by rw [ap_ex, e1]; rfl
  unfold sTryAs
  rw [e2]
  rfl
/-! ### draws -/
theorem cell_ok {ns : List Int} {k : Int} (h0 : 0 ≤ k) : f__law_cell [.list (ns.map .int), .int k] = .ok (none, .int (ns.getD k.toNat 0)) := by
  refine runB_rt rfl ?_
  show s__law_cell [.va (some 0) (.list (ns.map .int)), .va (some 0) (.int k)] = _
  unfold s__law_cell
  by_cases h : k < ns.length
  · refine sSeq_rt ?_
    have hk : k.toNat < ns.length := by omega
    have e0 : ns[k.toNat]? = some ns[k.toNat] := List.getElem?_eq_getElem hk
    have e : atI (ns.map PyData.int) k = some (.int (ns.getD k.toNat 0)) := by
      rw [atI_map h0 e0, List.getD, e0]
      rfl
    simp [h, ixD_l e]
  · have hk : ¬ k.toNat < ns.length := by omega
    rw [sSeq_nx (ρ' := [.va (some 0) (.list (ns.map .int)), .va (some 0) (.int k)]) (by simp [h])]
    simp [List.getD, hk]
theorem draw_loop : ∀ (ls : List Int), (∀ l ∈ ls, 0 < l ∧ Bd 8000 l) → ∀ (ds : List D) (c r st : Int) (fr : Bool) (lim : D) (s6 : Sl), noAl s6 = true → 0 ≤ r → 0 ≤ st → st < 2147483647 → ds.length + ls.length < 1000 →
    ∃ (xs : List Int) (r' st' : Int) (s6' : Sl), forL (bd1 6) l__law_draws_0_b (ls.map fun l => ⟨false, none, .int l⟩) [.va (some 0) (.int c), .va (some 0) lim, .va none (.list ds), .va none (.int r), .va none (.int st), .va none (.bool fr), s6] =
      .nx [.va (some 0) (.int c), .va (some 0) lim, .va none (.list (ds ++ xs.map .int)), .va none (.int r'), .va none (.int st'), .va none (.bool fr), s6'] ∧ xs.length = ls.length ∧ ∀ (i : Nat) (l x : Int), ls[i]? = some l → xs[i]? = some x → 0 ≤ x ∧ x < l
  | [], _, ds, c, r, st, fr, lim, s6, h6, hr, hst, hst2, hlen => ⟨[], r, st, s6, by simp [forL_nil], rfl, fun i l x e => by simp at e⟩
  | l :: ls, hl, ds, c, r, st, fr, lim, s6, h6, hr, hst, hst2, hlen => by
    obtain ⟨hl0, hlb⟩ := hl l List.mem_cons_self
    have hl' : ∀ x ∈ ls, 0 < x ∧ Bd 8000 x := fun x hx => hl x (List.mem_cons_of_mem _ hx)
    have hne : l ≠ 0 := by omega
    have hsz : ds.length < sizeLine := Nat.lt_of_lt_of_le (show ds.length < 1000 by omega) (by decide)
    have e1 : bd1 6 [.va (some 0) (.int c), .va (some 0) lim, .va none (.list ds), .va none (.int r), .va none (.int st), .va none (.bool fr), s6] ⟨false, none, .int l⟩ = .ok [.va (some 0) (.int c), .va (some 0) lim, .va none (.list ds), .va none (.int r), .va none (.int st), .va none (.bool fr), .va none (.int l)] := by
      simp [bd1, setSl_eq, h6]
    have fin : ∀ (x r2 st2 : Int), 0 ≤ x → x < l → 0 ≤ r2 → 0 ≤ st2 → st2 < 2147483647 →
        l__law_draws_0_b [.va (some 0) (.int c), .va (some 0) lim, .va none (.list ds), .va none (.int r), .va none (.int st), .va none (.bool fr), .va none (.int l)] = .nx [.va (some 0) (.int c), .va (some 0) lim, .va none (.list (ds ++ [.int x])), .va none (.int r2), .va none (.int st2), .va none (.bool fr), .va none (.int l)] →
        ∃ (xs : List Int) (r' st' : Int) (s6' : Sl), forL (bd1 6) l__law_draws_0_b ((l :: ls).map fun l => ⟨false, none, .int l⟩) [.va (some 0) (.int c), .va (some 0) lim, .va none (.list ds), .va none (.int r), .va none (.int st), .va none (.bool fr), s6] =
          .nx [.va (some 0) (.int c), .va (some 0) lim, .va none (.list (ds ++ xs.map .int)), .va none (.int r'), .va none (.int st'), .va none (.bool fr), s6'] ∧ xs.length = (l :: ls).length ∧ ∀ (i : Nat) (l' x : Int), (l :: ls)[i]? = some l' → xs[i]? = some x → 0 ≤ x ∧ x < l' := fun x r2 st2 hx hxl hr2 hst3 hst4 hb => by
      obtain ⟨xs, r', st', s6', f1, f2, f3⟩ := draw_loop ls hl' (ds ++ [.int x]) c r2 st2 fr lim (.va none (.int l)) rfl hr2 hst3 hst4 (by simp at hlen ⊢; omega)
      refine ⟨x :: xs, r', st', s6', ?_, by simp [f2], fun i l' y h1 h2 => ?_⟩
      · rw [List.map_cons, forL_nx e1 hb, f1]
        simp
      · cases i with
        | zero =>
          simp at h1 h2
          subst h1; subst h2
          exact ⟨hx, hxl⟩
        | succ i => exact f3 i l' y (by simpa using h1) (by simpa using h2)
    by_cases hc : fr = true ∧ 1 < r
    · obtain ⟨rfl, hr1⟩ := hc
      refine fin (r.fmod l) (r.fdiv l) st (Int.fmod_nonneg_of_pos _ hl0) (Int.fmod_lt_of_pos _ hl0) (Int.fdiv_nonneg hr (by omega)) hst hst2 ?_
      simp [l__law_draws_0_b, hr1, hne, setSl_eq, hsz, dDiv_b hne hlb]
    · have b1 : Bd 31 st := Bd.of (m := 2147483647) (by omega) (by decide)
      have c1 : Bd 16 (48271 : Int) := by unfold Bd; decide
      have c2 : Bd 17 (69621 : Int) := by unfold Bd; decide
      have c3 : Bd 4 (13 : Int) := by unfold Bd; decide
      have p1 : 0 ≤ (st * 48271 + 11).fmod 2147483647 := Int.fmod_nonneg_of_pos _ (by decide)
      have p2 : (st * 48271 + 11).fmod 2147483647 < 2147483647 := Int.fmod_lt_of_pos _ (by decide)
      generalize hs1 : (st * 48271 + 11).fmod 2147483647 = st1 at p1 p2
      have b2 : Bd 31 st1 := Bd.of (m := 2147483647) (by omega) (by decide)
      have p3 : 0 ≤ (st1 * 69621 + 7).fmod 2147483647 := Int.fmod_nonneg_of_pos _ (by decide)
      have p4 : (st1 * 69621 + 7).fmod 2147483647 < 2147483647 := Int.fmod_lt_of_pos _ (by decide)
      refine fin (((st1 * 69621 + 7).fmod 2147483647).fdiv 13 |>.fmod l) r ((st1 * 69621 + 7).fmod 2147483647) (Int.fmod_nonneg_of_pos _ hl0) (Int.fmod_lt_of_pos _ hl0) hr p3 p4 ?_
      have hcond : (if fr = true then (Res.ok (decide (1 < r)) : Res Bool) else .ok false) = .ok false := by
        by_cases h1 : fr = true
        · have h2 : ¬ 1 < r := fun z => hc ⟨h1, z⟩
          simp [h1, h2]
        · simp [h1]
      unfold l__law_draws_0_b
      rw [ap_if, ap_tand]
      simp [hcond, hne, setSl_eq, hsz, dMul_b b1 c1, dMul_b b2 c2, hs1, dDiv_b (show (13 : Int) ≠ 0 by decide) c3]
theorem pow18 : dPow (.int 10) (.int 18) = .ok (.int 1000000000000000000) := by kernel_rfl
theorem draws_ok (c : Int) (ls : List Int) (hl : ∀ l ∈ ls, 0 < l ∧ Bd 8000 l) (hlen : ls.length < 1000) :
    ∃ xs : List Int, f__law_draws [.int c, .list (ls.map .int)] = .ok (none, .list (xs.map .int)) ∧ xs.length = ls.length ∧ ∀ (i : Nat) (l x : Int), ls[i]? = some l → xs[i]? = some x → 0 ≤ x ∧ x < l := by
  have q1 : 0 ≤ ((c.natAbs : Int)).fmod 2147483647 := Int.fmod_nonneg_of_pos _ (by decide)
  have q2 : ((c.natAbs : Int)).fmod 2147483647 < 2147483647 := Int.fmod_lt_of_pos _ (by decide)
  obtain ⟨xs, r', st', s6', f1, f2, f3⟩ := draw_loop ls hl [] c c.natAbs ((c.natAbs : Int).fmod 2147483647) (decide (c < 0) || decide (1000000000000000000 ≤ c)) (.list (ls.map .int)) .em rfl (by omega) q1 q2 (by simpa using hlen)
  refine ⟨xs, ?_, f2, f3⟩
  refine runB_rt rfl ?_
  show s__law_draws [.va (some 0) (.int c), .va (some 0) (.list (ls.map .int)), .em, .em, .em, .em, .em] = _
  unfold s__law_draws
  rw [sSeq_nx (ρ' := [.va (some 0) (.int c), .va (some 0) (.list (ls.map .int)), .va none (.list []), .em, .em, .em, .em]) (by simp [mkLst, setSl_eq, sc])]
  rw [sSeq_nx (ρ' := [.va (some 0) (.int c), .va (some 0) (.list (ls.map .int)), .va none (.list []), .va none (.int c.natAbs), .em, .em, .em]) (by simp only [ap_asg, ap_xA, evA_cons, evA_nil, xVa_0, Res.bind_ok, settle_i, b1_ap, dInt_i, dAbs_i, sr_ok, asgR_int]; rfl)]
  rw [sSeq_nx (ρ' := [.va (some 0) (.int c), .va (some 0) (.list (ls.map .int)), .va none (.list []), .va none (.int c.natAbs), .va none (.int ((c.natAbs : Int).fmod 2147483647)), .em, .em]) (by
    have h0 : (2147483647 : Int) ≠ 0 := by decide
    simp only [ap_asg, ap_x2, ap_xA, evA_cons, evA_nil, xVa_3, Res.bind_ok, settle_i, b1_ap, dInt_i, pl_ap, ap_cn, dMod_i h0, sr_ok, asgR_int]; rfl)]
  have e4 : xOrV (x2 (pl dLt) (xVa 0) (xCn (.int 0))) (x2 (pl dGe) (xVa 0) (x2 (pl dPow) (xCn (.int 10)) (xCn (.int 18)))) [.va (some 0) (.int c), .va (some 0) (.list (ls.map .int)), .va none (.list []), .va none (.int c.natAbs), .va none (.int ((c.natAbs : Int).fmod 2147483647)), .em, .em] = .ok ⟨false, none, .bool (decide (c < 0) || decide (1000000000000000000 ≤ c))⟩ := by
    by_cases hneg : c < 0
    · simp [hneg]
    · simp [hneg, pow18]
  rw [sSeq_nx (ρ' := [.va (some 0) (.int c), .va (some 0) (.list (ls.map .int)), .va none (.list []), .va none (.int c.natAbs), .va none (.int ((c.natAbs : Int).fmod 2147483647)), .va none (.bool (decide (c < 0) || decide (1000000000000000000 ≤ c))), .em]) (by rw [ap_asg, e4]; rfl)]
  have e5 : l__law_draws_0_i [.va (some 0) (.int c), .va (some 0) (.list (ls.map .int)), .va none (.list []), .va none (.int c.natAbs), .va none (.int ((c.natAbs : Int).fmod 2147483647)), .va none (.bool (decide (c < 0) || decide (1000000000000000000 ≤ c))), .em] = .ok (ls.map fun l => ⟨false, none, .int l⟩) := by
    unfold l__law_draws_0_i
    rw [xItV_of, xVa_1, Res.bind_ok, settle_lt, Res.bind_ok, items_shd, List.map_map]
    rfl
  rw [sSeq_nx (sFor_nx e5 f1)]
  simp
/-! ### moments -/
/-- a moment's data: None or a pair of small numbers -/
def IsM (n : Nat) (d : D) : Prop := d = .none ∨ ∃ a b, d = pr a b ∧ Bd n a ∧ Bd n b ∧ b ≠ 0
theorem nf_bd {n : Nat} {t l : Int} (hl : l ≠ 0) (ht : Bd n t) (hb : Bd n l) : ∃ a b, nf t l = pr a b ∧ Bd n a ∧ Bd n b ∧ b ≠ 0 := by
  have hs := sg_ne (t := t) hl
  have dv : ∀ x : Int, sg t l ∣ x → (x.fdiv (sg t l)).natAbs ≤ x.natAbs := fun x ⟨y, e⟩ => by
    rw [e, Int.mul_fdiv_cancel_left _ hs, Int.natAbs_mul]
    exact Nat.le_mul_of_pos_left _ (by omega)
  have gdl : sg t l ∣ l := by
    rw [← Int.natAbs_dvd_natAbs, sg_abs]
    exact Nat.gcd_dvd_right _ _
  have gdt : sg t l ∣ t := by
    rw [← Int.natAbs_dvd_natAbs, sg_abs]
    exact Nat.gcd_dvd_left _ _
  refine ⟨_, _, rfl, ht.le (dv t gdt), hb.le (dv l gdl), fun z => hl ?_⟩
  obtain ⟨y, e⟩ := gdl
  have q : l.fdiv (sg t l) = y := by
    conv => lhs; arg 1; rw [e]
    exact Int.mul_fdiv_cancel_left _ hs
  rw [q] at z
  rw [e, z, Int.mul_zero]
theorem call_lf {ρ : Rho} {xs : List (Rho → Res BV)} {t l : Int} (h1 : evA true xs ρ = .ok [⟨false, none, .int t⟩, ⟨false, none, .int l⟩]) (h : l ≠ 0) (ht : Bd 8000 t) (hb : Bd 8000 l) : xA true (xCall f__law_fraction 2) xs ρ = .ok ⟨false, none, nf t l⟩ :=
  call_ok h1 rfl (law_fraction_ok h (ht.mono (by omega)) (hb.mono (by omega)))
theorem moment_ok (c : Int) : ∃ d, f__law_moment [.int c] = .ok (none, d) ∧ IsM 40 d := by
  obtain ⟨xs, f1, f2, f3⟩ := draws_ok c [8, 21, 6, 2000001, 1000000] (by
    intro l hl
    simp at hl
    rcases hl with rfl | rfl | rfl | rfl | rfl <;> exact ⟨by decide, Bd.of (n := 8000) (m := 2 ^ 40) (by decide) (Nat.pow_lt_pow_right (by omega) (by omega))⟩) (by decide)
  match xs, f2 with
  | [x0, x1, x2', x3, x4], _ =>
  have b0 := f3 0 8 x0 rfl rfl
  have b1 := f3 1 21 x1 rfl rfl
  have b2 := f3 2 6 x2' rfl rfl
  have b3 := f3 3 2000001 x3 rfl rfl
  have b4 := f3 4 1000000 x4 rfl rfl
  have e1 : xA true (xCall f__law_draws 2) [xVa 0, xA false mkLst [xCn (.int 8), xCn (.int 21), xCn (.int 6), xCn (.int 2000001), xCn (.int 1000000)]] [.va (some 0) (.int c), .em] = .ok ⟨false, none, .list [.int x0, .int x1, .int x2', .int x3, .int x4]⟩ :=
    call_ok (vs := [⟨false, none, .int c⟩, ⟨false, some 0, .list [.int 8, .int 21, .int 6, .int 2000001, .int 1000000]⟩]) (by simp [mkLst, dispLv, sc]) rfl f1
  have g0 : sAsg 1 (xA true (xCall f__law_draws 2) [xVa 0, xA false mkLst [xCn (.int 8), xCn (.int 21), xCn (.int 6), xCn (.int 2000001), xCn (.int 1000000)]]) [.va (some 0) (.int c), .em] = .nx [.va (some 0) (.int c), .va none (.list [.int x0, .int x1, .int x2', .int x3, .int x4])] := by
    rw [ap_asg, e1]; rfl
  have i0 : atI [PyData.int x0, .int x1, .int x2', .int x3, .int x4] 0 = some (.int x0) := rfl
  have i1 : atI [PyData.int x0, .int x1, .int x2', .int x3, .int x4] 1 = some (.int x1) := rfl
  have i2 : atI [PyData.int x0, .int x1, .int x2', .int x3, .int x4] 2 = some (.int x2') := rfl
  have i3 : atI [PyData.int x0, .int x1, .int x2', .int x3, .int x4] 3 = some (.int x3) := rfl
  have i4 : atI [PyData.int x0, .int x1, .int x2', .int x3, .int x4] 4 = some (.int x4) := rfl
  have out : ∀ d, s__law_moment [.va (some 0) (.int c), .em] = .rt none d → f__law_moment [.int c] = .ok (none, d) := fun d h => runB_rt rfl h
  have sm : ∀ x : Int, x.natAbs ≤ 3000000 → Bd 40 x := fun x h => Bd.of h (by decide)
  by_cases h2 : x0 < 2
  · refine ⟨.none, out _ ?_, .inl rfl⟩
    unfold s__law_moment
    rw [sSeq_nx g0]
    refine sSeq_rt ?_
    simp [ixD_l i0, h2]
  · by_cases h3 : x0 = 2
    · obtain ⟨a, b, e, ha, hb, hb0⟩ := nf_bd (n := 40) (t := x3 - 1000000) (l := 1 + x4) (by omega) (sm _ (by omega)) (sm _ (by omega))
      refine ⟨pr a b, out _ ?_, .inr ⟨a, b, rfl, ha, hb, hb0⟩⟩
      unfold s__law_moment
      rw [sSeq_nx g0, sSeq_nx (ρ' := [.va (some 0) (.int c), .va none (.list [.int x0, .int x1, .int x2', .int x3, .int x4])]) (by simp [ixD_l i0, h2])]
      refine sSeq_rt ?_
      have q : xA true (xCall f__law_fraction 2) [x2 (pl dSub) (x2 ixD (xVa 1) (xCn (.int 3))) (xCn (.int 1000000)), x2 (pl dAdd) (xCn (.int 1)) (x2 ixD (xVa 1) (xCn (.int 4)))] [.va (some 0) (.int c), .va none (.list [.int x0, .int x1, .int x2', .int x3, .int x4])] = .ok ⟨false, none, nf (x3 - 1000000) (1 + x4)⟩ :=
        call_lf (by simp [ixD_l i3, ixD_l i4]) (by omega) ((sm _ (by omega)).mono (by omega)) ((sm _ (by omega)).mono (by omega))
      have q2 : xTb (x2 (pl dEq) (x2 ixD (xVa 1) (xCn (.int 0))) (xCn (.int 2))) [.va (some 0) (.int c), .va none (.list [.int x0, .int x1, .int x2', .int x3, .int x4])] = .ok (decide (x0 = 2)) := by simp [ixD_l i0]
      rw [ap_if, q2, decide_eq_true h3, sr_ok, if_pos rfl, ap_ret, q, e]
      rfl
    · by_cases h4 : x0 = 3
      · obtain ⟨a, b, e, ha, hb, hb0⟩ := nf_bd (n := 40) (t := x1 - 10) (l := 1 + x2') (by omega) (sm _ (by omega)) (sm _ (by omega))
        refine ⟨pr a b, out _ ?_, .inr ⟨a, b, rfl, ha, hb, hb0⟩⟩
        unfold s__law_moment
        rw [sSeq_nx g0, sSeq_nx (ρ' := [.va (some 0) (.int c), .va none (.list [.int x0, .int x1, .int x2', .int x3, .int x4])]) (by simp [ixD_l i0, h2]), sSeq_nx (ρ' := [.va (some 0) (.int c), .va none (.list [.int x0, .int x1, .int x2', .int x3, .int x4])]) (by simp [ixD_l i0, h3])]
        refine sSeq_rt ?_
        have q : xA true (xCall f__law_fraction 2) [x2 (pl dSub) (x2 ixD (xVa 1) (xCn (.int 1))) (xCn (.int 10)), x2 (pl dAdd) (xCn (.int 1)) (x2 ixD (xVa 1) (xCn (.int 2)))] [.va (some 0) (.int c), .va none (.list [.int x0, .int x1, .int x2', .int x3, .int x4])] = .ok ⟨false, none, nf (x1 - 10) (1 + x2')⟩ :=
          call_lf (by simp [ixD_l i1, ixD_l i2]) (by omega) ((sm _ (by omega)).mono (by omega)) ((sm _ (by omega)).mono (by omega))
        have q2 : xTb (x2 (pl dEq) (x2 ixD (xVa 1) (xCn (.int 0))) (xCn (.int 3))) [.va (some 0) (.int c), .va none (.list [.int x0, .int x1, .int x2', .int x3, .int x4])] = .ok (decide (x0 = 3)) := by simp [ixD_l i0]
        rw [ap_if, q2, decide_eq_true h4, sr_ok, if_pos rfl, ap_ret, q, e]
        rfl
      · refine ⟨pr (x1 - 10) 1, out _ ?_, .inr ⟨_, _, rfl, sm _ (by omega), sm _ (by omega), by decide⟩⟩
        unfold s__law_moment
        rw [sSeq_nx g0, sSeq_nx (ρ' := [.va (some 0) (.int c), .va none (.list [.int x0, .int x1, .int x2', .int x3, .int x4])]) (by simp [ixD_l i0, h2]), sSeq_nx (ρ' := [.va (some 0) (.int c), .va none (.list [.int x0, .int x1, .int x2', .int x3, .int x4])]) (by simp [ixD_l i0, h3]), sSeq_nx (ρ' := [.va (some 0) (.int c), .va none (.list [.int x0, .int x1, .int x2', .int x3, .int x4])]) (by simp [ixD_l i0, h4])]
        simp [ixD_l i1]
end Lw

set_option Elab.async false
set_option linter.all false
set_option maxRecDepth 100000
set_option maxHeartbeats 400000
namespace Lw
open PySem PySem.Spec PyProof.Rows L2 Ev
def T60 : Int := 1000000000000000000000000000000000000000000000000000000000000
theorem pow60 : dPow (.int 10) (.int 60) = .ok (.int T60) := by kernel_rfl
theorem t60_pos : 0 < T60 := by decide
theorem t60_bd {x : Int} (h0 : 0 ≤ x) (h : x < T60) : Bd 200 x := Bd.of (m := T60.toNat) (by have := t60_pos; omega) (by decide)
theorem sgn_ok {ρ : Rho} {E : Rho → Res BV} {b : Int} (h : E ρ = .ok ⟨false, none, .int b⟩) (hb : b = 0 ∨ b = 1) : x2 ixD (xA false mkLst [xCn (.int 1), x1 (p1 dNeg) (xCn (.int 1))]) E ρ = .ok ⟨false, none, .int (if b = 0 then 1 else -1)⟩ := by
  have e : xA false mkLst [xCn (.int 1), x1 (p1 dNeg) (xCn (.int 1))] ρ = .ok ⟨false, none, .list [.int 1, .int (-1)]⟩ := Eq.trans rfl rfl
  rw [ap_x2, e, Res.bind_ok, h, Res.bind_ok]
  rcases hb with rfl | rfl <;> rfl
theorem cellx {ns : List Int} {r : Rho} {E : Rho → Res BV} {m : Int} {bb : Bool} {kk : Lv} (h : E (.va (some 0) (.list (ns.map .int)) :: r) = .ok ⟨bb, kk, .int m⟩) (h0 : 0 ≤ m) : xA true (b1 dInt) [xA true (xCall f__law_cell 2) [xVa 0, E]] (.va (some 0) (.list (ns.map .int)) :: r) = .ok ⟨false, none, .int (ns.getD m.toNat 0)⟩ := by
  have e1 : xA true (xCall f__law_cell 2) [xVa 0, E] (.va (some 0) (.list (ns.map .int)) :: r) = .ok ⟨false, none, .int (ns.getD m.toNat 0)⟩ :=
    call_ok (vs := [⟨true, some 0, .list (ns.map .int)⟩, ⟨false, none, .int m⟩]) (by simp [h]) rfl (cell_ok h0)
  rw [ap_xA, evA_cons, e1]
  rfl
theorem bit_cases (x : Int) : Builtin.bitAnd x 1 = 0 ∨ Builtin.bitAnd x 1 = 1 := by
  rw [bitAnd_m1]
  omega
/-- the number with its sign -/
theorem side_ok {ns : List Int} {r : Rho} {E F : Rho → Res BV} {m b : Int} {bb : Bool} {kk : Lv} (h : E (.va (some 0) (.list (ns.map .int)) :: r) = .ok ⟨bb, kk, .int m⟩) (h0 : 0 ≤ m) (hF : F (.va (some 0) (.list (ns.map .int)) :: r) = .ok ⟨false, none, .int b⟩) (hb : b = 0 ∨ b = 1) :
    ∃ t : Int, x2 (pl dMul) (x2 (pl dMod) (xA true (b1 dInt) [xA true (xCall f__law_cell 2) [xVa 0, E]]) (x2 (pl dPow) (xCn (.int 10)) (xCn (.int 60)))) (x2 ixD (xA false mkLst [xCn (.int 1), x1 (p1 dNeg) (xCn (.int 1))]) F) (.va (some 0) (.list (ns.map .int)) :: r) = .ok ⟨false, none, .int t⟩ ∧ Bd 200 t := by
  have q0 := Int.fmod_nonneg_of_pos (ns.getD m.toNat 0) t60_pos
  have q1 := Int.fmod_lt_of_pos (ns.getD m.toNat 0) t60_pos
  have bx := t60_bd q0 q1
  have hs : Bd 1 (if b = 0 then (1 : Int) else -1) := by rcases hb with rfl | rfl <;> (unfold Bd; decide)
  have e1 : x2 (pl dMod) (xA true (b1 dInt) [xA true (xCall f__law_cell 2) [xVa 0, E]]) (x2 (pl dPow) (xCn (.int 10)) (xCn (.int 60))) (.va (some 0) (.list (ns.map .int)) :: r) = .ok ⟨false, none, .int ((ns.getD m.toNat 0).fmod T60)⟩ := by
    rw [ap_x2, cellx h h0, Res.bind_ok, ap_x2, ap_cn, ap_cn, Res.bind_ok, Res.bind_ok, pl_ap, pow60, Res.bind_ok, Res.bind_ok, pl_ap, dMod_i (by have := t60_pos; omega)]
    rfl
  refine ⟨(ns.getD m.toNat 0).fmod T60 * (if b = 0 then 1 else -1), ?_, ?_⟩
  · rw [ap_x2, e1, Res.bind_ok, sgn_ok hF hb, Res.bind_ok, pl_ap, dMul_b bx hs (by omega)]
    rfl
  · rcases hb with rfl | rfl
    · rw [if_pos rfl, Int.mul_one]; exact bx
    · rw [if_neg (by decide)]
      have : (ns.getD m.toNat 0).fmod T60 * -1 = -((ns.getD m.toNat 0).fmod T60) := by omega
      rw [this]
      exact bx.neg
theorem nf_pr {t l : Int} : ∃ a b, nf t l = pr a b := ⟨_, _, rfl⟩
theorem is_call {ρ : Rho} {e1 e2 e3 : Rho → Res BV} {t l : Int} {b2 b3 : Bool} {k2 k3 : Lv} {x : D} (h1 : e1 ρ = .ok ⟨false, none, x⟩) (hx : x = nf t l) (h2 : e2 ρ = .ok ⟨b2, k2, .int t⟩) (h3 : e3 ρ = .ok ⟨b3, k3, .int l⟩) (h : l ≠ 0) (ht : Bd 8000 t) (hb : Bd 8000 l) :
    xA true (xCall f__law_is 3) [e1, e2, e3] ρ = .ok ⟨false, none, .bool true⟩ := by
  subst hx
  have hfl : flat (nf t l) = true := flat_pr
  exact call_ok (vs := [⟨false, none, nf t l⟩, ⟨false, none, .int t⟩, ⟨false, none, .int l⟩]) (by simp [h1, h2, h3, hfl]) rfl (is_ok h (ht.mono (by omega)) (hb.mono (by omega)))
abbrev V (x : Int) : Sl := .va none (.int x)
theorem mom_call {ρ : Rho} {i : Nat} {bb : Bool} {kk : Lv} {c : Int} (h : xVa i ρ = .ok ⟨bb, kk, .int c⟩) : ∃ d, xA true (xCall f__law_moment 1) [xVa i] ρ = .ok ⟨false, none, d⟩ ∧ IsM 40 d := by
  obtain ⟨d, e, m⟩ := moment_ok c
  exact ⟨d, call_ok (vs := [⟨false, none, .int c⟩]) (by simp [h]) rfl e, m⟩
theorem isM_flat {n : Nat} {d : D} (h : IsM n d) : flat d = true := by
  rcases h with rfl | ⟨a, b, rfl, _⟩
  · rfl
  · exact flat_pr
theorem is_non {ρ : Rho} {e : Rho → Res BV} {bb : Bool} {kk : Lv} {d : D} (h : e ρ = .ok ⟨bb, kk, d⟩) : xTb (x2 (pl dIs) e (xCn .none)) ρ = .ok (isNon d) := by
  rw [ap_tb, ap_x2, h]; rfl
theorem is_not_non {ρ : Rho} {e : Rho → Res BV} {bb : Bool} {kk : Lv} {d : D} (h : e ρ = .ok ⟨bb, kk, d⟩) : xTb (x2 (pl dIsNot) e (xCn .none)) ρ = .ok (!isNon d) := by
  rw [ap_tb, ap_x2, h]; rfl
/-- the last part: both moments are numbers -/
theorem both_ok {L : Sl} {k t l f a b c d : Int} {s7 s8 s9 s10 : Sl} (hL : noAl L = true) (h7 : noAl s7 = true) (h8 : noAl s8 = true) (h9 : noAl s9 = true) (h10 : noAl s10 = true) (ha : Bd 40 a) (hb : Bd 40 b) (hc : Bd 40 c) (hd : Bd 40 d) (b0 : b ≠ 0) (d0 : d ≠ 0) :
    (sSeq (sUnp (bdT [7, 8]) (xVa 5)) (sSeq (sUnp (bdT [9, 10]) (xVa 6)) (sSeq (sIf (tOrX (tNotX (xTru (xA true (xCall f__law_is 3) [xA true (xCall f_plus 2) [xVa 5, xVa 6], x2 (pl dAdd) (x2 (pl dMul) (xVa 7) (xVa 10)) (x2 (pl dMul) (xVa 9) (xVa 8)), x2 (pl dMul) (xVa 8) (xVa 10)]))) (tNotX (xTru (xA true (xCall f__law_is 3) [xA true (xCall f_minus 2) [xVa 5, xVa 6], x2 (pl dSub) (x2 (pl dMul) (xVa 7) (xVa 10)) (x2 (pl dMul) (xVa 9) (xVa 8)), x2 (pl dMul) (xVa 8) (xVa 10)])))) (sRet (xCn (.bool false))) (sNil)) (sSeq (sIf (tOrX (tNotX (xTru (xA true (xCall f__law_is 3) [xA true (xCall f_times 2) [xVa 5, xVa 6], x2 (pl dMul) (xVa 7) (xVa 9), x2 (pl dMul) (xVa 8) (xVa 10)]))) (tNotX (xTru (xA true (xCall f__law_no_over 1) [xVa 5])))) (sRet (xCn (.bool false))) (sNil)) (sIf (tAndX (xTb (x2 (pl dNe) (xVa 9) (xCn (.int 0)))) (tNotX (xTru (xA true (xCall f__law_is 3) [xA true (xCall f_over 2) [xVa 5, xVa 6], x2 (pl dMul) (xVa 7) (xVa 10), x2 (pl dMul) (xVa 8) (xVa 9)])))) (sRet (xCn (.bool false))) (sNil))))))
      [L, V k, V t, V l, V f, .va none (pr a b), .va none (pr c d), s7, s8, s9, s10] = .nx [L, V k, V t, V l, V f, .va none (pr a b), .va none (pr c d), V a, V b, V c, V d] := by
  have A := ha.mono (show 40 ≤ 1000 by omega)
  have B := hb.mono (show 40 ≤ 1000 by omega)
  have C := hc.mono (show 40 ≤ 1000 by omega)
  have DD := hd.mono (show 40 ≤ 1000 by omega)
  have nbd : b * d ≠ 0 := Int.mul_ne_zero b0 d0
  have arg : ∀ {φ : List D → Res (Lv × D)} {x : D}, φ [pr a b, pr c d] = .ok (none, x) → xA true (xCall φ 2) [xVa 5, xVa 6] [L, V k, V t, V l, V f, .va none (pr a b), .va none (pr c d), V a, V b, V c, V d] = .ok ⟨false, none, x⟩ := fun {φ x} h =>
    call_ok (vs := [⟨false, none, pr a b⟩, ⟨false, none, pr c d⟩]) (by simp) rfl h
  rw [sSeq_nx (ρ' := [L, V k, V t, V l, V f, .va none (pr a b), .va none (pr c d), V a, V b, s9, s10]) (unp2 (xVa_5) (by simp [hL, h7, h8, h9, h10]))]
  rw [sSeq_nx (ρ' := [L, V k, V t, V l, V f, .va none (pr a b), .va none (pr c d), V a, V b, V c, V d]) (unp2 (xVa_6) (by simp [hL, h9, h10]))]
  have e1 : xA true (xCall f__law_is 3) [xA true (xCall f_plus 2) [xVa 5, xVa 6], x2 (pl dAdd) (x2 (pl dMul) (xVa 7) (xVa 10)) (x2 (pl dMul) (xVa 9) (xVa 8)), x2 (pl dMul) (xVa 8) (xVa 10)] [L, V k, V t, V l, V f, .va none (pr a b), .va none (pr c d), V a, V b, V c, V d] = .ok ⟨false, none, .bool true⟩ :=
    is_call (arg (plus_ok A B C DD b0 d0)) rfl (by simp [dMul_b A DD, dMul_b C B]; exact ⟨rfl, rfl⟩) (by simp [dMul_b B DD]; exact ⟨rfl, rfl⟩) nbd (((A.mul DD).add (C.mul B)).mono (by omega)) ((B.mul DD).mono (by omega))
  have e2 : xA true (xCall f__law_is 3) [xA true (xCall f_minus 2) [xVa 5, xVa 6], x2 (pl dSub) (x2 (pl dMul) (xVa 7) (xVa 10)) (x2 (pl dMul) (xVa 9) (xVa 8)), x2 (pl dMul) (xVa 8) (xVa 10)] [L, V k, V t, V l, V f, .va none (pr a b), .va none (pr c d), V a, V b, V c, V d] = .ok ⟨false, none, .bool true⟩ :=
    is_call (arg (minus_ok A B C DD b0 d0)) rfl (by simp [dMul_b A DD, dMul_b C B]; exact ⟨rfl, rfl⟩) (by simp [dMul_b B DD]; exact ⟨rfl, rfl⟩) nbd (((A.mul DD).sub (C.mul B)).mono (by omega)) ((B.mul DD).mono (by omega))
  have e3 : xA true (xCall f__law_is 3) [xA true (xCall f_times 2) [xVa 5, xVa 6], x2 (pl dMul) (xVa 7) (xVa 9), x2 (pl dMul) (xVa 8) (xVa 10)] [L, V k, V t, V l, V f, .va none (pr a b), .va none (pr c d), V a, V b, V c, V d] = .ok ⟨false, none, .bool true⟩ :=
    is_call (arg (times_ok A B C DD b0 d0)) rfl (by simp [dMul_b A C]; exact ⟨rfl, rfl⟩) (by simp [dMul_b B DD]; exact ⟨rfl, rfl⟩) nbd ((A.mul C).mono (by omega)) ((B.mul DD).mono (by omega))
  have e4 : xA true (xCall f__law_no_over 1) [xVa 5] [L, V k, V t, V l, V f, .va none (pr a b), .va none (pr c d), V a, V b, V c, V d] = .ok ⟨false, none, .bool true⟩ := call_ok (vs := [⟨false, none, pr a b⟩]) (by simp) rfl (no_over_ok A B)
  rw [sSeq_nx ((if_ff ((or_ff (not_tt (tru_b e1))).trans (not_tt (tru_b e2)))).trans ap_nil)]
  rw [sSeq_nx ((if_ff ((or_ff (not_tt (tru_b e3))).trans (not_tt (tru_b e4)))).trans ap_nil)]
  refine (if_ff ?_).trans ap_nil
  by_cases c0 : c = 0
  · refine and_ff ?_
    simp [c0]
  · have e5 : xA true (xCall f__law_is 3) [xA true (xCall f_over 2) [xVa 5, xVa 6], x2 (pl dMul) (xVa 7) (xVa 10), x2 (pl dMul) (xVa 8) (xVa 9)] [L, V k, V t, V l, V f, .va none (pr a b), .va none (pr c d), V a, V b, V c, V d] = .ok ⟨false, none, .bool true⟩ :=
      is_call (arg (over_ok A B C DD b0 c0)) rfl (by simp [dMul_b A DD]; exact ⟨rfl, rfl⟩) (by simp [dMul_b B C]; exact ⟨rfl, rfl⟩) (Int.mul_ne_zero b0 c0) ((A.mul DD).mono (by omega)) ((B.mul C).mono (by omega))
    refine (and_tt ?_).trans (not_tt (tru_b e5))
    simp [c0]
theorem plus_call {ρ : Rho} {i j : Nat} {bi bj : Bool} {ki kj : Lv} {m1 m2 : D} (h1 : xVa i ρ = .ok ⟨bi, ki, m1⟩) (h2 : xVa j ρ = .ok ⟨bj, kj, m2⟩) (f1 : flat m1 = true) (f2 : flat m2 = true) (h : f_plus [m1, m2] = .ok (none, .none)) : xTb (x2 (pl dIsNot) (xA true (xCall f_plus 2) [xVa i, xVa j]) (xCn .none)) ρ = .ok false :=
  is_not_non (call_ok (vs := [⟨false, none, m1⟩, ⟨false, none, m2⟩]) (by rw [evA_cons, h1, Res.bind_ok, settle_f f1, Res.bind_ok, evA_cons, h2, Res.bind_ok, settle_f f2, Res.bind_ok]; rfl) rfl h)
theorem body_ok {ns : List Int} {k : Int} {s2 s3 s4 s5 s6 s7 s8 s9 s10 : Sl} (hk : 0 ≤ k) (hr : [s2, s3, s4, s5, s6, s7, s8, s9, s10].all noAl = true) :
    ∃ s2' s3' s4' s5' s6' s7' s8' s9' s10', l_law_0_b [.va (some 0) (.list (ns.map .int)), V k, s2, s3, s4, s5, s6, s7, s8, s9, s10] = .nx [.va (some 0) (.list (ns.map .int)), V k, s2', s3', s4', s5', s6', s7', s8', s9', s10'] ∧ [s2', s3', s4', s5', s6', s7', s8', s9', s10'].all noAl = true := by
  simp only [List.all_cons, List.all_nil, Bool.and_eq_true, Bool.and_true] at hr
  obtain ⟨h2, h3, h4, h5, h6, h7, h8, h9, h10⟩ := hr
  generalize hL : (Sl.va (some 0) (.list (ns.map .int)) : Sl) = L
  have nL : noAl L = true := by rw [← hL]; rfl
  -- the two numbers and the factor
  obtain ⟨t, et, bt⟩ := side_ok (ns := ns) (r := [V k, s2, s3, s4, s5, s6, s7, s8, s9, s10]) (E := xVa 1) (F := x2 (pl dAnd) (xA true (b1 dInt) [xA true (xCall f__law_cell 2) [xVa 0, xVa 1]]) (xCn (.int 1))) xVa_1 hk
    (by rw [ap_x2, cellx xVa_1 hk, Res.bind_ok]; rfl) (bit_cases (ns.getD k.toNat 0))
  have k1 : x2 (pl dAdd) (xVa 1) (xCn (.int 1)) (.va (some 0) (.list (ns.map .int)) :: [V k, V t, s3, s4, s5, s6, s7, s8, s9, s10]) = .ok ⟨false, none, .int (k + 1)⟩ := Eq.trans rfl rfl
  have two : Bd 2 (2 : Int) := by unfold Bd; decide
  obtain ⟨l0, el, bl⟩ := side_ok (ns := ns) (r := [V k, V t, s3, s4, s5, s6, s7, s8, s9, s10]) (E := x2 (pl dAdd) (xVa 1) (xCn (.int 1))) (F := x2 (pl dAnd) (x2 (pl dDiv) (xA true (b1 dInt) [xA true (xCall f__law_cell 2) [xVa 0, x2 (pl dAdd) (xVa 1) (xCn (.int 1))]]) (xCn (.int 2))) (xCn (.int 1))) k1 (by omega)
    (by rw [ap_x2, ap_x2, cellx k1 (by omega), Res.bind_ok, ap_cn, Res.bind_ok, pl_ap, dDiv_b (by decide) two (by omega)]; rfl) (bit_cases ((ns.getD (k + 1).toNat 0).fdiv 2))
  have k2 : x2 (pl dAdd) (xVa 1) (xCn (.int 2)) (.va (some 0) (.list (ns.map .int)) :: [V k, V t, V l0, s4, s5, s6, s7, s8, s9, s10]) = .ok ⟨false, none, .int (k + 2)⟩ := Eq.trans rfl rfl
  have ef : x2 (pl dAdd) (x2 (pl dMod) (xA true (b1 dInt) [xA true (xCall f__law_cell 2) [xVa 0, x2 (pl dAdd) (xVa 1) (xCn (.int 2))]]) (xCn (.int 1000))) (xCn (.int 1)) (.va (some 0) (.list (ns.map .int)) :: [V k, V t, V l0, s4, s5, s6, s7, s8, s9, s10]) = .ok ⟨false, none, .int ((ns.getD (k + 2).toNat 0).fmod 1000 + 1)⟩ := by
    rw [ap_x2, ap_x2, cellx k2 (by omega), Res.bind_ok, ap_cn, Res.bind_ok, pl_ap, dMod_i (by decide)]
    rfl
  have f0 := Int.fmod_nonneg_of_pos (ns.getD (k + 2).toNat 0) (show (0 : Int) < 1000 by decide)
  have f1 := Int.fmod_lt_of_pos (ns.getD (k + 2).toNat 0) (show (0 : Int) < 1000 by decide)
  generalize hf : (ns.getD (k + 2).toNat 0).fmod 1000 + 1 = f at ef
  have fp : 0 < f := by omega
  have bf : Bd 10 f := Bd.of (m := 1000) (by omega) (by decide)
  unfold l_law_0_b
  rw [sSeq_nx (ρ' := [L, V k, V t, s3, s4, s5, s6, s7, s8, s9, s10]) (by rw [← hL]; exact asg_step et rfl (by simp [h2, h3, h4, h5, h6, h7, h8, h9, h10]))]
  rw [sSeq_nx (ρ' := [L, V k, V t, V l0, s4, s5, s6, s7, s8, s9, s10]) (by rw [← hL]; exact asg_step el rfl (by simp [h3, h4, h5, h6, h7, h8, h9, h10]))]
  rw [sSeq_nx (ρ' := [L, V k, V t, V l0, V f, s5, s6, s7, s8, s9, s10]) (by rw [← hL]; exact asg_step ef rfl (by simp [h4, h5, h6, h7, h8, h9, h10]))]
  obtain ⟨l, s4e, l0', bl'⟩ : ∃ l, sIf (xTb (x2 (pl dEq) (xVa 3) (xCn (.int 0)))) (sAsg 3 (xVa 4)) sNil [L, V k, V t, V l0, V f, s5, s6, s7, s8, s9, s10] = .nx [L, V k, V t, V l, V f, s5, s6, s7, s8, s9, s10] ∧ l ≠ 0 ∧ Bd 200 l := by
    by_cases hl : l0 = 0
    · subst hl
      refine ⟨f, (if_tt (by simp)).trans (asg_step (by simp; exact ⟨rfl, rfl⟩) rfl (by simp [nL, h5, h6, h7, h8, h9, h10])), by omega, bf.mono (by omega)⟩
    · exact ⟨l0, (if_ff (by simp [hl])).trans ap_nil, hl, bl⟩
  rw [sSeq_nx s4e]
  -- the fractions
  have c1 : xA true (xCall f__law_is 3) [xA true (xCall f_fraction 2) [xVa 2, xVa 3], xVa 2, xVa 3] [L, V k, V t, V l, V f, s5, s6, s7, s8, s9, s10] = .ok ⟨false, none, .bool true⟩ :=
    is_call (call_fr (t := t) (l := l) (by simp) l0' (bl'.mono (by omega))) rfl xVa_2 xVa_3 l0' (bt.mono (by omega)) (bl'.mono (by omega))
  have c2 : xA true (xCall f__law_is 3) [xA true (xCall f_fraction 2) [x2 (pl dMul) (x1 (p1 dNeg) (xVa 2)) (xVa 4), x2 (pl dMul) (x1 (p1 dNeg) (xVa 3)) (xVa 4)], xVa 2, xVa 3] [L, V k, V t, V l, V f, s5, s6, s7, s8, s9, s10] = .ok ⟨false, none, .bool true⟩ :=
    is_call (call_fr (t := -t * f) (l := -l * f) (by simp [dMul_b bt.neg bf, dMul_b bl'.neg bf]) (Int.mul_ne_zero (by omega) (by omega)) ((bl'.neg.mul bf).mono (by omega))) ((nf_scale (by omega) fp).trans (nf_neg l0')) xVa_2 xVa_3 l0' (bt.mono (by omega)) (bl'.mono (by omega))
  have c3 : xA true (xCall f__law_no_low 1) [xVa 2] [L, V k, V t, V l, V f, s5, s6, s7, s8, s9, s10] = .ok ⟨false, none, .bool true⟩ := call_ok (vs := [⟨false, none, .int t⟩]) (by simp) rfl no_low_ok
  rw [sSeq_nx ((if_ff ((or_ff (not_tt (tru_b c1))).trans ((or_ff (not_tt (tru_b c2))).trans (not_tt (tru_b c3))))).trans ap_nil)]
  -- the moments
  obtain ⟨m1, e1, g1⟩ := mom_call (ρ := [L, V k, V t, V l, V f, s5, s6, s7, s8, s9, s10]) (i := 2) xVa_2
  rw [sSeq_nx (ρ' := [L, V k, V t, V l, V f, .va none m1, s6, s7, s8, s9, s10]) (asg_step e1 (isM_flat g1) (by simp [nL, h5, h6, h7, h8, h9, h10]))]
  obtain ⟨m0, e2, g2⟩ := mom_call (ρ := [L, V k, V t, V l, V f, .va none m1, s6, s7, s8, s9, s10]) (i := 3) xVa_3
  rw [sSeq_nx (ρ' := [L, V k, V t, V l, V f, .va none m1, .va none m0, s7, s8, s9, s10]) (asg_step e2 (isM_flat g2) (by simp [nL, h6, h7, h8, h9, h10]))]
  obtain ⟨m2, s8e, g3⟩ : ∃ m2, sIf (xTb (x2 (pl dEq) (x2 (pl dMod) (xA true (b1 dInt) [xVa 4]) (xCn (.int 5))) (xCn (.int 1)))) (sAsg 6 (xVa 5)) sNil [L, V k, V t, V l, V f, .va none m1, .va none m0, s7, s8, s9, s10] = .nx [L, V k, V t, V l, V f, .va none m1, .va none m2, s7, s8, s9, s10] ∧ IsM 40 m2 := by
    by_cases hm : f.fmod 5 = 1
    · exact ⟨m1, (if_tt (by simp [hm])).trans (asg_step xVa_5 (isM_flat g1) (by simp [nL, h7, h8, h9, h10])), g1⟩
    · exact ⟨m0, (if_ff (by simp [hm])).trans ap_nil, g2⟩
  rw [sSeq_nx s8e]
  have nn1 : xTb (x2 (pl dIs) (xVa 5) (xCn .none)) [L, V k, V t, V l, V f, .va none m1, .va none m2, s7, s8, s9, s10] = .ok (isNon m1) := is_non xVa_5
  have nn2 : xTb (x2 (pl dIs) (xVa 6) (xCn .none)) [L, V k, V t, V l, V f, .va none m1, .va none m2, s7, s8, s9, s10] = .ok (isNon m2) := is_non xVa_6
  have noneCase : f_plus [m1, m2] = .ok (none, .none) → f_plus [m2, m1] = .ok (none, .none) → sIf (tOrX (xTb (x2 (pl dIsNot) (xA true (xCall f_plus 2) [xVa 5, xVa 6]) (xCn .none))) (xTb (x2 (pl dIsNot) (xA true (xCall f_plus 2) [xVa 6, xVa 5]) (xCn .none)))) (sRet (xCn (.bool false))) sNil [L, V k, V t, V l, V f, .va none m1, .va none m2, s7, s8, s9, s10] = .nx [L, V k, V t, V l, V f, .va none m1, .va none m2, s7, s8, s9, s10] := fun p1 p2 =>
    (if_ff ((or_ff (plus_call xVa_5 xVa_6 (isM_flat g1) (isM_flat g3) p1)).trans (plus_call xVa_6 xVa_5 (isM_flat g3) (isM_flat g1) p2))).trans ap_nil
  rcases g1 with rfl | ⟨a, b, rfl, ha, hb, b0⟩
  · refine ⟨_, _, _, _, _, _, _, _, _, (if_tt (or_tt nn1)).trans (noneCase plus_none1 plus_none2), by simp [h7, h8, h9, h10]⟩
  · rcases g3 with rfl | ⟨c, d, rfl, hc, hd, d0⟩
    · refine ⟨_, _, _, _, _, _, _, _, _, (if_tt ((or_ff nn1).trans nn2)).trans (noneCase plus_none2 plus_none1), by simp [h7, h8, h9, h10]⟩
    · rw [if_ff ((or_ff nn1).trans nn2)]
      obtain ⟨c', d', s10e, hc', hd', d0'⟩ : ∃ c' d', sIf (xTb (x2 (pl dEq) (x2 (pl dMod) (xA true (b1 dInt) [xVa 4]) (xCn (.int 5))) (xCn (.int 2)))) (sAsg 6 (xA false mkTup [x1 (p1 dNeg) (x2 ixD (xVa 5) (xCn (.int 0))), x2 ixD (xVa 5) (xCn (.int 1))])) sNil [L, V k, V t, V l, V f, .va none (pr a b), .va none (pr c d), s7, s8, s9, s10] = .nx [L, V k, V t, V l, V f, .va none (pr a b), .va none (pr c' d'), s7, s8, s9, s10] ∧ Bd 40 c' ∧ Bd 40 d' ∧ d' ≠ 0 := by
        by_cases hm : f.fmod 5 = 2
        · exact ⟨-a, b, (if_tt (by simp [hm])).trans (asg_step (bb := false) (k := none) (d := pr (-a) b) (by simp) flat_pr (by simp [nL, h7, h8, h9, h10])), ha.neg, hb, b0⟩
        · exact ⟨c, d, (if_ff (by simp [hm])).trans ap_nil, hc, hd, d0⟩
      rw [sSeq_nx s10e]
      exact ⟨_, _, _, _, _, _, _, _, _, both_ok nL h7 h8 h9 h10 ha hb hc' hd' b0 d0', by simp⟩
theorem law_loop {ns : List Int} : ∀ (vs : List Int), (∀ k ∈ vs, 0 ≤ k) → ∀ (s1 s2 s3 s4 s5 s6 s7 s8 s9 s10 : Sl), [s1, s2, s3, s4, s5, s6, s7, s8, s9, s10].all noAl = true →
    ∃ ρ', forL (bd1 1) l_law_0_b (vs.map fun k => ⟨false, none, .int k⟩) [.va (some 0) (.list (ns.map .int)), s1, s2, s3, s4, s5, s6, s7, s8, s9, s10] = .nx ρ'
  | [], _, _, _, _, _, _, _, _, _, _, _, _ => ⟨_, rfl⟩
  | k :: vs, hv, s1, s2, s3, s4, s5, s6, s7, s8, s9, s10, hr => by
    have hr' := hr
    simp only [List.all_cons, List.all_nil, Bool.and_eq_true, Bool.and_true] at hr'
    obtain ⟨h1, h2, h3, h4, h5, h6, h7, h8, h9, h10⟩ := hr'
    obtain ⟨s2', s3', s4', s5', s6', s7', s8', s9', s10', e, hn⟩ := body_ok (ns := ns) (k := k) (s2 := s2) (s3 := s3) (s4 := s4) (s5 := s5) (s6 := s6) (s7 := s7) (s8 := s8) (s9 := s9) (s10 := s10) (hv k List.mem_cons_self) (by simp [h2, h3, h4, h5, h6, h7, h8, h9, h10])
    obtain ⟨ρ', e2⟩ := law_loop vs (fun x hx => hv x (List.mem_cons_of_mem _ hx)) (V k) s2' s3' s4' s5' s6' s7' s8' s9' s10' (by rw [List.all_cons, hn]; rfl)
    refine ⟨ρ', ?_⟩
    rw [List.map_cons, forL_nx (ρ1 := [.va (some 0) (.list (ns.map .int)), V k, s2, s3, s4, s5, s6, s7, s8, s9, s10]) (by
      show Res.ok (setSl _ 1 _) = _
      rw [setSl_na (by simp [h1, h2, h3, h4, h5, h6, h7, h8, h9, h10])]
      rfl) e]
    exact e2
theorem law_iter {ns : List Int} (hn : ns.length ≤ 63) {r : Rho} : ∃ vs : List Int, (∀ k ∈ vs, 0 ≤ k) ∧ l_law_0_i (.va (some 0) (.list (ns.map .int)) :: r) = .ok (vs.map fun k => ⟨false, none, .int k⟩) := by
  have hA : evA true [xCn (.int 0), x2 (pl dAdd) (xA true (b1 dLen) [xVa 0]) (xCn (.int 3)), xCn (.int 3)] (.va (some 0) (.list (ns.map .int)) :: r) = .ok [⟨false, none, .int 0⟩, ⟨false, none, .int ((ns.length : Int) + 3)⟩, ⟨false, none, .int 3⟩] := by
    simp
  have hs : 0 ≤ Builtin.Range.rangeSize 0 ((ns.length : Int) + 3) 3 := by
    unfold Builtin.Range.rangeSize
    rw [if_pos (by decide), if_pos (by omega)]
    omega
  have hsm : Builtin.Range.small 0 ((ns.length : Int) + 3) 3 = true := by
    have : ∀ n : Nat, n ≤ 63 → Builtin.Range.small 0 ((n : Int) + 3) 3 = true := by decide +kernel
    exact this _ hn
  refine ⟨(List.range (Builtin.Range.rangeSize 0 ((ns.length : Int) + 3) 3).toNat).map fun i => 0 + ((i : Nat) : Int) * 3, fun k hk => ?_, ?_⟩
  · obtain ⟨i, _, rfl⟩ := List.mem_map.mp hk
    omega
  · unfold l_law_0_i
    rw [xIt_of, hA, Res.bind_ok]
    show (if (3 : Int) ≠ 0 ∧ (3 : Int).natAbs < 1073741824 ∧ Builtin.Range.small 0 ((ns.length : Int) + 3) 3 = true ∧ 0 ≤ Builtin.Range.rangeSize 0 ((ns.length : Int) + 3) 3 then Res.ok (intItems 0 3 (Builtin.Range.rangeSize 0 ((ns.length : Int) + 3) 3).toNat) else .er) = _
    rw [if_pos ⟨by decide, by decide, hsm, hs⟩]
    unfold Ev.intItems
    rw [List.map_map]
    rfl
theorem phi : ∀ ns : List Int, ns.length ≤ 63 → f_law [.list (ns.map .int)] = .ok (none, .bool true) := fun ns hn => by
  refine runB_rt rfl ?_
  show s_law [.va (some 0) (.list (ns.map .int)), .em, .em, .em, .em, .em, .em, .em, .em, .em, .em] = _
  unfold s_law
  obtain ⟨vs, hv, e⟩ := law_iter hn (r := [.em, .em, .em, .em, .em, .em, .em, .em, .em, .em])
  obtain ⟨ρ', e2⟩ := law_loop (ns := ns) vs hv .em .em .em .em .em .em .em .em .em .em rfl
  rw [sSeq_nx (sFor_nx e e2)]
  rfl
end Lw

namespace Lw
open PySem PySem.Spec PyProof.Rows L2 Ev
abbrev R : PySem.W.OpenRow := PySem.W.OpenLaw.row PySem.Challenge.rw_latelaw_k01_fractions_computed
abbrev hk : PySem.W.Hook := He.hookX 4 fa fn [] [] exB
def ob (s : PySem.W.SharedT) : He.AlX := He.obsX 4 fa fn [] [] exB (HandSHeadRun.getT s)
theorem ob_eq (s : PySem.W.SharedT) : ob s = hk.obs s.abs := He.obsX_eq (HandSHeadRun.getT_eq s)
abbrev loose : List Str := (["LateError", "BadWork", "OutOfRange", "fraction", "plus", "minus", "times", "over", "_law_cell", "_law_draws", "_law_gcd", "_law_fraction", "_law_plus", "_law_times", "_law_minus", "_law_less", "_law_latest", "_law_moment", "_law_small", "_law_no_low", "_law_no_over", "_law_is"] : List Str)
theorem run (w : World) : HandSHeadRun.RunEqI R (PySem.W.view R.prog [0, 26]) hk ob 4000 loose w := by
  unfold HandSHeadRun.RunEqI
  kernel_rfl
end Lw
open PySem PySem.W PySem.Calls PyProof.Rows
theorem PySem.Challenge.cw_latelaw_k01_fractions_computed_holds : PySem.Challenge.rw_latelaw_k01_fractions_computed.Holds := by
  w_on; o_law
  refine HandSHeadRun.head_imp (r := OpenLaw.row PySem.Challenge.rw_latelaw_k01_fractions_computed) (q := view (OpenLaw.row PySem.Challenge.rw_latelaw_k01_fractions_computed).prog [0, 26]) (H := Lw.hk) (ob := Lw.ob) (M := 4000) (loose := Lw.loose) (d := HandSHeadRun.topDef (OpenLaw.row PySem.Challenge.rw_latelaw_k01_fractions_computed).prog 26) (kwd := []) Lw.ob_eq
    Lw.run (by kernel_rfl) (by kernel_rfl) (by kernel_rfl) (by rfl) (by first | assumption | decide +kernel) (by decide +kernel) ⟨rfl, rfl, rfl, rfl, rfl, by decide +kernel⟩ ?hw ?hc
  case hw => w_witness2
  case hc =>
    refine Ev.law_end (l := PySem.Challenge.rw_latelaw_k01_fractions_computed) (n := 63) (k := 4) (φ := Lw.f_law) rfl (by decide) (by kernel_rfl) ⟨⟨rfl, by decide, by decide⟩, rfl⟩ ?F Lw.phi
    intro w mg fa h Y G hmg0
    obtain ⟨K, KX, c⟩ := Y
    have hmg : mg ("law" : PySem.Str) = some (.ref fa) := by
      have e : (HandSHeadRun.topDef (OpenLaw.row PySem.Challenge.rw_latelaw_k01_fractions_computed).prog 26).name = ("law" : PySem.Str) := by kernel_rfl
      rw [← e]
      exact hmg0
    have F := Lw.fx_of KX G c
    have e := hmg.symm.trans F.g_law
    cases e
    exact ⟨K, KX, fun base _ _ => Lw.d_law F⟩
