import PyProof.Rows.All
import HandS.ForMost
import HandS.ForExc
import HandS.Wide
import HandS.WideBits
import HandS.Flow
import HandS.IsInst
import HandS.Gcd
import HandS.WordsExc
import HandS.Ends
import HandS.HeadEnd
import HandS.Iter
import HandS.Zip
import HandS.Comp
import HandS.TryOnly
import HandS.ExcIs
import HandS.HeadHook4
import HandS.Defaults
import HandS.Deep
import HandS.Rev
import PyProof.ListNew
import HandS.SetBool
import HandS.Strs
import PySem.Challenge.RW_latelaw_k07_walks_and_circuits
import HandS.Head3
import KE.KStateDown
import Lean
set_option Elab.async false
set_option linter.all false
set_option maxRecDepth 100000
/-! Evaluation by values: data with the addresses that bear them. -/
namespace Ev
open PySem PySem.Spec PyProof.Rows L2

abbrev D := PyData
/-- how many layers of lists stand unshared; none: all of them -/
abbrev Lv := Option Nat
def pd : Lv → Lv
  | none => none
  | some k => some (k - 1)
def sc : Lv → Lv
  | none => none
  | some k => some (k + 1)
def mn : Lv → Lv → Lv
  | none, b => b
  | a, none => a
  | some a, some b => some (min a b)
/-- the addresses of a datum's objects -/
inductive Tr where
  | n (a : Addr) (ts : List Tr)
def Tr.at : Tr → Addr
  | .n a _ => a
def Tr.kids : Tr → List Tr
  | .n _ ts => ts
def valOf : D → Tr → V
  | .none, _ => .non
  | .bool b, _ => .bl b
  | .int i, _ => .int i
  | .str x, _ => .str x
  | .list _, t => .ref t.at
  | .tuple _, t => .ref t.at
  | .dict _, t => .ref t.at
def valsOf : List D → List Tr → List V
  | d :: ds, t :: ts => valOf d t :: valsOf ds ts
  | _, _ => []
def keyOf : D → Key
  | .str x => .inr x
  | .int i => .inl i
  | _ => .inl 0
def okKey : D → Bool
  | .str _ => true
  | .int _ => true
  | _ => false
def dvals : List (D × D) → List Tr → List (Key × V)
  | (q, d) :: r, t :: ts => (keyOf q, valOf d t) :: dvals r ts
  | _, _ => []
/-- a list that is shared: tracked, known to its object, or an object of the written part -/
def RdL (K : PySem.W.Frag) (Z : Hp) (a : Addr) (xs : List V) : Prop :=
  Rd Z a (.lst xs) ∨ ∃ (its : List Value) (n : Nat), Vals xs its ∧ xs.length ≤ sizeLine ∧ K.lookup a = some { cls := .type "list", data := .seq its.toArray n }
theorem RdL.sq {K : PySem.W.Frag} {Z : Hp} {a : Addr} {xs : List V} (h : RdL K Z a xs) : SqL K Z a xs := by
  rcases h with h | ⟨its, n, r, z, h⟩
  · exact .inl h
  · exact .inr ⟨_, its.toArray, n, h, rfl, rfl, rfl, by rw [List.size_toArray, ← r.length]; exact z, by simpa using r⟩
def LstAt (K : PySem.W.Frag) (Z H : Hp) (k : Lv) (a : Addr) (xs : List V) : Prop :=
  if k = some 0 then RdL K Z a xs else Z a = none ∧ H a = some (.lst xs)
def DctAt (Z H : Hp) (k : Lv) (a : Addr) (xs : List (Key × V)) : Prop :=
  if k = some 0 then Z a = some (.dK xs) else Z a = none ∧ H a = some (.dK xs)
mutual
/-- d stands in the heap H at t; what is not unshared stands in the part Z, which is never written -/
def Ob (K : PySem.W.Frag) (Z H : Hp) : Lv → D → Tr → Prop
  | k, .tuple ds, t => SqT K Z t.at (valsOf ds t.kids) ∧ Obs K Z H k ds t.kids
  | k, .list ds, t => LstAt K Z H k t.at (valsOf ds t.kids) ∧ Obs K Z H (pd k) ds t.kids
  | k, .dict kvs, t => DctAt Z H k t.at (dvals kvs t.kids) ∧ ObK K Z H (pd k) kvs t.kids
  | _, .none, _ => True
  | _, .bool _, _ => True
  | _, .int _, _ => True
  | _, .str _, _ => True
def Obs (K : PySem.W.Frag) (Z H : Hp) : Lv → List D → List Tr → Prop
  | _, [], [] => True
  | k, d :: ds, t :: ts => Ob K Z H k d t ∧ Obs K Z H k ds ts
  | _, [], _ :: _ => False
  | _, _ :: _, [] => False
def ObK (K : PySem.W.Frag) (Z H : Hp) : Lv → List (D × D) → List Tr → Prop
  | _, [], [] => True
  | k, (q, d) :: r, t :: ts => okKey q = true ∧ Ob K Z H k d t ∧ ObK K Z H k r ts
  | _, [], _ :: _ => False
  | _, _ :: _, [] => False
end
mutual
/-- the addresses of the unshared objects -/
def own : Lv → D → Tr → List Addr
  | k, .tuple ds, t => owns k ds t.kids
  | k, .list ds, t => (if k = some 0 then [] else [t.at]) ++ owns (pd k) ds t.kids
  | k, .dict kvs, t => (if k = some 0 then [] else [t.at]) ++ ownK (pd k) kvs t.kids
  | _, .none, _ => []
  | _, .bool _, _ => []
  | _, .int _, _ => []
  | _, .str _, _ => []
def owns : Lv → List D → List Tr → List Addr
  | k, d :: ds, t :: ts => own k d t ++ owns k ds ts
  | _, _, _ => []
def ownK : Lv → List (D × D) → List Tr → List Addr
  | k, (_, d) :: r, t :: ts => own k d t ++ ownK k r ts
  | _, _, _ => []
end
mutual
/-- no list and no dict within -/
def flat : D → Bool
  | .tuple ds => flats ds
  | .list _ => false
  | .dict _ => false
  | .none => true
  | .bool _ => true
  | .int _ => true
  | .str _ => true
def flats : List D → Bool
  | [] => true
  | d :: ds => flat d && flats ds
end

section
variable {K : PySem.W.Frag} {Z H Z' H' : Hp}
mutual
theorem own_zero : ∀ (d : D) (t : Tr), own (some 0) d t = []
  | .tuple ds, t => by simp only [own]; exact owns_zero ds t.kids
  | .list ds, t => by simp only [own, if_true, List.nil_append]; exact owns_zero ds t.kids
  | .dict kvs, t => by simp only [own, if_true, List.nil_append]; exact ownK_zero kvs t.kids
  | .none, _ => rfl
  | .bool _, _ => rfl
  | .int _, _ => rfl
  | .str _, _ => rfl
theorem owns_zero : ∀ (ds : List D) (ts : List Tr), owns (some 0) ds ts = []
  | [], _ => by simp [owns]
  | _ :: _, [] => by simp [owns]
  | d :: ds, t :: ts => by simp only [owns, own_zero d t, owns_zero ds ts, List.append_nil]
theorem ownK_zero : ∀ (ds : List (D × D)) (ts : List Tr), ownK (some 0) ds ts = []
  | [], _ => by simp [ownK]
  | _ :: _, [] => by simp [ownK]
  | (q, d) :: ds, t :: ts => by simp only [ownK, own_zero d t, ownK_zero ds ts, List.append_nil]
end
theorem Same.rd (e : Same Z Z') {a : Addr} {u : HO} (h : Rd Z a u) : Rd Z' a u := by
  rcases h with h | ⟨o, h⟩
  · exact .inl (e _ _ h)
  · exact .inr ⟨o, e _ _ h⟩
theorem Same.sqT (e : Same Z Z') {a : Addr} {xs : List V} (h : SqT K Z a xs) : SqT K Z' a xs := by
  rcases h with (h | ⟨o, h⟩) | h
  · exact .inl (.inl (e _ _ h))
  · exact .inl (.inr ⟨o, e _ _ h⟩)
  · exact .inr h
theorem Same.rdl (e : Same Z Z') {a : Addr} {xs : List V} (h : RdL K Z a xs) : RdL K Z' a xs := by
  rcases h with h | h
  · exact .inl (Same.rd e h)
  · exact .inr h
theorem LstAt.ext {k : Lv} {a : Addr} {xs : List V} (h : LstAt K Z H k a xs) (zz : Same Z Z') (hz : k ≠ some 0 → Z' a = none) (hh : k ≠ some 0 → ∀ o, H a = some o → H' a = some o) : LstAt K Z' H' k a xs := by
  unfold LstAt at *
  by_cases e : k = some 0
  · rw [if_pos e] at h ⊢
    exact Same.rdl zz h
  · rw [if_neg e] at h ⊢
    exact ⟨hz e, hh e _ h.2⟩
theorem DctAt.ext {k : Lv} {a : Addr} {xs : List (Key × V)} (h : DctAt Z H k a xs) (zz : Same Z Z') (hz : k ≠ some 0 → Z' a = none) (hh : k ≠ some 0 → ∀ o, H a = some o → H' a = some o) : DctAt Z' H' k a xs := by
  unfold DctAt at *
  by_cases e : k = some 0
  · rw [if_pos e] at h ⊢
    exact zz _ _ h
  · rw [if_neg e] at h ⊢
    exact ⟨hz e, hh e _ h.2⟩
mutual
/-- the heap grows, the shared part grows, beside the unshared objects -/
theorem Ob.ext (zz : Same Z Z') : ∀ (d : D) (k : Lv) (t : Tr), Ob K Z H k d t → (∀ a ∈ own k d t, Z' a = none) → (∀ a ∈ own k d t, ∀ o, H a = some o → H' a = some o) → Ob K Z' H' k d t
  | .tuple ds, k, t, h, h1, h2 => by
    simp only [Ob, own] at *
    exact ⟨Same.sqT zz h.1, Obs.ext zz ds k t.kids h.2 h1 h2⟩
  | .list ds, k, t, h, h1, h2 => by
    simp only [Ob, own] at *
    refine ⟨h.1.ext zz (fun e => h1 _ (by simp [e])) (fun e => h2 _ (by simp [e])), Obs.ext zz ds _ t.kids h.2 (fun a m => h1 a (by simp [m])) (fun a m => h2 a (by simp [m]))⟩
  | .dict kvs, k, t, h, h1, h2 => by
    simp only [Ob, own] at *
    refine ⟨h.1.ext zz (fun e => h1 _ (by simp [e])) (fun e => h2 _ (by simp [e])), ObK.ext zz kvs _ t.kids h.2 (fun a m => h1 a (by simp [m])) (fun a m => h2 a (by simp [m]))⟩
  | .none, _, _, _, _, _ => by simp only [Ob]
  | .bool _, _, _, _, _, _ => by simp only [Ob]
  | .int _, _, _, _, _, _ => by simp only [Ob]
  | .str _, _, _, _, _, _ => by simp only [Ob]
theorem Obs.ext (zz : Same Z Z') : ∀ (ds : List D) (k : Lv) (ts : List Tr), Obs K Z H k ds ts → (∀ a ∈ owns k ds ts, Z' a = none) → (∀ a ∈ owns k ds ts, ∀ o, H a = some o → H' a = some o) → Obs K Z' H' k ds ts
  | [], _, [], _, _, _ => by simp only [Obs]
  | d :: ds, k, t :: ts, h, h1, h2 => by
    simp only [Obs, owns] at *
    exact ⟨Ob.ext zz d k t h.1 (fun a m => h1 a (by simp [m])) (fun a m => h2 a (by simp [m])), Obs.ext zz ds k ts h.2 (fun a m => h1 a (by simp [m])) (fun a m => h2 a (by simp [m]))⟩
  | [], _, _ :: _, h, _, _ => by simp only [Obs] at h
  | _ :: _, _, [], h, _, _ => by simp only [Obs] at h
theorem ObK.ext (zz : Same Z Z') : ∀ (ds : List (D × D)) (k : Lv) (ts : List Tr), ObK K Z H k ds ts → (∀ a ∈ ownK k ds ts, Z' a = none) → (∀ a ∈ ownK k ds ts, ∀ o, H a = some o → H' a = some o) → ObK K Z' H' k ds ts
  | [], _, [], _, _, _ => by simp only [ObK]
  | (q, d) :: ds, k, t :: ts, h, h1, h2 => by
    simp only [ObK, ownK] at *
    exact ⟨h.1, Ob.ext zz d k t h.2.1 (fun a m => h1 a (by simp [m])) (fun a m => h2 a (by simp [m])), ObK.ext zz ds k ts h.2.2 (fun a m => h1 a (by simp [m])) (fun a m => h2 a (by simp [m]))⟩
  | [], _, _ :: _, h, _, _ => by simp only [ObK] at h
  | _ :: _, _, [], h, _, _ => by simp only [ObK] at h
end
mutual
theorem Ob.own : ∀ (d : D) (k : Lv) (t : Tr), Ob K Z H k d t → ∀ a ∈ own k d t, Z a = none ∧ ∃ o, H a = some o ∧ (∀ xs, o ≠ .tup xs) ∧ ∀ u w, o ≠ .frz u w
  | .tuple ds, k, t, h, a, m => by
    simp only [Ob, Ev.own] at *
    exact Obs.own ds k t.kids h.2 a m
  | .list ds, k, t, h, a, m => by
    simp only [Ob, Ev.own] at *
    rcases List.mem_append.mp m with m | m
    · by_cases e : k = some 0
      · rw [if_pos e] at m; cases m
      · rw [if_neg e] at m
        have q := h.1
        unfold LstAt at q
        rw [if_neg e] at q
        rw [List.mem_singleton.mp m]
        exact ⟨q.1, _, q.2, (by intro xs z; cases z), by intro u w z; cases z⟩
    · exact Obs.own ds _ t.kids h.2 a m
  | .dict kvs, k, t, h, a, m => by
    simp only [Ob, Ev.own] at *
    rcases List.mem_append.mp m with m | m
    · by_cases e : k = some 0
      · rw [if_pos e] at m; cases m
      · rw [if_neg e] at m
        have q := h.1
        unfold DctAt at q
        rw [if_neg e] at q
        rw [List.mem_singleton.mp m]
        exact ⟨q.1, _, q.2, (by intro xs z; cases z), by intro u w z; cases z⟩
    · exact ObK.own kvs _ t.kids h.2 a m
  | .none, _, _, _, a, m => by simp [Ev.own] at m
  | .bool _, _, _, _, a, m => by simp [Ev.own] at m
  | .int _, _, _, _, a, m => by simp [Ev.own] at m
  | .str _, _, _, _, a, m => by simp [Ev.own] at m
theorem Obs.own : ∀ (ds : List D) (k : Lv) (ts : List Tr), Obs K Z H k ds ts → ∀ a ∈ owns k ds ts, Z a = none ∧ ∃ o, H a = some o ∧ (∀ xs, o ≠ .tup xs) ∧ ∀ u w, o ≠ .frz u w
  | [], _, _, _, a, m => by simp [owns] at m
  | _ :: _, _, [], _, a, m => by simp [owns] at m
  | d :: ds, k, t :: ts, h, a, m => by
    simp only [Obs, owns] at *
    rcases List.mem_append.mp m with m | m
    · exact Ob.own d k t h.1 a m
    · exact Obs.own ds k ts h.2 a m
theorem ObK.own : ∀ (ds : List (D × D)) (k : Lv) (ts : List Tr), ObK K Z H k ds ts → ∀ a ∈ ownK k ds ts, Z a = none ∧ ∃ o, H a = some o ∧ (∀ xs, o ≠ .tup xs) ∧ ∀ u w, o ≠ .frz u w
  | [], _, _, _, a, m => by simp [ownK] at m
  | _ :: _, _, [], _, a, m => by simp [ownK] at m
  | (q, d) :: ds, k, t :: ts, h, a, m => by
    simp only [ObK, ownK] at *
    rcases List.mem_append.mp m with m | m
    · exact Ob.own d k t h.2.1 a m
    · exact ObK.own ds k ts h.2.2 a m
end
theorem pd_zero : pd (some 0) = some 0 := rfl
mutual
/-- what was unshared is shared from here on -/
theorem Ob.freeze (zz : Same Z Z') : ∀ (d : D) (k : Lv) (t : Tr), Ob K Z H k d t → (∀ a ∈ own k d t, Z' a = H a) → Ob K Z' H' (some 0) d t
  | .tuple ds, k, t, h, h1 => by
    simp only [Ob, Ev.own] at *
    exact ⟨Same.sqT zz h.1, Obs.freeze zz ds k t.kids h.2 h1⟩
  | .list ds, k, t, h, h1 => by
    simp only [Ob, Ev.own] at *
    refine ⟨?_, Obs.freeze zz ds (pd k) t.kids h.2 (fun a m => h1 a (by simp [m]))⟩
    have q := h.1
    unfold LstAt at q ⊢
    rw [if_pos rfl]
    by_cases e : k = some 0
    · rw [if_pos e] at q
      exact Same.rdl zz q
    · rw [if_neg e] at q
      refine .inl (Rd.of ?_)
      rw [h1 _ (by simp [e])]
      exact q.2
  | .dict kvs, k, t, h, h1 => by
    simp only [Ob, Ev.own] at *
    refine ⟨?_, ObK.freeze zz kvs (pd k) t.kids h.2 (fun a m => h1 a (by simp [m]))⟩
    have q := h.1
    unfold DctAt at q ⊢
    rw [if_pos rfl]
    by_cases e : k = some 0
    · rw [if_pos e] at q
      exact zz _ _ q
    · rw [if_neg e] at q
      rw [h1 _ (by simp [e])]
      exact q.2
  | .none, _, _, _, _ => by simp only [Ob]
  | .bool _, _, _, _, _ => by simp only [Ob]
  | .int _, _, _, _, _ => by simp only [Ob]
  | .str _, _, _, _, _ => by simp only [Ob]
theorem Obs.freeze (zz : Same Z Z') : ∀ (ds : List D) (k : Lv) (ts : List Tr), Obs K Z H k ds ts → (∀ a ∈ owns k ds ts, Z' a = H a) → Obs K Z' H' (some 0) ds ts
  | [], _, [], _, _ => by simp only [Obs]
  | d :: ds, k, t :: ts, h, h1 => by
    simp only [Obs, owns] at *
    exact ⟨Ob.freeze zz d k t h.1 (fun a m => h1 a (by simp [m])), Obs.freeze zz ds k ts h.2 (fun a m => h1 a (by simp [m]))⟩
  | [], _, _ :: _, h, _ => by simp only [Obs] at h
  | _ :: _, _, [], h, _ => by simp only [Obs] at h
theorem ObK.freeze (zz : Same Z Z') : ∀ (ds : List (D × D)) (k : Lv) (ts : List Tr), ObK K Z H k ds ts → (∀ a ∈ ownK k ds ts, Z' a = H a) → ObK K Z' H' (some 0) ds ts
  | [], _, [], _, _ => by simp only [ObK]
  | (q, d) :: ds, k, t :: ts, h, h1 => by
    simp only [ObK, ownK] at *
    exact ⟨h.1, Ob.freeze zz d k t h.2.1 (fun a m => h1 a (by simp [m])), ObK.freeze zz ds k ts h.2.2 (fun a m => h1 a (by simp [m]))⟩
  | [], _, _ :: _, h, _ => by simp only [ObK] at h
  | _ :: _, _, [], h, _ => by simp only [ObK] at h
end
mutual
theorem flat_own : ∀ (d : D) (k : Lv) (t : Tr), flat d = true → own k d t = []
  | .tuple ds, k, t, h => by simp only [flat, Ev.own] at *; exact flats_owns ds k t.kids h
  | .list ds, k, t, h => by simp [flat] at h
  | .dict kvs, k, t, h => by simp [flat] at h
  | .none, _, _, _ => rfl
  | .bool _, _, _, _ => rfl
  | .int _, _, _, _ => rfl
  | .str _, _, _, _ => rfl
theorem flats_owns : ∀ (ds : List D) (k : Lv) (ts : List Tr), flats ds = true → owns k ds ts = []
  | [], _, _, _ => by simp [owns]
  | _ :: _, _, [], _ => by simp [owns]
  | d :: ds, k, t :: ts, h => by
    simp only [flats, Bool.and_eq_true] at h
    simp only [owns, flat_own d k t h.1, flats_owns ds k ts h.2, List.append_nil]
end
mutual
theorem flat_ob : ∀ (d : D) (k k' : Lv) (t : Tr), flat d = true → Ob K Z H k d t → Ob K Z H k' d t
  | .tuple ds, k, k', t, h, o => by
    simp only [flat, Ob] at *
    exact ⟨o.1, flats_obs ds k k' t.kids h o.2⟩
  | .list ds, _, _, t, h, _ => by simp [flat] at h
  | .dict kvs, _, _, t, h, _ => by simp [flat] at h
  | .none, _, _, _, _, _ => by simp only [Ob]
  | .bool _, _, _, _, _, _ => by simp only [Ob]
  | .int _, _, _, _, _, _ => by simp only [Ob]
  | .str _, _, _, _, _, _ => by simp only [Ob]
theorem flats_obs : ∀ (ds : List D) (k k' : Lv) (ts : List Tr), flats ds = true → Obs K Z H k ds ts → Obs K Z H k' ds ts
  | [], _, _, [], _, _ => by simp only [Obs]
  | d :: ds, k, k', t :: ts, h, o => by
    simp only [flats, Bool.and_eq_true] at h
    simp only [Obs] at *
    exact ⟨flat_ob d k k' t h.1 o.1, flats_obs ds k k' ts h.2 o.2⟩
  | [], _, _, _ :: _, _, o => by simp only [Obs] at o
  | _ :: _, _, _, [], _, o => by simp only [Obs] at o
end
theorem Obs.len : ∀ {ds : List D} {k : Lv} {ts : List Tr}, Obs K Z H k ds ts → ds.length = ts.length
  | [], _, [], _ => rfl
  | d :: ds, k, t :: ts, h => by
    simp only [Obs] at h
    simp only [List.length_cons, Obs.len h.2]
  | [], _, _ :: _, h => by simp only [Obs] at h
  | _ :: _, _, [], h => by simp only [Obs] at h
theorem valsOf_length : ∀ {ds : List D} {ts : List Tr}, ds.length = ts.length → (valsOf ds ts).length = ds.length
  | [], _, _ => by simp [valsOf]
  | d :: ds, t :: ts, h => by
    simp only [valsOf, List.length_cons] at *
    rw [valsOf_length (by omega)]
  | _ :: _, [], h => by simp at h
theorem valsOf_get : ∀ {ds : List D} {ts : List Tr} {i : Nat} {d : D} {t : Tr}, ds[i]? = some d → ts[i]? = some t → (valsOf ds ts)[i]? = some (valOf d t)
  | [], _, _, _, _, h, _ => by simp at h
  | _ :: _, [], _, _, _, _, h => by simp at h
  | d :: ds, t :: ts, 0, _, _, h1, h2 => by simp at h1 h2; subst h1; subst h2; simp [valsOf]
  | d :: ds, t :: ts, i + 1, _, _, h1, h2 => by simp only [valsOf, List.getElem?_cons_succ] at *; exact valsOf_get h1 h2
theorem Obs.get : ∀ {ds : List D} {k : Lv} {ts : List Tr} {i : Nat} {d : D}, Obs K Z H k ds ts → ds[i]? = some d → ∃ t, ts[i]? = some t ∧ Ob K Z H k d t
  | [], _, _, _, _, _, h => by simp at h
  | _ :: _, _, [], _, _, o, _ => by simp only [Obs] at o
  | d :: ds, k, t :: ts, 0, _, o, h => by
    simp at h; subst h
    simp only [Obs] at o
    exact ⟨t, by simp, o.1⟩
  | d :: ds, k, t :: ts, i + 1, _, o, h => by
    simp only [Obs] at o
    obtain ⟨t', e, o'⟩ := Obs.get o.2 (by simpa using h)
    exact ⟨t', by simpa using e, o'⟩
theorem owns_get : ∀ {ds : List D} {k : Lv} {ts : List Tr} {i : Nat} {d : D} {t : Tr}, ds[i]? = some d → ts[i]? = some t → ∀ a ∈ own k d t, a ∈ owns k ds ts
  | [], _, _, _, _, _, h, _ => by simp at h
  | _ :: _, _, [], _, _, _, _, h => by simp at h
  | d :: ds, k, t :: ts, 0, _, _, h1, h2 => fun a m => by
    simp at h1 h2; subst h1; subst h2
    simp only [owns]
    exact List.mem_append_left _ m
  | d :: ds, k, t :: ts, i + 1, _, _, h1, h2 => fun a m => by
    simp only [owns]
    exact List.mem_append_right _ (owns_get (by simpa using h1) (by simpa using h2) a m)
theorem owns_nodup : ∀ {ds : List D} {k : Lv} {ts : List Tr} {i : Nat} {d : D} {t : Tr}, (owns k ds ts).Nodup → ds[i]? = some d → ts[i]? = some t → (own k d t).Nodup
  | [], _, _, _, _, _, _, h, _ => by simp at h
  | _ :: _, _, [], _, _, _, _, _, h => by simp at h
  | d :: ds, k, t :: ts, 0, _, _, hn, h1, h2 => by
    simp at h1 h2; subst h1; subst h2
    simp only [owns] at hn
    exact (List.nodup_append.mp hn).1
  | d :: ds, k, t :: ts, i + 1, _, _, hn, h1, h2 => by
    simp only [owns] at hn
    exact owns_nodup (List.nodup_append.mp hn).2.1 (by simpa using h1) (by simpa using h2)
mutual
/-- in the terms of the deep comparison -/
theorem Ob.dp (zh : Same Z H) : ∀ (d : D) (k : Lv) (t : Tr), d.hasDict = false → Ob K Z H k d t → Dp K H (valOf d t) d
  | .tuple ds, k, t, hd, h => by
    simp only [Ob] at h
    simp only [PyData.hasDict] at hd
    exact .tup (Same.sqT zh h.1) (Obs.dp zh ds k t.kids hd h.2)
  | .list ds, k, t, hd, h => by
    simp only [Ob] at h
    simp only [PyData.hasDict] at hd
    refine .lst ?_ (Obs.dp zh ds _ t.kids hd h.2)
    have q := h.1
    unfold LstAt at q
    by_cases e : k = some 0
    · rw [if_pos e] at q
      exact (Same.rdl zh q).sq
    · rw [if_neg e] at q
      exact SqL.of q.2
  | .dict kvs, _, t, hd, _ => by simp [PyData.hasDict] at hd
  | .none, _, _, _, _ => .non
  | .bool b, _, _, _, _ => .bl b
  | .int i, _, _, _, _ => .int i
  | .str x, _, _, _, _ => .str x
theorem Obs.dp (zh : Same Z H) : ∀ (ds : List D) (k : Lv) (ts : List Tr), PyData.hasDictAll ds = false → Obs K Z H k ds ts → DpAll K H (valsOf ds ts) ds
  | [], _, [], _, _ => .nil
  | d :: ds, k, t :: ts, hd, h => by
    simp only [Obs] at h
    simp only [PyData.hasDictAll, Bool.or_eq_false_iff] at hd
    exact .cons (Ob.dp zh d k t hd.1 h.1) (Obs.dp zh ds k ts hd.2 h.2)
  | [], _, _ :: _, _, h => by simp only [Obs] at h
  | _ :: _, _, [], _, h => by simp only [Obs] at h
end
/-- a list is to be read in the heap -/
theorem LstAt.rdl (zh : Same Z H) {k : Lv} {a : Addr} {xs : List V} (h : LstAt K Z H k a xs) : RdL K H a xs := by
  unfold LstAt at h
  by_cases e : k = some 0
  · rw [if_pos e] at h
    exact Same.rdl zh h
  · rw [if_neg e] at h
    exact .inl (Rd.of h.2)
theorem LstAt.sq (zh : Same Z H) {k : Lv} {a : Addr} {xs : List V} (h : LstAt K Z H k a xs) : SqL K H a xs := (h.rdl zh).sq
theorem DctAt.rd (zh : Same Z H) {k : Lv} {a : Addr} {xs : List (Key × V)} (h : DctAt Z H k a xs) : H a = some (.dK xs) := by
  unfold DctAt at h
  by_cases e : k = some 0
  · rw [if_pos e] at h
    exact zh _ _ h
  · rw [if_neg e] at h
    exact h.2
end
end Ev

set_option Elab.async false
set_option linter.all false
set_option maxRecDepth 100000
namespace Ev
open PySem PySem.Spec PyProof.Rows L2

/-- a slot: unknown, a datum, another name of a part of the datum in slot j -/
inductive Sl where
  | em
  | ex (a : Addr)
  | va (k : Lv) (d : D)
  | al (j : Nat) (p : List Nat)
abbrev Rho := List Sl
/-- a value; b: it is a slot's -/
structure BV where
  b : Bool
  k : Lv
  d : D
inductive Res (α : Type) where
  | ok (a : α)
  | rz (c : Str)
  | er
def Res.bind {α β : Type} (r : Res α) (f : α → Res β) : Res β := match r with
  | .ok a => f a
  | .rz c => .rz c
  | .er => .er
@[simp] theorem Res.bind_ok {α β : Type} (a : α) (f : α → Res β) : (Res.ok a).bind f = f a := Eq.trans rfl rfl
@[simp] theorem Res.bind_rz {α β : Type} (c : Str) (f : α → Res β) : (Res.rz c).bind f = .rz c := Eq.trans rfl rfl
@[simp] theorem Res.bind_er {α β : Type} (f : α → Res β) : (Res.er : Res α).bind f = .er := Eq.trans rfl rfl

def kidsD : D → List D
  | .list ds => ds
  | .tuple ds => ds
  | .dict kvs => kvs.map (·.2)
  | _ => []
def lvK (k : Lv) : D → Lv
  | .tuple _ => k
  | _ => pd k
def sub (k : Lv) (d : D) (t : Tr) : List Nat → Option (Lv × D × Tr)
  | [] => some (k, d, t)
  | i :: p => match (kidsD d)[i]?, t.kids[i]? with
    | some d', some t' => sub (lvK k d) d' t' p
    | _, _ => none
def subD (k : Lv) (d : D) : List Nat → Option (Lv × D)
  | [] => some (k, d)
  | i :: p => match (kidsD d)[i]? with
    | some d' => subD (lvK k d) d' p
    | none => none

def ownR : Rho → List Tr → List Addr
  | .va k d :: ρ, t :: ts => own k d t ++ ownR ρ ts
  | .em :: ρ, _ :: ts => ownR ρ ts
  | .ex _ :: ρ, _ :: ts => ownR ρ ts
  | .al _ _ :: ρ, _ :: ts => ownR ρ ts
  | _, _ => []
/-- a value under way -/
structure Tm where
  b : Bool
  k : Lv
  d : D
  t : Tr
def ownT : List Tm → List Addr
  | [] => []
  | c :: τ => (if c.b then [] else own c.k c.d c.t) ++ ownT τ

/-- the heap grows; the shared part grows by what is new -/
structure Step (Z H Z' H' : Hp) : Prop where
  zz : Same Z Z'
  hh : Same H H'
  zn : ∀ a o, Z' a = some o → Z a = some o ∨ H a = none
theorem Step.refl {Z H : Hp} : Step Z H Z H := ⟨Same.refl _, Same.refl _, fun _ _ h => .inl h⟩
theorem Step.trans {Z H Z1 H1 Z2 H2 : Hp} (a : Step Z H Z1 H1) (b : Step Z1 H1 Z2 H2) : Step Z H Z2 H2 :=
  ⟨a.zz.trans b.zz, a.hh.trans b.hh, fun c o h => by
    rcases b.zn c o h with h | h
    · exact a.zn c o h
    · exact .inr (a.hh.free h)⟩
theorem Step.none {Z H Z' H' : Hp} (s : Step Z H Z' H') {a : Addr} {o : HO} (h1 : Z a = Option.none) (h2 : H a = some o) : Z' a = Option.none := by
  cases e : Z' a with
  | none => rfl
  | some u =>
    rcases s.zn a u e with h | h
    · rw [h1] at h; cases h
    · rw [h2] at h; cases h

def SlOk (K : PySem.W.Frag) (Z H : Hp) (σ : L2.St) (ρ : Rho) (ts : List Tr) (i : Nat) : Sl → Prop
  | .va k d => ∃ t, ts[i]? = some t ∧ Ob K Z H k d t ∧ σ[i]? = some (some (valOf d t))
  | .al j p => ∃ k d t k' d' t', ρ[j]? = some (.va k d) ∧ ts[j]? = some t ∧ sub k d t p = some (k', d', t') ∧ σ[i]? = some (some (valOf d' t'))
  | .em => True
  | .ex a => σ[i]? = some (some (.ref a))

/-- THE RELATION: the slots σ and the heap H bear the data ρ at ts, and the values under way τ. Z: what is shared. H0: the heap at the entry -/
structure Rl (K : PySem.W.Frag) (Z0 H0 Z H : Hp) (σ : L2.St) (ρ : Rho) (ts : List Tr) (τ : List Tm) : Prop where
  zh : Same Z H
  h0 : Same H0 H
  z0 : Same Z0 Z
  zn : ∀ a o, Z a = some o → Z0 a = some o ∨ H0 a = none
  lr : ρ.length = σ.length
  lt : ts.length = σ.length
  sl : ∀ i s, ρ[i]? = some s → SlOk K Z H σ ρ ts i s
  tm : ∀ c ∈ τ, Ob K Z H c.k c.d c.t ∧ (c.b = true → (own c.k c.d c.t).Nodup ∧ ∀ a ∈ own c.k c.d c.t, a ∈ ownR ρ ts)
  nd : (ownR ρ ts ++ ownT τ).Nodup
  o0 : ∀ a ∈ ownR ρ ts ++ ownT τ, H0 a = none

theorem ownR_get : ∀ {ρ : Rho} {ts : List Tr} {i : Nat} {k : Lv} {d : D} {t : Tr}, ρ[i]? = some (.va k d) → ts[i]? = some t → ∀ a ∈ own k d t, a ∈ ownR ρ ts
  | [], _, _, _, _, _, h, _, _, _ => by simp at h
  | _ :: _, [], _, _, _, _, _, h, _, _ => by simp at h
  | s :: ρ, t :: ts, 0, _, _, _, h1, h2, a, m => by
    simp at h1 h2; subst h1; subst h2
    simp only [ownR]
    exact List.mem_append_left _ m
  | s :: ρ, t :: ts, i + 1, _, _, _, h1, h2, a, m => by
    have q := ownR_get (ρ := ρ) (ts := ts) (by simpa using h1) (by simpa using h2) a m
    cases s with
    | em => simpa only [ownR] using q
    | ex a0 => simpa only [ownR] using q
    | va k d => simp only [ownR]; exact List.mem_append_right _ q
    | al j p => simpa only [ownR] using q
theorem ownR_nodup : ∀ {ρ : Rho} {ts : List Tr} {i : Nat} {k : Lv} {d : D} {t : Tr}, (ownR ρ ts).Nodup → ρ[i]? = some (.va k d) → ts[i]? = some t → (own k d t).Nodup
  | [], _, _, _, _, _, _, h, _ => by simp at h
  | _ :: _, [], _, _, _, _, _, _, h => by simp at h
  | s :: ρ, t :: ts, 0, _, _, _, n, h1, h2 => by
    simp at h1 h2; subst h1; subst h2
    simp only [ownR] at n
    exact (List.nodup_append.mp n).1
  | s :: ρ, t :: ts, i + 1, _, _, _, n, h1, h2 => by
    have n' : (ownR ρ ts).Nodup := by
      cases s with
      | em => simpa only [ownR] using n
      | ex a0 => simpa only [ownR] using n
      | va k d => simp only [ownR] at n; exact (List.nodup_append.mp n).2.1
      | al j p => simpa only [ownR] using n
    exact ownR_nodup n' (by simpa using h1) (by simpa using h2)
theorem ownT_mem : ∀ {τ : List Tm} {c : Tm}, c ∈ τ → c.b = false → ∀ a ∈ own c.k c.d c.t, a ∈ ownT τ
  | [], _, h, _, _, _ => by cases h
  | e :: τ, c, h, hb, a, m => by
    simp only [ownT]
    rcases List.mem_cons.mp h with h | h
    · subst h
      rw [hb]
      exact List.mem_append_left _ (by simpa using m)
    · exact List.mem_append_right _ (ownT_mem h hb a m)

section
variable {K : PySem.W.Frag} {Z0 H0 Z H Z' H' : Hp} {σ : L2.St} {ρ : Rho} {ts : List Tr} {τ : List Tm}
theorem Rl.own_z (R : Rl K Z0 H0 Z H σ ρ ts τ) : ∀ a ∈ ownR ρ ts ++ ownT τ, Z a = none ∧ ∃ o, H a = some o ∧ (∀ xs, o ≠ .tup xs) ∧ ∀ u w, o ≠ .frz u w := by
  have sl : ∀ (ρ' : Rho) (ts' : List Tr) (n : Nat), (∀ i s, ρ'[i]? = some s → SlOk K Z H (σ.drop n) ρ' ts' i s ∨ ∃ j p, s = .al j p) → ∀ a ∈ ownR ρ' ts', Z a = none ∧ ∃ o, H a = some o ∧ (∀ xs, o ≠ .tup xs) ∧ ∀ u w, o ≠ .frz u w := by
    intro ρ'
    induction ρ' with
    | nil => intro ts' n _ a m; simp [ownR] at m
    | cons s r ih =>
      intro ts' n h a m
      cases ts' with
      | nil => cases s <;> simp [ownR] at m
      | cons t tr =>
        have rest : ∀ a ∈ ownR r tr, Z a = none ∧ ∃ o, H a = some o ∧ (∀ xs, o ≠ .tup xs) ∧ ∀ u w, o ≠ .frz u w := fun a m => by
          refine ih tr (n + 1) (fun i s' e => ?_) a m
          cases s' with
          | em => exact .inl trivial
          | ex a0 =>
            rcases h (i + 1) _ (by simpa using e) with q | ⟨j, p, q⟩
            · refine .inl ?_
              simp only [SlOk] at q ⊢
              rw [List.getElem?_drop] at q ⊢
              rw [← q]
              congr 1
              omega
            · cases q
          | al j p => exact .inr ⟨j, p, rfl⟩
          | va k d =>
            rcases h (i + 1) _ (by simpa using e) with q | ⟨j, p, q⟩
            · obtain ⟨t', e1, o, e2⟩ := q
              refine .inl ⟨t', by simpa using e1, o, ?_⟩
              rw [List.getElem?_drop] at e2 ⊢
              rw [← e2]
              congr 1
              omega
            · cases q
        cases s with
        | em => exact rest a (by simpa only [ownR] using m)
        | ex a0 => exact rest a (by simpa only [ownR] using m)
        | al j p => exact rest a (by simpa only [ownR] using m)
        | va k d =>
          simp only [ownR] at m
          rcases List.mem_append.mp m with m | m
          · rcases h 0 (.va k d) (by simp) with q | ⟨j, p, q⟩
            · obtain ⟨t', e1, o, e2⟩ := q
              simp at e1
              subst e1
              exact Ob.own d k t o a m
            · cases q
          · exact rest a m
  intro a m
  rcases List.mem_append.mp m with m | m
  · exact sl ρ ts 0 (fun i s e => .inl (by simpa using R.sl i s e)) a m
  · have tm : ∀ τ' : List Tm, (∀ c ∈ τ', Ob K Z H c.k c.d c.t) → ∀ a ∈ ownT τ', Z a = none ∧ ∃ o, H a = some o ∧ (∀ xs, o ≠ .tup xs) ∧ ∀ u w, o ≠ .frz u w := by
      intro τ'
      induction τ' with
      | nil => intro _ a m; simp [ownT] at m
      | cons c r ih =>
        intro h a m
        simp only [ownT] at m
        rcases List.mem_append.mp m with m | m
        · cases hb : c.b with
          | true => rw [hb] at m; simp at m
          | false =>
            rw [hb] at m
            exact Ob.own c.d c.k c.t (h c List.mem_cons_self) a (by simpa using m)
        · exact ih (fun c hc => h c (List.mem_cons_of_mem _ hc)) a m
    exact tm τ (fun c hc => (R.tm c hc).1) a m
theorem SlOk.ext {i : Nat} {s : Sl} (h : SlOk K Z H σ ρ ts i s) (he : ρ[i]? = some s) (zz : Same Z Z') (h1 : ∀ a ∈ ownR ρ ts, Z' a = none) (h2 : ∀ a ∈ ownR ρ ts, ∀ o, H a = some o → H' a = some o) : SlOk K Z' H' σ ρ ts i s := by
  cases s with
  | em => trivial
  | ex a0 => exact h
  | al j p => exact h
  | va k d =>
    obtain ⟨t, e1, o, e2⟩ := h
    have m := ownR_get he e1
    exact ⟨t, e1, Ob.ext zz d k t o (fun a q => h1 a (m a q)) (fun a q => h2 a (m a q)), e2⟩
/-- the heap goes on -/
theorem Rl.ext (R : Rl K Z0 H0 Z H σ ρ ts τ) (zz : Same Z Z') (h1 : ∀ a ∈ ownR ρ ts ++ ownT τ, Z' a = none) (h2 : ∀ a ∈ ownR ρ ts ++ ownT τ, ∀ o, H a = some o → H' a = some o)
    (zh : Same Z' H') (h0 : Same H0 H') (zn : ∀ a o, Z' a = some o → Z0 a = some o ∨ H0 a = none) : Rl K Z0 H0 Z' H' σ ρ ts τ := by
  have hr : ∀ a ∈ ownR ρ ts, a ∈ ownR ρ ts ++ ownT τ := fun a m => List.mem_append_left _ m
  refine ⟨zh, h0, R.z0.trans zz, zn, R.lr, R.lt, fun i s e => (R.sl i s e).ext e zz (fun a m => h1 a (hr a m)) (fun a m => h2 a (hr a m)), fun c hc => ?_, R.nd, R.o0⟩
  obtain ⟨o, hb⟩ := R.tm c hc
  have m : ∀ a ∈ own c.k c.d c.t, a ∈ ownR ρ ts ++ ownT τ := fun a m => by
    cases q : c.b with
    | true => exact hr a ((hb q).2 a m)
    | false => exact List.mem_append_right _ (ownT_mem hc q a m)
  exact ⟨Ob.ext zz c.d c.k c.t o (fun a q => h1 a (m a q)) (fun a q => h2 a (m a q)), hb⟩
theorem Rl.step (R : Rl K Z0 H0 Z H σ ρ ts τ) (s : Step Z H Z' H') (zh : Same Z' H') : Rl K Z0 H0 Z' H' σ ρ ts τ := by
  refine R.ext s.zz (fun a m => ?_) (fun a _ o e => s.hh a o e) zh (R.h0.trans s.hh) fun a o e => ?_
  · obtain ⟨z, o, e, _⟩ := R.own_z a m
    exact s.none z e
  · rcases s.zn a o e with h | h
    · exact R.zn a o h
    · exact .inr (R.h0.free h)
/-- a value under way comes on top -/
theorem Rl.push (R : Rl K Z0 H0 Z H σ ρ ts τ) {c : Tm} (o : Ob K Z H c.k c.d c.t) (hb : c.b = true → (own c.k c.d c.t).Nodup ∧ ∀ a ∈ own c.k c.d c.t, a ∈ ownR ρ ts)
    (hn : c.b = false → (own c.k c.d c.t).Nodup ∧ (∀ a ∈ own c.k c.d c.t, a ∉ ownR ρ ts ++ ownT τ) ∧ ∀ a ∈ own c.k c.d c.t, H0 a = none) : Rl K Z0 H0 Z H σ ρ ts (c :: τ) := by
  have key : (ownR ρ ts ++ ownT (c :: τ)).Nodup ∧ ∀ a ∈ ownR ρ ts ++ ownT (c :: τ), H0 a = none := by
    cases q : c.b with
    | true =>
      have e : ownT (c :: τ) = ownT τ := by simp [ownT, q]
      rw [e]
      exact ⟨R.nd, R.o0⟩
    | false =>
      have e : ownT (c :: τ) = own c.k c.d c.t ++ ownT τ := by simp [ownT, q]
      rw [e]
      obtain ⟨n1, n2, n3⟩ := hn q
      obtain ⟨r1, r2, r3⟩ := List.nodup_append.mp R.nd
      refine ⟨List.nodup_append.mpr ⟨r1, List.nodup_append.mpr ⟨n1, r2, fun a ha b hb e => ?_⟩, fun a ha b hb e => ?_⟩, fun a m => ?_⟩
      · subst e
        exact n2 a ha (List.mem_append_right _ hb)
      · subst e
        rcases List.mem_append.mp hb with hb | hb
        · exact n2 a hb (List.mem_append_left _ ha)
        · exact r3 a ha a hb rfl
      · rcases List.mem_append.mp m with m | m
        · exact R.o0 a (List.mem_append_left _ m)
        · rcases List.mem_append.mp m with m | m
          · exact n3 a m
          · exact R.o0 a (List.mem_append_right _ m)
  refine ⟨R.zh, R.h0, R.z0, R.zn, R.lr, R.lt, R.sl, fun e he => ?_, key.1, key.2⟩
  rcases List.mem_cons.mp he with h | h
  · subst h
    exact ⟨o, hb⟩
  · exact R.tm e h
/-- a value under way that has no objects of its own -/
theorem Rl.push0 (R : Rl K Z0 H0 Z H σ ρ ts τ) {b : Bool} {k : Lv} {d : D} {t : Tr} (o : Ob K Z H k d t) (hn : own k d t = []) : Rl K Z0 H0 Z H σ ρ ts (⟨b, k, d, t⟩ :: τ) :=
  R.push o (fun _ => ⟨by show (own k d t).Nodup; rw [hn]; exact List.Pairwise.nil, fun a (m : a ∈ own k d t) => by rw [hn] at m; cases m⟩) fun _ => ⟨by show (own k d t).Nodup; rw [hn]; exact List.Pairwise.nil, (fun a (m : a ∈ own k d t) => by rw [hn] at m; cases m), fun a (m : a ∈ own k d t) => by rw [hn] at m; cases m⟩
theorem Rl.pop {c : Tm} (R : Rl K Z0 H0 Z H σ ρ ts (c :: τ)) : Rl K Z0 H0 Z H σ ρ ts τ := by
  have sub : ∀ a ∈ ownT τ, a ∈ ownT (c :: τ) := fun a m => by simp only [ownT]; exact List.mem_append_right _ m
  obtain ⟨r1, r2, r3⟩ := List.nodup_append.mp R.nd
  refine ⟨R.zh, R.h0, R.z0, R.zn, R.lr, R.lt, R.sl, fun e he => R.tm e (List.mem_cons_of_mem _ he), List.nodup_append.mpr ⟨r1, ?_, fun a ha b hb => r3 a ha b (sub b hb)⟩, fun a m => ?_⟩
  · simp only [ownT] at r2
    exact (List.nodup_append.mp r2).2.1
  · rcases List.mem_append.mp m with m | m
    · exact R.o0 a (List.mem_append_left _ m)
    · exact R.o0 a (List.mem_append_right _ (sub a m))
/-- the values under way change their places or some are dropped -/
theorem Rl.perm {τ' : List Tm} (R : Rl K Z0 H0 Z H σ ρ ts τ) (hm : ∀ c ∈ τ', c ∈ τ) (hn : (ownT τ').Nodup) : Rl K Z0 H0 Z H σ ρ ts τ' := by
  have sub : ∀ a ∈ ownT τ', a ∈ ownT τ := by
    intro a m
    have : ∀ l : List Tm, (∀ c ∈ l, c ∈ τ) → a ∈ ownT l → a ∈ ownT τ := by
      intro l
      induction l with
      | nil => intro _ m; simp [ownT] at m
      | cons c r ih =>
        intro h m
        simp only [ownT] at m
        rcases List.mem_append.mp m with m | m
        · cases hb : c.b with
          | true => rw [hb] at m; simp at m
          | false =>
            rw [hb] at m
            exact ownT_mem (h c List.mem_cons_self) hb a (by simpa using m)
        · exact ih (fun c hc => h c (List.mem_cons_of_mem _ hc)) m
    exact this τ' hm m
  obtain ⟨r1, r2, r3⟩ := List.nodup_append.mp R.nd
  refine ⟨R.zh, R.h0, R.z0, R.zn, R.lr, R.lt, R.sl, fun e he => R.tm e (hm e he), List.nodup_append.mpr ⟨r1, hn, fun a ha b hb => r3 a ha b (sub b hb)⟩, fun a m => ?_⟩
  rcases List.mem_append.mp m with m | m
  · exact R.o0 a (List.mem_append_left _ m)
  · exact R.o0 a (List.mem_append_right _ (sub a m))
end
end Ev

set_option Elab.async false
set_option linter.all false
set_option maxRecDepth 100000
namespace Ev
open PySem PySem.Spec PyProof.Rows L2

/-! ### the widest readings -/
def wE (X : Cx) (e : Expr) : TE := fun σ H Q => ∀ (pins : List (Addr × Obj)) (s : Shared), Inv X pins σ H s → wpAny (model X.prog X.w) X.A (eval e X.env) (EP X pins σ Q) X.xe s
def wT (X : Cx) (e : Expr) : TT := fun σ H Q => ∀ (pins : List (Addr × Obj)) (s : Shared), Inv X pins σ H s → wpAny (model X.prog X.w) X.A (isTrue e X.env (eval e X.env)) (TP X pins σ Q) X.xe s
def wW (X : Cx) (e : Expr) : TT := fun σ H Q => ∀ (whole : Sem Value) (pins : List (Addr × Obj)) (s : Shared), Inv X pins σ H s → wpAny (model X.prog X.w) X.A (isTrue e X.env whole) (TP X pins σ Q) X.xe s
def wA (X : Cx) (es : List Expr) : TA := fun σ H Q => ∀ (pos : Pos) (pins : List (Addr × Obj)) (s : Shared), Inv X pins σ H s → wpAny (model X.prog X.w) X.A (spliced (backTo pos (starEach es X.env))) (AP X pins σ Q) X.xe s
def wS (X : Cx) (st : Stmt) : TS := fun D σ H => ∀ (pins : List (Addr × Obj)) (s : Shared), Inv X pins σ H s → wpAny (model X.prog X.w) X.A (exec st X.env) (SP X pins D) X.xe s
def wSs (X : Cx) (st : List Stmt) : TS := fun D σ H => ∀ (pins : List (Addr × Obj)) (s : Shared), Inv X pins σ H s → wpAny (model X.prog X.w) X.A (execs st X.env) (SP X pins D) X.xe s
def wO (X : Cx) (f : Value → Value → Sem Value) : R2 := fun x y H Q => ∀ (pins : List (Addr × Obj)) (s : Shared) (σ : L2.St) (v u : Value), Inv X pins σ H s → RelV x v → RelV y u → wpAny (model X.prog X.w) X.A (f v u) (EP X pins σ Q) X.xe s
def wU (X : Cx) (f : Value → Sem Value) : V → Hp → VK → Prop := fun x H Q => ∀ (pins : List (Addr × Obj)) (s : Shared) (σ : L2.St) (v : Value), Inv X pins σ H s → RelV x v → wpAny (model X.prog X.w) X.A (f v) (EP X pins σ Q) X.xe s
def wC (X : Cx) (f : Value) : List V → Hp → VK → Prop := fun xs H Q => ∀ (pins : List (Addr × Obj)) (s : Shared) (σ : L2.St) (us : List Value), Inv X pins σ H s → Vals xs us → wpAny (model X.prog X.w) X.A (call f us) (EP X pins σ Q) X.xe s
section
variable {X : Cx}
theorem pe_w {e : Expr} : PE X e (wE X e) := ⟨fun pins s σ H Q I h => h pins s I⟩
theorem pt_w {e : Expr} : PT X e (wT X e) := ⟨fun pins s σ H Q I h => h pins s I⟩
theorem pw_w {e : Expr} : PW X e (wW X e) := ⟨fun wh pins s σ H Q I h => h wh pins s I⟩
theorem pa_w {es : List Expr} : PA X es (wA X es) := ⟨fun pos pins s σ H Q I h => h pos pins s I⟩
theorem ps_w {st : Stmt} : PS X st (wS X st) := ⟨fun pins s σ H D I h => h pins s I⟩
theorem pss_w {st : List Stmt} : PSs X st (wSs X st) := ⟨fun pins s σ H D I h => h pins s I⟩
theorem opR_w {f : Value → Value → Sem Value} : OpR X f (wO X f) := fun pins s σ H x y v u Q I rx ry h => h pins s σ v u I rx ry
theorem unR_w {f : Value → Sem Value} : UnR X f (wU X f) := fun pins s σ H x v Q I rx h => h pins s σ v I rx
theorem callR_w {f : Value} : CallR X f (wC X f) := fun pins s σ H xs us Q I r h => h pins s σ us I r
theorem wE_of {e : Expr} {t : TE} {σ : L2.St} {H : Hp} {Q : VK} (h : PE X e t) (q : t σ H Q) : wE X e σ H Q := fun pins s I => h.run pins s σ H Q I q
theorem wT_of {e : Expr} {t : TT} {σ : L2.St} {H : Hp} {Q : Bool → Hp → Prop} (h : PT X e t) (q : t σ H Q) : wT X e σ H Q := fun pins s I => h.run pins s σ H Q I q
theorem wW_of {e : Expr} {t : TT} {σ : L2.St} {H : Hp} {Q : Bool → Hp → Prop} (h : PW X e t) (q : t σ H Q) : wW X e σ H Q := fun wh pins s I => h.run wh pins s σ H Q I q
theorem wA_of {es : List Expr} {t : TA} {σ : L2.St} {H : Hp} {Q : List V → Hp → Prop} (h : PA X es t) (q : t σ H Q) : wA X es σ H Q := fun pos pins s I => h.run pos pins s σ H Q I q
theorem wS_of {st : Stmt} {t : TS} {σ : L2.St} {H : Hp} {D : Ends} (h : PS X st t) (q : t D σ H) : wS X st D σ H := fun pins s I => h.run pins s σ H D I q
theorem wSs_of {st : List Stmt} {t : TS} {σ : L2.St} {H : Hp} {D : Ends} (h : PSs X st t) (q : t D σ H) : wSs X st D σ H := fun pins s I => h.run pins s σ H D I q
theorem wO_of {f : Value → Value → Sem Value} {r : R2} {x y : V} {H : Hp} {Q : VK} (h : OpR X f r) (q : r x y H Q) : wO X f x y H Q := fun pins s σ v u I rx ry => h pins s σ H x y v u Q I rx ry q
theorem wU_of {f : Value → Sem Value} {r : V → Hp → VK → Prop} {x : V} {H : Hp} {Q : VK} (h : UnR X f r) (q : r x H Q) : wU X f x H Q := fun pins s σ v I rx => h pins s σ H x v Q I rx q
theorem wC_of {f : Value} {r : List V → Hp → VK → Prop} {xs : List V} {H : Hp} {Q : VK} (h : CallR X f r) (q : r xs H Q) : wC X f xs H Q := fun pins s σ us I rx => h pins s σ H xs us Q I rx q
end

/-! ### what a result asks -/
/-- the state in which something is evaluated -/
structure Sta where
  Z0 : Hp
  H0 : Hp
  Z : Hp
  H : Hp
  σ : L2.St
  ρ : Rho
  ts : List Tr
  τ : List Tm
def Sta.R (K : PySem.W.Frag) (S : Sta) : Prop := Rl K S.Z0 S.H0 S.Z S.H S.σ S.ρ S.ts S.τ
/-- S' lies behind S: the same slots, grown heaps -/
structure Aft (S S' : Sta) : Prop where
  z0 : S'.Z0 = S.Z0
  h0 : S'.H0 = S.H0
  σ : S'.σ = S.σ
  ρ : S'.ρ = S.ρ
  ts : S'.ts = S.ts
  st : Step S.Z S.H S'.Z S'.H
theorem Aft.refl {S : Sta} : Aft S S := ⟨rfl, rfl, rfl, rfl, rfl, Step.refl⟩
theorem Aft.trans {S S1 S2 : Sta} (a : Aft S S1) (b : Aft S1 S2) : Aft S S2 :=
  ⟨b.z0.trans a.z0, b.h0.trans a.h0, b.σ.trans a.σ, b.ρ.trans a.ρ, b.ts.trans a.ts, a.st.trans b.st⟩
/-- the object of a raised exception -/
def Raised (X : Cx) (W : WX) (c : Str) (σ : L2.St) (H : Hp) : Prop := ∀ C, X.mg c = some (.ref C) → W (.ref C) none σ H
def GoodE (X : Cx) (W : WX) (S : Sta) (Q : VK) : Res BV → Prop
  | .ok v => ∀ (S' : Sta) (t : Tr), Aft S S' → S'.τ = ⟨v.b, v.k, v.d, t⟩ :: S.τ → S'.R X.K → (v.b = false → ∀ a ∈ own v.k v.d t, S.H a = none) → Q (valOf v.d t) S'.H
  | .rz c => ∀ S' : Sta, Aft S S' → S'.τ = S.τ → S'.R X.K → Raised X W c S'.σ S'.H
  | .er => False
def GoodT (X : Cx) (W : WX) (S : Sta) (Q : Bool → Hp → Prop) : Res Bool → Prop
  | .ok b => ∀ S' : Sta, Aft S S' → S'.τ = S.τ → S'.R X.K → Q b S'.H
  | .rz c => ∀ S' : Sta, Aft S S' → S'.τ = S.τ → S'.R X.K → Raised X W c S'.σ S'.H
  | .er => False
/-- e is evaluated as x says -/
def SE (X : Cx) (W : WX) (e : Expr) (x : Rho → Res BV) : Prop := ∀ (S : Sta) (Q : VK), S.R X.K → GoodE X W S Q (x S.ρ) → wE X e S.σ S.H Q
def STs (X : Cx) (W : WX) (e : Expr) (x : Rho → Res Bool) : Prop := ∀ (S : Sta) (Q : Bool → Hp → Prop), S.R X.K → GoodT X W S Q (x S.ρ) → wT X e S.σ S.H Q
def SW (X : Cx) (W : WX) (e : Expr) (x : Rho → Res Bool) : Prop := ∀ (S : Sta) (Q : Bool → Hp → Prop), S.R X.K → GoodT X W S Q (x S.ρ) → wW X e S.σ S.H Q

def Sta.put (S : Sta) (Z H : Hp) (τ : List Tm) : Sta := { S with Z := Z, H := H, τ := τ }
theorem Sta.aft_put {S : Sta} {Z H : Hp} {τ : List Tm} (s : Step S.Z S.H Z H) : Aft S (S.put Z H τ) := ⟨rfl, rfl, rfl, rfl, rfl, s⟩
theorem Aft.put {S S' : Sta} {Z H : Hp} {τ : List Tm} (a : Aft S S') (s : Step S'.Z S'.H Z H) : Aft S (S'.put Z H τ) := a.trans (Sta.aft_put s)

def scal : D → Bool
  | .none => true
  | .bool _ => true
  | .int _ => true
  | .str _ => true
  | _ => false
theorem scal_own {d : D} (h : scal d = true) (k : Lv) (t : Tr) : own k d t = [] := by
  cases d <;> first | rfl | cases h
theorem scal_ob {K : PySem.W.Frag} {Z H : Hp} {d : D} (h : scal d = true) (k : Lv) (t : Tr) : Ob K Z H k d t := by
  cases d <;> first | (simp only [Ob]; done) | exact Bool.noConfusion h
theorem scal_val {d : D} (h : scal d = true) (t t' : Tr) : valOf d t = valOf d t' := by
  cases d <;> first | rfl | cases h
abbrev t0 : Tr := .n 0 []
section
variable {X : Cx} {W : WX} {S S' : Sta}
theorem Sta.R.pop {c : Tm} {τ : List Tm} (R : S.R X.K) (e : S.τ = c :: τ) : (S.put S.Z S.H τ).R X.K := by
  have R' : Rl X.K S.Z0 S.H0 S.Z S.H S.σ S.ρ S.ts S.τ := R
  rw [e] at R'
  exact R'.pop
theorem Sta.R.pop2 {c c' : Tm} {τ : List Tm} (R : S.R X.K) (e : S.τ = c :: c' :: τ) : (S.put S.Z S.H τ).R X.K := by
  have R' : Rl X.K S.Z0 S.H0 S.Z S.H S.σ S.ρ S.ts S.τ := R
  rw [e] at R'
  exact R'.pop.pop
/-- the end with a plain value -/
theorem GoodE.scal {Q : VK} {b : Bool} {k : Lv} {d : D} (h : GoodE X W S Q (.ok ⟨b, k, d⟩)) (hs : scal d = true) {Z H : Hp} (s : Step S.Z S.H Z H) (R : (S.put Z H S.τ).R X.K) : Q (valOf d t0) H := by
  have R' : Rl X.K S.Z0 S.H0 Z H S.σ S.ρ S.ts S.τ := R
  exact h (S.put Z H (⟨b, k, d, t0⟩ :: S.τ)) t0 (Sta.aft_put s) rfl (R'.push0 (scal_ob hs _ _) (scal_own hs _ _)) fun _ a m => by
    rw [scal_own hs] at m
    cases m
/-- a later start -/
theorem GoodE.later {Q : VK} {r : Res BV} {c : Tm} (h : GoodE X W S Q r) (a : Aft S S') (e : S'.τ = S.τ) : GoodE X W S' Q r := by
  cases r with
  | ok v => exact fun S2 t a2 e2 R f => h S2 t (a.trans a2) (e2.trans (by rw [e])) R fun hb x m => a.st.hh.free (f hb x m)
  | rz c => exact fun S2 a2 e2 R => h S2 (a.trans a2) (e2.trans e) R
  | er => exact h
/-! ### names and constants -/
def lookR (ρ : Rho) (i : Nat) : Res BV := match ρ[i]? with
  | some (.va k d) => .ok ⟨true, k, d⟩
  | some (.al j p) => match ρ[j]? with
    | some (.va k d) => match subD k d p with
      | some (k', d') => .ok ⟨true, k', d'⟩
      | none => .er
    | _ => .er
  | _ => .er
def xVa (i : Nat) : Rho → Res BV := fun ρ => lookR ρ i
def xCn (d : D) : Rho → Res BV := fun _ => .ok ⟨false, none, d⟩
theorem kids_ob {K : PySem.W.Frag} {Z H : Hp} : ∀ {d : D} {k : Lv} {t : Tr} {i : Nat} {d' : D}, Ob K Z H k d t → (kidsD d)[i]? = some d' → ∃ t', t.kids[i]? = some t' ∧ Ob K Z H (lvK k d) d' t' ∧ ∀ a ∈ own (lvK k d) d' t', a ∈ own k d t
  | .list ds, k, t, i, d', o, e => by
    simp only [Ob] at o
    obtain ⟨t', e1, o'⟩ := Obs.get o.2 e
    refine ⟨t', e1, o', fun a m => ?_⟩
    simp only [Ev.own]
    exact List.mem_append_right _ (owns_get e e1 a m)
  | .tuple ds, k, t, i, d', o, e => by
    simp only [Ob] at o
    obtain ⟨t', e1, o'⟩ := Obs.get o.2 e
    refine ⟨t', e1, o', fun a m => ?_⟩
    simp only [Ev.own]
    exact owns_get e e1 a m
  | .dict kvs, k, t, i, d', o, e => by
    simp only [Ob] at o
    have main : ∀ (kvs : List (D × D)) (ts : List Tr) (k : Lv) (i : Nat) (d' : D), ObK K Z H k kvs ts → (kvs.map (·.2))[i]? = some d' → ∃ t', ts[i]? = some t' ∧ Ob K Z H k d' t' ∧ ∀ a ∈ own k d' t', a ∈ ownK k kvs ts := by
      intro kvs
      induction kvs with
      | nil => intro ts k i d' _ e; simp at e
      | cons p r ih =>
        intro ts k i d' o e
        obtain ⟨q, d⟩ := p
        cases ts with
        | nil => simp only [ObK] at o
        | cons t ts =>
          simp only [ObK] at o
          cases i with
          | zero =>
            simp at e; subst e
            exact ⟨t, by simp, o.2.1, fun a m => by simp only [ownK]; exact List.mem_append_left _ m⟩
          | succ i =>
            obtain ⟨t', e1, o', h⟩ := ih ts k i d' o.2.2 (by simpa using e)
            exact ⟨t', by simpa using e1, o', fun a m => by simp only [ownK]; exact List.mem_append_right _ (h a m)⟩
    obtain ⟨t', e1, o', h⟩ := main kvs t.kids (pd k) i d' o.2 e
    exact ⟨t', e1, o', fun a m => by simp only [Ev.own]; exact List.mem_append_right _ (h a m)⟩
  | .none, _, _, _, _, _, e => by simp [kidsD] at e
  | .bool _, _, _, _, _, _, e => by simp [kidsD] at e
  | .int _, _, _, _, _, _, e => by simp [kidsD] at e
  | .str _, _, _, _, _, _, e => by simp [kidsD] at e
theorem sub_ob {K : PySem.W.Frag} {Z H : Hp} : ∀ {p : List Nat} {k : Lv} {d : D} {t : Tr} {k' : Lv} {d' : D}, Ob K Z H k d t → subD k d p = some (k', d') → ∃ t', sub k d t p = some (k', d', t') ∧ Ob K Z H k' d' t' ∧ ∀ a ∈ own k' d' t', a ∈ own k d t
  | [], k, d, t, k', d', o, e => by
    simp only [subD, Option.some.injEq, Prod.mk.injEq] at e
    obtain ⟨rfl, rfl⟩ := e
    exact ⟨t, rfl, o, fun _ m => m⟩
  | i :: p, k, d, t, k', d', o, e => by
    simp only [subD] at e
    cases q : (kidsD d)[i]? with
    | none => rw [q] at e; cases e
    | some d1 =>
      rw [q] at e
      obtain ⟨t1, e1, o1, h1⟩ := kids_ob o q
      obtain ⟨t', e2, o', h'⟩ := sub_ob (p := p) o1 e
      refine ⟨t', ?_, o', fun a m => h1 a (h' a m)⟩
      simp only [sub, q, e1]
      exact e2
theorem ownK_nodup : ∀ {kvs : List (D × D)} {k : Lv} {ts : List Tr} {i : Nat} {d : D} {t : Tr}, (ownK k kvs ts).Nodup → (kvs.map (·.2))[i]? = some d → ts[i]? = some t → (own k d t).Nodup
  | [], _, _, _, _, _, _, h, _ => by simp at h
  | _ :: _, _, [], _, _, _, _, _, h => by simp at h
  | (q, d) :: r, k, t :: ts, 0, _, _, hn, h1, h2 => by
    simp at h1 h2; subst h1; subst h2
    simp only [ownK] at hn
    exact (List.nodup_append.mp hn).1
  | (q, d) :: r, k, t :: ts, i + 1, _, _, hn, h1, h2 => by
    simp only [ownK] at hn
    exact ownK_nodup (List.nodup_append.mp hn).2.1 (by simpa using h1) (by simpa using h2)
theorem kid_nodup {d : D} {k : Lv} {t : Tr} {i : Nat} {d' : D} {t' : Tr} (n : (own k d t).Nodup) (e : (kidsD d)[i]? = some d') (e' : t.kids[i]? = some t') : (own (lvK k d) d' t').Nodup := by
  cases d with
  | list ds =>
    simp only [Ev.own] at n
    exact owns_nodup (List.nodup_append.mp n).2.1 e e'
  | tuple ds =>
    simp only [Ev.own] at n
    exact owns_nodup n e e'
  | dict kvs =>
    simp only [Ev.own] at n
    exact ownK_nodup (List.nodup_append.mp n).2.1 e e'
  | _ => simp [kidsD] at e
theorem sub_nodup : ∀ {p : List Nat} {k : Lv} {d : D} {t : Tr} {k' : Lv} {d' : D} {t' : Tr}, (own k d t).Nodup → sub k d t p = some (k', d', t') → (own k' d' t').Nodup
  | [], k, d, t, k', d', t', n, e => by
    simp only [sub, Option.some.injEq, Prod.mk.injEq] at e
    obtain ⟨rfl, rfl, rfl⟩ := e
    exact n
  | i :: p, k, d, t, k', d', t', n, e => by
    simp only [sub] at e
    cases q : (kidsD d)[i]? with
    | none => rw [q] at e; cases e
    | some d1 =>
      cases q2 : t.kids[i]? with
      | none => rw [q, q2] at e; cases e
      | some t1 =>
        rw [q, q2] at e
        exact sub_nodup (kid_nodup n q q2) e
theorem sub_subD : ∀ {p : List Nat} {k : Lv} {d : D} {t : Tr} {k' : Lv} {d' : D} {t' : Tr}, sub k d t p = some (k', d', t') → subD k d p = some (k', d')
  | [], k, d, t, k', d', t', e => by
    simp only [sub, Option.some.injEq, Prod.mk.injEq] at e
    obtain ⟨rfl, rfl, rfl⟩ := e
    rfl
  | i :: p, k, d, t, k', d', t', e => by
    simp only [sub] at e
    cases q : (kidsD d)[i]? with
    | none => rw [q] at e; cases e
    | some d1 =>
      cases q2 : t.kids[i]? with
      | none => rw [q, q2] at e; cases e
      | some t1 =>
        rw [q, q2] at e
        simp only [subD, q]
        exact sub_subD e
/-- what a name says -/
theorem look_ok {Z0 H0 Z H : Hp} {σ : L2.St} {ρ : Rho} {ts : List Tr} {τ : List Tm} {i : Nat} {v : BV} (R : Rl X.K Z0 H0 Z H σ ρ ts τ) (e : lookR ρ i = .ok v) :
    v.b = true ∧ ∃ t, σ[i]? = some (some (valOf v.d t)) ∧ Ob X.K Z H v.k v.d t ∧ (own v.k v.d t).Nodup ∧ ∀ a ∈ own v.k v.d t, a ∈ ownR ρ ts := by
  have nr := (List.nodup_append.mp R.nd).1
  unfold lookR at e
  cases q : ρ[i]? with
  | none => rw [q] at e; cases e
  | some s =>
    rw [q] at e
    cases s with
    | em => cases e
    | ex a0 => cases e
    | va k d =>
      cases e
      obtain ⟨t, e1, o, e2⟩ := R.sl i _ q
      exact ⟨rfl, t, e2, o, ownR_nodup nr q e1, ownR_get q e1⟩
    | al j p =>
      obtain ⟨k, d, t, k', d', t', q1, q2, q3, q4⟩ := R.sl i _ q
      have q3' := sub_subD q3
      simp only [q1, q3'] at e
      cases e
      obtain ⟨t2, e1, o, e2⟩ := R.sl j _ q1
      rw [q2] at e1; cases e1
      obtain ⟨t3, e3, o3, h3⟩ := sub_ob o q3'
      rw [q3] at e3; cases e3
      exact ⟨rfl, t', q4, o3, sub_nodup (ownR_nodup nr q1 q2) q3, fun a m => ownR_get q1 q2 a (h3 a m)⟩
theorem se_va {i : Nat} {x : Str} {pos : Pos} (hN : X.N[i]? = some x) (hv : Vis X.env.scope x) (hd : (x == ("__debug__" : Str)) = false) (hcd : (x == ("__classdict__" : Str)) = false) : SE X W (.Name x pos) (xVa i) := by
  intro S Q R g
  refine wE_of (pe_var (i := i) hN hv hd hcd) ?_
  unfold xVa at g
  cases q : lookR S.ρ i with
  | er => rw [q] at g; exact g.elim
  | rz c =>
    exfalso
    unfold lookR at q
    split at q
    · cases q
    · split at q
      · split at q <;> cases q
      · cases q
    · cases q
  | ok v =>
    rw [q] at g
    obtain ⟨hb, t, e, o, m⟩ := look_ok R q
    refine ⟨valOf v.d t, e, g (S.put S.Z S.H (⟨v.b, v.k, v.d, t⟩ :: S.τ)) t (Sta.aft_put Step.refl) rfl ?_ fun hf => ?_⟩
    · exact Rl.push (c := ⟨v.b, v.k, v.d, t⟩) R o (fun _ => m) fun hf => by
        have hf' : v.b = false := hf
        rw [hb] at hf'; cases hf'
    · rw [hb] at hf; cases hf
theorem se_scal {e : Expr} {d : D} (hs : scal d = true) (hp : PE X e (tC (valOf d t0))) : SE X W e (xCn d) := by
  intro S Q R g
  exact wE_of hp (GoodE.scal g hs Step.refl R)
theorem se_int {i : Int} {j pos} : SE X W (.Constant (.int i) j pos) (xCn (.int i)) := se_scal rfl pe_int
theorem se_bl {b : Bool} {j pos} : SE X W (.Constant (.bool b) j pos) (xCn (.bool b)) := se_scal rfl pe_bl
theorem se_non {j pos} : SE X W (.Constant .none j pos) (xCn .none) := se_scal rfl pe_non
theorem se_str {x : Str} {j pos} : SE X W (.Constant (.str x) j pos) (xCn (.str x)) := se_scal rfl pe_str
theorem se_glob {x : Str} {d : D} {u : Value} {pos : Pos} (hs : scal d = true) (hg : Gl X x) (hm : X.mg x = some u) (r : RelV (valOf d t0) u) (hd : (x == ("__debug__" : Str)) = false) : SE X W (.Name x pos) (xCn d) := se_scal hs (pe_glob hg hm r hd)

/-! ### one operand, two operands -/
def x1 (f : BV → Res BV) (a : Rho → Res BV) : Rho → Res BV := fun ρ => (a ρ).bind f
def x2 (f : BV → BV → Res BV) (a b : Rho → Res BV) : Rho → Res BV := fun ρ => (a ρ).bind fun u => (b ρ).bind fun v => f u v
/-- a value's own objects are new since S -/
def Fresh (S : Sta) (v : BV) (t : Tr) : Prop := v.b = false → ∀ a ∈ own v.k v.d t, S.H a = none
theorem GoodE.rz_later {Q : VK} {c : Str} {S1 : Sta} {c1 : Tm} (h : GoodE X W S Q (.rz c)) (a : Aft S S1) (e : S1.τ = c1 :: S.τ) {Q' : VK} : GoodE X W S1 Q' (.rz c) := by
  intro S2 a2 e2 R2
  exact h (S2.put S2.Z S2.H S.τ) ((a.trans a2).put Step.refl) rfl (R2.pop (c := c1) (τ := S.τ) (e2.trans e))
theorem one {a : Expr} {xa : Rho → Res BV} (ha : SE X W a xa) {Q Q' : VK} {f : BV → Res BV} (R : S.R X.K) (g : GoodE X W S Q ((xa S.ρ).bind f))
    (k : ∀ (u : BV) (S1 : Sta) (t : Tr), Aft S S1 → S1.τ = ⟨u.b, u.k, u.d, t⟩ :: S.τ → S1.R X.K → Fresh S u t → GoodE X W S Q (f u) → Q' (valOf u.d t) S1.H) : wE X a S.σ S.H Q' := by
  refine ha S Q' R ?_
  cases q : xa S.ρ with
  | er => rw [q] at g; exact g
  | rz c => rw [q] at g; exact g
  | ok u =>
    rw [q] at g
    exact fun S1 t a1 e1 R1 f1 => k u S1 t a1 e1 R1 f1 g
theorem two {a b : Expr} {xa xb : Rho → Res BV} (ha : SE X W a xa) (hb : SE X W b xb) {Q : VK} {R' : V → V → Hp → Prop} {f : BV → BV → Res BV} (R : S.R X.K) (g : GoodE X W S Q (x2 f xa xb S.ρ))
    (k : ∀ (u v : BV) (S2 : Sta) (t t' : Tr), Aft S S2 → S2.τ = ⟨v.b, v.k, v.d, t'⟩ :: ⟨u.b, u.k, u.d, t⟩ :: S.τ → S2.R X.K → Fresh S u t → Fresh S v t' → GoodE X W S Q (f u v) → R' (valOf u.d t) (valOf v.d t') S2.H) :
    wE X a S.σ S.H (fun x H1 => wE X b S.σ H1 fun y H2 => R' x y H2) := by
  refine one ha R g fun u S1 t a1 e1 R1 f1 g1 => ?_
  have z : wE X b S1.σ S1.H fun y H2 => R' (valOf u.d t) y H2 := by
    refine hb S1 _ R1 ?_
    rw [a1.ρ]
    cases q : xb S.ρ with
    | er => rw [q] at g1; exact g1
    | rz c =>
      rw [q] at g1
      exact GoodE.rz_later (c := c) g1 a1 e1
    | ok v =>
      rw [q] at g1
      intro S2 t' a2 e2 R2 f2
      exact k u v S2 t t' (a1.trans a2) (by rw [e2, e1]) R2 f1 (fun hv x m => a1.st.hh.free (f2 hv x m)) g1
  rw [a1.σ] at z
  exact z
/-- an operation on two values is as g says -/
def OpS (X : Cx) (W : WX) (f : Value → Value → Sem Value) (g : BV → BV → Res BV) : Prop :=
  ∀ (S : Sta) (Q : VK) (u v : BV) (S2 : Sta) (t t' : Tr), S.R X.K → Aft S S2 → S2.τ = ⟨v.b, v.k, v.d, t'⟩ :: ⟨u.b, u.k, u.d, t⟩ :: S.τ → S2.R X.K → Fresh S u t → Fresh S v t' → GoodE X W S Q (g u v) →
    wO X f (valOf u.d t) (valOf v.d t') S2.H Q
theorem se_bin {o : Operator} {a b : Expr} {pos : Pos} {g : BV → BV → Res BV} {xa xb : Rho → Res BV} (ho : OpS X W (binaryOp o) g) (ha : SE X W a xa) (hb : SE X W b xb) : SE X W (.BinOp a o b pos) (x2 g xa xb) := by
  intro S Q R h
  exact wE_of (pe_op opR_w pe_w pe_w) (two ha hb R h fun u v S2 t t' a2 e2 R2 f1 f2 g2 => ho S Q u v S2 t t' R a2 e2 R2 f1 f2 g2)
theorem se_cmp {o : CmpOp} {a b : Expr} {pos : Pos} {g : BV → BV → Res BV} {xa xb : Rho → Res BV} (ho : OpS X W (compareOp o) g) (hm : behindInMarks o b = false) (ha : SE X W a xa) (hb : SE X W b xb) : SE X W (.Compare a [o] [b] pos) (x2 g xa xb) := by
  intro S Q R h
  exact wE_of (pe_cmpR opR_w pe_w pe_w hm) (two ha hb R h fun u v S2 t t' a2 e2 R2 f1 f2 g2 => ho S Q u v S2 t t' R a2 e2 R2 f1 f2 g2)
/-- an operation with a plain result -/
theorem OpS.scal {f : Value → Value → Sem Value} {g : D → D → Res D} (h : ∀ d e r, g d e = .ok r → scal r = true) (hz : ∀ d e c, g d e ≠ .rz c)
    (ho : ∀ (d e r : D) (t t' : Tr) (Z H : Hp) (k k' : Lv) (Q : VK), g d e = .ok r → Same Z H → Ob X.K Z H k d t → Ob X.K Z H k' e t' → Q (valOf r t0) H → wO X f (valOf d t) (valOf e t') H Q) :
    OpS X W f (fun u v => (g u.d v.d).bind fun d => .ok ⟨false, none, d⟩) := by
  intro S Q u v S2 t t' R a2 e2 R2 f1 f2 g2
  have g2 : GoodE X W S Q ((g u.d v.d).bind fun d => .ok ⟨false, none, d⟩) := g2
  cases q : g u.d v.d with
  | er => rw [q] at g2; exact g2.elim
  | rz c => exact absurd q (hz _ _ _)
  | ok r =>
    rw [q] at g2
    have R2' : Rl X.K S2.Z0 S2.H0 S2.Z S2.H S2.σ S2.ρ S2.ts S2.τ := R2
    have m1 := (R2'.tm ⟨v.b, v.k, v.d, t'⟩ (by rw [e2]; exact List.mem_cons_self)).1
    have m2 := (R2'.tm ⟨u.b, u.k, u.d, t⟩ (by rw [e2]; exact List.mem_cons_of_mem _ List.mem_cons_self)).1
    refine ho u.d v.d r t t' S2.Z S2.H u.k v.k Q q R2'.zh m2 m1 ?_
    have R3 := R2.pop2 (X := X) e2
    have e : S2.put S2.Z S2.H S.τ = S.put S2.Z S2.H S.τ := by
      obtain ⟨a, b, c, d, e, _⟩ := a2
      cases S; cases S2
      simp only [Sta.put] at *
      subst a; subst b; subst c; subst d; subst e
      rfl
    rw [e] at R3
    exact GoodE.scal g2 (h _ _ _ q) a2.st R3
end
end Ev

set_option Elab.async false
set_option linter.all false
set_option maxRecDepth 100000
namespace Ev
open PySem PySem.Spec PyProof.Rows L2

section
variable {K : PySem.W.Frag} {Z0 H0 Z H : Hp} {σ : L2.St} {ρ : Rho} {ts : List Tr} {τ cs : List Tm}
theorem ownT_app : ∀ (a b : List Tm), ownT (a ++ b) = ownT a ++ ownT b
  | [], b => rfl
  | c :: a, b => by simp only [List.cons_append, ownT, ownT_app a b, List.append_assoc]
/-- values under way are bound together in a new object -/
theorem Rl.wrap (R : Rl K Z0 H0 Z H σ ρ ts (cs ++ τ)) {Z' : Hp} {p : Addr} {o : HO} {k : Lv} {d : D} {t : Tr} (hp : H p = none) (hz : Z' = Z ∨ Z' = upd Z p o)
    (ob : Ob K Z' (upd H p o) k d t) (hd : (own k d t).Nodup) (hs : ∀ a ∈ own k d t, (a = p ∧ Z' = Z) ∨ a ∈ ownT cs) : Rl K Z0 H0 Z' (upd H p o) σ ρ ts (⟨false, k, d, t⟩ :: τ) := by
  have zp : Z p = none := R.zh.free hp
  have hh : Same H (upd H p o) := fun b u e => by rw [upd_ne (ne_of_none e hp)]; exact e
  have zz : Same Z Z' := fun b u e => by
    rcases hz with h | h
    · rw [h]; exact e
    · rw [h, upd_ne (ne_of_none e zp)]; exact e
  have st : Step Z H Z' (upd H p o) := ⟨zz, hh, fun a u e => by
    rcases hz with h | h
    · rw [h] at e; exact .inl e
    · rw [h] at e
      by_cases q : a = p
      · subst q; exact .inr hp
      · rw [upd_ne q] at e; exact .inl e⟩
  have zh : Same Z' (upd H p o) := fun b u e => by
    rcases hz with h | h
    · rw [h] at e; exact hh _ _ (R.zh _ _ e)
    · rw [h] at e
      by_cases q : b = p
      · subst q; rw [upd_same] at e ⊢; exact e
      · rw [upd_ne q] at e ⊢; exact R.zh _ _ e
  have n := R.nd
  rw [ownT_app, ← List.append_assoc] at n
  obtain ⟨n1, n2, n3⟩ := List.nodup_append.mp n
  obtain ⟨n4, n5, n6⟩ := List.nodup_append.mp n1
  have R2 : Rl K Z0 H0 Z H σ ρ ts τ := R.perm (fun c h => List.mem_append_right _ h) n2
  have R1 : Rl K Z0 H0 Z' (upd H p o) σ ρ ts τ := R2.step st zh
  refine R1.push ob (fun h => nomatch h) fun _ => ⟨hd, fun a m => ?_, fun a m => ?_⟩
  · rcases hs a m with ⟨e, _⟩ | h
    · subst e
      intro z
      obtain ⟨_, u, e, _⟩ := R2.own_z _ z
      rw [hp] at e; cases e
    · intro z
      rcases List.mem_append.mp z with z | z
      · exact n6 a z a h rfl
      · exact n3 a (List.mem_append_right _ h) a z rfl
  · rcases hs a m with ⟨e, _⟩ | h
    · subst e
      exact R2.h0.free hp
    · exact R.o0 a (List.mem_append_right _ (by rw [ownT_app]; exact List.mem_append_left _ h))
def frzZ (Z H : Hp) (A : List Addr) : Hp := fun a => if a ∈ A then H a else Z a
/-- a value under way is shared from here on -/
theorem Rl.frz {c : Tm} (R : Rl K Z0 H0 Z H σ ρ ts (cs ++ c :: τ)) (hb : c.b = false) : Rl K Z0 H0 (frzZ Z H (own c.k c.d c.t)) H σ ρ ts (cs ++ ⟨false, some 0, c.d, c.t⟩ :: τ) := by
  have hc : c ∈ cs ++ c :: τ := List.mem_append_right _ List.mem_cons_self
  have e1 : ownT (cs ++ c :: τ) = ownT cs ++ (own c.k c.d c.t ++ ownT τ) := by rw [ownT_app]; simp [ownT, hb]
  have e2 : ownT (cs ++ ⟨false, some 0, c.d, c.t⟩ :: τ) = ownT cs ++ ownT τ := by rw [ownT_app]; simp [ownT, own_zero]
  have n := R.nd
  rw [e1] at n
  have oz : ∀ a ∈ own c.k c.d c.t, Z a = none ∧ ∃ o, H a = some o := fun a m => by
    obtain ⟨z, o, h, _⟩ := Ob.own c.d c.k c.t (R.tm c hc).1 a m
    exact ⟨z, o, h⟩
  have zz : Same Z (frzZ Z H (own c.k c.d c.t)) := fun b o e => by
    unfold frzZ
    split
    · rename_i h
      rw [(oz b h).1] at e; cases e
    · exact e
  have off : ∀ a, a ∈ ownR ρ ts ++ (ownT cs ++ ownT τ) → a ∉ own c.k c.d c.t := fun a m h => by
    have c1 : ownR ρ ts ++ (ownT cs ++ (own c.k c.d c.t ++ ownT τ)) = (ownR ρ ts ++ ownT cs) ++ (own c.k c.d c.t ++ ownT τ) := by simp [List.append_assoc]
    rw [c1] at n
    obtain ⟨m1, m2, m3⟩ := List.nodup_append.mp n
    obtain ⟨m4, m5, m6⟩ := List.nodup_append.mp m2
    rcases List.mem_append.mp m with m | m
    · exact m3 a (List.mem_append_left _ m) a (List.mem_append_left _ h) rfl
    · rcases List.mem_append.mp m with m | m
      · exact m3 a (List.mem_append_right _ m) a (List.mem_append_left _ h) rfl
      · exact m6 a h a m rfl
  have keep : ∀ a, a ∈ ownR ρ ts ++ (ownT cs ++ ownT τ) → frzZ Z H (own c.k c.d c.t) a = none := fun a m => by
    unfold frzZ
    rw [if_neg (off a m)]
    refine (R.own_z a ?_).1
    rw [e1]
    rcases List.mem_append.mp m with m | m
    · exact List.mem_append_left _ m
    · rcases List.mem_append.mp m with m | m
      · exact List.mem_append_right _ (List.mem_append_left _ m)
      · exact List.mem_append_right _ (List.mem_append_right _ (List.mem_append_right _ m))
  refine ⟨fun b o e => ?_, R.h0, R.z0.trans zz, fun a o e => ?_, R.lr, R.lt, fun i s e => (R.sl i s e).ext e zz (fun a m => keep a (List.mem_append_left _ m)) (fun _ _ _ q => q), fun e he => ?_, ?_, fun a m => ?_⟩
  · unfold frzZ at e
    split at e
    · exact e
    · exact R.zh _ _ e
  · unfold frzZ at e
    split at e
    · rename_i h
      exact .inr (R.o0 a (by rw [e1]; exact List.mem_append_right _ (List.mem_append_right _ (List.mem_append_left _ h))))
    · exact R.zn a o e
  · have other : ∀ e : Tm, e ∈ cs ∨ e ∈ τ → Ob K (frzZ Z H (own c.k c.d c.t)) H e.k e.d e.t ∧ (e.b = true → (own e.k e.d e.t).Nodup ∧ ∀ a ∈ own e.k e.d e.t, a ∈ ownR ρ ts) := fun e he => by
      have hm : e ∈ cs ++ c :: τ := he.elim (fun h => List.mem_append_left _ h) fun h => List.mem_append_right _ (List.mem_cons_of_mem _ h)
      obtain ⟨o, hbr⟩ := R.tm e hm
      refine ⟨Ob.ext zz _ _ _ o (fun a m => keep a ?_) (fun _ _ _ q => q), hbr⟩
      cases q : e.b with
      | true => exact List.mem_append_left _ ((hbr q).2 a m)
      | false =>
        rcases he with h | h
        · exact List.mem_append_right _ (List.mem_append_left _ (ownT_mem h q a m))
        · exact List.mem_append_right _ (List.mem_append_right _ (ownT_mem h q a m))
    rcases List.mem_append.mp he with h | h
    · exact other e (.inl h)
    · rcases List.mem_cons.mp h with h | h
      · subst h
        refine ⟨Ob.freeze zz _ _ _ (R.tm c hc).1 fun a m => ?_, fun z => nomatch z⟩
        unfold frzZ
        rw [if_pos m]
      · exact other e (.inr h)
  · rw [e2]
    have c1 : ownR ρ ts ++ (ownT cs ++ (own c.k c.d c.t ++ ownT τ)) = (ownR ρ ts ++ ownT cs) ++ (own c.k c.d c.t ++ ownT τ) := by simp [List.append_assoc]
    rw [c1] at n
    obtain ⟨m1, m2, m3⟩ := List.nodup_append.mp n
    obtain ⟨m4, m5, m6⟩ := List.nodup_append.mp m2
    rw [← List.append_assoc]
    exact List.nodup_append.mpr ⟨m1, m5, fun a ha b hb' => m3 a ha b (List.mem_append_right _ hb')⟩
  · rw [e2] at m
    refine R.o0 a ?_
    rw [e1]
    rcases List.mem_append.mp m with m | m
    · exact List.mem_append_left _ m
    · rcases List.mem_append.mp m with m | m
      · exact List.mem_append_right _ (List.mem_append_left _ m)
      · exact List.mem_append_right _ (List.mem_append_right _ (List.mem_append_right _ m))
theorem frz_step {A : List Addr} {Zs Hs : Hp} (s : Step Zs Hs Z H) (hA : ∀ a ∈ A, Hs a = none) (hz : ∀ a ∈ A, Z a = none) : Step Zs Hs (frzZ Z H A) H := by
  refine ⟨fun b o e => ?_, s.hh, fun a o e => ?_⟩
  · unfold frzZ
    split
    · rename_i h
      have z := hz b h
      rw [s.zz _ _ e] at z; cases z
    · exact s.zz _ _ e
  · unfold frzZ at e
    split at e
    · rename_i h
      exact .inr (hA a h)
    · exact s.zn a o e
end

/-! ### plain operations -/
def dAdd : D → D → Res D
  | .int i, .int j => .ok (.int (i + j))
  | .str x, .str y => if x.length + y.length ≤ sizeLine then .ok (.str (x ++ y)) else .er
  | _, _ => .er
def dSub : D → D → Res D
  | .int i, .int j => .ok (.int (i - j))
  | _, _ => .er
def dMul : D → D → Res D
  | .int i, .int j => if i.natAbs.log2 + j.natAbs.log2 < 1000000 then .ok (.int (i * j)) else .er
  | _, _ => .er
def dDiv : D → D → Res D
  | .int i, .int j => if j ≠ 0 ∧ j.natAbs.log2 < 9000 then .ok (.int (i.fdiv j)) else .er
  | _, _ => .er
def dMod : D → D → Res D
  | .int i, .int j => if j ≠ 0 then .ok (.int (i.fmod j)) else .er
  | _, _ => .er
def dPow : D → D → Res D
  | .int i, .int j => if 0 ≤ j ∧ j ≤ 1000000 ∧ i.natAbs < 2 ^ 64 then .ok (.int (i ^ j.toNat)) else .er
  | _, _ => .er
def dAnd : D → D → Res D
  | .int i, .int j => .ok (.int (Builtin.bitAnd i j))
  | _, _ => .er
def dShr : D → D → Res D
  | .int i, .int j => if 0 ≤ j then .ok (.int (i / 2 ^ j.toNat)) else .er
  | _, _ => .er
def dCmp (f : Int → Int → Bool) : D → D → Res D
  | .int i, .int j => .ok (.bool (f i j))
  | _, _ => .er
abbrev dLt : D → D → Res D := dCmp fun i j => decide (i < j)
abbrev dLe : D → D → Res D := dCmp fun i j => decide (i ≤ j)
abbrev dGt : D → D → Res D := dCmp fun i j => decide (j < i)
abbrev dGe : D → D → Res D := dCmp fun i j => decide (j ≤ i)
def strEq : D → D → Option Bool
  | .str x, .str y => some (x == y)
  | _, _ => none
theorem strEq_of {d e : D} {b : Bool} (h : strEq d e = some b) : ∃ x y, d = .str x ∧ e = .str y ∧ b = (x == y) := by
  unfold strEq at h
  split at h
  · cases h; exact ⟨_, _, rfl, rfl, rfl⟩
  · cases h
def dEq (d e : D) : Res D := if SeqAt.shaped d = true ∧ SeqAt.shaped e = true then .ok (.bool (PyData.eqv d e)) else match strEq d e with
  | some b => .ok (.bool b)
  | none => .er
def dNe (d e : D) : Res D := if SeqAt.shaped d = true ∧ SeqAt.shaped e = true then .ok (.bool (!PyData.eqv d e)) else match strEq d e with
  | some b => .ok (.bool (!b))
  | none => .er
def isNon : D → Bool
  | .none => true
  | _ => false
def dIs : D → D → Res D
  | d, .none => .ok (.bool (isNon d))
  | _, _ => .er
def dIsNot : D → D → Res D
  | d, .none => .ok (.bool (!isNon d))
  | _, _ => .er
/-- an item among plain items -/
def flatI : D → Bool
  | .none => true
  | .bool _ => true
  | .int _ => true
  | .str _ => true
  | _ => false
def dInL (neg : Bool) (d : D) (ds : List D) : Res D := if flatI d = true ∧ ds.all flatI = true then .ok (.bool ((ds.any fun y => PyData.eqv y d) != neg)) else .er
def dIn (neg : Bool) : D → D → Res D
  | d, .list ds => dInL neg d ds
  | d, .tuple ds => dInL neg d ds
  | _, _ => .er
/-- the plain operation as one on values -/
def pl (g : D → D → Res D) : BV → BV → Res BV := fun u v => (g u.d v.d).bind fun d => .ok ⟨false, none, d⟩
section
variable {X : Cx} {W : WX}
theorem valOf_int (i : Int) (t : Tr) : valOf (.int i) t = .int i := by cases t; rfl
theorem op_fdivV : OpR X (binaryOp .FloorDiv) (rI (fun _ j => j ≠ 0 ∧ j.natAbs.log2 < 9000) fun i j => .int (i.fdiv j)) := opI fun i j _ _ _ _ _ hc q => by
  exact floordiv_int hc.1 q (.inl (PyProof.noPylong_of_log2 hc.2))
theorem OpS.int {f : Value → Value → Sem Value} {g : D → D → Res D} {C : Int → Int → Prop} {h : Int → Int → V} (ho : OpR X f (rI C h))
    (hg : ∀ d e r, g d e = .ok r → ∃ i j, d = .int i ∧ e = .int j ∧ C i j ∧ Ev.scal r = true ∧ valOf r t0 = h i j) (hz : ∀ d e c, g d e ≠ .rz c) : OpS X W f (pl g) := by
  refine OpS.scal (fun d e r q => ?_) hz fun d e r t t' Z H k k' Q q zh o1 o2 hq => ?_
  · obtain ⟨_, _, _, _, _, h, _⟩ := hg d e r q
    exact h
  · obtain ⟨i, j, rfl, rfl, c, _, e⟩ := hg d e r q
    rw [e] at hq
    exact wO_of ho ⟨i, j, rfl, rfl, c, hq⟩
theorem ops_sub : OpS X W (binaryOp .Sub) (pl dSub) := by
  refine OpS.int (C := fun _ _ => True) (h := fun i j => .int (i - j)) (fun pins s σ H x y v u Q I rx ry ⟨i, j, e1, e2, _, q⟩ => op_sub pins s σ H x y v u Q I rx ry ⟨i, j, e1, e2, q⟩) (fun d e r q => ?_) fun d e c q => ?_
  · cases d <;> cases e <;> first | cases q | skip
    exact ⟨_, _, rfl, rfl, trivial, rfl, rfl⟩
  · cases d <;> cases e <;> cases q
theorem ops_mul : OpS X W (binaryOp .Mult) (pl dMul) := by
  refine OpS.int op_mulW (fun d e r q => ?_) fun d e c q => ?_
  · cases d <;> cases e <;> first | (cases q; done) | skip
    simp only [dMul] at q
    split at q
    · rename_i h
      cases q
      exact ⟨_, _, rfl, rfl, h, rfl, rfl⟩
    · cases q
  · cases d <;> cases e <;> first | (cases q; done) | skip
    simp only [dMul] at q
    split at q <;> cases q
theorem ops_div : OpS X W (binaryOp .FloorDiv) (pl dDiv) := by
  refine OpS.int op_fdivV (fun d e r q => ?_) fun d e c q => ?_
  · cases d <;> cases e <;> first | (cases q; done) | skip
    simp only [dDiv] at q
    split at q
    · rename_i h
      cases q
      exact ⟨_, _, rfl, rfl, h, rfl, rfl⟩
    · cases q
  · cases d <;> cases e <;> first | (cases q; done) | skip
    simp only [dDiv] at q
    split at q <;> cases q
theorem ops_mod : OpS X W (binaryOp .Mod) (pl dMod) := by
  refine OpS.int op_modN (fun d e r q => ?_) fun d e c q => ?_
  · cases d <;> cases e <;> first | (cases q; done) | skip
    simp only [dMod] at q
    split at q
    · rename_i h
      cases q
      exact ⟨_, _, rfl, rfl, h, rfl, rfl⟩
    · cases q
  · cases d <;> cases e <;> first | (cases q; done) | skip
    simp only [dMod] at q
    split at q <;> cases q
theorem ops_pow : OpS X W (binaryOp .Pow) (pl dPow) := by
  refine OpS.int op_pow (fun d e r q => ?_) fun d e c q => ?_
  · cases d <;> cases e <;> first | (cases q; done) | skip
    simp only [dPow] at q
    split at q
    · rename_i h
      cases q
      exact ⟨_, _, rfl, rfl, h, rfl, rfl⟩
    · cases q
  · cases d <;> cases e <;> first | (cases q; done) | skip
    simp only [dPow] at q
    split at q <;> cases q
theorem ops_shr : OpS X W (binaryOp .RShift) (pl dShr) := by
  refine OpS.int op_shr (fun d e r q => ?_) fun d e c q => ?_
  · cases d <;> cases e <;> first | (cases q; done) | skip
    simp only [dShr] at q
    split at q
    · rename_i h
      cases q
      exact ⟨_, _, rfl, rfl, h, rfl, rfl⟩
    · cases q
  · cases d <;> cases e <;> first | (cases q; done) | skip
    simp only [dShr] at q
    split at q <;> cases q
theorem ops_and : OpS X W (binaryOp .BitAnd) (pl dAnd) := by
  refine OpS.int (C := fun _ _ => True) (h := fun i j => .int (Builtin.bitAnd i j)) (fun pins s σ H x y v u Q I rx ry ⟨i, j, e1, e2, _, q⟩ => op_and pins s σ H x y v u Q I rx ry ⟨i, j, e1, e2, q⟩) (fun d e r q => ?_) fun d e c q => ?_
  · cases d <;> cases e <;> first | cases q | skip
    exact ⟨_, _, rfl, rfl, trivial, rfl, rfl⟩
  · cases d <;> cases e <;> cases q
theorem ops_cmp {f : Value → Value → Sem Value} {p : Int → Int → Bool} (ho : OpR X f (rI0 fun i j => .bl (p i j))) : OpS X W f (pl (dCmp p)) := by
  refine OpS.int (C := fun _ _ => True) (h := fun i j => .bl (p i j)) (fun pins s σ H x y v u Q I rx ry ⟨i, j, e1, e2, _, q⟩ => ho pins s σ H x y v u Q I rx ry ⟨i, j, e1, e2, q⟩) (fun d e r q => ?_) fun d e c q => ?_
  · cases d <;> cases e <;> first | cases q | skip
    exact ⟨_, _, rfl, rfl, trivial, rfl, rfl⟩
  · cases d <;> cases e <;> cases q
theorem ops_lt : OpS X W (compareOp .Lt) (pl dLt) := ops_cmp op_lt
theorem ops_le : OpS X W (compareOp .LtE) (pl dLe) := ops_cmp op_le
theorem ops_gt : OpS X W (compareOp .Gt) (pl dGt) := ops_cmp op_gt
theorem ops_ge : OpS X W (compareOp .GtE) (pl dGe) := ops_cmp op_ge
theorem ops_add : OpS X W (binaryOp .Add) (pl dAdd) := by
  refine OpS.scal (fun d e r q => ?_) (fun d e c q => ?_) fun d e r t t' Z H k k' Q q zh o1 o2 hq => ?_
  · cases d <;> cases e <;> first | (cases q; done) | skip
    · cases q; rfl
    · simp only [dAdd] at q
      split at q
      · cases q; rfl
      · cases q
  · cases d <;> cases e <;> first | (cases q; done) | skip
    simp only [dAdd] at q
    split at q <;> cases q
  · cases d <;> cases e <;> first | (cases q; done) | skip
    · cases q
      exact wO_of op_add ⟨_, _, rfl, rfl, hq⟩
    · simp only [dAdd] at q
      split at q
      · rename_i h
        cases q
        exact wO_of op_add_str ⟨_, _, rfl, rfl, h, hq⟩
      · cases q
theorem ob_dp {K : PySem.W.Frag} {Z H : Hp} {k : Lv} {d : D} {t : Tr} (zh : Same Z H) (o : Ob K Z H k d t) (s : SeqAt.shaped d = true) : Dp K H (valOf d t) d := by
  refine Ob.dp zh d k t ?_ o
  unfold SeqAt.shaped at s
  rw [Bool.and_eq_true] at s
  exact PyData.hasDict_of_canLay d s.1
theorem ops_eq (hu : X.A.units + 64 < cLine) : OpS X W (compareOp .Eq) (pl dEq) := by
  refine OpS.scal (fun d e r q => ?_) (fun d e c q => ?_) fun d e r t t' Z H k k' Q q zh o1 o2 hq => ?_
  · unfold dEq at q
    split at q
    · cases q; rfl
    · split at q <;> cases q
      rfl
  · unfold dEq at q
    split at q
    · cases q
    · split at q <;> cases q
  · unfold dEq at q
    split at q
    · rename_i h
      cases q
      exact wO_of (op_eqD hu) ⟨d, e, ob_dp zh o1 h.1, ob_dp zh o2 h.2, h.1, h.2, hq⟩
    · split at q <;> cases q
      rename_i b hb
      obtain ⟨x, y, rfl, rfl, rfl⟩ := strEq_of hb
      intro pins s σ v u I rx ry
      obtain ⟨tk, rfl⟩ := rx
      obtain ⟨tk', rfl⟩ := ry
      exact PyProof.Rows.eq_str ⟨.bl _, H, I, rfl, hq⟩
theorem ops_ne (hu : X.A.units + 64 < cLine) : OpS X W (compareOp .NotEq) (pl dNe) := by
  refine OpS.scal (fun d e r q => ?_) (fun d e c q => ?_) fun d e r t t' Z H k k' Q q zh o1 o2 hq => ?_
  · unfold dNe at q
    split at q
    · cases q; rfl
    · split at q <;> cases q
      rfl
  · unfold dNe at q
    split at q
    · cases q
    · split at q <;> cases q
  · unfold dNe at q
    split at q
    · rename_i h
      cases q
      exact wO_of (op_neD hu) ⟨d, e, ob_dp zh o1 h.1, ob_dp zh o2 h.2, h.1, h.2, hq⟩
    · split at q <;> cases q
      rename_i b hb
      obtain ⟨x, y, rfl, rfl, rfl⟩ := strEq_of hb
      intro pins s σ v u I rx ry
      obtain ⟨tk, rfl⟩ := rx
      obtain ⟨tk', rfl⟩ := ry
      exact PyProof.Rows.ne_str ⟨.bl _, H, I, rfl, hq⟩
theorem val_non {d : D} {t : Tr} : decide (valOf d t = .non) = isNon d := by
  cases d <;> simp [valOf, isNon]
theorem ops_is : OpS X W (compareOp .Is) (pl dIs) := by
  refine OpS.scal (fun d e r q => ?_) (fun d e c q => ?_) fun d e r t t' Z H k k' Q q zh o1 o2 hq => ?_
  · cases e <;> cases q; rfl
  · cases e <;> cases q
  · cases e <;> cases q
    refine wO_of op_isN ⟨rfl, ?_⟩
    rw [val_non]
    exact hq
theorem ops_isNot : OpS X W (compareOp .IsNot) (pl dIsNot) := by
  refine OpS.scal (fun d e r q => ?_) (fun d e c q => ?_) fun d e r t t' Z H k k' Q q zh o1 o2 hq => ?_
  · cases e <;> cases q; rfl
  · cases e <;> cases q
  · cases e <;> cases q
    refine wO_of op_notN ⟨rfl, ?_⟩
    rw [val_non]
    exact hq
theorem flatI_val {d : D} (t : Tr) (h : flatI d = true) : flatV (valOf d t) = true := by
  cases d <;> first | rfl | exact Bool.noConfusion h
theorem flatI_vals : ∀ {ds : List D} {ts : List Tr}, ds.all flatI = true → (valsOf ds ts).all flatV = true
  | [], _, _ => by simp [valsOf]
  | _ :: _, [], _ => by simp [valsOf]
  | d :: ds, t :: ts, h => by
    simp only [List.all_cons, Bool.and_eq_true] at h
    simp only [valsOf, List.all_cons, Bool.and_eq_true]
    exact ⟨flatI_val t h.1, flatI_vals h.2⟩
theorem eqV_eqv {d e : D} (t t' : Tr) (h : flatI d = true) (h' : flatI e = true) : eqV (valOf d t) (valOf e t') = PyData.eqv d e := by
  cases d <;> cases e <;> first | (exact Bool.noConfusion h) | (exact Bool.noConfusion h') | (simp only [valOf, PyData.eqv]; rfl) | skip
  all_goals (simp only [valOf, PyData.eqv]; unfold eqV; first | rfl | skip)
theorem inV_any {d : D} {t : Tr} (h : flatI d = true) : ∀ {ds : List D} {ts : List Tr}, ds.length = ts.length → ds.all flatI = true → inV (valOf d t) (valsOf ds ts) = ds.any fun y => PyData.eqv y d
  | [], _, _, _ => by simp [valsOf, inV]
  | _ :: _, [], e, _ => by simp at e
  | x :: ds, y :: ts, e, hs => by
    simp only [List.all_cons, Bool.and_eq_true] at hs
    have ih := inV_any (d := d) (t := t) h (ds := ds) (ts := ts) (by simpa using e) hs.2
    unfold inV at ih ⊢
    simp only [valsOf, List.any_cons, eqV_eqv y t hs.1 h, ih]
theorem ops_in (neg : Bool) : OpS X W (compareOp (if neg then .NotIn else .In)) (pl (dIn neg)) := by
  refine OpS.scal (fun d e r q => ?_) (fun d e c q => ?_) fun d e r t t' Z H k k' Q q zh o1 o2 hq => ?_
  · cases e <;> first | (cases q; done) | skip
    all_goals
      simp only [dIn, dInL] at q
      split at q <;> cases q
      rfl
  · cases e <;> first | (cases q; done) | skip
    all_goals
      simp only [dIn, dInL] at q
      split at q <;> cases q
  · have go : ∀ (ds : List D) (ts : List Tr) (p : Addr), (SqL X.K H p (valsOf ds ts) ∨ SqT X.K H p (valsOf ds ts)) → ds.length = ts.length → dInL neg d ds = .ok r → wO X (compareOp (if neg then .NotIn else .In)) (valOf d t) (.ref p) H Q := fun ds ts p hp hl q => by
      unfold dInL at q
      split at q
      · rename_i h
        cases q
        cases neg with
        | false =>
          refine wO_of op_in_seq ⟨p, _, rfl, hp, flatI_val t h.1, flatI_vals h.2, ?_⟩
          rw [inV_any h.1 hl h.2]
          simpa [valOf] using hq
        | true =>
          refine wO_of op_notIn_seq ⟨p, _, rfl, hp, flatI_val t h.1, flatI_vals h.2, ?_⟩
          rw [inV_any h.1 hl h.2]
          simpa [valOf] using hq
      · cases q
    cases e <;> first | (cases q; done) | skip
    · simp only [Ob] at o2
      exact go _ _ _ (.inl (o2.1.sq zh)) o2.2.len q
    · simp only [Ob] at o2
      exact go _ _ _ (.inr (Same.sqT zh o2.1)) o2.2.len q
end
end Ev

set_option Elab.async false
set_option linter.all false
set_option maxRecDepth 100000
namespace Ev
open PySem PySem.Spec PyProof.Rows L2

/-! ### truth -/
def truth : D → Res Bool
  | .none => .ok false
  | .bool b => .ok b
  | .int i => .ok (i != 0)
  | .str x => if x.length ≤ sizeLine then .ok ((x.length : Int) != 0) else .er
  | .list ds => .ok (!ds.isEmpty)
  | .tuple ds => .ok (!ds.isEmpty)
  | .dict kvs => .ok (!kvs.isEmpty)
theorem truth_rz {d : D} {c : Str} : truth d ≠ .rz c := by
  intro h
  cases d <;> first | (cases h; done) | skip
  simp only [truth] at h
  split at h <;> cases h
theorem vals_empty {K : PySem.W.Frag} {Z H : Hp} : ∀ {ds : List D} {k : Lv} {ts : List Tr}, Obs K Z H k ds ts → (valsOf ds ts).isEmpty = ds.isEmpty
  | [], _, ts, _ => by cases ts <;> rfl
  | d :: ds, _, t :: ts, _ => rfl
  | _ :: _, _, [], h => by simp only [Obs] at h
theorem dvals_empty {K : PySem.W.Frag} {Z H : Hp} : ∀ {ds : List (D × D)} {k : Lv} {ts : List Tr}, ObK K Z H k ds ts → (dvals ds ts).isEmpty = ds.isEmpty
  | [], _, ts, _ => by cases ts <;> rfl
  | d :: ds, _, t :: ts, _ => rfl
  | (_, _) :: _, _, [], h => by simp only [ObK] at h
theorem truth_ok {K : PySem.W.Frag} {Z H : Hp} {d : D} {k : Lv} {t : Tr} {b : Bool} (zh : Same Z H) (o : Ob K Z H k d t) (h : truth d = .ok b) : TruV K (valOf d t) H b := by
  cases d with
  | none => cases h; rfl
  | bool c => cases h; rfl
  | int i => cases h; rfl
  | str x =>
    simp only [truth] at h
    split at h
    · rename_i hx
      cases h
      exact ⟨hx, rfl⟩
    · cases h
  | list ds =>
    simp only [Ob] at o
    cases h
    exact .inl ⟨_, o.1.sq zh, by rw [vals_empty o.2]⟩
  | tuple ds =>
    simp only [Ob] at o
    cases h
    exact .inr (.inl ⟨_, Same.sqT zh o.1, by rw [vals_empty o.2]⟩)
  | dict kvs =>
    simp only [Ob] at o
    cases h
    exact .inr (.inr ⟨_, o.1.rd zh, by rw [dvals_empty o.2]⟩)
/-- a plain value's bool -/
def theB : D → Res Bool
  | .bool b => .ok b
  | _ => .er

section
variable {X : Cx} {W : WX} {S : Sta}
theorem Sta.R.tm1 {c : Tm} {τ : List Tm} (R : S.R X.K) (e : S.τ = c :: τ) : Ob X.K S.Z S.H c.k c.d c.t ∧ Same S.Z S.H := by
  have R' : Rl X.K S.Z0 S.H0 S.Z S.H S.σ S.ρ S.ts S.τ := R
  exact ⟨(R'.tm c (by rw [e]; exact List.mem_cons_self)).1, R'.zh⟩
/-- back to the values under way of S -/
theorem Aft.back {S' : Sta} (a : Aft S S') : S'.put S'.Z S'.H S.τ = S.put S'.Z S'.H S.τ := by
  obtain ⟨h1, h2, h3, h4, h5, _⟩ := a
  cases S; cases S'
  simp only [Sta.put] at *
  subst h1; subst h2; subst h3; subst h4; subst h5
  rfl
theorem GoodT.end1 {Q : Bool → Hp → Prop} {b : Bool} {S' : Sta} {c : Tm} (g : GoodT X W S Q (.ok b)) (a : Aft S S') (e : S'.τ = c :: S.τ) (R : S'.R X.K) : Q b S'.H :=
  g (S'.put S'.Z S'.H S.τ) (a.put Step.refl) rfl (R.pop (X := X) e)
/-- a test of a value -/
def xTru (a : Rho → Res BV) : Rho → Res Bool := fun ρ => (a ρ).bind fun v => truth v.d
theorem st_val {e : Expr} {x : Rho → Res BV} (h : SE X W e x) (he : ∀ whole, isTrue e X.env whole = (do let v ← whole; standAt e.pos; holding [v] (truthy v))) : STs X W e (xTru x) := by
  intro S Q R g
  refine wT_of (pt_truth pe_w he) ?_
  refine h S _ R ?_
  unfold xTru at g
  cases q : x S.ρ with
  | er => rw [q] at g; exact g
  | rz c => rw [q] at g; exact g
  | ok v =>
    rw [q] at g
    have g : GoodT X W S Q (truth v.d) := g
    intro S1 t a1 e1 R1 f1
    cases q1 : truth v.d with
    | er => rw [q1] at g; exact g.elim
    | rz c => exact absurd q1 truth_rz
    | ok b =>
      rw [q1] at g
      obtain ⟨o, zh⟩ := R1.tm1 e1
      exact ⟨b, truth_ok zh o q1, g.end1 a1 e1 R1⟩
def xTb (a : Rho → Res BV) : Rho → Res Bool := fun ρ => (a ρ).bind fun v => theB v.d
/-- a bool as a test -/
theorem tb_go {e : Expr} {x : Rho → Res BV} (h : SE X W e x) {Q : Bool → Hp → Prop} (R : S.R X.K) (g : GoodT X W S Q (xTb x S.ρ)) : wE X e S.σ S.H fun v H' => ∃ k, v = .bl k ∧ Q k H' := by
  refine h S _ R ?_
  unfold xTb at g
  cases q : x S.ρ with
  | er => rw [q] at g; exact g
  | rz c => rw [q] at g; exact g
  | ok v =>
    rw [q] at g
    have g : GoodT X W S Q (theB v.d) := g
    intro S1 t a1 e1 R1 f1
    cases hd : v.d <;> rw [hd] at g <;> first | exact g.elim | skip
    exact ⟨_, rfl, GoodT.end1 g a1 e1 R1⟩
theorem st_cmp {o : CmpOp} {a b : Expr} {pos : Pos} {g : BV → BV → Res BV} {xa xb : Rho → Res BV} (ho : OpS X W (compareOp o) g) (hm : behindInMarks o b = false) (ha : SE X W a xa) (hb : SE X W b xb) : STs X W (.Compare a [o] [b] pos) (xTb (x2 g xa xb)) := by
  intro S Q R h
  refine wT_of (pt_cmpR opR_w pe_w pe_w hm) ?_
  -- the compare's value, then the bool
  have key : wE X a S.σ S.H (fun x H1 => wE X b S.σ H1 fun y H2 => wO X (compareOp o) x y H2 fun z H3 => ∃ k, z = .bl k ∧ Q k H3) := by
    refine two ha hb (Q := fun z H3 => ∃ k, z = .bl k ∧ Q k H3) R ?_ fun u v S2 t t' a2 e2 R2 f1 f2 g2 => ho S _ u v S2 t t' R a2 e2 R2 f1 f2 g2
    unfold xTb at h
    cases q : x2 g xa xb S.ρ with
    | er => rw [q] at h; exact h
    | rz c => rw [q] at h; exact h
    | ok v =>
      rw [q] at h
      have h : GoodT X W S Q (theB v.d) := h
      intro S1 t a1 e1 R1 f1
      cases hd : v.d <;> rw [hd] at h <;> first | exact h.elim | skip
      exact ⟨_, rfl, GoodT.end1 h a1 e1 R1⟩
  exact key
/-- a chain of two comparisons -/
def x3c (g g' : D → D → Res D) (a b c : Rho → Res BV) : Rho → Res BV := fun ρ => (a ρ).bind fun u => (b ρ).bind fun v => (g u.d v.d).bind fun d => (theB d).bind fun k =>
  if k = true then (c ρ).bind fun w => (g' v.d w.d).bind fun d => .ok ⟨false, none, d⟩ else .ok ⟨false, none, .bool false⟩
/-- a plain comparison: what it asks -/
def OpP (X : Cx) (f : Value → Value → Sem Value) (g : D → D → Res D) : Prop :=
  (∀ d e r, g d e = .ok r → scal r = true) ∧ (∀ d e c, g d e ≠ .rz c) ∧
    ∀ (d e r : D) (t t' : Tr) (Z H : Hp) (k k' : Lv) (Q : VK), g d e = .ok r → Same Z H → Ob X.K Z H k d t → Ob X.K Z H k' e t' → Q (valOf r t0) H → wO X f (valOf d t) (valOf e t') H Q
theorem OpP.ops {f : Value → Value → Sem Value} {g : D → D → Res D} (h : OpP X f g) : OpS X W f (pl g) := OpS.scal h.1 h.2.1 h.2.2
theorem opp_cmp {f : Value → Value → Sem Value} {p : Int → Int → Bool} (ho : OpR X f (rI0 fun i j => .bl (p i j))) : OpP X f (dCmp p) := by
  refine ⟨fun d e r q => ?_, fun d e c q => ?_, fun d e r t t' Z H k k' Q q zh o1 o2 hq => ?_⟩
  · cases d <;> cases e <;> cases q
    rfl
  · cases d <;> cases e <;> cases q
  · cases d <;> cases e <;> cases q
    exact wO_of ho ⟨_, _, rfl, rfl, hq⟩
theorem chain_go {o o' : CmpOp} {a b c : Expr} {g g' : D → D → Res D} {xa xb xc : Rho → Res BV} {Q : VK} (ho : OpP X (compareOp o) g) (ho' : OpP X (compareOp o') g') (ha : SE X W a xa) (hb : SE X W b xb) (hc : SE X W c xc) (R : S.R X.K) (h : GoodE X W S Q (x3c g g' xa xb xc S.ρ)) :
    tChain (wO X (compareOp o)) (wO X (compareOp o')) (wE X a) (wE X b) (wE X c) S.σ S.H Q := by
  refine two (f := fun u v => (g u.d v.d).bind fun d => (theB d).bind fun k => if k = true then (xc S.ρ).bind fun w => (g' v.d w.d).bind fun d => .ok ⟨false, none, d⟩ else .ok ⟨false, none, .bool false⟩) ha hb R h fun u v S2 t t' a2 e2 R2 f1 f2 g2 => ?_
  replace g2 : GoodE X W S Q ((g u.d v.d).bind fun d => (theB d).bind fun k => if k = true then (xc S.ρ).bind fun w => (g' v.d w.d).bind fun d => .ok ⟨false, none, d⟩ else .ok ⟨false, none, .bool false⟩) := g2
  cases q : g u.d v.d with
  | er => rw [q] at g2; exact g2.elim
  | rz c => exact absurd q (ho.2.1 _ _ _)
  | ok d =>
    rw [q] at g2
    replace g2 : GoodE X W S Q ((theB d).bind fun k => if k = true then (xc S.ρ).bind fun w => (g' v.d w.d).bind fun d => .ok ⟨false, none, d⟩ else .ok ⟨false, none, .bool false⟩) := g2
    cases d <;> first | exact g2.elim | skip
    rename_i k
    have R2' : Rl X.K S2.Z0 S2.H0 S2.Z S2.H S2.σ S2.ρ S2.ts S2.τ := R2
    have m1 := (R2'.tm ⟨v.b, v.k, v.d, t'⟩ (by rw [e2]; exact List.mem_cons_self)).1
    have m2 := (R2'.tm ⟨u.b, u.k, u.d, t⟩ (by rw [e2]; exact List.mem_cons_of_mem _ List.mem_cons_self)).1
    refine ho.2.2 u.d v.d _ t t' S2.Z S2.H u.k v.k _ q R2'.zh m2 m1 ⟨k, rfl, ?_⟩
    have R3 := R2.pop2 (X := X) e2
    rw [a2.back] at R3
    cases k with
    | false =>
      rw [if_neg (by simp)]
      exact GoodE.scal g2 rfl a2.st R3
    | true =>
      rw [if_pos rfl]
      have z : wE X c S2.σ S2.H fun w H4 => wO X (compareOp o') (valOf v.d t') w H4 Q := by
        refine hc S2 _ R2 ?_
        rw [a2.ρ]
        have g2 : GoodE X W S Q ((xc S.ρ).bind fun w => (g' v.d w.d).bind fun d => .ok ⟨false, none, d⟩) := g2
        cases q2 : xc S.ρ with
        | er => rw [q2] at g2; exact g2
        | rz cc =>
          rw [q2] at g2
          intro S4 a4 e4 R4
          exact g2 (S4.put S4.Z S4.H S.τ) ((a2.trans a4).put Step.refl) rfl (R4.pop2 (X := X) (e4.trans e2))
        | ok w =>
          rw [q2] at g2
          intro S4 t4 a4 e4 R4 f4
          have g2 : GoodE X W S Q ((g' v.d w.d).bind fun d => .ok ⟨false, none, d⟩) := g2
          cases q3 : g' v.d w.d with
          | er => rw [q3] at g2; exact g2.elim
          | rz c => exact absurd q3 (ho'.2.1 _ _ _)
          | ok d3 =>
            rw [q3] at g2
            have R4' : Rl X.K S4.Z0 S4.H0 S4.Z S4.H S4.σ S4.ρ S4.ts S4.τ := R4
            have n1 := (R4'.tm ⟨w.b, w.k, w.d, t4⟩ (by rw [e4]; exact List.mem_cons_self)).1
            have n2 := (R4'.tm ⟨v.b, v.k, v.d, t'⟩ (by rw [e4, e2]; exact List.mem_cons_of_mem _ List.mem_cons_self)).1
            refine ho'.2.2 v.d w.d d3 t' t4 S4.Z S4.H v.k w.k Q q3 R4'.zh n2 n1 ?_
            have a5 := a2.trans a4
            have e5 : S4.τ = ⟨w.b, w.k, w.d, t4⟩ :: ⟨v.b, v.k, v.d, t'⟩ :: ⟨u.b, u.k, u.d, t⟩ :: S.τ := e4.trans (by rw [e2])
            have R5 : (S.put S4.Z S4.H S.τ).R X.K := by
              rw [← a5.back]
              have R6 : Rl X.K S4.Z0 S4.H0 S4.Z S4.H S4.σ S4.ρ S4.ts S4.τ := R4
              rw [e5] at R6
              exact R6.pop.pop.pop
            exact GoodE.scal g2 (ho'.1 _ _ _ q3) a5.st R5
      rw [a2.σ] at z
      exact z
theorem se_chain {o o' : CmpOp} {a b c : Expr} {pos : Pos} {g g' : D → D → Res D} {xa xb xc : Rho → Res BV} (ho : OpP X (compareOp o) g) (ho' : OpP X (compareOp o') g') (hm : lastMarks [o, o'] [b, c] = false) (ha : SE X W a xa) (hb : SE X W b xb) (hc : SE X W c xc) :
    SE X W (.Compare a [o, o'] [b, c] pos) (x3c g g' xa xb xc) := fun S Q R h => wE_of (pe_chain opR_w opR_w pe_w pe_w pe_w hm) (chain_go ho ho' ha hb hc R h)
theorem st_chain {o o' : CmpOp} {a b c : Expr} {pos : Pos} {g g' : D → D → Res D} {xa xb xc : Rho → Res BV} (ho : OpP X (compareOp o) g) (ho' : OpP X (compareOp o') g') (hm : lastMarks [o, o'] [b, c] = false) (ha : SE X W a xa) (hb : SE X W b xb) (hc : SE X W c xc) :
    STs X W (.Compare a [o, o'] [b, c] pos) (xTb (x3c g g' xa xb xc)) := by
  intro S Q R h
  refine wT_of (pt_chain opR_w opR_w pe_w pe_w pe_w hm) ?_
  refine chain_go ho ho' ha hb hc (Q := fun z H3 => ∃ k, z = .bl k ∧ Q k H3) R ?_
  unfold xTb at h
  cases q : x3c g g' xa xb xc S.ρ with
  | er => rw [q] at h; exact h
  | rz c => rw [q] at h; exact h
  | ok v =>
    rw [q] at h
    have h : GoodT X W S Q (theB v.d) := h
    intro S1 t a1 e1 R1 f1
    cases hd : v.d <;> rw [hd] at h <;> first | exact h.elim | skip
    exact ⟨_, rfl, GoodT.end1 h a1 e1 R1⟩
theorem st_of_se {e : Expr} {x : Rho → Res BV} (h : SE X W e x) (hp : ∀ {σ : L2.St} {H : Hp} {Q : Bool → Hp → Prop}, wE X e σ H (fun v H' => ∃ k, v = .bl k ∧ Q k H') → wT X e σ H Q) : STs X W e (xTb x) := by
  intro S Q R g
  exact hp (tb_go h R g)

/-! ### and, or, not -/
def tAndX (a b : Rho → Res Bool) : Rho → Res Bool := fun ρ => (a ρ).bind fun c => if c = true then b ρ else .ok false
def tOrX (a b : Rho → Res Bool) : Rho → Res Bool := fun ρ => (a ρ).bind fun c => if c = true then .ok true else b ρ
def tNotX (a : Rho → Res Bool) : Rho → Res Bool := fun ρ => (a ρ).bind fun c => .ok (!c)
theorem GoodT.bind {Q : Bool → Hp → Prop} {r : Res Bool} {f : Bool → Res Bool} (g : GoodT X W S Q (r.bind f)) : GoodT X W S (fun b H => ∀ S' : Sta, Aft S S' → S'.τ = S.τ → S'.R X.K → S'.H = H → GoodT X W S Q (f b) ) r := by
  cases r with
  | er => exact g
  | rz c => exact g
  | ok b => exact fun S' a e R S2 _ _ _ _ => g
/-- a test, then what hangs on it -/
theorem testing {e : Expr} {x : Rho → Res Bool} (h : STs X W e x) {f : Bool → Res Bool} {Q Q' : Bool → Hp → Prop} (R : S.R X.K) (g : GoodT X W S Q ((x S.ρ).bind f))
    (k : ∀ (b : Bool) (S1 : Sta), Aft S S1 → S1.τ = S.τ → S1.R X.K → GoodT X W S Q (f b) → Q' b S1.H) : wT X e S.σ S.H Q' := by
  refine h S Q' R ?_
  cases q : x S.ρ with
  | er => rw [q] at g; exact g
  | rz c => rw [q] at g; exact g
  | ok b =>
    rw [q] at g
    exact fun S1 a1 e1 R1 => k b S1 a1 e1 R1 g
theorem GoodT.later {Q : Bool → Hp → Prop} {r : Res Bool} {S1 : Sta} (g : GoodT X W S Q r) (a : Aft S S1) (e : S1.τ = S.τ) : GoodT X W S1 Q r := by
  cases r with
  | ok b => exact fun S2 a2 e2 R2 => g S2 (a.trans a2) (e2.trans e) R2
  | rz c => exact fun S2 a2 e2 R2 => g S2 (a.trans a2) (e2.trans e) R2
  | er => exact g
theorem sw_and1 {a : Expr} {pos : Pos} {xa : Rho → Res Bool} (ha : STs X W a xa) : SW X W (.BoolOp .And [a] pos) xa := by
  intro S Q R g
  exact wW_of (pw_and1 pt_w) (ha S Q R g)
theorem sw_or1 {a : Expr} {pos : Pos} {xa : Rho → Res Bool} (ha : STs X W a xa) : SW X W (.BoolOp .Or [a] pos) xa := by
  intro S Q R g
  exact wW_of (pw_or1 pt_w) (ha S Q R g)
theorem sw_and {a b : Expr} {es : List Expr} {pos : Pos} {xa xb : Rho → Res Bool} (ha : STs X W a xa) (hb : SW X W (.BoolOp .And (b :: es) pos) xb) : SW X W (.BoolOp .And (a :: b :: es) pos) (tAndX xa xb) := by
  intro S Q R g
  refine wW_of (pw_and pt_w pw_w) (testing ha R g fun c S1 a1 e1 R1 g1 => ?_)
  cases c with
  | true =>
    rw [if_pos rfl]
    have z := hb S1 Q R1 (by rw [a1.ρ]; exact GoodT.later g1 a1 e1)
    rw [a1.σ] at z
    exact z
  | false =>
    rw [if_neg (by simp)]
    exact g1 S1 a1 e1 R1
theorem sw_or {a b : Expr} {es : List Expr} {pos : Pos} {xa xb : Rho → Res Bool} (ha : STs X W a xa) (hb : SW X W (.BoolOp .Or (b :: es) pos) xb) : SW X W (.BoolOp .Or (a :: b :: es) pos) (tOrX xa xb) := by
  intro S Q R g
  refine wW_of (pw_or pt_w pw_w) (testing ha R g fun c S1 a1 e1 R1 g1 => ?_)
  cases c with
  | true =>
    rw [if_pos rfl]
    exact g1 S1 a1 e1 R1
  | false =>
    rw [if_neg (by simp)]
    have z := hb S1 Q R1 (by rw [a1.ρ]; exact GoodT.later g1 a1 e1)
    rw [a1.σ] at z
    exact z
theorem st_bool {o : BoolOp} {es : List Expr} {pos : Pos} {x : Rho → Res Bool} (h : SW X W (.BoolOp o es pos) x) : STs X W (.BoolOp o es pos) x := by
  intro S Q R g
  exact wT_of pw_w.pt (h S Q R g)
theorem st_not {a : Expr} {pos : Pos} {xa : Rho → Res Bool} (ha : STs X W a xa) : STs X W (.UnaryOp .Not a pos) (tNotX xa) := by
  intro S Q R g
  exact wT_of (pt_not pt_w) (testing ha R g fun c S1 a1 e1 R1 g1 => g1 S1 a1 e1 R1)
/-- a test as a value: what is a bool -/
def vOf (a : Rho → Res Bool) : Rho → Res BV := fun ρ => (a ρ).bind fun b => .ok ⟨false, none, .bool b⟩
def xAndV (a b : Rho → Res BV) : Rho → Res BV := fun ρ => (a ρ).bind fun u => (theB u.d).bind fun c => if c = true then b ρ else .ok ⟨false, none, .bool false⟩
def xOrV (a b : Rho → Res BV) : Rho → Res BV := fun ρ => (a ρ).bind fun u => (theB u.d).bind fun c => if c = true then .ok ⟨false, none, .bool true⟩ else b ρ
def xNotV (a : Rho → Res BV) : Rho → Res BV := fun ρ => (a ρ).bind fun u => (theB u.d).bind fun c => .ok ⟨false, none, .bool (!c)⟩
theorem se_one {o : BoolOp} {a : Expr} {pos : Pos} {xa : Rho → Res BV} (ha : SE X W a xa) : SE X W (.BoolOp o [a] pos) xa := by
  intro S Q R g
  exact wE_of (pe_one pe_w) (ha S Q R g)
/-- a bool, then what hangs on it -/
theorem booling {e : Expr} {x : Rho → Res BV} (h : SE X W e x) {f : Bool → Res BV} {Q Q' : VK} (R : S.R X.K) (g : GoodE X W S Q ((x S.ρ).bind fun u => (theB u.d).bind f))
    (k : ∀ (b : Bool) (S1 : Sta), Aft S S1 → S1.τ = S.τ → S1.R X.K → GoodE X W S Q (f b) → Q' (.bl b) S1.H) : wE X e S.σ S.H Q' := by
  refine one h R g fun u S1 t a1 e1 R1 f1 g1 => ?_
  cases hd : u.d <;> rw [hd] at g1 <;> first | exact g1.elim | skip
  exact k _ (S1.put S1.Z S1.H S.τ) (a1.put Step.refl) rfl (R1.pop (X := X) e1) g1
theorem se_and {a b : Expr} {es : List Expr} {pos : Pos} {xa xb : Rho → Res BV} (ha : SE X W a xa) (hb : SE X W (.BoolOp .And (b :: es) pos) xb) : SE X W (.BoolOp .And (a :: b :: es) pos) (xAndV xa xb) := by
  intro S Q R g
  refine wE_of (pe_and pe_w pe_w) (booling ha R g fun c S1 a1 e1 R1 g1 => ⟨c, rfl, ?_⟩)
  cases c with
  | true =>
    rw [if_pos rfl]
    have z := hb S1 Q R1 (by rw [a1.ρ]; exact GoodE.later (c := ⟨true, none, .none, t0⟩) g1 a1 e1)
    rw [a1.σ] at z
    exact z
  | false =>
    rw [if_neg (by simp)]
    have R2 := R1
    rw [show S1 = S1.put S1.Z S1.H S.τ by cases S1; simp only [Sta.put] at *; subst e1; rfl, a1.back] at R2
    exact GoodE.scal g1 rfl a1.st R2
theorem se_or {a b : Expr} {es : List Expr} {pos : Pos} {xa xb : Rho → Res BV} (ha : SE X W a xa) (hb : SE X W (.BoolOp .Or (b :: es) pos) xb) : SE X W (.BoolOp .Or (a :: b :: es) pos) (xOrV xa xb) := by
  intro S Q R g
  refine wE_of (pe_or pe_w pe_w) (booling ha R g fun c S1 a1 e1 R1 g1 => ⟨c, rfl, ?_⟩)
  cases c with
  | false =>
    rw [if_neg (by simp)]
    have z := hb S1 Q R1 (by rw [a1.ρ]; exact GoodE.later (c := ⟨true, none, .none, t0⟩) g1 a1 e1)
    rw [a1.σ] at z
    exact z
  | true =>
    rw [if_pos rfl]
    have R2 := R1
    rw [show S1 = S1.put S1.Z S1.H S.τ by cases S1; simp only [Sta.put] at *; subst e1; rfl, a1.back] at R2
    exact GoodE.scal g1 rfl a1.st R2
theorem se_not {a : Expr} {pos : Pos} {xa : Rho → Res BV} (ha : SE X W a xa) : SE X W (.UnaryOp .Not a pos) (xNotV xa) := by
  intro S Q R g
  refine wE_of (pe_not pe_w) (booling ha R g fun c S1 a1 e1 R1 g1 => ⟨c, rfl, ?_⟩)
  have R2 := R1
  rw [show S1 = S1.put S1.Z S1.H S.τ by cases S1; simp only [Sta.put] at *; subst e1; rfl, a1.back] at R2
  exact GoodE.scal g1 rfl a1.st R2
/-- a if c else b -/
def xIte (c : Rho → Res Bool) (a b : Rho → Res BV) : Rho → Res BV := fun ρ => (c ρ).bind fun k => if k = true then a ρ else b ρ
def tIteX (c a b : Rho → Res Bool) : Rho → Res Bool := fun ρ => (c ρ).bind fun k => if k = true then a ρ else b ρ
theorem testE {e : Expr} {x : Rho → Res Bool} (h : STs X W e x) {f : Bool → Res BV} {Q : VK} {Q' : Bool → Hp → Prop} (R : S.R X.K) (g : GoodE X W S Q ((x S.ρ).bind f))
    (k : ∀ (b : Bool) (S1 : Sta), Aft S S1 → S1.τ = S.τ → S1.R X.K → GoodE X W S Q (f b) → Q' b S1.H) : wT X e S.σ S.H Q' := by
  refine h S Q' R ?_
  cases q : x S.ρ with
  | er => rw [q] at g; exact g
  | rz c => rw [q] at g; exact g
  | ok b =>
    rw [q] at g
    exact fun S1 a1 e1 R1 => k b S1 a1 e1 R1 g
theorem se_ite {c a b : Expr} {pos : Pos} {xc : Rho → Res Bool} {xa xb : Rho → Res BV} (hc : STs X W c xc) (ha : SE X W a xa) (hb : SE X W b xb) : SE X W (.IfExp c a b pos) (xIte xc xa xb) := by
  intro S Q R g
  refine wE_of (pe_ifExp pt_w pe_w pe_w) (testE hc R g fun k S1 a1 e1 R1 g1 => ?_)
  cases k with
  | true =>
    rw [if_pos rfl]
    have z := ha S1 Q R1 (by rw [a1.ρ]; exact GoodE.later (c := ⟨true, none, .none, t0⟩) g1 a1 e1)
    rw [a1.σ] at z
    exact z
  | false =>
    rw [if_neg (by simp)]
    have z := hb S1 Q R1 (by rw [a1.ρ]; exact GoodE.later (c := ⟨true, none, .none, t0⟩) g1 a1 e1)
    rw [a1.σ] at z
    exact z
theorem st_ite {c a b : Expr} {pos : Pos} {xc xa xb : Rho → Res Bool} (hc : STs X W c xc) (ha : STs X W a xa) (hb : STs X W b xb) : STs X W (.IfExp c a b pos) (tIteX xc xa xb) := by
  intro S Q R g pins s I
  have e : ∀ whole, isTrue (.IfExp c a b pos) X.env whole = (do if ← isTrue c X.env (eval c X.env) then isTrue a X.env (eval a X.env) else isTrue b X.env (eval b X.env)) := fun _ => rfl
  rw [e]
  refine wpAny_bind (thn (testing (Q' := fun k H1 => if k = true then wT X a S.σ H1 Q else wT X b S.σ H1 Q) hc R g (fun k S1 a1 e1 R1 g1 => ?_) pins s I) fun k s1 ⟨H1, I1, q1⟩ => ?_)
  · cases k with
    | true =>
      rw [if_pos rfl]
      have z := ha S1 Q R1 (by rw [a1.ρ]; exact GoodT.later g1 a1 e1)
      rw [a1.σ] at z
      exact z
    | false =>
      rw [if_neg (by simp)]
      have z := hb S1 Q R1 (by rw [a1.ρ]; exact GoodT.later g1 a1 e1)
      rw [a1.σ] at z
      exact z
  · cases k with
    | true => exact q1 pins s1 I1
    | false => exact q1 pins s1 I1
/-! ### one operand -/
def dNeg : D → Res D
  | .int i => .ok (.int (-i))
  | _ => .er
def p1 (g : D → Res D) : BV → Res BV := fun u => (g u.d).bind fun d => .ok ⟨false, none, d⟩
theorem se_neg {a : Expr} {pos : Pos} {xa : Rho → Res BV} (ha : SE X W a xa) : SE X W (.UnaryOp .USub a pos) (x1 (p1 dNeg) xa) := by
  intro S Q R g
  refine wE_of (pe_un un_neg pe_w) (one ha R g fun u S1 t a1 e1 R1 f1 g1 => ?_)
  unfold p1 at g1
  cases hd : u.d <;> rw [hd] at g1 <;> first | exact g1.elim | skip
  refine ⟨_, rfl, ?_⟩
  have R2 := R1.pop (X := X) e1
  rw [a1.back] at R2
  exact GoodE.scal g1 rfl a1.st R2
end
end Ev

set_option Elab.async false
set_option linter.all false
set_option maxRecDepth 100000
namespace Ev
open PySem PySem.Spec PyProof.Rows L2

/-! ### argument lists and displays -/
/-- how a value is handed on: to a call (fr: its own objects are shared), into a display -/
def settle (fr : Bool) (v : BV) : Res BV :=
  if flat v.d = true then .ok ⟨false, none, v.d⟩
  else if v.b = true then (if fr = true ∨ v.k = some 0 then .ok v else .er)
  else if fr = false ∧ v.k = none then .ok v else .ok ⟨false, some 0, v.d⟩
def evA (fr : Bool) : List (Rho → Res BV) → Rho → Res (List BV)
  | [], _ => .ok []
  | x :: xs, ρ => (x ρ).bind fun v => (settle fr v).bind fun v => (evA fr xs ρ).bind fun vs => .ok (v :: vs)
def stk : List BV → List Tr → List Tm
  | v :: vs, t :: ts => stk vs ts ++ [⟨v.b, v.k, v.d, t⟩]
  | _, _ => []
def valsB : List BV → List Tr → List V
  | v :: vs, t :: ts => valOf v.d t :: valsB vs ts
  | _, _ => []
def GoodA (X : Cx) (W : WX) (S : Sta) (Q : List V → Hp → Prop) : Res (List BV) → Prop
  | .ok vs => ∀ (S' : Sta) (tr : List Tr), Aft S S' → tr.length = vs.length → S'.τ = stk vs tr ++ S.τ → S'.R X.K → (∀ a ∈ ownT (stk vs tr), S.H a = none) → Q (valsB vs tr) S'.H
  | .rz c => ∀ S' : Sta, Aft S S' → S'.τ = S.τ → S'.R X.K → Raised X W c S'.σ S'.H
  | .er => False
def SA (X : Cx) (W : WX) (fr : Bool) (es : List Expr) (xs : List (Rho → Res BV)) : Prop := ∀ (S : Sta) (Q : List V → Hp → Prop), S.R X.K → GoodA X W S Q (evA fr xs S.ρ) → wA X es S.σ S.H Q
section
variable {X : Cx} {W : WX} {S : Sta} {fr : Bool}
theorem settle_ok {v v' : BV} (h : settle fr v = .ok v') : v'.d = v.d := by
  unfold settle at h
  split at h
  · cases h; rfl
  · split at h
    · split at h <;> cases h
      rfl
    · split at h <;> cases h <;> rfl
/-- what is true of a value that is handed on -/
def Setd (fr : Bool) (v : BV) : Prop := (fr = true → v.b = false → flat v.d = true ∨ v.k = some 0) ∧ (fr = false → (v.b = true → v.k = some 0) ∧ (v.b = false → v.k = none ∨ v.k = some 0))
/-- the value on top is handed on -/
theorem settle_go {v v' : BV} {S1 : Sta} {t : Tr} {τ : List Tm} (h : settle fr v = .ok v') (R : S1.R X.K) (e : S1.τ = ⟨v.b, v.k, v.d, t⟩ :: τ) (f : Fresh S v t) (a : Aft S S1) :
    ∃ S2 : Sta, Aft S S2 ∧ S2.H = S1.H ∧ S2.R X.K ∧ S2.τ = ⟨v'.b, v'.k, v'.d, t⟩ :: τ ∧ Fresh S v' t ∧ Setd fr v' := by
  have R1 : Rl X.K S1.Z0 S1.H0 S1.Z S1.H S1.σ S1.ρ S1.ts S1.τ := R
  rw [e] at R1
  unfold settle at h
  split at h
  · rename_i hf
    cases h
    have o := (R1.tm _ List.mem_cons_self).1
    refine ⟨S1.put S1.Z S1.H (⟨false, none, v.d, t⟩ :: τ), a.put Step.refl, rfl, ?_, rfl, fun _ x m => ?_, fun _ _ => .inl hf, fun _ => ⟨(fun q => Bool.noConfusion q), fun _ => .inl rfl⟩⟩
    · exact R1.pop.push0 (flat_ob v.d v.k none t hf o) (flat_own v.d none t hf)
    · have m : x ∈ own none v.d t := m
      rw [flat_own v.d none t hf] at m
      cases m
  · split at h
    · rename_i hb
      split at h <;> cases h
      rename_i hk
      refine ⟨S1, a, rfl, R, e, f, fun _ q => ?_, fun q => ⟨fun _ => ?_, fun q2 => ?_⟩⟩
      · rw [hb] at q; cases q
      · rcases hk with hk | hk
        · rw [q] at hk; cases hk
        · exact hk
      · rw [hb] at q2; cases q2
    · rename_i hb
      have hb' : v.b = false := by simpa using hb
      split at h <;> cases h
      · rename_i hk
        exact ⟨S1, a, rfl, R, e, f, fun q => absurd q (by rw [hk.1]; simp), fun _ => ⟨fun q => absurd q hb, fun _ => .inl hk.2⟩⟩
      · have R2 := Rl.frz (cs := []) (c := ⟨v.b, v.k, v.d, t⟩) R1 hb'
        have oz : ∀ x ∈ own v.k v.d t, S1.Z x = none := fun x m => (Ob.own v.d v.k t (R1.tm _ List.mem_cons_self).1 x m).1
        have key : Step S.Z S.H (frzZ S1.Z S1.H (own v.k v.d t)) S1.H := frz_step a.st (f hb') oz
        refine ⟨S1.put (frzZ S1.Z S1.H (own v.k v.d t)) S1.H (⟨false, some 0, v.d, t⟩ :: τ), ⟨a.z0, a.h0, a.σ, a.ρ, a.ts, key⟩, rfl, R2, rfl, fun _ x m => ?_, fun _ _ => .inr rfl, fun _ => ⟨(fun q => Bool.noConfusion q), fun _ => .inr rfl⟩⟩
        have m : x ∈ own (some 0) v.d t := m
        rw [own_zero] at m
        cases m
theorem stk_cons (v : BV) (vs : List BV) (t : Tr) (tr : List Tr) : stk (v :: vs) (t :: tr) = stk vs tr ++ [⟨v.b, v.k, v.d, t⟩] := rfl
theorem evA_setd : ∀ {xs : List (Rho → Res BV)} {ρ : Rho} {vs : List BV}, evA fr xs ρ = .ok vs → ∀ v ∈ vs, ∃ u, settle fr u = .ok v
  | [], _, _, h => by
    cases h
    intro v hv
    cases hv
  | x :: xs, ρ, vs, h => by
    unfold evA at h
    cases q : x ρ with
    | er => rw [q] at h; cases h
    | rz c => rw [q] at h; cases h
    | ok v =>
      rw [q] at h
      replace h : (settle fr v).bind (fun v => (evA fr xs ρ).bind fun vs => .ok (v :: vs)) = .ok vs := h
      cases q2 : settle fr v with
      | er => rw [q2] at h; cases h
      | rz c => rw [q2] at h; cases h
      | ok v' =>
        rw [q2] at h
        replace h : (evA fr xs ρ).bind (fun vs => .ok (v' :: vs)) = .ok vs := h
        cases q3 : evA fr xs ρ with
        | er => rw [q3] at h; cases h
        | rz c => rw [q3] at h; cases h
        | ok vs' =>
          rw [q3] at h
          cases h
          intro w hw
          rcases List.mem_cons.mp hw with e | hw
          · exact ⟨v, by rw [q2, e]⟩
          · exact evA_setd q3 w hw
theorem settle_setd {v v' : BV} (h : settle fr v = .ok v') : Setd fr v' := by
  unfold settle at h
  split at h
  · rename_i hf
    cases h
    exact ⟨fun _ _ => .inl hf, fun _ => ⟨(fun q => Bool.noConfusion q), fun _ => .inl rfl⟩⟩
  · split at h
    · rename_i hb
      split at h <;> cases h
      rename_i hk
      refine ⟨fun _ q => ?_, fun q => ⟨fun _ => ?_, fun q2 => ?_⟩⟩
      · rw [hb] at q; cases q
      · rcases hk with hk | hk
        · rw [q] at hk; cases hk
        · exact hk
      · rw [hb] at q2; cases q2
    · rename_i hb
      split at h <;> cases h
      · rename_i hk
        exact ⟨fun q => absurd q (by rw [hk.1]; simp), fun _ => ⟨fun q => absurd q hb, fun _ => .inl hk.2⟩⟩
      · exact ⟨fun _ _ => .inr rfl, fun _ => ⟨(fun q => Bool.noConfusion q), fun _ => .inr rfl⟩⟩
theorem evA_len : ∀ {xs : List (Rho → Res BV)} {ρ : Rho} {vs : List BV}, evA fr xs ρ = .ok vs → vs.length = xs.length
  | [], _, _, h => by cases h; rfl
  | x :: xs, ρ, vs, h => by
    unfold evA at h
    cases q : x ρ with
    | er => rw [q] at h; cases h
    | rz c => rw [q] at h; cases h
    | ok v =>
      rw [q] at h
      replace h : (settle fr v).bind (fun v => (evA fr xs ρ).bind fun vs => .ok (v :: vs)) = .ok vs := h
      cases q2 : settle fr v with
      | er => rw [q2] at h; cases h
      | rz c => rw [q2] at h; cases h
      | ok v' =>
        rw [q2] at h
        replace h : (evA fr xs ρ).bind (fun vs => .ok (v' :: vs)) = .ok vs := h
        cases q3 : evA fr xs ρ with
        | er => rw [q3] at h; cases h
        | rz c => rw [q3] at h; cases h
        | ok vs' =>
          rw [q3] at h
          cases h
          show vs'.length + 1 = xs.length + 1
          rw [evA_len q3]
theorem sa_nil : SA X W fr [] [] := by
  intro S Q R g
  exact wA_of pa_nil (g S [] Aft.refl rfl rfl R fun a m => by cases m)
theorem GoodA.rz {Q : List V → Hp → Prop} {c : Str} {S1 : Sta} {τ : List Tm} (g : GoodA X W S Q (.rz c)) (a : Aft S S1) (e : S1.τ = τ ++ S.τ) (R : S1.R X.K) : Raised X W c S1.σ S1.H := by
  refine g (S1.put S1.Z S1.H S.τ) (a.put Step.refl) rfl ?_
  have R1 : Rl X.K S1.Z0 S1.H0 S1.Z S1.H S1.σ S1.ρ S1.ts S1.τ := R
  rw [e] at R1
  refine Rl.perm R1 (fun c h => List.mem_append_right _ h) ?_
  have n := R1.nd
  rw [ownT_app, ← List.append_assoc] at n
  exact (List.nodup_append.mp n).2.1
theorem sa_cons {e : Expr} {es : List Expr} {x : Rho → Res BV} {xs : List (Rho → Res BV)} (he : SE X W e x) (hes : SA X W fr es xs) (hs : starEach (e :: es) X.env = (false, eval e X.env) :: starEach es X.env) : SA X W fr (e :: es) (x :: xs) := by
  intro S Q R g
  refine wA_of (pa_cons pe_w pa_w hs) ?_
  show wE X e S.σ S.H fun y H1 => wA X es S.σ H1 fun ys H2 => Q (y :: ys) H2
  unfold evA at g
  refine he S _ R ?_
  cases q : x S.ρ with
  | er => rw [q] at g; exact g
  | rz c => rw [q] at g; exact g
  | ok v =>
    rw [q] at g
    replace g : GoodA X W S Q ((settle fr v).bind fun v => (evA fr xs S.ρ).bind fun vs => .ok (v :: vs)) := g
    intro S1 t a1 e1 R1 f1
    cases q2 : settle fr v with
    | er => rw [q2] at g; exact g.elim
    | rz c =>
      exfalso
      unfold settle at q2
      split at q2
      · cases q2
      · split at q2
        · split at q2 <;> cases q2
        · split at q2 <;> cases q2
    | ok v' =>
      rw [q2] at g
      replace g : GoodA X W S Q ((evA fr xs S.ρ).bind fun vs => .ok (v' :: vs)) := g
      obtain ⟨S2, a2, h2, R2, e2, f2, _⟩ := settle_go q2 R1 e1 f1 a1
      rw [← h2, ← settle_ok q2]
      have z : wA X es S2.σ S2.H fun ys H2 => Q (valOf v'.d t :: ys) H2 := by
        refine hes S2 _ R2 ?_
        rw [a2.ρ]
        cases q3 : evA fr xs S.ρ with
        | er => rw [q3] at g; exact g
        | rz c =>
          rw [q3] at g
          intro S3 a3 e3 R3
          exact GoodA.rz (c := c) g (a2.trans a3) (τ := [⟨v'.b, v'.k, v'.d, t⟩]) (by rw [e3, e2]; rfl) R3
        | ok vs =>
          rw [q3] at g
          intro S3 tr a3 l3 e3 R3 f3
          refine g S3 (t :: tr) (a2.trans a3) (by simp [l3]) (by rw [stk_cons, e3, e2, List.append_assoc]; rfl) R3 fun a m => ?_
          rw [stk_cons, ownT_app] at m
          rcases List.mem_append.mp m with m | m
          · exact a2.st.hh.free (f3 a m)
          · simp only [ownT, List.append_nil] at m
            cases hb : v'.b with
            | true => rw [hb] at m; simp at m
            | false =>
              rw [hb] at m
              exact f2 hb a (by simpa using m)
      rw [a2.σ] at z
      exact z
/-! ### what the values of an argument list are together -/
def dsB : List BV → List D := fun vs => vs.map (·.d)
theorem valsB_of : ∀ (vs : List BV) (tr : List Tr), valsB vs tr = valsOf (dsB vs) tr
  | [], tr => by cases tr <;> rfl
  | v :: vs, [] => rfl
  | v :: vs, t :: tr => by
    show valOf v.d t :: valsB vs tr = valOf v.d t :: valsOf (dsB vs) tr
    rw [valsB_of vs tr]
theorem valsB_length : ∀ {vs : List BV} {tr : List Tr}, tr.length = vs.length → (valsB vs tr).length = vs.length
  | [], tr, _ => by cases tr <;> rfl
  | v :: vs, [], h => by simp at h
  | v :: vs, t :: tr, h => by
    show (valsB vs tr).length + 1 = vs.length + 1
    rw [valsB_length (by simpa using h)]
theorem stk_mem : ∀ {vs : List BV} {tr : List Tr} {c : Tm}, c ∈ stk vs tr → ∃ v t, v ∈ vs ∧ c = ⟨v.b, v.k, v.d, t⟩
  | [], tr, c, h => by cases tr <;> cases h
  | v :: vs, [], c, h => by cases h
  | v :: vs, t :: tr, c, h => by
    rw [stk_cons] at h
    rcases List.mem_append.mp h with h | h
    · obtain ⟨w, u, hw, e⟩ := stk_mem h
      exact ⟨w, u, List.mem_cons_of_mem _ hw, e⟩
    · exact ⟨v, t, List.mem_cons_self, List.mem_singleton.mp h⟩
/-- all of level k -/
def lvAll (k : Lv) (vs : List BV) : Prop := ∀ v ∈ vs, v.k = k ∨ flat v.d = true
theorem stk_obs {Z H : Hp} {k : Lv} : ∀ {vs : List BV} {tr : List Tr}, tr.length = vs.length → lvAll k vs → (∀ c ∈ stk vs tr, Ob X.K Z H c.k c.d c.t) → Obs X.K Z H k (dsB vs) tr
  | [], [], _, _, _ => by simp [dsB, Obs]
  | [], _ :: _, h, _, _ => by simp at h
  | v :: vs, [], h, _, _ => by simp at h
  | v :: vs, t :: tr, h, hl, hc => by
    rw [stk_cons] at hc
    have o := hc ⟨v.b, v.k, v.d, t⟩ (List.mem_append_right _ (by simp))
    show Obs X.K Z H k (v.d :: dsB vs) (t :: tr)
    simp only [Obs]
    refine ⟨?_, stk_obs (by simpa using h) (fun w hw => hl w (List.mem_cons_of_mem _ hw)) fun c h => hc c (List.mem_append_left _ h)⟩
    rcases hl v List.mem_cons_self with e | e
    · rw [← e]; exact o
    · exact flat_ob v.d v.k k t e o
theorem owns_perm {k : Lv} : ∀ {vs : List BV} {tr : List Tr}, tr.length = vs.length → (∀ v ∈ vs, (v.k = k ∧ v.b = false) ∨ flat v.d = true) → (ownT (stk vs tr)).Perm (owns k (dsB vs) tr)
  | [], [], _, _ => by simp [dsB, owns, stk, ownT]
  | [], _ :: _, h, _ => by simp at h
  | v :: vs, [], h, _ => by simp at h
  | v :: vs, t :: tr, h, hl => by
    rw [stk_cons, ownT_app]
    show (ownT (stk vs tr) ++ ownT [⟨v.b, v.k, v.d, t⟩]).Perm (owns k (v.d :: dsB vs) (t :: tr))
    simp only [owns]
    refine List.Perm.trans List.perm_append_comm (List.Perm.append (List.Perm.of_eq ?_) (owns_perm (by simpa using h) fun w hw => hl w (List.mem_cons_of_mem _ hw)))
    simp only [ownT, List.append_nil]
    rcases hl v List.mem_cons_self with ⟨e, hb⟩ | e
    · rw [hb, ← e]; rfl
    · rw [flat_own v.d v.k t e, flat_own v.d k t e]
      split <;> rfl
/-- the level of a display's items -/
def dispLv (vs : List BV) : Res Lv := if (vs.all fun v => (v.k == none && !v.b) || flat v.d) = true then .ok none else if (vs.all fun v => v.k == some 0 || flat v.d) = true then .ok (some 0) else .er
def mkTup (vs : List BV) : Res BV := (dispLv vs).bind fun k => .ok ⟨false, k, .tuple (dsB vs)⟩
def mkLst (vs : List BV) : Res BV := (dispLv vs).bind fun k => .ok ⟨false, sc k, .list (dsB vs)⟩
def xA (fr : Bool) (f : List BV → Res BV) (xs : List (Rho → Res BV)) : Rho → Res BV := fun ρ => (evA fr xs ρ).bind f
theorem pd_sc (k : Lv) : pd (sc k) = k := by cases k <;> rfl
theorem sc_ne (k : Lv) : sc k ≠ some 0 := by cases k <;> simp [sc]
theorem disp_ok {vs : List BV} {k : Lv} (h : dispLv vs = .ok k) : lvAll k vs ∧ ((∀ v ∈ vs, (v.k = k ∧ v.b = false) ∨ flat v.d = true) ∨ k = some 0) := by
  unfold dispLv at h
  split at h
  · rename_i q
    cases h
    rw [List.all_eq_true] at q
    have q' : ∀ v ∈ vs, (v.k = none ∧ v.b = false) ∨ flat v.d = true := fun v hv => by
      have := q v hv
      simpa [Bool.or_eq_true, Bool.and_eq_true] using this
    exact ⟨fun v hv => (q' v hv).elim (fun z => .inl z.1) .inr, .inl q'⟩
  · split at h <;> cases h
    rename_i q
    rw [List.all_eq_true] at q
    exact ⟨fun v hv => by have := q v hv; simpa [Bool.or_eq_true] using this, .inr rfl⟩
theorem disp_rz {vs : List BV} {c : Str} : dispLv vs ≠ .rz c := by
  intro h
  unfold dispLv at h
  split at h
  · cases h
  · split at h <;> cases h
theorem disp_own {vs : List BV} {k : Lv} {tr : List Tr} (h : dispLv vs = .ok k) (hl : tr.length = vs.length) (n : (ownT (stk vs tr)).Nodup) : (owns k (dsB vs) tr).Nodup ∧ ∀ a ∈ owns k (dsB vs) tr, a ∈ ownT (stk vs tr) := by
  rcases (disp_ok h).2 with q | q
  · have p := owns_perm hl q
    exact ⟨(p.nodup_iff).mp n, fun a m => p.mem_iff.mpr m⟩
  · subst q
    rw [owns_zero]
    exact ⟨List.Pairwise.nil, fun a m => by cases m⟩
theorem Sta.R.stk {cs τ : List Tm} (R : S.R X.K) (e : S.τ = cs ++ τ) : Rl X.K S.Z0 S.H0 S.Z S.H S.σ S.ρ S.ts (cs ++ τ) := by
  have R1 : Rl X.K S.Z0 S.H0 S.Z S.H S.σ S.ρ S.ts S.τ := R
  rw [e] at R1
  exact R1
theorem rl_nd {K : PySem.W.Frag} {Z0 H0 Z H : Hp} {σ : L2.St} {ρ : Rho} {ts : List Tr} {cs τ : List Tm} (R : Rl K Z0 H0 Z H σ ρ ts (cs ++ τ)) : (ownT cs).Nodup := by
  have n := R.nd
  rw [ownT_app] at n
  exact (List.nodup_append.mp (List.nodup_append.mp n).2.1).1
/-- the end with a new object made of the values under way -/
theorem GoodE.made {Q : VK} {S2 : Sta} {cs : List Tm} {k : Lv} {d : D} {t : Tr} {p : Addr} {o : HO} {Z' : Hp} (g : GoodE X W S Q (.ok ⟨false, k, d⟩)) (a2 : Aft S S2) (e2 : S2.τ = cs ++ S.τ) (R2 : S2.R X.K)
    (f2 : ∀ a ∈ ownT cs, S.H a = none) (hp : S2.H p = none) (hz : Z' = S2.Z ∨ Z' = upd S2.Z p o) (ob : Ob X.K Z' (upd S2.H p o) k d t) (hd : (own k d t).Nodup) (hs : ∀ a ∈ own k d t, (a = p ∧ Z' = S2.Z) ∨ a ∈ ownT cs) : Q (valOf d t) (upd S2.H p o) := by
  have R3 := Rl.wrap (R2.stk e2) hp hz ob hd hs
  have zp : S2.Z p = none := by
    have R2' : Rl X.K S2.Z0 S2.H0 S2.Z S2.H S2.σ S2.ρ S2.ts S2.τ := R2
    exact R2'.zh.free hp
  refine g (S2.put Z' (upd S2.H p o) (⟨false, k, d, t⟩ :: S.τ)) t (a2.trans (Sta.aft_put ⟨fun b u e => ?_, fun b u e => ?_, fun b u e => ?_⟩)) rfl R3 fun _ a m => ?_
  · rcases hz with h | h
    · rw [h]; exact e
    · rw [h, upd_ne (ne_of_none e zp)]; exact e
  · rw [upd_ne (ne_of_none e hp)]; exact e
  · rcases hz with h | h
    · rw [h] at e; exact .inl e
    · rw [h] at e
      by_cases q : b = p
      · subst q; exact .inr hp
      · rw [upd_ne q] at e; exact .inl e
  · rcases hs a m with ⟨e, _⟩ | h
    · rw [e]; exact a2.st.hh.free hp
    · exact f2 a h
theorem SA.go {es : List Expr} {xs : List (Rho → Res BV)} (h : SA X W fr es xs) {f : List BV → Res BV} {Q : VK} {Q' : List V → Hp → Prop} (R : S.R X.K) (g : GoodE X W S Q (xA fr f xs S.ρ))
    (k : ∀ (vs : List BV) (S2 : Sta) (tr : List Tr), Aft S S2 → tr.length = vs.length → S2.τ = Ev.stk vs tr ++ S.τ → S2.R X.K → (∀ a ∈ ownT (Ev.stk vs tr), S.H a = none) → (∀ v ∈ vs, Setd fr v) → GoodE X W S Q (f vs) → Q' (valsB vs tr) S2.H) : wA X es S.σ S.H Q' := by
  refine h S Q' R ?_
  unfold xA at g
  cases q : evA fr xs S.ρ with
  | er => rw [q] at g; exact g
  | rz c => rw [q] at g; exact g
  | ok vs =>
    rw [q] at g
    exact fun S2 tr a2 l2 e2 R2 f2 => k vs S2 tr a2 l2 e2 R2 f2 (fun v hv => by obtain ⟨u, hu⟩ := evA_setd q v hv; exact settle_setd hu) g
theorem se_tup {es : List Expr} {xs : List (Rho → Res BV)} {n : Nat} {pos : Pos} (h : SA X W fr es xs) (hz : xs.length ≤ 1000) : SE X W (.Tuple es n pos) (xA fr mkTup xs) := by
  intro S Q R g
  refine wE_of (pe_tup pa_w) ?_
  refine SA.go (Q := Q) (f := fun vs => if vs.length ≤ 1000 then mkTup vs else .er) h R ?_ fun vs S2 tr a2 l2 e2 R2 f2 sd g2 => ?_
  · unfold xA at g ⊢
    cases q : evA fr xs S.ρ with
    | er => rw [q] at g; exact g
    | rz c => rw [q] at g; exact g
    | ok vs =>
      rw [q] at g
      show GoodE X W S Q (if vs.length ≤ 1000 then mkTup vs else .er)
      rw [if_pos (by rw [evA_len q]; exact hz)]
      exact g
  · by_cases hv : vs.length ≤ 1000
    · rw [if_pos hv] at g2
      refine ⟨by rw [valsB_length l2]; exact Nat.le_of_lt (small1000 hv), fun p hp => ?_⟩
      unfold mkTup at g2
      cases q : dispLv vs with
      | er => rw [q] at g2; exact g2.elim
      | rz c => exact absurd q disp_rz
      | ok k =>
        rw [q] at g2
        replace g2 : GoodE X W S Q (.ok ⟨false, k, .tuple (dsB vs)⟩) := g2
        have R2' := R2.stk e2
        have ow := disp_own q l2 (rl_nd R2')
        rw [valsB_of]
        refine GoodE.made (t := .n p tr) (p := p) (o := .tup (valsOf (dsB vs) tr)) (Z' := upd S2.Z p (.tup (valsOf (dsB vs) tr))) g2 a2 e2 R2 f2 hp (.inr rfl) ?_ ow.1 fun a m => .inr (ow.2 a m)
        simp only [Ob]
        refine ⟨SqT.of upd_same, Obs.ext (Z := S2.Z) (H := S2.H) (fun b u e => ?_) _ _ _ (stk_obs l2 (disp_ok q).1 fun c hc => (R2'.tm c (List.mem_append_left _ hc)).1) (fun a m => ?_) fun a m o e => ?_⟩
        · rw [upd_ne (ne_of_none e (R2'.zh.free hp))]; exact e
        · have := R2'.own_z a (List.mem_append_right _ (by rw [ownT_app]; exact List.mem_append_left _ (ow.2 a m)))
          obtain ⟨z, u, e, _⟩ := this
          rw [upd_ne (ne_of_none e hp)]
          exact z
        · rw [upd_ne (ne_of_none e hp)]; exact e
    · rw [if_neg hv] at g2
      exact g2.elim
theorem se_lst {es : List Expr} {xs : List (Rho → Res BV)} {pos : Pos} (h : SA X W fr es xs) (hz : xs.length ≤ 1000) : SE X W (.List es pos) (xA fr mkLst xs) := by
  intro S Q R g
  refine wE_of (pe_lst pa_w) ?_
  refine SA.go (Q := Q) (f := fun vs => if vs.length ≤ 1000 then mkLst vs else .er) h R ?_ fun vs S2 tr a2 l2 e2 R2 f2 sd g2 => ?_
  · unfold xA at g ⊢
    cases q : evA fr xs S.ρ with
    | er => rw [q] at g; exact g
    | rz c => rw [q] at g; exact g
    | ok vs =>
      rw [q] at g
      show GoodE X W S Q (if vs.length ≤ 1000 then mkLst vs else .er)
      rw [if_pos (by rw [evA_len q]; exact hz)]
      exact g
  · by_cases hv : vs.length ≤ 1000
    · rw [if_pos hv] at g2
      refine ⟨by rw [valsB_length l2]; exact Nat.le_of_lt (small1000 hv), fun p hp => ?_⟩
      unfold mkLst at g2
      cases q : dispLv vs with
      | er => rw [q] at g2; exact g2.elim
      | rz c => exact absurd q disp_rz
      | ok k =>
        rw [q] at g2
        replace g2 : GoodE X W S Q (.ok ⟨false, sc k, .list (dsB vs)⟩) := g2
        have R2' := R2.stk e2
        have ow := disp_own q l2 (rl_nd R2')
        have old : ∀ a ∈ owns k (dsB vs) tr, S2.Z a = none ∧ ∃ o, S2.H a = some o := fun a m => by
          obtain ⟨z, u, e, _⟩ := R2'.own_z a (List.mem_append_right _ (by rw [ownT_app]; exact List.mem_append_left _ (ow.2 a m)))
          exact ⟨z, u, e⟩
        rw [valsB_of]
        refine GoodE.made (t := .n p tr) (p := p) (o := .lst (valsOf (dsB vs) tr)) (Z' := S2.Z) g2 a2 e2 R2 f2 hp (.inl rfl) ?_ ?_ fun a m => ?_
        · simp only [Ob, pd_sc]
          refine ⟨?_, Obs.ext (Z := S2.Z) (H := S2.H) (Same.refl _) _ _ _ (stk_obs l2 (disp_ok q).1 fun c hc => (R2'.tm c (List.mem_append_left _ hc)).1) (fun a m => (old a m).1) fun a m o e => ?_⟩
          · unfold LstAt
            rw [if_neg (sc_ne k)]
            exact ⟨R2'.zh.free hp, upd_same⟩
          · rw [upd_ne (ne_of_none e hp)]; exact e
        · simp only [Ev.own, pd_sc, if_neg (sc_ne k)]
          refine List.nodup_append.mpr ⟨by simp, ow.1, fun a ha b hb e => ?_⟩
          have ea : a = p := List.mem_singleton.mp ha
          obtain ⟨_, o, q⟩ := old _ hb
          rw [← e, ea, hp] at q
          cases q
        · simp only [Ev.own, pd_sc, if_neg (sc_ne k)] at m
          rcases List.mem_append.mp m with m | m
          · exact .inl ⟨List.mem_singleton.mp m, rfl⟩
          · exact .inr (ow.2 a m)
    · rw [if_neg hv] at g2
      exact g2.elim
end
end Ev

set_option Elab.async false
set_option linter.all false
set_option maxRecDepth 100000
namespace Ev
open PySem PySem.Spec PyProof.Rows L2

/-! ### an item -/
def pick (u : BV) (k : Lv) (d : D) : BV := if flat d = true then ⟨false, none, d⟩ else ⟨u.b, k, d⟩
def ixD (u v : BV) : Res BV := match u.d, v.d with
  | .list ds, .int i => match atI ds i with
    | some d => .ok (pick u (pd u.k) d)
    | none => .er
  | .tuple ds, .int i => match atI ds i with
    | some d => .ok (pick u u.k d)
    | none => .er
  | _, _ => .er
def wI (X : Cx) : R2 := fun x y H Q => ∀ (value slice : Expr) (pins : List (Addr × Obj)) (s : Shared) (σ : L2.St) (v u : Value), Inv X pins σ H s → RelV x v → RelV y u →
  subscripted slice false v u = operate [v, u] (getItem v u) → wpAny (model X.prog X.w) X.A (subscriptTail value slice v u) (EP X pins σ Q) X.xe s
section
variable {K : PySem.W.Frag} {Z0 H0 Z H : Hp} {σ : L2.St} {ρ : Rho} {ts : List Tr} {τ : List Tm}
/-- a part of the value on top in its place -/
theorem Rl.pick {u : BV} {t t' : Tr} {i : Nat} {d' : D} (R : Rl K Z0 H0 Z H σ ρ ts (⟨u.b, u.k, u.d, t⟩ :: τ)) (e : (kidsD u.d)[i]? = some d') (e' : t.kids[i]? = some t') :
    Rl K Z0 H0 Z H σ ρ ts (⟨(Ev.pick u (lvK u.k u.d) d').b, (Ev.pick u (lvK u.k u.d) d').k, d', t'⟩ :: τ) := by
  obtain ⟨o, hb⟩ := R.tm _ List.mem_cons_self
  obtain ⟨t2, e2, o2, m2⟩ := kids_ob o e
  have et : t2 = t' := Option.some.inj (e2.symm.trans e')
  subst et
  have n := R.nd
  obtain ⟨n1, n2, n3⟩ := List.nodup_append.mp n
  unfold Ev.pick
  by_cases hf : flat d' = true
  · rw [if_pos hf]
    exact R.pop.push0 (flat_ob d' _ none t2 hf o2) (flat_own d' none t2 hf)
  · rw [if_neg hf]
    refine R.pop.push o2 (fun q => ⟨kid_nodup (hb q).1 e e', fun a m => (hb q).2 a (m2 a m)⟩) fun q => ?_
    have q : u.b = false := q
    simp only [ownT, q, if_neg (show ¬ (false = true) by simp)] at n2
    obtain ⟨n4, n5, n6⟩ := List.nodup_append.mp n2
    refine ⟨kid_nodup n4 e e', fun a m z => ?_, fun a m => R.o0 a (List.mem_append_right _ ?_)⟩
    · rcases List.mem_append.mp z with z | z
      · refine n3 a z a ?_ rfl
        simp only [ownT, q, if_neg (show ¬ (false = true) by simp)]
        exact List.mem_append_left _ (m2 a m)
      · exact n6 a (m2 a m) a z rfl
    · simp only [ownT, q, if_neg (show ¬ (false = true) by simp)]
      exact List.mem_append_left _ (m2 a m)
end
theorem atI_valsOf {K : PySem.W.Frag} {Z H : Hp} {k : Lv} {ds : List D} {ts : List Tr} {i : Int} {d : D} (o : Obs K Z H k ds ts) (h : atI ds i = some d) : ∃ (j : Nat) (t : Tr), ds[j]? = some d ∧ ts[j]? = some t ∧ atI (valsOf ds ts) i = some (valOf d t) := by
  unfold atI at h ⊢
  rw [valsOf_length o.len]
  cases q : ixN ds.length i with
  | none => rw [q] at h; cases h
  | some j =>
    rw [q] at h
    obtain ⟨t, e, _⟩ := o.get h
    exact ⟨j, t, h, e, valsOf_get h e⟩
section
variable {X : Cx} {W : WX} {S : Sta} {fr : Bool}
theorem Sta.R.rl {τ : List Tm} (R : S.R X.K) (e : S.τ = τ) : Rl X.K S.Z0 S.H0 S.Z S.H S.σ S.ρ S.ts τ := by
  subst e
  exact R
theorem Aft.rl {S2 : Sta} {τ : List Tm} {Z H : Hp} (a : Aft S S2) (R : Rl X.K S2.Z0 S2.H0 Z H S2.σ S2.ρ S2.ts τ) : (S.put Z H τ).R X.K := by
  obtain ⟨h1, h2, h3, h4, h5, _⟩ := a
  show Rl X.K S.Z0 S.H0 Z H S.σ S.ρ S.ts τ
  rw [← h1, ← h2, ← h3, ← h4, ← h5]
  exact R
theorem Aft.at {S2 : Sta} {Z H : Hp} {τ : List Tm} (a : Aft S S2) (st : Step S.Z S.H Z H) : Aft S (S.put Z H τ) := Sta.aft_put st
/-- the end with a part of the first of two values -/
theorem GoodE.part {Q : VK} {S2 : Sta} {u v : BV} {t t' t2 : Tr} {i : Nat} {d : D} (g : GoodE X W S Q (.ok (Ev.pick u (lvK u.k u.d) d))) (a2 : Aft S S2) (e2 : S2.τ = ⟨v.b, v.k, v.d, t'⟩ :: ⟨u.b, u.k, u.d, t⟩ :: S.τ) (R2 : S2.R X.K) (f1 : Fresh S u t)
    (e : (kidsD u.d)[i]? = some d) (e' : t.kids[i]? = some t2) : Q (valOf d t2) S2.H := by
  have R3 := Rl.pick ((R2.rl e2).pop) e e'
  have o := ((R2.rl e2).pop.tm _ List.mem_cons_self).1
  obtain ⟨t3, e3, o3, m3⟩ := kids_ob o e
  have et : t3 = t2 := Option.some.inj (e3.symm.trans e')
  subst et
  have pd_ : (Ev.pick u (lvK u.k u.d) d).d = d := by unfold Ev.pick; split <;> rfl
  have := g (S.put S2.Z S2.H (⟨(Ev.pick u (lvK u.k u.d) d).b, (Ev.pick u (lvK u.k u.d) d).k, d, t3⟩ :: S.τ)) t3 (Sta.aft_put a2.st) (by rw [pd_]; rfl) (a2.rl R3) (fun hb a m => ?_)
  · rw [pd_] at this
    exact this
  · rw [pd_] at m
    unfold Ev.pick at hb m
    by_cases hf : flat d = true
    · rw [if_pos hf] at m
      have m : a ∈ own none d t3 := m
      rw [flat_own d none t3 hf] at m
      cases m
    · rw [if_neg hf] at hb m
      exact f1 hb a (m3 a m)
theorem ixR_w : IxR X (wI X) := fun value slice pins s σ H x y v u Q I rx ry h hs => h value slice pins s σ v u I rx ry hs
theorem wI_of {r : R2} {x y : V} {H : Hp} {Q : VK} (h : IxR X r) (q : r x y H Q) : wI X x y H Q := fun value slice pins s σ v u I rx ry hs => h value slice pins s σ H x y v u Q I rx ry q hs
theorem se_ix {a b : Expr} {pos : Pos} {xa xb : Rho → Res BV} (ha : SE X W a xa) (hb : SE X W b xb) (hs : PlainIx b) : SE X W (.Subscript a b pos) (x2 ixD xa xb) := by
  intro S Q R g
  refine wE_of (pe_ix ixR_w pe_w pe_w hs) (two ha hb R g fun u v S2 t t' a2 e2 R2 f1 f2 g2 => ?_)
  have R2' := R2.rl e2
  have o := (R2'.tm _ (List.mem_cons_of_mem _ List.mem_cons_self)).1
  replace o : Ob X.K S2.Z S2.H u.k u.d t := o
  unfold ixD at g2
  cases hu : u.d <;> rw [hu] at g2 <;> first | exact g2.elim | skip
  · rename_i ds
    cases hv : v.d <;> rw [hv] at g2 <;> first | exact g2.elim | skip
    rename_i i
    dsimp only at g2
    cases q : atI ds i with
    | none => rw [q] at g2; exact g2.elim
    | some d =>
      rw [q] at g2
      rw [hu] at o
      simp only [Ob] at o
      obtain ⟨j, t2, h1, h2, h3⟩ := atI_valsOf o.2 q
      refine wI_of ix_list ⟨t.at, _, i, _, rfl, rfl, o.1.sq R2'.zh, h3, ?_⟩
      have e1 : lvK u.k u.d = pd u.k := by rw [hu]; rfl
      refine GoodE.part (i := j) (d := d) (by rw [e1]; exact g2) a2 e2 R2 f1 (by rw [hu]; exact h1) h2
  · rename_i ds
    cases hv : v.d <;> rw [hv] at g2 <;> first | exact g2.elim | skip
    rename_i i
    dsimp only at g2
    cases q : atI ds i with
    | none => rw [q] at g2; exact g2.elim
    | some d =>
      rw [q] at g2
      rw [hu] at o
      simp only [Ob] at o
      obtain ⟨j, t2, h1, h2, h3⟩ := atI_valsOf o.2 q
      refine wI_of ix_tup ⟨t.at, _, i, _, rfl, rfl, Same.sqT R2'.zh o.1, h3, ?_⟩
      have e1 : lvK u.k u.d = u.k := by rw [hu]; rfl
      refine GoodE.part (i := j) (d := d) (by rw [e1]; exact g2) a2 e2 R2 f1 (by rw [hu]; exact h1) h2

/-! ### calls of built-ins -/
/-- a built-in is as g says -/
def BlS (X : Cx) (W : WX) (f : Value) (g : List BV → Res BV) : Prop :=
  ∀ (S : Sta) (Q : VK) (vs : List BV) (S2 : Sta) (tr : List Tr), S.R X.K → Aft S S2 → tr.length = vs.length → S2.τ = stk vs tr ++ S.τ → S2.R X.K → (∀ a ∈ ownT (stk vs tr), S.H a = none) → (∀ v ∈ vs, Setd true v) → GoodE X W S Q (g vs) →
    wC X f (valsB vs tr) S2.H Q
theorem se_callB {g : List BV → Res BV} {x : Str} {p pos : Pos} {e : Expr} {es : List Expr} {xs : List (Rho → Res BV)} {id : String} (h : BlS X W (.builtin id) g) (hg : Gl X x) (hm : X.mg x = none) (hv : bootBuiltins x = some (.builtin id)) (ha : SA X W true (e :: es) xs)
    (hn : x ≠ "__name__") (hdb : (x == ("__debug__" : Str)) = false) (he : starEach (e :: es) X.env = (false, eval e X.env) :: starEach es X.env) (hpl : (backTo pos (starEach es X.env)).any (·.1) = false) : SE X W (.Call (.Name x p) (e :: es) [] pos) (xA true g xs) := by
  intro S Q R gd
  exact wE_of (pe_callB callR_w hg hm hv pa_w hn hdb he hpl) (SA.go ha R gd fun vs S2 tr a2 l2 e2 R2 f2 sd g2 => h S Q vs S2 tr R a2 l2 e2 R2 f2 sd g2)
theorem se_callTy {T : String} {g : List BV → Res BV} {x : Str} {p pos : Pos} {e : Expr} {es : List Expr} {xs : List (Rho → Res BV)} (h : BlS X W (.type T) g) (hg : Gl X x) (hm : X.mg x = none) (hv : bootBuiltins x = some (.type T)) (ha : SA X W true (e :: es) xs)
    (hn : x ≠ "__name__") (hdb : (x == ("__debug__" : Str)) = false) (he : starEach (e :: es) X.env = (false, eval e X.env) :: starEach es X.env) (hpl : (backTo pos (starEach es X.env)).any (·.1) = false) : SE X W (.Call (.Name x p) (e :: es) [] pos) (xA true g xs) := by
  intro S Q R gd
  exact wE_of (pe_callTy callR_w hg hm hv pa_w hn hdb he hpl) (SA.go ha R gd fun vs S2 tr a2 l2 e2 R2 f2 sd g2 => h S Q vs S2 tr R a2 l2 e2 R2 f2 sd g2)
theorem se_callBf {id : String} {g : List BV → Res BV} {x : Str} {p pos : Pos} {e : Expr} {es : List Expr} {xs : List (Rho → Res BV)} (h : BlS X W (.builtin id) g) (hg : Gl X x) (hm : X.mg x = some (.builtin id)) (ha : SA X W true (e :: es) xs)
    (hdb : (x == ("__debug__" : Str)) = false) (he : starEach (e :: es) X.env = (false, eval e X.env) :: starEach es X.env) (hpl : (backTo pos (starEach es X.env)).any (·.1) = false) : SE X W (.Call (.Name x p) (e :: es) [] pos) (xA true g xs) := by
  intro S Q R gd
  exact wE_of (pe_callBfun callR_w hg hm pa_w hdb he hpl) (SA.go ha R gd fun vs S2 tr a2 l2 e2 R2 f2 sd g2 => h S Q vs S2 tr R a2 l2 e2 R2 f2 sd g2)
/-- back behind the arguments -/
theorem argsBack {S2 : Sta} {cs : List Tm} (a2 : Aft S S2) (e2 : S2.τ = cs ++ S.τ) (R2 : S2.R X.K) : (S.put S2.Z S2.H S.τ).R X.K := by
  have R3 := R2.rl e2
  refine a2.rl (Rl.perm R3 (fun c h => List.mem_append_right _ h) ?_)
  have n := R3.nd
  rw [ownT_app, ← List.append_assoc] at n
  exact (List.nodup_append.mp n).2.1
/-- one argument, a plain result -/
def b1 (g : D → Res D) : List BV → Res BV
  | [v] => (g v.d).bind fun d => .ok ⟨false, none, d⟩
  | _ => .er
theorem BlS.one {f : Value} {g : D → Res D} (h : ∀ d r, g d = .ok r → scal r = true) (hz : ∀ d c, g d ≠ .rz c)
    (ho : ∀ (d r : D) (t : Tr) (Z H : Hp) (k : Lv) (Q : VK), g d = .ok r → Same Z H → Ob X.K Z H k d t → Q (valOf r t0) H → wC X f [valOf d t] H Q) : BlS X W f (b1 g) := by
  intro S Q vs S2 tr R a2 l2 e2 R2 f2 sd g2
  match vs, tr, l2 with
  | [], [], _ => exact g2.elim
  | [v], [t], _ =>
    replace g2 : GoodE X W S Q ((g v.d).bind fun d => .ok ⟨false, none, d⟩) := g2
    cases q : g v.d with
    | er => rw [q] at g2; exact g2.elim
    | rz c => exact absurd q (hz _ _)
    | ok r =>
      rw [q] at g2
      have R3 := R2.rl e2
      have o := (R3.tm ⟨v.b, v.k, v.d, t⟩ (List.mem_append_left _ (by simp [Ev.stk]))).1
      exact ho v.d r t S2.Z S2.H v.k Q q R3.zh o (GoodE.scal g2 (h _ _ q) a2.st (argsBack a2 e2 R2))
  | _ :: _ :: _, _ :: _ :: _, _ => exact g2.elim
def b2 (g : D → D → Res D) : List BV → Res BV
  | [u, v] => (g u.d v.d).bind fun d => .ok ⟨false, none, d⟩
  | _ => .er
theorem BlS.two {f : Value} {g : D → D → Res D} (h : ∀ d e r, g d e = .ok r → scal r = true) (hz : ∀ d e c, g d e ≠ .rz c)
    (ho : ∀ (d e r : D) (t t' : Tr) (Z H : Hp) (k k' : Lv) (Q : VK), g d e = .ok r → Same Z H → Ob X.K Z H k d t → Ob X.K Z H k' e t' → Q (valOf r t0) H → wC X f [valOf d t, valOf e t'] H Q) : BlS X W f (b2 g) := by
  intro S Q vs S2 tr R a2 l2 e2 R2 f2 sd g2
  match vs, tr, l2 with
  | [], [], _ => exact g2.elim
  | [_], [_], _ => exact g2.elim
  | [u, v], [t, t'], _ =>
    replace g2 : GoodE X W S Q ((g u.d v.d).bind fun d => .ok ⟨false, none, d⟩) := g2
    cases q : g u.d v.d with
    | er => rw [q] at g2; exact g2.elim
    | rz c => exact absurd q (hz _ _ _)
    | ok r =>
      rw [q] at g2
      have R3 := R2.rl e2
      have o1 := (R3.tm ⟨u.b, u.k, u.d, t⟩ (List.mem_append_left _ (by simp [Ev.stk]))).1
      have o2 := (R3.tm ⟨v.b, v.k, v.d, t'⟩ (List.mem_append_left _ (by simp [Ev.stk]))).1
      exact ho u.d v.d r t t' S2.Z S2.H u.k v.k Q q R3.zh o1 o2 (GoodE.scal g2 (h _ _ _ q) a2.st (argsBack a2 e2 R2))
  | _ :: _ :: _ :: _, _ :: _ :: _ :: _, _ => exact g2.elim
/-! len, int, abs, any, all, min, max, sum, gcd -/
def dLen : D → Res D
  | .str x => if x.length ≤ sizeLine then .ok (.int (x.length : Nat)) else .er
  | .list ds => .ok (.int (ds.length : Nat))
  | .tuple ds => .ok (.int (ds.length : Nat))
  | _ => .er
theorem bl_len : BlS X W (.builtin "len") (b1 dLen) := by
  refine BlS.one (fun d r q => ?_) (fun d c q => ?_) fun d r t Z H k Q q zh o hq => ?_
  · cases d <;> first | (cases q; done) | skip
    · simp only [dLen] at q
      split at q <;> cases q
      rfl
    · cases q; rfl
    · cases q; rfl
  · cases d <;> first | (cases q; done) | skip
    simp only [dLen] at q
    split at q <;> cases q
  · cases d <;> first | (cases q; done) | skip
    · simp only [dLen] at q
      split at q <;> cases q
      rename_i h
      exact wC_of call_len ⟨_, _, rfl, ⟨h, rfl⟩, hq⟩
    · cases q
      simp only [Ob] at o
      refine wC_of call_len ⟨_, _, rfl, .inl ⟨_, o.1.sq zh, rfl⟩, ?_⟩
      rw [valsOf_length o.2.len]
      exact hq
    · cases q
      simp only [Ob] at o
      refine wC_of call_len ⟨_, _, rfl, .inr ⟨_, Same.sqT zh o.1, rfl⟩, ?_⟩
      rw [valsOf_length o.2.len]
      exact hq
def dInt : D → Res D
  | .int i => .ok (.int i)
  | .bool b => .ok (.int (if b then 1 else 0))
  | _ => .er
theorem bl_int : BlS X W (.type "int") (b1 dInt) := by
  refine BlS.one (fun d r q => ?_) (fun d c q => ?_) fun d r t Z H k Q q zh o hq => ?_
  · cases d <;> cases q <;> rfl
  · cases d <;> cases q
  · cases d <;> cases q
    · exact wC_of call_int1 (.inr ⟨_, rfl, hq⟩)
    · exact wC_of call_int1 (.inl ⟨_, rfl, hq⟩)
def dAbs : D → Res D
  | .int i => .ok (.int (if i < 0 then -i else i))
  | _ => .er
theorem bl_abs : BlS X W (.builtin "abs") (b1 dAbs) := by
  refine BlS.one (fun d r q => ?_) (fun d c q => ?_) fun d r t Z H k Q q zh o hq => ?_
  · cases d <;> cases q
    rfl
  · cases d <;> cases q
  · cases d <;> cases q
    exact wC_of call_abs ⟨_, rfl, hq⟩
/-- the bools of a list -/
def boolsD : List D → Option (List Bool)
  | [] => some []
  | .bool b :: ds => (boolsD ds).map (b :: ·)
  | _ => none
theorem bools_vals : ∀ {ds : List D} {ts : List Tr} {bs : List Bool}, ds.length = ts.length → boolsD ds = some bs → valsOf ds ts = bs.map V.bl
  | [], ts, bs, _, h => by cases h; cases ts <;> rfl
  | .bool b :: ds, t :: ts, bs, hl, h => by
    simp only [boolsD] at h
    cases q : boolsD ds with
    | none => rw [q] at h; cases h
    | some cs =>
      rw [q] at h; cases h
      simp only [valsOf, List.map_cons, valOf]
      rw [bools_vals (by simpa using hl) q]
  | .bool _ :: _, [], _, hl, _ => by simp at hl
  | .none :: _, _, _, _, h => by cases h
  | .int _ :: _, _, _, _, h => by cases h
  | .str _ :: _, _, _, _, h => by cases h
  | .list _ :: _, _, _, _, h => by cases h
  | .tuple _ :: _, _, _, _, h => by cases h
  | .dict _ :: _, _, _, _, h => by cases h
def intsD : List D → Option (List Int)
  | [] => some []
  | .int b :: ds => (intsD ds).map (b :: ·)
  | _ => none
theorem ints_vals : ∀ {ds : List D} {ts : List Tr} {bs : List Int}, ds.length = ts.length → intsD ds = some bs → valsOf ds ts = bs.map V.int
  | [], ts, bs, _, h => by cases h; cases ts <;> rfl
  | .int b :: ds, t :: ts, bs, hl, h => by
    simp only [intsD] at h
    cases q : intsD ds with
    | none => rw [q] at h; cases h
    | some cs =>
      rw [q] at h; cases h
      simp only [valsOf, List.map_cons, valOf]
      rw [ints_vals (by simpa using hl) q]
  | .int _ :: _, [], _, hl, _ => by simp at hl
  | .none :: _, _, _, _, h => by cases h
  | .bool _ :: _, _, _, _, h => by cases h
  | .str _ :: _, _, _, _, h => by cases h
  | .list _ :: _, _, _, _, h => by cases h
  | .tuple _ :: _, _, _, _, h => by cases h
  | .dict _ :: _, _, _, _, h => by cases h
def dQuant (f : List Bool → Bool) : D → Res D
  | .list ds => match boolsD ds with
    | some bs => .ok (.bool (f bs))
    | none => .er
  | _ => .er
theorem bl_quant {f : List Bool → Bool} {id : String} (hc : CallR X (.builtin id) (fun vs H Q => ∃ (a : Addr) (bs : List Bool), vs = [V.ref a] ∧ SqL X.K H a (bs.map V.bl) ∧ Q (.bl (f bs)) H)) : BlS X W (.builtin id) (b1 (dQuant f)) := by
  refine BlS.one (fun d r q => ?_) (fun d c q => ?_) fun d r t Z H k Q q zh o hq => ?_
  · cases d <;> first | (cases q; done) | skip
    simp only [dQuant] at q
    split at q <;> cases q
    rfl
  · cases d <;> first | (cases q; done) | skip
    simp only [dQuant] at q
    split at q <;> cases q
  · cases d <;> first | (cases q; done) | skip
    simp only [dQuant] at q
    split at q <;> cases q
    rename_i bs h
    simp only [Ob] at o
    refine wC_of hc ⟨t.at, bs, rfl, ?_, hq⟩
    rw [← bools_vals o.2.len h]
    exact o.1.sq zh
theorem bl_any (hc : X.calm = true) : BlS X W (.builtin "any") (b1 (dQuant fun bs => bs.any id)) := bl_quant (cr_any hc)
theorem bl_all (hc : X.calm = true) : BlS X W (.builtin "all") (b1 (dQuant fun bs => bs.all id)) := bl_quant (cr_all hc)
def minI : List Int → Int
  | [] => 0
  | [a] => a
  | a :: b :: r => min a (minI (b :: r))
def maxI : List Int → Int
  | [] => 0
  | [a] => a
  | a :: b :: r => max a (maxI (b :: r))
theorem minI_le : ∀ {l : List Int} {y : Int}, y ∈ l → minI l ≤ y
  | [a], y, h => by simp at h; subst h; exact Int.le_refl _
  | a :: b :: r, y, h => by
    show min a (minI (b :: r)) ≤ y
    rcases List.mem_cons.mp h with h | h
    · subst h; exact Int.min_le_left _ _
    · exact Int.le_trans (Int.min_le_right _ _) (minI_le h)
theorem minI_mem : ∀ {l : List Int}, 0 < l.length → minI l ∈ l
  | [a], _ => by simp [minI]
  | a :: b :: r, _ => by
    show min a (minI (b :: r)) ∈ a :: b :: r
    have := minI_mem (l := b :: r) (by simp)
    rcases Int.le_total a (minI (b :: r)) with h | h
    · rw [Int.min_eq_left h]; exact List.mem_cons_self
    · rw [Int.min_eq_right h]; exact List.mem_cons_of_mem _ this
theorem le_maxI : ∀ {l : List Int} {y : Int}, y ∈ l → y ≤ maxI l
  | [a], y, h => by simp at h; subst h; exact Int.le_refl _
  | a :: b :: r, y, h => by
    show y ≤ max a (maxI (b :: r))
    rcases List.mem_cons.mp h with h | h
    · subst h; exact Int.le_max_left _ _
    · exact Int.le_trans (le_maxI h) (Int.le_max_right _ _)
theorem maxI_mem : ∀ {l : List Int}, 0 < l.length → maxI l ∈ l
  | [a], _ => by simp [maxI]
  | a :: b :: r, _ => by
    show max a (maxI (b :: r)) ∈ a :: b :: r
    have := maxI_mem (l := b :: r) (by simp)
    rcases Int.le_total a (maxI (b :: r)) with h | h
    · rw [Int.max_eq_right h]; exact List.mem_cons_of_mem _ this
    · rw [Int.max_eq_left h]; exact List.mem_cons_self
def dIntsF (f : List Int → Res Int) : D → Res D
  | .list ds => match intsD ds with
    | some bs => (f bs).bind fun i => .ok (.int i)
    | none => .er
  | _ => .er
theorem bl_ints {f : List Int → Res Int} {id : String} (hz : ∀ l c, f l ≠ .rz c) (hc : CallR X (.builtin id) (fun vs H Q => ∃ (a : Addr) (bs : List Int) (i : Int), vs = [V.ref a] ∧ SqL X.K H a (bs.map V.int) ∧ f bs = .ok i ∧ Q (.int i) H)) : BlS X W (.builtin id) (b1 (dIntsF f)) := by
  refine BlS.one (fun d r q => ?_) (fun d c q => ?_) fun d r t Z H k Q q zh o hq => ?_
  · cases d <;> first | (cases q; done) | skip
    simp only [dIntsF] at q
    split at q <;> first | (cases q; done) | skip
    rename_i bs h
    cases q2 : f bs <;> rw [q2] at q <;> cases q
    rfl
  · cases d <;> first | (cases q; done) | skip
    simp only [dIntsF] at q
    split at q <;> first | (cases q; done) | skip
    rename_i bs h
    cases q2 : f bs <;> rw [q2] at q <;> cases q
    exact absurd q2 (hz _ _)
  · cases d <;> first | (cases q; done) | skip
    simp only [dIntsF] at q
    split at q <;> first | (cases q; done) | skip
    rename_i bs h
    cases q2 : f bs <;> rw [q2] at q <;> cases q
    simp only [Ob] at o
    refine wC_of hc ⟨t.at, bs, _, rfl, ?_, q2, hq⟩
    rw [← ints_vals o.2.len h]
    exact o.1.sq zh
def fMin (l : List Int) : Res Int := if 0 < l.length then .ok (minI l) else .er
def fMax (l : List Int) : Res Int := if 0 < l.length then .ok (maxI l) else .er
def fSum (l : List Int) : Res Int := .ok l.sum
theorem bl_min (hc : X.calm = true) : BlS X W (.builtin "min") (b1 (dIntsF fMin)) := by
  refine bl_ints (fun l c q => ?_) fun pins s σ H xs us Q I r h => ?_
  · unfold fMin at q
    split at q <;> cases q
  · obtain ⟨a, bs, i, rfl, hs, q, hq⟩ := h
    unfold fMin at q
    split at q <;> cases q
    rename_i hl
    refine cr_min hc pins s σ H _ us Q I r ⟨a, bs, rfl, hs, hl, fun m h1 h2 => ?_⟩
    have e : m = minI bs := Int.le_antisymm (h2 _ (minI_mem hl)) (minI_le h1)
    rw [e]
    exact hq
theorem bl_max (hc : X.calm = true) : BlS X W (.builtin "max") (b1 (dIntsF fMax)) := by
  refine bl_ints (fun l c q => ?_) fun pins s σ H xs us Q I r h => ?_
  · unfold fMax at q
    split at q <;> cases q
  · obtain ⟨a, bs, i, rfl, hs, q, hq⟩ := h
    unfold fMax at q
    split at q <;> cases q
    rename_i hl
    refine cr_max hc pins s σ H _ us Q I r ⟨a, bs, rfl, hs, hl, fun m h1 h2 => ?_⟩
    have e : m = maxI bs := Int.le_antisymm (le_maxI h1) (h2 _ (maxI_mem hl))
    rw [e]
    exact hq
theorem bl_sum (hc : X.calm = true) : BlS X W (.builtin "sum") (b1 (dIntsF fSum)) := by
  refine bl_ints (fun l c q => by cases q) fun pins s σ H xs us Q I r h => ?_
  obtain ⟨a, bs, i, rfl, hs, q, hq⟩ := h
  cases q
  exact cr_sum hc pins s σ H _ us Q I r ⟨a, bs, rfl, hs, hq⟩
def dGcd : D → D → Res D
  | .int a, .int b => .ok (.int ((Nat.gcd a.natAbs b.natAbs : Nat) : Int))
  | _, _ => .er
theorem bl_gcd : BlS X W (.builtin "math.gcd") (b2 dGcd) := by
  refine BlS.two (fun d e r q => ?_) (fun d e c q => ?_) fun d e r t t' Z H k k' Q q zh o o' hq => ?_
  · cases d <;> cases e <;> cases q
    rfl
  · cases d <;> cases e <;> cases q
  · cases d <;> cases e <;> cases q
    exact wC_of cr_gcd ⟨_, _, rfl, hq⟩
def dMin2 : D → D → Res D
  | .int a, .int b => .ok (.int (if b < a then b else a))
  | _, _ => .er
theorem bl_min2 (hc : X.calm = true) : BlS X W (.builtin "min") (b2 dMin2) := by
  refine BlS.two (fun d e r q => ?_) (fun d e c q => ?_) fun d e r t t' Z H k k' Q q zh o o' hq => ?_
  · cases d <;> cases e <;> cases q
    rfl
  · cases d <;> cases e <;> cases q
  · cases d <;> cases e <;> cases q
    exact wC_of (call_min2 hc) ⟨_, _, rfl, hq⟩
/-! isinstance -/
def tyD : D → String
  | .none => "NoneType"
  | .bool _ => "bool"
  | .int _ => "int"
  | .str _ => "str"
  | .list _ => "list"
  | .tuple _ => "tuple"
  | .dict _ => "dict"
theorem tyX_ob {K : PySem.W.Frag} {Z H : Hp} {k : Lv} {d : D} {t : Tr} (zh : Same Z H) (o : Ob K Z H k d t) : TyX K H (valOf d t) (.type (tyD d)) := by
  cases d with
  | none => exact .base .non
  | bool b => exact .base (.bl b)
  | int i => exact .base (.int i)
  | str x => exact .base (.str x)
  | list ds =>
    simp only [Ob] at o
    rcases o.1.rdl zh with (h | ⟨ob, h⟩) | ⟨its, n, _, _, h⟩
    · exact .base (.lst h)
    · exact .base (.frz h)
    · exact .kList h rfl
  | tuple ds =>
    simp only [Ob] at o
    rcases Same.sqT zh o.1 with (h | ⟨ob, h⟩) | ⟨ob, its, n, h, c, _⟩
    · exact .base (.tup h)
    · exact .fTuple h
    · exact .kTuple h c
  | dict kvs =>
    simp only [Ob] at o
    exact .base (.dK (o.1.rd zh))
def dIsi (T : String) (d : D) : Res D := match kitB (tyD d) T with
  | some b => .ok (.bool b)
  | none => .er
theorem se_isi {T : String} {x : Str} {p p2 pos : Pos} {e : Expr} {xe : Rho → Res BV} (he : SE X W e xe) (hg : Gl X "isinstance") (hm : X.mg "isinstance" = none) (hv : bootBuiltins "isinstance" = some (.builtin "isinstance"))
    (hT : Gl X x) (hmT : X.mg x = none) (hvT : bootBuiltins x = some (.type T)) (hn : x ≠ "__name__") (hd : (x == ("__debug__" : Str)) = false)
    (hs : starEach [e, .Name x p2] X.env = (false, eval e X.env) :: starEach [.Name x p2] X.env) (hs2 : starEach [.Name x p2] X.env = (false, eval (.Name x p2) X.env) :: starEach [] X.env) (hpl : (backTo pos (starEach [.Name x p2] X.env)).any (·.1) = false) :
    SE X W (.Call (.Name "isinstance" p) [e, .Name x p2] [] pos) (x1 (p1 (dIsi T)) xe) := by
  intro S Q R g
  refine wE_of (pe_callB call_isi hg hm hv (pa_cons pe_w (pa_cons (pe_bltn (v := .ty T) hT hmT hvT rfl hn hd) pa_nil hs2) hs) (by decide) (by decide) hs hpl) ?_
  refine one he R g fun u S1 t a1 e1 R1 f1 g1 => ?_
  replace g1 : GoodE X W S Q ((dIsi T u.d).bind fun d => .ok ⟨false, none, d⟩) := g1
  unfold dIsi at g1
  obtain ⟨o, zh⟩ := R1.tm1 e1
  cases q : kitB (tyD u.d) T with
  | none => rw [q] at g1; exact g1.elim
  | some b =>
    rw [q] at g1
    have R2 := R1.pop (X := X) e1
    rw [a1.back] at R2
    exact ⟨_, _, _, _, b, rfl, .ty T, tyX_ob zh o, kit_ty q, GoodE.scal g1 rfl a1.st R2⟩
/-! n.bit_length() -/
def dBits : D → Res D
  | .int i => .ok (.int (Builtin.Int.intBits i : Nat))
  | _ => .er
theorem se_bits {o : Expr} {apos pos : Pos} {xo : Rho → Res BV} (ho : SE X W o xo) (hbase : attributeBase o "bit_length" X.env (eval o X.env) = eval o X.env) (hline : (apos.endLine == pos.line) = true) : SE X W (.Call (.Attribute o "bit_length" apos) [] [] pos) (x1 (p1 dBits) xo) := by
  intro S Q R g
  refine wE_of (pe_bits pe_w hbase hline) (one ho R g fun u S1 t a1 e1 R1 f1 g1 => ?_)
  unfold p1 at g1
  cases hd : u.d <;> rw [hd] at g1 <;> first | exact g1.elim | skip
  have R2 := R1.pop (X := X) e1
  rw [a1.back] at R2
  exact ⟨_, rfl, GoodE.scal g1 rfl a1.st R2⟩
end
end Ev

set_option Elab.async false
set_option linter.all false
set_option maxRecDepth 100000
namespace Ev
open PySem PySem.Spec PyProof.Rows L2

/-! ### the calls of own defs -/
structure RoomG (k : Nat) (A : Around) : Prop where
  r : Room k A
  g : A.guards = some []
theorem RoomG.mono {j k : Nat} {A : Around} (r : RoomG k A) (h : j ≤ k) : RoomG j A := ⟨r.r.mono h, r.g⟩
/-- what a def's answer asks -/
def GoodC (K : PySem.W.Frag) (mg : Str → Option Value) (Z H : Hp) (Q : VK) (E : XK) : Res (Lv × D) → Prop
  | .ok r => ∀ (Z' H' : Hp) (t : Tr), Step Z H Z' H' → Same Z' H' → Ob K Z' H' r.1 r.2 t → (own r.1 r.2 t).Nodup → (∀ a ∈ own r.1 r.2 t, H a = none) → Q (valOf r.2 t) H'
  | .rz c => ∀ Z' H' : Hp, Step Z H Z' H' → Same Z' H' → ∀ C, mg c = some (.ref C) → E (.ref C) none H'
  | .er => False
/-- the def at f of n parameters answers as φ says -/
structure FnS (P : Program) (w : World) (K : PySem.W.Frag) (mg : Str → Option Value) (base : Heap) (k : Nat) (f : Addr) (n : Nat) (φ : List D → Res (Lv × D)) : Prop where
  run : ∀ (A : Around) (outer : List Env) (s : Shared) (H : Hp) (us : List Value) (Z : Hp) (ds : List D) (ts : List Tr) (Q : VK) (E : XK), RoomG k A → Env0 P w K mg base A outer s H → Vals (valsOf ds ts) us → ds.length = n → Same Z H → Obs K Z H (some 0) ds ts →
    GoodC K mg Z H Q E (φ ds) → codeAny (model P w) A (.call (.ref f) ⟨us, []⟩) (CR (L2.CX P w) outer P w H s Q E) s
theorem FnS.mono {P : Program} {w : World} {K : PySem.W.Frag} {mg : Str → Option Value} {base : Heap} {j k : Nat} {f : Addr} {n : Nat} {φ : List D → Res (Lv × D)} (F : FnS P w K mg base j f n φ) (h : j ≤ k) : FnS P w K mg base k f n φ :=
  ⟨fun A outer s H us Z ds ts Q E hr => F.run A outer s H us Z ds ts Q E (hr.mono h)⟩
def xCall (φ : List D → Res (Lv × D)) (n : Nat) (vs : List BV) : Res BV := if vs.length = n then (φ (dsB vs)).bind fun r =>
    if flat r.2 = true then .ok ⟨false, none, r.2⟩ else if r.1 = none then .ok ⟨false, none, r.2⟩ else if (vs.all fun v => v.k == some 0 || flat v.d) = true then .ok ⟨false, r.1, r.2⟩ else .er
  else .er
/-- all objects of the values under way, whosever they are -/
def ownU : List Tm → List Addr
  | [] => []
  | c :: τ => own c.k c.d c.t ++ ownU τ
theorem ownU_mem : ∀ {τ : List Tm} {c : Tm}, c ∈ τ → ∀ a ∈ own c.k c.d c.t, a ∈ ownU τ
  | [], _, h, _, _ => by cases h
  | e :: τ, c, h, a, m => by
    simp only [ownU]
    rcases List.mem_cons.mp h with h | h
    · subst h; exact List.mem_append_left _ m
    · exact List.mem_append_right _ (ownU_mem h a m)
theorem of_ownU : ∀ {τ : List Tm} {a : Addr}, a ∈ ownU τ → ∃ c ∈ τ, a ∈ own c.k c.d c.t
  | [], _, h => by cases h
  | e :: τ, a, h => by
    simp only [ownU] at h
    rcases List.mem_append.mp h with h | h
    · exact ⟨e, List.mem_cons_self, h⟩
    · obtain ⟨c, hc, m⟩ := of_ownU h
      exact ⟨c, List.mem_cons_of_mem _ hc, m⟩
def hideZ (Z : Hp) (A : List Addr) : Hp := fun a => if a ∈ A then none else Z a
mutual
/-- an answer that is all its own does not lean on what was lent -/
theorem Ob.hide {K : PySem.W.Frag} {Z H : Hp} {A : List Addr} (hA : ∀ a ∈ A, ∀ xs, ¬ Rd Z a (.tup xs)) : ∀ (d : D) (t : Tr), Ob K Z H none d t → Ob K (hideZ Z A) H none d t
  | .tuple ds, t, h => by
    simp only [Ob] at *
    refine ⟨?_, Obs.hide hA ds t.kids h.2⟩
    rcases h.1 with q | q
    · have n : t.at ∉ A := fun m => hA _ m _ q
      refine .inl ?_
      unfold Rd hideZ
      simp only [if_neg n]
      exact q
    · exact .inr q
  | .list ds, t, h => by
    simp only [Ob] at *
    refine ⟨?_, Obs.hide hA ds t.kids h.2⟩
    have q := h.1
    unfold LstAt at q ⊢
    rw [if_neg (by simp)] at q ⊢
    refine ⟨?_, q.2⟩
    unfold hideZ
    split
    · rfl
    · exact q.1
  | .dict kvs, t, h => by
    simp only [Ob] at *
    refine ⟨?_, ObK.hide hA kvs t.kids h.2⟩
    have q := h.1
    unfold DctAt at q ⊢
    rw [if_neg (by simp)] at q ⊢
    refine ⟨?_, q.2⟩
    unfold hideZ
    split
    · rfl
    · exact q.1
  | .none, _, _ => by simp only [Ob]
  | .bool _, _, _ => by simp only [Ob]
  | .int _, _, _ => by simp only [Ob]
  | .str _, _, _ => by simp only [Ob]
theorem Obs.hide {K : PySem.W.Frag} {Z H : Hp} {A : List Addr} (hA : ∀ a ∈ A, ∀ xs, ¬ Rd Z a (.tup xs)) : ∀ (ds : List D) (ts : List Tr), Obs K Z H none ds ts → Obs K (hideZ Z A) H none ds ts
  | [], [], _ => by simp only [Obs]
  | d :: ds, t :: ts, h => by
    simp only [Obs] at *
    exact ⟨Ob.hide hA d t h.1, Obs.hide hA ds ts h.2⟩
  | [], _ :: _, h => by simp only [Obs] at h
  | _ :: _, [], h => by simp only [Obs] at h
theorem ObK.hide {K : PySem.W.Frag} {Z H : Hp} {A : List Addr} (hA : ∀ a ∈ A, ∀ xs, ¬ Rd Z a (.tup xs)) : ∀ (ds : List (D × D)) (ts : List Tr), ObK K Z H none ds ts → ObK K (hideZ Z A) H none ds ts
  | [], [], _ => by simp only [ObK]
  | (q, d) :: ds, t :: ts, h => by
    simp only [ObK] at *
    exact ⟨h.1, Ob.hide hA d t h.2.1, ObK.hide hA ds ts h.2.2⟩
  | [], _ :: _, h => by simp only [ObK] at h
  | _ :: _, [], h => by simp only [ObK] at h
end
section
variable {X : Cx} {W : WX} {S : Sta} {k : Nat} {f : Addr} {n : Nat} {φ : List D → Res (Lv × D)}
theorem stk_frz {Z H Z' : Hp} (zz : Same Z Z') : ∀ {vs : List BV} {tr : List Tr}, tr.length = vs.length → (∀ c ∈ stk vs tr, Ob X.K Z H c.k c.d c.t ∧ ∀ a ∈ own c.k c.d c.t, Z' a = H a) → Obs X.K Z' H (some 0) (dsB vs) tr
  | [], [], _, _ => by simp [dsB, Obs]
  | [], _ :: _, h, _ => by simp at h
  | v :: vs, [], h, _ => by simp at h
  | v :: vs, t :: tr, h, hc => by
    rw [stk_cons] at hc
    obtain ⟨o, m⟩ := hc ⟨v.b, v.k, v.d, t⟩ (List.mem_append_right _ (by simp))
    show Obs X.K Z' H (some 0) (v.d :: dsB vs) (t :: tr)
    simp only [Obs]
    exact ⟨Ob.freeze zz v.d v.k t o m, stk_frz zz (by simpa using h) fun c h => hc c (List.mem_append_left _ h)⟩
/-- a call of a value in the slots σ -/
def wF (X : Cx) (f : Value) (σ : L2.St) : List V → Hp → VK → Prop := fun xs H Q => ∀ (pins : List (Addr × Obj)) (s : Shared) (us : List Value), Inv X pins σ H s → Vals xs us → wpAny (model X.prog X.w) X.A (call f us) (EP X pins σ Q) X.xe s
theorem fn_go (F : FnS X.prog X.w X.K X.mg X.base k f n φ) (hr : RoomG k X.A) (tk : Takes X W) {Q : VK} {vs : List BV} {S2 : Sta} {tr : List Tr} (R : S.R X.K) (a2 : Aft S S2) (l2 : tr.length = vs.length) (e2 : S2.τ = stk vs tr ++ S.τ) (R2 : S2.R X.K)
    (f2 : ∀ a ∈ ownT (stk vs tr), S.H a = none) (g2 : GoodE X W S Q (xCall φ n vs)) : wF X (.ref f) S.σ (valsB vs tr) S2.H Q := by
  intro pins s us I rv
  have R3 := R2.rl e2
  unfold xCall at g2
  by_cases hn : vs.length = n
  · rw [if_pos hn] at g2
    have hA : ∀ a ∈ ownU (stk vs tr), S2.Z a = none ∧ ∃ o, S2.H a = some o ∧ (∀ xs, o ≠ .tup xs) ∧ ∀ u w, o ≠ .frz u w := fun a m => by
      obtain ⟨c, hc, m⟩ := of_ownU m
      exact Ob.own c.d c.k c.t (R3.tm c (List.mem_append_left _ hc)).1 a m
    have zz : Same S2.Z (frzZ S2.Z S2.H (ownU (stk vs tr))) := fun b o e => by
      unfold frzZ
      split
      · rename_i h
        rw [(hA b h).1] at e; cases e
      · exact e
    have zh : Same (frzZ S2.Z S2.H (ownU (stk vs tr))) S2.H := fun b o e => by
      unfold frzZ at e
      split at e
      · exact e
      · exact R3.zh _ _ e
    have ob := stk_frz (X := X) zz l2 (H := S2.H) fun c hc => ⟨(R3.tm c (List.mem_append_left _ hc)).1, fun a m => by unfold frzZ; rw [if_pos (ownU_mem hc a m)]⟩
    have step : ∀ {Z' H' : Hp}, Step (frzZ S2.Z S2.H (ownU (stk vs tr))) S2.H Z' H' → Step S2.Z S2.H (hideZ Z' (ownU (stk vs tr))) H' := fun {Z' H'} s => by
      refine ⟨fun b o e => ?_, s.hh, fun b o e => ?_⟩
      · have nb : b ∉ ownU (stk vs tr) := fun m => by rw [(hA b m).1] at e; cases e
        unfold hideZ
        rw [if_neg nb]
        exact s.zz _ _ (zz _ _ e)
      · unfold hideZ at e
        split at e
        · cases e
        · rename_i nb
          rcases s.zn b o e with q | q
          · unfold frzZ at q
            rw [if_neg nb] at q
            exact .inl q
          · exact .inr q
    have sameH : ∀ {Z' H' : Hp}, Same Z' H' → Same (hideZ Z' (ownU (stk vs tr))) H' := fun {Z' H'} s b o e => by
      unfold hideZ at e
      split at e
      · cases e
      · exact s _ _ e
    have R4 := argsBack a2 e2 R2
    rw [valsB_of] at rv
    refine wpAny_call (codeAny_mono (F.run X.A X.stack s S2.H us _ (dsB vs) tr Q (fun cls d H' => W cls d S.σ H') hr I.env0 rv (by simp [dsB, hn]) zh ob ?_) fun r s' hq => ?_)
    · cases q : φ (dsB vs) with
      | er => rw [q] at g2; exact g2
      | rz c =>
        rw [q] at g2
        intro Z' H' s zh' C hC
        have sc := step s
        have R5 : (S.put (hideZ Z' (ownU (stk vs tr))) H' S.τ).R X.K := Rl.step R4 sc (sameH zh')
        exact g2 (S.put (hideZ Z' (ownU (stk vs tr))) H' S.τ) (Sta.aft_put (a2.st.trans sc)) rfl R5 C hC
      | ok r =>
        rw [q] at g2
        intro Z' H' t s zh' o nd fr
        have sc := step s
        have R5 : (S.put (hideZ Z' (ownU (stk vs tr))) H' S.τ).R X.K := Rl.step R4 sc (sameH zh')
        have low : ∀ a ∈ own r.1 r.2 t, a ∉ ownR S.ρ S.ts ++ ownT S.τ := fun a m z => by
          obtain ⟨_, o, e, _⟩ := Rl.own_z R4 a z
          have e' : S2.H a = some o := e
          rw [fr a m] at e'; cases e'
        have h0 : ∀ a ∈ own r.1 r.2 t, S.H0 a = none := fun a m => Same.free (Rl.h0 R4) (fr a m)
        have hb : ∀ a ∈ own r.1 r.2 t, S.H a = none := fun a m => a2.st.hh.free (fr a m)
        have hid : Ob X.K Z' H' none r.2 t → Ob X.K (hideZ Z' (ownU (stk vs tr))) H' none r.2 t := fun o => by
          refine Ob.hide (fun a m xs rd => ?_) r.2 t o
          obtain ⟨_, o', e, n1, n2⟩ := hA a m
          have e' : Z' a = some o' := s.zz _ _ (by unfold frzZ; rw [if_pos m]; exact e)
          rcases rd with rd | ⟨u, rd⟩
          · rw [rd] at e'; cases e'; exact n1 _ rfl
          · rw [rd] at e'; cases e'; exact n2 _ _ rfl
        have fin : ∀ k' : Lv, Ob X.K (hideZ Z' (ownU (stk vs tr))) H' k' r.2 t → (∀ a ∈ own k' r.2 t, a ∈ own r.1 r.2 t) → (own k' r.2 t).Nodup → GoodE X W S Q (.ok ⟨false, k', r.2⟩) → Q (valOf r.2 t) H' := fun k' o hs hnd g => by
          refine g (S.put (hideZ Z' (ownU (stk vs tr))) H' (⟨false, k', r.2, t⟩ :: S.τ)) t (Sta.aft_put (a2.st.trans sc)) rfl ?_ fun _ a m => hb a (hs a m)
          exact Rl.push R5 o (fun z => nomatch z) fun _ => ⟨hnd, fun a m => low a (hs a m), fun a m => h0 a (hs a m)⟩
        replace g2 : GoodE X W S Q (if flat r.2 = true then .ok ⟨false, none, r.2⟩ else if r.1 = none then .ok ⟨false, none, r.2⟩ else if (vs.all fun v => v.k == some 0 || flat v.d) = true then .ok ⟨false, r.1, r.2⟩ else .er) := g2
        by_cases hf : flat r.2 = true
        · rw [if_pos hf] at g2
          exact fin none (hid (flat_ob r.2 r.1 none t hf o)) (fun a m => by rw [flat_own r.2 none t hf] at m; cases m) (by rw [flat_own r.2 none t hf]; exact List.Pairwise.nil) g2
        · rw [if_neg hf] at g2
          by_cases hk : r.1 = none
          · rw [if_pos hk] at g2
            rw [hk] at o
            exact fin none (hid o) (fun a m => by rw [hk]; exact m) (by rw [← hk]; exact nd) g2
          · rw [if_neg hk] at g2
            split at g2
            · rename_i hall
              have e0 : ownU (stk vs tr) = [] := by
                have : ∀ a, a ∉ ownU (stk vs tr) := fun a m => by
                  obtain ⟨c, hc, m⟩ := of_ownU m
                  obtain ⟨v, t, hv, e⟩ := stk_mem hc
                  subst e
                  rw [List.all_eq_true] at hall
                  have := hall v hv
                  rw [Bool.or_eq_true] at this
                  rcases this with h | h
                  · have h : v.k = some 0 := by simpa using h
                    have m : a ∈ own v.k v.d t := m
                    rw [h, own_zero] at m; cases m
                  · have m : a ∈ own v.k v.d t := m
                    rw [flat_own v.d v.k t h] at m; cases m
                exact List.eq_nil_iff_forall_not_mem.mpr this
              have ez : hideZ Z' (ownU (stk vs tr)) = Z' := by
                funext a
                unfold hideZ
                rw [e0]
                simp
              exact fin r.1 (by rw [ez]; exact o) (fun _ m => m) nd g2
            · exact g2.elim
    · cases r with
      | error e => exact tk _ _ (XE.of_call I (fun cls d H' h => h) hq)
      | ok fl =>
        cases fl with
        | ret u => exact I.after hq
        | next => exact False.elim hq
        | brk => exact False.elim hq
        | cont => exact False.elim hq
  · rw [if_neg hn] at g2
    exact g2.elim
theorem se_call {x : Str} {p pos : Pos} {e : Expr} {es : List Expr} {xs : List (Rho → Res BV)} (F : FnS X.prog X.w X.K X.mg X.base k f n φ) (hr : RoomG k X.A) (tk : Takes X W) (hg : Gl X x) (hm : X.mg x = some (.ref f)) (hk : PySem.W.keepIn X.K (.ref f) = true)
    (ha : SA X W true (e :: es) xs) (hdb : (x == ("__debug__" : Str)) = false) (he : starEach (e :: es) X.env = (false, eval e X.env) :: starEach es X.env) (hpl : (backTo pos (starEach es X.env)).any (·.1) = false) : SE X W (.Call (.Name x p) (e :: es) [] pos) (xA true (xCall φ n) xs) := by
  intro S Q R g pins s I
  refine wpAny_Call_Name_kw (ld_glob I hg hm ?_ hdb)
  refine PySem.W.callWith_K (h₀ := X.base) I.ok.mod.kin hk (thn (SA.go ha R g (Q' := fun vs H1 => wF X (.ref f) S.σ vs H1 Q) (fun vs S2 tr a2 l2 e2 R2 f2 sd g2 => fn_go F hr tk R a2 l2 e2 R2 f2 g2) pos pins s I) fun us s1 hh => ?_) he hpl
  obtain ⟨vs, H1, I1, r, q⟩ := hh
  exact ⟨I1.kIn, q pins s1 us I1 r⟩
end
end Ev

set_option Elab.async false
set_option linter.all false
set_option maxRecDepth 100000
namespace Ev
open PySem PySem.Spec PyProof.Rows L2

/-! ### slots stored -/
def killA (i : Nat) (ρ : Rho) : Rho := ρ.map fun s => match s with
  | .al j p => if j = i then .em else .al j p
  | s => s
def setSl (ρ : Rho) (i : Nat) (s : Sl) : Rho := (killA i ρ).set i s
def partS : Sl → Tr → List Addr
  | .va k d, t => own k d t
  | _, _ => []
theorem ownR_cons (s : Sl) (ρ : Rho) (t : Tr) (ts : List Tr) : ownR (s :: ρ) (t :: ts) = partS s t ++ ownR ρ ts := by
  cases s <;> simp [ownR, partS]
theorem ownR_kill {i : Nat} : ∀ {ρ : Rho} {ts : List Tr}, ownR (killA i ρ) ts = ownR ρ ts
  | [], ts => by cases ts <;> rfl
  | s :: ρ, [] => by cases s <;> simp [killA, ownR]
  | s :: ρ, t :: ts => by
    have ih := ownR_kill (i := i) (ρ := ρ) (ts := ts)
    unfold killA at ih ⊢
    rw [List.map_cons, ownR_cons, ownR_cons, ih]
    congr 1
    cases s with
    | em => rfl
    | ex a0 => rfl
    | va k d => rfl
    | al j p =>
      by_cases h : j = i
      · simp [h, partS]
      · simp [h, partS]
theorem ownR_split : ∀ {ρ : Rho} {ts : List Tr} {i : Nat}, i < ρ.length → i < ts.length → ∃ s t rest, ρ[i]? = some s ∧ ts[i]? = some t ∧ (ownR ρ ts).Perm (partS s t ++ rest) ∧ ∀ s' t', (ownR (ρ.set i s') (ts.set i t')).Perm (partS s' t' ++ rest)
  | [], _, _, h, _ => by simp at h
  | _ :: _, [], _, _, h => by simp at h
  | s :: ρ, t :: ts, 0, _, _ => ⟨s, t, ownR ρ ts, by simp, by simp, by rw [ownR_cons], fun s' t' => by rw [List.set_cons_zero, List.set_cons_zero, ownR_cons]⟩
  | s :: ρ, t :: ts, i + 1, h1, h2 => by
    obtain ⟨s0, t0, rest, e1, e2, p1, p2⟩ := ownR_split (ρ := ρ) (ts := ts) (i := i) (by simpa using h1) (by simpa using h2)
    refine ⟨s0, t0, partS s t ++ rest, by simpa using e1, by simpa using e2, ?_, fun s' t' => ?_⟩
    · rw [ownR_cons]
      refine (List.Perm.append_left _ p1).trans ?_
      rw [← List.append_assoc, ← List.append_assoc]
      exact List.Perm.append_right _ List.perm_append_comm
    · rw [List.set_cons_succ, List.set_cons_succ, ownR_cons]
      refine (List.Perm.append_left _ (p2 s' t')).trans ?_
      rw [← List.append_assoc, ← List.append_assoc]
      exact List.Perm.append_right _ List.perm_append_comm
theorem killA_get {i j : Nat} {ρ : Rho} {s : Sl} (h : (killA i ρ)[j]? = some s) : ∃ s0, ρ[j]? = some s0 ∧ ((s = s0 ∧ ∀ p, s0 ≠ .al i p) ∨ s = .em) := by
  unfold killA at h
  rw [List.getElem?_map] at h
  cases e : ρ[j]? with
  | none => rw [e] at h; cases h
  | some s0 =>
    rw [e] at h
    refine ⟨s0, rfl, ?_⟩
    simp only [Option.map_some, Option.some.injEq] at h
    subst h
    cases s0 with
    | em => exact .inr rfl
    | ex a0 => exact .inl ⟨rfl, fun p z => nomatch z⟩
    | va k d => exact .inl ⟨rfl, fun p z => nomatch z⟩
    | al j' p =>
      dsimp only
      by_cases q : j' = i
      · rw [if_pos q]; exact .inr rfl
      · rw [if_neg q]
        exact .inl ⟨rfl, fun p' z => by cases z; exact q rfl⟩
theorem killA_va {i j : Nat} {ρ : Rho} {k : Lv} {d : D} (h : ρ[j]? = some (.va k d)) : (killA i ρ)[j]? = some (.va k d) := by
  unfold killA
  rw [List.getElem?_map, h]
  rfl
theorem killA_length {i : Nat} {ρ : Rho} : (killA i ρ).length = ρ.length := by simp [killA]
/-- nothing of the slots is lent to the values under way -/
def Clean (τ : List Tm) : Prop := ∀ c ∈ τ, c.b = true → own c.k c.d c.t = []
section
variable {K : PySem.W.Frag} {Z0 H0 Z H : Hp} {σ : L2.St} {ρ : Rho} {ts : List Tr} {τ : List Tm}
/-- the value on top is stored in the slot i -/
theorem Rl.store {k : Lv} {d : D} {t : Tr} {i : Nat} (R : Rl K Z0 H0 Z H σ ρ ts (⟨false, k, d, t⟩ :: τ)) (hc : Clean τ) (hi : i < σ.length) : Rl K Z0 H0 Z H (σ.set i (some (valOf d t))) (setSl ρ i (.va k d)) (ts.set i t) τ := by
  have l1 : i < ρ.length := by rw [R.lr]; exact hi
  have l2 : i < ts.length := by rw [R.lt]; exact hi
  obtain ⟨s0, t1, rest, e1, e2, p1, p2⟩ := ownR_split (ρ := killA i ρ) (ts := ts) (i := i) (by rw [killA_length]; exact l1) l2
  rw [ownR_kill] at p1
  have p2 := p2 (.va k d) t
  have n := R.nd
  have eT : ownT (⟨false, k, d, t⟩ :: τ) = own k d t ++ ownT τ := by simp [ownT]
  rw [eT] at n
  have o0 := R.o0
  rw [eT] at o0
  have key : ∀ a, a ∈ ownR (setSl ρ i (.va k d)) (ts.set i t) ++ ownT τ → a ∈ ownR ρ ts ++ (own k d t ++ ownT τ) := fun a m => by
    rcases List.mem_append.mp m with m | m
    · have m := p2.mem_iff.mp m
      rcases List.mem_append.mp m with m | m
      · exact List.mem_append_right _ (List.mem_append_left _ m)
      · exact List.mem_append_left _ (p1.mem_iff.mpr (List.mem_append_right _ m))
    · exact List.mem_append_right _ (List.mem_append_right _ m)
  refine ⟨R.zh, R.h0, R.z0, R.zn, ?_, ?_, fun j s e => ?_, fun c hcm => ?_, ?_, fun a m => o0 a (key a m)⟩
  · simp only [setSl, List.length_set, killA_length]; exact R.lr
  · simp only [List.length_set]; exact R.lt
  · by_cases hj : j = i
    · subst hj
      unfold setSl at e
      rw [List.getElem?_set_self (by rw [killA_length]; exact l1)] at e
      cases e
      exact ⟨t, by rw [List.getElem?_set_self l2], (R.tm _ List.mem_cons_self).1, by rw [List.getElem?_set_self hi]⟩
    · unfold setSl at e
      rw [List.getElem?_set_ne (Ne.symm hj)] at e
      obtain ⟨s0, e0, h⟩ := killA_get e
      rcases h with ⟨rfl, hal⟩ | rfl
      · have q := R.sl j s e0
        cases s with
        | em => trivial
        | ex a0 =>
          show (σ.set i _)[j]? = _
          rw [List.getElem?_set_ne (Ne.symm hj)]
          exact q
        | va k' d' =>
          obtain ⟨t', q1, q2, q3⟩ := q
          exact ⟨t', by rw [List.getElem?_set_ne (Ne.symm hj)]; exact q1, q2, by rw [List.getElem?_set_ne (Ne.symm hj)]; exact q3⟩
        | al j' p =>
          obtain ⟨k1, d1, t1, k2, d2, t2, q1, q2, q3, q4⟩ := q
          have hj' : j' ≠ i := fun z => hal p (by rw [z])
          refine ⟨k1, d1, t1, k2, d2, t2, ?_, by rw [List.getElem?_set_ne (Ne.symm hj')]; exact q2, q3, by rw [List.getElem?_set_ne (Ne.symm hj)]; exact q4⟩
          unfold setSl
          rw [List.getElem?_set_ne (Ne.symm hj')]
          exact killA_va q1
      · trivial
  · obtain ⟨o, hb⟩ := R.tm c (List.mem_cons_of_mem _ hcm)
    exact ⟨o, fun q => ⟨(hb q).1, fun a m => by rw [hc c hcm q] at m; cases m⟩⟩
  · have q : (partS (.va k d) t ++ rest ++ ownT τ).Nodup := by
      have n' : ((partS s0 t1 ++ rest) ++ (own k d t ++ ownT τ)).Nodup := (List.Perm.append_right _ p1).nodup_iff.mp n
      obtain ⟨a1, a2, a3⟩ := List.nodup_append.mp n'
      obtain ⟨b1, b2, b3⟩ := List.nodup_append.mp a1
      obtain ⟨c1, c2, c3⟩ := List.nodup_append.mp a2
      refine List.nodup_append.mpr ⟨List.nodup_append.mpr ⟨c1, b2, fun a ha b hb e => ?_⟩, c2, fun a ha b hb e => ?_⟩
      · subst e
        exact a3 a (List.mem_append_right _ hb) a (List.mem_append_left _ ha) rfl
      · subst e
        rcases List.mem_append.mp ha with ha | ha
        · exact c3 a ha a hb rfl
        · exact a3 a (List.mem_append_right _ ha) a (List.mem_append_right _ hb) rfl
    exact (List.Perm.append_right _ p2).nodup_iff.mpr q
/-- slots are forgotten: ρ' knows less -/
theorem Rl.forget {i : Nat} (R : Rl K Z0 H0 Z H σ ρ ts τ) (hc : Clean τ) : Rl K Z0 H0 Z H σ (setSl ρ i .em) ts τ := by
  by_cases hi : i < ρ.length
  · have l2 : i < ts.length := by rw [R.lt, ← R.lr]; exact hi
    obtain ⟨s0, t1, rest, e1, e2, p1, p2⟩ := ownR_split (ρ := killA i ρ) (ts := ts) (i := i) (by rw [killA_length]; exact hi) l2
    rw [ownR_kill] at p1
    have p2 := p2 .em t1
    have et : ts.set i t1 = ts := by
      refine List.ext_getElem? fun j => ?_
      by_cases hj : j = i
      · subst hj; rw [List.getElem?_set_self l2, e2]
      · rw [List.getElem?_set_ne (Ne.symm hj)]
    rw [et] at p2
    have sub : ∀ a, a ∈ ownR (setSl ρ i .em) ts → a ∈ ownR ρ ts := fun a m => p1.mem_iff.mpr (List.mem_append_right _ (by simpa [partS] using p2.mem_iff.mp m))
    refine ⟨R.zh, R.h0, R.z0, R.zn, by simp only [setSl, List.length_set, killA_length]; exact R.lr, R.lt, fun j s e => ?_, fun c hcm => ?_, ?_, fun a m => ?_⟩
    · by_cases hj : j = i
      · subst hj
        unfold setSl at e
        rw [List.getElem?_set_self (by rw [killA_length]; exact hi)] at e
        cases e
        trivial
      · unfold setSl at e
        rw [List.getElem?_set_ne (Ne.symm hj)] at e
        obtain ⟨s0, e0, h⟩ := killA_get e
        rcases h with ⟨rfl, hal⟩ | rfl
        · have q := R.sl j s e0
          cases s with
          | em => trivial
          | ex a0 => exact q
          | va k' d' => exact q
          | al j' p =>
            obtain ⟨k1, d1, t1, k2, d2, t2, q1, q2, q3, q4⟩ := q
            have hj' : j' ≠ i := fun z => hal p (by rw [z])
            refine ⟨k1, d1, t1, k2, d2, t2, ?_, q2, q3, q4⟩
            unfold setSl
            rw [List.getElem?_set_ne (Ne.symm hj')]
            exact killA_va q1
        · trivial
    · obtain ⟨o, hb⟩ := R.tm c hcm
      exact ⟨o, fun q => ⟨(hb q).1, fun a m => by rw [hc c hcm q] at m; cases m⟩⟩
    · have n' : ((partS s0 t1 ++ rest) ++ ownT τ).Nodup := (List.Perm.append_right _ p1).nodup_iff.mp R.nd
      obtain ⟨a1, a2, a3⟩ := List.nodup_append.mp n'
      refine (List.Perm.append_right _ p2).nodup_iff.mpr ?_
      exact List.nodup_append.mpr ⟨by simpa [partS] using (List.nodup_append.mp a1).2.1, a2, fun a ha b hb => a3 a (List.mem_append_right _ (by simpa [partS] using ha)) b hb⟩
    · rcases List.mem_append.mp m with m | m
      · exact R.o0 a (List.mem_append_left _ (sub a m))
      · exact R.o0 a (List.mem_append_right _ m)
  · have e : setSl ρ i .em = killA i ρ := by
      unfold setSl
      rw [List.set_eq_of_length_le]
      rw [killA_length]
      omega
    rw [e]
    refine ⟨R.zh, R.h0, R.z0, R.zn, by rw [killA_length]; exact R.lr, R.lt, fun j s e => ?_, fun c hcm => ?_, by rw [ownR_kill]; exact R.nd, by rw [ownR_kill]; exact R.o0⟩
    · obtain ⟨s0, e0, h⟩ := killA_get e
      rcases h with ⟨rfl, hal⟩ | rfl
      · have q := R.sl j s e0
        cases s with
        | em => trivial
        | ex a0 => exact q
        | va k' d' => exact q
        | al j' p =>
          obtain ⟨k1, d1, t1, k2, d2, t2, q1, q2, q3, q4⟩ := q
          exact ⟨k1, d1, t1, k2, d2, t2, killA_va q1, q2, q3, q4⟩
      · trivial
    · obtain ⟨o, hb⟩ := R.tm c hcm
      exact ⟨o, fun q => ⟨(hb q).1, fun a m => by rw [hc c hcm q] at m; cases m⟩⟩
/-- the slot i is shared from here on -/
theorem Rl.share {i : Nat} {k : Lv} {d : D} {t : Tr} (R : Rl K Z0 H0 Z H σ ρ ts τ) (hc : Clean τ) (e : ρ[i]? = some (.va k d)) (e' : ts[i]? = some t) : Rl K Z0 H0 (frzZ Z H (own k d t)) H σ (ρ.set i (.va (some 0) d)) ts τ := by
  have hi : i < ρ.length := (List.getElem?_eq_some_iff.mp e).1
  have l2 : i < ts.length := by rw [R.lt, ← R.lr]; exact hi
  obtain ⟨s0, t1, rest, e1, e2, p1, p2⟩ := ownR_split (ρ := ρ) (ts := ts) (i := i) hi l2
  rw [e] at e1; cases e1
  rw [e'] at e2; cases e2
  have p2 := p2 (.va (some 0) d) t
  have et : ts.set i t = ts := by
    refine List.ext_getElem? fun j => ?_
    by_cases hj : j = i
    · subst hj; rw [List.getElem?_set_self l2, e']
    · rw [List.getElem?_set_ne (Ne.symm hj)]
  rw [et] at p2
  have p2' : (ownR (ρ.set i (.va (some 0) d)) ts).Perm rest := by simpa [partS, own_zero] using p2
  have p1' : (ownR ρ ts).Perm (own k d t ++ rest) := p1
  obtain ⟨t2, q1, ob, q2⟩ := R.sl i _ e
  rw [e'] at q1; cases q1
  have oz : ∀ a ∈ own k d t, Z a = none := fun a m => (Ob.own d k t ob a m).1
  have n' : ((own k d t ++ rest) ++ ownT τ).Nodup := (List.Perm.append_right _ p1').nodup_iff.mp R.nd
  obtain ⟨a1, a2, a3⟩ := List.nodup_append.mp n'
  obtain ⟨b1, b2, b3⟩ := List.nodup_append.mp a1
  have zz : Same Z (frzZ Z H (own k d t)) := fun b o q => by
    unfold frzZ
    split
    · rename_i h
      rw [oz b h] at q; cases q
    · exact q
  have off : ∀ a, a ∈ ownR (ρ.set i (.va (some 0) d)) ts ++ ownT τ → a ∉ own k d t := fun a m h => by
    rcases List.mem_append.mp m with m | m
    · exact b3 a h a (p2'.mem_iff.mp m) rfl
    · exact a3 a (List.mem_append_left _ h) a m rfl
  have old : ∀ a, a ∈ ownR (ρ.set i (.va (some 0) d)) ts ++ ownT τ → a ∈ ownR ρ ts ++ ownT τ := fun a m => by
    rcases List.mem_append.mp m with m | m
    · exact List.mem_append_left _ (p1'.mem_iff.mpr (List.mem_append_right _ (p2'.mem_iff.mp m)))
    · exact List.mem_append_right _ m
  have keep : ∀ a, a ∈ ownR (ρ.set i (.va (some 0) d)) ts ++ ownT τ → frzZ Z H (own k d t) a = none := fun a m => by
    unfold frzZ
    rw [if_neg (off a m)]
    exact (R.own_z a (old a m)).1
  have subz : ∀ {p : List Nat} {k' : Lv} {d' : D} {t' : Tr}, sub k d t p = some (k', d', t') → ∃ k2, sub (some 0) d t p = some (k2, d', t') := by
    have main : ∀ (p : List Nat) (k k1 : Lv) (d : D) (t : Tr) (k' : Lv) (d' : D) (t' : Tr), sub k d t p = some (k', d', t') → ∃ k2, sub k1 d t p = some (k2, d', t') := by
      intro p
      induction p with
      | nil =>
        intro k k1 d t k' d' t' h
        simp only [sub, Option.some.injEq, Prod.mk.injEq] at h
        obtain ⟨_, rfl, rfl⟩ := h
        exact ⟨k1, rfl⟩
      | cons j p ih =>
        intro k k1 d t k' d' t' h
        simp only [sub] at h ⊢
        cases q : (kidsD d)[j]? with
        | none => rw [q] at h; cases h
        | some d1 =>
          cases q2 : t.kids[j]? with
          | none => rw [q, q2] at h; cases h
          | some t1 =>
            rw [q, q2] at h
            exact ih _ _ _ _ _ _ _ h
    exact fun {p k' d' t'} h => main p _ _ _ _ _ _ _ h
  refine ⟨fun b o q => ?_, R.h0, R.z0.trans zz, fun b o q => ?_, by rw [List.length_set]; exact R.lr, R.lt, fun j s es => ?_, fun c hcm => ?_, ?_, fun a m => R.o0 a (old a m)⟩
  · unfold frzZ at q
    split at q
    · exact q
    · exact R.zh _ _ q
  · unfold frzZ at q
    split at q
    · rename_i h
      exact .inr (R.o0 b (List.mem_append_left _ (p1'.mem_iff.mpr (List.mem_append_left _ h))))
    · exact R.zn b o q
  · by_cases hj : j = i
    · subst hj
      rw [List.getElem?_set_self hi] at es
      cases es
      exact ⟨t, e', Ob.freeze zz d k t ob fun a m => by unfold frzZ; rw [if_pos m], q2⟩
    · rw [List.getElem?_set_ne (Ne.symm hj)] at es
      have q := R.sl j s es
      cases s with
      | em => trivial
      | ex a0 => exact q
      | va k' d' =>
        obtain ⟨t', r1, r2, r3⟩ := q
        have m : ∀ a ∈ own k' d' t', a ∈ ownR (ρ.set i (.va (some 0) d)) ts ++ ownT τ := fun a m => List.mem_append_left _ (ownR_get (by rw [List.getElem?_set_ne (Ne.symm hj)]; exact es) r1 a m)
        exact ⟨t', r1, Ob.ext zz d' k' t' r2 (fun a q => keep a (m a q)) (fun _ _ _ q => q), r3⟩
      | al j' p =>
        obtain ⟨k1, d1, t1, k2, d2, t2, r1, r2, r3, r4⟩ := q
        by_cases hj' : j' = i
        · subst hj'
          rw [e] at r1; cases r1
          rw [e'] at r2; cases r2
          obtain ⟨k3, r3'⟩ := subz r3
          exact ⟨some 0, d, t, k3, d2, t2, by rw [List.getElem?_set_self hi], e', r3', r4⟩
        · exact ⟨k1, d1, t1, k2, d2, t2, by rw [List.getElem?_set_ne (Ne.symm hj')]; exact r1, r2, r3, r4⟩
  · obtain ⟨o, hb⟩ := R.tm c hcm
    have m : ∀ a ∈ own c.k c.d c.t, a ∈ ownR (ρ.set i (.va (some 0) d)) ts ++ ownT τ := fun a m => by
      cases q : c.b with
      | true => rw [hc c hcm q] at m; cases m
      | false => exact List.mem_append_right _ (ownT_mem hcm q a m)
    exact ⟨Ob.ext zz _ _ _ o (fun a q => keep a (m a q)) (fun _ _ _ q => q), fun q => ⟨(hb q).1, fun a m => by rw [hc c hcm q] at m; cases m⟩⟩
  · exact List.nodup_append.mpr ⟨p2'.nodup_iff.mpr b2, a2, fun a ha b hb => a3 a (List.mem_append_right _ (p2'.mem_iff.mp ha)) b hb⟩
end
end Ev

set_option Elab.async false
set_option linter.all false
set_option maxRecDepth 100000
namespace Ev
open PySem PySem.Spec PyProof.Rows L2

theorem frz_same {Z H : Hp} {A : List Addr} (h : ∀ a ∈ A, Z a = none) : Same Z (frzZ Z H A) := fun b o e => by
  unfold frzZ
  split
  · rename_i q
    rw [h b q] at e; cases e
  · exact e

/-! ### statements -/
inductive SR where
  | nx (ρ : Rho)
  | bk (ρ : Rho)
  | ct (ρ : Rho)
  | rt (k : Lv) (d : D)
  | rz (c : Str) (ρ : Rho)
  | er
/-- S' lies behind S: other slots, the shared part has grown -/
structure AftS (S S' : Sta) : Prop where
  z0 : S'.Z0 = S.Z0
  h0 : S'.H0 = S.H0
  zz : Same S.Z S'.Z
theorem AftS.refl {S : Sta} : AftS S S := ⟨rfl, rfl, Same.refl _⟩
theorem AftS.trans {S S1 S2 : Sta} (a : AftS S S1) (b : AftS S1 S2) : AftS S S2 := ⟨b.z0.trans a.z0, b.h0.trans a.h0, a.zz.trans b.zz⟩
theorem Aft.s {S S' : Sta} (a : Aft S S') : AftS S S' := ⟨a.z0, a.h0, a.st.zz⟩
def GoodS (X : Cx) (W : WX) (S : Sta) (D : Ends) : SR → Prop
  | .nx ρ => ∀ S' : Sta, AftS S S' → S'.ρ = ρ → S'.τ = S.τ → S'.R X.K → D.nx S'.σ S'.H
  | .bk ρ => ∀ S' : Sta, AftS S S' → S'.ρ = ρ → S'.τ = S.τ → S'.R X.K → D.bk S'.σ S'.H
  | .ct ρ => ∀ S' : Sta, AftS S S' → S'.ρ = ρ → S'.τ = S.τ → S'.R X.K → D.ct S'.σ S'.H
  | .rt k d => ∀ (Z' H' : Hp) (t : Tr), Step S.Z0 S.H0 Z' H' → Same Z' H' → Ob X.K Z' H' k d t → (own k d t).Nodup → (∀ a ∈ own k d t, S.H0 a = none) → D.rt (valOf d t) H'
  | .rz c ρ => ∀ S' : Sta, AftS S S' → S'.ρ = ρ → S'.τ = S.τ → S'.R X.K → Raised X W c S'.σ S'.H
  | .er => False
def SSt (X : Cx) (W : WX) (st : Stmt) (s : Rho → SR) : Prop := ∀ (S : Sta) (D : Ends), S.R X.K → Clean S.τ → GoodS X W S D (s S.ρ) → wS X st D S.σ S.H
def SSs (X : Cx) (W : WX) (st : List Stmt) (s : Rho → SR) : Prop := ∀ (S : Sta) (D : Ends), S.R X.K → Clean S.τ → GoodS X W S D (s S.ρ) → wSs X st D S.σ S.H
theorem GoodS.later {X : Cx} {W : WX} {S S1 : Sta} {D : Ends} {r : SR} (g : GoodS X W S D r) (a : AftS S S1) (e : S1.τ = S.τ) : GoodS X W S1 D r := by
  cases r with
  | nx ρ => exact fun S2 a2 e1 e2 R => g S2 (a.trans a2) e1 (e2.trans e) R
  | bk ρ => exact fun S2 a2 e1 e2 R => g S2 (a.trans a2) e1 (e2.trans e) R
  | ct ρ => exact fun S2 a2 e1 e2 R => g S2 (a.trans a2) e1 (e2.trans e) R
  | rz c ρ => exact fun S2 a2 e1 e2 R => g S2 (a.trans a2) e1 (e2.trans e) R
  | rt k d =>
    intro Z' H' t s zh o nd fr
    rw [a.z0, a.h0] at s
    exact g Z' H' t s zh o nd fun x m => by have := fr x m; rw [a.h0] at this; exact this
  | er => exact g
/-- the result of what comes behind -/
def SR.seq (r : SR) (t : Rho → SR) : SR := match r with
  | .nx ρ => t ρ
  | r => r
@[simp] theorem SR.seq_nx (ρ : Rho) (t : Rho → SR) : (SR.nx ρ).seq t = t ρ := Eq.trans rfl rfl
@[simp] theorem SR.seq_bk (ρ : Rho) (t : Rho → SR) : (SR.bk ρ).seq t = .bk ρ := Eq.trans rfl rfl
@[simp] theorem SR.seq_ct (ρ : Rho) (t : Rho → SR) : (SR.ct ρ).seq t = .ct ρ := Eq.trans rfl rfl
@[simp] theorem SR.seq_rt (k : Lv) (d : D) (t : Rho → SR) : (SR.rt k d).seq t = .rt k d := Eq.trans rfl rfl
@[simp] theorem SR.seq_rz (c : Str) (ρ : Rho) (t : Rho → SR) : (SR.rz c ρ).seq t = .rz c ρ := Eq.trans rfl rfl
@[simp] theorem SR.seq_er (t : Rho → SR) : SR.er.seq t = .er := Eq.trans rfl rfl
def sNil : Rho → SR := fun ρ => .nx ρ
def sSeq (s t : Rho → SR) : Rho → SR := fun ρ => (s ρ).seq t
section
variable {X : Cx} {W : WX} {S : Sta} {De : Ends}
theorem ss_nil : SSs X W [] sNil := fun S D R _ g => wSs_of pss_nil (g S AftS.refl rfl rfl R)
theorem ss_cons {st : Stmt} {rest : List Stmt} {s t : Rho → SR} (h1 : SSt X W st s) (h2 : SSs X W rest t) : SSs X W (st :: rest) (sSeq s t) := by
  intro S D R hc g
  refine wSs_of (pss_cons ps_w pss_w) (h1 S { D with nx := fun σ H => wSs X rest D σ H } R hc ?_)
  unfold sSeq at g
  cases q : s S.ρ <;> rw [q] at g <;> first | exact g | skip
  rename_i ρ
  replace g : GoodS X W S D (t ρ) := g
  intro S1 a1 e1 e2 R1
  refine h2 S1 D R1 (by rw [e2]; exact hc) ?_
  rw [e1]
  exact GoodS.later g a1 e2
theorem ss_one {st : Stmt} {s : Rho → SR} (h1 : SSt X W st s) : SSs X W [st] s := fun S D R hc g => wSs_of (pss_one ps_w) (h1 S D R hc g)
/-- a ghost step ahead: the state is seen otherwise -/
theorem ss_ghost {st : List Stmt} {s : Rho → SR} {g : Rho → Rho} (h : SSs X W st s) (hg : ∀ S : Sta, S.R X.K → Clean S.τ → ∃ Z', Same S.Z Z' ∧ ({ S with Z := Z', ρ := g S.ρ } : Sta).R X.K) : SSs X W st (fun ρ => s (g ρ)) := by
  intro S D R hc gd
  obtain ⟨Z', zz, R'⟩ := hg S R hc
  exact h { S with Z := Z', ρ := g S.ρ } D R' hc (GoodS.later gd ⟨rfl, rfl, zz⟩ rfl)
/-- the slots of is are forgotten -/
def fgt (is : List Nat) (ρ : Rho) : Rho := is.foldl (fun ρ i => setSl ρ i .em) ρ
theorem fgt_go : ∀ (is : List Nat) (S : Sta), S.R X.K → Clean S.τ → ∃ Z', Same S.Z Z' ∧ ({ S with Z := Z', ρ := fgt is S.ρ } : Sta).R X.K
  | [], S, R, _ => ⟨S.Z, Same.refl _, R⟩
  | i :: is, S, R, hc => by
    have R1 : ({ S with ρ := setSl S.ρ i .em } : Sta).R X.K := Rl.forget R hc
    obtain ⟨Z', zz, R2⟩ := fgt_go is { S with ρ := setSl S.ρ i .em } R1 hc
    exact ⟨Z', zz, R2⟩
theorem ss_fgt {st : List Stmt} {s : Rho → SR} (is : List Nat) (h : SSs X W st s) : SSs X W st (fun ρ => s (fgt is ρ)) := ss_ghost h (fgt_go is)
/-- the slots of is are shared -/
def shr1 (i : Nat) (ρ : Rho) : Rho := match ρ[i]? with
  | some (.va _ d) => ρ.set i (.va (some 0) d)
  | _ => ρ
def shr (is : List Nat) (ρ : Rho) : Rho := is.foldl (fun ρ i => shr1 i ρ) ρ
theorem shr_go : ∀ (is : List Nat) (S : Sta), S.R X.K → Clean S.τ → ∃ Z', Same S.Z Z' ∧ ({ S with Z := Z', ρ := shr is S.ρ } : Sta).R X.K
  | [], S, R, _ => ⟨S.Z, Same.refl _, R⟩
  | i :: is, S, R, hc => by
    have step : ∃ Z', Same S.Z Z' ∧ ({ S with Z := Z', ρ := shr1 i S.ρ } : Sta).R X.K := by
      unfold shr1
      cases e : S.ρ[i]? with
      | none => exact ⟨S.Z, Same.refl _, R⟩
      | some s =>
        cases s with
        | em => exact ⟨S.Z, Same.refl _, R⟩
        | ex a0 => exact ⟨S.Z, Same.refl _, R⟩
        | al j p => exact ⟨S.Z, Same.refl _, R⟩
        | va k d =>
          obtain ⟨t, e', o, _⟩ := Rl.sl R i _ e
          have R1 := Rl.share R hc e e'
          exact ⟨_, frz_same fun a m => (Ob.own d k t o a m).1, R1⟩
    obtain ⟨Z1, zz1, R1⟩ := step
    obtain ⟨Z', zz, R2⟩ := shr_go is { S with Z := Z1, ρ := shr1 i S.ρ } R1 hc
    exact ⟨Z', zz1.trans zz, R2⟩
theorem ss_shr {st : List Stmt} {s : Rho → SR} (is : List Nat) (h : SSs X W st s) : SSs X W st (fun ρ => s (shr is ρ)) := ss_ghost h (shr_go is)
/-- an expression, then a statement's end -/
def eS (x : Rho → Res BV) (f : Rho → BV → SR) : Rho → SR := fun ρ => match x ρ with
  | .ok v => f ρ v
  | .rz c => .rz c ρ
  | .er => .er
theorem oneS {e : Expr} {x : Rho → Res BV} (he : SE X W e x) {f : Rho → BV → SR} {Q' : VK} (R : S.R X.K) (g : GoodS X W S De (eS x f S.ρ))
    (k : ∀ (v : BV) (S1 : Sta) (t : Tr), Aft S S1 → S1.τ = ⟨v.b, v.k, v.d, t⟩ :: S.τ → S1.R X.K → Fresh S v t → GoodS X W S De (f S.ρ v) → Q' (valOf v.d t) S1.H) : wE X e S.σ S.H Q' := by
  refine he S Q' R ?_
  unfold eS at g
  cases q : x S.ρ with
  | er => rw [q] at g; exact g
  | rz c =>
    rw [q] at g
    intro S1 a1 e1 R1
    exact g S1 a1.s a1.ρ e1 R1
  | ok v =>
    rw [q] at g
    exact fun S1 t a1 e1 R1 f1 => k v S1 t a1 e1 R1 f1 g
def tS (x : Rho → Res Bool) (f : Rho → Bool → SR) : Rho → SR := fun ρ => match x ρ with
  | .ok v => f ρ v
  | .rz c => .rz c ρ
  | .er => .er
theorem testS {e : Expr} {x : Rho → Res Bool} (he : STs X W e x) {f : Rho → Bool → SR} {Q' : Bool → Hp → Prop} (R : S.R X.K) (g : GoodS X W S De (tS x f S.ρ))
    (k : ∀ (b : Bool) (S1 : Sta), Aft S S1 → S1.τ = S.τ → S1.R X.K → GoodS X W S De (f S.ρ b) → Q' b S1.H) : wT X e S.σ S.H Q' := by
  refine he S Q' R ?_
  unfold tS at g
  cases q : x S.ρ with
  | er => rw [q] at g; exact g
  | rz c =>
    rw [q] at g
    intro S1 a1 e1 R1
    exact g S1 a1.s a1.ρ e1 R1
  | ok v =>
    rw [q] at g
    exact fun S1 a1 e1 R1 => k v S1 a1 e1 R1 g
/-- what is stored -/
def asgV (v : BV) : Res (Lv × D) := if flat v.d = true then .ok (none, v.d) else if v.b = false then .ok (v.k, v.d) else if v.k = some 0 then .ok (some 0, v.d) else .er
theorem asgV_rz {v : BV} {c : Str} : asgV v ≠ .rz c := by
  intro h
  unfold asgV at h
  split at h
  · cases h
  · split at h
    · cases h
    · split at h <;> cases h
theorem asg_go {Z0 H0 Z H : Hp} {σ : L2.St} {ρ : Rho} {ts : List Tr} {τ : List Tm} {v : BV} {r : Lv × D} {t : Tr} (h : asgV v = .ok r) (R : Rl X.K Z0 H0 Z H σ ρ ts (⟨v.b, v.k, v.d, t⟩ :: τ)) : r.2 = v.d ∧ Rl X.K Z0 H0 Z H σ ρ ts (⟨false, r.1, r.2, t⟩ :: τ) := by
  unfold asgV at h
  have o := (R.tm _ List.mem_cons_self).1
  split at h
  · rename_i hf
    cases h
    exact ⟨rfl, R.pop.push0 (flat_ob v.d v.k none t hf o) (flat_own v.d none t hf)⟩
  · split at h
    · rename_i hb
      cases h
      rw [hb] at R
      exact ⟨rfl, R⟩
    · split at h <;> cases h
      rename_i hk
      rw [hk] at o
      exact ⟨rfl, R.pop.push0 o (own_zero v.d t)⟩
def sAsg (i : Nat) (x : Rho → Res BV) : Rho → SR := eS x fun ρ v => match asgV v with
  | .ok r => .nx (setSl ρ i (.va r.1 r.2))
  | _ => .er
/-- the store of the value on top -/
theorem store_go {v : BV} {i : Nat} {S1 : Sta} {t : Tr} (R : S.R X.K) (hc : Clean S.τ) (hi : i < S.σ.length) (a1 : Aft S S1) (e1 : S1.τ = ⟨v.b, v.k, v.d, t⟩ :: S.τ) (R1 : S1.R X.K)
    (g : GoodS X W S De (match asgV v with | .ok r => .nx (setSl S.ρ i (.va r.1 r.2)) | _ => .er)) : De.nx (S.σ.set i (some (valOf v.d t))) S1.H := by
  cases q : asgV v with
  | er => rw [q] at g; exact g.elim
  | rz c => exact absurd q asgV_rz
  | ok r =>
    rw [q] at g
    obtain ⟨ed, R2⟩ := asg_go q (R1.rl e1)
    have R3 := Rl.store R2 hc (by rw [a1.σ]; exact hi)
    rw [ed] at R3
    have g3 := g ⟨S1.Z0, S1.H0, S1.Z, S1.H, S1.σ.set i (some (valOf v.d t)), setSl S1.ρ i (.va r.1 v.d), S1.ts.set i t, S.τ⟩ ⟨a1.z0, a1.h0, a1.st.zz⟩ (by show setSl S1.ρ i _ = _; rw [a1.ρ, ed]) rfl R3
    rw [← a1.σ]
    exact g3
theorem lt_of_N {i : Nat} {x : Str} {pins : List (Addr × Obj)} {σ : L2.St} {H : Hp} {s : Shared} (I : Inv X pins σ H s) (hi : X.N[i]? = some x) : i < σ.length := by
  rw [I.len]
  exact (List.getElem?_eq_some_iff.mp hi).1
theorem st_asg {i : Nat} {x : Str} {e : Expr} {xe : Rho → Res BV} {pos pos' : Pos} (hN : X.N.Nodup) (hi : X.N[i]? = some x) (hx : Loc X.env.scope x) (he : SE X W e xe) (hs : swapsWith e (some (.Name x pos')) pos.line X.env = pure false)
    (hf : X.fn x = true ∨ X.env.scope.names.lookup x = some .local) : SSt X W (.Assign [.Name x pos'] e pos) (sAsg i xe) := by
  intro S D R hc g pins s I
  refine wS_of (ps_set hN hi hx pe_w hs hf) ?_ pins s I
  exact oneS he R g fun v S1 t a1 e1 R1 f1 g1 => store_go R hc (lt_of_N I hi) a1 e1 R1 g1
def sRet (x : Rho → Res BV) : Rho → SR := eS x fun _ v => if flat v.d = true then .rt none v.d else .rt v.k v.d
theorem st_ret {e : Expr} {xe : Rho → Res BV} {pos : Pos} (he : SE X W e xe) : SSt X W (.Return (some e) pos) (sRet xe) := by
  intro S D R hc g
  refine wS_of (ps_ret pe_w) (oneS he R g fun v S1 t a1 e1 R1 f1 g1 => ?_)
  have R2 := R1.rl e1
  obtain ⟨o, hb⟩ := R2.tm _ List.mem_cons_self
  have st : Step S.Z0 S.H0 S1.Z S1.H := by
    have h1 : S1.Z0 = S.Z0 := a1.z0
    have h2 : S1.H0 = S.H0 := a1.h0
    rw [← h1, ← h2]
    exact ⟨R2.z0, R2.h0, R2.zn⟩
  have eh : S1.H0 = S.H0 := a1.h0
  by_cases hf : flat v.d = true
  · rw [if_pos hf] at g1
    refine g1 S1.Z S1.H t st R2.zh (flat_ob v.d v.k none t hf o) ?_ fun a m => ?_
    · rw [flat_own v.d none t hf]; exact List.Pairwise.nil
    · rw [flat_own v.d none t hf] at m; cases m
  · rw [if_neg hf] at g1
    have nd : (own v.k v.d t).Nodup ∧ ∀ a ∈ own v.k v.d t, a ∈ ownR S1.ρ S1.ts ++ ownT (⟨v.b, v.k, v.d, t⟩ :: S.τ) := by
      cases q : v.b with
      | true => exact ⟨(hb q).1, fun a m => List.mem_append_left _ ((hb q).2 a m)⟩
      | false =>
        have n := R2.nd
        obtain ⟨n1, n2, n3⟩ := List.nodup_append.mp n
        rw [q] at n2
        simp only [ownT, if_neg (show ¬ (false = true) by simp)] at n2
        refine ⟨(List.nodup_append.mp n2).1, fun a m => List.mem_append_right _ ?_⟩
        simp only [ownT, if_neg (show ¬ (false = true) by simp)]
        exact List.mem_append_left _ m
    exact g1 S1.Z S1.H t st R2.zh o nd.1 fun a m => by rw [← eh]; exact R2.o0 a (nd.2 a m)
def sRetN : Rho → SR := fun _ => .rt none .none
theorem st_retN {pos : Pos} : SSt X W (.Return none pos) sRetN := by
  intro S D R hc g
  have R' : Rl X.K S.Z0 S.H0 S.Z S.H S.σ S.ρ S.ts S.τ := R
  exact wS_of ps_retN (g S.Z S.H t0 ⟨R'.z0, R'.h0, R'.zn⟩ R'.zh (by simp only [Ob]) List.Pairwise.nil fun a m => by cases m)
def sIf (c : Rho → Res Bool) (a b : Rho → SR) : Rho → SR := tS c fun ρ k => if k = true then a ρ else b ρ
theorem st_if {c : Expr} {a b : List Stmt} {pos : Pos} {xc : Rho → Res Bool} {sa sb : Rho → SR} (hc : STs X W c xc) (ha : SSs X W a sa) (hb : SSs X W b sb) : SSt X W (.If c a b pos) (sIf xc sa sb) := by
  intro S D R hcl g
  refine wS_of (ps_if pt_w pss_w pss_w) (testS hc R g fun k S1 a1 e1 R1 g1 => ?_)
  cases k with
  | true =>
    rw [if_pos rfl] at g1 ⊢
    have z := ha S1 D R1 (by rw [e1]; exact hcl) (by rw [a1.ρ]; exact GoodS.later g1 a1.s e1)
    rw [a1.σ] at z
    exact z
  | false =>
    rw [if_neg (by simp)] at g1 ⊢
    have z := hb S1 D R1 (by rw [e1]; exact hcl) (by rw [a1.ρ]; exact GoodS.later g1 a1.s e1)
    rw [a1.σ] at z
    exact z
def sBk : Rho → SR := fun ρ => .bk ρ
def sCt : Rho → SR := fun ρ => .ct ρ
theorem st_break {pos : Pos} : SSt X W (.Break pos) sBk := fun S D R _ g => wS_of ps_break (g S AftS.refl rfl rfl R)
theorem st_continue {pos : Pos} : SSt X W (.Continue pos) sCt := fun S D R _ g => wS_of ps_continue (g S AftS.refl rfl rfl R)
theorem st_pass {pos : Pos} : SSt X W (.Pass pos) sNil := fun S D R _ g => wS_of ps_pass (g S AftS.refl rfl rfl R)
theorem st_doc {x : Str} {j pos pos'} : SSt X W (.Expr (.Constant (.str x) j pos) pos') sNil := fun S D R _ g => wS_of ps_doc (g S AftS.refl rfl rfl R)
def sEx (x : Rho → Res BV) : Rho → SR := eS x fun ρ _ => .nx ρ
theorem st_expr {e : Expr} {xe : Rho → Res BV} {pos : Pos} (he : SE X W e xe) (hs : swapsWith e none pos.line X.env = pure false) : SSt X W (.Expr e pos) (sEx xe) := by
  intro S D R hc g
  refine wS_of (ps_expr pe_w hs) (oneS he R g fun v S1 t a1 e1 R1 f1 g1 => ?_)
  have R2 := R1.pop (X := X) e1
  rw [← a1.σ]
  exact g1 (S1.put S1.Z S1.H S.τ) (a1.put Step.refl).s a1.ρ rfl R2
/-! ### raise -/
def sRz (c : Str) : Rho → SR := fun ρ => .rz c ρ
theorem st_raise {e : Expr} {C : Addr} {c : Str} {pos : Pos} (hc : X.calm = true) (tk : Takes X W) (hm : X.mg c = some (.ref C)) (he : PMk X e (fun _ H Q => Q (.ref C) none H)) : SSt X W (.Raise (some e) none pos) (sRz c) := by
  intro S D R hcl g
  exact wS_of (ps_raise hc tk he) (g S AftS.refl rfl rfl R C hm)
end
end Ev

set_option Elab.async false
set_option linter.all false
set_option maxRecDepth 100000
namespace Ev
open PySem PySem.Spec PyProof.Rows L2

/-! ### a def as a whole -/
def startR (n : Nat) (ds : List D) : Rho := ds.map (fun d => Sl.va (some 0) d) ++ List.replicate (n - ds.length) .em
/-- a def of n slots and m parameters, by its body -/
def runB (s : Rho → SR) (n m : Nat) (ds : List D) : Res (Lv × D) := if ds.length = m then
    match s (startR n ds) with
    | .nx _ => .ok (none, .none)
    | .rt k d => .ok (k, d)
    | .rz c _ => .rz c
    | _ => .er
  else .er
theorem valsOf_get' : ∀ {ds : List D} {ts : List Tr} {i : Nat} {d : D}, ds.length = ts.length → ds[i]? = some d → ∃ t, ts[i]? = some t ∧ (valsOf ds ts)[i]? = some (valOf d t) := fun {ds ts i d} hl h => by
  have hi : i < ts.length := by rw [← hl]; exact (List.getElem?_eq_some_iff.mp h).1
  exact ⟨ts[i], by simp [hi], valsOf_get h (by simp [hi])⟩
theorem start_rl {K : PySem.W.Frag} {Z H : Hp} {N : List Str} {ds : List D} {ts : List Tr} (zh : Same Z H) (o : Obs K Z H (some 0) ds ts) (hl : ds.length ≤ N.length) :
    Rl K Z H Z H (L2.start N (valsOf ds ts)) (startR N.length ds) (ts ++ List.replicate (N.length - ds.length) t0) [] := by
  have el := o.len
  have lv : (valsOf ds ts).length = ds.length := valsOf_length el
  have own0 : ∀ (ds : List D) (ts : List Tr) (m : Nat), ds.length = ts.length → ownR (ds.map (fun d => Sl.va (some 0) d) ++ List.replicate m .em) (ts ++ List.replicate m t0) = [] := by
    intro ds
    induction ds with
    | nil =>
      intro ts m h
      cases ts with
      | nil =>
        induction m with
        | zero => rfl
        | succ m ih => simpa [List.replicate_succ, ownR] using ih
      | cons => simp at h
    | cons d ds ih =>
      intro ts m h
      cases ts with
      | nil => simp at h
      | cons t ts =>
        have := ih ts m (by simpa using h)
        simp only [List.map_cons, List.cons_append, ownR, own_zero, List.nil_append]
        exact this
  refine ⟨zh, Same.refl _, Same.refl _, fun a u e => .inl e, ?_, ?_, fun i s e => ?_, (fun c hc => by cases hc), ?_, fun a m => ?_⟩
  · simp only [startR, L2.start, List.length_append, List.length_map, List.length_replicate, lv]
  · simp only [L2.start, List.length_append, List.length_map, List.length_replicate, lv, el]
  · unfold startR at e
    by_cases hi : i < ds.length
    · rw [List.getElem?_append_left (by simpa using hi), List.getElem?_map] at e
      cases q : ds[i]? with
      | none => rw [q] at e; cases e
      | some d =>
        rw [q] at e
        cases e
        obtain ⟨t, e1, e2⟩ := valsOf_get' el q
        obtain ⟨t', e3, o'⟩ := o.get q
        rw [e1] at e3; cases e3
        refine ⟨t, ?_, o', ?_⟩
        · rw [List.getElem?_append_left (by rw [← el]; exact hi)]; exact e1
        · unfold L2.start
          rw [List.getElem?_append_left (by rw [List.length_map, lv]; exact hi), List.getElem?_map, e2]
          rfl
    · rw [List.getElem?_append_right (by simp only [List.length_map]; omega)] at e
      have : s = .em := by
        have := List.mem_of_getElem? e
        exact (List.mem_replicate.mp this).2
      subst this
      trivial
  · show (ownR (startR N.length ds) _ ++ ownT []).Nodup
    unfold startR
    rw [own0 ds ts _ el]
    exact List.Pairwise.nil
  · unfold startR at m
    rw [own0 ds ts _ el] at m
    cases m
section
variable {P : Program} {w : World} {K : PySem.W.Frag} {mg : Str → Option Value} {base : Heap}
/-- the context of the def st at f, called with Around A -/
abbrev bodyX (P : Program) (w : World) (K : PySem.W.Frag) (mg : Str → Option Value) (base : Heap) (N : List Str) (qual : Str) (st : Stmt) (f : Addr) (cd : Value) (A : Around) (outer : List Env) (s : Shared) (H : Hp) (E : XK) : Cx :=
  cxOf (L2.CX P w) P w K mg base N qual (defScope st) f cd A outer s H E
abbrev bodyW (E : XK) : WX := fun cls d _ H => E cls d H
theorem fnS_of {x qual : Str} {st : Stmt} {f : Addr} {fd : FuncData} {N ps : List Str} {k : Nat} {sb : Rho → SR} (F : Fun K x qual st f fd) (Sc : FnScope N ps (defScope st)) (hN : ps.length ≤ N.length)
    (hb : ∀ (kV doc pm : Value) (an : Option Addr) (cdv ct : Value) (us : List Value), us.length = ps.length → bindArgs (PySem.W.fnOf x qual (defArgs st) (defBody st) (defScope st) .none kV doc pm an cdv ct) ⟨us, []⟩ = pure (ps.zip us))
    (body : ∀ (cd : Value) (A : Around) (outer : List Env) (s : Shared) (H : Hp) (E : XK), RoomG k (A.deeper (envOfC qual (defScope st) s.heap.objs.size f cd)) → SSs (bodyX P w K mg base N qual st f cd A outer s H E) (bodyW E) (defBody st) sb) :
    FnS P w K mg base (k + 1) f ps.length (runB sb N.length ps.length) := by
  obtain ⟨oc, od, kV, doc, pm, an, cdv, ct, osl, rfl, lk, hcd⟩ := F.ex
  refine ⟨fun A outer s H us Z ds ts Q E hr e0 rv hl zh o g => ?_⟩
  have el : us.length = ps.length := by rw [← rv.length, valsOf_length o.len, hl]
  have hK : K.In s.heap := e0.mod.kin.keeps fun b u e => (e0.bs b u e).1
  have hlim : s.heap.NoLimit := e0.mod.nolimit.keeps fun b u e => (e0.bs b u e).1
  have kinds : ∀ y ∈ ps.zip us, (defScope st).names.lookup y.1 = some .local ∨ ((defScope st).names.lookup y.1 = some .cell ∧ ((cellsFrom (s.heap.objs.size + 1) (defScope st).names []).lookup y.1).isSome = true) := fun ⟨n, v⟩ hy =>
    (Sc.par n (List.of_mem_zip hy).1).elim .inl fun q => .inr ⟨q, PySem.W.cellsFrom_some _ _ _ (.inl q)⟩
  refine codeAny_call_function hr.r.depth (hK _ _ lk) rfl Sc.co Sc.gen rfl (PySem.W.codeRec_of hK hcd) ((BindsTo.of_eq (hb kV doc pm an cdv ct us el)) _ _ _ _ ?_)
  refine wpAny_newFunctionEnv_cells Sc.kind kinds fun env he s1 xc => ?_
  subst he
  refine ⟨hlim.keeps xc.toInCall.keep, codeAny_func ?_⟩
  have lv : (valsOf ds ts).length = ps.length := by rw [valsOf_length o.len, hl]
  have I : Inv (bodyX P w K mg base N qual st f cdv A outer s H E) [] (start N (valsOf ds ts)) H s1 := inv_start Sc hr.r.hd e0 lv rv xc
  have R := start_rl (N := N) zh o (by rw [hl]; exact hN)
  have hrun := body cdv A outer s H E ⟨hr.r.deeper _, hr.g⟩ ⟨Z, H, Z, H, _, _, _, []⟩ { nx := fun _ H' => Q .non H', rt := Q } R (fun c hc => by cases hc) ?_ [] s1 I
  · have fin : ∀ {σ' : L2.St} {H' : Hp} {v : V} {u : Value} {s' : Shared}, Inv (bodyX P w K mg base N qual st f cdv A outer s H E) [] σ' H' s' → RelV v u → Q v H' → CE outer P w H s Q u s' := fun {σ' H' v u s'} J rv q => ⟨v, H', J.os, J.bare, J.base, J.hok, rv, q⟩
    refine wpAny_mono hrun (fun fl s' hs => ?_) fun e s' hs => hs
    cases fl with
    | ret u =>
      obtain ⟨v, σ', H', J, rv, q⟩ := hs
      exact fin J rv q
    | next =>
      obtain ⟨σ', H', J, q⟩ := hs
      exact fin (v := .non) (u := .none) J rfl q
    | brk => obtain ⟨_, _, _, q⟩ := hs; exact q.elim
    | cont => obtain ⟨_, _, _, q⟩ := hs; exact q.elim
  · unfold runB at g
    rw [if_pos hl] at g
    show GoodS _ _ _ _ (sb (startR N.length ds))
    cases q : sb (startR N.length ds) with
    | nx ρ =>
      rw [q] at g
      intro S' a e1 e2 R'
      have R2 : Rl K S'.Z0 S'.H0 S'.Z S'.H S'.σ S'.ρ S'.ts S'.τ := R'
      have z0 : S'.Z0 = Z := a.z0
      have h0 : S'.H0 = H := a.h0
      refine g S'.Z S'.H t0 ⟨by rw [← z0]; exact R2.z0, by rw [← h0]; exact R2.h0, by rw [← z0, ← h0]; exact R2.zn⟩ R2.zh ?_ List.Pairwise.nil fun a m => by cases m
      simp only [Ob]
    | bk ρ => rw [q] at g; exact g.elim
    | ct ρ => rw [q] at g; exact g.elim
    | rt k d =>
      rw [q] at g
      exact fun Z' H' t st zh o nd fr => g Z' H' t st zh o nd fr
    | rz c ρ =>
      rw [q] at g
      intro S' a e1 e2 R' C hC
      have R2 : Rl K S'.Z0 S'.H0 S'.Z S'.H S'.σ S'.ρ S'.ts S'.τ := R'
      have z0 : S'.Z0 = Z := a.z0
      have h0 : S'.H0 = H := a.h0
      exact g S'.Z S'.H ⟨by rw [← z0]; exact R2.z0, by rw [← h0]; exact R2.h0, by rw [← z0, ← h0]; exact R2.zn⟩ R2.zh C hC
    | er => rw [q] at g; exact g
end
/-! ### the end of a law -/
theorem ints_len {ns : List Int} : (ns.map fun n => (PyData.int n : D)).length = ns.length := List.length_map _
theorem obs_ints {K : PySem.W.Frag} {Z H : Hp} {k : Lv} : ∀ ns : List Int, Obs K Z H k (ns.map PyData.int) (ns.map fun _ => t0)
  | [] => by simp only [List.map_nil, Obs]
  | n :: ns => by
    simp only [List.map_cons, Obs]
    exact ⟨by simp only [Ob], obs_ints ns⟩
theorem vals_ints' : ∀ ns : List Int, valsOf (ns.map PyData.int) (ns.map fun _ => t0) = ns.map V.int
  | [] => rfl
  | n :: ns => by
    simp only [List.map_cons, valsOf, valOf, vals_ints' ns]
theorem law_go {P : Program} {w : World} {K : PySem.W.Frag} {mg mb : Str → Option Value} {k : Nat} {fa a : Addr} {φ : List D → Res (Lv × D)} {s : Shared} {vs : List Value} {ns : List Int}
    (KX : K.In s.heap) (hmg : s.heap.Ns mainGlobals mg) (hmb : s.heap.Ns builtinsNs mb) (hbb : ∀ x : Str, x ≠ "__name__" → mb x = bootBuiltins x) (hlim : s.heap.NoLimit) (hgen : s.gens = #[])
    (hobj : s.heap.get? a = some { cls := .type "list", data := .seq vs.toArray }) (hi : IntsAre vs ns) (hlen : ns.length ≤ sizeLine) (hr : RoomG k callerA)
    (F : ∀ base : Heap, K.In base → base.Ns mainGlobals mg → FnS P w K mg base k fa 1 φ) (hφ : φ [.list (ns.map .int)] = .ok (none, .bool true)) :
    codeAny (model P w) callerA (.call (.ref fa) ⟨[.ref a], []⟩) (fun r s' => r = .ok (.ret (.bool true)) ∧ OldK s.heap s'.heap ∧ s'.os = s.os ∧ AllBare s'.gens) s := by
  have rv := vals_ints hi
  -- the heap H tracks the script or nothing
  have main : ∀ H : Hp, (∀ b, H b = none ∨ ∃ o xs, H b = some (.frz o (.lst xs))) → RdL K H a (ns.map V.int) → HOk P w H s.heap → (∀ b, H b ≠ none → b = a ∧ K.lookup a = none) →
      codeAny (model P w) callerA (.call (.ref fa) ⟨[.ref a], []⟩) (fun r s' => r = .ok (.ret (.bool true)) ∧ OldK s.heap s'.heap ∧ s'.os = s.os ∧ AllBare s'.gens) s := by
    intro H only hs ok hat
    have keep : ∀ {b : Addr} {o : Obj} {es : Array DictEntry} {ep : Nat}, s.heap.get? b = some o → o.data = .dict es ep → H b = none := fun {b o es ep} e dd => by
      cases q : H b with
      | none => rfl
      | some u =>
        obtain ⟨rfl, _⟩ := hat b (by rw [q]; simp)
        rw [hobj] at e
        cases e
        cases dd
    have nsB : ∀ {b : Addr} {m : Str → Option Value}, s.heap.Ns b m → (hidT s.heap H).Ns b m := fun {b m} ⟨o, es, ep, e, dd, r⟩ => ⟨o, es, ep, hidT_get e (keep e dd), dd, r⟩
    have kB : K.In (hidT s.heap H) := fun b o e => hidT_get (KX b o e) (by
      cases q : H b with
      | none => rfl
      | some u =>
        obtain ⟨rfl, n⟩ := hat b (by rw [q]; simp)
        rw [n] at e; cases e)
    have md : Mod K mg (hidT s.heap H) := ⟨kB, nsB hmg, ⟨mb, nsB hmb, hbb⟩, let ⟨mc, h1, h2⟩ := hlim; ⟨mc, nsB h1, h2⟩⟩
    have e0 : Env0 P w K mg (hidT s.heap H) callerA [] s H := ⟨rfl, md, fun b o e => of_hidT e, Nat.le_of_eq (hidT_size _ _), trivial, (fun b hb => by cases hb), ok, .of_eq hgen⟩
    have ob : Obs K H H (some 0) [PyData.list (ns.map .int)] [.n a (ns.map fun _ => t0)] := by
      simp only [Obs, Ob, and_true]
      refine ⟨?_, obs_ints ns⟩
      unfold LstAt
      rw [if_pos rfl]
      show RdL K H a (valsOf (ns.map PyData.int) (ns.map fun _ => t0))
      rw [vals_ints']
      exact hs
    refine codeAny_mono ((F _ kB (nsB hmg)).run callerA [] s H [.ref a] H [.list (ns.map .int)] [.n a (ns.map fun _ => t0)] (fun v _ => v = .bl true) (fun _ _ _ => False) hr e0 (.cons rfl .nil) rfl (Same.refl _) ob ?_) fun r s' h => ?_
    · rw [hφ]
      intro Z' H' t _ _ _ _ _
      rfl
    · cases r with
      | error e =>
        obtain ⟨_, _, _, _, _, _, _, _, _, _, _, _, z⟩ := h
        exact z.elim
      | ok fl =>
        cases fl with
        | next => exact False.elim h
        | brk => exact False.elim h
        | cont => exact False.elim h
        | ret u =>
          obtain ⟨v, H', os, bare, un, ok', rr, q⟩ := h
          have q' : v = .bl true := q
          subst q'
          obtain rfl : u = Value.bool true := rr
          refine ⟨rfl, OldK.of_keep fun b o e => ?_, os, bare⟩
          rcases only b with z | ⟨o', xs, z⟩
          · exact un.keep b o e z (fun m => by cases m) (fun m => by cases m)
          · obtain ⟨e1, _⟩ := ok b _ z
            obtain ⟨e2, _⟩ := ok' b _ (un.frzs b o' _ z)
            rw [e] at e1; cases e1
            exact e2
  have len' : (ns.map V.int).length ≤ sizeLine := by rw [List.length_map]; exact hlen
  cases hk : K.lookup a with
  | some o =>
    have e := KX a o hk
    rw [hobj] at e
    cases e
    exact main (fun _ => none) (fun _ => .inl rfl) (.inr ⟨vs, _, rv, len', hk⟩) (fun b u z => by cases z) fun b z => absurd rfl z
  | none =>
    have hself : (fun b => if b = a then some (HO.frz { cls := .type "list", data := .seq vs.toArray } (.lst (ns.map V.int))) else none : Hp) a = some (.frz { cls := .type "list", data := .seq vs.toArray } (.lst (ns.map V.int))) := if_pos rfl
    refine main (fun b => if b = a then some (.frz { cls := .type "list", data := .seq vs.toArray } (.lst (ns.map V.int))) else none) (fun b => ?_) (.inl (.inr ⟨_, hself⟩)) (fun b u z => ?_) fun b z => ?_
    · by_cases hb : b = a
      · exact .inr ⟨_, _, if_pos hb⟩
      · exact .inl (if_neg hb)
    · by_cases hb : b = a
      · subst hb
        rw [hself] at z
        cases z
        exact ⟨hobj, len', vs, _, rv, hobj⟩
      · dsimp only at z
        rw [if_neg hb] at z; cases z
    · by_cases hb : b = a
      · exact ⟨hb, hk⟩
      · exact absurd (if_neg hb) z
/-- THE END: the law's def answers True at every script -/
theorem law_end {l : PySem.W.OpenLaw} {n k : Nat} {q : Program} {loose : List Str} {XP : (Str → Option Value) → Heap → Prop} {YP : World → Heap → Prop} {d : DefRec} {φ : List D → Res (Lv × D)}
    (hn : l.most = some n) (hn2 : n ≤ sizeLine) (hdf : d.params.defaults = []) (hr : RoomG k callerA)
    (F : ∀ (w : World) (mg : Str → Option Value) (fa : Addr) (h : Heap), YP w h → h.Ns mainGlobals mg → mg d.name = some (.ref fa) → ∃ K : PySem.W.Frag, K.In h ∧ ∀ base : Heap, K.In base → base.Ns mainGlobals mg → FnS l.prog w K mg base k fa 1 φ)
    (hφ : ∀ ns : List Int, ns.length ≤ n → φ [.list (ns.map .int)] = .ok (none, .bool true)) :
    PySem.W.WalkO q loose XP YP l.row.toRowW d [] (fun f vs => PySem.call f vs) := by
  refine Att.attach_call hn hdf fun w s₀ s₁ mg mb fa o pm cd doc a vs ns G Y ho hd hcd hmg hobj hints hlen hgen => ?_
  obtain ⟨K, KX, hF⟩ := F w mg fa _ Y G.T.g hmg
  exact law_go KX G.T.g G.T.b G.T.builtins G.T.nolimit hgen hobj hints (Nat.le_trans hlen hn2) hr hF (hφ ns hlen)
end Ev

set_option Elab.async false
set_option linter.all false
set_option maxRecDepth 100000
namespace Ev
open PySem PySem.Spec PyProof.Rows L2

/-! ### what is walked -/
/-- the iterator J gives the items, while the values cs stand -/
structure ItG (K : PySem.W.Frag) (J : It) (items : List BV) (cs : List Tm) : Prop where
  go : ∀ {Z0 H0 Z H : Hp} {σ : L2.St} {ρ : Rho} {ts : List Tr} {τ : List Tm} {i : Nat} {v : BV}, Rl K Z0 H0 Z H σ ρ ts (cs ++ τ) → items[i]? = some v →
    J.go i H ∧ ∀ x H', J.yld i H x H' → ∃ Z' t, Step Z H Z' H' ∧ Same Z' H' ∧ Ob K Z' H' v.k v.d t ∧ own v.k v.d t = [] ∧ x = valOf v.d t
  stop : ∀ {Z0 H0 Z H : Hp} {σ : L2.St} {ρ : Rho} {ts : List Tr} {τ : List Tm} {i : Nat}, Rl K Z0 H0 Z H σ ρ ts (cs ++ τ) → items.length ≤ i → J.stop i H
def wPI (X : Cx) (tg iter : Expr) : TI := fun σ H R => ∀ (pins : List (Addr × Obj)) (s : Shared), Inv X pins σ H s →
  wpAny (model X.prog X.w) X.A (eval iter X.env) (fun v s1 => wpAny (model X.prog X.w) X.A (pyIter v) (PIE X pins σ tg R) X.xe s1) X.xe s
theorem pi_w {X : Cx} {tg iter : Expr} : PI X tg iter (wPI X tg iter) := ⟨fun pins s σ H R I h => h pins s I⟩
theorem wPI_of {X : Cx} {tg iter : Expr} {wi : TI} {σ : L2.St} {H : Hp} {R : It → Hp → Prop} (h : PI X tg iter wi) (q : wi σ H R) : wPI X tg iter σ H R := fun pins s I => h.run pins s σ H R I q
def GoodI (X : Cx) (W : WX) (cl : Bool) (S : Sta) (Q : It → Hp → Prop) : Res (List BV) → Prop
  | .ok items => ∀ (S' : Sta) (cs : List Tm) (J : It), Aft S S' → S'.τ = cs ++ S.τ → S'.R X.K → ItG X.K J items cs → (cl = true → Clean cs) → Q J S'.H
  | .rz c => ∀ S' : Sta, Aft S S' → S'.τ = S.τ → S'.R X.K → Raised X W c S'.σ S'.H
  | .er => False
def SI (X : Cx) (W : WX) (cl : Bool) (tg iter : Expr) (xi : Rho → Res (List BV)) : Prop := ∀ (S : Sta) (Q : It → Hp → Prop), S.R X.K → GoodI X W cl S Q (xi S.ρ) → wPI X tg iter S.σ S.H Q
def itm (d : D) : BV := ⟨false, if flat d = true then none else some 0, d⟩
theorem itm_own (d : D) (t : Tr) : own (itm d).k d t = [] := by
  unfold itm
  by_cases h : flat d = true
  · simp only [if_pos h]; exact flat_own d none t h
  · simp only [if_neg h]; exact own_zero d t
theorem itm_ob {K : PySem.W.Frag} {Z H : Hp} {k : Lv} {d : D} {t : Tr} (o : Ob K Z H k d t) (h : flat d = true ∨ k = some 0) : Ob K Z H (itm d).k d t := by
  unfold itm
  by_cases hf : flat d = true
  · simp only [if_pos hf]; exact flat_ob d k none t hf o
  · simp only [if_neg hf]
    rcases h with h | h
    · exact absurd h hf
    · rw [← h]; exact o
/-- the items of a list, of a tuple; cl: it must be shared -/
def itemsV (cl : Bool) (v : BV) : Res (List BV) := match v.d with
  | .list ds => if v.k = some 0 ∨ cl = false ∧ flats ds = true then .ok (ds.map itm) else .er
  | .tuple ds => if v.k = some 0 ∨ flat v.d = true then .ok (ds.map itm) else .er
  | _ => .er
def xItV (cl : Bool) (x : Rho → Res BV) : Rho → Res (List BV) := fun ρ => (x ρ).bind fun v => (settle true v).bind (itemsV cl)
section
variable {X : Cx} {W : WX} {S : Sta} {cl : Bool}
theorem settle_rz {fr : Bool} {v : BV} {c : Str} : settle fr v ≠ .rz c := by
  intro h
  unfold settle at h
  split at h
  · cases h
  · split at h
    · split at h <;> cases h
    · split at h <;> cases h
theorem itemsV_rz {v : BV} {c : Str} : itemsV cl v ≠ .rz c := by
  intro h
  unfold itemsV at h
  split at h
  · split at h <;> cases h
  · split at h <;> cases h
  · cases h
/-- a list or a tuple is walked -/
theorem pi_both {tg l : Expr} {tl : TE} (hl : PE X l tl) : PI X tg l (fun σ H R => tl σ H fun x H1 => ∃ a, x = .ref a ∧ ((∃ xs, SqL X.K H1 a xs ∧ R (Itl X.K a) H1) ∨ ∃ xs, SqT X.K H1 a xs ∧ R (Itt X.K a) H1)) := by
  refine ⟨fun pins s σ H R I h => thn (hl.run pins s σ H _ I h) fun v s1 ⟨x, H1, I1, rx, a, ex, q⟩ => ?_⟩
  subst ex
  cases rx
  have new : ∀ b ∈ [s1.heap.objs.size], FpOk X pins H1 b := fun b hb => by
    rw [List.mem_singleton.mp hb]
    exact I1.fpOk (Nat.le_refl _) (I1.hok.fresh (Nat.le_refl _))
  rcases q with ⟨xs, hq, q⟩ | ⟨xs, hq, q⟩
  · obtain ⟨its, _, hp, _⟩ := I1.list hq
    exact wpAny_pyIter_list hp.isList ⟨_, [s1.heap.objs.size], _, _, H1, rfl, I1.kept (t' := s1.toks) fun b o e => Heap.get?_push_of_some _ e, turn_list a _, ⟨_, Heap.get?_push_size _ rfl, rfl, rfl⟩, new, q⟩
  · obtain ⟨its, _, hp, _⟩ := I1.tuple hq
    exact wpAny_pyIter_tuple (show s1.heap.IsTuple a its.toArray from hp) ⟨_, [s1.heap.objs.size], _, _, H1, rfl, I1.kept (t' := s1.toks) fun b o e => Heap.get?_push_of_some _ e, turn_tuple a _, ⟨_, Heap.get?_push_size _ rfl, rfl, rfl⟩, new, q⟩
theorem get_itm {ds : List D} {i : Nat} {v : BV} (h : (ds.map itm)[i]? = some v) : ∃ d, ds[i]? = some d ∧ v = itm d := by
  rw [List.getElem?_map] at h
  cases e : ds[i]? with
  | none => rw [e] at h; cases h
  | some d => rw [e] at h; cases h; exact ⟨d, rfl, rfl⟩
theorem flats_mem : ∀ {l : List D}, flats l = true → ∀ d ∈ l, flat d = true
  | [], _, d, hd => by cases hd
  | a :: r, h, d, hd => by
    simp only [flats, Bool.and_eq_true] at h
    rcases List.mem_cons.mp hd with rfl | hd
    · exact h.1
    · exact flats_mem h.2 d hd
theorem kid_ok {k : Lv} {ds : List D} (h : k = some 0 ∨ flats ds = true) {d : D} (hd : d ∈ ds) : flat d = true ∨ pd k = some 0 := by
  rcases h with h | h
  · subst h; exact .inr rfl
  · exact .inl (flats_mem h d hd)
theorem itg_list {b : Bool} {k : Lv} {ds : List D} {t : Tr} (hk : k = some 0 ∨ flats ds = true) : ItG X.K (Itl X.K t.at) (ds.map itm) [⟨b, k, .list ds, t⟩] := by
  refine ⟨fun {Z0 H0 Z H σ ρ ts τ i v} R e => ?_, fun {Z0 H0 Z H σ ρ ts τ i} R hi => ?_⟩
  · obtain ⟨d, e1, rfl⟩ := get_itm e
    have o := (R.tm _ List.mem_cons_self).1
    simp only [Ob] at o
    obtain ⟨t', e2, o'⟩ := o.2.get e1
    have q := o.1.sq R.zh
    refine ⟨⟨_, _, q, valsOf_get e1 e2⟩, fun x H' y => ?_⟩
    obtain ⟨rfl, y⟩ := y
    have ex := y _ q
    rw [valsOf_get e1 e2] at ex
    cases ex
    exact ⟨Z, t', Step.refl, R.zh, itm_ob o' (kid_ok hk (List.mem_of_getElem? e1)), itm_own d t', rfl⟩
  · have o := (R.tm _ List.mem_cons_self).1
    simp only [Ob] at o
    refine ⟨_, o.1.sq R.zh, ?_⟩
    rw [valsOf_length o.2.len]
    rw [List.length_map] at hi
    exact hi
theorem itg_tup {b : Bool} {k : Lv} {ds : List D} {t : Tr} (hk : k = some 0 ∨ flat (.tuple ds) = true) : ItG X.K (Itt X.K t.at) (ds.map itm) [⟨b, k, .tuple ds, t⟩] := by
  have fl : flat (.tuple ds) = true → ∀ d ∈ ds, flat d = true := fun h => flats_mem (by simpa only [flat] using h)
  refine ⟨fun {Z0 H0 Z H σ ρ ts τ i v} R e => ?_, fun {Z0 H0 Z H σ ρ ts τ i} R hi => ?_⟩
  · obtain ⟨d, e1, rfl⟩ := get_itm e
    have o := (R.tm _ List.mem_cons_self).1
    simp only [Ob] at o
    obtain ⟨t', e2, o'⟩ := o.2.get e1
    have q := Same.sqT R.zh o.1
    refine ⟨⟨_, _, q, valsOf_get e1 e2⟩, fun x H' y => ?_⟩
    obtain ⟨rfl, y⟩ := y
    have ex := y _ q
    rw [valsOf_get e1 e2] at ex
    cases ex
    refine ⟨Z, t', Step.refl, R.zh, itm_ob o' ?_, itm_own d t', rfl⟩
    rcases hk with hk | hk
    · exact .inr hk
    · exact .inl (fl hk d (List.mem_of_getElem? e1))
  · have o := (R.tm _ List.mem_cons_self).1
    simp only [Ob] at o
    refine ⟨_, Same.sqT R.zh o.1, ?_⟩
    rw [valsOf_length o.2.len]
    rw [List.length_map] at hi
    exact hi
theorem si_seq {tg l : Expr} {x : Rho → Res BV} (hl : SE X W l x) : SI X W cl tg l (xItV cl x) := by
  intro S Q R g
  refine wPI_of (pi_both pe_w) (hl S _ R ?_)
  unfold xItV at g
  cases q : x S.ρ with
  | er => rw [q] at g; exact g
  | rz c => rw [q] at g; exact g
  | ok v =>
    rw [q] at g
    intro S1 t a1 e1 R1 f1
    replace g : GoodI X W cl S Q ((settle true v).bind (itemsV cl)) := g
    cases q2 : settle true v with
    | er => rw [q2] at g; exact g.elim
    | rz c => exact absurd q2 settle_rz
    | ok v' =>
      rw [q2] at g
      obtain ⟨S2, a2, h2, R2, e2, f2, _⟩ := settle_go q2 R1 e1 f1 a1
      have ed := settle_ok q2
      replace g : GoodI X W cl S Q (itemsV cl v') := g
      rw [← h2, ← ed]
      unfold itemsV at g
      have R3 := R2.rl e2
      have o := (R3.tm _ List.mem_cons_self).1
      cases hd : v'.d <;> rw [hd] at g <;> first | exact g.elim | skip
      · rename_i ds
        dsimp only at g
        split at g
        · rename_i hk
          rw [hd] at o e2
          simp only [Ob] at o
          exact ⟨t.at, rfl, .inl ⟨_, o.1.sq R3.zh, g S2 [⟨v'.b, v'.k, .list ds, t⟩] _ a2 e2 R2 (itg_list (hk.imp_right fun z => z.2)) fun q c hc _ => by
            rw [List.mem_singleton.mp hc]
            rcases hk with hk | hk
            · rw [hk]; exact own_zero _ t
            · rw [hk.1] at q; cases q⟩⟩
        · exact g.elim
      · rename_i ds
        dsimp only at g
        split at g
        · rename_i hk
          rw [hd] at o e2
          simp only [Ob] at o
          exact ⟨t.at, rfl, .inr ⟨_, Same.sqT R3.zh o.1, g S2 [⟨v'.b, v'.k, .tuple ds, t⟩] _ a2 e2 R2 (itg_tup hk) fun q c hc _ => by
            rw [List.mem_singleton.mp hc]
            rcases hk with hk | hk
            · rw [hk]; exact own_zero _ t
            · exact flat_own _ v'.k t hk⟩⟩
        · exact g.elim
/-! ranges -/
def intItems (lo c : Int) (n : Nat) : List BV := (List.range n).map fun i => ⟨false, none, .int (lo + (i : Nat) * c)⟩
theorem intItems_get {lo c : Int} {n i : Nat} {v : BV} (h : (intItems lo c n)[i]? = some v) : i < n ∧ v = ⟨false, none, .int (lo + (i : Nat) * c)⟩ := by
  unfold intItems at h
  rw [List.getElem?_map] at h
  by_cases hi : i < n
  · rw [List.getElem?_range hi] at h
    cases h
    exact ⟨hi, rfl⟩
  · rw [List.getElem?_eq_none_iff.mpr (by simpa using hi)] at h
    cases h
theorem intItems_length {lo c : Int} {n : Nat} : (intItems lo c n).length = n := by simp [intItems]
theorem itg_range {lo : Int} {n : Nat} : ItG X.K (Itr lo n) (intItems lo 1 n) [] := by
  refine ⟨fun {Z0 H0 Z H σ ρ ts τ i v} R e => ?_, fun {Z0 H0 Z H σ ρ ts τ i} R hi => ?_⟩
  · obtain ⟨hi, rfl⟩ := intItems_get e
    refine ⟨hi, fun x H' y => ?_⟩
    obtain ⟨rfl, rfl⟩ := y
    refine ⟨Z, t0, Step.refl, R.zh, by simp only [Ob], rfl, ?_⟩
    rw [Int.mul_one]
    rfl
  · rw [intItems_length] at hi
    exact hi
theorem itg_rangeC {lo c : Int} {n : Nat} : ItG X.K (Itc lo c n) (intItems lo c n) [] := by
  refine ⟨fun {Z0 H0 Z H σ ρ ts τ i v} R e => ?_, fun {Z0 H0 Z H σ ρ ts τ i} R hi => ?_⟩
  · obtain ⟨hi, rfl⟩ := intItems_get e
    refine ⟨hi, fun x H' y => ?_⟩
    obtain ⟨rfl, rfl⟩ := y
    exact ⟨Z, t0, Step.refl, R.zh, by simp only [Ob], rfl, rfl⟩
  · rw [intItems_length] at hi
    exact hi
def inLine (i : Int) : Bool := decide (-(2 ^ 62) ≤ i) && decide (i < 2 ^ 62)
theorem inLine_of {i : Int} (h1 : -(2 ^ 40) ≤ i) (h2 : i < 2 ^ 40) : inLine i = true := by
  unfold inLine
  rw [decide_eq_true (by omega), decide_eq_true (by omega)]
  rfl
theorem inLine_ok {i : Int} (h : inLine i = true) : -(2 ^ 62) ≤ i ∧ i < 2 ^ 62 := by
  unfold inLine at h
  simpa using h
/-- range of one, two, three values -/
def rangeV1 : List BV → Res (List BV)
  | [u] => match u.d with
    | .int j => if inLine j = true then .ok (intItems 0 1 j.toNat) else .er
    | _ => .er
  | _ => .er
def rangeV2 : List BV → Res (List BV)
  | [u, v] => match u.d, v.d with
    | .int i, .int j => if inLine i = true ∧ inLine j = true then .ok (intItems i 1 (j - i).toNat) else .er
    | _, _ => .er
  | _ => .er
def rangeV3 : List BV → Res (List BV)
  | [u, v, w] => match u.d, v.d, w.d with
    | .int i, .int j, .int c => if c ≠ 0 ∧ c.natAbs < 1073741824 ∧ Builtin.Range.small i j c = true ∧ 0 ≤ Builtin.Range.rangeSize i j c then .ok (intItems i c (Builtin.Range.rangeSize i j c).toNat) else .er
    | _, _, _ => .er
  | _ => .er
theorem GoodI.args {fr : Bool} {es : List Expr} {xs : List (Rho → Res BV)} (h : SA X W fr es xs) {f : List BV → Res (List BV)} {Q : It → Hp → Prop} {Q' : List V → Hp → Prop} (R : S.R X.K) (g : GoodI X W cl S Q ((evA fr xs S.ρ).bind f))
    (k : ∀ (vs : List BV) (S2 : Sta) (tr : List Tr), Aft S S2 → tr.length = vs.length → S2.τ = stk vs tr ++ S.τ → S2.R X.K → (∀ v ∈ vs, Setd fr v) → GoodI X W cl S Q (f vs) → Q' (valsB vs tr) S2.H) : wA X es S.σ S.H Q' := by
  refine h S Q' R ?_
  cases q : evA fr xs S.ρ with
  | er => rw [q] at g; exact g
  | rz c => rw [q] at g; exact g
  | ok vs =>
    rw [q] at g
    exact fun S2 tr a2 l2 e2 R2 f2 => k vs S2 tr a2 l2 e2 R2 (fun v hv => by obtain ⟨u, hu⟩ := evA_setd q v hv; exact settle_setd hu) g
def xItA (f : List BV → Res (List BV)) (xs : List (Rho → Res BV)) : Rho → Res (List BV) := fun ρ => (evA true xs ρ).bind f
/-- a walk that leans on nothing -/
theorem GoodI.none {Q : It → Hp → Prop} {items : List BV} {S2 : Sta} {cs : List Tm} {J : It} (g : GoodI X W cl S Q (.ok items)) (a2 : Aft S S2) (e2 : S2.τ = cs ++ S.τ) (R2 : S2.R X.K) (h : ItG X.K J items []) : Q J S2.H :=
  g (S.put S2.Z S2.H S.τ) [] J (Sta.aft_put a2.st) rfl (argsBack a2 e2 R2) h fun _ c hc => by cases hc
theorem si_range1 {tg a : Expr} {xs : List (Rho → Res BV)} {p pos : Pos} (hg : Gl X "range") (hm : X.mg "range" = none) (ha : SA X W true [a] xs) (hs : starEach [a] X.env = [(false, eval a X.env)]) : SI X W cl tg (.Call (.Name "range" p) [a] [] pos) (xItA rangeV1 xs) := by
  intro S Q R g
  refine wPI_of (pi_range1 hg hm pa_w hs) (GoodI.args ha R g fun vs S2 tr a2 l2 e2 R2 sd g2 => ?_)
  match vs, tr, l2 with
  | [], [], _ => exact g2.elim
  | [u], [t], _ =>
    unfold rangeV1 at g2
    dsimp only at g2
    cases hd : u.d <;> rw [hd] at g2 <;> first | exact g2.elim | skip
    rename_i j
    dsimp only at g2
    split at g2
    · rename_i hj
      obtain ⟨h1, h2⟩ := inLine_ok hj
      refine ⟨j, by simp [valsB, hd, valOf], h1, h2, ?_⟩
      exact GoodI.none g2 a2 e2 R2 itg_range
    · exact g2.elim
  | _ :: _ :: _, _ :: _ :: _, _ => exact g2.elim
theorem si_range2 {tg a b : Expr} {xs : List (Rho → Res BV)} {p pos : Pos} (hg : Gl X "range") (hm : X.mg "range" = none) (ha : SA X W true [a, b] xs) (hs : starEach [a, b] X.env = [(false, eval a X.env), (false, eval b X.env)]) (hs2 : starEach [b] X.env = [(false, eval b X.env)]) : SI X W cl tg (.Call (.Name "range" p) [a, b] [] pos) (xItA rangeV2 xs) := by
  intro S Q R g
  refine wPI_of (pi_range2 hg hm pa_w hs hs2) (GoodI.args ha R g fun vs S2 tr a2 l2 e2 R2 sd g2 => ?_)
  match vs, tr, l2 with
  | [], [], _ => exact g2.elim
  | [_], [_], _ => exact g2.elim
  | [u, v], [t, t'], _ =>
    unfold rangeV2 at g2
    dsimp only at g2
    cases hd : u.d <;> rw [hd] at g2 <;> first | exact g2.elim | skip
    cases hv : v.d <;> rw [hv] at g2 <;> first | exact g2.elim | skip
    rename_i i j
    dsimp only at g2
    split at g2
    · rename_i hj
      obtain ⟨h1, h2⟩ := inLine_ok hj.1
      obtain ⟨h3, h4⟩ := inLine_ok hj.2
      refine ⟨i, j, by simp [valsB, hd, hv, valOf], ⟨h1, h2, h3, h4⟩, ?_⟩
      exact GoodI.none g2 a2 e2 R2 itg_range
    · exact g2.elim
  | _ :: _ :: _ :: _, _ :: _ :: _ :: _, _ => exact g2.elim
theorem si_range3 {tg a b c : Expr} {xs : List (Rho → Res BV)} {p pos : Pos} (ha : SA X W true [a, b, c] xs) (hp : PI X tg (.Call (.Name "range" p) [a, b, c] [] pos) (iRng3 (wA X [a, b, c]))) : SI X W cl tg (.Call (.Name "range" p) [a, b, c] [] pos) (xItA rangeV3 xs) := by
  intro S Q R g
  refine wPI_of hp (GoodI.args ha R g fun vs S2 tr a2 l2 e2 R2 sd g2 => ?_)
  match vs, tr, l2 with
  | [], [], _ => exact g2.elim
  | [_], [_], _ => exact g2.elim
  | [_, _], [_, _], _ => exact g2.elim
  | [u, v, w], [t, t', t''], _ =>
    unfold rangeV3 at g2
    dsimp only at g2
    cases hd : u.d <;> rw [hd] at g2 <;> first | exact g2.elim | skip
    cases hv : v.d <;> rw [hv] at g2 <;> first | exact g2.elim | skip
    cases hw : w.d <;> rw [hw] at g2 <;> first | exact g2.elim | skip
    rename_i i j c
    dsimp only at g2
    split at g2
    · rename_i hj
      refine ⟨i, j, c, _, by simp [valsB, hd, hv, hw, valOf], ⟨hj.1, hj.2.1, hj.2.2.1, (Int.toNat_of_nonneg hj.2.2.2).symm⟩, ?_⟩
      exact GoodI.none g2 a2 e2 R2 itg_rangeC
    · exact g2.elim
  | _ :: _ :: _ :: _ :: _, _ :: _ :: _ :: _ :: _, _ => exact g2.elim
/-! enumerate, zip -/
/-- the list of an argument whose items may be handed on -/
def lstI (cl : Bool) (v : BV) : Res (List D) := match v.d with
  | .list ds => if v.k = some 0 ∨ cl = false ∧ flats ds = true then .ok ds else .er
  | _ => .er
theorem lstI_ok {v : BV} {ds : List D} (h : lstI cl v = .ok ds) : v.d = .list ds ∧ (v.k = some 0 ∨ cl = false ∧ flats ds = true) := by
  unfold lstI at h
  cases hd : v.d <;> rw [hd] at h <;> first | (cases h; done) | skip
  dsimp only at h
  split at h <;> cases h
  rename_i hk
  exact ⟨rfl, hk⟩
theorem lstI_rz {v : BV} {c : Str} : lstI cl v ≠ .rz c := by
  intro h
  unfold lstI at h
  cases hd : v.d <;> rw [hd] at h <;> first | (cases h; done) | skip
  dsimp only at h
  split at h <;> cases h
theorem clean_list {v : BV} {ds : List D} {t : Tr} (h : v.k = some 0 ∨ cl = false ∧ flats ds = true) (q : cl = true) : own v.k v.d t = [] := by
  rcases h with h | h
  · rw [h]; exact own_zero _ t
  · rw [h.1] at q; cases q
def enumV (cl : Bool) : List BV → Res (List BV)
  | [v] => (lstI cl v).bind fun ds => .ok (ds.mapIdx fun i d => itm (.tuple [.int (i : Nat), d]))
  | _ => .er
def zipV (cl : Bool) : List BV → Res (List BV)
  | [u, v] => (lstI cl u).bind fun ds => (lstI cl v).bind fun es => .ok (List.zipWith (fun d e => itm (.tuple [d, e])) ds es)
  | _ => .er
/-- a new pair of the walk's -/
theorem pair_ok {K : PySem.W.Frag} {Z H : Hp} {d e : D} {t t' : Tr} {k k' : Lv} {T : Addr} (zh : Same Z H) (hT : H T = none) (o : Ob K Z H k d t) (o' : Ob K Z H k' e t') (h : flat d = true ∨ k = some 0) (h' : flat e = true ∨ k' = some 0) :
    ∃ Z', Step Z H Z' (upd H T (.tup [valOf d t, valOf e t'])) ∧ Same Z' (upd H T (.tup [valOf d t, valOf e t'])) ∧ Ob K Z' (upd H T (.tup [valOf d t, valOf e t'])) (itm (.tuple [d, e])).k (.tuple [d, e]) (.n T [t, t']) := by
  have zT : Z T = none := zh.free hT
  have fz : ∀ {d : D} {k : Lv} {t : Tr}, Ob K Z H k d t → (flat d = true ∨ k = some 0) → Ob K (upd Z T (.tup [valOf d t, valOf e t'])) (upd H T (.tup [valOf d t, valOf e t'])) (some 0) d t := fun {d k t} o h => by
    refine Ob.ext (Z := Z) (H := H) (fun b u q => ?_) d (some 0) t ?_ (fun a m => by rw [own_zero] at m; cases m) (fun a m => by rw [own_zero] at m; cases m)
    · rw [upd_ne (ne_of_none q zT)]; exact q
    · rcases h with h | h
      · exact flat_ob d k (some 0) t h o
      · rw [← h]; exact o
  have fz2 : ∀ {d' : D} {k : Lv} {t2 : Tr}, Ob K Z H k d' t2 → (flat d' = true ∨ k = some 0) → Ob K (upd Z T (.tup [valOf d t, valOf e t'])) (upd H T (.tup [valOf d t, valOf e t'])) (some 0) d' t2 := fun {d' k t2} o h => by
    refine Ob.ext (Z := Z) (H := H) (fun b u q => ?_) d' (some 0) t2 ?_ (fun a m => by rw [own_zero] at m; cases m) (fun a m => by rw [own_zero] at m; cases m)
    · rw [upd_ne (ne_of_none q zT)]; exact q
    · rcases h with h | h
      · exact flat_ob d' k (some 0) t2 h o
      · rw [← h]; exact o
  refine ⟨upd Z T (.tup [valOf d t, valOf e t']), ⟨fun b u q => ?_, fun b u q => ?_, fun b u q => ?_⟩, fun b u q => ?_, ?_⟩
  · rw [upd_ne (ne_of_none q zT)]; exact q
  · rw [upd_ne (ne_of_none q hT)]; exact q
  · by_cases hb : b = T
    · subst hb; exact .inr hT
    · rw [upd_ne hb] at q; exact .inl q
  · by_cases hb : b = T
    · subst hb; rw [upd_same] at q ⊢; exact q
    · rw [upd_ne hb] at q ⊢; exact zh _ _ q
  · have base : Ob K (upd Z T (.tup [valOf d t, valOf e t'])) (upd H T (.tup [valOf d t, valOf e t'])) (some 0) (.tuple [d, e]) (.n T [t, t']) := by
      simp only [Ob, Tr.kids, Obs, and_true]
      exact ⟨SqT.of upd_same, fz2 o h, fz2 o' h'⟩
    exact itm_ob base (.inr rfl)
theorem si_enum {elts : List Expr} {kk : Nat} {tpos : Pos} {e : Expr} {xs : List (Rho → Res BV)} {p pos : Pos} (hg : Gl X "enumerate") (hm : X.mg "enumerate" = none) (ha : SA X W true [e] xs) (hs : starEach [e] X.env = [(false, eval e X.env)]) : SI X W cl (.Tuple elts kk tpos) (.Call (.Name "enumerate" p) [e] [] pos) (xItA (enumV cl) xs) := by
  intro S Q R g
  refine wPI_of (pi_enum hg hm pa_w hs) (GoodI.args ha R g fun vs S2 tr a2 l2 e2 R2 sd g2 => ?_)
  match vs, tr, l2 with
  | [], [], _ => exact g2.elim
  | [v], [t], _ =>
    replace g2 : GoodI X W cl S Q ((lstI cl v).bind fun ds => .ok (ds.mapIdx fun i d => itm (.tuple [.int (i : Nat), d]))) := g2
    cases q : lstI cl v with
    | er => rw [q] at g2; exact g2.elim
    | rz c => exact absurd q lstI_rz
    | ok ds =>
      rw [q] at g2
      obtain ⟨hd, hk⟩ := lstI_ok q
      have ob : ∀ {Z0 H0 Z H : Hp} {σ : L2.St} {ρ : Rho} {ts : List Tr} {τ : List Tm}, Rl X.K Z0 H0 Z H σ ρ ts (stk [v] [t] ++ τ) → SqL X.K H t.at (valsOf ds t.kids) ∧ Obs X.K Z H (pd v.k) ds t.kids := fun R => by
        have o := (R.tm ⟨v.b, v.k, v.d, t⟩ (by simp [Ev.stk])).1
        replace o : Ob X.K _ _ v.k v.d t := o
        rw [hd] at o
        simp only [Ob] at o
        exact ⟨o.1.sq R.zh, o.2⟩
      have ob2 := ob (R2.rl e2)
      refine ⟨t.at, valsOf ds t.kids, by simp [valsB, hd, valOf], ob2.1, ?_⟩
      refine g2 S2 (stk [v] [t]) _ a2 e2 R2 ⟨fun {Z0 H0 Z H σ ρ ts τ i w} R e => ?_, fun {Z0 H0 Z H σ ρ ts τ i} R hi => ?_⟩ fun qc c hc _ => ?_
      · obtain ⟨sq, os⟩ := ob R
        rw [List.getElem?_mapIdx] at e
        cases ed : ds[i]? with
        | none => rw [ed] at e; cases e
        | some d =>
          rw [ed] at e
          simp only [Option.map_some, Option.some.injEq] at e
          subst e
          obtain ⟨t2, et, o2⟩ := os.get ed
          refine ⟨⟨_, _, sq, valsOf_get ed et⟩, fun x H' y => ?_⟩
          obtain ⟨T, x', rfl, hT, rfl, hx⟩ := y
          have ex := hx _ sq
          rw [valsOf_get ed et] at ex
          cases ex
          obtain ⟨Z', st, zh, o3⟩ := pair_ok (d := .int (i : Nat)) (t := t0) (k := none) R.zh hT (by simp only [Ob]) o2 (.inl rfl) (kid_ok (hk.imp_right fun z => z.2) (List.mem_of_getElem? ed))
          exact ⟨Z', .n T [t0, t2], st, zh, o3, itm_own _ _, rfl⟩
      · obtain ⟨sq, os⟩ := ob R
        refine ⟨_, sq, ?_⟩
        rw [valsOf_length os.len]
        rw [List.length_mapIdx] at hi
        exact hi
      · have e : c = ⟨v.b, v.k, v.d, t⟩ := by simpa [Ev.stk] using hc
        subst e
        exact clean_list (v := v) hk qc
  | _ :: _ :: _, _ :: _ :: _, _ => exact g2.elim
theorem si_zip {elts : List Expr} {kk : Nat} {tpos : Pos} {a b : Expr} {xs : List (Rho → Res BV)} {p pos : Pos} (hg : Gl X "zip") (hm : X.mg "zip" = none) (ha : SA X W true [a, b] xs) (hs : starEach [a, b] X.env = (false, eval a X.env) :: starEach [b] X.env) (hpl : (backTo pos (starEach [b] X.env)).any (·.1) = false) :
    SI X W cl (.Tuple elts kk tpos) (.Call (.Name "zip" p) [a, b] [] pos) (xItA (zipV cl) xs) := by
  intro S Q R g
  refine wPI_of (pi_zip hg hm pa_w hs hpl) (GoodI.args ha R g fun vs S2 tr a2 l2 e2 R2 sd g2 => ?_)
  match vs, tr, l2 with
  | [], [], _ => exact g2.elim
  | [_], [_], _ => exact g2.elim
  | [u, v], [t, t'], _ =>
    replace g2 : GoodI X W cl S Q ((lstI cl u).bind fun ds => (lstI cl v).bind fun es => .ok (List.zipWith (fun d e => itm (.tuple [d, e])) ds es)) := g2
    cases q : lstI cl u with
    | er => rw [q] at g2; exact g2.elim
    | rz c => exact absurd q lstI_rz
    | ok ds =>
      rw [q] at g2
      replace g2 : GoodI X W cl S Q ((lstI cl v).bind fun es => .ok (List.zipWith (fun d e => itm (.tuple [d, e])) ds es)) := g2
      cases q2 : lstI cl v with
      | er => rw [q2] at g2; exact g2.elim
      | rz c => exact absurd q2 lstI_rz
      | ok es =>
        rw [q2] at g2
        obtain ⟨hd, hk⟩ := lstI_ok q
        obtain ⟨hd2, hk2⟩ := lstI_ok q2
        have ob : ∀ {Z0 H0 Z H : Hp} {σ : L2.St} {ρ : Rho} {ts : List Tr} {τ : List Tm}, Rl X.K Z0 H0 Z H σ ρ ts (stk [u, v] [t, t'] ++ τ) → (SqL X.K H t.at (valsOf ds t.kids) ∧ Obs X.K Z H (pd u.k) ds t.kids) ∧ SqL X.K H t'.at (valsOf es t'.kids) ∧ Obs X.K Z H (pd v.k) es t'.kids := fun R => by
          have o := (R.tm ⟨u.b, u.k, u.d, t⟩ (by simp [Ev.stk])).1
          have o' := (R.tm ⟨v.b, v.k, v.d, t'⟩ (by simp [Ev.stk])).1
          replace o : Ob X.K _ _ u.k u.d t := o
          replace o' : Ob X.K _ _ v.k v.d t' := o'
          rw [hd] at o
          rw [hd2] at o'
          simp only [Ob] at o o'
          exact ⟨⟨o.1.sq R.zh, o.2⟩, o'.1.sq R.zh, o'.2⟩
        have ob2 := ob (R2.rl e2)
        refine ⟨t.at, t'.at, valsOf ds t.kids, valsOf es t'.kids, by simp [valsB, hd, hd2, valOf], ob2.1.1, ob2.2.1, ?_⟩
        refine g2 S2 (stk [u, v] [t, t']) _ a2 e2 R2 ⟨fun {Z0 H0 Z H σ ρ ts τ i w} R e => ?_, fun {Z0 H0 Z H σ ρ ts τ i} R hi => ?_⟩ fun qc c hc _ => ?_
        · obtain ⟨⟨sq, os⟩, sq2, os2⟩ := ob R
          rw [List.getElem?_zipWith] at e
          cases ed : ds[i]? with
          | none => rw [ed] at e; cases e
          | some d =>
            cases ee : es[i]? with
            | none => rw [ed, ee] at e; cases e
            | some d2 =>
              rw [ed, ee] at e
              simp only [Option.some.injEq] at e
              subst e
              obtain ⟨t2, et, o2⟩ := os.get ed
              obtain ⟨t3, et3, o3⟩ := os2.get ee
              refine ⟨⟨_, _, _, _, sq, sq2, valsOf_get ed et, valsOf_get ee et3⟩, fun x H' y => ?_⟩
              obtain ⟨T, x', y', rfl, hT, rfl, hx, hy⟩ := y
              have ex := hx _ sq
              have ey := hy _ sq2
              rw [valsOf_get ed et] at ex
              rw [valsOf_get ee et3] at ey
              cases ex; cases ey
              obtain ⟨Z', st, zh, o4⟩ := pair_ok R.zh hT o2 o3 (kid_ok (hk.imp_right fun z => z.2) (List.mem_of_getElem? ed)) (kid_ok (hk2.imp_right fun z => z.2) (List.mem_of_getElem? ee))
              exact ⟨Z', .n T [t2, t3], st, zh, o4, itm_own _ _, rfl⟩
        · obtain ⟨⟨sq, os⟩, sq2, os2⟩ := ob R
          refine ⟨_, _, sq, sq2, ?_⟩
          rw [valsOf_length os.len, valsOf_length os2.len]
          rw [List.length_zipWith] at hi
          omega
        · have e : c = ⟨v.b, v.k, v.d, t'⟩ ∨ c = ⟨u.b, u.k, u.d, t⟩ := by simpa [Ev.stk] using hc
          rcases e with e | e
          · subst e; exact clean_list (v := v) hk2 qc
          · subst e; exact clean_list (v := u) hk qc
  | _ :: _ :: _ :: _, _ :: _ :: _ :: _, _ => exact g2.elim
end
end Ev

set_option Elab.async false
set_option linter.all false
set_option maxRecDepth 100000
namespace Ev
open PySem PySem.Spec PyProof.Rows L2

theorem Rl.store' {K : PySem.W.Frag} {Z0 H0 Z H : Hp} {σ : L2.St} {ρ : Rho} {ts : List Tr} {τ : List Tm} {k : Lv} {d : D} {t : Tr} {i : Nat} (R : Rl K Z0 H0 Z H σ ρ ts (⟨false, k, d, t⟩ :: τ)) (hc : Clean τ) : Rl K Z0 H0 Z H (σ.set i (some (valOf d t))) (setSl ρ i (.va k d)) (ts.set i t) τ := by
  by_cases hi : i < σ.length
  · exact R.store hc hi
  · have e1 : σ.set i (some (valOf d t)) = σ := List.set_eq_of_length_le (by omega)
    have e2 : ts.set i t = ts := List.set_eq_of_length_le (by rw [R.lt]; omega)
    have e3 : setSl ρ i (.va k d) = setSl ρ i .em := by
      unfold setSl
      rw [List.set_eq_of_length_le (by rw [killA_length, R.lr]; omega), List.set_eq_of_length_le (by rw [killA_length, R.lr]; omega)]
    rw [e1, e2, e3]
    exact R.pop.forget hc

/-! ### targets -/
def wG (X : Cx) (tg : Expr) : TG := fun v σ H Q => ∀ (pins : List (Addr × Obj)) (s : Shared) (u : Value), Inv X pins σ H s → RelV v u →
  wpAny (model X.prog X.w) X.A (assign tg X.env u) (fun _ s' => ∃ σ' H', Inv X pins σ' H' s' ∧ Q σ' H') X.xe s
theorem pg_w {X : Cx} {tg : Expr} : PG X tg (wG X tg) := ⟨fun pins s σ H v u Q I r h => h pins s u I r⟩
/-- names in the slots is take the items ds -/
def bindN : List Nat → List D → Rho → Rho
  | i :: is, d :: ds, ρ => bindN is ds (setSl ρ i (.va (itm d).k d))
  | _, _, ρ => ρ
def bd1 (i : Nat) : Rho → BV → Res Rho := fun ρ v => .ok (setSl ρ i (.va v.k v.d))
def bdT (is : List Nat) : Rho → BV → Res Rho := fun ρ v => match v.d with
  | .tuple ds => if ds.length = is.length then .ok (bindN is ds ρ) else .er
  | _ => .er
/-- a target with the slots is, its reading g, as bd says -/
structure SG (K : PySem.W.Frag) (is : List Nat) (g : TG) (bd : Rho → BV → Res Rho) : Prop where
  run : ∀ {Z0 H0 Z H : Hp} {σ : L2.St} {ρ ρ' : Rho} {ts : List Tr} {τ : List Tm} {v : BV} {t : Tr} {Q : L2.St → Hp → Prop}, Rl K Z0 H0 Z H σ ρ ts τ → Clean τ → Ob K Z H v.k v.d t → own v.k v.d t = [] → (v.k = some 0 ∨ flat v.d = true) → bd ρ v = .ok ρ' →
    (∀ σ' ts', Rl K Z0 H0 Z H σ' ρ' ts' τ → (∀ vs : List Nat, (∀ i ∈ is, i ∈ vs) → wipe σ' vs = wipe σ vs) → Q σ' H) → g (valOf v.d t) σ H Q
theorem wipe_get {σ : L2.St} {i : Nat} : ∀ {vs : List Nat}, (wipe σ vs)[i]? = if i ∈ vs ∧ i < σ.length then some none else σ[i]?
  | [] => by simp [wipe]
  | v :: vs => by
    have ih := wipe_get (σ := σ) (i := i) (vs := vs)
    unfold wipe
    by_cases h : i = v
    · subst h
      by_cases hl : i < σ.length
      · rw [List.getElem?_set_self (by rw [wipe_length]; exact hl), if_pos ⟨List.mem_cons_self, hl⟩]
      · rw [if_neg (fun z => hl z.2), List.getElem?_eq_none_iff.mpr (by rw [List.length_set, wipe_length]; omega), List.getElem?_eq_none_iff.mpr (by omega)]
    · rw [List.getElem?_set_ne (Ne.symm h), ih]
      have e : i ∈ v :: vs ↔ i ∈ vs := by
        rw [List.mem_cons]
        exact ⟨fun z => z.elim (fun q => absurd q h) _root_.id, .inr⟩
      simp only [e]
theorem wipe_set {σ : L2.St} {i : Nat} {x : Option V} {vs : List Nat} (h : i ∈ vs) : wipe (σ.set i x) vs = wipe σ vs := by
  refine List.ext_getElem? fun j => ?_
  rw [wipe_get, wipe_get, List.length_set]
  by_cases hj : j = i
  · subst hj
    by_cases hl : j < σ.length
    · rw [if_pos ⟨h, hl⟩, if_pos ⟨h, hl⟩]
    · rw [if_neg (fun z => hl z.2), if_neg (fun z => hl z.2), List.getElem?_eq_none_iff.mpr (by rw [List.length_set]; omega), List.getElem?_eq_none_iff.mpr (by omega)]
  · rw [List.getElem?_set_ne (Ne.symm hj)]
theorem sg_name {K : PySem.W.Frag} {i : Nat} : SG K [i] (gName i) (bd1 i) := by
  refine ⟨fun {Z0 H0 Z H σ ρ ρ' ts τ v t Q} R hc o ow lv e k => ?_⟩
  cases e
  have R1 : Rl K Z0 H0 Z H σ ρ ts (⟨false, v.k, v.d, t⟩ :: τ) := R.push0 o ow
  exact k _ _ (Rl.store' R1 hc) fun vs h => wipe_set (h i (by simp))
def gNames : List Nat → TGs
  | [] => gNil
  | i :: is => gCons (gName i) (gNames is)
theorem names_go {K : PySem.W.Frag} : ∀ (is : List Nat) (ds : List D) {Z0 H0 Z H : Hp} {σ : L2.St} {ρ : Rho} {ts tr : List Tr} {τ : List Tm} {k : Lv} {Q : L2.St → Hp → Prop}, Rl K Z0 H0 Z H σ ρ ts τ → Clean τ → Obs K Z H k ds tr → (k = some 0 ∨ flats ds = true) → ds.length = is.length →
    (∀ σ' ts', Rl K Z0 H0 Z H σ' (bindN is ds ρ) ts' τ → (∀ vs : List Nat, (∀ i ∈ is, i ∈ vs) → wipe σ' vs = wipe σ vs) → Q σ' H) → gNames is (valsOf ds tr) σ H Q
  | [], [], Z0, H0, Z, H, σ, ρ, ts, tr, τ, k, Q, R, hc, o, lv, hl, q => by
    cases tr with
    | nil => exact ⟨rfl, q σ ts R fun _ _ => rfl⟩
    | cons => simp only [Obs] at o
  | i :: is, d :: ds, Z0, H0, Z, H, σ, ρ, ts, tr, τ, k, Q, R, hc, o, lv, hl, q => by
    cases tr with
    | nil => simp only [Obs] at o
    | cons t tr =>
      simp only [Obs] at o
      refine ⟨valOf d t, valsOf ds tr, rfl, ?_⟩
      have lvd : flat d = true ∨ k = some 0 := by
        rcases lv with h | h
        · exact .inr h
        · simp only [flats, Bool.and_eq_true] at h; exact .inl h.1
      have R1 : Rl K Z0 H0 Z H σ ρ ts (⟨false, (itm d).k, d, t⟩ :: τ) := R.push0 (itm_ob o.1 lvd) (itm_own d t)
      have R2 := Rl.store' (i := i) R1 hc
      refine names_go is ds R2 hc o.2 ?_ (by simpa using hl) fun σ' ts' R' hw => q σ' ts' R' fun vs h => ?_
      · rcases lv with h | h
        · exact .inl h
        · simp only [flats, Bool.and_eq_true] at h; exact .inr h.2
      · rw [hw vs fun j hj => h j (List.mem_cons_of_mem _ hj)]
        exact wipe_set (h i (by simp))
  | [], _ :: _, _, _, _, _, _, _, _, _, _, _, _, _, _, _, _, hl, _ => by simp at hl
  | _ :: _, [], _, _, _, _, _, _, _, _, _, _, _, _, _, _, _, hl, _ => by simp at hl
theorem sg_tup {K : PySem.W.Frag} {is : List Nat} : SG K is (gTup K is.length (gNames is)) (bdT is) := by
  refine ⟨fun {Z0 H0 Z H σ ρ ρ' ts τ v t Q} R hc o ow lv e k => ?_⟩
  unfold bdT at e
  cases hd : v.d <;> rw [hd] at e <;> first | (cases e; done) | skip
  rename_i ds
  dsimp only at e
  split at e <;> cases e
  rename_i hl
  rw [hd] at o lv
  simp only [Ob] at o
  refine ⟨t.at, _, rfl, Same.sqT R.zh o.1, by rw [valsOf_length o.2.len, hl], ?_⟩
  exact names_go is ds R hc o.2 (lv.imp_right fun h => by simpa only [flat] using h) hl k

/-! ### for -/
def SR.unbk : SR → SR
  | .bk ρ => .nx ρ
  | r => r
def forL (bd : Rho → BV → Res Rho) (body : Rho → SR) : List BV → Rho → SR
  | [], ρ => .nx ρ
  | v :: vs, ρ => match bd ρ v with
    | .ok ρ1 => match body ρ1 with
      | .nx ρ2 => forL bd body vs ρ2
      | .ct ρ2 => forL bd body vs ρ2
      | r => r
    | _ => .er
def sFor (xi : Rho → Res (List BV)) (bd : Rho → BV → Res Rho) (body : Rho → SR) : Rho → SR := fun ρ => match xi ρ with
  | .ok vs => (forL bd body vs ρ).unbk
  | .rz c => .rz c ρ
  | .er => .er
section
variable {X : Cx} {W : WX} {S : Sta} {De : Ends}
theorem GoodS.unbk {r : SR} (g : GoodS X W S De r.unbk) : GoodS X W S { De with bk := De.nx } r := by
  cases r <;> exact g
theorem clean_app {a b : List Tm} (h : Clean a) (h' : Clean b) : Clean (a ++ b) := fun c hc => (List.mem_append.mp hc).elim (h c) (h' c)
/-- fewer values under way in the end -/
theorem GoodS.drop {r : SR} {S1 : Sta} {cs : List Tm} (g : GoodS X W S De r) (a : AftS S S1) (e : S1.τ = cs ++ S.τ) : GoodS X W S1 De r := by
  have back : ∀ {S2 : Sta}, S2.τ = S1.τ → S2.R X.K → (S2.put S2.Z S2.H S.τ).R X.K := fun {S2} e2 R => by
    have R2 := R.rl (e2.trans e)
    refine Rl.perm R2 (fun c h => List.mem_append_right _ h) ?_
    have n := R2.nd
    rw [ownT_app, ← List.append_assoc] at n
    exact (List.nodup_append.mp n).2.1
  cases r with
  | nx ρ => exact fun S2 a2 e1 e2 R => g (S2.put S2.Z S2.H S.τ) ⟨(a.trans a2).z0, (a.trans a2).h0, (a.trans a2).zz⟩ e1 rfl (back e2 R)
  | bk ρ => exact fun S2 a2 e1 e2 R => g (S2.put S2.Z S2.H S.τ) ⟨(a.trans a2).z0, (a.trans a2).h0, (a.trans a2).zz⟩ e1 rfl (back e2 R)
  | ct ρ => exact fun S2 a2 e1 e2 R => g (S2.put S2.Z S2.H S.τ) ⟨(a.trans a2).z0, (a.trans a2).h0, (a.trans a2).zz⟩ e1 rfl (back e2 R)
  | rz c ρ => exact fun S2 a2 e1 e2 R => g (S2.put S2.Z S2.H S.τ) ⟨(a.trans a2).z0, (a.trans a2).h0, (a.trans a2).zz⟩ e1 rfl (back e2 R)
  | rt k d =>
    intro Z' H' t s zh o nd fr
    rw [a.z0, a.h0] at s
    exact g Z' H' t s zh o nd fun x m => by have := fr x m; rw [a.h0] at this; exact this
  | er => exact g
/-- what holds ahead of a turn -/
def ForP (X : Cx) (W : WX) (S : Sta) (D : Ends) (τ : List Tm) (r : Rho → SR) (σ : L2.St) (H : Hp) : Prop := ∃ S2 : Sta, AftS S S2 ∧ S2.σ = σ ∧ S2.H = H ∧ S2.τ = τ ∧ S2.R X.K ∧ GoodS X W S D (r S2.ρ)
theorem st_for {tg iter : Expr} {body : List Stmt} {pos : Pos} {is : List Nat} {g : TG} {bd : Rho → BV → Res Rho} {xi : Rho → Res (List BV)} {sb : Rho → SR} (hp : PassesOwn (model X.prog X.w) X.A X.env X.xe) (hcm : X.calm = true) (hi : SI X W true tg iter xi) (hpg : PG X tg g) (hg : SG X.K is g bd)
    (hitm : ∀ ρ vs, xi ρ = .ok vs → ∀ v ∈ vs, v.k = some 0 ∨ flat v.d = true) (hb : SSs X W body sb) (hs : ∀ x, foldedSetIterable iter X.env x = pure x) : SSt X W (.For tg iter body [] pos) (sFor xi bd sb) := by
  intro S D R hc g0
  refine wS_of (ps_for hp hcm pi_w hpg pss_w hs) (hi S _ R ?_)
  unfold sFor at g0
  cases q : xi S.ρ with
  | er => rw [q] at g0; exact g0
  | rz c =>
    rw [q] at g0
    exact fun S1 a1 e1 R1 => g0 S1 a1.s a1.ρ e1 R1
  | ok items =>
    rw [q] at g0
    replace g0 : GoodS X W S D (forL bd sb items S.ρ).unbk := g0
    intro S1 cs J a1 e1 R1 itg cln
    have ccs : Clean (cs ++ S.τ) := clean_app (cln rfl) hc
    refine ⟨fun i m σ H => m = items.length - i ∧ i ≤ items.length ∧ ForP X W S D (cs ++ S.τ) (fun ρ => (forL bd sb (items.drop i) ρ).unbk) σ H,
      ⟨items.length, by simp, Nat.zero_le _, S1, a1.s, a1.σ, rfl, e1, R1, by rw [a1.ρ]; exact g0⟩, ?_⟩
    rintro i m σ H ⟨rfl, hile, S2, a2, rfl, rfl, e2, R2, g2⟩
    by_cases hlt : i < items.length
    · obtain ⟨v, hv⟩ : ∃ v, items[i]? = some v := ⟨items[i], by simp [hlt]⟩
      have ed : items.drop i = v :: items.drop (i + 1) := by
        rw [List.drop_eq_getElem_cons hlt]
        congr 1
        have := List.getElem?_eq_getElem hlt
        rw [this] at hv
        exact Option.some.inj hv
      dsimp only at g2
      rw [ed] at g2
      obtain ⟨go, yld⟩ := itg.go (R2.rl e2) hv
      refine .inr ⟨go, ForP X W S D (cs ++ S.τ) (fun ρ => (forL bd sb (items.drop (i + 1)) ρ).unbk), fun σ' H' hN => ⟨items.length - (i + 1), by omega, rfl, hlt, hN⟩, fun x H' y => ?_⟩
      obtain ⟨Z', t, st, zh, ob, ow, rfl⟩ := yld x H' y
      have R3 := Rl.step (R2.rl e2) st zh
      unfold forL at g2
      cases qb : bd S2.ρ v with
      | er => rw [qb] at g2; exact g2.elim
      | rz c => rw [qb] at g2; exact g2.elim
      | ok ρ1 =>
        rw [qb] at g2
        refine hg.run R3 ccs ob ow (hitm _ _ q v (List.mem_of_getElem? hv)) qb fun σ' ts' R4 _ => ?_
        have a4 : AftS S ⟨S2.Z0, S2.H0, Z', H', σ', ρ1, ts', cs ++ S.τ⟩ := ⟨a2.z0, a2.h0, a2.zz.trans st.zz⟩
        refine hb ⟨S2.Z0, S2.H0, Z', H', σ', ρ1, ts', cs ++ S.τ⟩ { D with nx := ForP X W S D (cs ++ S.τ) (fun ρ => (forL bd sb (items.drop (i + 1)) ρ).unbk), ct := ForP X W S D (cs ++ S.τ) (fun ρ => (forL bd sb (items.drop (i + 1)) ρ).unbk), bk := D.nx } R4 ccs ?_
        show GoodS X W _ _ (sb ρ1)
        dsimp only at g2
        cases qs : sb ρ1 with
        | nx ρ2 =>
          rw [qs] at g2
          exact fun S5 a5 e5 t5 R5 => ⟨S5, a4.trans a5, rfl, rfl, t5, R5, by rw [e5]; exact g2⟩
        | ct ρ2 =>
          rw [qs] at g2
          exact fun S5 a5 e5 t5 R5 => ⟨S5, a4.trans a5, rfl, rfl, t5, R5, by rw [e5]; exact g2⟩
        | bk ρ2 =>
          rw [qs] at g2
          replace g2 : GoodS X W S D (.nx ρ2) := g2
          exact fun S5 a5 e5 t5 R5 => GoodS.drop (cs := cs) g2 (a4.trans a5) t5 S5 AftS.refl e5 rfl R5
        | rt k d =>
          rw [qs] at g2
          replace g2 : GoodS X W S D (.rt k d) := g2
          exact GoodS.drop (cs := cs) g2 a4 rfl
        | rz c ρ2 =>
          rw [qs] at g2
          replace g2 : GoodS X W S D (.rz c ρ2) := g2
          exact fun S5 a5 e5 t5 R5 => GoodS.drop (cs := cs) g2 (a4.trans a5) t5 S5 AftS.refl e5 rfl R5
        | er => rw [qs] at g2; exact g2.elim
    · have e : i = items.length := by omega
      subst e
      refine .inl ⟨itg.stop (R2.rl e2) (Nat.le_refl _), ?_⟩
      dsimp only at g2
      rw [List.drop_length] at g2
      replace g2 : GoodS X W S D (.nx S2.ρ) := g2
      exact GoodS.drop (cs := cs) g2 a2 e2 S2 AftS.refl rfl rfl R2
end
end Ev

set_option Elab.async false
set_option linter.all false
set_option maxRecDepth 100000
namespace Ev
open PySem PySem.Spec PyProof.Rows L2

/-! ### the items of a walk are shared -/
def ItmOk (cl : Bool) (xi : Rho → Res (List BV)) : Prop := ∀ ρ vs, xi ρ = .ok vs → ∀ v ∈ vs, v.k = some 0 ∨ flat v.d = true
theorem itm_ok (d : D) : (itm d).k = some 0 ∨ flat (itm d).d = true := by
  unfold itm
  by_cases h : flat d = true
  · exact .inr h
  · simp only [if_neg h]; exact .inl trivial
theorem itmOk_seq {cl : Bool} {x : Rho → Res BV} : ItmOk cl (xItV cl x) := by
  intro ρ vs h v hv
  unfold xItV at h
  cases q : x ρ with
  | er => rw [q] at h; cases h
  | rz c => rw [q] at h; cases h
  | ok u =>
    rw [q] at h
    replace h : (settle true u).bind (itemsV cl) = .ok vs := h
    cases q2 : settle true u with
    | er => rw [q2] at h; cases h
    | rz c => rw [q2] at h; cases h
    | ok w =>
      rw [q2] at h
      replace h : itemsV cl w = .ok vs := h
      unfold itemsV at h
      have fin : ∀ ds : List D, ds.map itm = vs → v.k = some 0 ∨ flat v.d = true := fun ds e => by
        rw [← e] at hv
        obtain ⟨d, _, rfl⟩ := List.mem_map.mp hv
        exact itm_ok d
      split at h
      · split at h <;> cases h
        exact fin _ rfl
      · split at h <;> cases h
        exact fin _ rfl
      · cases h
theorem itmOk_args {cl : Bool} {f : List BV → Res (List BV)} {xs : List (Rho → Res BV)} (hf : ∀ us vs, f us = .ok vs → ∀ v ∈ vs, v.k = some 0 ∨ flat v.d = true) : ItmOk cl (xItA f xs) := by
  intro ρ vs h
  unfold xItA at h
  cases q : evA true xs ρ with
  | er => rw [q] at h; cases h
  | rz c => rw [q] at h; cases h
  | ok us => rw [q] at h; exact hf us vs h
theorem ints_ok {lo c : Int} {n : Nat} : ∀ v ∈ intItems lo c n, v.k = some 0 ∨ flat v.d = true := fun v hv => by
  unfold intItems at hv
  obtain ⟨i, _, rfl⟩ := List.mem_map.mp hv
  exact .inr rfl
theorem itmOk_range1 {cl : Bool} {xs : List (Rho → Res BV)} : ItmOk cl (xItA rangeV1 xs) := itmOk_args fun us vs h => by
  unfold rangeV1 at h
  split at h
  · split at h
    · split at h <;> cases h
      exact ints_ok
    · cases h
  · cases h
theorem itmOk_range2 {cl : Bool} {xs : List (Rho → Res BV)} : ItmOk cl (xItA rangeV2 xs) := itmOk_args fun us vs h => by
  unfold rangeV2 at h
  split at h
  · split at h
    · split at h <;> cases h
      exact ints_ok
    · cases h
  · cases h
theorem itmOk_range3 {cl : Bool} {xs : List (Rho → Res BV)} : ItmOk cl (xItA rangeV3 xs) := itmOk_args fun us vs h => by
  unfold rangeV3 at h
  split at h
  · split at h
    · split at h <;> cases h
      exact ints_ok
    · cases h
  · cases h
theorem itmOk_enum {cl : Bool} {xs : List (Rho → Res BV)} : ItmOk cl (xItA (enumV cl) xs) := itmOk_args fun us vs h v hv => by
  unfold enumV at h
  split at h
  · rename_i u
    cases q : lstI cl u with
    | er => rw [q] at h; cases h
    | rz c => rw [q] at h; cases h
    | ok ds =>
      rw [q] at h
      cases h
      obtain ⟨i, hi, rfl⟩ := List.mem_mapIdx.mp hv
      exact itm_ok _
  · cases h
theorem itmOk_zip {cl : Bool} {xs : List (Rho → Res BV)} : ItmOk cl (xItA (zipV cl) xs) := itmOk_args fun us vs h v hv => by
  unfold zipV at h
  split at h
  · rename_i u u'
    cases q : lstI cl u with
    | er => rw [q] at h; cases h
    | rz c => rw [q] at h; cases h
    | ok ds =>
      rw [q] at h
      replace h : (lstI cl u').bind (fun es => .ok (List.zipWith (fun d e => itm (.tuple [d, e])) ds es)) = .ok vs := h
      cases q2 : lstI cl u' with
      | er => rw [q2] at h; cases h
      | rz c => rw [q2] at h; cases h
      | ok es =>
        rw [q2] at h
        cases h
        obtain ⟨j, hj, rfl⟩ := List.mem_iff_getElem.mp hv
        rw [List.getElem_zipWith]
        exact itm_ok _
  · cases h

/-! ### list comprehensions -/
/-- what is raised within is not told -/
def noRz {α : Type} : Res α → Res α
  | .rz _ => .er
  | r => r
/-- bd binds an item, c is the test, x the element -/
def lcL (bd : Rho → BV → Res Rho) (c : Rho → Res Bool) (x : Rho → Res BV) (ρ : Rho) : List BV → Res (List BV)
  | [] => .ok []
  | v :: vs => match bd ρ v with
    | .ok ρ1 => (noRz (c ρ1)).bind fun b => if b = true then (noRz (x ρ1)).bind fun u => (settle false u).bind fun u => (lcL bd c x ρ vs).bind fun us => .ok (u :: us) else lcL bd c x ρ vs
    | _ => .er
def xLc (xi : Rho → Res (List BV)) (own : List Nat) (bd : Rho → BV → Res Rho) (c : Rho → Res Bool) (x : Rho → Res BV) : Rho → Res BV := fun ρ => (xi ρ).bind fun vs =>
  if vs.length ≤ 1000000 then (lcL bd c x (fgt own ρ) vs).bind mkLst else .er
/-- an element's reading in every block -/
def uE (X : Cx) (scope : Scope) (e : Expr) : TE := fun σ H Q => ∀ (s : Shared) (H0 : Hp) (C : Addr) (cl : List (Str × Addr)) (fp : List Addr), wE (X.blk s H0 scope (compEnvC scope cl C X.env) fp) e σ H Q
def uT (X : Cx) (scope : Scope) (e : Expr) : TT := fun σ H Q => ∀ (s : Shared) (H0 : Hp) (C : Addr) (cl : List (Str × Addr)) (fp : List Addr), wT (X.blk s H0 scope (compEnvC scope cl C X.env) fp) e σ H Q
abbrev W0 : WX := fun _ _ _ _ => False
/-- every block of the comprehension -/
def AllB (X : Cx) (scope : Scope) (p : Cx → Prop) : Prop := ∀ (s : Shared) (H : Hp) (C : Addr) (cl : List (Str × Addr)) (fp : List Addr), p (X.blk s H scope (compEnvC scope cl C X.env) fp)
section
variable {K : PySem.W.Frag} {Z0 H0 Z H : Hp} {σ : L2.St} {ρ : Rho} {ts : List Tr} {τ : List Tm}
theorem setEm_get {i j : Nat} {s : Sl} (h : (setSl ρ i .em)[j]? = some s) : s = .em ∨ (j ≠ i ∧ ρ[j]? = some s ∧ ∀ p, s ≠ .al i p) := by
  unfold setSl at h
  by_cases hj : j = i
  · subst hj
    by_cases hl : j < (killA j ρ).length
    · rw [List.getElem?_set_self hl] at h
      cases h; exact .inl rfl
    · rw [List.getElem?_eq_none_iff.mpr (by rw [List.length_set]; omega)] at h
      cases h
  · rw [List.getElem?_set_ne (Ne.symm hj)] at h
    obtain ⟨s0, e, q⟩ := killA_get h
    rcases q with ⟨rfl, q⟩ | q
    · exact .inr ⟨hj, e, q⟩
    · exact .inl q
theorem fgt_get : ∀ {is : List Nat} {ρ : Rho} {j : Nat} {s : Sl}, (fgt is ρ)[j]? = some s → s = .em ∨ (j ∉ is ∧ ρ[j]? = some s ∧ ∀ i ∈ is, ∀ p, s ≠ .al i p)
  | [], ρ, j, s, h => .inr ⟨by simp, h, fun i hi => by cases hi⟩
  | i :: is, ρ, j, s, h => by
    have h : (fgt is (setSl ρ i .em))[j]? = some s := h
    rcases fgt_get h with q | ⟨q1, q2, q3⟩
    · exact .inl q
    · rcases setEm_get q2 with q | ⟨r1, r2, r3⟩
      · exact .inl q
      · refine .inr ⟨by simp [r1, q1], r2, fun k hk p => ?_⟩
        rcases List.mem_cons.mp hk with e | hk
        · rw [e]; exact r3 p
        · exact q3 k hk p
theorem fgt_length : ∀ {is : List Nat} {ρ : Rho}, (fgt is ρ).length = ρ.length
  | [], _ => rfl
  | i :: is, ρ => by
    show (fgt is (setSl ρ i .em)).length = _
    rw [fgt_length]
    simp [setSl, killA_length]
theorem fgt_rl : ∀ (is : List Nat) {ρ : Rho}, Rl K Z0 H0 Z H σ ρ ts τ → Clean τ → Rl K Z0 H0 Z H σ (fgt is ρ) ts τ
  | [], _, R, _ => R
  | i :: is, _, R, hc => fgt_rl is (R.forget hc) hc
/-- the block's start: its own slots wiped -/
theorem Rl.wipe (R : Rl K Z0 H0 Z H σ ρ ts τ) (hc : Clean τ) (is : List Nat) : Rl K Z0 H0 Z H (L2.wipe σ is) (fgt is ρ) ts τ := by
  have R1 := fgt_rl is R hc
  refine ⟨R1.zh, R1.h0, R1.z0, R1.zn, by rw [wipe_length]; exact R1.lr, by rw [wipe_length]; exact R1.lt, fun j s e => ?_, R1.tm, R1.nd, R1.o0⟩
  have q := R1.sl j s e
  rcases fgt_get e with h | ⟨h1, h2, h3⟩
  · subst h; trivial
  · have keep : (L2.wipe σ is)[j]? = σ[j]? := by rw [wipe_get, if_neg (fun z => h1 z.1)]
    cases s with
    | em => trivial
    | ex a0 =>
      show (L2.wipe σ is)[j]? = _
      rw [keep]
      exact q
    | va k d =>
      obtain ⟨t, q1, q2, q3⟩ := q
      exact ⟨t, q1, q2, by rw [keep]; exact q3⟩
    | al j' p =>
      obtain ⟨k1, d1, t1, k2, d2, t2, q1, q2, q3, q4⟩ := q
      exact ⟨k1, d1, t1, k2, d2, t2, q1, q2, q3, by rw [keep]; exact q4⟩
end
section
variable {X : Cx} {W : WX} {S : Sta}
theorem lcL_app {bd : Rho → BV → Res Rho} {c : Rho → Res Bool} {x : Rho → Res BV} {ρ : Rho} {vs : List BV} {us : List BV} (h : lcL bd c x ρ vs = .ok us) : us.length ≤ vs.length := by
  induction vs generalizing us with
  | nil => cases h; simp
  | cons v vs ih =>
    unfold lcL at h
    cases q : bd ρ v with
    | er => rw [q] at h; cases h
    | rz c => rw [q] at h; cases h
    | ok ρ1 =>
      rw [q] at h
      replace h : (noRz (c ρ1)).bind (fun b => if b = true then (noRz (x ρ1)).bind fun u => (settle false u).bind fun u => (lcL bd c x ρ vs).bind fun us => .ok (u :: us) else lcL bd c x ρ vs) = .ok us := h
      cases q1 : noRz (c ρ1) with
      | er => rw [q1] at h; cases h
      | rz c => rw [q1] at h; cases h
      | ok b =>
        rw [q1] at h
        cases b with
        | false => exact Nat.le_succ_of_le (ih h)
        | true =>
          replace h : (noRz (x ρ1)).bind (fun u => (settle false u).bind fun u => (lcL bd c x ρ vs).bind fun us => .ok (u :: us)) = .ok us := h
          cases q2 : noRz (x ρ1) with
          | er => rw [q2] at h; cases h
          | rz c => rw [q2] at h; cases h
          | ok u =>
            rw [q2] at h
            replace h : (settle false u).bind (fun u => (lcL bd c x ρ vs).bind fun us => .ok (u :: us)) = .ok us := h
            cases q3 : settle false u with
            | er => rw [q3] at h; cases h
            | rz c => rw [q3] at h; cases h
            | ok u' =>
              rw [q3] at h
              replace h : (lcL bd c x ρ vs).bind (fun us => .ok (u' :: us)) = .ok us := h
              cases q4 : lcL bd c x ρ vs with
              | er => rw [q4] at h; cases h
              | rz c => rw [q4] at h; cases h
              | ok us' =>
                rw [q4] at h
                cases h
                exact Nat.succ_le_succ (ih q4)
/-- the state of a comprehension: us are made so far, the new list stands at Da -/
structure LcP (X : Cx) (S S2 : Sta) (cs : List Tm) (Da : Addr) (us : List BV) (tr : List Tr) : Prop where
  a : Aft S S2
  R : S2.R X.K
  e : S2.τ = stk us tr ++ (cs ++ S.τ)
  l : tr.length = us.length
  hd : S2.H Da = some (.lst (valsB us tr))
  zd : S2.Z Da = none
  nd : ∀ a ∈ ownR S2.ρ S2.ts ++ ownT S2.τ, a ≠ Da
  fr : ∀ a ∈ ownT (stk us tr), S.H a = none
  sd : S.H Da = none
  s0 : S.H0 Da = none
theorem stk_snoc : ∀ {us : List BV} {tr : List Tr} {u : BV} {t : Tr}, tr.length = us.length → stk (us ++ [u]) (tr ++ [t]) = ⟨u.b, u.k, u.d, t⟩ :: stk us tr
  | [], [], u, t, _ => rfl
  | [], _ :: _, _, _, h => by simp at h
  | v :: us, [], _, _, h => by simp at h
  | v :: us, s :: tr, u, t, h => by
    rw [List.cons_append, List.cons_append, stk_cons, stk_cons, stk_snoc (by simpa using h), List.cons_append]
theorem valsB_snoc : ∀ {us : List BV} {tr : List Tr} {u : BV} {t : Tr}, tr.length = us.length → valsB (us ++ [u]) (tr ++ [t]) = valsB us tr ++ [valOf u.d t]
  | [], [], u, t, _ => rfl
  | [], _ :: _, _, _, h => by simp at h
  | v :: us, [], _, _, h => by simp at h
  | v :: us, s :: tr, u, t, h => by
    show valOf v.d s :: valsB (us ++ [u]) (tr ++ [t]) = valOf v.d s :: (valsB us tr ++ [valOf u.d t])
    rw [valsB_snoc (by simpa using h)]
/-- the heap of the block goes on -/
theorem LcP.step {S2 : Sta} {cs : List Tm} {Da : Addr} {us : List BV} {tr : List Tr} (P : LcP X S S2 cs Da us tr) {Z' H' : Hp} (st : Step S2.Z S2.H Z' H') (zh : Same Z' H') : LcP X S (S2.put Z' H' S2.τ) cs Da us tr :=
  ⟨P.a.put st, Rl.step P.R st zh, P.e, P.l, st.hh _ _ P.hd, st.none P.zd P.hd, P.nd, P.fr, P.sd, P.s0⟩
/-- an element is appended -/
theorem LcP.snoc {S2 : Sta} {cs : List Tm} {Da : Addr} {us : List BV} {tr : List Tr} (P : LcP X S S2 cs Da us tr) {Z' H' : Hp} {u : BV} {t : Tr} (st : Step S2.Z S2.H Z' H') (zh : Same Z' H') (ob : Ob X.K Z' H' u.k u.d t) (nd : (own u.k u.d t).Nodup)
    (hb : u.b = true → own u.k u.d t = []) (fr : ∀ a ∈ own u.k u.d t, S2.H a = none) : LcP X S (S2.put Z' (upd H' Da (.lst (valsB us tr ++ [valOf u.d t]))) (⟨u.b, u.k, u.d, t⟩ :: S2.τ)) cs Da (us ++ [u]) (tr ++ [t]) := by
  have P1 := P.step st zh
  have R1 : Rl X.K S2.Z0 S2.H0 Z' H' S2.σ S2.ρ S2.ts S2.τ := P1.R
  have hd1 : H' Da = some (.lst (valsB us tr)) := P1.hd
  have zd1 : Z' Da = none := P1.zd
  have neD : ∀ a ∈ own u.k u.d t, a ≠ Da := fun a m z => by
    have := fr a m
    rw [z, P.hd] at this; cases this
  have R2 : Rl X.K S2.Z0 S2.H0 Z' H' S2.σ S2.ρ S2.ts (⟨u.b, u.k, u.d, t⟩ :: S2.τ) := by
    refine R1.push ob (fun q => ⟨nd, fun a m => by have m : a ∈ own u.k u.d t := m; rw [hb q] at m; cases m⟩) fun _ => ⟨nd, fun a m z => ?_, fun a m => ?_⟩
    · obtain ⟨_, o, e, _⟩ := Rl.own_z P.R a z
      rw [fr a m] at e; cases e
    · exact Rl.h0 P.R |>.free (fr a m)
  have nd2 : ∀ a ∈ ownR S2.ρ S2.ts ++ ownT (⟨u.b, u.k, u.d, t⟩ :: S2.τ), a ≠ Da := fun a m => by
    rcases List.mem_append.mp m with m | m
    · exact P.nd a (List.mem_append_left _ m)
    · simp only [ownT] at m
      rcases List.mem_append.mp m with m | m
      · cases q : u.b with
        | true => rw [q] at m; simp at m
        | false => rw [q] at m; exact neD a (by simpa using m)
      · exact P.nd a (List.mem_append_right _ m)
  have off : ∀ a, a ≠ Da → ∀ o, H' a = some o → upd H' Da (.lst (valsB us tr ++ [valOf u.d t])) a = some o := fun a ne o e => by rw [upd_ne ne]; exact e
  have z0 : S2.H0 Da = none := by
    rw [P.a.h0]
    exact P.s0
  refine ⟨⟨P.a.z0, P.a.h0, P.a.σ, P.a.ρ, P.a.ts, ?_⟩, ?_, ?_, by simp [P.l], ?_, zd1, nd2, fun a m => ?_, P.sd, P.s0⟩
  · have s1 := P1.a.st
    refine ⟨s1.zz, fun b o e => ?_, s1.zn⟩
    have ne : b ≠ Da := fun z => by rw [z, P.sd] at e; cases e
    show upd H' Da _ b = some o
    rw [upd_ne ne]
    exact s1.hh b o e
  · show Rl X.K S2.Z0 S2.H0 Z' (upd H' Da (.lst (valsB us tr ++ [valOf u.d t]))) S2.σ S2.ρ S2.ts (⟨u.b, u.k, u.d, t⟩ :: S2.τ)
    refine R2.ext (Same.refl _) (fun a m => (R2.own_z a m).1) (fun a m o e => off a (nd2 a m) o e) (fun b o e => ?_) (fun b o e => ?_) R2.zn
    · exact off b (fun z => by rw [z, zd1] at e; cases e) o (R2.zh b o e)
    · exact off b (fun z => by rw [z, z0] at e; cases e) o (R2.h0 b o e)
  · show ⟨u.b, u.k, u.d, t⟩ :: S2.τ = _
    rw [stk_snoc P.l, P.e]
    rfl
  · show upd H' Da _ Da = _
    rw [upd_same, valsB_snoc P.l]
  · rw [stk_snoc P.l] at m
    simp only [ownT] at m
    rcases List.mem_append.mp m with m | m
    · cases q : u.b with
      | true => rw [q] at m; simp at m
      | false => rw [q] at m; exact P.a.st.hh.free (fr a (by simpa using m))
    · exact P.fr a m
theorem wipe_wipe {σ : L2.St} {vs : List Nat} : L2.wipe (L2.wipe σ vs) vs = L2.wipe σ vs := by
  refine List.ext_getElem? fun j => ?_
  rw [wipe_get, wipe_length, wipe_get]
  split <;> rfl
/-- the tests of a clause -/
def STt (Y : Cx) (ifs : List Expr) (c : Rho → Res Bool) : Prop := ∀ (S : Sta) (Q : Bool → Hp → Prop), S.R Y.K → GoodT Y W0 S Q (c S.ρ) → ∀ (pins : List (Addr × Obj)) (s : Shared), Inv Y pins S.σ S.H s →
  wpAny (model Y.prog Y.w) Y.A (forIn ifs true fun c r => if r = true then do let b ← isTrue c Y.env (eval c Y.env); pure (ForInStep.yield b) else pure (ForInStep.yield r)) (TP Y pins S.σ Q) Y.xe s
def tTrue : Rho → Res Bool := fun _ => .ok true
theorem stt_nil {Y : Cx} : STt Y [] tTrue := fun S Q R g pins s I => pts_nil.run pins s S.σ S.H Q I (g S Aft.refl rfl R)
theorem stt_one {Y : Cx} {e : Expr} {c : Rho → Res Bool} (h : STs Y W0 e c) : STt Y [e] c := fun S Q R g pins s I => (pts_one pt_w).run pins s S.σ S.H Q I (h S Q R g)
def uTs (X : Cx) (scope : Scope) (ifs : List Expr) : TT := fun σ H Q => ∀ (s0 : Shared) (H0 : Hp) (C : Addr) (cl : List (Str × Addr)) (fp : List Addr) (pins : List (Addr × Obj)) (s : Shared), Inv (X.blk s0 H0 scope (compEnvC scope cl C X.env) fp) pins σ H s →
  wpAny (model X.prog X.w) X.A (forIn ifs true fun c r => if r = true then do let b ← isTrue c (compEnvC scope cl C X.env) (eval c (compEnvC scope cl C X.env)); pure (ForInStep.yield b) else pure (ForInStep.yield r)) (TP (X.blk s0 H0 scope (compEnvC scope cl C X.env) fp) pins σ Q) (fun _ _ => False) s
theorem noRz_bind {α β : Type} {r : Res α} {f : α → Res β} {S : Sta} {Q : VK} {h : Res β → Res BV} (he : h .er = .er) (g : GoodE X W S Q (h ((noRz r).bind f))) : ∃ a, r = .ok a ∧ GoodE X W S Q (h (f a)) := by
  cases r with
  | ok a => exact ⟨a, rfl, g⟩
  | rz c =>
    have g : GoodE X W S Q (h .er) := g
    rw [he] at g
    exact g.elim
  | er =>
    have g : GoodE X W S Q (h .er) := g
    rw [he] at g
    exact g.elim
theorem rl_empty {K : PySem.W.Frag} {Z0 H0 Z H : Hp} {σ : L2.St} {ρ : Rho} {ts : List Tr} {τ : List Tm} (R : Rl K Z0 H0 Z H σ ρ ts τ) : Rl K Z0 H0 Z H σ ρ ts [] := Rl.perm R (fun c h => by cases h) List.Pairwise.nil
theorem tm_nodup {K : PySem.W.Frag} {Z0 H0 Z H : Hp} {σ : L2.St} {ρ : Rho} {ts : List Tr} {τ : List Tm} {c : Tm} (R : Rl K Z0 H0 Z H σ ρ ts (c :: τ)) : (own c.k c.d c.t).Nodup := by
  cases q : c.b with
  | true => exact ((R.tm c List.mem_cons_self).2 q).1
  | false =>
    have n := (List.nodup_append.mp R.nd).2.1
    simp only [ownT, q, if_neg (show ¬ (false = true) by simp)] at n
    exact (List.nodup_append.mp n).1
theorem lc_go {elt tg iter : Expr} {ifs : List Expr} {scope : Scope} {ow : List (Str × Nat)} {is : List Nat} {g : TG} {bd : Rho → BV → Res Rho} {xi : Rho → Res (List BV)} {c : Rho → Res Bool} {x : Rho → Res BV} {Q : VK}
    (hi : SI X W false tg iter xi) (hitm : ItmOk false xi) (hg : SG X.K is g bd) (his : ∀ i ∈ is, i ∈ ow.map (·.2)) (ht : AllB X scope fun Y => STt Y ifs c) (he : AllB X scope fun Y => SE Y W0 elt x) (R : S.R X.K) (g0 : GoodE X W S Q (xLc xi (ow.map (·.2)) bd c x S.ρ)) :
    tLc (wPI X tg iter) g (uTs X scope ifs) (uE X scope elt) (ow.map (·.2)) S.σ S.H Q := by
  refine hi S _ R ?_
  unfold xLc at g0
  cases q : xi S.ρ with
  | er => rw [q] at g0; exact g0
  | rz cc => rw [q] at g0; exact g0
  | ok items =>
    rw [q] at g0
    replace g0 : GoodE X W S Q (if items.length ≤ 1000000 then (lcL bd c x (fgt (ow.map (·.2)) S.ρ) items).bind mkLst else .er) := g0
    by_cases hlen : items.length ≤ 1000000
    · rw [if_pos hlen] at g0
      intro S1 cs J a1 e1 R1 itg _ Da hDa
      have R1' : Rl X.K S1.Z0 S1.H0 S1.Z S1.H S1.σ S1.ρ S1.ts S1.τ := R1
      have hS : S.H Da = none := a1.st.hh.free hDa
      have hS0 : S.H0 Da = none := Rl.h0 R |>.free hS
      have st0 : Step S1.Z S1.H S1.Z (upd S1.H Da (.lst [])) := ⟨Same.refl _, fun b u e => by rw [upd_ne (ne_of_none e hDa)]; exact e, fun b u e => .inl e⟩
      have zh0 : Same S1.Z (upd S1.H Da (.lst [])) := fun b u e => st0.hh _ _ (R1'.zh _ _ e)
      refine ⟨fun i m H => m = items.length - i ∧ i ≤ items.length ∧ ∃ S2 us tr, LcP X S S2 cs Da us tr ∧ S2.H = H ∧ us.length ≤ i ∧ GoodE X W S Q ((lcL bd c x (fgt (ow.map (·.2)) S.ρ) (items.drop i)).bind fun r => mkLst (us ++ r)),
        ⟨items.length, by simp, Nat.zero_le _, S1.put S1.Z (upd S1.H Da (.lst [])) S1.τ, [], [], ⟨a1.put st0, Rl.step R1' st0 zh0, e1, rfl, upd_same, R1'.zh.free hDa, fun a m z => ?_, (fun a m => by cases m), hS, hS0⟩, rfl, Nat.le_refl _, by rw [List.drop_zero]; exact g0⟩, ?_⟩
      · obtain ⟨_, o, e, _⟩ := R1'.own_z a m
        rw [z, hDa] at e; cases e
      rintro i m H ⟨rfl, hile, S2, us, tr, P, rfl, hul, g2⟩
      by_cases hlt : i < items.length
      · obtain ⟨v, hv⟩ : ∃ v, items[i]? = some v := ⟨items[i], by simp [hlt]⟩
        have ed : items.drop i = v :: items.drop (i + 1) := by
          rw [List.drop_eq_getElem_cons hlt]
          congr 1
          have := List.getElem?_eq_getElem hlt
          rw [this] at hv
          exact Option.some.inj hv
        rw [ed] at g2
        have RP : Rl X.K S2.Z0 S2.H0 S2.Z S2.H S2.σ S2.ρ S2.ts (stk us tr ++ (cs ++ S.τ)) := P.R.rl P.e
        have Rcs : Rl X.K S2.Z0 S2.H0 S2.Z S2.H S2.σ S2.ρ S2.ts (cs ++ S.τ) := by
          refine Rl.perm RP (fun c h => List.mem_append_right _ h) ?_
          have n := RP.nd
          rw [ownT_app, ← List.append_assoc] at n
          exact (List.nodup_append.mp n).2.1
        obtain ⟨go, yld⟩ := itg.go Rcs hv
        refine .inr ⟨go, fun H' => ∃ S3 us tr, LcP X S S3 cs Da us tr ∧ S3.H = H' ∧ us.length ≤ i + 1 ∧ GoodE X W S Q ((lcL bd c x (fgt (ow.map (·.2)) S.ρ) (items.drop (i + 1))).bind fun r => mkLst (us ++ r)), fun H' hN => ⟨items.length - (i + 1), by omega, rfl, hlt, hN⟩, fun y H' hy => ?_⟩
        obtain ⟨Z', t, st, zh, ob, owv, rfl⟩ := yld y H' hy
        have P1 := P.step st zh
        have R3 : Rl X.K S2.Z0 S2.H0 Z' H' S2.σ S2.ρ S2.ts [] := rl_empty P1.R
        have R4 := R3.wipe (fun c hc => by cases hc) (ow.map (·.2))
        unfold lcL at g2
        cases qb : bd (fgt (ow.map (·.2)) S.ρ) v with
        | er => rw [qb] at g2; exact g2.elim
        | rz cc => rw [qb] at g2; exact g2.elim
        | ok ρ1 =>
          rw [qb] at g2
          dsimp only at g2
          have eρ : S2.ρ = S.ρ := P.a.ρ
          have eσ : S2.σ = S.σ := P.a.σ
          rw [eρ, eσ] at R4
          refine hg.run R4 (fun c hc => by cases hc) ob owv (hitm _ _ q v (List.mem_of_getElem? hv)) qb fun σ' ts' R5 hw => ?_
          have hw' : L2.wipe σ' (ow.map (·.2)) = L2.wipe S.σ (ow.map (·.2)) := (hw _ his).trans wipe_wipe
          refine ⟨hw', ?_⟩
          obtain ⟨b, hcb, g3⟩ := noRz_bind (h := fun r => r.bind fun r => mkLst (us ++ r)) rfl g2
          intro s0 H0 C clo fp pins s I
          have R5' : Sta.R X.K ⟨S2.Z0, S2.H0, Z', H', σ', ρ1, ts', []⟩ := R5
          refine ht s0 H0 C clo fp ⟨S2.Z0, S2.H0, Z', H', σ', ρ1, ts', []⟩ _ R5' ?_ pins s I
          rw [show c (⟨S2.Z0, S2.H0, Z', H', σ', ρ1, ts', []⟩ : Sta).ρ = .ok b from hcb]
          intro S6 a6 e6 R6
          have R6' : Rl X.K S6.Z0 S6.H0 S6.Z S6.H S6.σ S6.ρ S6.ts S6.τ := R6
          have P2 := P1.step (Z' := S6.Z) (H' := S6.H) a6.st R6'.zh
          cases b with
          | false =>
            rw [if_neg (by simp)]
            exact ⟨_, us, tr, P2, rfl, Nat.le_succ_of_le hul, g3⟩
          | true =>
            rw [if_pos rfl]
            replace g3 : GoodE X W S Q (((noRz (x ρ1)).bind fun u => (settle false u).bind fun u => (lcL bd c x (fgt (ow.map (·.2)) S.ρ) (items.drop (i + 1))).bind fun us => .ok (u :: us)).bind fun r => mkLst (us ++ r)) := g3
            obtain ⟨u, hxu, g4⟩ := noRz_bind (h := fun r => r.bind fun r => mkLst (us ++ r)) rfl g3
            intro s1 H1 C1 clo1 fp1
            have eσ6 : S6.σ = σ' := a6.σ
            have eρ6 : S6.ρ = ρ1 := a6.ρ
            rw [← eσ6]
            refine he s1 H1 C1 clo1 fp1 S6 _ R6 ?_
            rw [show x S6.ρ = .ok u by rw [eρ6]; exact hxu]
            intro S7 t7 a7 e7 R7 f7
            cases qs : settle false u with
            | er => rw [qs] at g4; exact g4.elim
            | rz cc => exact absurd qs settle_rz
            | ok u' =>
              rw [qs] at g4
              replace g4 : GoodE X W S Q (((lcL bd c x (fgt (ow.map (·.2)) S.ρ) (items.drop (i + 1))).bind fun us => .ok (u' :: us)).bind fun r => mkLst (us ++ r)) := g4
              obtain ⟨S8, a8, h8, R8, e8, f8, sd8⟩ := settle_go qs R7 e7 f7 a7
              have R8' : Rl X.K S8.Z0 S8.H0 S8.Z S8.H S8.σ S8.ρ S8.ts (⟨u'.b, u'.k, u'.d, t7⟩ :: S6.τ) := R8.rl e8
              have own8 : u'.b = true → own u'.k u'.d t7 = [] := fun q => by rw [(sd8.2 rfl).1 q]; exact own_zero _ _
              have P3 := P2.snoc (Z' := S8.Z) (H' := S8.H) (u := u') (t := t7) a8.st R8'.zh (R8'.tm _ List.mem_cons_self).1 (tm_nodup R8') own8 (fun a m => by
                cases q : u'.b with
                | true => rw [own8 q] at m; cases m
                | false => exact f8 q a m)
              have hacc : S7.H Da = some (.lst (valsB us tr)) := by
                rw [← h8]
                exact a8.st.hh _ _ P2.hd
              refine ⟨valsB us tr, hacc, ?_, ?_⟩
              · rw [valsB_length P.l, sizeLine_eq]
                omega
              · refine ⟨_, us ++ [u'], tr ++ [t7], P3, ?_, by simp; omega, ?_⟩
                · show upd S8.H Da _ = upd S7.H Da _
                  rw [h8, settle_ok qs]
                · cases ql : lcL bd c x (fgt (ow.map (·.2)) S.ρ) (items.drop (i + 1)) with
                  | er => rw [ql] at g4; exact g4
                  | rz cc => rw [ql] at g4; exact g4
                  | ok rest =>
                    rw [ql] at g4
                    replace g4 : GoodE X W S Q (mkLst (us ++ (u' :: rest))) := g4
                    show GoodE X W S Q (mkLst ((us ++ [u']) ++ rest))
                    rw [List.append_assoc]
                    exact g4
      · have e : i = items.length := by omega
        subst e
        have RP : Rl X.K S2.Z0 S2.H0 S2.Z S2.H S2.σ S2.ρ S2.ts (stk us tr ++ (cs ++ S.τ)) := P.R.rl P.e
        have Rcs : Rl X.K S2.Z0 S2.H0 S2.Z S2.H S2.σ S2.ρ S2.ts (cs ++ S.τ) := by
          refine Rl.perm RP (fun c h => List.mem_append_right _ h) ?_
          have n := RP.nd
          rw [ownT_app, ← List.append_assoc] at n
          exact (List.nodup_append.mp n).2.1
        refine .inl ⟨itg.stop Rcs (Nat.le_refl _), ?_⟩
        rw [List.drop_length] at g2
        replace g2 : GoodE X W S Q (mkLst (us ++ [])) := g2
        rw [List.append_nil] at g2
        unfold mkLst at g2
        cases qd : dispLv us with
        | er => rw [qd] at g2; exact g2.elim
        | rz cc => exact absurd qd disp_rz
        | ok k =>
          rw [qd] at g2
          replace g2 : GoodE X W S Q (.ok ⟨false, sc k, .list (dsB us)⟩) := g2
          have ow' := disp_own qd P.l (rl_nd RP)
          have Rτ : Rl X.K S2.Z0 S2.H0 S2.Z S2.H S2.σ S2.ρ S2.ts S.τ := by
            refine Rl.perm Rcs (fun c h => List.mem_append_right _ h) ?_
            have n := Rcs.nd
            rw [ownT_app, ← List.append_assoc] at n
            exact (List.nodup_append.mp n).2.1
          have oe : ∀ a, a ∈ own (sc k) (.list (dsB us)) (.n Da tr) → a = Da ∨ a ∈ owns k (dsB us) tr := fun a m => by
            simp only [Ev.own, pd_sc, if_neg (sc_ne k)] at m
            rcases List.mem_append.mp m with m | m
            · exact .inl (List.mem_singleton.mp m)
            · exact .inr m
          have hD0 : S2.H0 Da = none := by rw [P.a.h0]; exact hS0
          have R9 : Rl X.K S2.Z0 S2.H0 S2.Z S2.H S2.σ S2.ρ S2.ts (⟨false, sc k, .list (dsB us), .n Da tr⟩ :: S.τ) := by
            refine Rτ.push ?_ (fun z => nomatch z) fun _ => ⟨?_, fun a m z => ?_, fun a m => ?_⟩
            · simp only [Ob, pd_sc]
              refine ⟨?_, stk_obs P.l (disp_ok qd).1 fun c hc => (RP.tm c (List.mem_append_left _ hc)).1⟩
              unfold LstAt
              rw [if_neg (sc_ne k)]
              exact ⟨P.zd, by rw [← valsB_of]; exact P.hd⟩
            · simp only [Ev.own, pd_sc, if_neg (sc_ne k)]
              refine List.nodup_append.mpr ⟨by simp, ow'.1, fun a ha b hb e => ?_⟩
              have ea : a = Da := List.mem_singleton.mp ha
              refine P.nd b ?_ (e ▸ ea)
              rw [P.e, ownT_app]
              exact List.mem_append_right _ (List.mem_append_left _ (ow'.2 b hb))
            · rcases oe a m with e | m
              · refine P.nd a ?_ e
                rw [P.e, ownT_app, ownT_app]
                rcases List.mem_append.mp z with z | z
                · exact List.mem_append_left _ z
                · exact List.mem_append_right _ (List.mem_append_right _ (List.mem_append_right _ z))
              · have n := RP.nd
                rw [ownT_app, ownT_app] at n
                have m' := ow'.2 a m
                obtain ⟨n1, n2, n3⟩ := List.nodup_append.mp n
                obtain ⟨n4, n5, n6⟩ := List.nodup_append.mp n2
                rcases List.mem_append.mp z with z | z
                · exact n3 a z a (List.mem_append_left _ m') rfl
                · exact n6 a m' a (List.mem_append_right _ z) rfl
            · rcases oe a m with e | m
              · rw [e]; exact hD0
              · exact RP.o0 a (List.mem_append_right _ (by rw [ownT_app]; exact List.mem_append_left _ (ow'.2 a m)))
          refine g2 (S2.put S2.Z S2.H (⟨false, sc k, .list (dsB us), .n Da tr⟩ :: S.τ)) (.n Da tr) (P.a.put Step.refl) rfl R9 fun _ a m => ?_
          rcases oe a m with e | m
          · rw [e]; exact hS
          · exact P.fr a (ow'.2 a m)
    · rw [if_neg hlen] at g0
      exact g0.elim
theorem se_lc {elt tg iter : Expr} {ifs : List Expr} {scope : Scope} {ow : List (Str × Nat)} {pos : Pos} {is : List Nat} {g : TG} {bd : Rho → BV → Res Rho} {xi : Rho → Res (List BV)} {c : Rho → Res Bool} {x : Rho → Res BV} (hcm : X.calm = true) (hN : X.N.Nodup) (ok : BlkOk X.N X.env.scope scope ow)
    (hi : SI X W false tg iter xi) (hitm : ItmOk false xi) (hpg : AllB X scope fun Y => PG Y tg g) (hg : SG X.K is g bd) (his : ∀ i ∈ is, i ∈ ow.map (·.2)) (ht : AllB X scope fun Y => STt Y ifs c) (he : AllB X scope fun Y => SE Y W0 elt x) (hs : ∀ x, foldedSetIterable iter X.env x = pure x) :
    SE X W (.ListComp elt [⟨tg, iter, ifs, 0⟩] scope pos) (xLc xi (ow.map (·.2)) bd c x) := by
  intro S Q R g0
  exact wE_of (pe_lc hcm hN pi_w ok hpg (tt := uTs X scope ifs) (te := uE X scope elt) (fun s H C cl fp => ⟨fun pins s1 σ H1 Q I h => h s H C cl fp pins s1 I⟩) (fun s H C cl fp => ⟨fun pins s1 σ H1 Q I h => h s H C cl fp pins s1 I⟩) hs) (lc_go hi hitm hg his ht he R g0)
/-- name = [..] on one line -/
theorem st_asgC {i : Nat} {y : Str} {py spos : Pos} {elt tg iter : Expr} {ifs : List Expr} {scope : Scope} {ow : List (Str × Nat)} {pos : Pos} {is : List Nat} {g : TG} {bd : Rho → BV → Res Rho} {xi : Rho → Res (List BV)} {c : Rho → Res Bool} {x : Rho → Res BV} (hcm : X.calm = true) (hN : X.N.Nodup) (hy : X.N[i]? = some y) (hyl : X.env.scope.names.lookup y = some .local)
    (hsw : swapsWith (.ListComp elt [⟨tg, iter, ifs, 0⟩] scope pos) (some (.Name y py)) spos.line X.env = pure true) (ok : BlkOk X.N X.env.scope scope ow)
    (hi : SI X W false tg iter xi) (hitm : ItmOk false xi) (hpg : AllB X scope fun Y => PG Y tg g) (hg : SG X.K is g bd) (his : ∀ i ∈ is, i ∈ ow.map (·.2)) (ht : AllB X scope fun Y => STt Y ifs c) (he : AllB X scope fun Y => SE Y W0 elt x) (hs : ∀ x, foldedSetIterable iter X.env x = pure x) :
    SSt X W (.Assign [.Name y py] (.ListComp elt [⟨tg, iter, ifs, 0⟩] scope pos) spos) (sAsg i (xLc xi (ow.map (·.2)) bd c x)) := by
  intro S De R hc g0 pins s I
  refine wS_of (ps_setLc hcm hN hy hyl hsw pi_w ok hpg (tt := uTs X scope ifs) (te := uE X scope elt) (fun s H C cl fp => ⟨fun pins s1 σ H1 Q I h => h s H C cl fp pins s1 I⟩) (fun s H C cl fp => ⟨fun pins s1 σ H1 Q I h => h s H C cl fp pins s1 I⟩) hs) ?_ pins s I
  refine lc_go hi hitm hg his ht he (Q := fun v H1 => De.nx (S.σ.set i (some v)) H1) R ?_
  unfold sAsg eS at g0
  cases q : xLc xi (ow.map (·.2)) bd c x S.ρ with
  | er => rw [q] at g0; exact g0
  | rz cc =>
    rw [q] at g0
    exact fun S1 a1 e1 R1 => g0 S1 a1.s a1.ρ e1 R1
  | ok v =>
    rw [q] at g0
    exact fun S1 t a1 e1 R1 f1 => store_go R hc (lt_of_N I hy) a1 e1 R1 g0
end
end Ev

set_option Elab.async false
set_option linter.all false
set_option maxRecDepth 100000
namespace Ev
open PySem PySem.Spec PyProof.Rows L2

/-! ### a part changed in its place -/
def setD : D → List Nat → D → D
  | _, [], x => x
  | .list ds, i :: p, x => .list (ds.set i (setD ((ds[i]?).getD .none) p x))
  | .tuple ds, i :: p, x => .tuple (ds.set i (setD ((ds[i]?).getD .none) p x))
  | .dict kvs, i :: p, x => .dict (kvs.set i (((kvs[i]?).map (·.1)).getD .none, setD (((kvs[i]?).map (·.2)).getD .none) p x))
  | d, _ :: _, _ => d
def setT : Tr → List Nat → Tr → Tr
  | _, [], y => y
  | t, i :: p, y => .n t.at (t.kids.set i (setT ((t.kids[i]?).getD t0) p y))
section
variable {K : PySem.W.Frag} {Z H H' : Hp}
theorem owns_split : ∀ {ds : List D} {ts : List Tr} {i : Nat} {d : D} {t : Tr} {k : Lv}, ds[i]? = some d → ts[i]? = some t → ∃ rest, (owns k ds ts).Perm (own k d t ++ rest) ∧ ∀ x y, (owns k (ds.set i x) (ts.set i y)).Perm (own k x y ++ rest)
  | [], _, _, _, _, _, h, _ => by simp at h
  | _ :: _, [], _, _, _, _, _, h => by simp at h
  | d :: ds, t :: ts, 0, _, _, k, h1, h2 => by
    simp at h1 h2; subst h1; subst h2
    exact ⟨owns k ds ts, by simp only [owns]; exact List.Perm.refl _, fun x y => by simp only [List.set_cons_zero, owns]; exact List.Perm.refl _⟩
  | e :: ds, u :: ts, i + 1, d, t, k, h1, h2 => by
    obtain ⟨rest, p1, p2⟩ := owns_split (ds := ds) (ts := ts) (i := i) (k := k) (by simpa using h1) (by simpa using h2)
    refine ⟨own k e u ++ rest, ?_, fun x y => ?_⟩
    · simp only [owns]
      refine (List.Perm.append_left _ p1).trans ?_
      rw [← List.append_assoc, ← List.append_assoc]
      exact List.Perm.append_right _ List.perm_append_comm
    · simp only [List.set_cons_succ, owns]
      refine (List.Perm.append_left _ (p2 x y)).trans ?_
      rw [← List.append_assoc, ← List.append_assoc]
      exact List.Perm.append_right _ List.perm_append_comm
theorem ownK_split : ∀ {kvs : List (D × D)} {ts : List Tr} {i : Nat} {q d : D} {t : Tr} {k : Lv}, kvs[i]? = some (q, d) → ts[i]? = some t → ∃ rest, (ownK k kvs ts).Perm (own k d t ++ rest) ∧ ∀ x y, (ownK k (kvs.set i (q, x)) (ts.set i y)).Perm (own k x y ++ rest)
  | [], _, _, _, _, _, _, h, _ => by simp at h
  | _ :: _, [], _, _, _, _, _, _, h => by simp at h
  | (q, d) :: r, t :: ts, 0, _, _, _, k, h1, h2 => by
    simp at h1 h2; obtain ⟨rfl, rfl⟩ := h1; subst h2
    exact ⟨ownK k r ts, by simp only [ownK]; exact List.Perm.refl _, fun x y => by simp only [List.set_cons_zero, ownK]; exact List.Perm.refl _⟩
  | (q0, e) :: r, u :: ts, i + 1, q, d, t, k, h1, h2 => by
    obtain ⟨rest, p1, p2⟩ := ownK_split (kvs := r) (ts := ts) (i := i) (k := k) (by simpa using h1) (by simpa using h2)
    refine ⟨own k e u ++ rest, ?_, fun x y => ?_⟩
    · simp only [ownK]
      refine (List.Perm.append_left _ p1).trans ?_
      rw [← List.append_assoc, ← List.append_assoc]
      exact List.Perm.append_right _ List.perm_append_comm
    · simp only [List.set_cons_succ, ownK]
      refine (List.Perm.append_left _ (p2 x y)).trans ?_
      rw [← List.append_assoc, ← List.append_assoc]
      exact List.Perm.append_right _ List.perm_append_comm
theorem valsOf_set : ∀ {ds : List D} {ts : List Tr} {i : Nat} {d x : D} {t y : Tr}, ds[i]? = some d → ts[i]? = some t → valOf x y = valOf d t → valsOf (ds.set i x) (ts.set i y) = valsOf ds ts
  | [], _, _, _, _, _, _, h, _, _ => by simp at h
  | _ :: _, [], _, _, _, _, _, _, h, _ => by simp at h
  | d :: ds, t :: ts, 0, _, _, _, _, h1, h2, e => by
    simp at h1 h2; subst h1; subst h2
    simp only [List.set_cons_zero, valsOf, e]
  | d :: ds, t :: ts, i + 1, _, _, _, _, h1, h2, e => by
    simp only [List.set_cons_succ, valsOf]
    rw [valsOf_set (by simpa using h1) (by simpa using h2) e]
theorem dvals_set : ∀ {kvs : List (D × D)} {ts : List Tr} {i : Nat} {q d x : D} {t y : Tr}, kvs[i]? = some (q, d) → ts[i]? = some t → valOf x y = valOf d t → dvals (kvs.set i (q, x)) (ts.set i y) = dvals kvs ts
  | [], _, _, _, _, _, _, _, h, _, _ => by simp at h
  | _ :: _, [], _, _, _, _, _, _, _, h, _ => by simp at h
  | (q, d) :: r, t :: ts, 0, _, _, _, _, _, h1, h2, e => by
    simp at h1 h2; obtain ⟨rfl, rfl⟩ := h1; subst h2
    simp only [List.set_cons_zero, dvals, e]
  | (q, d) :: r, t :: ts, i + 1, _, _, _, _, _, h1, h2, e => by
    simp only [List.set_cons_succ, dvals]
    rw [dvals_set (by simpa using h1) (by simpa using h2) e]
/-- the others stand, one is new -/
theorem Obs.set {b : Addr} (hh : ∀ a, a ≠ b → ∀ o, H a = some o → H' a = some o) : ∀ {ds : List D} {ts : List Tr} {i : Nat} {d x : D} {t y : Tr} {k : Lv}, Obs K Z H k ds ts → (owns k ds ts).Nodup → ds[i]? = some d → ts[i]? = some t → b ∈ Ev.own k d t → Ob K Z H' k x y → Obs K Z H' k (ds.set i x) (ts.set i y)
  | [], _, _, _, _, _, _, _, _, _, h, _, _, _ => by simp at h
  | _ :: _, [], _, _, _, _, _, _, _, _, _, h, _, _ => by simp at h
  | d :: ds, t :: ts, 0, _, _, _, _, k, o, n, h1, h2, hb, ob => by
    simp at h1 h2; subst h1; subst h2
    simp only [Obs, owns, List.set_cons_zero] at *
    obtain ⟨n1, n2, n3⟩ := List.nodup_append.mp n
    refine ⟨ob, Obs.ext (Same.refl _) ds k ts o.2 (fun a m => (Obs.own ds k ts o.2 a m).1) fun a m => hh a ?_⟩
    intro z
    exact n3 b hb a m z.symm
  | e :: ds, u :: ts, i + 1, d, x, t, y, k, o, n, h1, h2, hb, ob => by
    simp only [Obs, owns, List.set_cons_succ] at *
    obtain ⟨n1, n2, n3⟩ := List.nodup_append.mp n
    have h1' : ds[i]? = some d := by simpa using h1
    have h2' : ts[i]? = some t := by simpa using h2
    refine ⟨Ob.ext (Same.refl _) e k u o.1 (fun a m => (Ob.own e k u o.1 a m).1) (fun a m => hh a fun z => ?_), Obs.set hh o.2 n2 h1' h2' hb ob⟩
    exact n3 a m b (owns_get h1' h2' b hb) z
theorem ownK_get : ∀ {kvs : List (D × D)} {k : Lv} {ts : List Tr} {i : Nat} {q d : D} {t : Tr}, kvs[i]? = some (q, d) → ts[i]? = some t → ∀ a ∈ own k d t, a ∈ ownK k kvs ts
  | [], _, _, _, _, _, _, h, _ => by simp at h
  | _ :: _, _, [], _, _, _, _, _, h => by simp at h
  | (q, d) :: r, k, t :: ts, 0, _, _, _, h1, h2 => fun a m => by
    simp at h1 h2; obtain ⟨rfl, rfl⟩ := h1; subst h2
    simp only [ownK]
    exact List.mem_append_left _ m
  | (q, d) :: r, k, t :: ts, i + 1, _, _, _, h1, h2 => fun a m => by
    simp only [ownK]
    exact List.mem_append_right _ (ownK_get (by simpa using h1) (by simpa using h2) a m)
theorem ObK.set {b : Addr} (hh : ∀ a, a ≠ b → ∀ o, H a = some o → H' a = some o) : ∀ {kvs : List (D × D)} {ts : List Tr} {i : Nat} {q d x : D} {t y : Tr} {k : Lv}, ObK K Z H k kvs ts → (ownK k kvs ts).Nodup → kvs[i]? = some (q, d) → ts[i]? = some t → b ∈ Ev.own k d t → Ob K Z H' k x y → ObK K Z H' k (kvs.set i (q, x)) (ts.set i y)
  | [], _, _, _, _, _, _, _, _, _, _, h, _, _, _ => by simp at h
  | _ :: _, [], _, _, _, _, _, _, _, _, _, _, h, _, _ => by simp at h
  | (q, d) :: r, t :: ts, 0, _, _, _, _, _, k, o, n, h1, h2, hb, ob => by
    simp at h1 h2; obtain ⟨rfl, rfl⟩ := h1; subst h2
    simp only [ObK, ownK, List.set_cons_zero] at *
    obtain ⟨n1, n2, n3⟩ := List.nodup_append.mp n
    refine ⟨o.1, ob, ObK.ext (Same.refl _) r k ts o.2.2 (fun a m => (ObK.own r k ts o.2.2 a m).1) fun a m => hh a fun z => ?_⟩
    exact n3 b hb a m z.symm
  | (q0, e) :: r, u :: ts, i + 1, q, d, x, t, y, k, o, n, h1, h2, hb, ob => by
    simp only [ObK, ownK, List.set_cons_succ] at *
    obtain ⟨n1, n2, n3⟩ := List.nodup_append.mp n
    have h1' : r[i]? = some (q, d) := by simpa using h1
    have h2' : ts[i]? = some t := by simpa using h2
    refine ⟨o.1, Ob.ext (Same.refl _) e k u o.2.1 (fun a m => (Ob.own e k u o.2.1 a m).1) (fun a m => hh a fun z => ?_), ObK.set hh o.2.2 n2 h1' h2' hb ob⟩
    exact n3 a m b (ownK_get h1' h2' b hb) z
/-- what the change of a part asks and gives -/
structure Upd (K : PySem.W.Frag) (Z H' : Hp) (k : Lv) (d d2 : D) (t t2 : Tr) (N : List Addr) : Prop where
  ob : Ob K Z H' k d2 t2
  nd : (own k d2 t2).Nodup
  sub : ∀ a ∈ own k d2 t2, a ∈ own k d t ∨ a ∈ N
  val : valOf d2 t2 = valOf d t
theorem upd_path {k' : Lv} {d' x : D} {t' y : Tr} {N : List Addr} (hh : ∀ a, a ≠ t'.at → ∀ o, H a = some o → H' a = some o) (hN : ∀ a ∈ N, H a = none ∨ True) (hb : t'.at ∈ own k' d' t') (u : Upd K Z H' k' d' x t' y N) :
    ∀ (p : List Nat) {k : Lv} {d : D} {t : Tr}, Ob K Z H k d t → (own k d t).Nodup → (∀ a ∈ N, a ∉ own k d t) → sub k d t p = some (k', d', t') → Upd K Z H' k d (setD d p x) t (setT t p y) N
  | [], k, d, t, o, n, _, e => by
    simp only [Ev.sub, Option.some.injEq, Prod.mk.injEq] at e
    obtain ⟨rfl, rfl, rfl⟩ := e
    exact u
  | i :: p, k, d, t, o, n, hNd, e => by
    simp only [Ev.sub] at e
    cases q : (kidsD d)[i]? with
    | none => rw [q] at e; cases e
    | some d1 =>
      cases q2 : t.kids[i]? with
      | none => rw [q, q2] at e; cases e
      | some t1 =>
        rw [q, q2] at e
        have e : Ev.sub (lvK k d) d1 t1 p = some (k', d', t') := e
        obtain ⟨t1', q2', o1, m1⟩ := kids_ob o q
        rw [q2] at q2'; cases q2'
        have n1 := kid_nodup n q q2
        have ih := upd_path hh hN hb u p o1 n1 (fun a m z => hNd a m (m1 a z)) e
        -- the changed object is the kid's
        have hb1 : t'.at ∈ own (lvK k d) d1 t1 := by
          have main : ∀ (p : List Nat) {k : Lv} {d : D} {t : Tr}, Ob K Z H k d t → Ev.sub k d t p = some (k', d', t') → t'.at ∈ own k d t := by
            intro p
            induction p with
            | nil =>
              intro k d t _ e
              simp only [Ev.sub, Option.some.injEq, Prod.mk.injEq] at e
              obtain ⟨rfl, rfl, rfl⟩ := e
              exact hb
            | cons j p ih =>
              intro k d t o e
              simp only [Ev.sub] at e
              cases r : (kidsD d)[j]? with
              | none => rw [r] at e; cases e
              | some d2 =>
                cases r2 : t.kids[j]? with
                | none => rw [r, r2] at e; cases e
                | some t2 =>
                  rw [r, r2] at e
                  obtain ⟨t3, r3, o3, m3⟩ := kids_ob o r
                  rw [r2] at r3; cases r3
                  exact m3 _ (ih o3 e)
          exact main p o1 e
        have et : (t.kids[i]?).getD t0 = t1 := by rw [q2]; rfl
        cases d with
        | list ds =>
          have q : ds[i]? = some d1 := q
          have ed : (ds[i]?).getD .none = d1 := by rw [q]; rfl
          simp only [Ob, Ev.own, lvK] at o n n1 hb1 hNd ih m1
          simp only [setD, setT, ed, et]
          obtain ⟨rest, p1, p2⟩ := owns_split (k := pd k) q q2
          have p2 := p2 (setD d1 p x) (setT t1 p y)
          have nt : (owns (pd k) ds t.kids).Nodup := (List.nodup_append.mp n).2.1
          have tne : k ≠ some 0 → t.at ≠ t'.at := fun hk z => by
            refine (List.nodup_append.mp n).2.2 t.at (by simp [hk]) t'.at ?_ z
            exact owns_get q q2 _ hb1
          have nr := (p1.nodup_iff.mp nt)
          obtain ⟨r1, r2, r3⟩ := List.nodup_append.mp nr
          have sub2 : ∀ a ∈ owns (pd k) (ds.set i (setD d1 p x)) (t.kids.set i (setT t1 p y)), a ∈ owns (pd k) ds t.kids ∨ a ∈ N := fun a m => by
            rcases List.mem_append.mp (p2.mem_iff.mp m) with m | m
            · rcases ih.sub a m with z | z
              · exact .inl (p1.mem_iff.mpr (List.mem_append_left _ z))
              · exact .inr z
            · exact .inl (p1.mem_iff.mpr (List.mem_append_right _ m))
          refine ⟨?_, ?_, fun a m => ?_, rfl⟩
          · simp only [Ob]
            refine ⟨?_, Obs.set hh o.2 nt q q2 hb1 ih.ob⟩
            show LstAt K Z H' k t.at (valsOf (ds.set i (setD d1 p x)) (t.kids.set i (setT t1 p y)))
            rw [valsOf_set q q2 ih.val]
            exact o.1.ext (Same.refl _) (fun hk => by
              have := o.1
              unfold LstAt at this
              rw [if_neg hk] at this
              exact this.1) fun hk => hh _ (tne hk)
          · simp only [Ev.own]
            refine List.nodup_append.mpr ⟨(List.nodup_append.mp n).1, p2.nodup_iff.mpr (List.nodup_append.mpr ⟨ih.nd, r2, fun a ha b hb' z => ?_⟩), fun a ha b hb' z => ?_⟩
            · subst z
              rcases ih.sub a ha with m | m
              · exact r3 a m a hb' rfl
              · refine hNd a m (List.mem_append_right _ (p1.mem_iff.mpr (List.mem_append_right _ hb')))
            · subst z
              rcases sub2 a hb' with m | m
              · exact (List.nodup_append.mp n).2.2 a ha a m rfl
              · exact hNd a m (List.mem_append_left _ ha)
          · simp only [Ev.own] at m ⊢
            rcases List.mem_append.mp m with m | m
            · exact .inl (List.mem_append_left _ m)
            · rcases sub2 a m with z | z
              · exact .inl (List.mem_append_right _ z)
              · exact .inr z
        | tuple ds =>
          have q : ds[i]? = some d1 := q
          have ed : (ds[i]?).getD .none = d1 := by rw [q]; rfl
          simp only [Ob, Ev.own, lvK] at o n n1 hb1 hNd ih m1
          simp only [setD, setT, ed, et]
          obtain ⟨rest, p1, p2⟩ := owns_split (k := k) q q2
          have p2 := p2 (setD d1 p x) (setT t1 p y)
          have nr := (p1.nodup_iff.mp n)
          obtain ⟨r1, r2, r3⟩ := List.nodup_append.mp nr
          have sub2 : ∀ a ∈ owns k (ds.set i (setD d1 p x)) (t.kids.set i (setT t1 p y)), a ∈ owns k ds t.kids ∨ a ∈ N := fun a m => by
            rcases List.mem_append.mp (p2.mem_iff.mp m) with m | m
            · rcases ih.sub a m with z | z
              · exact .inl (p1.mem_iff.mpr (List.mem_append_left _ z))
              · exact .inr z
            · exact .inl (p1.mem_iff.mpr (List.mem_append_right _ m))
          refine ⟨?_, ?_, fun a m => ?_, rfl⟩
          · simp only [Ob]
            refine ⟨?_, Obs.set hh o.2 n q q2 hb1 ih.ob⟩
            show SqT K Z t.at (valsOf (ds.set i (setD d1 p x)) (t.kids.set i (setT t1 p y)))
            rw [valsOf_set q q2 ih.val]
            exact o.1
          · simp only [Ev.own]
            refine p2.nodup_iff.mpr (List.nodup_append.mpr ⟨ih.nd, r2, fun a ha b hb' z => ?_⟩)
            subst z
            rcases ih.sub a ha with m | m
            · exact r3 a m a hb' rfl
            · exact hNd a m (p1.mem_iff.mpr (List.mem_append_right _ hb'))
          · simp only [Ev.own] at m ⊢
            exact sub2 a m
        | dict kvs =>
          have q : (kvs.map (·.2))[i]? = some d1 := q
          rw [List.getElem?_map] at q
          cases qk : kvs[i]? with
          | none => rw [qk] at q; cases q
          | some pr =>
            obtain ⟨ky, dv⟩ := pr
            rw [qk] at q
            have edv : dv = d1 := by simpa using q
            subst edv
            simp only [Ob, Ev.own, lvK] at o n n1 hb1 hNd ih m1
            simp only [setD, setT, qk, et, Option.map_some, Option.getD_some]
            obtain ⟨rest, p1, p2⟩ := ownK_split (k := pd k) qk q2
            have p2 := p2 (setD dv p x) (setT t1 p y)
            have nt : (ownK (pd k) kvs t.kids).Nodup := (List.nodup_append.mp n).2.1
            have tne : k ≠ some 0 → t.at ≠ t'.at := fun hk z => by
              refine (List.nodup_append.mp n).2.2 t.at (by simp [hk]) t'.at ?_ z
              exact ownK_get qk q2 _ hb1
            have nr := (p1.nodup_iff.mp nt)
            obtain ⟨r1, r2, r3⟩ := List.nodup_append.mp nr
            have sub2 : ∀ a ∈ ownK (pd k) (kvs.set i (ky, setD dv p x)) (t.kids.set i (setT t1 p y)), a ∈ ownK (pd k) kvs t.kids ∨ a ∈ N := fun a m => by
              rcases List.mem_append.mp (p2.mem_iff.mp m) with m | m
              · rcases ih.sub a m with z | z
                · exact .inl (p1.mem_iff.mpr (List.mem_append_left _ z))
                · exact .inr z
              · exact .inl (p1.mem_iff.mpr (List.mem_append_right _ m))
            refine ⟨?_, ?_, fun a m => ?_, rfl⟩
            · simp only [Ob]
              refine ⟨?_, ObK.set hh o.2 nt qk q2 hb1 ih.ob⟩
              show DctAt Z H' k t.at (dvals (kvs.set i (ky, setD dv p x)) (t.kids.set i (setT t1 p y)))
              rw [dvals_set qk q2 ih.val]
              exact o.1.ext (Same.refl _) (fun hk => by
                have := o.1
                unfold DctAt at this
                rw [if_neg hk] at this
                exact this.1) fun hk => hh _ (tne hk)
            · simp only [Ev.own]
              refine List.nodup_append.mpr ⟨(List.nodup_append.mp n).1, p2.nodup_iff.mpr (List.nodup_append.mpr ⟨ih.nd, r2, fun a ha b hb' z => ?_⟩), fun a ha b hb' z => ?_⟩
              · subst z
                rcases ih.sub a ha with m | m
                · exact r3 a m a hb' rfl
                · refine hNd a m (List.mem_append_right _ (p1.mem_iff.mpr (List.mem_append_right _ hb')))
              · subst z
                rcases sub2 a hb' with m | m
                · exact (List.nodup_append.mp n).2.2 a ha a m rfl
                · exact hNd a m (List.mem_append_left _ ha)
            · simp only [Ev.own] at m ⊢
              rcases List.mem_append.mp m with m | m
              · exact .inl (List.mem_append_left _ m)
              · rcases sub2 a m with z | z
                · exact .inl (List.mem_append_right _ z)
                · exact .inr z
        | none => simp [kidsD] at q
        | bool _ => simp [kidsD] at q
        | int _ => simp [kidsD] at q
        | str _ => simp [kidsD] at q
end
end Ev

set_option Elab.async false
set_option linter.all false
set_option maxRecDepth 100000
namespace Ev
open PySem PySem.Spec PyProof.Rows L2

theorem ownR_apart : ∀ {ρ : Rho} {ts : List Tr} {i j : Nat} {k k' : Lv} {d d' : D} {t t' : Tr}, (ownR ρ ts).Nodup → i ≠ j → ρ[i]? = some (.va k d) → ts[i]? = some t → ρ[j]? = some (.va k' d') → ts[j]? = some t' → ∀ a ∈ own k d t, a ∉ own k' d' t'
  | [], _, _, _, _, _, _, _, _, _, _, _, h, _, _, _ => by simp at h
  | _ :: _, [], _, _, _, _, _, _, _, _, _, _, _, h, _, _ => by simp at h
  | s :: ρ, u :: ts, 0, 0, _, _, _, _, _, _, _, h, _, _, _, _ => absurd rfl h
  | s :: ρ, u :: ts, 0, j + 1, _, _, _, _, _, _, n, _, h1, h2, h3, h4 => fun a m m' => by
    simp at h1 h2; subst h1; subst h2
    simp only [ownR] at n
    exact (List.nodup_append.mp n).2.2 a m a (ownR_get (by simpa using h3) (by simpa using h4) a m') rfl
  | s :: ρ, u :: ts, i + 1, 0, _, _, _, _, _, _, n, _, h1, h2, h3, h4 => fun a m m' => by
    simp at h3 h4; subst h3; subst h4
    simp only [ownR] at n
    exact (List.nodup_append.mp n).2.2 a m' a (ownR_get (by simpa using h1) (by simpa using h2) a m) rfl
  | s :: ρ, u :: ts, i + 1, j + 1, _, _, _, _, _, _, n, h, h1, h2, h3, h4 => by
    have n' : (ownR ρ ts).Nodup := by
      cases s with
      | em => simpa only [ownR] using n
      | ex a0 => simpa only [ownR] using n
      | va k d => simp only [ownR] at n; exact (List.nodup_append.mp n).2.1
      | al j p => simpa only [ownR] using n
    exact ownR_apart n' (fun z => h (congrArg (· + 1) z)) (by simpa using h1) (by simpa using h2) (by simpa using h3) (by simpa using h4)
section
variable {K : PySem.W.Frag} {Z0 H0 Z H H' : Hp} {σ : L2.St} {ρ : Rho} {ts : List Tr} {τ : List Tm}
/-- the datum of the slot j is changed in its place; what it takes up was under way -/
theorem Rl.upd {j : Nat} {kv : Lv} {dv : D} {tv : Tr} {k k2 : Lv} {d d2 : D} {t t2 : Tr} {b : Addr} (R : Rl K Z0 H0 Z H σ ρ ts (⟨false, kv, dv, tv⟩ :: τ)) (hc : Clean τ) (e : ρ[j]? = some (.va k d)) (e' : ts[j]? = some t) (hb : b ∈ own k d t)
    (hh : ∀ a, a ≠ b → ∀ o, H a = some o → H' a = some o) (ob : Ob K Z H' k2 d2 t2) (nd : (own k2 d2 t2).Nodup) (sub : ∀ a ∈ own k2 d2 t2, a ∈ own k d t ∨ a ∈ own kv dv tv) (val : valOf d2 t2 = valOf d t) :
    Rl K Z0 H0 Z H' σ (setSl ρ j (.va k2 d2)) (ts.set j t2) τ := by
  have l1 : j < ρ.length := (List.getElem?_eq_some_iff.mp e).1
  have l2 : j < ts.length := (List.getElem?_eq_some_iff.mp e').1
  have lσ : j < σ.length := by rw [← R.lr]; exact l1
  obtain ⟨s0, t1, rest, e1, e2, p1, p2⟩ := ownR_split (ρ := killA j ρ) (ts := ts) (i := j) (by rw [killA_length]; exact l1) l2
  rw [killA_va e] at e1; cases e1
  rw [e'] at e2; cases e2
  rw [ownR_kill] at p1
  have p2 := p2 (.va k2 d2) t2
  have p1' : (ownR ρ ts).Perm (own k d t ++ rest) := p1
  have p2' : (ownR (setSl ρ j (.va k2 d2)) (ts.set j t2)).Perm (own k2 d2 t2 ++ rest) := p2
  have eT : ownT (⟨false, kv, dv, tv⟩ :: τ) = own kv dv tv ++ ownT τ := by simp [ownT]
  have n := R.nd
  rw [eT] at n
  have n' : ((own k d t ++ rest) ++ (own kv dv tv ++ ownT τ)).Nodup := (List.Perm.append_right _ p1').nodup_iff.mp n
  obtain ⟨a1, a2, a3⟩ := List.nodup_append.mp n'
  obtain ⟨b1, b2, b3⟩ := List.nodup_append.mp a1
  obtain ⟨c1, c2, c3⟩ := List.nodup_append.mp a2
  have old : ∀ a, a ∈ ownR (setSl ρ j (.va k2 d2)) (ts.set j t2) ++ ownT τ → a ∈ ownR ρ ts ++ (own kv dv tv ++ ownT τ) := fun a m => by
    rcases List.mem_append.mp m with m | m
    · rcases List.mem_append.mp (p2'.mem_iff.mp m) with m | m
      · rcases sub a m with m | m
        · exact List.mem_append_left _ (p1'.mem_iff.mpr (List.mem_append_left _ m))
        · exact List.mem_append_right _ (List.mem_append_left _ m)
      · exact List.mem_append_left _ (p1'.mem_iff.mpr (List.mem_append_right _ m))
    · exact List.mem_append_right _ (List.mem_append_right _ m)
  have zb : Z b = none ∧ H0 b = none := by
    have m : b ∈ ownR ρ ts ++ ownT (⟨false, kv, dv, tv⟩ :: τ) := List.mem_append_left _ (ownR_get e e' b hb)
    exact ⟨(R.own_z b m).1, R.o0 b m⟩
  have off : ∀ a, a ∈ rest → a ≠ b := fun a m z => b3 b hb a m z.symm
  have offT : ∀ a, a ∈ ownT τ → a ≠ b := fun a m z => a3 b (List.mem_append_left _ hb) a (List.mem_append_right _ m) z.symm
  refine ⟨fun a o q => hh a (fun z => by rw [z, zb.1] at q; cases q) o (R.zh a o q), fun a o q => hh a (fun z => by rw [z, zb.2] at q; cases q) o (R.h0 a o q), R.z0, R.zn, ?_, ?_, fun i s es => ?_, fun c hcm => ?_, ?_, fun a m => ?_⟩
  · simp only [setSl, List.length_set, killA_length]; exact R.lr
  · simp only [List.length_set]; exact R.lt
  · by_cases hi : i = j
    · subst hi
      unfold setSl at es
      rw [List.getElem?_set_self (by rw [killA_length]; exact l1)] at es
      cases es
      obtain ⟨t0', q1, _, q2⟩ := R.sl i _ e
      rw [e'] at q1; cases q1
      exact ⟨t2, by rw [List.getElem?_set_self l2], ob, by rw [val]; exact q2⟩
    · unfold setSl at es
      rw [List.getElem?_set_ne (Ne.symm hi)] at es
      obtain ⟨s0, e0, h⟩ := killA_get es
      rcases h with ⟨rfl, hal⟩ | rfl
      · have q := R.sl i s e0
        cases s with
        | em => trivial
        | ex a0 => exact q
        | va k' d' =>
          obtain ⟨t', q1, q2, q3⟩ := q
          have q1' : (ts.set j t2)[i]? = some t' := by rw [List.getElem?_set_ne (Ne.symm hi)]; exact q1
          refine ⟨t', q1', Ob.ext (Same.refl _) d' k' t' q2 (fun a m => (Ob.own d' k' t' q2 a m).1) (fun a m => hh a fun z => ?_), q3⟩
          exact ownR_apart (List.nodup_append.mp n).1 hi e0 q1 e e' a m (z ▸ hb)
        | al j' p =>
          obtain ⟨k1, d1, t1, k3, d3, t3, q1, q2, q3, q4⟩ := q
          have hj' : j' ≠ j := fun z => hal p (by rw [z])
          refine ⟨k1, d1, t1, k3, d3, t3, ?_, by rw [List.getElem?_set_ne (Ne.symm hj')]; exact q2, q3, q4⟩
          unfold setSl
          rw [List.getElem?_set_ne (Ne.symm hj')]
          exact killA_va q1
      · trivial
  · obtain ⟨o, hbr⟩ := R.tm c (List.mem_cons_of_mem _ hcm)
    have m : ∀ a ∈ own c.k c.d c.t, a ∈ ownT τ := fun a m => by
      cases q : c.b with
      | true => rw [hc c hcm q] at m; cases m
      | false => exact ownT_mem hcm q a m
    exact ⟨Ob.ext (Same.refl _) _ _ _ o (fun a q => (Ob.own _ _ _ o a q).1) (fun a q => hh a (offT a (m a q))), fun q => ⟨(hbr q).1, fun a m => by rw [hc c hcm q] at m; cases m⟩⟩
  · refine (List.Perm.append_right _ p2').nodup_iff.mpr ?_
    refine List.nodup_append.mpr ⟨List.nodup_append.mpr ⟨nd, b2, fun a ha x hx z => ?_⟩, c2, fun a ha x hx z => ?_⟩
    · subst z
      rcases sub a ha with m | m
      · exact b3 a m a hx rfl
      · exact a3 a (List.mem_append_right _ hx) a (List.mem_append_left _ m) rfl
    · subst z
      rcases List.mem_append.mp ha with m | m
      · rcases sub a m with m | m
        · exact a3 a (List.mem_append_left _ m) a (List.mem_append_right _ hx) rfl
        · exact c3 a m a hx rfl
      · exact a3 a (List.mem_append_right _ m) a (List.mem_append_right _ hx) rfl
  · have := old a m
    rw [← eT] at this
    exact R.o0 a this
end

/-! ### places -/
def plcR (ρ : Rho) (i : Nat) : Res (Nat × List Nat) := match ρ[i]? with
  | some (.va _ _) => .ok (i, [])
  | some (.al j p) => .ok (j, p)
  | _ => .er
def xPl (i : Nat) : Rho → Res (Nat × List Nat) := fun ρ => plcR ρ i
/-- what stands at a place -/
def atP (ρ : Rho) (q : Nat × List Nat) : Res (Lv × D) := match ρ[q.1]? with
  | some (.va k d) => match subD k d q.2 with
    | some r => .ok r
    | none => .er
  | _ => .er
def GoodP (X : Cx) (W : WX) (S : Sta) (Q : VK) : Res (Nat × List Nat) → Prop
  | .ok q => ∀ (S' : Sta) (k : Lv) (d : D) (t : Tr) (k' : Lv) (d' : D) (t' : Tr), Aft S S' → S'.τ = S.τ → S'.R X.K → S.ρ[q.1]? = some (.va k d) → S'.ts[q.1]? = some t → sub k d t q.2 = some (k', d', t') → Q (valOf d' t') S'.H
  | .rz c => ∀ S' : Sta, Aft S S' → S'.τ = S.τ → S'.R X.K → Raised X W c S'.σ S'.H
  | .er => False
def SP (X : Cx) (W : WX) (e : Expr) (x : Rho → Res (Nat × List Nat)) : Prop := ∀ (S : Sta) (Q : VK), S.R X.K → GoodP X W S Q (x S.ρ) → wE X e S.σ S.H Q
theorem sub_app : ∀ {p q : List Nat} {k : Lv} {d : D} {t : Tr} {k1 : Lv} {d1 : D} {t1 : Tr}, sub k d t p = some (k1, d1, t1) → sub k d t (p ++ q) = sub k1 d1 t1 q
  | [], q, k, d, t, k1, d1, t1, h => by
    simp only [sub, Option.some.injEq, Prod.mk.injEq] at h
    obtain ⟨rfl, rfl, rfl⟩ := h
    rfl
  | i :: p, q, k, d, t, k1, d1, t1, h => by
    simp only [sub, List.cons_append] at h ⊢
    cases e : (kidsD d)[i]? with
    | none => rw [e] at h; cases h
    | some d2 =>
      cases e2 : t.kids[i]? with
      | none => rw [e, e2] at h; cases h
      | some t2 =>
        rw [e, e2] at h
        exact sub_app h
section
variable {X : Cx} {W : WX} {S : Sta} {De : Ends}
theorem sp_name {i : Nat} {x : Str} {pos : Pos} (hN : X.N[i]? = some x) (hv : Vis X.env.scope x) (hd : (x == ("__debug__" : Str)) = false) (hcd : (x == ("__classdict__" : Str)) = false) : SP X W (.Name x pos) (xPl i) := by
  intro S Q R g
  refine wE_of (pe_var (i := i) hN hv hd hcd) ?_
  unfold xPl plcR at g
  have R' : Rl X.K S.Z0 S.H0 S.Z S.H S.σ S.ρ S.ts S.τ := R
  cases q : S.ρ[i]? with
  | none => rw [q] at g; exact g.elim
  | some s =>
    rw [q] at g
    cases s with
    | em => exact g.elim
    | ex a0 => exact g.elim
    | va k d =>
      obtain ⟨t, e1, o, e2⟩ := R'.sl i _ q
      exact ⟨_, e2, g S k d t k d t Aft.refl rfl R q e1 rfl⟩
    | al j p =>
      obtain ⟨k, d, t, k', d', t', e1, e2, e3, e4⟩ := R'.sl i _ q
      exact ⟨_, e4, g S k d t k' d' t' Aft.refl rfl R e1 e2 e3⟩
/-- the item of a place -/
def posD : Lv × D → D → Res Nat
  | (_, .list ds), .int i => match ixN ds.length i with
    | some n => .ok n
    | none => .er
  | _, _ => .er
theorem posD_inv (r : Lv × D) (d : D) : posD r d = .er ∨ ∃ ds i n, r.2 = .list ds ∧ d = .int i ∧ ixN ds.length i = some n ∧ posD r d = .ok n := by
  obtain ⟨rk, rd⟩ := r
  cases rd <;> try exact .inl rfl
  cases d <;> try exact .inl rfl
  rename_i ds i
  cases q : ixN ds.length i with
  | none => exact .inl (by unfold posD; dsimp only; rw [q])
  | some n => exact .inr ⟨ds, i, n, rfl, rfl, q, by unfold posD; dsimp only; rw [q]⟩
def xPlIx (a : Rho → Res (Nat × List Nat)) (b : Rho → Res BV) : Rho → Res (Nat × List Nat) := fun ρ => (a ρ).bind fun q => (b ρ).bind fun v => (atP ρ q).bind fun r => (posD r v.d).bind fun n => .ok (q.1, q.2 ++ [n])
theorem atP_ok {ρ : Rho} {q : Nat × List Nat} {r : Lv × D} (h : atP ρ q = .ok r) : ∃ k d, ρ[q.1]? = some (.va k d) ∧ subD k d q.2 = some r := by
  unfold atP at h
  split at h
  · rename_i k d e
    split at h <;> cases h
    rename_i r e2
    exact ⟨k, d, e, e2⟩
  · cases h
/-- what stands at a place, in any later state -/
theorem atP_at {q : Nat × List Nat} {r : Lv × D} (h : atP S.ρ q = .ok r) (R : S.R X.K) : ∃ k d t t', S.ρ[q.1]? = some (.va k d) ∧ S.ts[q.1]? = some t ∧ sub k d t q.2 = some (r.1, r.2, t') ∧ Ob X.K S.Z S.H k d t ∧ Ob X.K S.Z S.H r.1 r.2 t' ∧ (own k d t).Nodup ∧ ∀ a ∈ own r.1 r.2 t', a ∈ own k d t := by
  have R' : Rl X.K S.Z0 S.H0 S.Z S.H S.σ S.ρ S.ts S.τ := R
  obtain ⟨k, d, e1, e2⟩ := atP_ok h
  obtain ⟨t, e3, o, _⟩ := R'.sl _ _ e1
  obtain ⟨t', e4, o', m⟩ := sub_ob o (k' := r.1) (d' := r.2) e2
  exact ⟨k, d, t, t', e1, e3, e4, o, o', ownR_nodup (List.nodup_append.mp R'.nd).1 e1 e3, m⟩
theorem sp_ix {a b : Expr} {pos : Pos} {xa : Rho → Res (Nat × List Nat)} {xb : Rho → Res BV} (ha : SP X W a xa) (hb : SE X W b xb) (hs : PlainIx b) : SP X W (.Subscript a b pos) (xPlIx xa xb) := by
  intro S Q R g
  refine wE_of (pe_ix ixR_w pe_w pe_w hs) ?_
  refine ha S _ R ?_
  unfold xPlIx at g
  cases q : xa S.ρ with
  | er => rw [q] at g; exact g
  | rz c => rw [q] at g; exact g
  | ok q1 =>
    rw [q] at g
    intro S1 k d t k' d' t' a1 e1 R1 h1 h2 h3
    have z : wE X b S1.σ S1.H fun y H2 => wI X (valOf d' t') y H2 Q := by
      refine hb S1 _ R1 ?_
      rw [a1.ρ]
      replace g : GoodP X W S Q ((xb S.ρ).bind fun v => (atP S.ρ q1).bind fun r => (posD r v.d).bind fun n => .ok (q1.1, q1.2 ++ [n])) := g
      cases qb : xb S.ρ with
      | er => rw [qb] at g; exact g
      | rz c =>
        rw [qb] at g
        exact fun S2 a2 e2 R2 => g S2 (a1.trans a2) (e2.trans e1) R2
      | ok v =>
        rw [qb] at g
        intro S2 tv a2 e2 R2 f2
        replace g : GoodP X W S Q ((atP S.ρ q1).bind fun r => (posD r v.d).bind fun n => .ok (q1.1, q1.2 ++ [n])) := g
        have a3 := a1.trans a2
        cases qr : atP S.ρ q1 with
        | er => rw [qr] at g; exact g.elim
        | rz c =>
          exfalso
          unfold atP at qr
          split at qr
          · split at qr <;> cases qr
          · cases qr
        | ok r =>
          rw [qr] at g
          replace g : GoodP X W S Q ((posD r v.d).bind fun n => .ok (q1.1, q1.2 ++ [n])) := g
          obtain ⟨k0, d0, t0', t1, f1, f3, f4, o0, o1, _, _⟩ := atP_at (S := S2) (by rw [a3.ρ]; exact qr) R2
          rw [a3.ρ] at f1
          rw [h1] at f1; cases f1
          have ets : S2.ts = S1.ts := a2.ts
          rw [ets, h2] at f3; cases f3
          rw [h3] at f4
          cases f4
          rcases posD_inv r v.d with z | ⟨ds, i, n, hr, hvd, qi, z⟩
          · rw [z] at g
            exact g.elim
          · rw [z] at g
            replace g : GoodP X W S Q (.ok (q1.1, q1.2 ++ [n])) := g
            obtain ⟨rk, rd⟩ := r
            cases hr
            rw [hvd]
            simp only [Ob] at o1
            have R2' := R2.rl e2
            have hn : n < ds.length := (ixN_seq qi).2.1
            obtain ⟨dn, hdn⟩ : ∃ dn, ds[n]? = some dn := ⟨ds[n], by simp [hn]⟩
            have hat : atI ds i = some dn := by unfold atI; rw [qi]; exact hdn
            obtain ⟨j, t2, g1, g2, g3⟩ := atI_valsOf o1.2 hat
            obtain ⟨t3, g4, o3⟩ := o1.2.get hdn
            have g5 : atI (valsOf ds t'.kids) i = some (valOf dn t3) := by
              unfold atI
              rw [valsOf_length o1.2.len, qi]
              exact valsOf_get hdn g4
            refine wI_of ix_list ⟨t'.at, _, i, _, rfl, rfl, o1.1.sq R2'.zh, g5, ?_⟩
            have R3 := R2'.pop
            refine g (S2.put S2.Z S2.H S.τ) k d t (pd rk) dn t3 (a3.put Step.refl) rfl ?_ h1 (by show S2.ts[q1.1]? = _; rw [ets]; exact h2) ?_
            · rw [← e1]; exact R3
            · rw [sub_app h3]
              simp only [sub, kidsD, hdn, g4]
              rfl
    rw [a1.σ] at z
    exact z

/-! ### what is put into a list -/
/-- the level of a list that takes up v; root: it is a slot's own datum -/
def takeLv (root : Bool) (k : Lv) (others : List D) (v : BV) : Res Lv :=
  if k = some 0 then .er
  else if flat v.d = true then .ok k
  else if v.k = none then (if k = none then .ok k else .er)
  else if pd k = some 0 then .ok k
  else if root = true ∧ flats others = true then .ok (some 1) else .er
theorem takeLv_ok {root : Bool} {k k2 : Lv} {ds : List D} {v : BV} (h : takeLv root k ds v = .ok k2) (hv : v.b = false → flat v.d = true ∨ v.k = none ∨ v.k = some 0) (hb : v.b = true → v.k = some 0) :
    k ≠ some 0 ∧ k2 ≠ some 0 ∧ (flat v.d = true ∨ pd k2 = v.k) ∧ (k2 = k ∨ root = true ∧ flats ds = true) := by
  unfold takeLv at h
  split at h
  · cases h
  · rename_i h0
    split at h
    · rename_i hf
      cases h
      exact ⟨h0, h0, .inl hf, .inl rfl⟩
    · rename_i hf
      have vk : v.k = none ∨ v.k = some 0 := by
        cases q : v.b with
        | true => exact .inr (hb q)
        | false => exact (hv q).elim (fun z => absurd z hf) _root_.id
      split at h
      · rename_i hn
        split at h <;> cases h
        rename_i hk
        refine ⟨h0, h0, .inr ?_, .inl rfl⟩
        rw [hk, hn]; rfl
      · rename_i hn
        have v0 : v.k = some 0 := vk.elim (fun z => absurd z hn) _root_.id
        split at h
        · rename_i hk
          cases h
          exact ⟨h0, h0, .inr (by rw [hk, v0]), .inl rfl⟩
        · split at h <;> cases h
          rename_i hr
          exact ⟨h0, by simp, .inr (by rw [v0]; rfl), .inr hr⟩
theorem takeLv_rz {root : Bool} {k : Lv} {ds : List D} {v : BV} {c : Str} : takeLv root k ds v ≠ .rz c := by
  intro h
  unfold takeLv at h
  split at h
  · cases h
  · split at h
    · cases h
    · split at h
      · split at h <;> cases h
      · split at h
        · cases h
        · split at h <;> cases h
theorem obs_app {K : PySem.W.Frag} {Z H : Hp} {k : Lv} {d : D} {t : Tr} : ∀ {ds : List D} {ts : List Tr}, Obs K Z H k ds ts → Ob K Z H k d t → Obs K Z H k (ds ++ [d]) (ts ++ [t])
  | [], [], _, o => by simp only [List.nil_append, Obs, and_true]; exact o
  | e :: ds, u :: ts, h, o => by
    simp only [List.cons_append, Obs] at *
    exact ⟨h.1, obs_app h.2 o⟩
  | [], _ :: _, h, _ => by simp only [Obs] at h
  | _ :: _, [], h, _ => by simp only [Obs] at h
theorem owns_app {k : Lv} {d : D} {t : Tr} : ∀ {ds : List D} {ts : List Tr}, ds.length = ts.length → owns k (ds ++ [d]) (ts ++ [t]) = owns k ds ts ++ own k d t
  | [], [], _ => by simp [owns]
  | e :: ds, u :: ts, h => by
    simp only [List.cons_append, owns, List.append_assoc]
    rw [owns_app (by simpa using h)]
  | [], _ :: _, h => by simp at h
  | _ :: _, [], h => by simp at h
theorem vals_app {d : D} {t : Tr} : ∀ {ds : List D} {ts : List Tr}, ds.length = ts.length → valsOf (ds ++ [d]) (ts ++ [t]) = valsOf ds ts ++ [valOf d t]
  | [], [], _ => by simp [valsOf]
  | e :: ds, u :: ts, h => by
    simp only [List.cons_append, valsOf]
    rw [vals_app (by simpa using h)]
  | [], _ :: _, h => by simp at h
  | _ :: _, [], h => by simp at h
end
end Ev

set_option Elab.async false
set_option linter.all false
set_option maxRecDepth 100000
namespace Ev
open PySem PySem.Spec PyProof.Rows L2

/-! ### a list changed in its place -/
section
variable {K : PySem.W.Frag} {Z0 H0 Z H : Hp} {σ : L2.St} {ρ : Rho} {ts : List Tr} {τ : List Tm}
theorem mut_list {q : Nat × List Nat} {k k' k2 : Lv} {d dv : D} {ds ds2 : List D} {t t' : Tr} {kv : Lv} {tv : Tr} {kids2 : List Tr} (R : Rl K Z0 H0 Z H σ ρ ts (⟨false, kv, dv, tv⟩ :: τ)) (hc : Clean τ)
    (e : ρ[q.1]? = some (.va k d)) (e' : ts[q.1]? = some t) (es : sub k d t q.2 = some (k', .list ds, t')) (hk : k' ≠ some 0) (hk2 : k2 ≠ some 0) (hr : k2 = k' ∨ q.2 = [])
    (ob : ∀ H' : Hp, (∀ a, a ≠ t'.at → ∀ o, H a = some o → H' a = some o) → t'.at ∉ owns (pd k') ds t'.kids → t'.at ∉ own kv dv tv → Obs K Z H' (pd k2) ds2 kids2)
    (nd : (owns (pd k') ds t'.kids ++ own kv dv tv).Nodup → (owns (pd k2) ds2 kids2).Nodup) (sb : ∀ a ∈ owns (pd k2) ds2 kids2, a ∈ owns (pd k') ds t'.kids ∨ a ∈ own kv dv tv) :
    H t'.at = some (.lst (valsOf ds t'.kids)) ∧ Rl K Z0 H0 Z (upd H t'.at (.lst (valsOf ds2 kids2))) σ (setSl ρ q.1 (.va (if q.2 = [] then k2 else k) (setD d q.2 (.list ds2)))) (ts.set q.1 (setT t q.2 (.n t'.at kids2))) τ := by
  obtain ⟨t1, e1, o, _⟩ := R.sl _ _ e
  rw [e'] at e1; cases e1
  obtain ⟨t2, e2, o2, m2⟩ := sub_ob o (sub_subD es)
  rw [es] at e2; cases e2
  simp only [Ob] at o2
  have ht : Z t'.at = none ∧ H t'.at = some (.lst (valsOf ds t'.kids)) := by
    have := o2.1
    unfold LstAt at this
    rw [if_neg hk] at this
    exact this
  have mb : t'.at ∈ own k' (.list ds) t' := by simp only [Ev.own, if_neg hk]; exact List.mem_append_left _ (List.mem_singleton.mpr rfl)
  have n := R.nd
  have eT : ownT (⟨false, kv, dv, tv⟩ :: τ) = own kv dv tv ++ ownT τ := by simp [ownT]
  rw [eT] at n
  have nR := (List.nodup_append.mp n).1
  have nd0 : (own k d t).Nodup := ownR_nodup nR e e'
  have ndk : (own k' (.list ds) t').Nodup := sub_nodup nd0 es
  have ndv : (own kv dv tv).Nodup := (List.nodup_append.mp (List.nodup_append.mp n).2.1).1
  have dis : ∀ a ∈ own kv dv tv, a ∉ own k d t := fun a m m' => (List.nodup_append.mp n).2.2 a (ownR_get e e' a m') a (List.mem_append_left _ m) rfl
  have n1 : t'.at ∉ owns (pd k') ds t'.kids := by
    have := ndk
    simp only [Ev.own, if_neg hk] at this
    exact fun z => (List.nodup_append.mp this).2.2 _ (List.mem_singleton.mpr rfl) _ z rfl
  have n2 : t'.at ∉ own kv dv tv := fun z => dis _ z (m2 _ mb)
  have hh : ∀ a, a ≠ t'.at → ∀ o, H a = some o → upd H t'.at (.lst (valsOf ds2 kids2)) a = some o := fun a h o q => by rw [upd_ne h]; exact q
  have nd2 := nd (by
    refine List.nodup_append.mpr ⟨?_, ndv, fun a m b m' z => ?_⟩
    · have := ndk
      simp only [Ev.own] at this
      exact (List.nodup_append.mp this).2.1
    · subst z
      exact dis a m' (m2 a (by simp only [Ev.own]; exact List.mem_append_right _ m)))
  have u0 : (Ob K Z (upd H t'.at (.lst (valsOf ds2 kids2))) k2 (.list ds2) (.n t'.at kids2) ∧ (Ev.own k2 (.list ds2) (.n t'.at kids2)).Nodup ∧ (∀ a ∈ Ev.own k2 (.list ds2) (.n t'.at kids2), a ∈ Ev.own k' (.list ds) t' ∨ a ∈ own kv dv tv)) := by
    refine ⟨?_, ?_, fun a m => ?_⟩
    · simp only [Ob]
      refine ⟨?_, ob _ hh n1 n2⟩
      unfold LstAt
      rw [if_neg hk2]
      exact ⟨ht.1, upd_same⟩
    · simp only [Ev.own, if_neg hk2]
      refine List.nodup_append.mpr ⟨by simp, nd2, fun a m b m' z => ?_⟩
      subst z
      have := List.mem_singleton.mp m
      subst this
      rcases sb _ m' with h | h
      · exact n1 h
      · exact n2 h
    · simp only [Ev.own, if_neg hk2, if_neg hk] at m ⊢
      rcases List.mem_append.mp m with m | m
      · exact .inl (List.mem_append_left _ m)
      · rcases sb a m with h | h
        · exact .inl (List.mem_append_right _ h)
        · exact .inr h
  refine ⟨ht.2, ?_⟩
  by_cases hp : q.2 = []
  · rw [if_pos hp, hp]
    rw [hp] at es
    simp only [Ev.sub, Option.some.injEq, Prod.mk.injEq] at es
    obtain ⟨rfl, rfl, rfl⟩ := es
    have z := Rl.upd R hc e e' mb hh u0.1 u0.2.1 u0.2.2 rfl
    simp only [setD, setT]
    exact z
  · rw [if_neg hp]
    have hkk : k2 = k' := hr.elim _root_.id fun z => absurd z hp
    subst hkk
    have u0' : Upd K Z (upd H t'.at (.lst (valsOf ds2 kids2))) k2 (.list ds) (.list ds2) t' (.n t'.at kids2) (own kv dv tv) := ⟨u0.1, u0.2.1, u0.2.2, rfl⟩
    have u := upd_path hh (fun _ _ => .inr trivial) mb u0' q.2 o nd0 dis es
    exact Rl.upd R hc e e' (m2 _ mb) hh u.ob u.nd u.sub u.val
end
theorem setdF {v : BV} (h : Setd false v) : (v.b = true → v.k = some 0) ∧ (v.b = false → flat v.d = true ∨ v.k = none ∨ v.k = some 0) := ⟨(h.2 rfl).1, fun q => .inr ((h.2 rfl).2 q)⟩
/-- what is put in has the level of what is there -/
theorem put_lv {K : PySem.W.Frag} {Z H : Hp} {k2 kv : Lv} {dv : D} {tv : Tr} (h : flat dv = true ∨ pd k2 = kv) (o : Ob K Z H kv dv tv) : Ob K Z H (pd k2) dv tv ∧ own (pd k2) dv tv = own kv dv tv := by
  rcases h with h | h
  · exact ⟨flat_ob dv _ _ tv h o, by rw [flat_own dv _ tv h, flat_own dv _ tv h]⟩
  · rw [h]; exact ⟨o, rfl⟩
theorem Obs.lv {K : PySem.W.Frag} {Z H : Hp} {k k2 : Lv} {ds : List D} {ts : List Tr} (h : k2 = k ∨ flats ds = true) (o : Obs K Z H k ds ts) : Obs K Z H k2 ds ts ∧ owns k2 ds ts = owns k ds ts := by
  rcases h with h | h
  · rw [h]; exact ⟨o, rfl⟩
  · have h' : flat (.tuple ds) = true := by simp only [flat]; exact h
    have e : ∀ k, owns k ds ts = [] := fun k => by
      have := flat_own (.tuple ds) k (.n 0 ts) h'
      simpa only [Ev.own, Tr.kids] using this
    refine ⟨?_, by rw [e, e]⟩
    exact flats_obs ds k k2 ts h o
def isRoot (p : List Nat) : Bool := match p with
  | [] => true
  | _ => false
theorem isRoot_of {p : List Nat} (h : isRoot p = true) : p = [] := by
  cases p with
  | nil => rfl
  | cons a b => cases h
/-- the slots behind a change at the place q -/
def chg (ρ : Rho) (q : Nat × List Nat) (k2 : Lv) (x : D) : Rho := match ρ[q.1]? with
  | some (.va k d) => setSl ρ q.1 (.va (if q.2 = [] then k2 else k) (setD d q.2 x))
  | _ => ρ
theorem chg_va {ρ : Rho} {q : Nat × List Nat} {k2 : Lv} {x : D} {k : Lv} {d : D} (e : ρ[q.1]? = some (.va k d)) : chg ρ q k2 x = setSl ρ q.1 (.va (if q.2 = [] then k2 else k) (setD d q.2 x)) := by
  unfold chg; rw [e]
def appV (ρ : Rho) (q : Nat × List Nat) (v : BV) : Res Rho := (settle false v).bind fun v => (atP ρ q).bind fun r => match r.2 with
  | .list ds => if ds.length < sizeLine then (takeLv (isRoot q.2) r.1 ds v).bind fun k2 => .ok (chg ρ q k2 (.list (ds ++ [v.d]))) else .er
  | _ => .er
/-- a list stands at the place -/
def isL (ρ : Rho) (q : Nat × List Nat) : Bool := match atP ρ q with
  | .ok (_, .list _) => true
  | _ => false
theorem isL_of {ρ : Rho} {q : Nat × List Nat} (h : isL ρ q = true) : ∃ k ds, atP ρ q = .ok (k, .list ds) := by
  unfold isL at h
  split at h
  · exact ⟨_, _, ‹_›⟩
  · cases h
def sApp (a : Rho → Res (Nat × List Nat)) (x : Rho → Res BV) : Rho → SR := fun ρ => match a ρ with
  | .ok q => if isL ρ q = true then match x ρ with
    | .ok v => match appV ρ q v with
      | .ok ρ' => .nx ρ'
      | _ => .er
    | .rz c => .rz c ρ
    | .er => .er else .er
  | .rz c => .rz c ρ
  | .er => .er
theorem atP_rz {ρ : Rho} {q : Nat × List Nat} {c : Str} : atP ρ q ≠ .rz c := by
  intro h
  unfold atP at h
  split at h
  · split at h <;> cases h
  · cases h
theorem appV_ok {ρ ρ' : Rho} {q : Nat × List Nat} {v : BV} (h : appV ρ q v = .ok ρ') : ∃ v' k' ds k2, settle false v = .ok v' ∧ atP ρ q = .ok (k', .list ds) ∧ ds.length < sizeLine ∧ takeLv (isRoot q.2) k' ds v' = .ok k2 ∧ ρ' = chg ρ q k2 (.list (ds ++ [v'.d])) := by
  unfold appV at h
  cases q1 : settle false v with
  | er => rw [q1] at h; cases h
  | rz c => exact absurd q1 settle_rz
  | ok v' =>
    rw [q1] at h
    replace h : (atP ρ q).bind (fun r => match r.2 with | .list ds => if ds.length < sizeLine then (takeLv (isRoot q.2) r.1 ds v').bind fun k2 => .ok (chg ρ q k2 (.list (ds ++ [v'.d]))) else .er | _ => .er) = .ok ρ' := h
    cases q2 : atP ρ q with
    | er => rw [q2] at h; cases h
    | rz c => exact absurd q2 atP_rz
    | ok r =>
      rw [q2] at h
      obtain ⟨k', dd⟩ := r
      simp only [Res.bind_ok] at h
      cases dd <;> try (cases h; done)
      rename_i ds
      simp only at h
      split at h
      · rename_i hl
        cases q3 : takeLv (isRoot q.2) k' ds v' with
        | er => rw [q3] at h; cases h
        | rz c => exact absurd q3 takeLv_rz
        | ok k2 =>
          rw [q3] at h
          cases h
          exact ⟨v', k', ds, k2, rfl, rfl, hl, q3, rfl⟩
      · cases h
section
variable {X : Cx} {W : WX} {S : Sta} {De : Ends}
theorem st_app {o e : Expr} {a : Rho → Res (Nat × List Nat)} {x : Rho → Res BV} {apos cpos pos : Pos} (ho : SP X W o a) (he : SE X W e x)
    (hbase : attributeBase o "append" X.env (eval o X.env) = eval o X.env := by rfl)
    (hfew : ((backTo cpos (starEach [e] X.env)).all (fun x => !x.1) && (backToKw cpos (keywordEach [] X.env)).all (fun x => x.1.isSome)
      && decide (([e] : List Expr).length + ([] : List Keyword).length + (if ([] : List Keyword).isEmpty then 0 else 1) < 30)) = true := by rfl)
    (hline : (apos.endLine == cpos.line) = true := by rfl) (hs : starEach [e] X.env = (false, eval e X.env) :: starEach [] X.env := by rfl) (hplain : (backTo cpos (starEach [] X.env)).any (·.1) = false := by rfl)
    (hsw : swapsWith (.Call (.Attribute o "append" apos) [e] [] cpos) none pos.line X.env = pure false) : SSt X W (.Expr (.Call (.Attribute o "append" apos) [e] [] cpos) pos) (sApp a x) := by
  intro S De R hc g
  have ha : SA X W false [e] [x] := sa_cons he sa_nil hs
  refine wS_of (ps_expr (pe_bm PySem.F.plainAttrs_list PySem.F.slot_list_append PySem.F.type_list_append mt_append (pe_w (e := o)) (pa_w (es := [e])) hbase hfew hline hs hplain) hsw) ?_
  refine ho S _ R ?_
  unfold sApp at g
  cases qa : a S.ρ with
  | er => rw [qa] at g; exact g
  | rz c => rw [qa] at g; exact fun S1 a1 e1 R1 => g S1 a1.s a1.ρ e1 R1
  | ok q =>
    rw [qa] at g
    intro S1 k d t k' d' t' a1 e1 R1 h1 h2 h3
    dsimp only at g
    by_cases hL : isL S.ρ q = true
    rotate_left
    · rw [if_neg hL] at g; exact g.elim
    rw [if_pos hL] at g
    obtain ⟨kL, dsL, eL⟩ := isL_of hL
    obtain ⟨kL', dL', eL4, eL5⟩ := atP_ok eL
    rw [h1] at eL4; cases eL4
    have eL6 := sub_subD h3
    rw [eL5] at eL6; cases eL6
    have o1 : Ob X.K S1.Z S1.H k' (.list dsL) t' := by
      have R1' : Rl X.K S1.Z0 S1.H0 S1.Z S1.H S1.σ S1.ρ S1.ts S1.τ := R1
      obtain ⟨t1, f1, o, _⟩ := R1'.sl _ _ (by rw [a1.ρ]; exact h1)
      rw [h2] at f1; cases f1
      obtain ⟨t2, f2, o2, _⟩ := sub_ob o (sub_subD h3)
      rw [h3] at f2; cases f2
      exact o2
    have z : wA X [e] S1.σ S1.H fun xs H2 => rAppend (valOf (.list dsL) t') xs H2 fun _ H3 => De.nx S.σ H3 := by
      refine ha S1 _ R1 ?_
      rw [a1.ρ]
      unfold evA
      cases qx : x S.ρ with
      | er => rw [qx] at g; exact g.elim
      | rz c =>
        rw [qx] at g
        exact fun S2 a2 e2 R2 => g S2 (a1.trans a2).s (a1.trans a2).ρ (e2.trans e1) R2
      | ok v =>
        rw [qx] at g
        dsimp only at g
        cases qp : appV S.ρ q v with
        | er => rw [qp] at g; exact g.elim
        | rz c => rw [qp] at g; exact g.elim
        | ok ρ' =>
          rw [qp] at g
          dsimp only at g
          obtain ⟨v', k1, ds, k2, s1, s2, s3, s4, rfl⟩ := appV_ok qp
          have sd := settle_setd s1
          rw [Res.bind_ok, s1]
          intro S2 tr a2 l2 e2 R2 f2
          cases tr with
          | nil => cases l2
          | cons tv tr =>
            cases tr with
            | cons _ _ => simp at l2
            | nil =>
              have a3 := a1.trans a2
              have R2' : Rl X.K S2.Z0 S2.H0 S2.Z S2.H S2.σ S2.ρ S2.ts (⟨v'.b, v'.k, v'.d, tv⟩ :: S.τ) := by
                have := R2.rl e2
                rw [e1] at this
                exact this
              have R3 : Rl X.K S2.Z0 S2.H0 S2.Z S2.H S2.σ S2.ρ S2.ts (⟨false, v'.k, v'.d, tv⟩ :: S.τ) := by
                cases qb : v'.b with
                | false => rw [qb] at R2'; exact R2'
                | true =>
                  have k0 := (setdF sd).1 qb
                  have ov := (R2'.tm _ List.mem_cons_self).1
                  exact R2'.pop.push0 ov (by show own v'.k v'.d tv = []; rw [k0]; exact own_zero _ _)
              rw [eL] at s2; cases s2
              obtain ⟨t1, t2, t3, t4⟩ := takeLv_ok s4 (setdF sd).2 (setdF sd).1
              have ov := (R3.tm _ List.mem_cons_self).1
              have ets : S2.ts[q.1]? = some t := by rw [a2.ts]; exact h2
              have eρ : S2.ρ[q.1]? = some (.va k d) := by rw [a3.ρ]; exact h1
              obtain ⟨pv, po⟩ := put_lv t3 ov
              have lv : pd k2 = pd k' ∨ flats dsL = true := t4.elim (fun z => .inl (by rw [z])) fun z => .inr z.2
              have o2 : Ob X.K S2.Z S2.H k' (.list dsL) t' := by
                obtain ⟨u1, u2, u3, _⟩ := R3.sl _ _ eρ
                rw [ets] at u2; cases u2
                obtain ⟨u4, u5, u6, _⟩ := sub_ob u3 (sub_subD h3)
                rw [h3] at u5; cases u5
                exact u6
              simp only [Ob] at o2
              have ll := o2.2.len
              have M := mut_list (q := q) (ds2 := dsL ++ [v'.d]) (kids2 := t'.kids ++ [tv]) (k2 := k2) R3 hc eρ ets h3 t1 t2 (t4.elim .inl fun z => .inr (isRoot_of z.1)) (fun H' hh m1 m2 => ?_) (fun n => ?_) fun a m => ?_
              · refine ⟨t'.at, valsOf dsL t'.kids, valOf v'.d tv, rfl, rfl, M.1, by rw [valsOf_length ll]; exact s3, ?_⟩
                have R4 := M.2
                rw [vals_app ll] at R4
                have g3 := g ⟨S2.Z0, S2.H0, S2.Z, upd S2.H t'.at (.lst (valsOf dsL t'.kids ++ [valOf v'.d tv])), S2.σ, setSl S2.ρ q.1 (.va (if q.2 = [] then k2 else k) (setD d q.2 (.list (dsL ++ [v'.d])))), S2.ts.set q.1 (setT t q.2 (.n t'.at (t'.kids ++ [tv]))), S.τ⟩ ⟨a3.z0, a3.h0, a3.st.zz⟩ (by show setSl S2.ρ q.1 _ = _; rw [a3.ρ, chg_va h1]) rfl R4
                rw [← a3.σ]
                exact g3
              · refine obs_app ?_ ?_
                · refine (Obs.lv (H := H') lv ?_).1
                  refine Obs.ext (Same.refl _) dsL _ t'.kids o2.2 (fun a m => (Obs.own dsL _ t'.kids o2.2 a m).1) fun a m => hh a fun z => m1 (z ▸ m)
                · exact Ob.ext (Same.refl _) _ _ _ pv (fun a m => (Ob.own _ _ _ pv a m).1) fun a m => hh a fun z => m2 (by rw [← z, ← po]; exact m)
              · rw [owns_app ll, (Obs.lv lv o2.2).2, po]
                exact n
              · rw [owns_app ll, (Obs.lv lv o2.2).2, po] at m
                exact List.mem_append.mp m
    rw [a1.σ] at z
    refine ⟨?_, z⟩
    simp only [Ob] at o1
    have R1'' : Rl X.K S1.Z0 S1.H0 S1.Z S1.H S1.σ S1.ρ S1.ts S1.τ := R1
    exact .inl ⟨rfl, _, o1.1.sq R1''.zh⟩
end
end Ev

set_option Elab.async false
set_option linter.all false
set_option maxRecDepth 100000
namespace Ev
open PySem PySem.Spec PyProof.Rows L2

/-! ### try -/
section
variable {K : PySem.W.Frag} {Z0 H0 Z H : Hp} {σ : L2.St} {ρ : Rho} {ts : List Tr} {τ : List Tm}
theorem ownR_ex {a : Addr} : ∀ {ρ : Rho} {ts : List Tr} {i : Nat}, ownR (ρ.set i (.ex a)) ts = ownR (ρ.set i .em) ts
  | [], _, _ => by simp
  | s :: ρ, [], 0 => by simp [ownR]
  | s :: ρ, [], i + 1 => by simp [ownR]
  | s :: ρ, t :: ts, 0 => by simp [ownR]
  | s :: ρ, t :: ts, i + 1 => by
    simp only [List.set_cons_succ]
    cases s <;> simp only [ownR, ownR_ex (ρ := ρ) (ts := ts) (i := i)]
/-- a slot is set by hand: to an exception, or to nothing -/
theorem Rl.hand {i : Nat} {v : Option V} {s : Sl} (R : Rl K Z0 H0 Z H σ ρ ts τ) (hc : Clean τ) (hs : s = .em ∨ ∃ a, s = .ex a ∧ v = some (.ref a)) : Rl K Z0 H0 Z H (σ.set i v) (setSl ρ i s) ts τ := by
  have R1 := R.forget (i := i) hc
  have eo : ownR (setSl ρ i s) ts = ownR (setSl ρ i .em) ts := by
    rcases hs with rfl | ⟨a, rfl, _⟩
    · rfl
    · unfold setSl; exact ownR_ex
  refine ⟨R1.zh, R1.h0, R1.z0, R1.zn, ?_, ?_, fun j s' e => ?_, fun c hcm => ?_, by rw [eo]; exact R1.nd, by rw [eo]; exact R1.o0⟩
  · simp only [setSl, List.length_set, killA_length]; exact R.lr
  · simp only [List.length_set]; exact R.lt
  · by_cases hj : j = i
    · subst hj
      have l1 : j < ρ.length := by
        have := (List.getElem?_eq_some_iff.mp e).1
        simpa only [setSl, List.length_set, killA_length] using this
      unfold setSl at e
      rw [List.getElem?_set_self (by rw [killA_length]; exact l1)] at e
      cases e
      rcases hs with rfl | ⟨a, rfl, rfl⟩
      · trivial
      · show (σ.set j _)[j]? = _
        rw [List.getElem?_set_self (by rw [← R.lr]; exact l1)]
    · have e' : (setSl ρ i .em)[j]? = some s' := by
        unfold setSl at e ⊢
        rw [List.getElem?_set_ne (Ne.symm hj)] at e ⊢
        exact e
      have q := R1.sl j s' e'
      cases s' with
      | em => trivial
      | ex a0 =>
        show (σ.set i _)[j]? = _
        rw [List.getElem?_set_ne (Ne.symm hj)]
        exact q
      | va k' d' =>
        obtain ⟨t', q1, q2, q3⟩ := q
        exact ⟨t', q1, q2, by rw [List.getElem?_set_ne (Ne.symm hj)]; exact q3⟩
      | al j' p =>
        obtain ⟨k1, d1, t1, k2, d2, t2, q1, q2, q3, q4⟩ := q
        have hj' : j' ≠ i := fun z => by
          subst z
          unfold setSl at q1
          by_cases l : j' < ρ.length
          · rw [List.getElem?_set_self (by rw [killA_length]; exact l)] at q1
            cases q1
          · rw [List.getElem?_eq_none (by simp only [List.length_set, killA_length]; omega)] at q1
            cases q1
        refine ⟨k1, d1, t1, k2, d2, t2, ?_, q2, q3, by rw [List.getElem?_set_ne (Ne.symm hj)]; exact q4⟩
        unfold setSl at q1 ⊢
        rw [List.getElem?_set_ne (Ne.symm hj')] at q1 ⊢
        exact q1
  · obtain ⟨o, hb⟩ := R1.tm c hcm
    exact ⟨o, fun q => ⟨(hb q).1, fun a m => by rw [eo]; exact (hb q).2 a m⟩⟩
end
def SR.kill (i : Nat) : SR → SR
  | .nx ρ => .nx (setSl ρ i .em)
  | .bk ρ => .bk (setSl ρ i .em)
  | .ct ρ => .ct (setSl ρ i .em)
  | .rt k d => .rt k d
  | _ => .er
def SR.hot : SR → SR
  | .rz _ _ => .er
  | r => r
/-- try .. except x as n; cs: is the class caught -/
def sTryAs (i : Nat) (cs : Str → Option Bool) (b : Rho → SR) (s : Addr → Str → Rho → SR) : Rho → SR := fun ρ => match b ρ with
  | .rz c ρ' => match cs c with
    | some true => (s 0 c (setSl ρ' i (.ex 0))).kill i
    | some false => .rz c ρ'
    | none => .er
  | r => r
def sTry (cs : Str → Option Bool) (b : Rho → SR) (s : Str → Rho → SR) : Rho → SR := fun ρ => match b ρ with
  | .rz c ρ' => match cs c with
    | some true => (s c ρ').hot
    | some false => .rz c ρ'
    | none => .er
  | r => r
/-- what the caught class says of the classes -/
def Caught (K : PySem.W.Frag) (mg : Str → Option Value) (v : Value) (cs : Str → Option Bool) : Prop := ∀ c b, cs c = some b → ∀ C, mg c = some (.ref C) → PySem.W.exmOne K (.ref C) v = some b
abbrev noX : WX := fun _ _ _ _ => False
section
variable {X : Cx} {W : WX} {S : Sta} {De : Ends}
theorem GoodS.tr {pn : List (Addr × Obj)} {xe : Value → Shared → Prop} {W1 : WX} {r : SR} (g : GoodS X W S De r) (h : ∀ c ρ, r = .rz c ρ → ∀ S' : Sta, AftS S S' → S'.ρ = ρ → S'.τ = S.τ → S'.R X.K → Raised X W1 c S'.σ S'.H) : GoodS (X.tr pn xe) W1 S De r := by
  cases r with
  | nx ρ => exact g
  | bk ρ => exact g
  | ct ρ => exact g
  | rt k d => exact g
  | rz c ρ => exact h c ρ rfl
  | er => exact g
theorem st_tryAs {x n : Str} {v : Value} {i : Nat} {cs : Str → Option Bool} {body suite : List Stmt} {b₀ : Stmt} {np pos pos' : Pos} {sb : Rho → SR} {s : Addr → Str → Rho → SR} (hs : X.stack = X.env :: X.outer) (hf : X.env.frame = some X.env.locals) (hN : X.N.Nodup) (hi : X.N[i]? = some n) (hln : X.env.kindOf n = some .local) (hc : Names X x v) (tk : Takes X W)
    (hcs : Caught X.K X.mg v cs) (hb : ∀ (W : WX) (pn : List (Addr × Obj)) (xe : Value → Shared → Prop), Takes (X.tr pn xe) W → SSs (X.tr pn xe) W body sb)
    (hsu : ∀ (a : Addr) (oe : Obj) (c : Str) (C : Addr) (pn : List (Addr × Obj)), X.mg c = some (.ref C) → Zc (.ref C) none oe → (∃ vs, oe.data = .fields vs) → SSs (X.suite a ((a, oe) :: pn)) noX (b₀ :: suite) (s a c))
    (hu : ∀ a c ρ, (s a c (setSl ρ i (.ex a))).kill i = (s 0 c (setSl ρ i (.ex 0))).kill i) :
    SSt X W (.Try body [.ExceptHandler (some (.Name x np)) (some n) (b₀ :: suite) pos'] [] [] pos) (sTryAs i cs sb s) := by
  intro S De R hcl g
  refine wS_of (ps_try_as (tb := fun W1 De σ H => ∀ (pn : List (Addr × Obj)) (xe : Value → Shared → Prop), Takes (X.tr pn xe) W1 → wSs (X.tr pn xe) body De σ H)
    (ts := fun a cls d De σ H => ∀ (oe : Obj) (pn : List (Addr × Obj)), Zc cls d oe → (∃ vs, oe.data = .fields vs) → wSs (X.suite a ((a, oe) :: pn)) (b₀ :: suite) De σ H) (Wout := W) hs hf hN hi hln hc tk
    (fun W1 pn xe tk1 _ => ⟨fun pins s1 σ H De I h => h pn xe tk1 pins s1 I⟩) (fun a oe cls d pn hz hd => ⟨fun pins s1 σ H De I h => h oe pn hz hd pins s1 I⟩)) ?_
  intro pn xe tk1
  refine hb _ pn xe tk1 S De R hcl ?_
  unfold sTryAs at g
  cases q : sb S.ρ with
  | nx ρ => rw [q] at g; exact g
  | bk ρ => rw [q] at g; exact g
  | ct ρ => rw [q] at g; exact g
  | rt k d => rw [q] at g; exact g
  | er => rw [q] at g; exact g
  | rz c ρ' =>
    rw [q] at g
    dsimp only at g
    intro S1 a1 e1 e2 R1 C hC
    cases qc : cs c with
    | none => rw [qc] at g; exact g.elim
    | some b =>
      rw [qc] at g
      refine ⟨b, hcs c b qc C hC, fun hb1 a ha oe pn' hz hd => ?_, fun hb0 => ?_⟩
      · subst hb1
        dsimp only at g
        have R2 : Rl X.K S1.Z0 S1.H0 S1.Z S1.H (S1.σ.set i (some (.ref a))) (setSl S1.ρ i (.ex a)) S1.ts S1.τ := Rl.hand R1 (by rw [e2]; exact hcl) (.inr ⟨a, rfl, rfl⟩)
        refine hsu a oe c C pn' hC hz hd ⟨S1.Z0, S1.H0, S1.Z, S1.H, S1.σ.set i (some (.ref a)), setSl S1.ρ i (.ex a), S1.ts, S1.τ⟩ _ R2 (by show Clean S1.τ; rw [e2]; exact hcl) ?_
        show GoodS _ _ _ _ (s a c (setSl S1.ρ i (.ex a)))
        rw [e1]
        rw [← hu a c ρ'] at g
        have fin : ∀ (S3 : Sta), AftS (⟨S1.Z0, S1.H0, S1.Z, S1.H, S1.σ.set i (some (.ref a)), setSl S1.ρ i (.ex a), S1.ts, S1.τ⟩ : Sta) S3 → S3.τ = S1.τ → S3.R X.K → AftS S (⟨S3.Z0, S3.H0, S3.Z, S3.H, S3.σ.set i none, setSl S3.ρ i .em, S3.ts, S3.τ⟩ : Sta) ∧ S3.τ = S.τ ∧ (⟨S3.Z0, S3.H0, S3.Z, S3.H, S3.σ.set i none, setSl S3.ρ i .em, S3.ts, S3.τ⟩ : Sta).R X.K := fun S3 a3 e3 R3 =>
          ⟨⟨a3.z0.trans a1.z0, a3.h0.trans a1.h0, a1.zz.trans a3.zz⟩, e3.trans e2, Rl.hand R3 (by rw [e3, e2]; exact hcl) (.inl rfl)⟩
        cases qs : s a c (setSl ρ' i (.ex a)) with
        | nx ρ2 =>
          rw [qs] at g
          intro S3 a3 f1 f2 R3
          obtain ⟨h1, h2, h3⟩ := fin S3 ⟨a3.z0, a3.h0, a3.zz⟩ f2 R3
          exact g _ h1 (by show setSl S3.ρ i .em = _; rw [f1]) h2 h3
        | bk ρ2 =>
          rw [qs] at g
          intro S3 a3 f1 f2 R3
          obtain ⟨h1, h2, h3⟩ := fin S3 ⟨a3.z0, a3.h0, a3.zz⟩ f2 R3
          exact g _ h1 (by show setSl S3.ρ i .em = _; rw [f1]) h2 h3
        | ct ρ2 =>
          rw [qs] at g
          intro S3 a3 f1 f2 R3
          obtain ⟨h1, h2, h3⟩ := fin S3 ⟨a3.z0, a3.h0, a3.zz⟩ f2 R3
          exact g _ h1 (by show setSl S3.ρ i .em = _; rw [f1]) h2 h3
        | rt k d =>
          rw [qs] at g
          intro Z' H' t st zh o nd fr
          have z0 : S1.Z0 = S.Z0 := a1.z0
          have h0 : S1.H0 = S.H0 := a1.h0
          refine g Z' H' t (by rw [← z0, ← h0]; exact st) zh o nd fun x m => by rw [← h0]; exact fr x m
        | rz c2 ρ2 => rw [qs] at g; exact g.elim
        | er => rw [qs] at g; exact g.elim
      · subst hb0
        exact g S1 a1 e1 e2 R1 C hC
theorem st_try {x : Str} {v : Value} {cs : Str → Option Bool} {body suite : List Stmt} {b₀ : Stmt} {np pos pos' : Pos} {sb : Rho → SR} {s : Str → Rho → SR} (hs : X.stack = X.env :: X.outer) (hf : X.env.frame = some X.env.locals) (hc : Names X x v) (tk : Takes X W)
    (hcs : Caught X.K X.mg v cs) (hb : ∀ (W : WX) (pn : List (Addr × Obj)) (xe : Value → Shared → Prop), Takes (X.tr pn xe) W → SSs (X.tr pn xe) W body sb)
    (hsu : ∀ (a : Addr) (oe : Obj) (c : Str) (C : Addr) (pn : List (Addr × Obj)), X.mg c = some (.ref C) → Zc (.ref C) none oe → (∃ vs, oe.data = .fields vs) → SSs (X.suite a ((a, oe) :: pn)) noX (b₀ :: suite) (s c)) :
    SSt X W (.Try body [.ExceptHandler (some (.Name x np)) none (b₀ :: suite) pos'] [] [] pos) (sTry cs sb s) := by
  intro S De R hcl g
  refine wS_of (ps_try_only (tb := fun W1 De σ H => ∀ (pn : List (Addr × Obj)) (xe : Value → Shared → Prop), Takes (X.tr pn xe) W1 → wSs (X.tr pn xe) body De σ H)
    (ts := fun a cls d De σ H => ∀ (oe : Obj) (pn : List (Addr × Obj)), Zc cls d oe → (∃ vs, oe.data = .fields vs) → wSs (X.suite a ((a, oe) :: pn)) (b₀ :: suite) De σ H) (Wout := W) hs hf hc tk
    (fun W1 pn xe tk1 _ => ⟨fun pins s1 σ H De I h => h pn xe tk1 pins s1 I⟩) (fun a oe cls d pn hz hd => ⟨fun pins s1 σ H De I h => h oe pn hz hd pins s1 I⟩)) ?_
  intro pn xe tk1
  refine hb _ pn xe tk1 S De R hcl ?_
  unfold sTry at g
  cases q : sb S.ρ with
  | nx ρ => rw [q] at g; exact g
  | bk ρ => rw [q] at g; exact g
  | ct ρ => rw [q] at g; exact g
  | rt k d => rw [q] at g; exact g
  | er => rw [q] at g; exact g
  | rz c ρ' =>
    rw [q] at g
    dsimp only at g
    intro S1 a1 e1 e2 R1 C hC
    cases qc : cs c with
    | none => rw [qc] at g; exact g.elim
    | some b =>
      rw [qc] at g
      refine ⟨b, hcs c b qc C hC, fun hb1 a ha oe pn' hz hd => ?_, fun hb0 => ?_⟩
      · subst hb1
        dsimp only at g
        refine hsu a oe c C pn' hC hz hd S1 De R1 (by rw [e2]; exact hcl) ?_
        rw [e1]
        have g2 := GoodS.later g a1 e2
        cases qs : s c ρ' with
        | nx ρ2 => rw [qs] at g2; exact g2
        | bk ρ2 => rw [qs] at g2; exact g2
        | ct ρ2 => rw [qs] at g2; exact g2
        | rt k d => rw [qs] at g2; exact g2
        | rz c2 ρ2 => rw [qs] at g2; exact g2.elim
        | er => rw [qs] at g2; exact g2.elim
      · subst hb0
        exact g S1 a1 e1 e2 R1 C hC

theorem kill_ret {i : Nat} {x y : Rho → Res BV} {ρ ρ' : Rho} (h : x ρ = y ρ') : (sRet x ρ).kill i = (sRet y ρ').kill i := by
  unfold sRet eS
  rw [h]
  cases y ρ' with
  | ok v => rfl
  | rz c => rfl
  | er => rfl
/-! ### isinstance(e, C), e the exception in hand -/
def xIsE (i : Nat) (a : Addr) (b : Option Bool) : Rho → Res BV := fun ρ => match ρ[i]? with
  | some (.ex a') => if a' = a then match b with
    | some b => .ok ⟨false, none, .bool b⟩
    | none => .er else .er
  | _ => .er
theorem xIsE_set {i : Nat} {a : Addr} {b : Option Bool} {ρ : Rho} : xIsE i a b (setSl ρ i (.ex a)) = if i < ρ.length then (match b with | some b => .ok ⟨false, none, .bool b⟩ | none => .er) else .er := by
  unfold xIsE setSl
  by_cases h : i < ρ.length
  · rw [List.getElem?_set_self (by rw [killA_length]; exact h), if_pos h]
    show (if a = a then _ else _) = _
    rw [if_pos rfl]
  · rw [List.getElem?_eq_none (by simp only [List.length_set, killA_length]; omega), if_neg h]
/-- what isinstance says of the instances of c -/
def IsA (K : PySem.W.Frag) (mg : Str → Option Value) (c : Str) (cv : Value) (b : Option Bool) : Prop := ∀ C b', b = some b' → mg c = some (.ref C) → ExcC K C ∧ PySem.W.kitOne K (.ref C) cv = some b'
theorem se_isE {a : Addr} {oe : Obj} {pn : List (Addr × Obj)} {i : Nat} {n c : Str} {C : Addr} {b : Option Bool} {p p1 pos : Pos} {e2 : Expr} {cl : V} {cv : Value} (hC : X.mg c = some (.ref C)) (hz : Zc (.ref C) none oe) (hd : ∃ vs, oe.data = .fields vs)
    (hN : X.N[i]? = some n) (hv : Vis X.env.scope n) (hdb : (n == ("__debug__" : Str)) = false) (hcd : (n == ("__classdict__" : Str)) = false)
    (hg : Gl X "isinstance") (hm : X.mg "isinstance" = none) (hvi : bootBuiltins "isinstance" = some (.builtin "isinstance"))
    (hcl : PE (X.suite a ((a, oe) :: pn)) e2 (tC cl)) (hcv : ∀ u, RelV cl u → u = cv) (hk : IsA X.K X.mg c cv b)
    (hs : starEach [.Name n p1, e2] X.env = (false, eval (.Name n p1) X.env) :: starEach [e2] X.env) (hs2 : starEach [e2] X.env = (false, eval e2 X.env) :: starEach [] X.env) (hpl : (backTo pos (starEach [e2] X.env)).any (·.1) = false) :
    SE (X.suite a ((a, oe) :: pn)) W (.Call (.Name "isinstance" p) [.Name n p1, e2] [] pos) (xIsE i a b) := by
  intro S Q R g
  unfold xIsE at g
  cases q : S.ρ[i]? with
  | none => rw [q] at g; exact g.elim
  | some s =>
    rw [q] at g
    cases s with
    | em => exact g.elim
    | va k d => exact g.elim
    | al j p => exact g.elim
    | ex a' =>
      dsimp only at g
      by_cases ha : a' = a
      · subst ha
        rw [if_pos rfl] at g
        cases b with
        | none => exact g.elim
        | some b =>
          obtain ⟨EC, hk2⟩ := hk C b rfl hC
          have R' : Rl X.K S.Z0 S.H0 S.Z S.H S.σ S.ρ S.ts S.τ := R
          have e1 := R'.sl i _ q
          refine wE_of (pe_callB (X := X.suite a' ((a', oe) :: pn)) (call_isE EC hz hd) hg hm hvi (pa_cons (pe_var (i := i) hN hv hdb hcd) (pa_cons hcl pa_nil hs2) hs) (by decide) (by decide) hs hpl) ?_
          exact ⟨_, e1, cl, cv, b, rfl, hcv, hk2, GoodE.scal (S := S) g rfl Step.refl R⟩
      · rw [if_neg ha] at g; exact g.elim
end
end Ev

set_option Elab.async false
set_option linter.all false
set_option maxRecDepth 100000
namespace Ev
open PySem PySem.Spec PyProof.Rows L2

/-! ### small words -/
def visB (sc : Scope) (x : Str) : Bool := match sc.names.lookup x with
  | some .local => true
  | some .cell => true
  | some .free => true
  | _ => false
theorem vis {sc : Scope} {x : Str} (h : visB sc x = true) : Vis sc x := by
  unfold visB at h
  unfold Vis
  split at h
  · exact .inl ‹_›
  · exact .inr (.inl ‹_›)
  · exact .inr (.inr ‹_›)
  · cases h
def locB (sc : Scope) (x : Str) : Bool := match sc.names.lookup x with
  | some .local => true
  | some .cell => true
  | _ => false
theorem locl {sc : Scope} {x : Str} (h : locB sc x = true) : L2.Loc sc x := by
  unfold locB at h
  unfold L2.Loc
  split at h
  · exact .inl ‹_›
  · exact .inr ‹_›
  · cases h
theorem takes_no {X : Cx} : Takes X (fun _ _ _ _ => False) := fun _ _ ⟨_, _, _, _, _, _, _, _, _, _, _, _, _, _, _, _, z⟩ => z.elim
theorem fun_of {K : PySem.W.Frag} {x qual : Str} {st : Stmt} {f : Addr} {fd : FuncData} (F : FunD K x qual (defArgs st) (defBody st) (defScope st) [] [] f fd) : Fun K x qual st f fd := by
  obtain ⟨oc, od, dV, kV, doc, pm, an, cdv, ct, osl, e, lk, hcd, hD, _⟩ := F.ex
  rcases hD with ⟨_, rfl⟩ | ⟨z, _⟩
  · exact ⟨⟨oc, od, kV, doc, pm, an, cdv, ct, osl, e, lk, hcd⟩, F.kp⟩
  · exact absurd rfl z
/-- what isinstance asks of an exception's class, as a Bool -/
def excCB (K : PySem.W.Frag) (C : Addr) : Bool :=
  He.eqO (PySem.W.findIn K (.ref C) "__getattribute__") (some (some (.builtin "BaseException.__getattribute__"))) && (He.eqO (PySem.W.findIn K (.ref C) "__getattr__") (some none) && (decide (PySem.W.subIn K (.ref C) (.type "BaseException") = some true) && (PySem.W.hasDictIn K C &&
    (He.eqO (PySem.W.findIn K (.ref C) "__class__") (some (some (.builtin "object.__class__"))) && (He.eqO (PySem.W.specialIn K (.builtin "object.__class__") "__get__") (some (some (.builtin "getset_descriptor.__get__"))) && (decide (PySem.W.takesIn K (.builtin "object.__class__") = some true) && decide (PySem.W.mroIn K C (.type "object") = some true)))))))
theorem excC_of {K : PySem.W.Frag} {C : Addr} (h : excCB K C = true) : ExcC K C := by
  obtain ⟨h1, h⟩ := He.ba h
  obtain ⟨h2, h⟩ := He.ba h
  obtain ⟨h3, h⟩ := He.ba h
  obtain ⟨h4, h⟩ := He.ba h
  obtain ⟨h5, h⟩ := He.ba h
  obtain ⟨h6, h⟩ := He.ba h
  obtain ⟨h7, h8⟩ := He.ba h
  exact ⟨He.eqO_ok h1, He.eqO_ok h2, of_decide_eq_true h3, h4, He.eqO_ok h5, He.eqO_ok h6, of_decide_eq_true h7, of_decide_eq_true h8⟩

theorem bb_len : bootBuiltins "len" = some (.builtin "len") := by decide +kernel
theorem bb_abs : bootBuiltins "abs" = some (.builtin "abs") := by decide +kernel
theorem bb_any : bootBuiltins "any" = some (.builtin "any") := by decide +kernel
theorem bb_all : bootBuiltins "all" = some (.builtin "all") := by decide +kernel
theorem bb_min : bootBuiltins "min" = some (.builtin "min") := by decide +kernel
theorem bb_max : bootBuiltins "max" = some (.builtin "max") := by decide +kernel
theorem bb_sum : bootBuiltins "sum" = some (.builtin "sum") := by decide +kernel
theorem bb_isinstance : bootBuiltins "isinstance" = some (.builtin "isinstance") := by decide +kernel
theorem bb_sorted : bootBuiltins "sorted" = some (.builtin "sorted") := by decide +kernel
theorem bb_repr : bootBuiltins "repr" = some (.builtin "repr") := by decide +kernel
theorem bb_int : bootBuiltins "int" = some (.type "int") := by decide +kernel
theorem bb_bool : bootBuiltins "bool" = some (.type "bool") := by decide +kernel
theorem bb_str : bootBuiltins "str" = some (.type "str") := by decide +kernel
theorem bb_list : bootBuiltins "list" = some (.type "list") := by decide +kernel
theorem bb_tuple : bootBuiltins "tuple" = some (.type "tuple") := by decide +kernel
theorem bb_dict : bootBuiltins "dict" = some (.type "dict") := by decide +kernel
theorem bb_range : bootBuiltins "range" = some (.type "range") := by decide +kernel
theorem bb_enumerate : bootBuiltins "enumerate" = some (.type "enumerate") := by decide +kernel
theorem bb_zip : bootBuiltins "zip" = some (.type "zip") := by decide +kernel
theorem bb_reversed : bootBuiltins "reversed" = some (.type "reversed") := by decide +kernel
theorem bb_ValueError : bootBuiltins "ValueError" = some (.type "ValueError") := by decide +kernel
theorem exGet {l : List Bool} (h : (l.all fun b => b) = true) (i : Nat) {b : Bool} (e : l[i]? = some b) : b = true := List.all_eq_true.mp h b (List.mem_of_getElem? e)

/-! ### a, b = e -/
def sUnp (bd : Rho → BV → Res Rho) (x : Rho → Res BV) : Rho → SR := eS x fun ρ v => match settle true v with
  | .ok v' => if v'.b = true ∧ ¬ v'.k = some 0 then .er else match bd ρ v' with
    | .ok ρ' => .nx ρ'
    | _ => .er
  | _ => .er
section
variable {X : Cx} {W : WX} {S : Sta} {De : Ends}
theorem st_unp {tg e : Expr} {x : Rho → Res BV} {is : List Nat} {g : TG} {bd : Rho → BV → Res Rho} {pos : Pos} (he : SE X W e x) (hg : PG X tg g) (sg : SG X.K is g bd) (hs : swapsWithSole [tg] e pos.line X.env = pure false := by rfl) (hw : swappedStores [tg] e X.env = pure none := by rfl)
    (h1 : (assignEach [tg] X.env).map (·.2) = [assign tg X.env] := by rfl) : SSt X W (.Assign [tg] e pos) (sUnp bd x) := by
  intro S De R hc g0
  refine wS_of (ps_asg pe_w hg hs hw h1) (oneS he R g0 fun v S1 t a1 e1 R1 f1 g1 => ?_)
  cases q : settle true v with
  | er => rw [q] at g1; exact g1.elim
  | rz c => exact absurd q settle_rz
  | ok v' =>
    rw [q] at g1
    dsimp only at g1
    obtain ⟨S2, a2, h2, R2, e2, f2, sd⟩ := settle_go q R1 e1 f1 a1
    split at g1
    · exact g1.elim
    · rename_i hb
      cases qb : bd S.ρ v' with
      | er => rw [qb] at g1; exact g1.elim
      | rz c => rw [qb] at g1; exact g1.elim
      | ok ρ' =>
        rw [qb] at g1
        have R3 := R2.rl e2
        have o := (R3.tm _ List.mem_cons_self).1
        have lv : v'.k = some 0 ∨ flat v'.d = true := by
          cases qv : v'.b with
          | true =>
            refine .inl ?_
            exact Classical.byContradiction fun z => hb ⟨qv, z⟩
          | false => exact ((sd.1 rfl) qv).elim .inr .inl
        have ow : own v'.k v'.d t = [] := by
          rcases lv with z | z
          · rw [z]; exact own_zero _ _
          · exact flat_own _ _ _ z
        rw [← h2, ← settle_ok q]
        rw [← a2.ρ] at qb
        have z := sg.run (Q := fun σ' H' => De.nx σ' H') R3.pop hc o ow lv qb fun σ' ts' R4 _ => ?_
        · rw [a2.σ] at z
          exact z
        · exact g1 ⟨S2.Z0, S2.H0, S2.Z, S2.H, σ', ρ', ts', S.τ⟩ ⟨a2.z0, a2.h0, a2.st.zz⟩ rfl rfl R4
end
end Ev

set_option Elab.async false
set_option linter.all false
set_option maxRecDepth 100000
namespace Ev
open PySem PySem.Spec PyProof.Rows L2

/-! ### evaluation by simp: what is under way first -/
/-- a statement's end by its value -/
def Res.sr {α : Type} (r : Res α) (ρ : Rho) (f : α → SR) : SR := match r with
  | .ok v => f v
  | .rz c => .rz c ρ
  | .er => .er
@[simp] theorem sr_ok {α : Type} {v : α} {ρ : Rho} {f : α → SR} : (Res.ok v).sr ρ f = f v := Eq.trans rfl rfl
@[simp] theorem sr_rz {α : Type} {c : Str} {ρ : Rho} {f : α → SR} : (Res.rz c : Res α).sr ρ f = .rz c ρ := Eq.trans rfl rfl
@[simp] theorem sr_er {α : Type} {ρ : Rho} {f : α → SR} : (Res.er : Res α).sr ρ f = .er := Eq.trans rfl rfl
section
variable {ρ : Rho} {a b c : Rho → Res BV} {s t : Rho → SR} {p q : Rho → Res Bool}
@[simp] theorem ap_seq : sSeq s t ρ = (s ρ).seq t := Eq.trans rfl rfl
@[simp] theorem ap_nil : sNil ρ = .nx ρ := Eq.trans rfl rfl
@[simp] theorem ap_retN : sRetN ρ = .rt none .none := Eq.trans rfl rfl
@[simp] theorem ap_bk : sBk ρ = .bk ρ := Eq.trans rfl rfl
@[simp] theorem ap_ct : sCt ρ = .ct ρ := Eq.trans rfl rfl
@[simp] theorem ap_rz {c : Str} : sRz c ρ = .rz c ρ := Eq.trans rfl rfl
@[simp] theorem ap_if : sIf p s t ρ = (p ρ).sr ρ fun k => if k = true then s ρ else t ρ := by
  unfold sIf tS Res.sr
  cases p ρ <;> rfl
def asgR (ρ : Rho) (i : Nat) (v : BV) : SR := match asgV v with
  | .ok r => .nx (setSl ρ i (.va r.1 r.2))
  | _ => .er
@[simp] theorem asgR_int {i : Nat} {bb : Bool} {k : Lv} {n : Int} : asgR ρ i ⟨bb, k, .int n⟩ = .nx (setSl ρ i (.va none (.int n))) := Eq.trans rfl rfl
@[simp] theorem asgR_bool {i : Nat} {bb : Bool} {k : Lv} {n : Bool} : asgR ρ i ⟨bb, k, .bool n⟩ = .nx (setSl ρ i (.va none (.bool n))) := Eq.trans rfl rfl
@[simp] theorem asgR_none {i : Nat} {bb : Bool} {k : Lv} : asgR ρ i ⟨bb, k, .none⟩ = .nx (setSl ρ i (.va none .none)) := Eq.trans rfl rfl
@[simp] theorem asgR_str {i : Nat} {bb : Bool} {k : Lv} {x : Str} : asgR ρ i ⟨bb, k, .str x⟩ = .nx (setSl ρ i (.va none (.str x))) := Eq.trans rfl rfl
theorem asgR_flat {i : Nat} {v : BV} (h : flat v.d = true) : asgR ρ i v = .nx (setSl ρ i (.va none v.d)) := by
  unfold asgR asgV
  rw [if_pos h]
@[simp] theorem asgR_flat' {i : Nat} {bb : Bool} {k : Lv} {d : D} (h : flat d = true) : asgR ρ i ⟨bb, k, d⟩ = .nx (setSl ρ i (.va none d)) := asgR_flat h
@[simp] theorem asgR_own {i : Nat} {k : Lv} {ds : List D} : asgR ρ i ⟨false, k, .list ds⟩ = .nx (setSl ρ i (.va k (.list ds))) := Eq.trans rfl rfl
@[simp] theorem asgR_shd {i : Nat} {ds : List D} : asgR ρ i ⟨true, some 0, .list ds⟩ = .nx (setSl ρ i (.va (some 0) (.list ds))) := Eq.trans rfl rfl
@[simp] theorem ap_asg {i : Nat} : sAsg i a ρ = (a ρ).sr ρ fun v => asgR ρ i v := by
  unfold sAsg eS Res.sr asgR
  cases a ρ <;> rfl
def retR (v : BV) : SR := if flat v.d = true then .rt none v.d else .rt v.k v.d
@[simp] theorem retR_int {bb : Bool} {k : Lv} {n : Int} : retR ⟨bb, k, .int n⟩ = .rt none (.int n) := Eq.trans rfl rfl
@[simp] theorem retR_bool {bb : Bool} {k : Lv} {n : Bool} : retR ⟨bb, k, .bool n⟩ = .rt none (.bool n) := Eq.trans rfl rfl
@[simp] theorem retR_none {bb : Bool} {k : Lv} : retR ⟨bb, k, .none⟩ = .rt none .none := Eq.trans rfl rfl
@[simp] theorem retR_str {bb : Bool} {k : Lv} {x : Str} : retR ⟨bb, k, .str x⟩ = .rt none (.str x) := Eq.trans rfl rfl
@[simp] theorem retR_list {bb : Bool} {k : Lv} {ds : List D} : retR ⟨bb, k, .list ds⟩ = .rt k (.list ds) := Eq.trans rfl rfl
@[simp] theorem retR_flat {bb : Bool} {k : Lv} {d : D} (h : flat d = true) : retR ⟨bb, k, d⟩ = .rt none d := if_pos h
@[simp] theorem ap_ret : sRet a ρ = (a ρ).sr ρ retR := by
  unfold sRet eS Res.sr retR
  cases a ρ <;> rfl
@[simp] theorem ap_ex : sEx a ρ = (a ρ).sr ρ fun _ => .nx ρ := by
  unfold sEx eS Res.sr
  cases a ρ <;> rfl
/-! the slots -/
@[simp] theorem kil_nil {j : Nat} : killA j [] = [] := Eq.trans rfl rfl
@[simp] theorem kil_va {j : Nat} {k : Lv} {d : D} : killA j (.va k d :: ρ) = .va k d :: killA j ρ := Eq.trans rfl rfl
@[simp] theorem kil_em {j : Nat} : killA j (.em :: ρ) = .em :: killA j ρ := Eq.trans rfl rfl
@[simp] theorem kil_ex {j : Nat} {x : Addr} : killA j (.ex x :: ρ) = .ex x :: killA j ρ := Eq.trans rfl rfl
def noAl : Sl → Bool
  | .al _ _ => false
  | _ => true
@[simp] theorem noAl_va {k : Lv} {d : D} : noAl (.va k d) = true := Eq.trans rfl rfl
@[simp] theorem noAl_em : noAl .em = true := Eq.trans rfl rfl
@[simp] theorem kil_na {j : Nat} {x : Sl} (h : noAl x = true) : killA j (x :: ρ) = x :: killA j ρ := by
  cases x <;> first | rfl | cases h
theorem setSl_eq {i : Nat} {x : Sl} : setSl ρ i x = (killA i ρ).set i x := rfl
@[simp] theorem setSl_0 {k : Lv} {d : D} {y x : Sl} (h : ∀ j p, y ≠ .al j p) : setSl (y :: ρ) 0 x = x :: killA 0 ρ := by
  unfold setSl killA
  rfl
/-! values -/
@[simp] theorem ap_cn {d : D} : xCn d ρ = .ok ⟨false, none, d⟩ := Eq.trans rfl rfl
@[simp] theorem ap_x1 {f : BV → Res BV} : x1 f a ρ = (a ρ).bind f := Eq.trans rfl rfl
@[simp] theorem ap_x2 {f : BV → BV → Res BV} : x2 f a b ρ = (a ρ).bind fun u => (b ρ).bind fun v => f u v := Eq.trans rfl rfl
@[simp] theorem ap_tb : xTb a ρ = (a ρ).bind fun v => theB v.d := Eq.trans rfl rfl
@[simp] theorem theB_b {k : Bool} : theB (.bool k) = .ok k := Eq.trans rfl rfl
@[simp] theorem ap_tru : xTru a ρ = (a ρ).bind fun v => truth v.d := Eq.trans rfl rfl
@[simp] theorem truth_b {k : Bool} : truth (.bool k) = .ok k := Eq.trans rfl rfl
@[simp] theorem truth_n : truth .none = .ok false := Eq.trans rfl rfl
@[simp] theorem truth_i {n : Int} : truth (.int n) = .ok (n != 0) := Eq.trans rfl rfl
@[simp] theorem truth_l {ds : List D} : truth (.list ds) = .ok (!ds.isEmpty) := Eq.trans rfl rfl
@[simp] theorem truth_t {ds : List D} : truth (.tuple ds) = .ok (!ds.isEmpty) := Eq.trans rfl rfl
@[simp] theorem ap_tand : tAndX p q ρ = (p ρ).bind fun c => if c = true then q ρ else .ok false := Eq.trans rfl rfl
@[simp] theorem ap_tor : tOrX p q ρ = (p ρ).bind fun c => if c = true then .ok true else q ρ := Eq.trans rfl rfl
@[simp] theorem ap_tnot : tNotX p ρ = (p ρ).bind fun c => .ok (!c) := Eq.trans rfl rfl
@[simp] theorem ap_and : xAndV a b ρ = (a ρ).bind fun u => (theB u.d).bind fun c => if c = true then b ρ else .ok ⟨false, none, .bool false⟩ := Eq.trans rfl rfl
@[simp] theorem ap_or : xOrV a b ρ = (a ρ).bind fun u => (theB u.d).bind fun c => if c = true then .ok ⟨false, none, .bool true⟩ else b ρ := Eq.trans rfl rfl
@[simp] theorem ap_not : xNotV a ρ = (a ρ).bind fun u => (theB u.d).bind fun c => .ok ⟨false, none, .bool (!c)⟩ := Eq.trans rfl rfl
@[simp] theorem ap_ite : xIte p a b ρ = (p ρ).bind fun k => if k = true then a ρ else b ρ := Eq.trans rfl rfl
@[simp] theorem ap_chain {g g' : D → D → Res D} : x3c g g' a b c ρ = (a ρ).bind fun u => (b ρ).bind fun v => (g u.d v.d).bind fun d => (theB d).bind fun k => if k = true then (c ρ).bind fun w => (g' v.d w.d).bind fun d => .ok ⟨false, none, d⟩ else .ok ⟨false, none, .bool false⟩ := Eq.trans rfl rfl
@[simp] theorem ap_xA {fr : Bool} {f : List BV → Res BV} {xs : List (Rho → Res BV)} : xA fr f xs ρ = (evA fr xs ρ).bind f := Eq.trans rfl rfl
@[simp] theorem evA_nil {fr : Bool} : evA fr [] ρ = .ok [] := Eq.trans rfl rfl
@[simp] theorem evA_cons {fr : Bool} {xs : List (Rho → Res BV)} : evA fr (a :: xs) ρ = (a ρ).bind fun v => (Ev.settle fr v).bind fun v => (evA fr xs ρ).bind fun vs => .ok (v :: vs) := Eq.trans rfl rfl
@[simp] theorem settle_i {fr bb : Bool} {k : Lv} {n : Int} : Ev.settle fr ⟨bb, k, .int n⟩ = .ok ⟨false, none, .int n⟩ := Eq.trans rfl rfl
@[simp] theorem settle_b {fr bb : Bool} {k : Lv} {n : Bool} : Ev.settle fr ⟨bb, k, .bool n⟩ = .ok ⟨false, none, .bool n⟩ := Eq.trans rfl rfl
@[simp] theorem settle_n {fr bb : Bool} {k : Lv} : Ev.settle fr ⟨bb, k, .none⟩ = .ok ⟨false, none, .none⟩ := Eq.trans rfl rfl
@[simp] theorem settle_f {fr bb : Bool} {k : Lv} {d : D} (h : flat d = true) : Ev.settle fr ⟨bb, k, d⟩ = .ok ⟨false, none, d⟩ := if_pos h
@[simp] theorem settle_lt {k : Lv} {ds : List D} : Ev.settle true ⟨true, k, .list ds⟩ = .ok ⟨true, k, .list ds⟩ := by simp [Ev.settle, flat]
@[simp] theorem settle_lo {k : Lv} {ds : List D} : Ev.settle true ⟨false, k, .list ds⟩ = .ok ⟨false, some 0, .list ds⟩ := by simp [Ev.settle, flat]
@[simp] theorem settle_ln {ds : List D} : Ev.settle false ⟨false, none, .list ds⟩ = .ok ⟨false, none, .list ds⟩ := by simp [Ev.settle, flat]
@[simp] theorem settle_ls {k : Nat} {ds : List D} : Ev.settle false ⟨false, some k, .list ds⟩ = .ok ⟨false, some 0, .list ds⟩ := by simp [Ev.settle, flat]
@[simp] theorem settle_l0 {ds : List D} : Ev.settle false ⟨true, some 0, .list ds⟩ = .ok ⟨true, some 0, .list ds⟩ := by simp [Ev.settle, flat]
@[simp] theorem flat_i {n : Int} : flat (.int n) = true := Eq.trans rfl rfl
@[simp] theorem flat_b {n : Bool} : flat (.bool n) = true := Eq.trans rfl rfl
@[simp] theorem flat_n : flat .none = true := Eq.trans rfl rfl
@[simp] theorem flat_s {x : Str} : flat (.str x) = true := Eq.trans rfl rfl
@[simp] theorem flat_t {ds : List D} : flat (.tuple ds) = flats ds := by simp only [flat]
@[simp] theorem flat_l {ds : List D} : flat (.list ds) = false := by simp only [flat]
@[simp] theorem flats_n : flats [] = true := Eq.trans rfl rfl
@[simp] theorem flats_c {d : D} {ds : List D} : flats (d :: ds) = (flat d && flats ds) := by simp only [flats]
@[simp] theorem dispLv_n : dispLv [] = .ok none := Eq.trans rfl rfl
/-! operations -/
@[simp] theorem pl_ap {g : D → D → Res D} {u v : BV} : pl g u v = (g u.d v.d).bind fun d => .ok ⟨false, none, d⟩ := Eq.trans rfl rfl
@[simp] theorem p1_ap {g : D → Res D} {u : BV} : p1 g u = (g u.d).bind fun d => .ok ⟨false, none, d⟩ := Eq.trans rfl rfl
@[simp] theorem b1_ap {g : D → Res D} {u : BV} : b1 g [u] = (g u.d).bind fun d => .ok ⟨false, none, d⟩ := Eq.trans rfl rfl
@[simp] theorem b2_ap {g : D → D → Res D} {u v : BV} : b2 g [u, v] = (g u.d v.d).bind fun d => .ok ⟨false, none, d⟩ := Eq.trans rfl rfl
@[simp] theorem dAdd_i {i j : Int} : dAdd (.int i) (.int j) = .ok (.int (i + j)) := Eq.trans rfl rfl
@[simp] theorem dSub_i {i j : Int} : dSub (.int i) (.int j) = .ok (.int (i - j)) := Eq.trans rfl rfl
theorem dMul_i {i j : Int} (h : i.natAbs.log2 + j.natAbs.log2 < 1000000) : dMul (.int i) (.int j) = .ok (.int (i * j)) := if_pos h
theorem dDiv_i {i j : Int} (h : j ≠ 0) (h2 : j.natAbs.log2 < 9000) : dDiv (.int i) (.int j) = .ok (.int (i.fdiv j)) := if_pos ⟨h, h2⟩
@[simp] theorem dMod_i {i j : Int} (h : j ≠ 0) : dMod (.int i) (.int j) = .ok (.int (i.fmod j)) := if_pos h
@[simp] theorem dNeg_i {i : Int} : dNeg (.int i) = .ok (.int (-i)) := Eq.trans rfl rfl
@[simp] theorem dLt_i {i j : Int} : dLt (.int i) (.int j) = .ok (.bool (decide (i < j))) := Eq.trans rfl rfl
@[simp] theorem dLe_i {i j : Int} : dLe (.int i) (.int j) = .ok (.bool (decide (i ≤ j))) := Eq.trans rfl rfl
@[simp] theorem dGt_i {i j : Int} : dGt (.int i) (.int j) = .ok (.bool (decide (j < i))) := Eq.trans rfl rfl
@[simp] theorem dGe_i {i j : Int} : dGe (.int i) (.int j) = .ok (.bool (decide (j ≤ i))) := Eq.trans rfl rfl
@[simp] theorem eqv_i {i j : Int} : PyData.eqv (.int i) (.int j) = decide (i = j) := by
  simp only [PyData.eqv]
  by_cases h : i = j <;> simp [h]
@[simp] theorem dEq_i {i j : Int} : dEq (.int i) (.int j) = .ok (.bool (decide (i = j))) := by
  unfold dEq
  rw [if_pos ⟨by rfl, by rfl⟩, eqv_i]
@[simp] theorem dNe_i {i j : Int} : dNe (.int i) (.int j) = .ok (.bool (!decide (i = j))) := by
  unfold dNe
  rw [if_pos ⟨by rfl, by rfl⟩, eqv_i]
@[simp] theorem dIs_n {d : D} : dIs d .none = .ok (.bool (isNon d)) := Eq.trans rfl rfl
@[simp] theorem dIsNot_n {d : D} : dIsNot d .none = .ok (.bool (!isNon d)) := Eq.trans rfl rfl
@[simp] theorem isNon_n : isNon .none = true := Eq.trans rfl rfl
@[simp] theorem isNon_t {ds : List D} : isNon (.tuple ds) = false := Eq.trans rfl rfl
@[simp] theorem isNon_i {n : Int} : isNon (.int n) = false := Eq.trans rfl rfl
@[simp] theorem isNon_l {ds : List D} : isNon (.list ds) = false := Eq.trans rfl rfl
@[simp] theorem dGcd_i {i j : Int} : dGcd (.int i) (.int j) = .ok (.int ((Nat.gcd i.natAbs j.natAbs : Nat) : Int)) := Eq.trans rfl rfl
@[simp] theorem dLen_l {ds : List D} : dLen (.list ds) = .ok (.int (ds.length : Nat)) := Eq.trans rfl rfl
@[simp] theorem dLen_t {ds : List D} : dLen (.tuple ds) = .ok (.int (ds.length : Nat)) := Eq.trans rfl rfl
@[simp] theorem dInt_i {i : Int} : dInt (.int i) = .ok (.int i) := Eq.trans rfl rfl
@[simp] theorem dInt_b {b : Bool} : dInt (.bool b) = .ok (.int (if b then 1 else 0)) := Eq.trans rfl rfl
@[simp] theorem dAbs_i {i : Int} : dAbs (.int i) = .ok (.int i.natAbs) := by
  show Res.ok (PyData.int (if i < 0 then -i else i)) = _
  congr 2
  split <;> omega
@[simp] theorem dBits_i {i : Int} : dBits (.int i) = .ok (.int (Builtin.Int.intBits i : Nat)) := Eq.trans rfl rfl
@[simp] theorem xCall_ap {φ : List D → Res (Lv × D)} {n : Nat} {vs : List BV} (h : vs.length = n) : xCall φ n vs = (φ (dsB vs)).bind fun r => if flat r.2 = true then .ok ⟨false, none, r.2⟩ else if r.1 = none then .ok ⟨false, none, r.2⟩ else if (vs.all fun v => v.k == some 0 || flat v.d) = true then .ok ⟨false, r.1, r.2⟩ else .er := if_pos h
@[simp] theorem dsB_n : dsB [] = [] := Eq.trans rfl rfl
@[simp] theorem dsB_c {v : BV} {vs : List BV} : dsB (v :: vs) = v.d :: dsB vs := Eq.trans rfl rfl
theorem kit_tt : kitB "tuple" "tuple" = some true := by decide +kernel
@[simp] theorem dIsi_tup {ds : List D} : dIsi "tuple" (.tuple ds) = .ok (.bool true) := by
  unfold dIsi
  show (match kitB "tuple" "tuple" with | some b => Res.ok (PyData.bool b) | none => .er) = _
  rw [kit_tt]
theorem kit_ib : kitB "int" "bool" = some false := by decide +kernel
@[simp] theorem dIsi_bi {i : Int} : dIsi "bool" (.int i) = .ok (.bool false) := by
  unfold dIsi
  show (match kitB "int" "bool" with | some b => Res.ok (PyData.bool b) | none => .er) = _
  rw [kit_ib]
@[simp] theorem ixD_l {b2 : Bool} {k2 : Lv} {ds : List D} {i : Int} {d : D} {bb : Bool} {k : Lv} (h : atI ds i = some d) : ixD ⟨bb, k, .list ds⟩ ⟨b2, k2, .int i⟩ = .ok (pick ⟨bb, k, .list ds⟩ (pd k) d) := by
  unfold ixD
  dsimp only
  rw [h]
@[simp] theorem ixD_t {b2 : Bool} {k2 : Lv} {ds : List D} {i : Int} {d : D} {bb : Bool} {k : Lv} (h : atI ds i = some d) : ixD ⟨bb, k, .tuple ds⟩ ⟨b2, k2, .int i⟩ = .ok (pick ⟨bb, k, .tuple ds⟩ k d) := by
  unfold ixD
  dsimp only
  rw [h]
@[simp] theorem pick_flat {u : BV} {k : Lv} {d : D} (h : flat d = true) : pick u k d = ⟨false, none, d⟩ := if_pos h
@[simp] theorem pick_l {u : BV} {k : Lv} {ds : List D} : pick u k (.list ds) = ⟨u.b, k, .list ds⟩ := by simp [pick]
@[simp] theorem xVa_0 {k : Lv} {d : D} : xVa 0 (.va k d :: ρ) = .ok ⟨true, k, d⟩ := Eq.trans rfl rfl
@[simp] theorem xVa_1 {s0 : Sl} {k : Lv} {d : D} : xVa 1 (s0 :: .va k d :: ρ) = .ok ⟨true, k, d⟩ := Eq.trans rfl rfl
@[simp] theorem xVa_2 {s0 s1 : Sl} {k : Lv} {d : D} : xVa 2 (s0 :: s1 :: .va k d :: ρ) = .ok ⟨true, k, d⟩ := Eq.trans rfl rfl
@[simp] theorem xVa_3 {s0 s1 s2 : Sl} {k : Lv} {d : D} : xVa 3 (s0 :: s1 :: s2 :: .va k d :: ρ) = .ok ⟨true, k, d⟩ := Eq.trans rfl rfl
@[simp] theorem xVa_4 {s0 s1 s2 s3 : Sl} {k : Lv} {d : D} : xVa 4 (s0 :: s1 :: s2 :: s3 :: .va k d :: ρ) = .ok ⟨true, k, d⟩ := Eq.trans rfl rfl
@[simp] theorem xVa_5 {s0 s1 s2 s3 s4 : Sl} {k : Lv} {d : D} : xVa 5 (s0 :: s1 :: s2 :: s3 :: s4 :: .va k d :: ρ) = .ok ⟨true, k, d⟩ := Eq.trans rfl rfl
@[simp] theorem xVa_6 {s0 s1 s2 s3 s4 s5 : Sl} {k : Lv} {d : D} : xVa 6 (s0 :: s1 :: s2 :: s3 :: s4 :: s5 :: .va k d :: ρ) = .ok ⟨true, k, d⟩ := Eq.trans rfl rfl
@[simp] theorem xVa_7 {s0 s1 s2 s3 s4 s5 s6 : Sl} {k : Lv} {d : D} : xVa 7 (s0 :: s1 :: s2 :: s3 :: s4 :: s5 :: s6 :: .va k d :: ρ) = .ok ⟨true, k, d⟩ := Eq.trans rfl rfl
@[simp] theorem xVa_8 {s0 s1 s2 s3 s4 s5 s6 s7 : Sl} {k : Lv} {d : D} : xVa 8 (s0 :: s1 :: s2 :: s3 :: s4 :: s5 :: s6 :: s7 :: .va k d :: ρ) = .ok ⟨true, k, d⟩ := Eq.trans rfl rfl
@[simp] theorem xVa_9 {s0 s1 s2 s3 s4 s5 s6 s7 s8 : Sl} {k : Lv} {d : D} : xVa 9 (s0 :: s1 :: s2 :: s3 :: s4 :: s5 :: s6 :: s7 :: s8 :: .va k d :: ρ) = .ok ⟨true, k, d⟩ := Eq.trans rfl rfl
@[simp] theorem xVa_10 {s0 s1 s2 s3 s4 s5 s6 s7 s8 s9 : Sl} {k : Lv} {d : D} : xVa 10 (s0 :: s1 :: s2 :: s3 :: s4 :: s5 :: s6 :: s7 :: s8 :: s9 :: .va k d :: ρ) = .ok ⟨true, k, d⟩ := Eq.trans rfl rfl
@[simp] theorem xVa_11 {s0 s1 s2 s3 s4 s5 s6 s7 s8 s9 s10 : Sl} {k : Lv} {d : D} : xVa 11 (s0 :: s1 :: s2 :: s3 :: s4 :: s5 :: s6 :: s7 :: s8 :: s9 :: s10 :: .va k d :: ρ) = .ok ⟨true, k, d⟩ := Eq.trans rfl rfl
@[simp] theorem xVa_12 {s0 s1 s2 s3 s4 s5 s6 s7 s8 s9 s10 s11 : Sl} {k : Lv} {d : D} : xVa 12 (s0 :: s1 :: s2 :: s3 :: s4 :: s5 :: s6 :: s7 :: s8 :: s9 :: s10 :: s11 :: .va k d :: ρ) = .ok ⟨true, k, d⟩ := Eq.trans rfl rfl
@[simp] theorem xVa_13 {s0 s1 s2 s3 s4 s5 s6 s7 s8 s9 s10 s11 s12 : Sl} {k : Lv} {d : D} : xVa 13 (s0 :: s1 :: s2 :: s3 :: s4 :: s5 :: s6 :: s7 :: s8 :: s9 :: s10 :: s11 :: s12 :: .va k d :: ρ) = .ok ⟨true, k, d⟩ := Eq.trans rfl rfl
@[simp] theorem xVa_14 {s0 s1 s2 s3 s4 s5 s6 s7 s8 s9 s10 s11 s12 s13 : Sl} {k : Lv} {d : D} : xVa 14 (s0 :: s1 :: s2 :: s3 :: s4 :: s5 :: s6 :: s7 :: s8 :: s9 :: s10 :: s11 :: s12 :: s13 :: .va k d :: ρ) = .ok ⟨true, k, d⟩ := Eq.trans rfl rfl
@[simp] theorem xVa_15 {s0 s1 s2 s3 s4 s5 s6 s7 s8 s9 s10 s11 s12 s13 s14 : Sl} {k : Lv} {d : D} : xVa 15 (s0 :: s1 :: s2 :: s3 :: s4 :: s5 :: s6 :: s7 :: s8 :: s9 :: s10 :: s11 :: s12 :: s13 :: s14 :: .va k d :: ρ) = .ok ⟨true, k, d⟩ := Eq.trans rfl rfl
@[simp] theorem xVa_16 {s0 s1 s2 s3 s4 s5 s6 s7 s8 s9 s10 s11 s12 s13 s14 s15 : Sl} {k : Lv} {d : D} : xVa 16 (s0 :: s1 :: s2 :: s3 :: s4 :: s5 :: s6 :: s7 :: s8 :: s9 :: s10 :: s11 :: s12 :: s13 :: s14 :: s15 :: .va k d :: ρ) = .ok ⟨true, k, d⟩ := Eq.trans rfl rfl
@[simp] theorem xVa_17 {s0 s1 s2 s3 s4 s5 s6 s7 s8 s9 s10 s11 s12 s13 s14 s15 s16 : Sl} {k : Lv} {d : D} : xVa 17 (s0 :: s1 :: s2 :: s3 :: s4 :: s5 :: s6 :: s7 :: s8 :: s9 :: s10 :: s11 :: s12 :: s13 :: s14 :: s15 :: s16 :: .va k d :: ρ) = .ok ⟨true, k, d⟩ := Eq.trans rfl rfl
@[simp] theorem xVa_18 {s0 s1 s2 s3 s4 s5 s6 s7 s8 s9 s10 s11 s12 s13 s14 s15 s16 s17 : Sl} {k : Lv} {d : D} : xVa 18 (s0 :: s1 :: s2 :: s3 :: s4 :: s5 :: s6 :: s7 :: s8 :: s9 :: s10 :: s11 :: s12 :: s13 :: s14 :: s15 :: s16 :: s17 :: .va k d :: ρ) = .ok ⟨true, k, d⟩ := Eq.trans rfl rfl
@[simp] theorem xVa_19 {s0 s1 s2 s3 s4 s5 s6 s7 s8 s9 s10 s11 s12 s13 s14 s15 s16 s17 s18 : Sl} {k : Lv} {d : D} : xVa 19 (s0 :: s1 :: s2 :: s3 :: s4 :: s5 :: s6 :: s7 :: s8 :: s9 :: s10 :: s11 :: s12 :: s13 :: s14 :: s15 :: s16 :: s17 :: s18 :: .va k d :: ρ) = .ok ⟨true, k, d⟩ := Eq.trans rfl rfl
@[simp] theorem xVa_20 {s0 s1 s2 s3 s4 s5 s6 s7 s8 s9 s10 s11 s12 s13 s14 s15 s16 s17 s18 s19 : Sl} {k : Lv} {d : D} : xVa 20 (s0 :: s1 :: s2 :: s3 :: s4 :: s5 :: s6 :: s7 :: s8 :: s9 :: s10 :: s11 :: s12 :: s13 :: s14 :: s15 :: s16 :: s17 :: s18 :: s19 :: .va k d :: ρ) = .ok ⟨true, k, d⟩ := Eq.trans rfl rfl
@[simp] theorem xVa_21 {s0 s1 s2 s3 s4 s5 s6 s7 s8 s9 s10 s11 s12 s13 s14 s15 s16 s17 s18 s19 s20 : Sl} {k : Lv} {d : D} : xVa 21 (s0 :: s1 :: s2 :: s3 :: s4 :: s5 :: s6 :: s7 :: s8 :: s9 :: s10 :: s11 :: s12 :: s13 :: s14 :: s15 :: s16 :: s17 :: s18 :: s19 :: s20 :: .va k d :: ρ) = .ok ⟨true, k, d⟩ := Eq.trans rfl rfl
@[simp] theorem xVa_22 {s0 s1 s2 s3 s4 s5 s6 s7 s8 s9 s10 s11 s12 s13 s14 s15 s16 s17 s18 s19 s20 s21 : Sl} {k : Lv} {d : D} : xVa 22 (s0 :: s1 :: s2 :: s3 :: s4 :: s5 :: s6 :: s7 :: s8 :: s9 :: s10 :: s11 :: s12 :: s13 :: s14 :: s15 :: s16 :: s17 :: s18 :: s19 :: s20 :: s21 :: .va k d :: ρ) = .ok ⟨true, k, d⟩ := Eq.trans rfl rfl
@[simp] theorem xVa_23 {s0 s1 s2 s3 s4 s5 s6 s7 s8 s9 s10 s11 s12 s13 s14 s15 s16 s17 s18 s19 s20 s21 s22 : Sl} {k : Lv} {d : D} : xVa 23 (s0 :: s1 :: s2 :: s3 :: s4 :: s5 :: s6 :: s7 :: s8 :: s9 :: s10 :: s11 :: s12 :: s13 :: s14 :: s15 :: s16 :: s17 :: s18 :: s19 :: s20 :: s21 :: s22 :: .va k d :: ρ) = .ok ⟨true, k, d⟩ := Eq.trans rfl rfl
theorem xVa_ap {i : Nat} {k : Lv} {d : D} (h : ρ[i]? = some (.va k d)) : xVa i ρ = .ok ⟨true, k, d⟩ := by
  unfold xVa lookR
  rw [h]

/-! loops -/
theorem forL_nil {bd : Rho → BV → Res Rho} : forL bd s [] ρ = .nx ρ := rfl
theorem forL_nx {bd : Rho → BV → Res Rho} {v : BV} {vs : List BV} {ρ1 ρ2 : Rho} (h1 : bd ρ v = .ok ρ1) (h2 : s ρ1 = .nx ρ2) : forL bd s (v :: vs) ρ = forL bd s vs ρ2 := by
  rw [forL, h1]
  dsimp only
  rw [h2]
theorem forL_ct {bd : Rho → BV → Res Rho} {v : BV} {vs : List BV} {ρ1 ρ2 : Rho} (h1 : bd ρ v = .ok ρ1) (h2 : s ρ1 = .ct ρ2) : forL bd s (v :: vs) ρ = forL bd s vs ρ2 := by
  rw [forL, h1]
  dsimp only
  rw [h2]
theorem forL_rt {bd : Rho → BV → Res Rho} {v : BV} {vs : List BV} {ρ1 : Rho} {k : Lv} {d : D} (h1 : bd ρ v = .ok ρ1) (h2 : s ρ1 = .rt k d) : forL bd s (v :: vs) ρ = .rt k d := by
  rw [forL, h1]
  dsimp only
  rw [h2]
theorem forL_bk {bd : Rho → BV → Res Rho} {v : BV} {vs : List BV} {ρ1 ρ2 : Rho} (h1 : bd ρ v = .ok ρ1) (h2 : s ρ1 = .bk ρ2) : forL bd s (v :: vs) ρ = .bk ρ2 := by
  rw [forL, h1]
  dsimp only
  rw [h2]
theorem sFor_of {xi : Rho → Res (List BV)} {bd : Rho → BV → Res Rho} {vs : List BV} (h : xi ρ = .ok vs) : sFor xi bd s ρ = (forL bd s vs ρ).unbk := by
  unfold sFor
  rw [h]
@[simp] theorem unbk_nx {ρ : Rho} : (SR.nx ρ).unbk = .nx ρ := Eq.trans rfl rfl
@[simp] theorem unbk_bk {ρ : Rho} : (SR.bk ρ).unbk = .nx ρ := Eq.trans rfl rfl
@[simp] theorem unbk_rt {k : Lv} {d : D} : (SR.rt k d).unbk = .rt k d := Eq.trans rfl rfl
theorem xIt_of {f : List BV → Res (List BV)} {xs : List (Rho → Res BV)} : xItA f xs ρ = (evA true xs ρ).bind f := rfl
theorem xItV_of {cl : Bool} : xItV cl a ρ = (a ρ).bind fun v => (Ev.settle true v).bind (itemsV cl) := rfl
theorem intItems_len {lo c : Int} {n : Nat} : (intItems lo c n).length = n := by simp [intItems]
theorem range1_i {j : Int} {bb : Bool} {k : Lv} (h : inLine j = true) : rangeV1 [⟨bb, k, .int j⟩] = .ok (intItems 0 1 j.toNat) := if_pos h
theorem items_shd {cl bb : Bool} {ds : List D} : itemsV cl ⟨bb, some 0, .list ds⟩ = .ok (ds.map itm) := by
  unfold itemsV
  simp
theorem itm_flat {d : D} (h : flat d = true) : itm d = ⟨false, none, d⟩ := by unfold itm; rw [if_pos h]

/-! bounds -/
def Bd (n : Nat) (x : Int) : Prop := x.natAbs < 2 ^ n
theorem Bd.mono {n m : Nat} {x : Int} (h : Bd n x) (l : n ≤ m) : Bd m x := Nat.lt_of_lt_of_le h (Nat.pow_le_pow_right (by omega) l)
theorem Bd.neg {n : Nat} {x : Int} (h : Bd n x) : Bd n (-x) := by unfold Bd at *; rw [Int.natAbs_neg]; exact h
theorem Bd.add {n : Nat} {x y : Int} (h : Bd n x) (h' : Bd n y) : Bd (n + 1) (x + y) := by
  unfold Bd at *
  have := Int.natAbs_add_le x y
  rw [Nat.pow_succ]
  omega
theorem Bd.sub {n : Nat} {x y : Int} (h : Bd n x) (h' : Bd n y) : Bd (n + 1) (x - y) := by
  rw [Int.sub_eq_add_neg]
  exact h.add h'.neg
theorem Bd.mul {n m : Nat} {x y : Int} (h : Bd n x) (h' : Bd m y) : Bd (n + m) (x * y) := by
  unfold Bd at *
  rw [Int.natAbs_mul, Nat.pow_add]
  exact Nat.mul_lt_mul'' h h'
theorem Bd.log {n : Nat} {x : Int} (h : Bd n x) : x.natAbs.log2 ≤ n := by
  by_cases h0 : x.natAbs = 0
  · rw [h0]; exact Nat.zero_le _
  · exact Nat.le_of_lt ((Nat.log2_lt h0).mpr h)
theorem Bd.le {n : Nat} {x y : Int} (h : Bd n y) (l : x.natAbs ≤ y.natAbs) : Bd n x := Nat.lt_of_le_of_lt l h
theorem Bd.of {n : Nat} {x : Int} {m : Nat} (h : x.natAbs ≤ m) (l : m < 2 ^ n) : Bd n x := Nat.lt_of_le_of_lt h l
theorem dMul_b {n m : Nat} {i j : Int} (h : Bd n i) (h' : Bd m j) (l : n + m < 1000000) : dMul (.int i) (.int j) = .ok (.int (i * j)) := dMul_i (by have := h.log; have := h'.log; omega)
theorem dDiv_b {n : Nat} {i j : Int} (h0 : j ≠ 0) (h : Bd n j) (l : n < 9000) : dDiv (.int i) (.int j) = .ok (.int (i.fdiv j)) := dDiv_i h0 (by have := h.log; omega)
/-! pairs -/
def pr (a b : Int) : D := .tuple [.int a, .int b]
theorem shaped_pr {a b : Int} : SeqAt.shaped (pr a b) = true := Eq.trans rfl rfl
theorem dNe_self {d : D} (h : SeqAt.shaped d = true) : dNe d d = .ok (.bool false) := by
  unfold dNe
  rw [if_pos ⟨h, h⟩, SeqAt.eqv_refl d (SeqAt.canLay_of_shaped h)]
  rfl
theorem dEq_self {d : D} (h : SeqAt.shaped d = true) : dEq d d = .ok (.bool true) := by
  unfold dEq
  rw [if_pos ⟨h, h⟩, SeqAt.eqv_refl d (SeqAt.canLay_of_shaped h)]
@[simp] theorem isNon_pr {a b : Int} : isNon (pr a b) = false := Eq.trans rfl rfl
@[simp] theorem flat_pr {a b : Int} : flat (pr a b) = true := Eq.trans rfl rfl
@[simp] theorem ix_pr0 {a b : Int} {bb : Bool} {k : Lv} : ixD ⟨bb, k, pr a b⟩ ⟨false, none, .int 0⟩ = .ok ⟨false, none, .int a⟩ := Eq.trans rfl rfl
@[simp] theorem ix_pr1 {a b : Int} {bb : Bool} {k : Lv} : ixD ⟨bb, k, pr a b⟩ ⟨false, none, .int 1⟩ = .ok ⟨false, none, .int b⟩ := Eq.trans rfl rfl
theorem mk_pr {a b : Int} : mkTup [⟨false, none, .int a⟩, ⟨false, none, .int b⟩] = .ok ⟨false, none, pr a b⟩ := Eq.trans rfl rfl
@[simp] theorem mk_prs {a b : Int} : mkTup [⟨false, none, .int a⟩, ⟨false, none, .int b⟩] = .ok ⟨false, none, pr a b⟩ := mk_pr
@[simp] theorem retR_pr {bb : Bool} {k : Lv} {a b : Int} : retR ⟨bb, k, pr a b⟩ = .rt none (pr a b) := Eq.trans rfl rfl
theorem ixN_in {n : Nat} {i : Int} (h0 : 0 ≤ i) (h : i < n) : ixN n i = some i.toNat := by
  unfold ixN
  rw [if_pos h0, if_pos h]
theorem atI_nat {α : Type} {xs : List α} {i : Nat} {x : α} (h : xs[i]? = some x) : atI xs (i : Int) = some x := by
  have l := (List.getElem?_eq_some_iff.mp h).1
  unfold atI
  rw [ixN_in (by omega) (by omega)]
  exact h
theorem atI_map {α β : Type} {f : α → β} {xs : List α} {i : Int} {x : α} (h0 : 0 ≤ i) (h : xs[i.toNat]? = some x) : atI (xs.map f) i = some (f x) := by
  have e : i = ((i.toNat : Nat) : Int) := by omega
  rw [e]
  exact atI_nat (by rw [List.getElem?_map, h]; rfl)
theorem kil_all {j : Nat} {ρ : Rho} (h : ρ.all noAl = true) : killA j ρ = ρ := by
  induction ρ with
  | nil => rfl
  | cons x r ih =>
    simp only [List.all_cons, Bool.and_eq_true] at h
    rw [kil_na h.1, ih h.2]
theorem setSl_na {i : Nat} {x : Sl} {ρ : Rho} (h : ρ.all noAl = true) : setSl ρ i x = ρ.set i x := by rw [setSl_eq, kil_all h]
theorem asg_step {i : Nat} {bb : Bool} {k : Lv} {d : D} (h : a ρ = .ok ⟨bb, k, d⟩) (hf : flat d = true) (hn : ρ.all noAl = true) : sAsg i a ρ = .nx (ρ.set i (.va none d)) := by
  rw [ap_asg, h, sr_ok, asgR_flat' hf, setSl_na hn]
theorem if_tt {p : Rho → Res Bool} {s t : Rho → SR} (h : p ρ = .ok true) : sIf p s t ρ = s ρ := by rw [ap_if, h]; rfl
theorem if_ff {p : Rho → Res Bool} {s t : Rho → SR} (h : p ρ = .ok false) : sIf p s t ρ = t ρ := by rw [ap_if, h]; rfl
theorem not_tt {p : Rho → Res Bool} {b : Bool} (h : p ρ = .ok b) : tNotX p ρ = .ok (!b) := by rw [ap_tnot, h]; rfl
theorem or_ff {p q : Rho → Res Bool} (h : p ρ = .ok false) : tOrX p q ρ = q ρ := by rw [ap_tor, h]; rfl
theorem or_tt {p q : Rho → Res Bool} (h : p ρ = .ok true) : tOrX p q ρ = .ok true := by rw [ap_tor, h]; rfl
theorem and_tt {p q : Rho → Res Bool} (h : p ρ = .ok true) : tAndX p q ρ = q ρ := by rw [ap_tand, h]; rfl
theorem and_ff {p q : Rho → Res Bool} (h : p ρ = .ok false) : tAndX p q ρ = .ok false := by rw [ap_tand, h]; rfl
theorem tru_b {e : Rho → Res BV} {bb : Bool} {k : Lv} {b : Bool} (h : e ρ = .ok ⟨bb, k, .bool b⟩) : xTru e ρ = .ok b := by rw [ap_tru, h]; rfl
theorem unp2 {i j : Nat} {bb : Bool} {k : Lv} {x y : Int} (h : a ρ = .ok ⟨bb, k, pr x y⟩) (hn : ρ.all noAl = true) : sUnp (bdT [i, j]) a ρ = .nx ((ρ.set i (.va none (.int x))).set j (.va none (.int y))) := by
  unfold sUnp eS
  rw [h]
  have e : Ev.settle true ⟨bb, k, pr x y⟩ = .ok ⟨false, none, pr x y⟩ := settle_f flat_pr
  dsimp only
  rw [e]
  dsimp only
  have hn2 : (ρ.set i (.va none (.int x))).all noAl = true := by
    rw [List.all_eq_true] at hn ⊢
    intro z hz
    rcases List.mem_or_eq_of_mem_set hz with hz | hz
    · exact hn z hz
    · rw [hz]; rfl
  have e2 : bdT [i, j] ρ ⟨false, none, pr x y⟩ = .ok (setSl (setSl ρ i (.va none (.int x))) j (.va none (.int y))) := Eq.trans rfl rfl
  rw [e2, setSl_na hn, setSl_na hn2]
  rfl
/-! calls -/
theorem call_ok {φ : List D → Res (Lv × D)} {n : Nat} {xs : List (Rho → Res BV)} {vs : List BV} {d : D} (h1 : evA true xs ρ = .ok vs) (hl : vs.length = n) (h2 : φ (dsB vs) = .ok (none, d)) : xA true (xCall φ n) xs ρ = .ok ⟨false, none, d⟩ := by
  rw [ap_xA, h1, Res.bind_ok, xCall_ap hl, h2, Res.bind_ok]
  dsimp only
  split
  · rfl
  · rfl
theorem call_rz {φ : List D → Res (Lv × D)} {n : Nat} {xs : List (Rho → Res BV)} {vs : List BV} {c : Str} (h1 : evA true xs ρ = .ok vs) (hl : vs.length = n) (h2 : φ (dsB vs) = .rz c) : xA true (xCall φ n) xs ρ = .rz c := by
  rw [ap_xA, h1, Res.bind_ok, xCall_ap hl, h2]
  rfl
/-! steps -/
theorem sSeq_nx {ρ' : Rho} (h : s ρ = .nx ρ') : sSeq s t ρ = t ρ' := by rw [ap_seq, h]; rfl
theorem sSeq_rt {k : Lv} {d : D} (h : s ρ = .rt k d) : sSeq s t ρ = .rt k d := by rw [ap_seq, h]; rfl
theorem runB_rt {n m : Nat} {ds : List D} {k : Lv} {d : D} (h : ds.length = m) (e : s (startR n ds) = .rt k d) : runB s n m ds = .ok (k, d) := by
  unfold runB
  rw [if_pos h, e]
theorem runB_rz {n m : Nat} {ds : List D} {c : Str} {ρ' : Rho} (h : ds.length = m) (e : s (startR n ds) = .rz c ρ') : runB s n m ds = .rz c := by
  unfold runB
  rw [if_pos h, e]
theorem sFor_rt {xi : Rho → Res (List BV)} {bd : Rho → BV → Res Rho} {vs : List BV} {k : Lv} {d : D} (h : xi ρ = .ok vs) (e : forL bd s vs ρ = .rt k d) : sFor xi bd s ρ = .rt k d := by
  rw [sFor_of h, e]
  rfl
theorem sFor_nx {xi : Rho → Res (List BV)} {bd : Rho → BV → Res Rho} {vs : List BV} {ρ' : Rho} (h : xi ρ = .ok vs) (e : forL bd s vs ρ = .nx ρ') : sFor xi bd s ρ = .nx ρ' := by
  rw [sFor_of h, e]
  rfl
theorem sFor_bk {xi : Rho → Res (List BV)} {bd : Rho → BV → Res Rho} {vs : List BV} {ρ' : Rho} (h : xi ρ = .ok vs) (e : forL bd s vs ρ = .bk ρ') : sFor xi bd s ρ = .nx ρ' := by
  rw [sFor_of h, e]
  rfl
/-! append to a slot's list -/
def appR (ρ : Rho) (i : Nat) (k : Lv) (ds : List D) (v : BV) : SR := match appV ρ (i, []) v with
  | .ok ρ' => .nx ρ'
  | _ => .er
theorem app_of {i : Nat} {k : Lv} {ds : List D} (h : ρ[i]? = some (.va k (.list ds))) : sApp (xPl i) a ρ = (a ρ).sr ρ fun v => appR ρ i k ds v := by
  have e1 : xPl i ρ = .ok (i, []) := by unfold xPl plcR; rw [h]
  have e2 : atP ρ (i, []) = .ok (k, .list ds) := by unfold atP; rw [h]; rfl
  have e3 : isL ρ (i, []) = true := by unfold isL; rw [e2]
  unfold sApp
  rw [e1]
  dsimp only
  rw [if_pos e3]
  unfold Res.sr appR
  cases a ρ <;> rfl
theorem appR_flat {i : Nat} {k : Lv} {ds : List D} {v : BV} (h : ρ[i]? = some (.va k (.list ds))) (hf : flat v.d = true) (hk : k ≠ some 0) (hl : ds.length < sizeLine) : appR ρ i k ds v = .nx (setSl ρ i (.va k (.list (ds ++ [v.d])))) := by
  have e2 : atP ρ (i, []) = .ok (k, .list ds) := by unfold atP; rw [h]; rfl
  have e4 : Ev.settle false v = .ok ⟨false, none, v.d⟩ := if_pos hf
  have e5 : takeLv true k ds ⟨false, none, v.d⟩ = .ok k := by
    unfold takeLv
    rw [if_neg hk]
    exact if_pos hf
  unfold appR appV
  rw [e4, Res.bind_ok, e2, Res.bind_ok]
  dsimp only
  rw [if_pos hl]
  show (match (takeLv true k ds ⟨false, none, v.d⟩).bind _ with | .ok ρ' => SR.nx ρ' | _ => SR.er) = _
  rw [e5, Res.bind_ok]
  dsimp only
  rw [chg_va h]
  rfl
@[simp] theorem ap_app_0 {k : Lv} {ds : List D} : sApp (xPl 0) a (.va k (.list ds) :: ρ) = (a (.va k (.list ds) :: ρ)).sr (.va k (.list ds) :: ρ) fun v => appR (.va k (.list ds) :: ρ) 0 k ds v := app_of rfl
@[simp] theorem appR_0 {k : Lv} {ds : List D} {v : BV} (hf : flat v.d = true) (hk : k ≠ some 0) (hl : ds.length < sizeLine) : appR (.va k (.list ds) :: ρ) 0 k ds v = .nx (setSl (.va k (.list ds) :: ρ) 0 (.va k (.list (ds ++ [v.d])))) := appR_flat rfl hf hk hl
@[simp] theorem ap_app_1 {s0 : Sl} {k : Lv} {ds : List D} : sApp (xPl 1) a (s0 :: .va k (.list ds) :: ρ) = (a (s0 :: .va k (.list ds) :: ρ)).sr (s0 :: .va k (.list ds) :: ρ) fun v => appR (s0 :: .va k (.list ds) :: ρ) 1 k ds v := app_of rfl
@[simp] theorem appR_1 {s0 : Sl} {k : Lv} {ds : List D} {v : BV} (hf : flat v.d = true) (hk : k ≠ some 0) (hl : ds.length < sizeLine) : appR (s0 :: .va k (.list ds) :: ρ) 1 k ds v = .nx (setSl (s0 :: .va k (.list ds) :: ρ) 1 (.va k (.list (ds ++ [v.d])))) := appR_flat rfl hf hk hl
@[simp] theorem ap_app_2 {s0 s1 : Sl} {k : Lv} {ds : List D} : sApp (xPl 2) a (s0 :: s1 :: .va k (.list ds) :: ρ) = (a (s0 :: s1 :: .va k (.list ds) :: ρ)).sr (s0 :: s1 :: .va k (.list ds) :: ρ) fun v => appR (s0 :: s1 :: .va k (.list ds) :: ρ) 2 k ds v := app_of rfl
@[simp] theorem appR_2 {s0 s1 : Sl} {k : Lv} {ds : List D} {v : BV} (hf : flat v.d = true) (hk : k ≠ some 0) (hl : ds.length < sizeLine) : appR (s0 :: s1 :: .va k (.list ds) :: ρ) 2 k ds v = .nx (setSl (s0 :: s1 :: .va k (.list ds) :: ρ) 2 (.va k (.list (ds ++ [v.d])))) := appR_flat rfl hf hk hl
@[simp] theorem ap_app_3 {s0 s1 s2 : Sl} {k : Lv} {ds : List D} : sApp (xPl 3) a (s0 :: s1 :: s2 :: .va k (.list ds) :: ρ) = (a (s0 :: s1 :: s2 :: .va k (.list ds) :: ρ)).sr (s0 :: s1 :: s2 :: .va k (.list ds) :: ρ) fun v => appR (s0 :: s1 :: s2 :: .va k (.list ds) :: ρ) 3 k ds v := app_of rfl
@[simp] theorem appR_3 {s0 s1 s2 : Sl} {k : Lv} {ds : List D} {v : BV} (hf : flat v.d = true) (hk : k ≠ some 0) (hl : ds.length < sizeLine) : appR (s0 :: s1 :: s2 :: .va k (.list ds) :: ρ) 3 k ds v = .nx (setSl (s0 :: s1 :: s2 :: .va k (.list ds) :: ρ) 3 (.va k (.list (ds ++ [v.d])))) := appR_flat rfl hf hk hl
@[simp] theorem ap_app_4 {s0 s1 s2 s3 : Sl} {k : Lv} {ds : List D} : sApp (xPl 4) a (s0 :: s1 :: s2 :: s3 :: .va k (.list ds) :: ρ) = (a (s0 :: s1 :: s2 :: s3 :: .va k (.list ds) :: ρ)).sr (s0 :: s1 :: s2 :: s3 :: .va k (.list ds) :: ρ) fun v => appR (s0 :: s1 :: s2 :: s3 :: .va k (.list ds) :: ρ) 4 k ds v := app_of rfl
@[simp] theorem appR_4 {s0 s1 s2 s3 : Sl} {k : Lv} {ds : List D} {v : BV} (hf : flat v.d = true) (hk : k ≠ some 0) (hl : ds.length < sizeLine) : appR (s0 :: s1 :: s2 :: s3 :: .va k (.list ds) :: ρ) 4 k ds v = .nx (setSl (s0 :: s1 :: s2 :: s3 :: .va k (.list ds) :: ρ) 4 (.va k (.list (ds ++ [v.d])))) := appR_flat rfl hf hk hl
@[simp] theorem ap_app_5 {s0 s1 s2 s3 s4 : Sl} {k : Lv} {ds : List D} : sApp (xPl 5) a (s0 :: s1 :: s2 :: s3 :: s4 :: .va k (.list ds) :: ρ) = (a (s0 :: s1 :: s2 :: s3 :: s4 :: .va k (.list ds) :: ρ)).sr (s0 :: s1 :: s2 :: s3 :: s4 :: .va k (.list ds) :: ρ) fun v => appR (s0 :: s1 :: s2 :: s3 :: s4 :: .va k (.list ds) :: ρ) 5 k ds v := app_of rfl
@[simp] theorem appR_5 {s0 s1 s2 s3 s4 : Sl} {k : Lv} {ds : List D} {v : BV} (hf : flat v.d = true) (hk : k ≠ some 0) (hl : ds.length < sizeLine) : appR (s0 :: s1 :: s2 :: s3 :: s4 :: .va k (.list ds) :: ρ) 5 k ds v = .nx (setSl (s0 :: s1 :: s2 :: s3 :: s4 :: .va k (.list ds) :: ρ) 5 (.va k (.list (ds ++ [v.d])))) := appR_flat rfl hf hk hl
@[simp] theorem ap_app_6 {s0 s1 s2 s3 s4 s5 : Sl} {k : Lv} {ds : List D} : sApp (xPl 6) a (s0 :: s1 :: s2 :: s3 :: s4 :: s5 :: .va k (.list ds) :: ρ) = (a (s0 :: s1 :: s2 :: s3 :: s4 :: s5 :: .va k (.list ds) :: ρ)).sr (s0 :: s1 :: s2 :: s3 :: s4 :: s5 :: .va k (.list ds) :: ρ) fun v => appR (s0 :: s1 :: s2 :: s3 :: s4 :: s5 :: .va k (.list ds) :: ρ) 6 k ds v := app_of rfl
@[simp] theorem appR_6 {s0 s1 s2 s3 s4 s5 : Sl} {k : Lv} {ds : List D} {v : BV} (hf : flat v.d = true) (hk : k ≠ some 0) (hl : ds.length < sizeLine) : appR (s0 :: s1 :: s2 :: s3 :: s4 :: s5 :: .va k (.list ds) :: ρ) 6 k ds v = .nx (setSl (s0 :: s1 :: s2 :: s3 :: s4 :: s5 :: .va k (.list ds) :: ρ) 6 (.va k (.list (ds ++ [v.d])))) := appR_flat rfl hf hk hl
@[simp] theorem ap_app_7 {s0 s1 s2 s3 s4 s5 s6 : Sl} {k : Lv} {ds : List D} : sApp (xPl 7) a (s0 :: s1 :: s2 :: s3 :: s4 :: s5 :: s6 :: .va k (.list ds) :: ρ) = (a (s0 :: s1 :: s2 :: s3 :: s4 :: s5 :: s6 :: .va k (.list ds) :: ρ)).sr (s0 :: s1 :: s2 :: s3 :: s4 :: s5 :: s6 :: .va k (.list ds) :: ρ) fun v => appR (s0 :: s1 :: s2 :: s3 :: s4 :: s5 :: s6 :: .va k (.list ds) :: ρ) 7 k ds v := app_of rfl
@[simp] theorem appR_7 {s0 s1 s2 s3 s4 s5 s6 : Sl} {k : Lv} {ds : List D} {v : BV} (hf : flat v.d = true) (hk : k ≠ some 0) (hl : ds.length < sizeLine) : appR (s0 :: s1 :: s2 :: s3 :: s4 :: s5 :: s6 :: .va k (.list ds) :: ρ) 7 k ds v = .nx (setSl (s0 :: s1 :: s2 :: s3 :: s4 :: s5 :: s6 :: .va k (.list ds) :: ρ) 7 (.va k (.list (ds ++ [v.d])))) := appR_flat rfl hf hk hl
@[simp] theorem ap_app_8 {s0 s1 s2 s3 s4 s5 s6 s7 : Sl} {k : Lv} {ds : List D} : sApp (xPl 8) a (s0 :: s1 :: s2 :: s3 :: s4 :: s5 :: s6 :: s7 :: .va k (.list ds) :: ρ) = (a (s0 :: s1 :: s2 :: s3 :: s4 :: s5 :: s6 :: s7 :: .va k (.list ds) :: ρ)).sr (s0 :: s1 :: s2 :: s3 :: s4 :: s5 :: s6 :: s7 :: .va k (.list ds) :: ρ) fun v => appR (s0 :: s1 :: s2 :: s3 :: s4 :: s5 :: s6 :: s7 :: .va k (.list ds) :: ρ) 8 k ds v := app_of rfl
@[simp] theorem appR_8 {s0 s1 s2 s3 s4 s5 s6 s7 : Sl} {k : Lv} {ds : List D} {v : BV} (hf : flat v.d = true) (hk : k ≠ some 0) (hl : ds.length < sizeLine) : appR (s0 :: s1 :: s2 :: s3 :: s4 :: s5 :: s6 :: s7 :: .va k (.list ds) :: ρ) 8 k ds v = .nx (setSl (s0 :: s1 :: s2 :: s3 :: s4 :: s5 :: s6 :: s7 :: .va k (.list ds) :: ρ) 8 (.va k (.list (ds ++ [v.d])))) := appR_flat rfl hf hk hl
@[simp] theorem ap_app_9 {s0 s1 s2 s3 s4 s5 s6 s7 s8 : Sl} {k : Lv} {ds : List D} : sApp (xPl 9) a (s0 :: s1 :: s2 :: s3 :: s4 :: s5 :: s6 :: s7 :: s8 :: .va k (.list ds) :: ρ) = (a (s0 :: s1 :: s2 :: s3 :: s4 :: s5 :: s6 :: s7 :: s8 :: .va k (.list ds) :: ρ)).sr (s0 :: s1 :: s2 :: s3 :: s4 :: s5 :: s6 :: s7 :: s8 :: .va k (.list ds) :: ρ) fun v => appR (s0 :: s1 :: s2 :: s3 :: s4 :: s5 :: s6 :: s7 :: s8 :: .va k (.list ds) :: ρ) 9 k ds v := app_of rfl
@[simp] theorem appR_9 {s0 s1 s2 s3 s4 s5 s6 s7 s8 : Sl} {k : Lv} {ds : List D} {v : BV} (hf : flat v.d = true) (hk : k ≠ some 0) (hl : ds.length < sizeLine) : appR (s0 :: s1 :: s2 :: s3 :: s4 :: s5 :: s6 :: s7 :: s8 :: .va k (.list ds) :: ρ) 9 k ds v = .nx (setSl (s0 :: s1 :: s2 :: s3 :: s4 :: s5 :: s6 :: s7 :: s8 :: .va k (.list ds) :: ρ) 9 (.va k (.list (ds ++ [v.d])))) := appR_flat rfl hf hk hl
@[simp] theorem ap_app_10 {s0 s1 s2 s3 s4 s5 s6 s7 s8 s9 : Sl} {k : Lv} {ds : List D} : sApp (xPl 10) a (s0 :: s1 :: s2 :: s3 :: s4 :: s5 :: s6 :: s7 :: s8 :: s9 :: .va k (.list ds) :: ρ) = (a (s0 :: s1 :: s2 :: s3 :: s4 :: s5 :: s6 :: s7 :: s8 :: s9 :: .va k (.list ds) :: ρ)).sr (s0 :: s1 :: s2 :: s3 :: s4 :: s5 :: s6 :: s7 :: s8 :: s9 :: .va k (.list ds) :: ρ) fun v => appR (s0 :: s1 :: s2 :: s3 :: s4 :: s5 :: s6 :: s7 :: s8 :: s9 :: .va k (.list ds) :: ρ) 10 k ds v := app_of rfl
@[simp] theorem appR_10 {s0 s1 s2 s3 s4 s5 s6 s7 s8 s9 : Sl} {k : Lv} {ds : List D} {v : BV} (hf : flat v.d = true) (hk : k ≠ some 0) (hl : ds.length < sizeLine) : appR (s0 :: s1 :: s2 :: s3 :: s4 :: s5 :: s6 :: s7 :: s8 :: s9 :: .va k (.list ds) :: ρ) 10 k ds v = .nx (setSl (s0 :: s1 :: s2 :: s3 :: s4 :: s5 :: s6 :: s7 :: s8 :: s9 :: .va k (.list ds) :: ρ) 10 (.va k (.list (ds ++ [v.d])))) := appR_flat rfl hf hk hl
@[simp] theorem ap_app_11 {s0 s1 s2 s3 s4 s5 s6 s7 s8 s9 s10 : Sl} {k : Lv} {ds : List D} : sApp (xPl 11) a (s0 :: s1 :: s2 :: s3 :: s4 :: s5 :: s6 :: s7 :: s8 :: s9 :: s10 :: .va k (.list ds) :: ρ) = (a (s0 :: s1 :: s2 :: s3 :: s4 :: s5 :: s6 :: s7 :: s8 :: s9 :: s10 :: .va k (.list ds) :: ρ)).sr (s0 :: s1 :: s2 :: s3 :: s4 :: s5 :: s6 :: s7 :: s8 :: s9 :: s10 :: .va k (.list ds) :: ρ) fun v => appR (s0 :: s1 :: s2 :: s3 :: s4 :: s5 :: s6 :: s7 :: s8 :: s9 :: s10 :: .va k (.list ds) :: ρ) 11 k ds v := app_of rfl
@[simp] theorem appR_11 {s0 s1 s2 s3 s4 s5 s6 s7 s8 s9 s10 : Sl} {k : Lv} {ds : List D} {v : BV} (hf : flat v.d = true) (hk : k ≠ some 0) (hl : ds.length < sizeLine) : appR (s0 :: s1 :: s2 :: s3 :: s4 :: s5 :: s6 :: s7 :: s8 :: s9 :: s10 :: .va k (.list ds) :: ρ) 11 k ds v = .nx (setSl (s0 :: s1 :: s2 :: s3 :: s4 :: s5 :: s6 :: s7 :: s8 :: s9 :: s10 :: .va k (.list ds) :: ρ) 11 (.va k (.list (ds ++ [v.d])))) := appR_flat rfl hf hk hl
@[simp] theorem ap_app_12 {s0 s1 s2 s3 s4 s5 s6 s7 s8 s9 s10 s11 : Sl} {k : Lv} {ds : List D} : sApp (xPl 12) a (s0 :: s1 :: s2 :: s3 :: s4 :: s5 :: s6 :: s7 :: s8 :: s9 :: s10 :: s11 :: .va k (.list ds) :: ρ) = (a (s0 :: s1 :: s2 :: s3 :: s4 :: s5 :: s6 :: s7 :: s8 :: s9 :: s10 :: s11 :: .va k (.list ds) :: ρ)).sr (s0 :: s1 :: s2 :: s3 :: s4 :: s5 :: s6 :: s7 :: s8 :: s9 :: s10 :: s11 :: .va k (.list ds) :: ρ) fun v => appR (s0 :: s1 :: s2 :: s3 :: s4 :: s5 :: s6 :: s7 :: s8 :: s9 :: s10 :: s11 :: .va k (.list ds) :: ρ) 12 k ds v := app_of rfl
@[simp] theorem appR_12 {s0 s1 s2 s3 s4 s5 s6 s7 s8 s9 s10 s11 : Sl} {k : Lv} {ds : List D} {v : BV} (hf : flat v.d = true) (hk : k ≠ some 0) (hl : ds.length < sizeLine) : appR (s0 :: s1 :: s2 :: s3 :: s4 :: s5 :: s6 :: s7 :: s8 :: s9 :: s10 :: s11 :: .va k (.list ds) :: ρ) 12 k ds v = .nx (setSl (s0 :: s1 :: s2 :: s3 :: s4 :: s5 :: s6 :: s7 :: s8 :: s9 :: s10 :: s11 :: .va k (.list ds) :: ρ) 12 (.va k (.list (ds ++ [v.d])))) := appR_flat rfl hf hk hl
@[simp] theorem ap_app_13 {s0 s1 s2 s3 s4 s5 s6 s7 s8 s9 s10 s11 s12 : Sl} {k : Lv} {ds : List D} : sApp (xPl 13) a (s0 :: s1 :: s2 :: s3 :: s4 :: s5 :: s6 :: s7 :: s8 :: s9 :: s10 :: s11 :: s12 :: .va k (.list ds) :: ρ) = (a (s0 :: s1 :: s2 :: s3 :: s4 :: s5 :: s6 :: s7 :: s8 :: s9 :: s10 :: s11 :: s12 :: .va k (.list ds) :: ρ)).sr (s0 :: s1 :: s2 :: s3 :: s4 :: s5 :: s6 :: s7 :: s8 :: s9 :: s10 :: s11 :: s12 :: .va k (.list ds) :: ρ) fun v => appR (s0 :: s1 :: s2 :: s3 :: s4 :: s5 :: s6 :: s7 :: s8 :: s9 :: s10 :: s11 :: s12 :: .va k (.list ds) :: ρ) 13 k ds v := app_of rfl
@[simp] theorem appR_13 {s0 s1 s2 s3 s4 s5 s6 s7 s8 s9 s10 s11 s12 : Sl} {k : Lv} {ds : List D} {v : BV} (hf : flat v.d = true) (hk : k ≠ some 0) (hl : ds.length < sizeLine) : appR (s0 :: s1 :: s2 :: s3 :: s4 :: s5 :: s6 :: s7 :: s8 :: s9 :: s10 :: s11 :: s12 :: .va k (.list ds) :: ρ) 13 k ds v = .nx (setSl (s0 :: s1 :: s2 :: s3 :: s4 :: s5 :: s6 :: s7 :: s8 :: s9 :: s10 :: s11 :: s12 :: .va k (.list ds) :: ρ) 13 (.va k (.list (ds ++ [v.d])))) := appR_flat rfl hf hk hl
@[simp] theorem ap_app_14 {s0 s1 s2 s3 s4 s5 s6 s7 s8 s9 s10 s11 s12 s13 : Sl} {k : Lv} {ds : List D} : sApp (xPl 14) a (s0 :: s1 :: s2 :: s3 :: s4 :: s5 :: s6 :: s7 :: s8 :: s9 :: s10 :: s11 :: s12 :: s13 :: .va k (.list ds) :: ρ) = (a (s0 :: s1 :: s2 :: s3 :: s4 :: s5 :: s6 :: s7 :: s8 :: s9 :: s10 :: s11 :: s12 :: s13 :: .va k (.list ds) :: ρ)).sr (s0 :: s1 :: s2 :: s3 :: s4 :: s5 :: s6 :: s7 :: s8 :: s9 :: s10 :: s11 :: s12 :: s13 :: .va k (.list ds) :: ρ) fun v => appR (s0 :: s1 :: s2 :: s3 :: s4 :: s5 :: s6 :: s7 :: s8 :: s9 :: s10 :: s11 :: s12 :: s13 :: .va k (.list ds) :: ρ) 14 k ds v := app_of rfl
@[simp] theorem appR_14 {s0 s1 s2 s3 s4 s5 s6 s7 s8 s9 s10 s11 s12 s13 : Sl} {k : Lv} {ds : List D} {v : BV} (hf : flat v.d = true) (hk : k ≠ some 0) (hl : ds.length < sizeLine) : appR (s0 :: s1 :: s2 :: s3 :: s4 :: s5 :: s6 :: s7 :: s8 :: s9 :: s10 :: s11 :: s12 :: s13 :: .va k (.list ds) :: ρ) 14 k ds v = .nx (setSl (s0 :: s1 :: s2 :: s3 :: s4 :: s5 :: s6 :: s7 :: s8 :: s9 :: s10 :: s11 :: s12 :: s13 :: .va k (.list ds) :: ρ) 14 (.va k (.list (ds ++ [v.d])))) := appR_flat rfl hf hk hl
@[simp] theorem ap_app_15 {s0 s1 s2 s3 s4 s5 s6 s7 s8 s9 s10 s11 s12 s13 s14 : Sl} {k : Lv} {ds : List D} : sApp (xPl 15) a (s0 :: s1 :: s2 :: s3 :: s4 :: s5 :: s6 :: s7 :: s8 :: s9 :: s10 :: s11 :: s12 :: s13 :: s14 :: .va k (.list ds) :: ρ) = (a (s0 :: s1 :: s2 :: s3 :: s4 :: s5 :: s6 :: s7 :: s8 :: s9 :: s10 :: s11 :: s12 :: s13 :: s14 :: .va k (.list ds) :: ρ)).sr (s0 :: s1 :: s2 :: s3 :: s4 :: s5 :: s6 :: s7 :: s8 :: s9 :: s10 :: s11 :: s12 :: s13 :: s14 :: .va k (.list ds) :: ρ) fun v => appR (s0 :: s1 :: s2 :: s3 :: s4 :: s5 :: s6 :: s7 :: s8 :: s9 :: s10 :: s11 :: s12 :: s13 :: s14 :: .va k (.list ds) :: ρ) 15 k ds v := app_of rfl
@[simp] theorem appR_15 {s0 s1 s2 s3 s4 s5 s6 s7 s8 s9 s10 s11 s12 s13 s14 : Sl} {k : Lv} {ds : List D} {v : BV} (hf : flat v.d = true) (hk : k ≠ some 0) (hl : ds.length < sizeLine) : appR (s0 :: s1 :: s2 :: s3 :: s4 :: s5 :: s6 :: s7 :: s8 :: s9 :: s10 :: s11 :: s12 :: s13 :: s14 :: .va k (.list ds) :: ρ) 15 k ds v = .nx (setSl (s0 :: s1 :: s2 :: s3 :: s4 :: s5 :: s6 :: s7 :: s8 :: s9 :: s10 :: s11 :: s12 :: s13 :: s14 :: .va k (.list ds) :: ρ) 15 (.va k (.list (ds ++ [v.d])))) := appR_flat rfl hf hk hl
@[simp] theorem ap_app_16 {s0 s1 s2 s3 s4 s5 s6 s7 s8 s9 s10 s11 s12 s13 s14 s15 : Sl} {k : Lv} {ds : List D} : sApp (xPl 16) a (s0 :: s1 :: s2 :: s3 :: s4 :: s5 :: s6 :: s7 :: s8 :: s9 :: s10 :: s11 :: s12 :: s13 :: s14 :: s15 :: .va k (.list ds) :: ρ) = (a (s0 :: s1 :: s2 :: s3 :: s4 :: s5 :: s6 :: s7 :: s8 :: s9 :: s10 :: s11 :: s12 :: s13 :: s14 :: s15 :: .va k (.list ds) :: ρ)).sr (s0 :: s1 :: s2 :: s3 :: s4 :: s5 :: s6 :: s7 :: s8 :: s9 :: s10 :: s11 :: s12 :: s13 :: s14 :: s15 :: .va k (.list ds) :: ρ) fun v => appR (s0 :: s1 :: s2 :: s3 :: s4 :: s5 :: s6 :: s7 :: s8 :: s9 :: s10 :: s11 :: s12 :: s13 :: s14 :: s15 :: .va k (.list ds) :: ρ) 16 k ds v := app_of rfl
@[simp] theorem appR_16 {s0 s1 s2 s3 s4 s5 s6 s7 s8 s9 s10 s11 s12 s13 s14 s15 : Sl} {k : Lv} {ds : List D} {v : BV} (hf : flat v.d = true) (hk : k ≠ some 0) (hl : ds.length < sizeLine) : appR (s0 :: s1 :: s2 :: s3 :: s4 :: s5 :: s6 :: s7 :: s8 :: s9 :: s10 :: s11 :: s12 :: s13 :: s14 :: s15 :: .va k (.list ds) :: ρ) 16 k ds v = .nx (setSl (s0 :: s1 :: s2 :: s3 :: s4 :: s5 :: s6 :: s7 :: s8 :: s9 :: s10 :: s11 :: s12 :: s13 :: s14 :: s15 :: .va k (.list ds) :: ρ) 16 (.va k (.list (ds ++ [v.d])))) := appR_flat rfl hf hk hl
@[simp] theorem ap_app_17 {s0 s1 s2 s3 s4 s5 s6 s7 s8 s9 s10 s11 s12 s13 s14 s15 s16 : Sl} {k : Lv} {ds : List D} : sApp (xPl 17) a (s0 :: s1 :: s2 :: s3 :: s4 :: s5 :: s6 :: s7 :: s8 :: s9 :: s10 :: s11 :: s12 :: s13 :: s14 :: s15 :: s16 :: .va k (.list ds) :: ρ) = (a (s0 :: s1 :: s2 :: s3 :: s4 :: s5 :: s6 :: s7 :: s8 :: s9 :: s10 :: s11 :: s12 :: s13 :: s14 :: s15 :: s16 :: .va k (.list ds) :: ρ)).sr (s0 :: s1 :: s2 :: s3 :: s4 :: s5 :: s6 :: s7 :: s8 :: s9 :: s10 :: s11 :: s12 :: s13 :: s14 :: s15 :: s16 :: .va k (.list ds) :: ρ) fun v => appR (s0 :: s1 :: s2 :: s3 :: s4 :: s5 :: s6 :: s7 :: s8 :: s9 :: s10 :: s11 :: s12 :: s13 :: s14 :: s15 :: s16 :: .va k (.list ds) :: ρ) 17 k ds v := app_of rfl
@[simp] theorem appR_17 {s0 s1 s2 s3 s4 s5 s6 s7 s8 s9 s10 s11 s12 s13 s14 s15 s16 : Sl} {k : Lv} {ds : List D} {v : BV} (hf : flat v.d = true) (hk : k ≠ some 0) (hl : ds.length < sizeLine) : appR (s0 :: s1 :: s2 :: s3 :: s4 :: s5 :: s6 :: s7 :: s8 :: s9 :: s10 :: s11 :: s12 :: s13 :: s14 :: s15 :: s16 :: .va k (.list ds) :: ρ) 17 k ds v = .nx (setSl (s0 :: s1 :: s2 :: s3 :: s4 :: s5 :: s6 :: s7 :: s8 :: s9 :: s10 :: s11 :: s12 :: s13 :: s14 :: s15 :: s16 :: .va k (.list ds) :: ρ) 17 (.va k (.list (ds ++ [v.d])))) := appR_flat rfl hf hk hl
@[simp] theorem ap_app_18 {s0 s1 s2 s3 s4 s5 s6 s7 s8 s9 s10 s11 s12 s13 s14 s15 s16 s17 : Sl} {k : Lv} {ds : List D} : sApp (xPl 18) a (s0 :: s1 :: s2 :: s3 :: s4 :: s5 :: s6 :: s7 :: s8 :: s9 :: s10 :: s11 :: s12 :: s13 :: s14 :: s15 :: s16 :: s17 :: .va k (.list ds) :: ρ) = (a (s0 :: s1 :: s2 :: s3 :: s4 :: s5 :: s6 :: s7 :: s8 :: s9 :: s10 :: s11 :: s12 :: s13 :: s14 :: s15 :: s16 :: s17 :: .va k (.list ds) :: ρ)).sr (s0 :: s1 :: s2 :: s3 :: s4 :: s5 :: s6 :: s7 :: s8 :: s9 :: s10 :: s11 :: s12 :: s13 :: s14 :: s15 :: s16 :: s17 :: .va k (.list ds) :: ρ) fun v => appR (s0 :: s1 :: s2 :: s3 :: s4 :: s5 :: s6 :: s7 :: s8 :: s9 :: s10 :: s11 :: s12 :: s13 :: s14 :: s15 :: s16 :: s17 :: .va k (.list ds) :: ρ) 18 k ds v := app_of rfl
@[simp] theorem appR_18 {s0 s1 s2 s3 s4 s5 s6 s7 s8 s9 s10 s11 s12 s13 s14 s15 s16 s17 : Sl} {k : Lv} {ds : List D} {v : BV} (hf : flat v.d = true) (hk : k ≠ some 0) (hl : ds.length < sizeLine) : appR (s0 :: s1 :: s2 :: s3 :: s4 :: s5 :: s6 :: s7 :: s8 :: s9 :: s10 :: s11 :: s12 :: s13 :: s14 :: s15 :: s16 :: s17 :: .va k (.list ds) :: ρ) 18 k ds v = .nx (setSl (s0 :: s1 :: s2 :: s3 :: s4 :: s5 :: s6 :: s7 :: s8 :: s9 :: s10 :: s11 :: s12 :: s13 :: s14 :: s15 :: s16 :: s17 :: .va k (.list ds) :: ρ) 18 (.va k (.list (ds ++ [v.d])))) := appR_flat rfl hf hk hl
@[simp] theorem ap_app_19 {s0 s1 s2 s3 s4 s5 s6 s7 s8 s9 s10 s11 s12 s13 s14 s15 s16 s17 s18 : Sl} {k : Lv} {ds : List D} : sApp (xPl 19) a (s0 :: s1 :: s2 :: s3 :: s4 :: s5 :: s6 :: s7 :: s8 :: s9 :: s10 :: s11 :: s12 :: s13 :: s14 :: s15 :: s16 :: s17 :: s18 :: .va k (.list ds) :: ρ) = (a (s0 :: s1 :: s2 :: s3 :: s4 :: s5 :: s6 :: s7 :: s8 :: s9 :: s10 :: s11 :: s12 :: s13 :: s14 :: s15 :: s16 :: s17 :: s18 :: .va k (.list ds) :: ρ)).sr (s0 :: s1 :: s2 :: s3 :: s4 :: s5 :: s6 :: s7 :: s8 :: s9 :: s10 :: s11 :: s12 :: s13 :: s14 :: s15 :: s16 :: s17 :: s18 :: .va k (.list ds) :: ρ) fun v => appR (s0 :: s1 :: s2 :: s3 :: s4 :: s5 :: s6 :: s7 :: s8 :: s9 :: s10 :: s11 :: s12 :: s13 :: s14 :: s15 :: s16 :: s17 :: s18 :: .va k (.list ds) :: ρ) 19 k ds v := app_of rfl
@[simp] theorem appR_19 {s0 s1 s2 s3 s4 s5 s6 s7 s8 s9 s10 s11 s12 s13 s14 s15 s16 s17 s18 : Sl} {k : Lv} {ds : List D} {v : BV} (hf : flat v.d = true) (hk : k ≠ some 0) (hl : ds.length < sizeLine) : appR (s0 :: s1 :: s2 :: s3 :: s4 :: s5 :: s6 :: s7 :: s8 :: s9 :: s10 :: s11 :: s12 :: s13 :: s14 :: s15 :: s16 :: s17 :: s18 :: .va k (.list ds) :: ρ) 19 k ds v = .nx (setSl (s0 :: s1 :: s2 :: s3 :: s4 :: s5 :: s6 :: s7 :: s8 :: s9 :: s10 :: s11 :: s12 :: s13 :: s14 :: s15 :: s16 :: s17 :: s18 :: .va k (.list ds) :: ρ) 19 (.va k (.list (ds ++ [v.d])))) := appR_flat rfl hf hk hl
@[simp] theorem ap_app_20 {s0 s1 s2 s3 s4 s5 s6 s7 s8 s9 s10 s11 s12 s13 s14 s15 s16 s17 s18 s19 : Sl} {k : Lv} {ds : List D} : sApp (xPl 20) a (s0 :: s1 :: s2 :: s3 :: s4 :: s5 :: s6 :: s7 :: s8 :: s9 :: s10 :: s11 :: s12 :: s13 :: s14 :: s15 :: s16 :: s17 :: s18 :: s19 :: .va k (.list ds) :: ρ) = (a (s0 :: s1 :: s2 :: s3 :: s4 :: s5 :: s6 :: s7 :: s8 :: s9 :: s10 :: s11 :: s12 :: s13 :: s14 :: s15 :: s16 :: s17 :: s18 :: s19 :: .va k (.list ds) :: ρ)).sr (s0 :: s1 :: s2 :: s3 :: s4 :: s5 :: s6 :: s7 :: s8 :: s9 :: s10 :: s11 :: s12 :: s13 :: s14 :: s15 :: s16 :: s17 :: s18 :: s19 :: .va k (.list ds) :: ρ) fun v => appR (s0 :: s1 :: s2 :: s3 :: s4 :: s5 :: s6 :: s7 :: s8 :: s9 :: s10 :: s11 :: s12 :: s13 :: s14 :: s15 :: s16 :: s17 :: s18 :: s19 :: .va k (.list ds) :: ρ) 20 k ds v := app_of rfl
@[simp] theorem appR_20 {s0 s1 s2 s3 s4 s5 s6 s7 s8 s9 s10 s11 s12 s13 s14 s15 s16 s17 s18 s19 : Sl} {k : Lv} {ds : List D} {v : BV} (hf : flat v.d = true) (hk : k ≠ some 0) (hl : ds.length < sizeLine) : appR (s0 :: s1 :: s2 :: s3 :: s4 :: s5 :: s6 :: s7 :: s8 :: s9 :: s10 :: s11 :: s12 :: s13 :: s14 :: s15 :: s16 :: s17 :: s18 :: s19 :: .va k (.list ds) :: ρ) 20 k ds v = .nx (setSl (s0 :: s1 :: s2 :: s3 :: s4 :: s5 :: s6 :: s7 :: s8 :: s9 :: s10 :: s11 :: s12 :: s13 :: s14 :: s15 :: s16 :: s17 :: s18 :: s19 :: .va k (.list ds) :: ρ) 20 (.va k (.list (ds ++ [v.d])))) := appR_flat rfl hf hk hl
@[simp] theorem ap_app_21 {s0 s1 s2 s3 s4 s5 s6 s7 s8 s9 s10 s11 s12 s13 s14 s15 s16 s17 s18 s19 s20 : Sl} {k : Lv} {ds : List D} : sApp (xPl 21) a (s0 :: s1 :: s2 :: s3 :: s4 :: s5 :: s6 :: s7 :: s8 :: s9 :: s10 :: s11 :: s12 :: s13 :: s14 :: s15 :: s16 :: s17 :: s18 :: s19 :: s20 :: .va k (.list ds) :: ρ) = (a (s0 :: s1 :: s2 :: s3 :: s4 :: s5 :: s6 :: s7 :: s8 :: s9 :: s10 :: s11 :: s12 :: s13 :: s14 :: s15 :: s16 :: s17 :: s18 :: s19 :: s20 :: .va k (.list ds) :: ρ)).sr (s0 :: s1 :: s2 :: s3 :: s4 :: s5 :: s6 :: s7 :: s8 :: s9 :: s10 :: s11 :: s12 :: s13 :: s14 :: s15 :: s16 :: s17 :: s18 :: s19 :: s20 :: .va k (.list ds) :: ρ) fun v => appR (s0 :: s1 :: s2 :: s3 :: s4 :: s5 :: s6 :: s7 :: s8 :: s9 :: s10 :: s11 :: s12 :: s13 :: s14 :: s15 :: s16 :: s17 :: s18 :: s19 :: s20 :: .va k (.list ds) :: ρ) 21 k ds v := app_of rfl
@[simp] theorem appR_21 {s0 s1 s2 s3 s4 s5 s6 s7 s8 s9 s10 s11 s12 s13 s14 s15 s16 s17 s18 s19 s20 : Sl} {k : Lv} {ds : List D} {v : BV} (hf : flat v.d = true) (hk : k ≠ some 0) (hl : ds.length < sizeLine) : appR (s0 :: s1 :: s2 :: s3 :: s4 :: s5 :: s6 :: s7 :: s8 :: s9 :: s10 :: s11 :: s12 :: s13 :: s14 :: s15 :: s16 :: s17 :: s18 :: s19 :: s20 :: .va k (.list ds) :: ρ) 21 k ds v = .nx (setSl (s0 :: s1 :: s2 :: s3 :: s4 :: s5 :: s6 :: s7 :: s8 :: s9 :: s10 :: s11 :: s12 :: s13 :: s14 :: s15 :: s16 :: s17 :: s18 :: s19 :: s20 :: .va k (.list ds) :: ρ) 21 (.va k (.list (ds ++ [v.d])))) := appR_flat rfl hf hk hl
@[simp] theorem ap_app_22 {s0 s1 s2 s3 s4 s5 s6 s7 s8 s9 s10 s11 s12 s13 s14 s15 s16 s17 s18 s19 s20 s21 : Sl} {k : Lv} {ds : List D} : sApp (xPl 22) a (s0 :: s1 :: s2 :: s3 :: s4 :: s5 :: s6 :: s7 :: s8 :: s9 :: s10 :: s11 :: s12 :: s13 :: s14 :: s15 :: s16 :: s17 :: s18 :: s19 :: s20 :: s21 :: .va k (.list ds) :: ρ) = (a (s0 :: s1 :: s2 :: s3 :: s4 :: s5 :: s6 :: s7 :: s8 :: s9 :: s10 :: s11 :: s12 :: s13 :: s14 :: s15 :: s16 :: s17 :: s18 :: s19 :: s20 :: s21 :: .va k (.list ds) :: ρ)).sr (s0 :: s1 :: s2 :: s3 :: s4 :: s5 :: s6 :: s7 :: s8 :: s9 :: s10 :: s11 :: s12 :: s13 :: s14 :: s15 :: s16 :: s17 :: s18 :: s19 :: s20 :: s21 :: .va k (.list ds) :: ρ) fun v => appR (s0 :: s1 :: s2 :: s3 :: s4 :: s5 :: s6 :: s7 :: s8 :: s9 :: s10 :: s11 :: s12 :: s13 :: s14 :: s15 :: s16 :: s17 :: s18 :: s19 :: s20 :: s21 :: .va k (.list ds) :: ρ) 22 k ds v := app_of rfl
@[simp] theorem appR_22 {s0 s1 s2 s3 s4 s5 s6 s7 s8 s9 s10 s11 s12 s13 s14 s15 s16 s17 s18 s19 s20 s21 : Sl} {k : Lv} {ds : List D} {v : BV} (hf : flat v.d = true) (hk : k ≠ some 0) (hl : ds.length < sizeLine) : appR (s0 :: s1 :: s2 :: s3 :: s4 :: s5 :: s6 :: s7 :: s8 :: s9 :: s10 :: s11 :: s12 :: s13 :: s14 :: s15 :: s16 :: s17 :: s18 :: s19 :: s20 :: s21 :: .va k (.list ds) :: ρ) 22 k ds v = .nx (setSl (s0 :: s1 :: s2 :: s3 :: s4 :: s5 :: s6 :: s7 :: s8 :: s9 :: s10 :: s11 :: s12 :: s13 :: s14 :: s15 :: s16 :: s17 :: s18 :: s19 :: s20 :: s21 :: .va k (.list ds) :: ρ) 22 (.va k (.list (ds ++ [v.d])))) := appR_flat rfl hf hk hl
@[simp] theorem ap_app_23 {s0 s1 s2 s3 s4 s5 s6 s7 s8 s9 s10 s11 s12 s13 s14 s15 s16 s17 s18 s19 s20 s21 s22 : Sl} {k : Lv} {ds : List D} : sApp (xPl 23) a (s0 :: s1 :: s2 :: s3 :: s4 :: s5 :: s6 :: s7 :: s8 :: s9 :: s10 :: s11 :: s12 :: s13 :: s14 :: s15 :: s16 :: s17 :: s18 :: s19 :: s20 :: s21 :: s22 :: .va k (.list ds) :: ρ) = (a (s0 :: s1 :: s2 :: s3 :: s4 :: s5 :: s6 :: s7 :: s8 :: s9 :: s10 :: s11 :: s12 :: s13 :: s14 :: s15 :: s16 :: s17 :: s18 :: s19 :: s20 :: s21 :: s22 :: .va k (.list ds) :: ρ)).sr (s0 :: s1 :: s2 :: s3 :: s4 :: s5 :: s6 :: s7 :: s8 :: s9 :: s10 :: s11 :: s12 :: s13 :: s14 :: s15 :: s16 :: s17 :: s18 :: s19 :: s20 :: s21 :: s22 :: .va k (.list ds) :: ρ) fun v => appR (s0 :: s1 :: s2 :: s3 :: s4 :: s5 :: s6 :: s7 :: s8 :: s9 :: s10 :: s11 :: s12 :: s13 :: s14 :: s15 :: s16 :: s17 :: s18 :: s19 :: s20 :: s21 :: s22 :: .va k (.list ds) :: ρ) 23 k ds v := app_of rfl
@[simp] theorem appR_23 {s0 s1 s2 s3 s4 s5 s6 s7 s8 s9 s10 s11 s12 s13 s14 s15 s16 s17 s18 s19 s20 s21 s22 : Sl} {k : Lv} {ds : List D} {v : BV} (hf : flat v.d = true) (hk : k ≠ some 0) (hl : ds.length < sizeLine) : appR (s0 :: s1 :: s2 :: s3 :: s4 :: s5 :: s6 :: s7 :: s8 :: s9 :: s10 :: s11 :: s12 :: s13 :: s14 :: s15 :: s16 :: s17 :: s18 :: s19 :: s20 :: s21 :: s22 :: .va k (.list ds) :: ρ) 23 k ds v = .nx (setSl (s0 :: s1 :: s2 :: s3 :: s4 :: s5 :: s6 :: s7 :: s8 :: s9 :: s10 :: s11 :: s12 :: s13 :: s14 :: s15 :: s16 :: s17 :: s18 :: s19 :: s20 :: s21 :: s22 :: .va k (.list ds) :: ρ) 23 (.va k (.list (ds ++ [v.d])))) := appR_flat rfl hf hk hl
end
end Ev

set_option Elab.async false
set_option linter.all false
set_option maxRecDepth 100000
namespace Ev
open PySem PySem.Spec PyProof.Rows L2

/-! ### new lists of items that may be shared -/
def newk (ds : List D) : Lv := if flats ds = true then none else some 0
/-- the items of a list, if they may be shared -/
def shI (u : BV) : Res (List D) := match u.d with
  | .list ds => if flats ds = true ∨ pd u.k = some 0 then .ok ds else .er
  | _ => .er
theorem shI_ok {u : BV} {ds : List D} (h : shI u = .ok ds) : u.d = .list ds ∧ (flats ds = true ∨ pd u.k = some 0) := by
  unfold shI at h
  cases hd : u.d <;> rw [hd] at h <;> first | (cases h; done) | skip
  dsimp only at h
  split at h <;> cases h
  rename_i hk
  exact ⟨rfl, hk⟩
theorem shI_rz {u : BV} {c : Str} : shI u ≠ .rz c := by
  intro h
  unfold shI at h
  split at h
  · split at h <;> cases h
  · cases h
def mkNew (ds : List D) : Res BV := .ok ⟨false, sc (newk ds), .list ds⟩
theorem newk_obs {K : PySem.W.Frag} {Z H : Hp} {k : Lv} {ds : List D} {ts : List Tr} (o : Obs K Z H k ds ts) (h : flats ds = true ∨ k = some 0) : Obs K Z H (newk ds) ds ts ∧ owns (newk ds) ds ts = [] := by
  unfold newk
  by_cases hf : flats ds = true
  · rw [if_pos hf]
    exact ⟨flats_obs ds k none ts hf o, flats_owns ds none ts hf⟩
  · rw [if_neg hf]
    have hk := h.elim (fun z => absurd z hf) _root_.id
    subst hk
    exact ⟨o, owns_zero ds ts⟩
theorem flats_sub {ds es : List D} (h : flats ds = true) (hs : ∀ e ∈ es, e ∈ ds) : flats es = true := by
  have all : ∀ ds : List D, flats ds = true ↔ ∀ d ∈ ds, flat d = true := fun ds => by
    induction ds with
    | nil => simp [flats]
    | cons d ds ih => simp only [flats, Bool.and_eq_true, ih, List.forall_mem_cons]
  rw [all] at h ⊢
  exact fun e he => h e (hs e he)
theorem obs_drop {K : PySem.W.Frag} {Z H : Hp} {k : Lv} : ∀ (n : Nat) {ds : List D} {ts : List Tr}, Obs K Z H k ds ts → Obs K Z H k (ds.drop n) (ts.drop n) ∧ valsOf (ds.drop n) (ts.drop n) = (valsOf ds ts).drop n
  | 0, ds, ts, o => by simpa using o
  | n + 1, [], [], o => by simp [Obs, valsOf]
  | n + 1, d :: ds, t :: ts, o => by
    simp only [Obs] at o
    simpa only [List.drop_succ_cons, valsOf] using obs_drop n o.2
  | n + 1, [], _ :: _, o => by simp only [Obs] at o
  | n + 1, _ :: _, [], o => by simp only [Obs] at o
theorem obs_take {K : PySem.W.Frag} {Z H : Hp} {k : Lv} : ∀ (n : Nat) {ds : List D} {ts : List Tr}, Obs K Z H k ds ts → Obs K Z H k (ds.take n) (ts.take n) ∧ valsOf (ds.take n) (ts.take n) = (valsOf ds ts).take n
  | 0, ds, ts, o => by simp [Obs, valsOf]
  | n + 1, [], [], o => by simp [Obs, valsOf]
  | n + 1, d :: ds, t :: ts, o => by
    simp only [Obs] at o
    obtain ⟨h1, h2⟩ := obs_take n o.2
    simp only [List.take_succ_cons, valsOf, Obs]
    exact ⟨⟨o.1, h1⟩, by rw [h2]⟩
  | n + 1, [], _ :: _, o => by simp only [Obs] at o
  | n + 1, _ :: _, [], o => by simp only [Obs] at o
theorem obs_cat {K : PySem.W.Frag} {Z H : Hp} {k : Lv} : ∀ {ds es : List D} {ts us : List Tr}, Obs K Z H k ds ts → Obs K Z H k es us → Obs K Z H k (ds ++ es) (ts ++ us) ∧ valsOf (ds ++ es) (ts ++ us) = valsOf ds ts ++ valsOf es us
  | [], es, [], us, _, o => by simpa [valsOf] using o
  | d :: ds, es, t :: ts, us, h, o => by
    simp only [Obs] at h
    obtain ⟨h1, h2⟩ := obs_cat h.2 o
    simp only [List.cons_append, valsOf, Obs]
    exact ⟨⟨h.1, h1⟩, by rw [h2]⟩
  | [], _, _ :: _, _, h, _ => by simp only [Obs] at h
  | _ :: _, _, [], _, h, _ => by simp only [Obs] at h
section
variable {X : Cx} {W : WX} {S : Sta} {De : Ends}
/-- the end with a new list -/
theorem GoodE.newl {Q : VK} {S2 : Sta} {cs : List Tm} {ds : List D} {tr : List Tr} {p : Addr} (g : GoodE X W S Q (mkNew ds)) (a2 : Aft S S2) (e2 : S2.τ = cs ++ S.τ) (R2 : S2.R X.K) (f2 : ∀ a ∈ ownT cs, S.H a = none) (hp : S2.H p = none)
    (o : Obs X.K S2.Z S2.H (newk ds) ds tr) (ow : owns (newk ds) ds tr = []) : Q (.ref p) (upd S2.H p (.lst (valsOf ds tr))) := by
  have R2' := R2.stk e2
  have ow' : owns (newk ds) ds (Tr.n p tr).kids = [] := ow
  refine GoodE.made (t := .n p tr) (p := p) (o := .lst (valsOf ds tr)) (Z' := S2.Z) g a2 e2 R2 f2 hp (.inl rfl) ?_ ?_ fun a m => ?_
  · simp only [Ob, pd_sc]
    refine ⟨?_, Obs.ext (Z := S2.Z) (H := S2.H) (Same.refl _) _ _ _ o (fun a m => by rw [ow'] at m; cases m) fun a m => by rw [ow'] at m; cases m⟩
    unfold LstAt
    rw [if_neg (sc_ne _)]
    exact ⟨R2'.zh.free hp, upd_same⟩
  · simp only [Ev.own, pd_sc, if_neg (sc_ne _), ow', List.append_nil]
    simp
  · simp only [Ev.own, pd_sc, if_neg (sc_ne _), ow', List.append_nil] at m
    exact .inl ⟨List.mem_singleton.mp m, rfl⟩
/-! ### list + list -/
def rCat' (K : PySem.W.Frag) : R2 := fun x y H Q => ∃ l b xs zs, x = .ref l ∧ y = .ref b ∧ SqL K H l xs ∧ SqL K H b zs ∧ xs.length + zs.length ≤ sizeLine ∧ ∀ p, H p = none → Q (.ref p) (upd H p (.lst (xs ++ zs)))
theorem op_cat' : OpR X (binaryOp .Add) (rCat' X.K) := by
  intro pins s σ H x y v u Q I rx ry h
  obtain ⟨l, b, xs, zs, rfl, rfl, hH, hB, hz, q⟩ := h
  cases rx
  cases ry
  obtain ⟨its, r, ⟨⟨oc, od, dt, sl⟩, n, e, hc, hd, hdt⟩, hz1⟩ := I.list hH
  obtain ⟨its2, r2, ⟨⟨oc2, od2, dt2, sl2⟩, n2, e2, hc2, hd2, hdt2⟩, hz2⟩ := I.list hB
  dsimp only at hc hd hdt hc2 hd2 hdt2
  subst hc hd hdt hc2 hd2 hdt2
  refine concat_meets ⟨_, e, rfl⟩ ⟨_, e2, rfl⟩ noFill_list_add seq_list_add PySem.F.slot_list_add PySem.F.entry_list_add (PySem.F.args_list_add_2 _ _) (list_addW l b its.toArray its2.toArray n n2 none none sl sl2 (by rw [List.size_toArray, List.size_toArray, ← r.length, ← r2.length]; omega)) ⟨e, e2, ?_⟩
  have ea : its.toArray ++ its2.toArray = (its ++ its2).toArray := by simp
  rw [ea]
  exact ⟨.ref _, _, I.lnew (t' := s.toks) (r.append r2) (by rw [List.length_append]; omega), rfl, q _ I.fresh⟩
/-- a sum: numbers, texts, lists -/
def dAddV (u v : BV) : Res BV := match u.d with
  | .list _ => (shI u).bind fun ds => (shI v).bind fun es => if ds.length + es.length ≤ sizeLine then mkNew (ds ++ es) else .er
  | _ => pl dAdd u v
theorem flats_or_zero {K : PySem.W.Frag} {Z H : Hp} {k : Lv} {ds : List D} {ts : List Tr} (o : Obs K Z H k ds ts) (h : flats ds = true ∨ k = some 0) : Obs K Z H (some 0) ds ts := by
  rcases h with h | h
  · exact flats_obs ds k _ ts h o
  · rw [← h]; exact o
theorem newk_app {K : PySem.W.Frag} {Z H : Hp} {k k' : Lv} {ds es : List D} {ts us : List Tr} (o : Obs K Z H k ds ts) (o' : Obs K Z H k' es us) (h : flats ds = true ∨ k = some 0) (h' : flats es = true ∨ k' = some 0) :
    Obs K Z H (newk (ds ++ es)) (ds ++ es) (ts ++ us) ∧ owns (newk (ds ++ es)) (ds ++ es) (ts ++ us) = [] := by
  have lv : ∀ {k : Lv} {ds : List D} {ts : List Tr}, Obs K Z H k ds ts → (flats ds = true ∨ k = some 0) → Obs K Z H (some 0) ds ts := fun {k ds ts} o h => by
    rcases h with h | h
    · exact flats_obs ds k _ ts h o
    · rw [← h]; exact o
  exact newk_obs (obs_cat (lv o h) (lv o' h')).1 (.inr rfl)
theorem ops_addV : OpS X W (binaryOp .Add) dAddV := by
  intro S Q u v S2 t t' R a2 e2 R2 f1 f2 g
  unfold dAddV at g
  cases hu : u.d with
  | list ds0 =>
    rw [hu] at g
    dsimp only at g
    cases q1 : shI u with
    | er => rw [q1] at g; exact g.elim
    | rz c => exact absurd q1 shI_rz
    | ok ds =>
      rw [q1, Res.bind_ok] at g
      cases q2 : shI v with
      | er => rw [q2] at g; exact g.elim
      | rz c => exact absurd q2 shI_rz
      | ok es =>
        rw [q2, Res.bind_ok] at g
        by_cases hz : ds.length + es.length ≤ sizeLine
        · rw [if_pos hz] at g
          obtain ⟨h1, h2⟩ := shI_ok q1
          obtain ⟨h3, h4⟩ := shI_ok q2
          have R2' := R2.rl e2
          have ov := (R2'.tm _ List.mem_cons_self).1
          have ou := (R2'.tm _ (List.mem_cons_of_mem _ List.mem_cons_self)).1
          replace ov : Ob X.K S2.Z S2.H v.k v.d t' := ov
          replace ou : Ob X.K S2.Z S2.H u.k u.d t := ou
          rw [h3] at ov
          rw [h1] at ou
          simp only [Ob] at ov ou
          obtain ⟨oo, ow⟩ := newk_app ou.2 ov.2 h2 h4
          rw [← hu, h1, h3]
          refine wO_of op_cat' ⟨t.at, t'.at, _, _, rfl, rfl, ou.1.sq R2'.zh, ov.1.sq R2'.zh, by rw [valsOf_length ou.2.len, valsOf_length ov.2.len]; exact hz, fun p hp => ?_⟩
          rw [← (obs_cat (flats_or_zero ou.2 h2) (flats_or_zero ov.2 h4)).2]
          exact GoodE.newl (cs := [⟨v.b, v.k, v.d, t'⟩, ⟨u.b, u.k, u.d, t⟩]) g a2 e2 R2 (fun a m => by
            simp only [ownT, List.append_nil] at m
            rcases List.mem_append.mp m with m | m
            · cases hb : v.b with
              | true => rw [hb] at m; simp at m
              | false => rw [hb] at m; exact f2 hb a (by simpa using m)
            · cases hb : u.b with
              | true => rw [hb] at m; simp at m
              | false => rw [hb] at m; exact f1 hb a (by simpa using m)) hp oo ow
        · rw [if_neg hz] at g; exact g.elim
  | none => rw [hu] at g; have z := ops_add (X := X) (W := W) S Q u v S2 t t' R a2 e2 R2 f1 f2 g; rw [hu] at z; exact z
  | bool b => rw [hu] at g; have z := ops_add (X := X) (W := W) S Q u v S2 t t' R a2 e2 R2 f1 f2 g; rw [hu] at z; exact z
  | int b => rw [hu] at g; have z := ops_add (X := X) (W := W) S Q u v S2 t t' R a2 e2 R2 f1 f2 g; rw [hu] at z; exact z
  | str b => rw [hu] at g; have z := ops_add (X := X) (W := W) S Q u v S2 t t' R a2 e2 R2 f1 f2 g; rw [hu] at z; exact z
  | tuple b => rw [hu] at g; have z := ops_add (X := X) (W := W) S Q u v S2 t t' R a2 e2 R2 f1 f2 g; rw [hu] at z; exact z
  | dict b => rw [hu] at g; have z := ops_add (X := X) (W := W) S Q u v S2 t t' R a2 e2 R2 f1 f2 g; rw [hu] at z; exact z
/-! ### a[lo:hi] -/
def cutD (ds : List D) (lo hi : Option Int) : List D := (ds.drop (HT.sIx ds.length 0 lo)).take (HT.sIx ds.length ds.length hi - HT.sIx ds.length 0 lo)
/-- a bound of a slice -/
def oNo : Rho → Res (Option Int) := fun _ => .ok none
def oAt (x : Rho → Res BV) : Rho → Res (Option Int) := fun ρ => (x ρ).bind fun v => match v.d with
  | .int i => .ok (some i)
  | _ => .er
def GoodO (X : Cx) (W : WX) (S : Sta) (Q : Option Int → Hp → Prop) : Res (Option Int) → Prop
  | .ok o => ∀ S' : Sta, Aft S S' → S'.τ = S.τ → S'.R X.K → Q o S'.H
  | .rz c => ∀ S' : Sta, Aft S S' → S'.τ = S.τ → S'.R X.K → Raised X W c S'.σ S'.H
  | .er => False
def wP (X : Cx) (e : Option Expr) : TO := fun σ H Q => ∀ (pins : List (Addr × Obj)) (s : Shared), Inv X pins σ H s → wpAny (model X.prog X.w) X.A (evalPart e X.env) (fun u s' => ∃ o H', Inv X pins σ H' s' ∧ IsPart u o ∧ Q o H') X.xe s
theorem po_w {e : Option Expr} : PO X e (wP X e) := ⟨fun pins s σ H Q I h => h pins s I⟩
theorem wP_of {e : Option Expr} {t : TO} {σ : L2.St} {H : Hp} {Q : Option Int → Hp → Prop} (h : PO X e t) (q : t σ H Q) : wP X e σ H Q := fun pins s I => h.run pins s σ H Q I q
def SO (X : Cx) (W : WX) (e : Option Expr) (x : Rho → Res (Option Int)) : Prop := ∀ (S : Sta) (Q : Option Int → Hp → Prop), S.R X.K → GoodO X W S Q (x S.ρ) → wP X e S.σ S.H Q
theorem so_none : SO X W none oNo := fun S Q R g => wP_of po_none (g S Aft.refl rfl R)
theorem so_some {e : Expr} {x : Rho → Res BV} (h : SE X W e x) : SO X W (some e) (oAt x) := by
  intro S Q R g
  refine wP_of (po_some pe_w) (h S _ R ?_)
  unfold oAt at g
  cases q : x S.ρ with
  | er => rw [q] at g; exact g
  | rz c => rw [q] at g; exact g
  | ok v =>
    rw [q, Res.bind_ok] at g
    intro S1 t a1 e1 R1 f1
    cases hd : v.d <;> rw [hd] at g <;> first | exact g.elim | skip
    rename_i i
    refine ⟨i, rfl, g (S1.put S1.Z S1.H S.τ) (a1.put Step.refl) rfl ?_⟩
    exact (R1.rl e1).pop
/-- a slice of a list -/
def xSl (a : Rho → Res BV) (l h : Rho → Res (Option Int)) : Rho → Res BV := fun ρ => (a ρ).bind fun u => (l ρ).bind fun lo => (h ρ).bind fun hi => (shI u).bind fun ds => mkNew (cutD ds lo hi)
theorem obs_cut {K : PySem.W.Frag} {Z H : Hp} {k : Lv} {ds : List D} {ts : List Tr} (o : Obs K Z H k ds ts) (h : flats ds = true ∨ k = some 0) (lo hi : Option Int) :
    ∃ tr, Obs K Z H (newk (cutD ds lo hi)) (cutD ds lo hi) tr ∧ owns (newk (cutD ds lo hi)) (cutD ds lo hi) tr = [] ∧ valsOf (cutD ds lo hi) tr = cutV (valsOf ds ts) lo hi := by
  have o0 := flats_or_zero o h
  have o1 := obs_drop (HT.sIx ds.length 0 lo) o0
  have o2 := obs_take (HT.sIx ds.length ds.length hi - HT.sIx ds.length 0 lo) o1.1
  obtain ⟨n1, n2⟩ := newk_obs o2.1 (.inr rfl)
  refine ⟨_, n1, n2, ?_⟩
  unfold cutD
  rw [o2.2, o1.2]
  unfold cutV
  rw [valsOf_length o.len]
theorem se_slice {e : Expr} {lo hi : Option Expr} {p2 pos : Pos} {xe : Rho → Res BV} {xl xh : Rho → Res (Option Int)} (he : SE X W e xe) (hl : SO X W lo xl) (hh : SO X W hi xh) : SE X W (.Subscript e (.Slice lo hi none p2) pos) (xSl xe xl xh) := by
  intro S Q R g
  refine wE_of (pe_slice sl_list pe_w po_w po_w) ?_
  unfold xSl at g
  refine he S _ R ?_
  cases q1 : xe S.ρ with
  | er => rw [q1] at g; exact g
  | rz c => rw [q1] at g; exact g
  | ok u =>
    rw [q1, Res.bind_ok] at g
    intro S1 t a1 e1 R1 f1
    have z : wP X lo S1.σ S1.H fun l H2 => wP X hi S.σ H2 fun h H3 => rSlL X.K (valOf u.d t) l h H3 Q := by
      refine hl S1 _ R1 ?_
      rw [a1.ρ]
      cases q2 : xl S.ρ with
      | er => rw [q2] at g; exact g
      | rz c =>
        rw [q2] at g
        intro S2 a2 e2 R2
        refine g (S2.put S2.Z S2.H S.τ) ((a1.trans a2).put Step.refl) rfl ?_
        exact (R2.rl (e2.trans e1)).pop
      | ok l =>
        rw [q2, Res.bind_ok] at g
        intro S2 a2 e2 R2
        have z2 : wP X hi S2.σ S2.H fun h H3 => rSlL X.K (valOf u.d t) l h H3 Q := by
          refine hh S2 _ R2 ?_
          rw [(a1.trans a2).ρ]
          cases q3 : xh S.ρ with
          | er => rw [q3] at g; exact g
          | rz c =>
            rw [q3] at g
            intro S3 a3 e3 R3
            refine g (S3.put S3.Z S3.H S.τ) (((a1.trans a2).trans a3).put Step.refl) rfl ?_
            exact (R3.rl (e3.trans (e2.trans e1))).pop
          | ok h =>
            rw [q3, Res.bind_ok] at g
            intro S3 a3 e3 R3
            cases q4 : shI u with
            | er => rw [q4] at g; exact g.elim
            | rz c => exact absurd q4 shI_rz
            | ok ds =>
              rw [q4, Res.bind_ok] at g
              obtain ⟨h1, h2⟩ := shI_ok q4
              have a := (a1.trans a2).trans a3
              have e4 : S3.τ = [⟨u.b, u.k, u.d, t⟩] ++ S.τ := e3.trans (e2.trans e1)
              have R3' := R3.rl e4
              have ou := (R3'.tm _ List.mem_cons_self).1
              replace ou : Ob X.K S3.Z S3.H u.k u.d t := ou
              rw [h1] at ou
              simp only [Ob] at ou
              obtain ⟨tr, o1, o2, o3⟩ := obs_cut ou.2 h2 l h
              rw [h1]
              refine ⟨t.at, _, rfl, ou.1.sq R3'.zh, fun p hp => ?_⟩
              rw [← o3]
              exact GoodE.newl (cs := [⟨u.b, u.k, u.d, t⟩]) g a e4 R3 (fun a m => by
                simp only [ownT, List.append_nil] at m
                cases hb : u.b with
                | true => rw [hb] at m; simp at m
                | false => rw [hb] at m; exact f1 hb a (by simpa using m)) hp o1 o2
        rw [(a1.trans a2).σ] at z2
        exact z2
    rw [a1.σ] at z
    exact z
end
end Ev

set_option Elab.async false
set_option linter.all false
set_option maxRecDepth 100000
namespace Ev
open PySem PySem.Spec PyProof.Rows L2

/-! ### P[i] = e -/
theorem obs_hole {K : PySem.W.Frag} {Z H : Hp} {k : Lv} : ∀ {ds : List D} {ts : List Tr} (n : Nat), Obs K Z H k ds ts → Obs K Z H k (ds.set n .none) ts
  | [], [], _, o => by simpa using o
  | d :: ds, t :: ts, 0, o => by
    simp only [Obs, List.set_cons_zero] at o ⊢
    exact ⟨by simp only [Ob], o.2⟩
  | d :: ds, t :: ts, n + 1, o => by
    simp only [Obs, List.set_cons_succ] at o ⊢
    exact ⟨o.1, obs_hole n o.2⟩
  | [], _ :: _, _, o => by simp only [Obs] at o
  | _ :: _, [], _, o => by simp only [Obs] at o
theorem obs_fill {K : PySem.W.Frag} {Z H : Hp} {k : Lv} {x : D} {y : Tr} : ∀ {ds : List D} {ts : List Tr} (n : Nat), Obs K Z H k (ds.set n .none) ts → Ob K Z H k x y → Obs K Z H k (ds.set n x) (ts.set n y)
  | [], [], _, o, _ => by simpa using o
  | d :: ds, t :: ts, 0, o, h => by
    simp only [Obs, List.set_cons_zero] at o ⊢
    exact ⟨h, o.2⟩
  | d :: ds, t :: ts, n + 1, o, h => by
    simp only [Obs, List.set_cons_succ] at o ⊢
    exact ⟨o.1, obs_fill n o.2 h⟩
  | [], _ :: _, _, o, _ => by simp [Obs] at o
  | _ :: _, [], n, o, _ => by cases n <;> simp [Obs] at o
theorem owns_hole {k : Lv} : ∀ {ds : List D} {ts : List Tr} {n : Nat}, ∀ a ∈ owns k (ds.set n .none) ts, a ∈ owns k ds ts
  | [], _, _, a, m => by simpa using m
  | d :: ds, [], n, a, m => by cases n <;> simp [owns] at m
  | d :: ds, t :: ts, 0, a, m => by
    simp only [List.set_cons_zero, owns, Ev.own, List.nil_append] at m ⊢
    exact List.mem_append_right _ m
  | d :: ds, t :: ts, n + 1, a, m => by
    simp only [List.set_cons_succ, owns] at m ⊢
    rcases List.mem_append.mp m with m | m
    · exact List.mem_append_left _ m
    · exact List.mem_append_right _ (owns_hole a m)
theorem vals_setn {x : D} {y : Tr} : ∀ {ds : List D} {ts : List Tr} {n : Nat}, ds.length = ts.length → n < ds.length → valsOf (ds.set n x) (ts.set n y) = (valsOf ds ts).set n (valOf x y)
  | [], [], _, _, h => by simp at h
  | d :: ds, t :: ts, 0, _, _ => by simp [valsOf]
  | d :: ds, t :: ts, n + 1, h, h2 => by
    simp only [List.set_cons_succ, valsOf]
    rw [vals_setn (by simpa using h) (by simpa using h2)]
  | [], _ :: _, _, h, _ => by simp at h
  | _ :: _, [], _, h, _ => by simp at h
def setV (ρ : Rho) (q : Nat × List Nat) (iv : D) (v : BV) : Res Rho := (settle false v).bind fun v => (atP ρ q).bind fun r => match r.2, iv with
  | .list ds, .int i => match ixN ds.length i with
    | some n => (takeLv (isRoot q.2) r.1 (ds.set n .none) v).bind fun k2 => .ok (chg ρ q k2 (.list (ds.set n v.d)))
    | none => .er
  | _, _ => .er
theorem setV_ok {ρ ρ' : Rho} {q : Nat × List Nat} {iv : D} {v : BV} (h : setV ρ q iv v = .ok ρ') : ∃ v' k' ds i n k2, settle false v = .ok v' ∧ atP ρ q = .ok (k', .list ds) ∧ iv = .int i ∧ ixN ds.length i = some n ∧ takeLv (isRoot q.2) k' (ds.set n .none) v' = .ok k2 ∧ ρ' = chg ρ q k2 (.list (ds.set n v'.d)) := by
  unfold setV at h
  cases q1 : settle false v with
  | er => rw [q1] at h; cases h
  | rz c => exact absurd q1 settle_rz
  | ok v' =>
    rw [q1, Res.bind_ok] at h
    cases q2 : atP ρ q with
    | er => rw [q2] at h; cases h
    | rz c => exact absurd q2 atP_rz
    | ok r =>
      rw [q2, Res.bind_ok] at h
      obtain ⟨k', dd⟩ := r
      cases dd <;> try (cases h; done)
      rename_i ds
      cases iv <;> try (cases h; done)
      rename_i i
      dsimp only at h
      cases q3 : ixN ds.length i with
      | none => rw [q3] at h; cases h
      | some n =>
        rw [q3] at h
        dsimp only at h
        cases q4 : takeLv (isRoot q.2) k' (ds.set n .none) v' with
        | er => rw [q4] at h; cases h
        | rz c => exact absurd q4 takeLv_rz
        | ok k2 =>
          rw [q4] at h
          cases h
          exact ⟨v', k', ds, i, n, k2, rfl, rfl, rfl, q3, q4, rfl⟩
/-- value first, then the container, then the index -/
def sSet (a : Rho → Res (Nat × List Nat)) (b : Rho → Res BV) (x : Rho → Res BV) : Rho → SR := fun ρ => match x ρ with
  | .ok v => match a ρ with
    | .ok q => match b ρ with
      | .ok w => match setV ρ q w.d v with
        | .ok ρ' => .nx ρ'
        | _ => .er
      | .rz c => .rz c ρ
      | .er => .er
    | .rz c => .rz c ρ
    | .er => .er
  | .rz c => .rz c ρ
  | .er => .er
section
variable {X : Cx} {W : WX} {S : Sta} {De : Ends}
theorem st_set {o i e : Expr} {a : Rho → Res (Nat × List Nat)} {b x : Rho → Res BV} {p2 pos : Pos} (ho : SP X W o a) (hi : SE X W i b) (he : SE X W e x)
    (hpg : PG X (.Subscript o i p2) (gSub (wE X o) (wE X i) rSetL)) (hs : swapsWithSole [.Subscript o i p2] e pos.line X.env = pure false := by rfl) (hw : swappedStores [.Subscript o i p2] e X.env = pure none := by rfl)
    (h1 : (assignEach [.Subscript o i p2] X.env).map (·.2) = [assign (.Subscript o i p2) X.env] := by rfl) : SSt X W (.Assign [.Subscript o i p2] e pos) (sSet a b x) := by
  intro S De R hc g
  refine wS_of (ps_asg pe_w hpg hs hw h1) ?_
  show wE X e S.σ S.H fun y H1 => wE X o S.σ H1 fun ov H2 => wE X i S.σ H2 fun iv H3 => rSetL ov iv y H3 fun H4 => De.nx S.σ H4
  unfold sSet at g
  refine he S _ R ?_
  cases q1 : x S.ρ with
  | er => rw [q1] at g; exact g
  | rz c => rw [q1] at g; exact fun S1 a1 e1 R1 => g S1 a1.s a1.ρ e1 R1
  | ok v =>
    rw [q1] at g
    dsimp only at g
    intro S1 tv a1 e1 R1 f1
    -- the value is settled
    have drop1 : ∀ {S2 : Sta}, Aft S S2 → S2.τ = S1.τ → S2.R X.K → (S2.put S2.Z S2.H S.τ).R X.K := fun {S2} _ e2 R2 => (R2.rl (e2.trans e1)).pop
    have z : wE X o S1.σ S1.H fun ov H2 => wE X i S.σ H2 fun iv H3 => rSetL ov iv (valOf v.d tv) H3 fun H4 => De.nx S.σ H4 := by
      refine ho S1 _ R1 ?_
      rw [a1.ρ]
      cases q2 : a S.ρ with
      | er => rw [q2] at g; exact g
      | rz c =>
        rw [q2] at g
        exact fun S2 a2 e2 R2 => g (S2.put S2.Z S2.H S.τ) ((a1.trans a2).put Step.refl).s (a1.trans a2).ρ rfl (drop1 (a1.trans a2) e2 R2)
      | ok q =>
        rw [q2] at g
        dsimp only at g
        intro S2 k d t k' d' t' a2 e2 R2 h1 h2 h3
        have z2 : wE X i S2.σ S2.H fun iv H3 => rSetL (valOf d' t') iv (valOf v.d tv) H3 fun H4 => De.nx S.σ H4 := by
          refine hi S2 _ R2 ?_
          rw [(a1.trans a2).ρ]
          cases q3 : b S.ρ with
          | er => rw [q3] at g; exact g
          | rz c =>
            rw [q3] at g
            exact fun S3 a3 e3 R3 => g (S3.put S3.Z S3.H S.τ) (((a1.trans a2).trans a3).put Step.refl).s ((a1.trans a2).trans a3).ρ rfl (drop1 ((a1.trans a2).trans a3) (e3.trans e2) R3)
          | ok w =>
            rw [q3] at g
            dsimp only at g
            cases q4 : setV S.ρ q w.d v with
            | er => rw [q4] at g; exact g.elim
            | rz c => rw [q4] at g; exact g.elim
            | ok ρ' =>
              rw [q4] at g
              dsimp only at g
              obtain ⟨v', k1, ds, ii, n, k2, s1, s2, s3, s4, s5, rfl⟩ := setV_ok q4
              intro S3 tw a3 e3 R3 f3
              have aA := (a1.trans a2).trans a3
              -- the index is no list: it goes
              rw [s3] at e3 ⊢
              have R4 : Rl X.K S3.Z0 S3.H0 S3.Z S3.H S3.σ S3.ρ S3.ts (⟨v.b, v.k, v.d, tv⟩ :: S.τ) := by
                have := (R3.rl e3).pop
                rw [e2, e1] at this
                exact this
              obtain ⟨S5, a5, h5, R5, e5, f5, sd⟩ := settle_go (S := S) (S1 := S3.put S3.Z S3.H (⟨v.b, v.k, v.d, tv⟩ :: S.τ)) s1 R4 rfl (fun hb x m => f1 hb x m) (aA.put Step.refl)
              have R5' := R5.rl e5
              have R6 : Rl X.K S5.Z0 S5.H0 S5.Z S5.H S5.σ S5.ρ S5.ts (⟨false, v'.k, v'.d, tv⟩ :: S.τ) := by
                cases qb : v'.b with
                | false => rw [qb] at R5'; exact R5'
                | true =>
                  have k0 := (setdF sd).1 qb
                  have ov := (R5'.tm _ List.mem_cons_self).1
                  exact R5'.pop.push0 ov (by show own v'.k v'.d tv = []; rw [k0]; exact own_zero _ _)
              have ev := settle_ok s1
              rw [← ev]
              obtain ⟨k0, d0, e4, e6⟩ := atP_ok s2
              rw [a1.ρ] at h1
              rw [h1] at e4; cases e4
              have e7 := sub_subD h3
              rw [e6] at e7; cases e7
              obtain ⟨t1, t2, t3, t4⟩ := takeLv_ok s5 (setdF sd).2 (setdF sd).1
              have ov := (R6.tm _ List.mem_cons_self).1
              replace ov : Ob X.K S5.Z S5.H v'.k v'.d tv := ov
              have ets : S5.ts[q.1]? = some t := by rw [a5.ts, ← (a1.trans a2).ts]; exact h2
              have eρ : S5.ρ[q.1]? = some (.va k d) := by rw [a5.ρ]; exact h1
              obtain ⟨pv, po⟩ := put_lv t3 ov
              have o2 : Ob X.K S5.Z S5.H k' (.list ds) t' := by
                obtain ⟨u1, u2, u3, _⟩ := R6.sl _ _ eρ
                rw [ets] at u2; cases u2
                obtain ⟨u4, u5, u6, _⟩ := sub_ob u3 (sub_subD h3)
                rw [h3] at u5; cases u5
                exact u6
              simp only [Ob] at o2
              have ll := o2.2.len
              have hn : n < ds.length := (ixN_seq s4).2.1
              obtain ⟨dn, hdn⟩ : ∃ dn, ds[n]? = some dn := ⟨ds[n], by simp [hn]⟩
              obtain ⟨tn, htn, _⟩ := o2.2.get hdn
              have hole := obs_hole n o2.2
              have lv : pd k2 = pd k' ∨ flats (ds.set n .none) = true := t4.elim (fun z => .inl (by rw [z])) fun z => .inr z.2
              obtain ⟨hl1, hl2⟩ := Obs.lv lv hole
              have shape : (owns (pd k2) (ds.set n v'.d) (t'.kids.set n tv)).Perm (own v'.k v'.d tv ++ owns (pd k') (ds.set n .none) t'.kids) := by
                obtain ⟨rest, p1, p2⟩ := owns_split (ds := ds.set n .none) (ts := t'.kids) (i := n) (d := .none) (t := tn) (k := pd k2) (by rw [List.getElem?_set_self hn]) htn
                have p2 := p2 v'.d tv
                rw [List.set_set] at p2
                have p1' : (owns (pd k2) (ds.set n .none) t'.kids).Perm rest := by simpa [Ev.own] using p1
                refine p2.trans ?_
                rw [po]
                refine List.Perm.append_left _ ?_
                rw [← hl2]
                exact p1'.symm
              have M := mut_list (q := q) (ds2 := ds.set n v'.d) (kids2 := t'.kids.set n tv) (k2 := k2) R6 hc eρ ets h3 t1 t2 (t4.elim .inl fun z => .inr (isRoot_of z.1)) (fun H' hh m1 m2 => ?_) (fun nd => ?_) fun a m => ?_
              · have lenv : (valsOf ds t'.kids).length = ds.length := valsOf_length ll
                have h5' : S5.H = S3.H := h5
                refine ⟨t'.at, valsOf ds t'.kids, ii, n, rfl, rfl, by rw [← h5']; exact M.1, by rw [lenv]; exact s4, ?_⟩
                have R7 := M.2
                rw [vals_setn ll hn] at R7
                rw [h5'] at R7
                have g3 := g ⟨S5.Z0, S5.H0, S5.Z, upd S3.H t'.at (.lst ((valsOf ds t'.kids).set n (valOf v'.d tv))), S5.σ, setSl S5.ρ q.1 (.va (if q.2 = [] then k2 else k) (setD d q.2 (.list (ds.set n v'.d)))), S5.ts.set q.1 (setT t q.2 (.n t'.at (t'.kids.set n tv))), S.τ⟩ ⟨a5.z0, a5.h0, a5.st.zz⟩ (by show setSl S5.ρ q.1 _ = _; rw [a5.ρ, chg_va h1]) rfl R7
                rw [← a5.σ]
                exact g3
              · refine obs_fill n ?_ ?_
                · refine Obs.ext (Same.refl _) _ _ t'.kids hl1 (fun a m => (Obs.own _ _ t'.kids hl1 a m).1) fun a m => hh a fun z => m1 (z ▸ owns_hole a (by rw [← hl2]; exact m))
                · exact Ob.ext (Same.refl _) _ _ _ pv (fun a m => (Ob.own _ _ _ pv a m).1) fun a m => hh a fun z => m2 (by rw [← z, ← po]; exact m)
              · refine shape.nodup_iff.mpr ?_
                obtain ⟨n1, n2, n3⟩ := List.nodup_append.mp nd
                refine List.nodup_append.mpr ⟨n2, ?_, fun x hx y hy z => n3 y (owns_hole y hy) x hx z.symm⟩
                obtain ⟨rest, p1, p2⟩ := owns_split (ds := ds) (ts := t'.kids) (i := n) (d := dn) (t := tn) (k := pd k') hdn htn
                have p2 := p2 .none tn
                have es : t'.kids.set n tn = t'.kids := by
                  refine List.ext_getElem? fun j => ?_
                  by_cases hj : n = j
                  · subst hj
                    rw [List.getElem?_set_self (by rw [← ll]; exact hn), htn]
                  · rw [List.getElem?_set_ne hj]
                rw [es] at p2
                have p2' : (owns (pd k') (ds.set n .none) t'.kids).Perm rest := by simpa [Ev.own] using p2
                exact p2'.nodup_iff.mpr (List.nodup_append.mp (p1.nodup_iff.mp n1)).2.1
              · rcases List.mem_append.mp (shape.mem_iff.mp m) with m | m
                · exact .inr m
                · exact .inl (owns_hole a m)
        rw [(a1.trans a2).σ] at z2
        exact z2
    rw [a1.σ] at z
    exact z
end
end Ev

set_option Elab.async false
set_option linter.all false
set_option maxRecDepth 100000
namespace Ev
open PySem PySem.Spec PyProof.Rows L2

theorem units65 {k : Nat} {A : Around} (r : Room k A) : A.units + 65 < cLine := by have := r.un; omega
/-! ### repr -/
def dRepr (d : D) : Res D := if SeqAt.shaped d = true ∧ d.showable = true ∧ d.shown.length ≤ sizeLine then .ok (.str d.shown) else .er
section
variable {X : Cx} {W : WX} {S : Sta} {De : Ends}
theorem call_repr (hg : X.A.guards = some []) (hu : X.A.units + 65 < cLine) : CallR X (.builtin "repr") (fun xs H Q => ∃ (v : V) (d : D), xs = [v] ∧ Dp X.K H v d ∧ SeqAt.shaped d = true ∧ d.showable = true ∧ d.shown.length ≤ sizeLine ∧ Q (.str d.shown) H) := by
  intro pins s σ H xs us Q I r h
  obtain ⟨v, d, rfl, hd, sh, sw, hz, q⟩ := h
  obtain ⟨u, rfl, ru⟩ := r.one
  obtain ⟨as, rd⟩ := Dp.reads I d v u hd ru
  have hcan := SeqAt.canLay_of_shaped sh
  have hdep := SeqAt.depth_of_shaped sh
  have hnd := PyData.hasDict_of_canLay d hcan
  cases rd with
  | none => exact PySem.P.repr_of_none ⟨.str _, H, I.tok _, ⟨_, rfl⟩, q⟩
  | bool b => exact PySem.P.repr_of_bool ⟨.str _, H, I.tok _, ⟨_, rfl⟩, q⟩
  | int i t => exact PySem.P.repr_of_int (by simpa [PyData.showable] using sw) ⟨.str _, H, I.tok _, ⟨_, rfl⟩, q⟩
  | str x t => exact PySem.P.repr_of_str ⟨.str _, H, I.tok _, ⟨_, rfl⟩, q⟩ hz
  | list k1 k2 k3 k4 => exact PySem.repr_of_reads' (.list k1 k2 k3 k4) sw (PyData.noDict_hsm hnd) hg (by omega) (fun _ _ e => e) (fun h' u tk hk => ⟨.str _, H, I.kept (t' := tk) hk, ⟨_, rfl⟩, q⟩) hz
  | tuple k1 k2 k3 k4 => exact PySem.repr_of_reads' (.tuple k1 k2 k3 k4) sw (PyData.noDict_hsm hnd) hg (by omega) (fun _ _ e => e) (fun h' u tk hk => ⟨.str _, H, I.kept (t' := tk) hk, ⟨_, rfl⟩, q⟩) hz
  | dict => simp [PyData.canLay0] at hcan
theorem bl_repr (hg : X.A.guards = some []) (hu : X.A.units + 65 < cLine) : BlS X W (.builtin "repr") (b1 dRepr) := by
  refine BlS.one (fun d r q => ?_) (fun d c q => ?_) fun d r t Z H k Q q zh o hq => ?_
  · unfold dRepr at q
    split at q <;> cases q
    rfl
  · unfold dRepr at q
    split at q <;> cases q
  · unfold dRepr at q
    split at q
    · rename_i h
      cases q
      exact wC_of (call_repr hg hu) ⟨_, d, rfl, ob_dp zh o h.1, h.1, h.2.1, h.2.2, hq⟩
    · cases q
end
end Ev

set_option Elab.async false
set_option linter.all false
set_option maxRecDepth 100000
namespace Ev
open PySem PySem.Spec PyProof.Rows L2

/-! ### while -/
def whL (c : Rho → Res Bool) (b : Rho → SR) : Nat → Rho → SR
  | 0, _ => .er
  | n + 1, ρ => match c ρ with
    | .ok true => match b ρ with
      | .nx ρ2 => whL c b n ρ2
      | .ct ρ2 => whL c b n ρ2
      | r => r
    | .ok false => .nx ρ
    | .rz k => .rz k ρ
    | .er => .er
/-- at most n turns -/
def sWh (n : Nat) (c : Rho → Res Bool) (b : Rho → SR) : Rho → SR := fun ρ => (whL c b n ρ).unbk
theorem whL_f {c : Rho → Res Bool} {b : Rho → SR} {n : Nat} {ρ : Rho} (h : c ρ = .ok false) : whL c b (n + 1) ρ = .nx ρ := by rw [whL, h]
theorem whL_nx {c : Rho → Res Bool} {b : Rho → SR} {n : Nat} {ρ ρ2 : Rho} (h : c ρ = .ok true) (h2 : b ρ = .nx ρ2) : whL c b (n + 1) ρ = whL c b n ρ2 := by rw [whL, h]; dsimp only; rw [h2]
theorem whL_ct {c : Rho → Res Bool} {b : Rho → SR} {n : Nat} {ρ ρ2 : Rho} (h : c ρ = .ok true) (h2 : b ρ = .ct ρ2) : whL c b (n + 1) ρ = whL c b n ρ2 := by rw [whL, h]; dsimp only; rw [h2]
theorem whL_bk {c : Rho → Res Bool} {b : Rho → SR} {n : Nat} {ρ ρ2 : Rho} (h : c ρ = .ok true) (h2 : b ρ = .bk ρ2) : whL c b (n + 1) ρ = .bk ρ2 := by rw [whL, h]; dsimp only; rw [h2]
theorem whL_rt {c : Rho → Res Bool} {b : Rho → SR} {n : Nat} {ρ : Rho} {k : Lv} {d : D} (h : c ρ = .ok true) (h2 : b ρ = .rt k d) : whL c b (n + 1) ρ = .rt k d := by rw [whL, h]; dsimp only; rw [h2]
section
variable {X : Cx} {W : WX} {S : Sta} {De : Ends}
theorem st_while {c : Expr} {body : List Stmt} {pos : Pos} {xc : Rho → Res Bool} {sb : Rho → SR} (n : Nat) (hp : PassesOwn (model X.prog X.w) X.A X.env X.xe) (hc : STs X W c xc) (hb : SSs X W body sb) : SSt X W (.While c body [] pos) (sWh n xc sb) := by
  intro S D R hcl g0
  refine wS_of (ps_while hp pt_w pss_w) ?_
  refine ⟨fun m σ H => ForP X W S D S.τ (fun ρ => (whL xc sb m ρ).unbk) σ H, ⟨n, S, AftS.refl, rfl, rfl, rfl, R, g0⟩, ?_⟩
  rintro m σ H ⟨S2, a2, rfl, rfl, e2, R2, g2⟩
  cases m with
  | zero => exact g2.elim
  | succ m =>
    refine hc S2 _ R2 ?_
    dsimp only at g2
    unfold whL at g2
    cases qc : xc S2.ρ with
    | er => rw [qc] at g2; exact g2.elim
    | rz k =>
      rw [qc] at g2
      replace g2 : GoodS X W S D (.rz k S2.ρ) := g2
      intro S3 a3 e3 R3
      exact g2 S3 (a2.trans a3.s) a3.ρ (e3.trans e2) R3
    | ok b =>
      rw [qc] at g2
      intro S3 a3 e3 R3
      cases b with
      | false =>
        rw [if_neg (by simp)]
        replace g2 : GoodS X W S D (.nx S2.ρ) := g2
        have z := g2 S3 (a2.trans a3.s) a3.ρ (e3.trans e2) R3
        rw [a3.σ] at z
        exact z
      | true =>
        rw [if_pos rfl]
        refine ⟨fun σ' H' => ForP X W S D S.τ (fun ρ => (whL xc sb m ρ).unbk) σ' H', fun σ' H' h => ⟨m, Nat.lt_succ_self m, h⟩, ?_⟩
        have a4 : AftS S S3 := a2.trans a3.s
        have e4 : S3.τ = S.τ := e3.trans e2
        have z : wSs X body { D with nx := fun σ' H' => ForP X W S D S.τ (fun ρ => (whL xc sb m ρ).unbk) σ' H', ct := fun σ' H' => ForP X W S D S.τ (fun ρ => (whL xc sb m ρ).unbk) σ' H', bk := D.nx } S3.σ S3.H := by
          refine hb S3 _ R3 (by rw [e4]; exact hcl) ?_
          rw [a3.ρ]
          dsimp only at g2
          cases qs : sb S2.ρ with
          | nx ρ2 =>
            rw [qs] at g2
            exact fun S5 a5 e5 t5 R5 => ⟨S5, a4.trans a5, rfl, rfl, t5.trans e4, R5, by rw [e5]; exact g2⟩
          | ct ρ2 =>
            rw [qs] at g2
            exact fun S5 a5 e5 t5 R5 => ⟨S5, a4.trans a5, rfl, rfl, t5.trans e4, R5, by rw [e5]; exact g2⟩
          | bk ρ2 =>
            rw [qs] at g2
            replace g2 : GoodS X W S D (.nx ρ2) := g2
            exact fun S5 a5 e5 t5 R5 => g2 S5 (a4.trans a5) e5 (t5.trans e4) R5
          | rt k d =>
            rw [qs] at g2
            replace g2 : GoodS X W S D (.rt k d) := g2
            exact GoodS.later g2 a4 e4
          | rz k ρ2 =>
            rw [qs] at g2
            replace g2 : GoodS X W S D (.rz k ρ2) := g2
            exact fun S5 a5 e5 t5 R5 => g2 S5 (a4.trans a5) e5 (t5.trans e4) R5
          | er => rw [qs] at g2; exact g2.elim
        rw [a3.σ] at z
        exact z
end
end Ev

set_option Elab.async false
set_option linter.all false
set_option maxRecDepth 100000
namespace Ev
open PySem PySem.Spec PyProof.Rows L2

/-! ### list(x), sorted(ints), in -/
def mkListOf : List BV → Res BV
  | [v] => match v.d with
    | .tuple ds => if flats ds = true ∨ v.k = some 0 then mkNew ds else .er
    | _ => (shI v).bind mkNew
  | _ => .er
theorem sorted_unique : ∀ {l1 l2 : List Int}, l1.Perm l2 → l1.Pairwise (· ≤ ·) → l2.Pairwise (· ≤ ·) → l1 = l2
  | [], l2, p, _, _ => (List.nil_perm.mp p).symm ▸ rfl
  | a :: l1, [], p, _, _ => by simp at p
  | a :: l1, b :: l2, p, s1, s2 => by
    have h1 := (List.pairwise_cons.mp s1)
    have h2 := (List.pairwise_cons.mp s2)
    have e : a = b := by
      have ma : a ∈ b :: l2 := p.mem_iff.mp List.mem_cons_self
      have mb : b ∈ a :: l1 := p.mem_iff.mpr List.mem_cons_self
      rcases List.mem_cons.mp ma with e | ma
      · exact e
      · rcases List.mem_cons.mp mb with e | mb
        · exact e.symm
        · have q1 := h2.1 a ma
          have q2 := h1.1 b mb
          omega
    subst e
    rw [sorted_unique (List.Perm.cons_inv p) h1.2 h2.2]
def insI (x : Int) : List Int → List Int
  | [] => [x]
  | y :: ys => if x ≤ y then x :: y :: ys else y :: insI x ys
def sortI : List Int → List Int
  | [] => []
  | x :: xs => insI x (sortI xs)
theorem insI_perm (x : Int) : ∀ l : List Int, (insI x l).Perm (x :: l)
  | [] => List.Perm.refl _
  | y :: ys => by
    unfold insI
    split
    · exact List.Perm.refl _
    · exact ((insI_perm x ys).cons y).trans (List.Perm.swap x y ys)
theorem sortI_perm : ∀ l : List Int, (sortI l).Perm l
  | [] => List.Perm.refl _
  | x :: xs => (insI_perm x (sortI xs)).trans ((sortI_perm xs).cons x)
theorem insI_sorted (x : Int) : ∀ {l : List Int}, l.Pairwise (· ≤ ·) → (insI x l).Pairwise (· ≤ ·)
  | [], _ => by simp [insI]
  | y :: ys, h => by
    have h' := List.pairwise_cons.mp h
    unfold insI
    split
    · rename_i hx
      refine List.pairwise_cons.mpr ⟨fun z hz => ?_, h⟩
      rcases List.mem_cons.mp hz with e | hz
      · rw [e]; exact hx
      · have := h'.1 z hz
        omega
    · rename_i hx
      refine List.pairwise_cons.mpr ⟨fun z hz => ?_, insI_sorted x h'.2⟩
      rcases List.mem_cons.mp ((insI_perm x ys).mem_iff.mp hz) with e | hz
      · omega
      · exact h'.1 z hz
theorem sortI_sorted : ∀ l : List Int, (sortI l).Pairwise (· ≤ ·)
  | [] => List.Pairwise.nil
  | x :: xs => insI_sorted x (sortI_sorted xs)
def mkSorted : List BV → Res BV
  | [v] => match v.d with
    | .list ds => match intsD ds with
      | some ns => if ns.length < 64 then mkNew ((sortI ns).map .int) else .er
      | none => .er
    | _ => .er
  | _ => .er
section
variable {X : Cx} {W : WX} {S : Sta} {De : Ends}
theorem stk_one {v : BV} {t : Tr} : stk [v] [t] = [⟨v.b, v.k, v.d, t⟩] := rfl
theorem bl_list : BlS X W (.type "list") mkListOf := by
  intro S Q vs S2 tr R a2 l2 e2 R2 f2 sd g2
  match vs, tr, l2 with
  | [], [], _ => exact g2.elim
  | _ :: _ :: _, _ :: _ :: _, _ => exact g2.elim
  | [v], [t], _ =>
    have R2' := R2.rl e2
    have ov := (R2'.tm ⟨v.b, v.k, v.d, t⟩ (List.mem_append_left _ (by simp [Ev.stk]))).1
    replace ov : Ob X.K S2.Z S2.H v.k v.d t := ov
    unfold mkListOf at g2
    dsimp only at g2
    have fin : ∀ (ds : List D) (k : Lv), Obs X.K S2.Z S2.H k ds t.kids → (flats ds = true ∨ k = some 0) → (SqL X.K S2.H t.at (valsOf ds t.kids) ∨ SqT X.K S2.H t.at (valsOf ds t.kids)) → valOf v.d t = .ref t.at → GoodE X W S Q (mkNew ds) → wC X (.type "list") [valOf v.d t] S2.H Q := fun ds k o h sq hv g => by
      obtain ⟨o1, o2⟩ := newk_obs o h
      rw [hv]
      exact wC_of call_list_of ⟨t.at, _, rfl, sq, fun p hp => GoodE.newl g a2 e2 R2 f2 hp o1 o2⟩
    cases hd : v.d with
    | tuple ds =>
      rw [hd] at g2 ov
      simp only [Ob] at ov
      dsimp only at g2
      split at g2
      · rename_i hc
        have := fin ds v.k ov.2 hc (.inr (Same.sqT R2'.zh ov.1)) (by rw [hd]; rfl) g2
        rw [hd] at this
        simpa only [valsB, hd] using this
      · exact g2.elim
    | list ds =>
      rw [hd] at g2 ov
      simp only [Ob] at ov
      dsimp only at g2
      cases q : shI v with
      | er => rw [q] at g2; exact g2.elim
      | rz c => exact absurd q shI_rz
      | ok es =>
        rw [q, Res.bind_ok] at g2
        obtain ⟨h1, h2⟩ := shI_ok q
        rw [hd] at h1
        cases h1
        have := fin ds (pd v.k) ov.2 h2 (.inl (ov.1.sq R2'.zh)) (by rw [hd]; rfl) g2
        rw [hd] at this
        simpa only [valsB, hd] using this
    | none => rw [hd] at g2; simp [shI, hd] at g2; exact g2.elim
    | bool b => rw [hd] at g2; simp [shI, hd] at g2; exact g2.elim
    | int b => rw [hd] at g2; simp [shI, hd] at g2; exact g2.elim
    | str b => rw [hd] at g2; simp [shI, hd] at g2; exact g2.elim
    | dict b => rw [hd] at g2; simp [shI, hd] at g2; exact g2.elim
theorem flats_ints : ∀ ns : List Int, flats (ns.map PyData.int) = true
  | [] => rfl
  | n :: ns => by simp only [List.map_cons, flats, flats_ints ns]; rfl
theorem bl_sorted : BlS X W (.builtin "sorted") mkSorted := by
  intro S Q vs S2 tr R a2 l2 e2 R2 f2 sd g2
  match vs, tr, l2 with
  | [], [], _ => exact g2.elim
  | _ :: _ :: _, _ :: _ :: _, _ => exact g2.elim
  | [v], [t], _ =>
    have R2' := R2.rl e2
    have ov := (R2'.tm ⟨v.b, v.k, v.d, t⟩ (List.mem_append_left _ (by simp [Ev.stk]))).1
    replace ov : Ob X.K S2.Z S2.H v.k v.d t := ov
    unfold mkSorted at g2
    dsimp only at g2
    cases hd : v.d <;> rw [hd] at g2 <;> first | exact g2.elim | skip
    rename_i ds
    dsimp only at g2
    cases q : intsD ds with
    | none => rw [q] at g2; exact g2.elim
    | some ns =>
      rw [q] at g2
      dsimp only at g2
      split at g2
      · rename_i hn
        rw [hd] at ov
        simp only [Ob] at ov
        have ev : valsOf ds t.kids = ns.map V.int := ints_vals ov.2.len q
        show wC X (.builtin "sorted") [valOf v.d t] S2.H Q
        rw [hd]
        refine wC_of cr_sorted ⟨t.at, ns, rfl, by rw [← ev]; exact ov.1.sq R2'.zh, hn, fun ns' p hp hs hH => ?_⟩
        have e : ns' = sortI ns := sorted_unique (hp.trans (sortI_perm ns).symm) hs (sortI_sorted ns)
        subst e
        rw [← vals_ints' (sortI ns)]
        have o := obs_ints (K := X.K) (Z := S2.Z) (H := S2.H) (k := newk ((sortI ns).map PyData.int)) (sortI ns)
        exact GoodE.newl g2 a2 e2 R2 f2 hH o (flats_owns _ _ _ (flats_ints _))
      · exact g2.elim
/-- in, by equality of data -/
def dInD (neg : Bool) (d e : D) : Res D := match e with
  | .list ds => if SeqAt.shaped d = true ∧ SeqAt.shaped (.list ds) = true then .ok (.bool ((ds.any fun z => PyData.eqv z d) != neg)) else .er
  | _ => .er
theorem ops_inD (neg : Bool) (hu : X.A.units + 65 < cLine) : OpS X W (compareOp (if neg then .NotIn else .In)) (pl (dInD neg)) := by
  refine OpS.scal (fun d e r q => ?_) (fun d e c q => ?_) fun d e r t t' Z H k k' Q q zh o1 o2 hq => ?_
  · cases e <;> first | (cases q; done) | skip
    simp only [dInD] at q
    split at q <;> cases q
    rfl
  · cases e <;> first | (cases q; done) | skip
    simp only [dInD] at q
    split at q <;> cases q
  · cases e <;> first | (cases q; done) | skip
    rename_i ds
    simp only [dInD] at q
    split at q
    · rename_i h
      cases q
      cases neg with
      | false =>
        refine wO_of (op_inD hu) ⟨d, ds, ob_dp zh o1 h.1, ob_dp zh o2 h.2, h.1, h.2, ?_⟩
        have e : ((ds.any fun z => PyData.eqv z d) != false) = (ds.any fun z => PyData.eqv z d) := by cases (ds.any fun z => PyData.eqv z d) <;> rfl
        rw [← e]
        exact hq
      | true =>
        refine wO_of (op_notInD hu) ⟨d, ds, ob_dp zh o1 h.1, ob_dp zh o2 h.2, h.1, h.2, ?_⟩
        have e : ((ds.any fun z => PyData.eqv z d) != true) = !(ds.any fun z => PyData.eqv z d) := by cases (ds.any fun z => PyData.eqv z d) <;> rfl
        rw [← e]
        exact hq
    · cases q
end
end Ev

set_option Elab.async false
set_option linter.all false
set_option maxRecDepth 100000
namespace Ev
open PySem PySem.Spec PyProof.Rows L2

/-! ### list * n -/
def dMulV (u v : BV) : Res BV := match u.d, v.d with
  | .list _, .int n => (shI u).bind fun ds => if u.k ≠ some 0 ∧ -(2 ^ 63) ≤ n ∧ n < 2 ^ 63 ∧ ds.length * n.toNat ≤ sizeLine then mkNew (List.replicate n.toNat ds).flatten else .er
  | _, _ => pl dMul u v
theorem obs_rep {K : PySem.W.Frag} {Z H : Hp} {k : Lv} {ds : List D} {ts : List Tr} (o : Obs K Z H k ds ts) : ∀ n : Nat, ∃ tr, Obs K Z H k (List.replicate n ds).flatten tr ∧ valsOf (List.replicate n ds).flatten tr = (List.replicate n (valsOf ds ts)).flatten
  | 0 => ⟨[], by simp [Obs], by simp [valsOf]⟩
  | n + 1 => by
    obtain ⟨tr, h1, h2⟩ := obs_rep o n
    obtain ⟨h3, h4⟩ := obs_cat o h1
    refine ⟨ts ++ tr, ?_, ?_⟩
    · rw [List.replicate_succ, List.flatten_cons]; exact h3
    · rw [List.replicate_succ, List.flatten_cons, List.replicate_succ, List.flatten_cons, h4, h2]
section
variable {X : Cx} {W : WX} {S : Sta} {De : Ends}
theorem ops_mulV : OpS X W (binaryOp .Mult) dMulV := by
  intro S Q u v S2 t t' R a2 e2 R2 f1 f2 g
  by_cases hc : ∃ ds n, u.d = .list ds ∧ v.d = .int n
  · obtain ⟨ds0, n, hu, hv⟩ := hc
    unfold dMulV at g
    rw [hu, hv] at g
    dsimp only at g
    cases q1 : shI u with
    | er => rw [q1] at g; exact g.elim
    | rz c => exact absurd q1 shI_rz
    | ok ds =>
      rw [q1, Res.bind_ok] at g
      obtain ⟨h1, h2⟩ := shI_ok q1
      split at g
      · rename_i hz
        have R2' := R2.rl e2
        have ou := (R2'.tm _ (List.mem_cons_of_mem _ List.mem_cons_self)).1
        replace ou : Ob X.K S2.Z S2.H u.k u.d t := ou
        rw [h1] at ou
        simp only [Ob] at ou
        have hat := ou.1
        unfold LstAt at hat
        rw [if_neg hz.1] at hat
        obtain ⟨tr, o1, o2⟩ := obs_rep (flats_or_zero ou.2 h2) n.toNat
        obtain ⟨o3, o4⟩ := newk_obs o1 (.inr rfl)
        rw [h1, hv]
        refine wO_of op_rep ⟨t.at, n, _, rfl, valOf_int n t', hat.2, hz.2.1, hz.2.2.1, by rw [valsOf_length ou.2.len]; exact hz.2.2.2, fun p hp => ?_⟩
        rw [← o2]
        exact GoodE.newl (cs := [⟨v.b, v.k, v.d, t'⟩, ⟨u.b, u.k, u.d, t⟩]) g a2 e2 R2 (fun a m => by
          simp only [ownT, List.append_nil] at m
          rcases List.mem_append.mp m with m | m
          · cases hb : v.b with
            | true => rw [hb] at m; simp at m
            | false => rw [hb] at m; exact f2 hb a (by simpa using m)
          · cases hb : u.b with
            | true => rw [hb] at m; simp at m
            | false => rw [hb] at m; exact f1 hb a (by simpa using m)) hp o3 o4
      · exact g.elim
  · have e : dMulV u v = pl dMul u v := by
      unfold dMulV
      split
      · rename_i ds n h1 h2
        exact absurd ⟨ds, n, h1, h2⟩ hc
      · rfl
    rw [e] at g
    exact ops_mul S Q u v S2 t t' R a2 e2 R2 f1 f2 g
end
end Ev

set_option Elab.async false
set_option linter.all false
set_option maxRecDepth 100000
namespace Ev
open PySem PySem.Spec PyProof.Rows L2

/-! ### x += e, numbers -/
def sAug (i : Nat) (x : Rho → Res BV) : Rho → SR := fun ρ => match ρ[i]? with
  | some (.va _ (.int a)) => eS x (fun ρ v => match v.d with
    | .int b => .nx (setSl ρ i (.va none (.int (a + b))))
    | _ => .er) ρ
  | _ => .er
section
variable {X : Cx} {W : WX} {S : Sta} {De : Ends}
theorem st_aug {i : Nat} {x : Str} {e : Expr} {xe : Rho → Res BV} {pos pos' : Pos} (hN : X.N.Nodup) (hi : X.N[i]? = some x) (hx : L2.Loc X.env.scope x) (he : SE X W e xe) (hf : X.fn x = true ∨ X.env.scope.names.lookup x = some .local) : SSt X W (.AugAssign (.Name x pos') .Add e pos) (sAug i xe) := by
  intro S De R hc g pins s I
  refine wS_of (ps_aug hN hi hx pe_w ip_add hf) ?_ pins s I
  unfold sAug at g
  cases q : S.ρ[i]? with
  | none => rw [q] at g; exact g.elim
  | some sl =>
    rw [q] at g
    cases sl <;> first | exact g.elim | skip
    rename_i k d
    cases d <;> first | exact g.elim | skip
    rename_i a
    dsimp only at g
    have R' : Rl X.K S.Z0 S.H0 S.Z S.H S.σ S.ρ S.ts S.τ := R
    obtain ⟨t0', _, _, e2⟩ := R'.sl i _ q
    refine ⟨_, e2, oneS he R g fun v S1 t a1 e1 R1 f1 g1 => ?_⟩
    cases hd : v.d <;> rw [hd] at g1 <;> first | exact g1.elim | skip
    rename_i b
    dsimp only at g1
    have R2 := (R1.rl e1).pop
    have R3 : Rl X.K S1.Z0 S1.H0 S1.Z S1.H S1.σ S1.ρ S1.ts (⟨false, none, .int (a + b), t0⟩ :: S.τ) := R2.push0 (scal_ob rfl none t0) (scal_own rfl none t0)
    have R4 := Rl.store R3 hc (i := i) (by rw [a1.σ]; exact lt_of_N I hi)
    refine ⟨a, b, valOf_int a t0', valOf_int b t, ?_⟩
    have g3 := g1 ⟨S1.Z0, S1.H0, S1.Z, S1.H, S1.σ.set i (some (valOf (.int (a + b)) t0)), setSl S1.ρ i (.va none (.int (a + b))), S1.ts.set i t0, S.τ⟩ ⟨a1.z0, a1.h0, a1.st.zz⟩ (by show setSl S1.ρ i _ = _; rw [a1.ρ]) rfl R4
    rw [← a1.σ]
    exact g3
end
end Ev

set_option Elab.async false
set_option linter.all false
set_option maxRecDepth 100000
namespace Ev
open PySem PySem.Spec PyProof.Rows L2

/-! ### ghosts: forgotten slots, shared slots -/
def sF (is : List Nat) (s : Rho → SR) : Rho → SR := fun ρ => s (fgt is ρ)
def shN1 (i : Nat) (ρ : Rho) : Rho := match ρ[i]? with
  | some (.va _ d) => if flat d = true then ρ else ρ.set i (.va (some 0) d)
  | _ => ρ
def shN (is : List Nat) (ρ : Rho) : Rho := is.foldl (fun ρ i => shN1 i ρ) ρ
def sH (is : List Nat) (s : Rho → SR) : Rho → SR := fun ρ => s (shN is ρ)
section
variable {X : Cx} {W : WX} {S : Sta} {De : Ends}
theorem shN_go : ∀ (is : List Nat) (S : Sta), S.R X.K → Clean S.τ → ∃ Z', Same S.Z Z' ∧ ({ S with Z := Z', ρ := shN is S.ρ } : Sta).R X.K
  | [], S, R, _ => ⟨S.Z, Same.refl _, R⟩
  | i :: is, S, R, hc => by
    have step : ∃ Z', Same S.Z Z' ∧ ({ S with Z := Z', ρ := shN1 i S.ρ } : Sta).R X.K := by
      unfold shN1
      cases e : S.ρ[i]? with
      | none => exact ⟨S.Z, Same.refl _, R⟩
      | some s =>
        cases s with
        | em => exact ⟨S.Z, Same.refl _, R⟩
        | ex a0 => exact ⟨S.Z, Same.refl _, R⟩
        | al j p => exact ⟨S.Z, Same.refl _, R⟩
        | va k d =>
          dsimp only
          by_cases hf : flat d = true
          · rw [if_pos hf]; exact ⟨S.Z, Same.refl _, R⟩
          · rw [if_neg hf]
            obtain ⟨t, e', o, _⟩ := Rl.sl R i _ e
            have R1 := Rl.share R hc e e'
            exact ⟨_, frz_same fun a m => (Ob.own d k t o a m).1, R1⟩
    obtain ⟨Z1, zz1, R1⟩ := step
    obtain ⟨Z', zz, R2⟩ := shN_go is { S with Z := Z1, ρ := shN1 i S.ρ } R1 hc
    exact ⟨Z', zz1.trans zz, R2⟩
theorem ss_sF {st : List Stmt} {s : Rho → SR} (is : List Nat) (h : SSs X W st s) : SSs X W st (sF is s) := ss_fgt (s := s) is h
theorem ss_sH {st : List Stmt} {s : Rho → SR} (is : List Nat) (h : SSs X W st s) : SSs X W st (sH is s) := ss_ghost (s := s) (g := shN is) h (shN_go is)
end
end Ev

set_option Elab.async false
set_option linter.all false
set_option maxRecDepth 100000
namespace Ev
open PySem PySem.Spec PyProof.Rows L2

/-! ### a slot's datum is handed on: the slot is forgotten -/
section
variable {K : PySem.W.Frag} {Z0 H0 Z H : Hp} {σ : L2.St} {ρ : Rho} {ts : List Tr} {τ : List Tm}
theorem Rl.take {i : Nat} {k : Lv} {d : D} {t : Tr} (R : Rl K Z0 H0 Z H σ ρ ts τ) (hc : Clean τ) (e : ρ[i]? = some (.va k d)) (e' : ts[i]? = some t) : Rl K Z0 H0 Z H σ (setSl ρ i .em) ts (⟨false, k, d, t⟩ :: τ) := by
  have hi : i < ρ.length := (List.getElem?_eq_some_iff.mp e).1
  have l2 : i < ts.length := (List.getElem?_eq_some_iff.mp e').1
  obtain ⟨t1, q1, o, q2⟩ := R.sl _ _ e
  rw [e'] at q1; cases q1
  have e2 : (killA i ρ)[i]? = some (.va k d) := killA_va e
  obtain ⟨s0, t1, rest, f1, f2, p1, p2⟩ := ownR_split (ρ := killA i ρ) (ts := ts) (i := i) (by rw [killA_length]; exact hi) l2
  rw [e2] at f1; cases f1
  rw [e'] at f2; cases f2
  rw [ownR_kill] at p1
  have p2 := p2 .em t
  have et : ts.set i t = ts := by
    refine List.ext_getElem? fun j => ?_
    by_cases hj : j = i
    · subst hj; rw [List.getElem?_set_self l2, e']
    · rw [List.getElem?_set_ne (Ne.symm hj)]
  rw [et] at p2
  have p2' : (ownR (setSl ρ i .em) ts).Perm rest := p2
  obtain ⟨n1, n2, n3⟩ := List.nodup_append.mp R.nd
  have n4 := p1.nodup_iff.mp n1
  obtain ⟨m1, m2, m3⟩ := List.nodup_append.mp n4
  have inR : ∀ a ∈ own k d t, a ∈ ownR ρ ts := ownR_get e e'
  refine Rl.push (Rl.forget R hc) (c := ⟨false, k, d, t⟩) o (fun h => by cases h) fun _ => ⟨m1, fun a ha hm => ?_, fun a ha => R.o0 a (List.mem_append_left _ (inR a ha))⟩
  rcases List.mem_append.mp hm with hm | hm
  · exact m3 a ha a (p2'.mem_iff.mp hm) rfl
  · exact n3 a (inR a ha) a hm rfl
end
def sMov (i j : Nat) : Rho → SR := fun ρ => match ρ[j]? with
  | some (.va k d) => .nx (setSl (setSl ρ j .em) i (.va (if flat d = true then none else k) d))
  | _ => .er
def sAppM (a : Rho → Res (Nat × List Nat)) (j : Nat) : Rho → SR := fun ρ => match a ρ with
  | .ok q => if isL ρ q = true ∧ q.1 ≠ j then match ρ[j]? with
    | some (.va k d) => if flat d = true ∨ k = none ∨ k = some 0 then match appV (setSl ρ j .em) q ⟨false, k, d⟩ with
      | .ok ρ' => .nx ρ'
      | _ => .er else .er
    | _ => .er else .er
  | .rz c => .rz c ρ
  | .er => .er
section
variable {X : Cx} {W : WX} {S : Sta} {De : Ends}
theorem take_go {j : Nat} {k : Lv} {d : D} (R : S.R X.K) (hc : Clean S.τ) (e : S.ρ[j]? = some (.va k d)) : ∃ t, S.ts[j]? = some t ∧ S.σ[j]? = some (some (valOf d t)) ∧ Rl X.K S.Z0 S.H0 S.Z S.H S.σ (setSl S.ρ j .em) S.ts (⟨false, if flat d = true then none else k, d, t⟩ :: S.τ) := by
  have R' : Rl X.K S.Z0 S.H0 S.Z S.H S.σ S.ρ S.ts S.τ := R
  obtain ⟨t, e1, o, e2⟩ := R'.sl _ _ e
  refine ⟨t, e1, e2, ?_⟩
  have R1 := Rl.take R' hc e e1
  by_cases hf : flat d = true
  · rw [if_pos hf]
    have o1 := (R1.tm _ List.mem_cons_self).1
    exact R1.pop.push0 (flat_ob d k none t hf o1) (flat_own d none t hf)
  · rw [if_neg hf]; exact R1
theorem st_mov {i j : Nat} {x y : Str} {pos pos' ypos : Pos} (hij : i ≠ j) (hN : X.N.Nodup) (hi : X.N[i]? = some x) (hj : X.N[j]? = some y) (hx : Loc X.env.scope x) (hv : Vis X.env.scope y) (hd : (y == ("__debug__" : Str)) = false) (hcd : (y == ("__classdict__" : Str)) = false)
    (hs : swapsWith (.Name y ypos) (some (.Name x pos')) pos.line X.env = pure false)
    (hf : X.fn x = true ∨ X.env.scope.names.lookup x = some .local) : SSt X W (.Assign [.Name x pos'] (.Name y ypos) pos) (sMov i j) := by
  intro S D R hc g pins s I
  refine wS_of (ps_set hN hi hx pe_w hs hf) ?_ pins s I
  unfold sMov at g
  cases q : S.ρ[j]? with
  | none => rw [q] at g; exact g.elim
  | some sl =>
    rw [q] at g
    cases sl with
    | em => exact g.elim
    | ex a => exact g.elim
    | al a p => exact g.elim
    | va k d =>
      obtain ⟨t, e1, e2, R1⟩ := take_go R hc q
      refine wE_of (pe_var (i := j) hj hv hd hcd) ⟨valOf d t, e2, ?_⟩
      have R2 := Rl.store R1 hc (lt_of_N I hi)
      exact g ⟨S.Z0, S.H0, S.Z, S.H, S.σ.set i (some (valOf d t)), _, S.ts.set i t, S.τ⟩ ⟨rfl, rfl, Same.refl _⟩ rfl rfl R2
theorem atP_em {ρ : Rho} {j : Nat} {q : Nat × List Nat} (h : q.1 ≠ j) {k : Lv} {d : D} (e : ρ[q.1]? = some (.va k d)) : (setSl ρ j .em)[q.1]? = some (.va k d) := by
  unfold setSl
  rw [List.getElem?_set_ne (Ne.symm h)]
  exact killA_va e
theorem st_appM {j : Nat} {y : Str} {o : Expr} {a : Rho → Res (Nat × List Nat)} {apos cpos pos ypos : Pos} (ho : SP X W o a) (hj : X.N[j]? = some y) (hv : Vis X.env.scope y) (hd : (y == ("__debug__" : Str)) = false) (hcd : (y == ("__classdict__" : Str)) = false)
    (hbase : attributeBase o "append" X.env (eval o X.env) = eval o X.env := by rfl)
    (hfew : ((backTo cpos (starEach [Expr.Name y ypos] X.env)).all (fun x => !x.1) && (backToKw cpos (keywordEach [] X.env)).all (fun x => x.1.isSome)
      && decide (([Expr.Name y ypos] : List Expr).length + ([] : List Keyword).length + (if ([] : List Keyword).isEmpty then 0 else 1) < 30)) = true := by rfl)
    (hline : (apos.endLine == cpos.line) = true := by rfl) (hs : starEach [Expr.Name y ypos] X.env = (false, eval (Expr.Name y ypos) X.env) :: starEach [] X.env := by rfl) (hplain : (backTo cpos (starEach [] X.env)).any (·.1) = false := by rfl)
    (hsw : swapsWith (.Call (.Attribute o "append" apos) [Expr.Name y ypos] [] cpos) none pos.line X.env = pure false) : SSt X W (.Expr (.Call (.Attribute o "append" apos) [Expr.Name y ypos] [] cpos) pos) (sAppM a j) := by
  intro S De R hc g
  refine wS_of (ps_expr (pe_bm PySem.F.plainAttrs_list PySem.F.slot_list_append PySem.F.type_list_append mt_append (pe_w (e := o)) (pa_w (es := [Expr.Name y ypos])) hbase hfew hline hs hplain) hsw) ?_
  refine ho S _ R ?_
  unfold sAppM at g
  cases qa : a S.ρ with
  | er => rw [qa] at g; exact g
  | rz c => rw [qa] at g; exact fun S1 a1 e1 R1 => g S1 a1.s a1.ρ e1 R1
  | ok q =>
    rw [qa] at g
    intro S1 k d t k' d' t' a1 e1 R1 h1 h2 h3
    dsimp only at g
    by_cases hL' : isL S.ρ q = true ∧ q.1 ≠ j
    rotate_left
    · rw [if_neg hL'] at g; exact g.elim
    rw [if_pos hL'] at g
    obtain ⟨hL, hqj⟩ := hL'
    obtain ⟨kL, dsL, eL⟩ := isL_of hL
    obtain ⟨kL', dL', eL4, eL5⟩ := atP_ok eL
    rw [h1] at eL4; cases eL4
    have eL6 := sub_subD h3
    rw [eL5] at eL6; cases eL6
    have R1' : Rl X.K S1.Z0 S1.H0 S1.Z S1.H S1.σ S1.ρ S1.ts S1.τ := R1
    have o1 : Ob X.K S1.Z S1.H k' (.list dsL) t' := by
      obtain ⟨t1, f1, o, _⟩ := R1'.sl _ _ (by rw [a1.ρ]; exact h1)
      rw [h2] at f1; cases f1
      obtain ⟨t2, f2, o2, _⟩ := sub_ob o (sub_subD h3)
      rw [h3] at f2; cases f2
      exact o2
    have z : wA X [Expr.Name y ypos] S1.σ S1.H fun xs H2 => rAppend (valOf (.list dsL) t') xs H2 fun _ H3 => De.nx S.σ H3 := by
      cases qj : S.ρ[j]? with
      | none => rw [qj] at g; exact g.elim
      | some sl =>
        rw [qj] at g
        cases sl with
        | em => exact g.elim
        | ex a => exact g.elim
        | al a p => exact g.elim
        | va kj dj =>
          dsimp only at g
          by_cases hk0 : flat dj = true ∨ kj = none ∨ kj = some 0
          rotate_left
          · rw [if_neg hk0] at g; exact g.elim
          rw [if_pos hk0] at g
          cases qp : appV (setSl S.ρ j .em) q ⟨false, kj, dj⟩ with
          | er => rw [qp] at g; exact g.elim
          | rz c => rw [qp] at g; exact g.elim
          | ok ρ' =>
            rw [qp] at g
            dsimp only at g
            have hc1 : Clean S1.τ := by rw [e1]; exact hc
            obtain ⟨tv, f1, f2, R3⟩ := take_go (S := S1) R1 hc1 (by rw [a1.ρ]; exact qj)
            refine wA_of (pa_cons pe_w pa_w hs) ?_
            refine wE_of (pe_var (i := j) hj hv hd hcd) ⟨valOf dj tv, f2, wA_of pa_nil ?_⟩
            obtain ⟨v', k1, ds, k2, s1, s2, s3, s4, rfl⟩ := appV_ok qp
            have ev : v' = ⟨false, if flat dj = true then none else kj, dj⟩ := by
              unfold settle at s1
              by_cases hf : flat dj = true
              · rw [if_pos hf] at s1
                rw [if_pos hf]
                cases s1; rfl
              · have hk : kj = none ∨ kj = some 0 := hk0.elim (fun z => absurd z hf) _root_.id
                rw [if_neg hf] at s1 ⊢
                rcases hk with rfl | rfl
                · simpa using s1.symm
                · simpa using s1.symm
            subst ev
            have sd := settle_setd s1
            have hat : atP (setSl S.ρ j .em) q = atP S.ρ q := by
              unfold atP
              rw [atP_em hqj h1, h1]
            rw [hat, eL] at s2; cases s2
            obtain ⟨t1, t2, t3, t4⟩ := takeLv_ok s4 (setdF sd).2 (setdF sd).1
            rw [e1] at R3
            have ov := (R3.tm _ List.mem_cons_self).1
            have ets : S1.ts[q.1]? = some t := h2
            have eρ : (setSl S1.ρ j .em)[q.1]? = some (.va k d) := by rw [a1.ρ]; exact atP_em hqj h1
            obtain ⟨pv, po⟩ := put_lv t3 ov
            have lv : pd k2 = pd k' ∨ flats dsL = true := t4.elim (fun z => .inl (by rw [z])) fun z => .inr z.2
            have o2 : Ob X.K S1.Z S1.H k' (.list dsL) t' := o1
            simp only [Ob] at o2
            have ll := o2.2.len
            have M := mut_list (q := q) (ds2 := dsL ++ [dj]) (kids2 := t'.kids ++ [tv]) (k2 := k2) R3 hc eρ ets h3 t1 t2 (t4.elim .inl fun z => .inr (isRoot_of z.1)) (fun H' hh m1 m2 => ?_) (fun n => ?_) fun a m => ?_
            · refine ⟨t'.at, valsOf dsL t'.kids, valOf dj tv, rfl, rfl, M.1, by rw [valsOf_length ll]; exact s3, ?_⟩
              have R4 := M.2
              rw [vals_app ll] at R4
              have g3 := g ⟨S1.Z0, S1.H0, S1.Z, upd S1.H t'.at (.lst (valsOf dsL t'.kids ++ [valOf dj tv])), S1.σ, setSl (setSl S1.ρ j .em) q.1 (.va (if q.2 = [] then k2 else k) (setD d q.2 (.list (dsL ++ [dj])))), S1.ts.set q.1 (setT t q.2 (.n t'.at (t'.kids ++ [tv]))), S.τ⟩ ⟨a1.z0, a1.h0, a1.st.zz⟩ (by
                show setSl (setSl S1.ρ j .em) q.1 _ = _
                rw [a1.ρ, chg_va (atP_em hqj h1)]) rfl R4
              rw [← a1.σ]
              exact g3
            · refine obs_app ?_ ?_
              · refine (Obs.lv (H := H') lv ?_).1
                refine Obs.ext (Same.refl _) dsL _ t'.kids o2.2 (fun a m => (Obs.own dsL _ t'.kids o2.2 a m).1) fun a m => hh a fun z => m1 (z ▸ m)
              · exact Ob.ext (Same.refl _) _ _ _ pv (fun a m => (Ob.own _ _ _ pv a m).1) fun a m => hh a fun z => m2 (by rw [← z, ← po]; exact m)
            · rw [owns_app ll, (Obs.lv lv o2.2).2, po]
              exact n
            · rw [owns_app ll, (Obs.lv lv o2.2).2, po] at m
              exact List.mem_append.mp m
    rw [a1.σ] at z
    refine ⟨?_, z⟩
    simp only [Ob] at o1
    exact .inl ⟨rfl, _, o1.1.sq R1'.zh⟩
end
end Ev

set_option Elab.async false
set_option linter.all false
set_option maxRecDepth 100000
namespace Ev
open PySem PySem.Spec PyProof.Rows L2

/-! ### another name of a part; a list that is changed and dropped -/
theorem ownR_al {j : Nat} {p : List Nat} : ∀ {ρ : Rho} {ts : List Tr} {i : Nat}, ρ[i]? = some .em → ownR (ρ.set i (.al j p)) ts = ownR ρ ts
  | [], _, _, h => by simp at h
  | s :: ρ, [], 0, h => by simp [ownR]
  | s :: ρ, [], i + 1, h => by simp [ownR]
  | s :: ρ, t :: ts, 0, h => by
    simp at h
    subst h
    simp only [List.set_cons_zero, ownR]
  | s :: ρ, t :: ts, i + 1, h => by
    rw [List.set_cons_succ, ownR_cons, ownR_cons, ownR_al (by simpa using h)]
section
variable {K : PySem.W.Frag} {Z0 H0 Z H : Hp} {σ : L2.St} {ρ : Rho} {ts : List Tr} {τ : List Tm}
theorem Rl.setAl {i j : Nat} {p : List Nat} {k k' : Lv} {d d' : D} {t t' : Tr} (R : Rl K Z0 H0 Z H σ ρ ts τ) (ei : ρ[i]? = some .em) (ej : ρ[j]? = some (.va k d)) (etj : ts[j]? = some t) (es : sub k d t p = some (k', d', t')) :
    Rl K Z0 H0 Z H (σ.set i (some (valOf d' t'))) (ρ.set i (.al j p)) ts τ := by
  have hi : i < ρ.length := (List.getElem?_eq_some_iff.mp ei).1
  have hσ : i < σ.length := by rw [← R.lr]; exact hi
  have hij : j ≠ i := fun z => by rw [z, ei] at ej; cases ej
  have eo : ownR (ρ.set i (.al j p)) ts = ownR ρ ts := ownR_al ei
  refine ⟨R.zh, R.h0, R.z0, R.zn, by simp only [List.length_set]; exact R.lr, by simp only [List.length_set]; exact R.lt, fun m s e => ?_, fun c hc => ?_, by rw [eo]; exact R.nd, by rw [eo]; exact R.o0⟩
  · by_cases hm : m = i
    · subst hm
      rw [List.getElem?_set_self hi] at e
      cases e
      exact ⟨k, d, t, k', d', t', by rw [List.getElem?_set_ne (Ne.symm hij)]; exact ej, etj, es, by rw [List.getElem?_set_self hσ]⟩
    · rw [List.getElem?_set_ne (Ne.symm hm)] at e
      have q := R.sl m s e
      cases s with
      | em => trivial
      | ex a0 =>
        show (σ.set i _)[m]? = _
        rw [List.getElem?_set_ne (Ne.symm hm)]
        exact q
      | va k1 d1 =>
        obtain ⟨t1, q1, q2, q3⟩ := q
        exact ⟨t1, q1, q2, by rw [List.getElem?_set_ne (Ne.symm hm)]; exact q3⟩
      | al j1 p1 =>
        obtain ⟨k1, d1, t1, k2, d2, t2, q1, q2, q3, q4⟩ := q
        have hj1 : j1 ≠ i := fun z => by rw [z, ei] at q1; cases q1
        exact ⟨k1, d1, t1, k2, d2, t2, by rw [List.getElem?_set_ne (Ne.symm hj1)]; exact q1, q2, q3, by rw [List.getElem?_set_ne (Ne.symm hm)]; exact q4⟩
  · obtain ⟨o, hb⟩ := R.tm c hc
    exact ⟨o, fun q => ⟨(hb q).1, by rw [eo]; exact (hb q).2⟩⟩
/-- a list under way is changed: nothing else hangs on it -/
theorem rl_dropL {k : Lv} {ds : List D} {t : Tr} {xs : List V} (R : Rl K Z0 H0 Z H σ ρ ts (⟨false, k, .list ds, t⟩ :: τ)) (hk : k ≠ some 0) : H t.at = some (.lst (valsOf ds t.kids)) ∧ Rl K Z0 H0 Z (upd H t.at (.lst xs)) σ ρ ts τ := by
  have o := (R.tm _ List.mem_cons_self).1
  simp only [Ob] at o
  have q := o.1
  unfold LstAt at q
  rw [if_neg hk] at q
  have hin : t.at ∈ own k (.list ds) t := by simp only [Ev.own, if_neg hk]; exact List.mem_append_left _ (List.mem_singleton.mpr rfl)
  have eT : ownT (⟨false, k, .list ds, t⟩ :: τ) = own k (.list ds) t ++ ownT τ := by simp [ownT]
  have nd := R.nd
  rw [eT] at nd
  have hne : ∀ a ∈ ownR ρ ts ++ ownT τ, a ≠ t.at := fun a m z => by
    subst z
    obtain ⟨n1, n2, n3⟩ := List.nodup_append.mp nd
    rcases List.mem_append.mp m with m | m
    · exact n3 _ m _ (List.mem_append_left _ hin) rfl
    · exact (List.nodup_append.mp n2).2.2 _ hin _ m rfl
  have h00 : H0 t.at = none := R.o0 _ (List.mem_append_right _ (by rw [eT]; exact List.mem_append_left _ hin))
  refine ⟨q.2, Rl.ext R.pop (Same.refl _) (fun a m => (R.pop.own_z a m).1) (fun a m o e => by rw [upd_ne (hne a m)]; exact e) (fun a o e => ?_) (fun a o e => ?_) R.zn⟩
  · have : a ≠ t.at := fun z => by rw [z, q.1] at e; cases e
    rw [upd_ne this]
    exact R.zh a o e
  · have : a ≠ t.at := fun z => by rw [z, h00] at e; cases e
    rw [upd_ne this]
    exact R.h0 a o e
end
def sAl (i : Nat) (a : Rho → Res (Nat × List Nat)) : Rho → SR := fun ρ => match a ρ with
  | .ok q => if q.1 ≠ i ∧ i < ρ.length then .nx ((setSl ρ i .em).set i (.al q.1 q.2)) else .er
  | .rz c => .rz c ρ
  | .er => .er
def sAppT (o x : Rho → Res BV) : Rho → SR := fun ρ => match o ρ with
  | .ok u => match u.d with
    | .list ds => if u.b = false ∧ u.k ≠ some 0 ∧ ds.length < sizeLine then match x ρ with
      | .ok _ => .nx ρ
      | .rz c => .rz c ρ
      | .er => .er else .er
    | _ => .er
  | .rz c => .rz c ρ
  | .er => .er
section
variable {X : Cx} {W : WX} {S : Sta} {De : Ends}
theorem st_al {i : Nat} {x : Str} {e : Expr} {a : Rho → Res (Nat × List Nat)} {pos pos' : Pos} (hN : X.N.Nodup) (hi : X.N[i]? = some x) (hx : Loc X.env.scope x) (he : SP X W e a) (hs : swapsWith e (some (.Name x pos')) pos.line X.env = pure false)
    (hf : X.fn x = true ∨ X.env.scope.names.lookup x = some .local) : SSt X W (.Assign [.Name x pos'] e pos) (sAl i a) := by
  intro S D R hc g pins s I
  refine wS_of (ps_set hN hi hx pe_w hs hf) ?_ pins s I
  refine he S _ R ?_
  unfold sAl at g
  cases qa : a S.ρ with
  | er => rw [qa] at g; exact g
  | rz c => rw [qa] at g; exact fun S1 a1 e1 R1 => g S1 a1.s a1.ρ e1 R1
  | ok q =>
    rw [qa] at g
    intro S1 k d t k' d' t' a1 e1 R1 h1 h2 h3
    dsimp only at g
    by_cases hq : q.1 ≠ i ∧ i < S.ρ.length
    rotate_left
    · rw [if_neg hq] at g; exact g.elim
    rw [if_pos hq] at g
    have R1' : Rl X.K S1.Z0 S1.H0 S1.Z S1.H S1.σ S1.ρ S1.ts S.τ := R1.rl e1
    have R2 : Rl X.K S1.Z0 S1.H0 S1.Z S1.H S1.σ (setSl S1.ρ i .em) S1.ts S.τ := Rl.forget R1' hc
    have em : (setSl S1.ρ i .em)[i]? = some .em := by
      unfold setSl
      rw [List.getElem?_set_self (by rw [killA_length, a1.ρ]; exact hq.2)]
    have eva : (setSl S1.ρ i .em)[q.1]? = some (.va k d) := atP_em hq.1 (by rw [a1.ρ]; exact h1)
    have R3 := Rl.setAl R2 em eva h2 h3
    have g3 := g ⟨S1.Z0, S1.H0, S1.Z, S1.H, S1.σ.set i (some (valOf d' t')), (setSl S1.ρ i .em).set i (.al q.1 q.2), S1.ts, S.τ⟩ ⟨a1.z0, a1.h0, a1.st.zz⟩ (by show (setSl S1.ρ i .em).set i _ = _; rw [a1.ρ]) rfl R3
    rw [← a1.σ]
    exact g3
theorem st_appT {o e : Expr} {xo x : Rho → Res BV} {apos cpos pos : Pos} (ho : SE X W o xo) (he : SE X W e x)
    (hbase : attributeBase o "append" X.env (eval o X.env) = eval o X.env := by rfl)
    (hfew : ((backTo cpos (starEach [e] X.env)).all (fun x => !x.1) && (backToKw cpos (keywordEach [] X.env)).all (fun x => x.1.isSome)
      && decide (([e] : List Expr).length + ([] : List Keyword).length + (if ([] : List Keyword).isEmpty then 0 else 1) < 30)) = true := by rfl)
    (hline : (apos.endLine == cpos.line) = true := by rfl) (hs : starEach [e] X.env = (false, eval e X.env) :: starEach [] X.env := by rfl) (hplain : (backTo cpos (starEach [] X.env)).any (·.1) = false := by rfl)
    (hsw : swapsWith (.Call (.Attribute o "append" apos) [e] [] cpos) none pos.line X.env = pure false) : SSt X W (.Expr (.Call (.Attribute o "append" apos) [e] [] cpos) pos) (sAppT xo x) := by
  intro S De R hc g
  have ha : SA X W true [e] [x] := sa_cons he sa_nil hs
  refine wS_of (ps_expr (pe_bm PySem.F.plainAttrs_list PySem.F.slot_list_append PySem.F.type_list_append mt_append (pe_w (e := o)) (pa_w (es := [e])) hbase hfew hline hs hplain) hsw) ?_
  refine ho S _ R ?_
  unfold sAppT at g
  cases qo : xo S.ρ with
  | er => rw [qo] at g; exact g
  | rz c => rw [qo] at g; exact fun S1 a1 e1 R1 => g S1 a1.s a1.ρ e1 R1
  | ok u =>
    rw [qo] at g
    dsimp only at g
    cases hud : u.d with
    | none => rw [hud] at g; exact g.elim
    | bool b => rw [hud] at g; exact g.elim
    | int b => rw [hud] at g; exact g.elim
    | str b => rw [hud] at g; exact g.elim
    | tuple b => rw [hud] at g; exact g.elim
    | dict b => rw [hud] at g; exact g.elim
    | list ds =>
      rw [hud] at g
      dsimp only at g
      by_cases hq : u.b = false ∧ u.k ≠ some 0 ∧ ds.length < sizeLine
      rotate_left
      · rw [if_neg hq] at g; exact g.elim
      rw [if_pos hq] at g
      intro S1 t a1 e1 R1 f1
      have z : wA X [e] S1.σ S1.H fun xs H2 => rAppend (valOf u.d t) xs H2 fun _ H3 => De.nx S.σ H3 := by
        refine ha S1 _ R1 ?_
        rw [a1.ρ]
        unfold evA
        cases qx : x S.ρ with
        | er => rw [qx] at g; exact g.elim
        | rz c =>
          rw [qx] at g
          intro S2 a2 e2 R2
          have R2' := R2.rl (e2.trans e1)
          have aa := a1.trans a2
          exact g ⟨S2.Z0, S2.H0, S2.Z, S2.H, S2.σ, S2.ρ, S2.ts, S.τ⟩ ⟨aa.z0, aa.h0, aa.st.zz⟩ aa.ρ rfl R2'.pop
        | ok v =>
          rw [qx] at g
          dsimp only at g
          obtain ⟨v', s1⟩ : ∃ v', settle true v = .ok v' := by
            obtain ⟨vb, vk, vd⟩ := v
            unfold settle
            by_cases hf : flat vd = true
            · exact ⟨_, if_pos hf⟩
            · rw [if_neg hf]
              cases vb
              · exact ⟨_, rfl⟩
              · exact ⟨_, rfl⟩
          show GoodA X W S1 _ ((settle true v).bind _)
          rw [s1]
          intro S2 tr a2 l2 e2 R2 f2
          cases tr with
          | nil => cases l2
          | cons tv tr =>
            cases tr with
            | cons _ _ => simp at l2
            | nil =>
              have a3 := a1.trans a2
              have R2' : Rl X.K S2.Z0 S2.H0 S2.Z S2.H S2.σ S2.ρ S2.ts (⟨v'.b, v'.k, v'.d, tv⟩ :: ⟨u.b, u.k, u.d, t⟩ :: S.τ) := by
                have := R2.rl e2
                rw [e1] at this
                exact this
              have R3 := R2'.pop
              rw [hq.1, hud] at R3
              obtain ⟨hH, R4⟩ := rl_dropL (xs := valsOf ds t.kids ++ [valOf v'.d tv]) R3 hq.2.1
              have ll : ds.length = t.kids.length := by
                have o := (R3.tm _ List.mem_cons_self).1
                simp only [Ob] at o
                exact o.2.len
              refine ⟨t.at, valsOf ds t.kids, valOf v'.d tv, by rw [hud]; rfl, rfl, hH, by rw [valsOf_length ll]; exact hq.2.2, ?_⟩
              have g3 := g ⟨S2.Z0, S2.H0, S2.Z, _, S2.σ, S2.ρ, S2.ts, S.τ⟩ ⟨a3.z0, a3.h0, a3.st.zz⟩ a3.ρ rfl R4
              rw [← a3.σ]
              exact g3
      rw [a1.σ] at z
      refine ⟨?_, z⟩
      have R1' := R1.rl e1
      have o1 := (R1'.tm _ List.mem_cons_self).1
      rw [hud] at o1 ⊢
      simp only [Ob] at o1
      exact .inl ⟨rfl, _, o1.1.sq R1'.zh⟩
end
end Ev

set_option Elab.async false
set_option linter.all false
set_option maxRecDepth 100000
namespace Ev
open PySem PySem.Spec PyProof.Rows L2

/-! ### a, b = a list -/
def bdL (is : List Nat) : Rho → BV → Res Rho := fun ρ v => match v.d with
  | .list ds => if ds.length = is.length ∧ v.k = some 0 then .ok (bindN is ds ρ) else .er
  | _ => .er
theorem sg_lst {K : PySem.W.Frag} {is : List Nat} : SG K is (gLst K is.length (gNames is)) (bdL is) := by
  refine ⟨fun {Z0 H0 Z H σ ρ ρ' ts τ v t Q} R hc o ow lv e k => ?_⟩
  unfold bdL at e
  cases hd : v.d <;> rw [hd] at e <;> first | (cases e; done) | skip
  rename_i ds
  dsimp only at e
  split at e <;> cases e
  rename_i hl
  rw [hd] at o lv
  simp only [Ob] at o
  refine ⟨t.at, _, rfl, o.1.sq R.zh, by rw [valsOf_length o.2.len, hl.1], ?_⟩
  have o2 := o.2
  rw [hl.2] at o2
  exact names_go is ds R hc o2 (.inl rfl) hl.1 k
end Ev

set_option Elab.async false
set_option linter.all false
set_option maxRecDepth 100000
namespace Ev
open PySem PySem.Spec PyProof.Rows L2

/-! ### a new value is shared at once -/
def xFz (x : Rho → Res BV) : Rho → Res BV := fun ρ => (x ρ).bind (settle true)
section
variable {X : Cx} {W : WX}
theorem se_frz {e : Expr} {x : Rho → Res BV} (he : SE X W e x) : SE X W e (xFz x) := by
  intro S Q R g
  refine he S Q R ?_
  unfold xFz at g
  cases q : x S.ρ with
  | er => rw [q] at g; exact g
  | rz c => rw [q] at g; exact g
  | ok v =>
    rw [q] at g
    replace g : GoodE X W S Q (settle true v) := g
    intro S1 t a1 e1 R1 f1
    cases q2 : settle true v with
    | er => rw [q2] at g; exact g.elim
    | rz c => exact absurd q2 settle_rz
    | ok v' =>
      rw [q2] at g
      obtain ⟨S2, a2, h2, R2, e2, f2, _⟩ := settle_go q2 R1 e1 f1 a1
      rw [← h2, ← settle_ok q2]
      exact g S2 t a2 e2 R2 f2
end
end Ev

set_option Elab.async false
set_option linter.all false
set_option maxRecDepth 100000
namespace RT
open PySem PySem.Spec PyProof.Rows
section
variable {prog : Program} {w : World} {A : Around} {E : Value → Shared → Prop} {s : Shared} {R : Result → Shared → Prop}
theorem extend_rev {it l S : Addr} {items : Array Value} {res : Value} {c₀ : Nat} (hh : A.handled = none) (hit : s.heap.IsRevIter it l ((items.size : Int) - 1)) (hl : s.heap.IsList l items) (hne : l ≠ it) (hSi : S ≠ it) (hSl : S ≠ l)
    (hS : s.heap.get? S = some { cls := .type "list", data := .seq #[] c₀ }) (hn : items.size ≤ sizeLine)
    (hR : ∀ (h' : Heap) (tk : Nat) (acc : Array Value) (c' : Nat), (∀ b o, b ≠ it → b ≠ S → s.heap.get? b = some o → h'.get? b = some o) → h'.get? S = some { cls := .type "list", dict := none, data := .seq acc c', slots := #[] } → ItemsOf (fun i v => items[items.size - 1 - i]? = some v) acc items.size →
      R (.ok (.ret res)) { s with heap := h', toks := tk }) :
    wpAny (model prog w) A.in1 (Builtin.List.listExtendWith (.ref S) (.ref it) res)
      (fun fin s' => match fin with | .done f => R (.ok f) s' | .again c' => c'.quiet = true ∧ codeAny (model prog w) A c' R s') (fun e s' => R (.error e) s') s := by
  have W := (Walks.listRev (prog := prog) (w := w) (A := A.in1) hh it l hne items).toS
  have hSf : S ∉ [it, l] := by simp only [List.mem_cons, List.not_mem_nil, or_false, not_or]; exact ⟨hSi, hSl⟩
  have hT : s.TypeIs (.ref it) "list_reverseiterator" := Heap.IsRevIter.typeIs hit
  have h1 : Builtin.List.listSameRef (.ref S) (.ref it) = false := by simp [Builtin.List.listSameRef, hSi]
  unfold Builtin.List.listExtendWith
  refine wpAny_bind (wpAny_typeOf hT ?_)
  rw [if_neg (by rw [h1]; decide)]
  refine wpAny_bind (wpAny_pyIter_revIter hit ?_)
  refine wpAny_bind (wpAny_holding ?_)
  unfold Builtin.List.listLengthHint
  refine wpAny_bind (wpAny_specialOf hT nolen_lri ?_)
  show wpAny _ A.in1 (specialOf (Value.ref it) (Str.ofString "__length_hint__") >>= _) _ _ _
  refine wpAny_bind (wpAny_specialOf hT hint_lri ?_)
  generalize hid : ("list_reverseiterator.__length_hint__" : String) = id0
  wp_delta
  rw [show splitId id0 = some ("list_reverseiterator", "__length_hint__") from by subst hid; decide +kernel]
  subst hid
  refine wpAny_bind (wpAny_isInstance (b := true) hT (by rw [isSubtype_type]; kernel_rfl) ?_)
  refine wpAny_pure ?_
  rw [if_neg (by decide)]
  have e0 : ((items.size : Nat) : Int) - 1 - ((0 : Nat) : Int) = (items.size : Int) - 1 := by omega
  refine wpAny_pure ⟨plainId_quiet F.plain_extend_loop _, codeAny_extend_loopS W hn _ hSf _ items.size 0 _ _ _ rfl (Nat.zero_le _) ⟨Nat.zero_le _, by rw [e0]; exact hit, hl⟩ hS (ItemsOf.nil _) fun s' acc' c' hm hS' hacc => ?_⟩
  rw [Moved.eq_with hm]
  refine hR s'.heap s'.toks acc' c' (fun b o hb hb2 e => hm.heap b o (fun hmem => ?_) e) hS' hacc
  rcases List.mem_cons.mp hmem with e' | hmem
  · exact hb2 e'
  · exact hb (List.mem_singleton.mp hmem)
end
section
variable {prog : Program} {w : World} {A : Around} {E : Value → Shared → Prop} {s : Shared}
theorem call_list_rev {it l : Addr} {items : Array Value} {Q : Value → Shared → Prop} (hh : A.handled = none) (hit : s.heap.IsRevIter it l ((items.size : Int) - 1)) (hl : s.heap.IsList l items) (hne : l ≠ it) (hn : items.size ≤ sizeLine)
    (hQ : ∀ (h' : Heap) (tk : Nat) (acc : Array Value) (c' : Nat), (∀ b o, b ≠ it → s.heap.get? b = some o → h'.get? b = some o) → h'.get? s.heap.objs.size = some { cls := .type "list", dict := none, data := .seq acc c', slots := #[] } → ItemsOf (fun i v => items[items.size - 1 - i]? = some v) acc items.size →
      Q (.ref s.heap.objs.size) { s with heap := h', toks := tk }) :
    wpAny (model prog w) A (call (.type "list") [.ref it]) Q E s := by
  obtain ⟨oi, hoi, _⟩ := id hit
  obtain ⟨ol, hol, _⟩ := id hl
  have hSi : s.heap.objs.size ≠ it := Nat.ne_of_gt (Heap.lt_size hoi)
  have hSl : s.heap.objs.size ≠ l := Nat.ne_of_gt (Heap.lt_size hol)
  refine callType_codes (Q₁ := fun obj s₁ => obj = .ref s.heap.objs.size ∧ s₁ = { s with heap := s.heap.push { cls := .type "list", data := .seq #[] } }) F.called_list (F.typeCall_list_1 _) F.entry_list_init
    (code_list_new _ ⟨rfl, rfl⟩) fun obj s₁ h₁ => ?_
  obtain ⟨rfl, rfl⟩ := h₁
  have hS : (s.heap.push { cls := .type "list", data := .seq #[] }).get? s.heap.objs.size = some { cls := .type "list", data := .seq #[] } := Heap.get?_push_size _ rfl
  refine ⟨⟨_, hS, rfl⟩, F.args_list_init_2 _ _, ?_⟩
  show wpAny _ A.in1.in1 (do let old ← Builtin.List.listItems (.ref s.heap.objs.size); Builtin.List.listUpdate (.ref s.heap.objs.size) (fun _ => #[]); letGo old.toList.reverse; Builtin.List.listExtendWith (.ref s.heap.objs.size) (.ref it) .none) _ _ _
  refine wpAny_bind ?_
  unfold Builtin.List.listItems
  refine wpAny_bind (wpAny_seqItems hS rfl (wpAny_pure ?_))
  show wpAny _ A.in1.in1 (updateSeq s.heap.objs.size (fun _ => #[]) >>= fun _ => letGo (#[] : Array Value).toList.reverse >>= fun _ => Builtin.List.listExtendWith (.ref s.heap.objs.size) (.ref it) .none) _ _ _
  refine wpAny_bind (wpAny_updateSeq hS rfl ?_)
  have hS₂ := Heap.get?_update_self (Obj.mapSeq (fun _ => (#[] : Array Value))) hS rfl
  have oth : ∀ b o, b ≠ s.heap.objs.size → s.heap.get? b = some o → ((s.heap.push { cls := .type "list", data := .seq #[] }).update s.heap.objs.size (Obj.mapSeq (fun _ => (#[] : Array Value)))).get? b = some o :=
    fun b o hb e => (Heap.get?_update_other _ _ (Ne.symm hb)).trans (Heap.get?_push_of_some _ e)
  refine wpAny_bind (wpAny_letGo ?_)
  refine extend_rev (A := A.in1) hh (hit.at fun o e => oth it o hSi.symm e) (hl.at fun o e => oth l o hSl.symm e) hne hSi hSl hS₂ hn fun h' tk acc c' hk hS' hacc => ?_
  exact ⟨rfl, hQ h' tk acc c' (fun b o hb e => hk b o hb (Nat.ne_of_lt (Heap.lt_size e)) (oth b o (Nat.ne_of_lt (Heap.lt_size e)) e)) hS' hacc⟩
end
end RT

namespace Ev
open PySem PySem.Spec PyProof.Rows L2
section
variable {X : Cx} {W : WX}
def tLstRev (K : PySem.W.Frag) (te : TE) : TE := fun σ H Q => te σ H fun v H1 => ∃ (a : Addr) (xs : List V), v = .ref a ∧ SqL K H1 a xs ∧ ∀ q, H1 q = none → Q (.ref q) (upd H1 q (.lst xs.reverse))
theorem pe_lstRev {e : Expr} {te : TE} {p p2 pos pos2 : Pos} (hc : X.calm = true) (hg : Gl X "list") (hm : X.mg "list" = none) (hg2 : Gl X "reversed") (hm2 : X.mg "reversed" = none) (he : PE X e te)
    (hs : starEach [e] X.env = (false, eval e X.env) :: starEach [] X.env := by rfl)
    (hs2 : starEach [.Call (.Name "reversed" p2) [e] [] pos2] X.env = (false, eval (.Call (.Name "reversed" p2) [e] [] pos2) X.env) :: starEach [] X.env := by rfl) :
    PE X (.Call (.Name "list" p) [.Call (.Name "reversed" p2) [e] [] pos2] [] pos) (tLstRev X.K te) := by
  refine ⟨fun pins s σ H Q I h => ?_⟩
  refine Call_ (ld_blt I hg hm boot_list (PyProof.Rows.callWith_type1 (args_cons (Call_ (ld_blt I hg2 hm2 PyProof.Rows.boot_reversed (PyProof.Rows.callWith_type1 (args_cons (thn (he.run pins s σ H _ I h) fun u s1 ⟨v, H1, I1, r1, q1⟩ => args_nil ?_) hs) hs rfl))) hs2) hs2 rfl))
  obtain ⟨a, xs, ev, hq, q⟩ := q1
  subst ev
  obtain rfl : u = Value.ref a := r1
  obtain ⟨its, rv, p', hz⟩ := I1.list hq
  refine call_reversed_list p'.isList (args_nil ?_)
  have hl := p'.isList
  obtain ⟨ol, hol, _⟩ := id hl
  have hne : a ≠ s1.heap.objs.size := Nat.ne_of_lt (Heap.lt_size hol)
  have hn : its.toArray.size ≤ sizeLine := by rw [List.size_toArray, ← rv.length]; exact hz
  refine RT.call_list_rev (s := { s1 with heap := s1.heap.push (revObj a ((its.toArray.size : Int) - 1)) }) (I1.ok.hd hc) ⟨_, Heap.get?_push_size _ rfl, rfl, rfl⟩ (hl.push _) hne hn fun h' tk acc c' hk hS' hi => ?_
  have hsz : s1.heap.objs.size ≤ (s1.heap.push (revObj a ((its.toArray.size : Int) - 1))).objs.size := Nat.le_of_lt (Heap.lt_size (Heap.get?_push_size _ rfl))
  refine ⟨.ref (s1.heap.push (revObj a ((its.toArray.size : Int) - 1))).objs.size, upd H1 (s1.heap.push (revObj a ((its.toArray.size : Int) - 1))).objs.size (.lst xs.reverse), I1.laid (t' := tk) (fun b o e => hk b o (Nat.ne_of_lt (Heap.lt_size e)) (Heap.get?_push_of_some _ e)) hsz (show ObjOk X.prog X.w _ _ _ (.lst xs.reverse) from ⟨by rw [List.length_reverse]; exact hz, acc.toList, c', RT.vals_rev rv hi, ?_⟩), rfl, q _ (I1.hok.fresh hsz)⟩
  rw [Array.toArray_toList]
  exact hS'
def xRev (x : Rho → Res BV) : Rho → Res BV := fun ρ => (x ρ).bind fun u => (shI u).bind fun ds => mkNew ds.reverse
theorem obs_rev {K : PySem.W.Frag} {Z H : Hp} : ∀ {ds : List D} {ts : List Tr}, Obs K Z H (some 0) ds ts → Obs K Z H (some 0) ds.reverse ts.reverse ∧ valsOf ds.reverse ts.reverse = (valsOf ds ts).reverse
  | [], [], o => ⟨o, rfl⟩
  | [], _ :: _, o => by simp only [Obs] at o
  | _ :: _, [], o => by simp only [Obs] at o
  | d :: ds, t :: ts, o => by
    simp only [Obs] at o
    obtain ⟨h1, h2⟩ := obs_rev o.2
    rw [List.reverse_cons, List.reverse_cons]
    refine ⟨obs_app h1 o.1, ?_⟩
    rw [vals_app h1.len, h2]
    simp [valsOf]
theorem se_lstRev {e : Expr} {xe : Rho → Res BV} {p p2 pos pos2 : Pos} (hc : X.calm = true) (hg : Gl X "list") (hm : X.mg "list" = none) (hg2 : Gl X "reversed") (hm2 : X.mg "reversed" = none) (he : SE X W e xe)
    (hs : starEach [e] X.env = (false, eval e X.env) :: starEach [] X.env := by rfl)
    (hs2 : starEach [.Call (.Name "reversed" p2) [e] [] pos2] X.env = (false, eval (.Call (.Name "reversed" p2) [e] [] pos2) X.env) :: starEach [] X.env := by rfl) :
    SE X W (.Call (.Name "list" p) [.Call (.Name "reversed" p2) [e] [] pos2] [] pos) (xRev xe) := by
  intro S Q R g
  refine wE_of (pe_lstRev hc hg hm hg2 hm2 pe_w hs hs2) ?_
  unfold xRev at g
  refine he S _ R ?_
  cases q1 : xe S.ρ with
  | er => rw [q1] at g; exact g
  | rz c => rw [q1] at g; exact g
  | ok u =>
    rw [q1, Res.bind_ok] at g
    intro S1 t a1 e1 R1 f1
    cases q4 : shI u with
    | er => rw [q4] at g; exact g.elim
    | rz c => exact absurd q4 shI_rz
    | ok ds =>
      rw [q4, Res.bind_ok] at g
      obtain ⟨h1, h2⟩ := shI_ok q4
      have e4 : S1.τ = [⟨u.b, u.k, u.d, t⟩] ++ S.τ := e1
      have R1' := R1.rl e4
      have ou := (R1'.tm _ List.mem_cons_self).1
      replace ou : Ob X.K S1.Z S1.H u.k u.d t := ou
      rw [h1] at ou
      simp only [Ob] at ou
      obtain ⟨o1, o2⟩ := obs_rev (flats_or_zero ou.2 h2)
      obtain ⟨n1, n2⟩ := newk_obs o1 (.inr rfl)
      rw [h1]
      refine ⟨t.at, _, rfl, ou.1.sq R1'.zh, fun p hp => ?_⟩
      rw [← o2]
      exact GoodE.newl (cs := [⟨u.b, u.k, u.d, t⟩]) g a1 e4 R1 (fun a m => by
        simp only [ownT, List.append_nil] at m
        cases hb : u.b with
        | true => rw [hb] at m; simp at m
        | false => rw [hb] at m; exact f1 hb a (by simpa using m)) hp n1 n2
end
end Ev

set_option Elab.async false
set_option linter.all false
set_option maxRecDepth 100000
namespace Ev
open PySem PySem.Spec PyProof.Rows L2
/-! ### an except suite that assigns -/
theorem xVa_ex {i j : Nat} {a : Addr} {ρ : Rho} (h : j ≠ i) : xVa j (setSl ρ i (.ex a)) = xVa j (setSl ρ i .em) := by
  unfold xVa lookR setSl
  rw [List.getElem?_set_ne (Ne.symm h), List.getElem?_set_ne (Ne.symm h)]
  cases q : (killA i ρ)[j]? with
  | none => rfl
  | some s =>
    cases s with
    | al k p =>
      dsimp only
      by_cases hk : k = i
      · subst hk
        by_cases hl : k < (killA k ρ).length
        · rw [List.getElem?_set_self hl, List.getElem?_set_self hl]
        · rw [List.getElem?_eq_none (by rw [List.length_set]; omega), List.getElem?_eq_none (by rw [List.length_set]; omega)]
      · rw [List.getElem?_set_ne (Ne.symm hk), List.getElem?_set_ne (Ne.symm hk)]
    | em => rfl
    | va k d => rfl
    | ex a => rfl
theorem killA_set {j i : Nat} {s : Sl} {ρ : Rho} : killA j (ρ.set i s) = (killA j ρ).set i (match s with | .al k p => if k = j then .em else .al k p | s => s) := by
  cases s <;> exact List.map_set ..
theorem kill_ex {i j : Nat} {a b : Addr} {s : Sl} {ρ : Rho} (h : j ≠ i) : setSl (setSl (setSl ρ i (.ex a)) j s) i .em = setSl (setSl (setSl ρ i (.ex b)) j s) i .em := by
  unfold setSl
  rw [killA_set, killA_set, killA_set, killA_set, killA_set, killA_set]
  dsimp only
  rw [List.set_comm _ _ h, List.set_comm _ _ h, List.set_set, List.set_set]
theorem kill_asg {i j : Nat} {a b : Addr} {x y : Rho → Res BV} {ρ : Rho} (hij : j ≠ i) (h : x (setSl ρ i (.ex a)) = y (setSl ρ i (.ex b))) : (sAsg j x (setSl ρ i (.ex a))).kill i = (sAsg j y (setSl ρ i (.ex b))).kill i := by
  unfold sAsg eS
  rw [h]
  cases y (setSl ρ i (.ex b)) with
  | rz c => rfl
  | er => rfl
  | ok v =>
    dsimp only
    cases asgV v with
    | rz c => rfl
    | er => rfl
    | ok r =>
      show SR.nx _ = SR.nx _
      rw [kill_ex hij]
end Ev

set_option Elab.async false
set_option linter.all false
set_option maxRecDepth 100000
namespace Ev
open PySem PySem.Spec PyProof.Rows L2
/-! ### isinstance(x, (T, U)) -/
def dIsiT (T U : String) (d : D) : Res D := match kitB (tyD d) T, kitB (tyD d) U with
  | some b, some c => .ok (.bool (b || c))
  | _, _ => .er
section
variable {X : Cx} {W : WX}
theorem se_isiT {T U : String} {x y : Str} {p p2 p3 p4 pos : Pos} {k : Nat} {e : Expr} {xe : Rho → Res BV} (he : SE X W e xe) (hg : Gl X "isinstance") (hm : X.mg "isinstance" = none) (hv : bootBuiltins "isinstance" = some (.builtin "isinstance"))
    (hT : Gl X x) (hmT : X.mg x = none) (hvT : bootBuiltins x = some (.type T)) (hn : x ≠ "__name__") (hd : (x == ("__debug__" : Str)) = false)
    (hU : Gl X y) (hmU : X.mg y = none) (hvU : bootBuiltins y = some (.type U)) (hn' : y ≠ "__name__") (hd' : (y == ("__debug__" : Str)) = false)
    (hs : starEach [e, .Tuple [.Name x p2, .Name y p3] k p4] X.env = (false, eval e X.env) :: starEach [.Tuple [.Name x p2, .Name y p3] k p4] X.env)
    (hs2 : starEach [.Tuple [.Name x p2, .Name y p3] k p4] X.env = (false, eval (.Tuple [.Name x p2, .Name y p3] k p4) X.env) :: starEach [] X.env)
    (hs3 : starEach [.Name x p2, .Name y p3] X.env = (false, eval (.Name x p2) X.env) :: starEach [.Name y p3] X.env) (hs4 : starEach [.Name y p3] X.env = (false, eval (.Name y p3) X.env) :: starEach [] X.env)
    (hpl : (backTo pos (starEach [.Tuple [.Name x p2, .Name y p3] k p4] X.env)).any (·.1) = false) :
    SE X W (.Call (.Name "isinstance" p) [e, .Tuple [.Name x p2, .Name y p3] k p4] [] pos) (x1 (p1 (dIsiT T U)) xe) := by
  intro S Q R g
  refine wE_of (pe_callB call_isiT hg hm hv (pa_cons pe_w (pa_cons (pe_tup (pa_cons (pe_bltn (v := .ty T) hT hmT hvT rfl hn hd) (pa_cons (pe_bltn (v := .ty U) hU hmU hvU rfl hn' hd') pa_nil hs4) hs3)) pa_nil hs2) hs) (by decide) (by decide) hs hpl) ?_
  refine one he R g fun u S1 t a1 e1 R1 f1 g1 => ?_
  replace g1 : GoodE X W S Q ((dIsiT T U u.d).bind fun d => .ok ⟨false, none, d⟩) := g1
  unfold dIsiT at g1
  cases q : kitB (tyD u.d) T with
  | none => rw [q] at g1; exact g1.elim
  | some b =>
    cases q2 : kitB (tyD u.d) U with
    | none => rw [q, q2] at g1; exact g1.elim
    | some c =>
      rw [q, q2] at g1
      refine ⟨by show 2 ≤ sizeLine; decide, fun tp htp => ?_⟩
      have R1' : Rl X.K S1.Z0 S1.H0 S1.Z S1.H S1.σ S1.ρ S1.ts S1.τ := R1
      have st0 : Step S1.Z S1.H S1.Z (upd S1.H tp (.tup [.ty T, .ty U])) := ⟨Same.refl _, fun b u e => by rw [upd_ne (ne_of_none e htp)]; exact e, fun b u e => .inl e⟩
      have zh0 : Same S1.Z (upd S1.H tp (.tup [.ty T, .ty U])) := fun b u e => st0.hh _ _ (R1'.zh _ _ e)
      have R3 : Sta.R X.K (S1.put S1.Z (upd S1.H tp (.tup [.ty T, .ty U])) S1.τ) := Rl.step R1' st0 zh0
      obtain ⟨o, zh⟩ := Sta.R.tm1 (S := S1.put S1.Z (upd S1.H tp (.tup [.ty T, .ty U])) S1.τ) R3 e1
      have R2 := Sta.R.pop (X := X) (S := S1.put S1.Z (upd S1.H tp (.tup [.ty T, .ty U])) S1.τ) R3 e1
      have a2 : Aft S (S1.put S1.Z (upd S1.H tp (.tup [.ty T, .ty U])) S1.τ) := a1.put st0
      rw [a2.back] at R2
      refine ⟨_, tp, _, _, [.type T, .type U], b || c, rfl, upd_same, .cons (.ty T) (.cons (.ty U) .nil), tyX_ob zh o, kitAny_cons (kit_ty q) (fun hb => ?_) (fun hb => by rw [hb]; rfl), GoodE.scal g1 rfl a2.st R2⟩
      rw [hb, Bool.false_or]
      exact kitAny_cons (kit_ty q2) (fun hc => by rw [hc]; exact kitAny_nil) (fun hc => hc)
end
end Ev
namespace Ev
open PySem PySem.Spec PyProof.Rows L2
/-- the bottom of a recursion -/
theorem fnS_er {P : Program} {w : World} {K : PySem.W.Frag} {mg : Str → Option Value} {base : Heap} {k n : Nat} {f : Addr} : FnS P w K mg base k f n fun _ => .er :=
  ⟨fun A outer s H us Z ds ts Q E hr e0 rv hl zh o g => g.elim⟩
end Ev

set_option Elab.async false
set_option linter.all false
set_option maxRecDepth 100000
set_option maxHeartbeats 2000000
namespace Ev
open PySem PySem.Spec PyProof.Rows L2
/-! ### a set comprehension over ints -/
/-- the state of the set: its members, how many -/
structure Ms where
  S : Int → Bool
  n : Nat
def Ms.nil : Ms := ⟨fun _ => false, 0⟩
def Ms.add (t : Ms) (k : Int) : Ms := ⟨fun j => t.S j || decide (j = k), if t.S k = true then t.n else t.n + 1⟩
abbrev hoM (w : World) (D : Addr) (t : Ms) : HO := SetO w D t.S t.n
def tScM (w : World) (wi : TI) (g : TG) (tt : TT) (te : TE) (vs : List Nat) : TE := fun σ H Q => wi σ H fun J H1 => ∀ D, H1 D = none → ∃ W : Nat → Nat → Hp → Prop, (∃ m, W 0 m (upd H1 D (hoM w D Ms.nil))) ∧ ∀ i m H, W i m H →
  (J.stop i H ∧ Q (.ref D) H) ∨ (J.go i H ∧ ∃ Nx : Hp → Prop, (∀ H', Nx H' → ∃ m', m' < m ∧ W (i + 1) m' H') ∧ ∀ x H', J.yld i H x H' → g x (wipe σ vs) H' fun σ2 H2 => wipe σ2 vs = wipe σ vs ∧ tt σ2 H2 fun b H3 =>
    if b = true then te σ2 H3 fun y H4 => ∃ (k : Int) (t : Ms), y = .int k ∧ H4 D = some (hoM w D t) ∧ t.n + 1 < scanBound ∧ Nx (upd H4 D (hoM w D (t.add k))) else Nx H3)
theorem add_ms {X : Cx} {pins : List (Addr × Obj)} {σ : L2.St} {H : Hp} {s : Shared} {E : Value → Shared → Prop} {D : Addr} {t : Ms} {k : Int} {z : Value} {Q : Value → Shared → Prop} (I : Inv X pins σ H s) (hD : H D = some (hoM X.w D t)) (room : t.n + 1 < scanBound) (hz : RelV (.int k) z)
    (h : ∀ s', Inv X pins σ (upd H D (hoM X.w D (t.add k))) s' → Q .none s') : wpAny (model X.prog X.w) X.A (call (.builtin "set.add") [.ref D, z]) Q E s := by
  obtain ⟨tk, rfl⟩ := hz
  refine setR_add (setO_get I hD) room fun h' sb new => h _ (I.write (e := D) (t' := s.toks + 1) (by rw [hD]; trivial) (.inl rfl) (fun b u hb hu => (sb.2 b hb).trans hu) ?_ (setO_new new))
  obtain ⟨o, _, _, _, ho, _⟩ := new
  exact ⟨o, ho⟩
section
variable {X : Cx}
/-- the fresh set is laid -/
theorem set_fresh_inv {pins : List (Addr × Obj)} {σ : L2.St} {H : Hp} {s : Shared} (I : Inv X pins σ H s) :
    Inv X pins σ (upd H s.heap.objs.size (hoM X.w s.heap.objs.size Ms.nil)) { s with heap := s.heap.push { cls := .type "set", dict := none, data := .set #[] 0 (.fresh 0 0 (!X.w.params.followText "set-order")) } } :=
  I.laid (t' := s.toks) (fun b o e => Heap.get?_push_of_some _ e) (Nat.le_refl _) (setO_new (setR_fresh X.w))
theorem pe_scM {elt tg iter : Expr} {scope : Scope} {own : List (PySem.Str × Nat)} {pos : Pos} {wi : TI} {g : TG} {tt : TT} {te : TE} {ifs : List Expr} (hc : X.calm = true) (hN : X.N.Nodup) (hi : PI X tg iter wi) (ok : BlkOk X.N X.env.scope scope own)
    (hg : ∀ (s : Shared) (H : Hp) (C : Addr) (cl : List (PySem.Str × Addr)) (fp : List Addr), PG (X.blk s H scope (compEnvC scope cl C X.env) fp) tg g) (ht : ∀ (s : Shared) (H : Hp) (C : Addr) (cl : List (PySem.Str × Addr)) (fp : List Addr), PTs (X.blk s H scope (compEnvC scope cl C X.env) fp) ifs tt)
    (he : ∀ (s : Shared) (H : Hp) (C : Addr) (cl : List (PySem.Str × Addr)) (fp : List Addr), PE (X.blk s H scope (compEnvC scope cl C X.env) fp) elt te) (hs : ∀ x, foldedSetIterable iter X.env x = pure x) :
    PE X (.SetComp elt [⟨tg, iter, ifs, 0⟩] scope pos) (tScM X.w wi g tt te (own.map (·.2))) := by
  refine ⟨fun pins s σ H Q I h => ?_⟩
  rw [PpSet.eval_SetComp]
  have cells : ∀ y ∈ scope.names, y.2 = .free → ∃ c, X.env.cells.lookup y.1 = some c := fun y hy e => by
    rcases ok.free y hy e with k | k
    · exact I.ok.has _ (.inl k)
    · exact I.ok.has _ (.inr k)
  refine wpAny_comprehension_free (use := none) rfl hs (closure_ok cells) ok.kind (fun y hy e => by rw [ok.uniq y hy, e])
    (thn (hi.run pins s σ H _ I h) fun _ _ hx => thn hx fun _ sB hB => ?_)
  obtain ⟨it, fp, tn, J, HB, rfl, IB, T, stB, fB, q⟩ := hB
  refine PpSet.newSet_ok (newEnv_comp ?_)
  have IC := set_fresh_inv IB
  have gone : HB sB.heap.objs.size = none := IB.hok.fresh (Nat.le_refl _)
  obtain ⟨Wt, ⟨m0, w0⟩, turn⟩ := q _ gone
  generalize hD : sB.heap.objs.size = D at IC gone w0 turn ⊢
  generalize hsC : ({ sB with heap := sB.heap.push { cls := .type "set", dict := none, data := .set #[] 0 (.fresh 0 0 (!X.w.params.followText "set-order")) } } : Shared) = sC at IC ⊢
  have kBC : ∀ b o, sB.heap.get? b = some o → sC.heap.get? b = some o := fun b o e => by rw [← hsC]; exact Heap.get?_push_of_some _ e
  have zBC : sC.heap.objs.size = D + 1 := by rw [← hsC, ← hD]; exact Heap.size_push ..
  have below : ∀ b ∈ fp, b < D := fun b hb => by
    obtain ⟨o, e, _⟩ := T.obj _ _ stB b hb
    rw [← hD]
    exact Heap.lt_size e
  have fC : ∀ b ∈ fp, FpOk X pins (upd HB D (hoM X.w D Ms.nil)) b ∧ b < sC.heap.objs.size := fun b hb => by
    have hlt := below b hb
    exact ⟨⟨by rw [upd_ne (Nat.ne_of_lt hlt)]; exact (fB b hb).1, (fB b hb).2⟩, by rw [zBC]; exact Nat.lt_succ_of_lt hlt⟩
  have stC : tn 0 sC.heap := T.keep _ _ _ stB fun b _ o e => kBC b o e
  have ID := block_start IC ok hN fC
  have pg := hg sC (upd HB D (hoM X.w D Ms.nil)) sC.heap.objs.size (cellsFrom (sC.heap.objs.size + 1) scope.names (cloFrom X.env.cells scope.names [])) fp
  have pt := ht sC (upd HB D (hoM X.w D Ms.nil)) sC.heap.objs.size (cellsFrom (sC.heap.objs.size + 1) scope.names (cloFrom X.env.cells scope.names [])) fp
  have pe := he sC (upd HB D (hoM X.w D Ms.nil)) sC.heap.objs.size (cellsFrom (sC.heap.objs.size + 1) scope.names (cloFrom X.env.cells scope.names [])) fp
  have free : ∀ b ∈ fp, (upd HB D (hoM X.w D Ms.nil)) b = none := fun b hb => (fC b hb).1.1
  show codeAny _ _ (.compStart (.SetComp elt [⟨tg, iter, ifs, 0⟩] scope pos) 0 (.ref it) (.ref D) (compEnvC scope (cellsFrom (sC.heap.objs.size + 1) scope.names (cloFrom X.env.cells scope.names [])) sC.heap.objs.size X.env)) _ { sC with heap := pushCells (sC.heap.push { cls := .type "dict", data := .dict #[] }) scope.names }
  generalize hce : compEnvC scope (cellsFrom (sC.heap.objs.size + 1) scope.names (cloFrom X.env.cells scope.names [])) sC.heap.objs.size X.env = ce at ID pg pt pe ⊢
  have ceL : ce.locals = sC.heap.objs.size := by subst hce; rfl
  generalize hHC : upd HB D (hoM X.w D Ms.nil) = HC at IC ID pg pt pe w0 free fC
  generalize hsD : ({ sC with heap := pushCells (sC.heap.push { cls := .type "dict", data := .dict #[] }) scope.names } : Shared) = sD at ID ⊢
  have stD : tn 0 sD.heap := T.keep _ _ _ stC fun b _ o e => by rw [← hsD]; exact pushCells_keeps _ _ _ _ (Heap.get?_push_of_some _ e)
  have foot : ∀ {σ' : L2.St} {H' : Hp} {s' : Shared}, Inv (X.blk sC HC scope ce fp) [] σ' H' s' → (∀ b ∈ fp, H' b = none) → ∀ b ∈ fp, FpOk (X.blk sC HC scope ce fp) [] H' b := fun {σ' H' s'} I' hn b hb =>
    ⟨hn b hb, (I'.ok.exf b hb).1, I'.ok.exfs b hb, .inl hb, fun x c e => (I'.ok.exf b hb).2 x c e, fun p hp => absurd (show p ∈ ([] : List (Addr × Obj)) ++ [] from hp) (by simp)⟩
  -- the loop: i turns are done
  have loop : codeAny (model X.prog X.w) X.A (.compLoop (.SetComp elt [⟨tg, iter, ifs, 0⟩] scope pos) 0 (.ref it) (.ref D) ce) (compPost (model X.prog X.w) X.A X.xe none (EP X pins σ Q) (.ref D) sC.heap.objs.size) sD := by
    refine PpSet.compLoopS_any (fun m s' => ∃ i H', Inv (X.blk sC HC scope ce fp) [] (wipe σ (own.map (·.2))) H' s' ∧ tn i s'.heap ∧ (∀ b ∈ fp, H' b = none) ∧ Wt i m H') ?_ m0 ⟨0, HC, ID, stD, free, w0⟩
    rintro m sE ⟨i, HE, IE, stE, nE, wE'⟩
    rcases turn i m HE wE' with ⟨stop, qd⟩ | ⟨go, Nx, hNx, step⟩
    · refine thnF (T.done (X.blk sC HC scope ce fp) rfl rfl rfl hc i [] sE _ HE (fun _ _ => False) IE (foot IE nE) stE stop) fun r sF' ⟨hr, IF'⟩ => ?_
      subst hr
      have back : Inv X pins σ HE sF' := IC.call' (ch := fp) IF'.os IF'.base IF'.hok IF'.bare fun b hb => ⟨(fC b hb).1.2.2.2.1, (fC b hb).1.2.1, (fC b hb).1.2.2.2.2.1, (fC b hb).1.2.2.2.2.2⟩
      have nC : HE sC.heap.objs.size = none := by
        have z : HE ce.locals = none := IF'.free
        rwa [ceL] at z
      obtain ⟨mm, hn, _⟩ := IF'.loc
      have hn : sF'.heap.Ns ce.locals mm := hn
      rw [ceL] at hn
      obtain ⟨f0, f1, f2, f3, f4, f5⟩ := IC.fpOk (H' := HE) (Nat.le_refl _) nC
      refine ⟨mm, hn, fun h'' sb => ?_⟩
      exact ⟨.ref D, HE, back.turned (t' := sF'.toks) (fun b o hb e => (sb.2 b hb).trans e) f0 f1 f3 f4 f5, rfl, qd⟩
    · refine thnF (T.item (X.blk sC HC scope ce fp) rfl rfl rfl hc i [] sE _ HE (fun _ _ => False) IE (foot IE nE) stE go) fun r sF' ⟨u, hr, hF⟩ => ?_
      subst hr
      refine thnF hF fun _ sG ⟨x, HG, IG, rx, yx, stG, nG⟩ => ?_
      have held := IG.pinned (foot IG nG) (T.obj _ _ stG)
      refine thnF (pg.run _ sG _ HG x u _ held rx (step x HG yx)) fun _ sH' ⟨σ', HH, IH, hw, qH⟩ => ?_
      refine thnF (pt.run _ sH' σ' HH _ IH qH) fun b sI ⟨HI, II, qI⟩ => ?_
      -- a turn ends
      have turned : ∀ {s' : Shared} {H' : Hp}, Inv (X.blk sC HC scope ce fp) ([] ++ pinsAt fp sG.heap) σ' H' s' → Nx H' → ∃ m', m' < m ∧ ∃ i H', Inv (X.blk sC HC scope ce fp) [] (wipe σ (own.map (·.2))) H' s' ∧ tn i s'.heap ∧ (∀ b ∈ fp, H' b = none) ∧ Wt i m' H' := fun {s' H'} I' nx => by
        obtain ⟨m', hm, w'⟩ := hNx H' nx
        have kept : ∀ b ∈ fp, ∀ o, sG.heap.get? b = some o → s'.heap.get? b = some o ∧ H' b = none := fun b hb o e => by
          have z := I'.pin (b, o) (List.mem_append_right _ (List.mem_append_right _ (mem_pinsAt hb e)))
          exact ⟨z.1, z.2.1⟩
        have hl : (wipe σ (own.map (·.2))).length = σ'.length := by rw [← hw, wipe_length]
        refine ⟨m', hm, i + 1, H', (I'.unpinned (pins := [])).weak hl (fun j v e => ?_), T.keep _ _ _ stG fun b hb o e => (kept b hb o e).1, fun b hb => ?_, w'⟩
        · rw [← hw] at e
          exact (wipe_some e).1
        · obtain ⟨o, e, _⟩ := T.obj _ _ stG b hb
          exact (kept b hb o e).2
      cases b with
      | false => exact turned II qI
      | true =>
        refine thnF (pe.run _ sI σ' HI _ II qI) fun z sJ ⟨y, HJ, IJ, ry, k, t, ey, hDJ, room, nx⟩ => ?_
        subst ey
        exact add_ms (X := X.blk sC HC scope ce fp) IJ hDJ room ry fun sK IK => turned IK nx
  exact PpSet.codeAny_compStart_set loop (T.self X.A 0 _ _ _ stD loop)
end
/-! ### len of it -/
def tLenM (w : World) (ta : TE) : TE := fun σ H Q => ta σ H fun v H1 => ∃ (D : Addr) (t : Ms), v = .ref D ∧ H1 D = some (hoM w D t) ∧ t.n ≤ 4000 ∧ Q (.int (t.n : Nat)) H1
theorem pe_lenM {X : Cx} {e : Expr} {ta : TE} {p pos : Pos} (hg : Gl X "len") (hm : X.mg "len" = none) (he : PE X e ta) (hs : starEach [e] X.env = (false, eval e X.env) :: starEach [] X.env) : PE X (.Call (.Name "len" p) [e] [] pos) (tLenM X.w ta) := by
  refine ⟨fun pins s σ H Q I h => ?_⟩
  refine Call_ (ld_blt I hg hm boot_len (PyProof.Rows.callWith_builtin1 (PyProof.Rows.args_cons (thn (he.run pins s σ H _ I h) fun v s1 ⟨x, H1, I1, r1, q1⟩ => PyProof.Rows.args_nil ?_) hs) hs rfl))
  obtain ⟨D, t, rfl, hD, hn, q⟩ := q1
  cases r1
  obtain ⟨o, es, ep, tb, ho, hex, hd, _, _, _, _, hf, hsz, _⟩ := setO_get I1 hD
  exact call_len_set ho hex hd hf (by rw [hsz]; omega) ⟨.int t.n, H1, I1.tok _, ⟨_, by rw [hsz]⟩, q⟩
def lcI (bd : Rho → BV → Res Rho) (c : Rho → Res Bool) (x : Rho → Res BV) (ρ : Rho) : List BV → Res (List Int)
  | [] => .ok []
  | v :: vs => match bd ρ v with
    | .ok ρ1 => (noRz (c ρ1)).bind fun b => if b = true then (noRz (x ρ1)).bind fun u => match u.d with
      | .int k => (lcI bd c x ρ vs).bind fun us => .ok (k :: us)
      | _ => .er
      else lcI bd c x ρ vs
    | _ => .er
def msOf (ks : List Int) : Ms := ks.foldl Ms.add Ms.nil
def xLenSc (xi : Rho → Res (List BV)) (own : List Nat) (bd : Rho → BV → Res Rho) (c : Rho → Res Bool) (x : Rho → Res BV) : Rho → Res BV := fun ρ => (xi ρ).bind fun vs =>
  if vs.length ≤ 1000 then (lcI bd c x (fgt own ρ) vs).bind fun ks => .ok ⟨false, none, .int ((msOf ks).n : Nat)⟩ else .er
theorem ms_le : ∀ (ks : List Int) (t : Ms), (ks.foldl Ms.add t).n ≤ t.n + ks.length
  | [], t => Nat.le_refl _
  | k :: ks, t => by
    have h := ms_le ks (t.add k)
    have h2 : (t.add k).n ≤ t.n + 1 := by
      unfold Ms.add
      dsimp only
      split <;> omega
    rw [List.foldl_cons, List.length_cons]
    omega
theorem msOf_le (ks : List Int) : (msOf ks).n ≤ ks.length := by
  have := ms_le ks Ms.nil
  have e : Ms.nil.n = 0 := rfl
  unfold msOf
  omega
theorem msOf_snoc {ks : List Int} {k : Int} : msOf (ks ++ [k]) = (msOf ks).add k := by
  unfold msOf
  rw [List.foldl_append]
  rfl
/-- the state of the set comprehension -/
structure ScP (X : Cx) (S S2 : Sta) (cs : List Tm) (Da : Addr) (t : Ms) : Prop where
  a : Aft S S2
  R : S2.R X.K
  e : S2.τ = cs ++ S.τ
  hd : S2.H Da = some (hoM X.w Da t)
  zd : S2.Z Da = none
  nd : ∀ a ∈ ownR S2.ρ S2.ts ++ ownT S2.τ, a ≠ Da
  sd : S.H Da = none
  s0 : S.H0 Da = none
section
variable {X : Cx} {W : WX} {S : Sta}
theorem ScP.step {S2 : Sta} {cs : List Tm} {Da : Addr} {t : Ms} (P : ScP X S S2 cs Da t) {Z' H' : Hp} (st : Step S2.Z S2.H Z' H') (zh : Same Z' H') : ScP X S (S2.put Z' H' S2.τ) cs Da t :=
  ⟨P.a.put st, Rl.step P.R st zh, P.e, st.hh _ _ P.hd, st.none P.zd P.hd, P.nd, P.sd, P.s0⟩
theorem ScP.add {S2 : Sta} {cs : List Tm} {Da : Addr} {t : Ms} (P : ScP X S S2 cs Da t) (k : Int) : ScP X S (S2.put S2.Z (upd S2.H Da (hoM X.w Da (t.add k))) S2.τ) cs Da (t.add k) := by
  have R1 : Rl X.K S2.Z0 S2.H0 S2.Z S2.H S2.σ S2.ρ S2.ts S2.τ := P.R
  have off : ∀ a, a ≠ Da → ∀ o, S2.H a = some o → upd S2.H Da (hoM X.w Da (t.add k)) a = some o := fun a ne o e => by rw [upd_ne ne]; exact e
  have z0 : S2.H0 Da = none := by rw [P.a.h0]; exact P.s0
  refine ⟨⟨P.a.z0, P.a.h0, P.a.σ, P.a.ρ, P.a.ts, ?_⟩, ?_, P.e, upd_same, P.zd, P.nd, P.sd, P.s0⟩
  · have s1 := P.a.st
    exact ⟨s1.zz, fun b o e => off b (fun z => by rw [z, P.sd] at e; cases e) o (s1.hh b o e), s1.zn⟩
  · show Rl X.K S2.Z0 S2.H0 S2.Z (upd S2.H Da (hoM X.w Da (t.add k))) S2.σ S2.ρ S2.ts S2.τ
    exact R1.ext (Same.refl _) (fun a m => (R1.own_z a m).1) (fun a m o e => off a (P.nd a m) o e) (fun b o e => off b (fun z => by rw [z, P.zd] at e; cases e) o (R1.zh b o e)) (fun b o e => off b (fun z => by rw [z, z0] at e; cases e) o (R1.h0 b o e)) R1.zn
theorem sc_go {elt tg iter : Expr} {ifs : List Expr} {scope : Scope} {ow : List (Str × Nat)} {is : List Nat} {g : TG} {bd : Rho → BV → Res Rho} {xi : Rho → Res (List BV)} {c : Rho → Res Bool} {x : Rho → Res BV} {Q : VK}
    (hi : SI X W false tg iter xi) (hitm : ItmOk false xi) (hg : SG X.K is g bd) (his : ∀ i ∈ is, i ∈ ow.map (·.2)) (ht : AllB X scope fun Y => STt Y ifs c) (he : AllB X scope fun Y => SE Y W0 elt x) (R : S.R X.K) (g0 : GoodE X W S Q (xLenSc xi (ow.map (·.2)) bd c x S.ρ)) :
    tLenM X.w (tScM X.w (wPI X tg iter) g (uTs X scope ifs) (uE X scope elt) (ow.map (·.2))) S.σ S.H Q := by
  refine hi S _ R ?_
  unfold xLenSc at g0
  cases q : xi S.ρ with
  | er => rw [q] at g0; exact g0
  | rz cc => rw [q] at g0; exact g0
  | ok items =>
    rw [q] at g0
    replace g0 : GoodE X W S Q (if items.length ≤ 1000 then (lcI bd c x (fgt (ow.map (·.2)) S.ρ) items).bind fun ks => .ok ⟨false, none, .int ((msOf ks).n : Nat)⟩ else .er) := g0
    by_cases hlen : items.length ≤ 1000
    · rw [if_pos hlen] at g0
      intro S1 cs J a1 e1 R1 itg _ Da hDa
      have R1' : Rl X.K S1.Z0 S1.H0 S1.Z S1.H S1.σ S1.ρ S1.ts S1.τ := R1
      have hS : S.H Da = none := a1.st.hh.free hDa
      have hS0 : S.H0 Da = none := Rl.h0 R |>.free hS
      have st0 : Step S1.Z S1.H S1.Z (upd S1.H Da (hoM X.w Da Ms.nil)) := ⟨Same.refl _, fun b u e => by rw [upd_ne (ne_of_none e hDa)]; exact e, fun b u e => .inl e⟩
      have zh0 : Same S1.Z (upd S1.H Da (hoM X.w Da Ms.nil)) := fun b u e => st0.hh _ _ (R1'.zh _ _ e)
      have nd0 : ∀ a ∈ ownR S1.ρ S1.ts ++ ownT S1.τ, a ≠ Da := fun a m z => by
        obtain ⟨_, o, e, _⟩ := R1'.own_z a m
        rw [z, hDa] at e; cases e
      refine ⟨fun i m H => m = items.length - i ∧ i ≤ items.length ∧ ∃ S2 ks, ScP X S S2 cs Da (msOf ks) ∧ S2.H = H ∧ ks.length ≤ i ∧ GoodE X W S Q ((lcI bd c x (fgt (ow.map (·.2)) S.ρ) (items.drop i)).bind fun r => .ok ⟨false, none, .int ((msOf (ks ++ r)).n : Nat)⟩),
        ⟨items.length, by simp, Nat.zero_le _, S1.put S1.Z (upd S1.H Da (hoM X.w Da Ms.nil)) S1.τ, [], ⟨a1.put st0, Rl.step R1' st0 zh0, e1, upd_same, R1'.zh.free hDa, nd0, hS, hS0⟩, rfl, Nat.le_refl _, by rw [List.drop_zero]; exact g0⟩, ?_⟩
      rintro i m H ⟨rfl, hile, S2, ks, P, rfl, hul, g2⟩
      have Rcs : Rl X.K S2.Z0 S2.H0 S2.Z S2.H S2.σ S2.ρ S2.ts (cs ++ S.τ) := P.R.rl P.e
      by_cases hlt : i < items.length
      · obtain ⟨v, hv⟩ : ∃ v, items[i]? = some v := ⟨items[i], by simp [hlt]⟩
        have ed : items.drop i = v :: items.drop (i + 1) := by
          rw [List.drop_eq_getElem_cons hlt]
          congr 1
          have := List.getElem?_eq_getElem hlt
          rw [this] at hv
          exact Option.some.inj hv
        rw [ed] at g2
        obtain ⟨go, yld⟩ := itg.go Rcs hv
        refine .inr ⟨go, fun H' => ∃ S3 ks, ScP X S S3 cs Da (msOf ks) ∧ S3.H = H' ∧ ks.length ≤ i + 1 ∧ GoodE X W S Q ((lcI bd c x (fgt (ow.map (·.2)) S.ρ) (items.drop (i + 1))).bind fun r => .ok ⟨false, none, .int ((msOf (ks ++ r)).n : Nat)⟩), fun H' hN => ⟨items.length - (i + 1), by omega, rfl, hlt, hN⟩, fun y H' hy => ?_⟩
        obtain ⟨Z', t, st, zh, ob, owv, rfl⟩ := yld y H' hy
        have P1 := P.step st zh
        have R3 : Rl X.K S2.Z0 S2.H0 Z' H' S2.σ S2.ρ S2.ts [] := rl_empty P1.R
        have R4 := R3.wipe (fun c hc => by cases hc) (ow.map (·.2))
        unfold lcI at g2
        cases qb : bd (fgt (ow.map (·.2)) S.ρ) v with
        | er => rw [qb] at g2; exact g2.elim
        | rz cc => rw [qb] at g2; exact g2.elim
        | ok ρ1 =>
          rw [qb] at g2
          dsimp only at g2
          have eρ : S2.ρ = S.ρ := P.a.ρ
          have eσ : S2.σ = S.σ := P.a.σ
          rw [eρ, eσ] at R4
          refine hg.run R4 (fun c hc => by cases hc) ob owv (hitm _ _ q v (List.mem_of_getElem? hv)) qb fun σ' ts' R5 hw => ?_
          refine ⟨(hw _ his).trans wipe_wipe, ?_⟩
          obtain ⟨b, hcb, g3⟩ := noRz_bind (h := fun r => r.bind fun r => .ok ⟨false, none, .int ((msOf (ks ++ r)).n : Nat)⟩) rfl g2
          intro s0 H0 C clo fp pins s I
          have R5' : Sta.R X.K ⟨S2.Z0, S2.H0, Z', H', σ', ρ1, ts', []⟩ := R5
          refine ht s0 H0 C clo fp ⟨S2.Z0, S2.H0, Z', H', σ', ρ1, ts', []⟩ _ R5' ?_ pins s I
          rw [show c (⟨S2.Z0, S2.H0, Z', H', σ', ρ1, ts', []⟩ : Sta).ρ = .ok b from hcb]
          intro S6 a6 e6 R6
          have R6' : Rl X.K S6.Z0 S6.H0 S6.Z S6.H S6.σ S6.ρ S6.ts S6.τ := R6
          have P2 := P1.step (Z' := S6.Z) (H' := S6.H) a6.st R6'.zh
          cases b with
          | false =>
            rw [if_neg (by simp)]
            exact ⟨_, ks, P2, rfl, Nat.le_succ_of_le hul, g3⟩
          | true =>
            rw [if_pos rfl]
            replace g3 : GoodE X W S Q (((noRz (x ρ1)).bind fun u => (match u.d with
              | .int k => (lcI bd c x (fgt (ow.map (·.2)) S.ρ) (items.drop (i + 1))).bind fun us => .ok (k :: us)
              | _ => .er : Res (List Int))).bind fun r => .ok ⟨false, none, .int ((msOf (ks ++ r)).n : Nat)⟩) := g3
            obtain ⟨u, hxu, g4⟩ := noRz_bind (h := fun r => r.bind fun r => .ok ⟨false, none, .int ((msOf (ks ++ r)).n : Nat)⟩) rfl g3
            intro s1 H1 C1 clo1 fp1
            have eσ6 : S6.σ = σ' := a6.σ
            have eρ6 : S6.ρ = ρ1 := a6.ρ
            rw [← eσ6]
            refine he s1 H1 C1 clo1 fp1 S6 _ R6 ?_
            rw [show x S6.ρ = .ok u by rw [eρ6]; exact hxu]
            intro S7 t7 a7 e7 R7 f7
            have R7' : Rl X.K S7.Z0 S7.H0 S7.Z S7.H S7.σ S7.ρ S7.ts S7.τ := R7
            have P3 := (P2.step (Z' := S7.Z) (H' := S7.H) a7.st R7'.zh)
            have nh : ∀ {r : Res (List Int)}, r = .er → GoodE X W S Q (r.bind fun r => .ok ⟨false, none, .int ((msOf (ks ++ r)).n : Nat)⟩) → False := fun hr hg => by rw [hr] at hg; exact hg
            cases hd : u.d with
            | int k =>
              rw [hd] at g4
              refine ⟨k, msOf ks, rfl, P3.hd, ?_, _, ks ++ [k], by rw [msOf_snoc]; exact P3.add k, rfl, by simp; omega, ?_⟩
              · have := msOf_le ks
                unfold scanBound
                omega
              · cases ql : lcI bd c x (fgt (ow.map (·.2)) S.ρ) (items.drop (i + 1)) with
                | er => rw [ql] at g4; exact g4
                | rz cc => rw [ql] at g4; exact g4
                | ok rest =>
                  rw [ql] at g4
                  show GoodE X W S Q (.ok ⟨false, none, .int ((msOf ((ks ++ [k]) ++ rest)).n : Nat)⟩)
                  rw [List.append_assoc]
                  exact g4
            | none => rw [hd] at g4; exact (nh rfl g4).elim
            | bool b => rw [hd] at g4; exact (nh rfl g4).elim
            | str b => rw [hd] at g4; exact (nh rfl g4).elim
            | list b => rw [hd] at g4; exact (nh rfl g4).elim
            | tuple b => rw [hd] at g4; exact (nh rfl g4).elim
            | dict b => rw [hd] at g4; exact (nh rfl g4).elim
      · have e : i = items.length := by omega
        subst e
        refine .inl ⟨itg.stop Rcs (Nat.le_refl _), ?_⟩
        rw [List.drop_length] at g2
        replace g2 : GoodE X W S Q (.ok ⟨false, none, .int ((msOf (ks ++ [])).n : Nat)⟩) := g2
        rw [List.append_nil] at g2
        have Rτ : Rl X.K S2.Z0 S2.H0 S2.Z S2.H S2.σ S2.ρ S2.ts S.τ := by
          refine Rl.perm Rcs (fun c h => List.mem_append_right _ h) ?_
          have n := Rcs.nd
          rw [ownT_app, ← List.append_assoc] at n
          exact (List.nodup_append.mp n).2.1
        refine ⟨Da, msOf ks, rfl, P.hd, ?_, ?_⟩
        · have := msOf_le ks
          omega
        · refine GoodE.scal g2 rfl P.a.st ?_
          show Rl X.K S.Z0 S.H0 S2.Z S2.H S.σ S.ρ S.ts S.τ
          rw [P.a.z0, P.a.h0, P.a.σ, P.a.ρ, P.a.ts] at Rτ
          exact Rτ
    · rw [if_neg hlen] at g0
      exact g0.elim
theorem se_lenSc {elt tg iter : Expr} {ifs : List Expr} {scope : Scope} {ow : List (Str × Nat)} {p pos pos2 : Pos} {is : List Nat} {g : TG} {bd : Rho → BV → Res Rho} {xi : Rho → Res (List BV)} {c : Rho → Res Bool} {x : Rho → Res BV} (hl : Gl X "len") (hlm : X.mg "len" = none) (hcm : X.calm = true) (hN : X.N.Nodup) (ok : BlkOk X.N X.env.scope scope ow)
    (hi : SI X W false tg iter xi) (hitm : ItmOk false xi) (hpg : AllB X scope fun Y => PG Y tg g) (hg : SG X.K is g bd) (his : ∀ i ∈ is, i ∈ ow.map (·.2)) (ht : AllB X scope fun Y => STt Y ifs c) (he : AllB X scope fun Y => SE Y W0 elt x) (hs : ∀ x, foldedSetIterable iter X.env x = pure x)
    (hse : starEach [.SetComp elt [⟨tg, iter, ifs, 0⟩] scope pos2] X.env = (false, eval (.SetComp elt [⟨tg, iter, ifs, 0⟩] scope pos2) X.env) :: starEach [] X.env) :
    SE X W (.Call (.Name "len" p) [.SetComp elt [⟨tg, iter, ifs, 0⟩] scope pos2] [] pos) (xLenSc xi (ow.map (·.2)) bd c x) := by
  intro S Q R g0
  exact wE_of (pe_lenM hl hlm (pe_scM hcm hN pi_w ok hpg (tt := uTs X scope ifs) (te := uE X scope elt) (fun s H C cl fp => ⟨fun pins s1 σ H1 Q I h => h s H C cl fp pins s1 I⟩) (fun s H C cl fp => ⟨fun pins s1 σ H1 Q I h => h s H C cl fp pins s1 I⟩) hs) hse) (sc_go hi hitm hg his ht he R g0)
end
end Ev

set_option Elab.async false
set_option linter.all false
set_option maxRecDepth 100000
namespace Ev
open PySem PySem.Spec PyProof.Rows L2
/-! ### is True, is False -/
def dIsB : D → D → Res D
  | .bool b, .bool c => .ok (.bool (b == c))
  | _, _ => .er
theorem op_isB {X : Cx} : OpR X (compareOp .Is) (fun x y H Q => ∃ b c, x = .bl b ∧ y = .bl c ∧ Q (.bl (b == c)) H) := by
  intro pins s σ H x y v u Q I rx ry h
  obtain ⟨b, c, rfl, rfl, q⟩ := h
  cases rx
  cases ry
  show wpAny _ _ ((isSame (Value.bool b) (Value.bool c)) >>= fun z => pure (Value.bool z)) _ _ s
  refine wpAny_bind (wpAny_isSame_plain (by cases b <;> cases c <;> rfl) ?_)
  refine wpAny_pure (fin_bl I q ?_)
  cases b <;> cases c <;> rfl
theorem ops_isB {X : Cx} {W : WX} : OpS X W (compareOp .Is) (pl dIsB) := by
  refine OpS.scal (fun d e r q => ?_) (fun d e c q => ?_) fun d e r t t' Z H k k' Q q zh o1 o2 hq => ?_
  · cases d <;> cases e <;> first | (cases q; done) | (cases q; rfl)
  · cases d <;> cases e <;> cases q
  · cases d <;> first | (cases q; done) | skip
    cases e <;> first | (cases q; done) | skip
    rename_i b c
    refine wO_of op_isB ⟨b, c, rfl, rfl, ?_⟩
    cases q
    exact hq
@[simp] theorem dIsB_b {b c : Bool} : dIsB (.bool b) (.bool c) = .ok (.bool (b == c)) := Eq.trans rfl rfl
end Ev

set_option Elab.async false
set_option linter.all false
set_option maxRecDepth 100000
namespace Ev
open PySem PySem.Spec PyProof.Rows L2

/-! ### stepping over mirrors -/
section
variable {ρ : Rho} {a b c : Rho → Res BV} {s t : Rho → SR} {p q : Rho → Res Bool} {R : SR}
/-- the statement ahead is evaluated while what follows stands under a name -/
theorem sq (h : ∀ T, T = t → (s ρ).seq T = R) : sSeq s t ρ = R := h t rfl
theorem sqR (h : ∀ T R', T = t → R' = R → (s ρ).seq T = R') : sSeq s t ρ = R := h t R rfl rfl
theorem sFq {is : List Nat} (h : ∀ T R', T = s → R' = R → T (fgt is ρ) = R') : sF is s ρ = R := h s R rfl rfl
theorem sHq {is : List Nat} (h : ∀ T R', T = s → R' = R → T (shN is ρ) = R') : sH is s ρ = R := h s R rfl rfl
@[simp] theorem sF_ap {is : List Nat} : sF is s ρ = s (fgt is ρ) := Eq.trans rfl rfl
@[simp] theorem sH_ap {is : List Nat} : sH is s ρ = s (shN is ρ) := Eq.trans rfl rfl
@[simp] theorem fgt_nl : fgt [] ρ = ρ := Eq.trans rfl rfl
@[simp] theorem fgt_cs {i : Nat} {is : List Nat} : fgt (i :: is) ρ = fgt is (setSl ρ i .em) := Eq.trans rfl rfl
@[simp] theorem shN_nl : shN [] ρ = ρ := Eq.trans rfl rfl
@[simp] theorem shN_cs {i : Nat} {is : List Nat} : shN (i :: is) ρ = shN is (shN1 i ρ) := Eq.trans rfl rfl
/-- setting a slot of a written list -/
def stA (j : Nat) (ρ : Rho) (i : Nat) (x : Sl) : Rho := (killA j ρ).set i x
@[simp] theorem setSl_stA {i : Nat} {x : Sl} : setSl ρ i x = stA i ρ i x := Eq.trans rfl rfl
@[simp] theorem stA_n {j i : Nat} {x : Sl} : stA j [] i x = [] := Eq.trans rfl rfl
@[simp] theorem stA_0 {j : Nat} {x y : Sl} : stA j (y :: ρ) 0 x = x :: killA j ρ := Eq.trans rfl rfl
@[simp] theorem stA_va {j i : Nat} {x : Sl} {k : Lv} {d : D} : stA j (.va k d :: ρ) (i + 1) x = .va k d :: stA j ρ i x := Eq.trans rfl rfl
@[simp] theorem stA_em {j i : Nat} {x : Sl} : stA j (.em :: ρ) (i + 1) x = .em :: stA j ρ i x := Eq.trans rfl rfl
@[simp] theorem stA_ex {j i : Nat} {x : Sl} {e : Addr} : stA j (.ex e :: ρ) (i + 1) x = .ex e :: stA j ρ i x := Eq.trans rfl rfl
@[simp] theorem stA_na {j i : Nat} {x y : Sl} (h : noAl y = true) : stA j (y :: ρ) (i + 1) x = y :: stA j ρ i x := by
  unfold stA
  rw [kil_na h]
  rfl
@[simp] theorem shN1_of {i : Nat} {k : Lv} {d : D} (h : ρ[i]? = some (.va k d)) : shN1 i ρ = if flat d = true then ρ else ρ.set i (.va (some 0) d) := by
  unfold shN1; rw [h]
theorem sMov_of {i j : Nat} {k : Lv} {d : D} (h : ρ[j]? = some (.va k d)) : sMov i j ρ = .nx (setSl (setSl ρ j .em) i (.va (if flat d = true then none else k) d)) := by
  unfold sMov; rw [h]
/-! ### expressions -/
theorem e_va {i : Nat} {k : Lv} {d : D} (h : ρ[i]? = some (.va k d)) : xVa i ρ = .ok ⟨true, k, d⟩ := xVa_ap h
theorem e_pl {g : D → D → Res D} {u v : BV} {d : D} (ha : a ρ = .ok u) (hb : b ρ = .ok v) (h : g u.d v.d = .ok d) : x2 (pl g) a b ρ = .ok ⟨false, none, d⟩ := by
  rw [ap_x2, ha, Res.bind_ok, hb, Res.bind_ok, pl_ap, h]; rfl
theorem settle_t (v : BV) : ∃ u : BV, Ev.settle true v = .ok u ∧ u.d = v.d ∧ (flat v.d = true ∨ u.k = some 0 ∨ u.b = true ∧ u.k = v.k ∧ v.b = true) := by
  obtain ⟨bb, k, d⟩ := v
  by_cases hf : flat d = true
  · exact ⟨⟨false, none, d⟩, settle_f hf, rfl, .inl hf⟩
  · unfold Ev.settle
    rw [if_neg hf]
    cases bb
    · refine ⟨⟨false, some 0, d⟩, by simp, rfl, .inr (.inl rfl)⟩
    · refine ⟨⟨true, k, d⟩, by simp, rfl, .inr (.inr ⟨rfl, rfl, rfl⟩)⟩
theorem args1 {u : BV} (ha : a ρ = .ok u) : ∃ vs, evA true [a] ρ = .ok vs ∧ dsB vs = [u.d] ∧ vs.length = 1 := by
  obtain ⟨v, h, e, _⟩ := settle_t u
  exact ⟨[v], by rw [evA_cons, ha, Res.bind_ok, h]; rfl, by simp [dsB, e], rfl⟩
theorem args2 {u v : BV} (ha : a ρ = .ok u) (hb : b ρ = .ok v) : ∃ vs, evA true [a, b] ρ = .ok vs ∧ dsB vs = [u.d, v.d] ∧ vs.length = 2 := by
  obtain ⟨u', h, e, _⟩ := settle_t u
  obtain ⟨v', h', e', _⟩ := settle_t v
  exact ⟨[u', v'], by rw [evA_cons, ha, Res.bind_ok, h, Res.bind_ok, evA_cons, hb, Res.bind_ok, h']; rfl, by simp [dsB, e, e'], rfl⟩
theorem args3 {u v w : BV} (ha : a ρ = .ok u) (hb : b ρ = .ok v) (hc : c ρ = .ok w) : ∃ vs, evA true [a, b, c] ρ = .ok vs ∧ dsB vs = [u.d, v.d, w.d] ∧ vs.length = 3 := by
  obtain ⟨u', h, e, _⟩ := settle_t u
  obtain ⟨v', h', e', _⟩ := settle_t v
  obtain ⟨w', h2, e2, _⟩ := settle_t w
  exact ⟨[u', v', w'], by rw [evA_cons, ha, Res.bind_ok, h, Res.bind_ok, evA_cons, hb, Res.bind_ok, h', Res.bind_ok, evA_cons, hc, Res.bind_ok, h2]; rfl, by simp [dsB, e, e', e2], rfl⟩
/-- a call of an own def -/
theorem call1 {φ : List D → Res (Lv × D)} {u : BV} {d : D} (ha : a ρ = .ok u) (h : φ [u.d] = .ok (none, d)) : xA true (xCall φ 1) [a] ρ = .ok ⟨false, none, d⟩ := by
  obtain ⟨vs, e1, e2, e3⟩ := args1 ha
  exact call_ok e1 e3 (by rw [e2]; exact h)
theorem call2 {φ : List D → Res (Lv × D)} {u v : BV} {d : D} (ha : a ρ = .ok u) (hb : b ρ = .ok v) (h : φ [u.d, v.d] = .ok (none, d)) : xA true (xCall φ 2) [a, b] ρ = .ok ⟨false, none, d⟩ := by
  obtain ⟨vs, e1, e2, e3⟩ := args2 ha hb
  exact call_ok e1 e3 (by rw [e2]; exact h)
theorem call3 {φ : List D → Res (Lv × D)} {u v w : BV} {d : D} (ha : a ρ = .ok u) (hb : b ρ = .ok v) (hc : c ρ = .ok w) (h : φ [u.d, v.d, w.d] = .ok (none, d)) : xA true (xCall φ 3) [a, b, c] ρ = .ok ⟨false, none, d⟩ := by
  obtain ⟨vs, e1, e2, e3⟩ := args3 ha hb hc
  exact call_ok e1 e3 (by rw [e2]; exact h)
/-- the result of a call, whatever its level is, if it is flat -/
theorem call1f {φ : List D → Res (Lv × D)} {u : BV} {k : Lv} {d : D} (ha : a ρ = .ok u) (h : φ [u.d] = .ok (k, d)) (hf : flat d = true) : xA true (xCall φ 1) [a] ρ = .ok ⟨false, none, d⟩ := by
  obtain ⟨vs, e1, e2, e3⟩ := args1 ha
  rw [ap_xA, e1, Res.bind_ok, xCall_ap e3, e2, h, Res.bind_ok, if_pos hf]
theorem b1_of {g : D → Res D} {u : BV} {d : D} (ha : a ρ = .ok u) (h : g u.d = .ok d) : xA true (b1 g) [a] ρ = .ok ⟨false, none, d⟩ := by
  obtain ⟨v, h1, e, _⟩ := settle_t u
  rw [ap_xA, evA_cons, ha, Res.bind_ok, h1, Res.bind_ok, evA_nil, Res.bind_ok, Res.bind_ok, b1_ap, e, h]; rfl
/-! ### comprehensions -/
theorem lcL_map {A : Type} {bd : Rho → BV → Res Rho} {cc : Rho → Res Bool} {x : Rho → Res BV} (iv : A → BV) (F : A → D) : ∀ (as : List A), (∀ e ∈ as, ∃ ρ1, bd ρ (iv e) = .ok ρ1 ∧ cc ρ1 = .ok true ∧ ∃ bb k, x ρ1 = .ok ⟨bb, k, F e⟩ ∧ (flat (F e) = true ∨ bb = false ∧ k = none)) →
    ∃ us : List BV, lcL bd cc x ρ (as.map iv) = .ok us ∧ dsB us = as.map F ∧ (us.all fun v => (v.k == none && !v.b) || flat v.d) = true
  | [], _ => ⟨[], rfl, rfl, rfl⟩
  | e :: as, h => by
    obtain ⟨ρ1, h1, h2, bb, k, h3, h4⟩ := h e List.mem_cons_self
    obtain ⟨us, f1, f2, f3⟩ := lcL_map iv F as fun z hz => h z (List.mem_cons_of_mem _ hz)
    refine ⟨⟨false, none, F e⟩ :: us, ?_, ?_, ?_⟩
    · have hs : Ev.settle false ⟨bb, k, F e⟩ = .ok ⟨false, none, F e⟩ := by
        rcases h4 with h4 | ⟨rfl, rfl⟩
        · exact settle_f h4
        · unfold Ev.settle; split <;> rfl
      rw [List.map_cons, lcL, h1]
      dsimp only
      rw [h2, h3]
      simp only [noRz, Res.bind_ok, if_true, hs, f1]
    · simp [dsB] at f2 ⊢; exact f2
    · simp at f3 ⊢; exact f3
theorem mkLst_of {us : List BV} {ds : List D} (h : dsB us = ds) (h' : (us.all fun v => (v.k == none && !v.b) || flat v.d) = true) : mkLst us = .ok ⟨false, none, .list ds⟩ := by
  unfold mkLst dispLv
  rw [if_pos h', Res.bind_ok, h]
  rfl
/-- a comprehension whose elements are new or flat -/
theorem lc_map {A : Type} {xi : Rho → Res (List BV)} {own : List Nat} {bd : Rho → BV → Res Rho} {cc : Rho → Res Bool} {x : Rho → Res BV} (as : List A) (iv : A → BV) (F : A → D) (hi : xi ρ = .ok (as.map iv)) (hl : as.length ≤ 1000000)
    (h : ∀ e ∈ as, ∃ ρ1, bd (fgt own ρ) (iv e) = .ok ρ1 ∧ cc ρ1 = .ok true ∧ ∃ bb k, x ρ1 = .ok ⟨bb, k, F e⟩ ∧ (flat (F e) = true ∨ bb = false ∧ k = none)) : xLc xi own bd cc x ρ = .ok ⟨false, none, .list (as.map F)⟩ := by
  obtain ⟨us, e1, e2, e3⟩ := lcL_map iv F as h
  unfold xLc
  rw [hi, Res.bind_ok, if_pos (by rw [List.length_map]; exact hl), e1, Res.bind_ok, mkLst_of e2 e3]
/-- with a test -/
theorem lcL_fil {A : Type} {bd : Rho → BV → Res Rho} {cc : Rho → Res Bool} {x : Rho → Res BV} (iv : A → BV) (P : A → Bool) (F : A → D) : ∀ (as : List A), (∀ e ∈ as, ∃ ρ1, bd ρ (iv e) = .ok ρ1 ∧ cc ρ1 = .ok (P e) ∧ (P e = true → ∃ bb k, x ρ1 = .ok ⟨bb, k, F e⟩ ∧ (flat (F e) = true ∨ bb = false ∧ k = none))) →
    ∃ us : List BV, lcL bd cc x ρ (as.map iv) = .ok us ∧ dsB us = (as.filter P).map F ∧ (us.all fun v => (v.k == none && !v.b) || flat v.d) = true
  | [], _ => ⟨[], rfl, rfl, rfl⟩
  | e :: as, h => by
    obtain ⟨ρ1, h1, h2, h3⟩ := h e List.mem_cons_self
    obtain ⟨us, f1, f2, f3⟩ := lcL_fil iv P F as fun z hz => h z (List.mem_cons_of_mem _ hz)
    by_cases hp : P e = true
    · obtain ⟨bb, k, h3, h4⟩ := h3 hp
      refine ⟨⟨false, none, F e⟩ :: us, ?_, ?_, ?_⟩
      · have hs : Ev.settle false ⟨bb, k, F e⟩ = .ok ⟨false, none, F e⟩ := by
          rcases h4 with h4 | ⟨rfl, rfl⟩
          · exact settle_f h4
          · unfold Ev.settle; split <;> rfl
        rw [List.map_cons, lcL, h1]
        dsimp only
        rw [h2, h3]
        simp only [noRz, Res.bind_ok, hp, if_true, hs, f1]
      · rw [List.filter_cons_of_pos hp]
        simp [dsB] at f2 ⊢; exact f2
      · simp at f3 ⊢; exact f3
    · refine ⟨us, ?_, ?_, f3⟩
      · rw [List.map_cons, lcL, h1]
        dsimp only
        rw [h2]
        simp only [noRz, Res.bind_ok, if_neg hp, f1]
      · rw [List.filter_cons_of_neg hp]; exact f2
theorem lc_fil {A : Type} {xi : Rho → Res (List BV)} {own : List Nat} {bd : Rho → BV → Res Rho} {cc : Rho → Res Bool} {x : Rho → Res BV} (as : List A) (iv : A → BV) (P : A → Bool) (F : A → D) (hi : xi ρ = .ok (as.map iv)) (hl : as.length ≤ 1000000)
    (h : ∀ e ∈ as, ∃ ρ1, bd (fgt own ρ) (iv e) = .ok ρ1 ∧ cc ρ1 = .ok (P e) ∧ (P e = true → ∃ bb k, x ρ1 = .ok ⟨bb, k, F e⟩ ∧ (flat (F e) = true ∨ bb = false ∧ k = none))) : xLc xi own bd cc x ρ = .ok ⟨false, none, .list ((as.filter P).map F)⟩ := by
  obtain ⟨us, e1, e2, e3⟩ := lcL_fil iv P F as h
  unfold xLc
  rw [hi, Res.bind_ok, if_pos (by rw [List.length_map]; exact hl), e1, Res.bind_ok, mkLst_of e2 e3]
/-! ### loops -/
theorem forL_fold {S A : Type} {bd : Rho → BV → Res Rho} (iv : A → BV) (st : S → Rho) (f : S → A → S) (inv : S → Prop) : ∀ (as : List A) (s0 : S),
    (∀ s0 e, e ∈ as → inv s0 → (∃ ρ1, bd (st s0) (iv e) = .ok ρ1 ∧ (s ρ1 = .nx (st (f s0 e)) ∨ s ρ1 = .ct (st (f s0 e)))) ∧ inv (f s0 e)) → inv s0 →
    forL bd s (as.map iv) (st s0) = .nx (st (as.foldl f s0)) ∧ inv (as.foldl f s0)
  | [], s0, _, h0 => ⟨rfl, h0⟩
  | e :: as, s0, h, h0 => by
    obtain ⟨⟨ρ1, h1, h2⟩, h3⟩ := h s0 e List.mem_cons_self h0
    obtain ⟨g1, g2⟩ := forL_fold iv st f inv as (f s0 e) (fun s1 z hz => h s1 z (List.mem_cons_of_mem _ hz)) h3
    refine ⟨?_, g2⟩
    rw [List.map_cons]
    rcases h2 with h2 | h2
    · rw [forL_nx h1 h2, g1]; rfl
    · rw [forL_ct h1 h2, g1]; rfl
/-- a for loop that changes the state by f -/
theorem sFor_fold {S A : Type} {xi : Rho → Res (List BV)} {bd : Rho → BV → Res Rho} (as : List A) (iv : A → BV) (st : S → Rho) (f : S → A → S) (inv : S → Prop) (s0 : S) (hi : xi (st s0) = .ok (as.map iv)) (h0 : inv s0)
    (h : ∀ s0 e, e ∈ as → inv s0 → (∃ ρ1, bd (st s0) (iv e) = .ok ρ1 ∧ (s ρ1 = .nx (st (f s0 e)) ∨ s ρ1 = .ct (st (f s0 e)))) ∧ inv (f s0 e)) :
    sFor xi bd s (st s0) = .nx (st (as.foldl f s0)) ∧ inv (as.foldl f s0) := by
  obtain ⟨e1, e2⟩ := forL_fold iv st f inv as s0 h h0
  exact ⟨sFor_nx hi e1, e2⟩
/-- a loop over the places of a list: the state behind i turns is st i -/
theorem forL_steps {A : Type} {bd : Rho → BV → Res Rho} (iv : A → BV) (st : Nat → Rho) : ∀ (as : List A) (n : Nat),
    (∀ i e, as[i]? = some e → ∃ ρ1, bd (st (n + i)) (iv e) = .ok ρ1 ∧ (s ρ1 = .nx (st (n + i + 1)) ∨ s ρ1 = .ct (st (n + i + 1)))) →
    forL bd s (as.map iv) (st n) = .nx (st (n + as.length))
  | [], n, _ => rfl
  | e :: as, n, h => by
    obtain ⟨ρ1, h1, h2⟩ := h 0 e rfl
    have g := forL_steps iv st as (n + 1) fun i z hz => by
      have := h (i + 1) z (by simpa using hz)
      rw [show n + 1 + i = n + (i + 1) by omega]
      exact this
    rw [List.map_cons]
    rw [show n + (e :: as).length = n + 1 + as.length by rw [List.length_cons]; omega]
    rcases h2 with h2 | h2
    · exact (forL_nx h1 h2).trans g
    · exact (forL_ct h1 h2).trans g
theorem sFor_steps {A : Type} {xi : Rho → Res (List BV)} {bd : Rho → BV → Res Rho} (as : List A) (iv : A → BV) (st : Nat → Rho) (hi : xi (st 0) = .ok (as.map iv))
    (h : ∀ i e, as[i]? = some e → ∃ ρ1, bd (st i) (iv e) = .ok ρ1 ∧ (s ρ1 = .nx (st (i + 1)) ∨ s ρ1 = .ct (st (i + 1)))) : sFor xi bd s (st 0) = .nx (st as.length) := by
  refine sFor_nx hi ?_
  have := forL_steps iv st as 0 fun i e hz => by rw [Nat.zero_add]; exact h i e hz
  rwa [Nat.zero_add] at this
/-- a loop that changes nothing -/
theorem sFor_id {A : Type} {xi : Rho → Res (List BV)} {bd : Rho → BV → Res Rho} (as : List A) (iv : A → BV) (hi : xi ρ = .ok (as.map iv))
    (h : ∀ e ∈ as, ∃ ρ1, bd ρ (iv e) = .ok ρ1 ∧ (s ρ1 = .nx ρ ∨ s ρ1 = .ct ρ)) : sFor xi bd s ρ = .nx ρ :=
  sFor_steps as iv (fun _ => ρ) hi fun i e hz => h e (List.mem_of_getElem? hz)
end
/-! ### items -/
theorem intItems_eq (n : Nat) : intItems 0 1 n = (List.range n).map fun i => ⟨false, none, .int (i : Nat)⟩ := by
  unfold intItems
  refine List.map_congr_left fun i _ => ?_
  have e : (0 : Int) + (i : Nat) * 1 = (i : Nat) := by omega
  rw [e]
theorem range1_n {n : Nat} {bb : Bool} {k : Lv} (h : n < 2 ^ 40) : rangeV1 [⟨bb, k, .int (n : Nat)⟩] = .ok ((List.range n).map fun i => ⟨false, none, .int (i : Nat)⟩) := by
  rw [range1_i (inLine_of (by omega) (by omega)), intItems_eq]
  rfl
theorem it_range1 {ρ : Rho} {a : Rho → Res BV} {n : Nat} {bb : Bool} {k : Lv} (ha : a ρ = .ok ⟨bb, k, .int (n : Nat)⟩) (h : n < 2 ^ 40) : xItA rangeV1 [a] ρ = .ok ((List.range n).map fun i => ⟨false, none, .int (i : Nat)⟩) := by
  rw [xIt_of, evA_cons, ha, Res.bind_ok, settle_i, Res.bind_ok, evA_nil, Res.bind_ok, Res.bind_ok, range1_n h]
theorem flats_all {ds : List D} (h : ∀ d ∈ ds, flat d = true) : flats ds = true := by
  induction ds with
  | nil => rfl
  | cons d ds ih => rw [flats_c, h d List.mem_cons_self, ih fun z hz => h z (List.mem_cons_of_mem _ hz)]; rfl
theorem flats_map {A : Type} {f : A → D} {v : List A} (h : ∀ x, flat (f x) = true) : flats (v.map f) = true := flats_all fun d hd => by
  obtain ⟨x, _, rfl⟩ := List.mem_map.mp hd
  exact h x
theorem settle_list {bb : Bool} {k : Lv} {ds : List D} : Ev.settle true ⟨bb, k, .list ds⟩ = .ok ⟨bb, if bb = true then k else some 0, .list ds⟩ := by
  cases bb
  · exact settle_lo
  · exact settle_lt
/-- the items of a list -/
theorem it_list {ρ : Rho} {a : Rho → Res BV} {cl bb : Bool} {k : Lv} {ds : List D} (ha : a ρ = .ok ⟨bb, k, .list ds⟩) (hk : bb = false ∨ k = some 0 ∨ cl = false ∧ flats ds = true) : xItV cl a ρ = .ok (ds.map itm) := by
  rw [xItV_of, ha, Res.bind_ok, settle_list, Res.bind_ok]
  unfold itemsV
  dsimp only
  refine if_pos ?_
  rcases hk with rfl | rfl | hk
  · exact .inl rfl
  · left; split <;> rfl
  · exact .inr hk
theorem it_flat {A : Type} {ρ : Rho} {a : Rho → Res BV} {cl bb : Bool} {k : Lv} {v : List A} {f : A → D} (ha : a ρ = .ok ⟨bb, k, .list (v.map f)⟩) (hf : ∀ x, flat (f x) = true) (hk : bb = false ∨ k = some 0 ∨ cl = false) : xItV cl a ρ = .ok (v.map fun x => ⟨false, none, f x⟩) := by
  rw [it_list ha (hk.imp_right (Or.imp_right fun z => ⟨z, flats_map hf⟩)), List.map_map]
  congr 1
  exact List.map_congr_left fun x _ => itm_flat (hf x)
/-- the items of a shared list of lists -/
theorem it_rows {A : Type} {ρ : Rho} {a : Rho → Res BV} {cl bb : Bool} {k : Lv} {v : List A} {f : A → List D} (ha : a ρ = .ok ⟨bb, k, .list (v.map fun x => .list (f x))⟩) (hk : bb = false ∨ k = some 0) : xItV cl a ρ = .ok (v.map fun x => ⟨false, some 0, .list (f x)⟩) := by
  rw [it_list ha (hk.imp_right .inl), List.map_map]
  congr 1
theorem lstI_of {cl bb : Bool} {k : Lv} {ds : List D} (hk : bb = false ∨ k = some 0 ∨ cl = false ∧ flats ds = true) : lstI cl ⟨bb, if bb = true then k else some 0, .list ds⟩ = .ok ds := by
  unfold lstI
  dsimp only
  refine if_pos ?_
  rcases hk with rfl | rfl | hk
  · exact .inl rfl
  · left; split <;> rfl
  · exact .inr hk
theorem it_zip {A B : Type} {ρ : Rho} {a b : Rho → Res BV} {cl ba bb : Bool} {ka kb : Lv} {u : List A} {v : List B} {f : A → D} {g : B → D} (ha : a ρ = .ok ⟨ba, ka, .list (u.map f)⟩) (hb : b ρ = .ok ⟨bb, kb, .list (v.map g)⟩)
    (hk : ba = false ∨ ka = some 0 ∨ cl = false ∧ flats (u.map f) = true) (hk' : bb = false ∨ kb = some 0 ∨ cl = false ∧ flats (v.map g) = true) : xItA (zipV cl) [a, b] ρ = .ok ((u.zip v).map fun p => itm (.tuple [f p.1, g p.2])) := by
  rw [xIt_of, evA_cons, ha, Res.bind_ok, settle_list, Res.bind_ok, evA_cons, hb, Res.bind_ok, settle_list, Res.bind_ok, evA_nil]
  simp only [Res.bind_ok]
  unfold zipV
  dsimp only
  rw [lstI_of hk, Res.bind_ok, lstI_of hk', Res.bind_ok]
  congr 1
  rw [List.zip, List.map_zipWith, List.zipWith_map]
theorem it_enum {A : Type} {ρ : Rho} {a : Rho → Res BV} {cl ba : Bool} {ka : Lv} {u : List A} {f : A → D} (ha : a ρ = .ok ⟨ba, ka, .list (u.map f)⟩)
    (hk : ba = false ∨ ka = some 0 ∨ cl = false ∧ flats (u.map f) = true) : xItA (enumV cl) [a] ρ = .ok (u.zipIdx.map fun p => itm (.tuple [.int (p.2 : Nat), f p.1])) := by
  rw [xIt_of, evA_cons, ha, Res.bind_ok, settle_list, Res.bind_ok, evA_nil]
  simp only [Res.bind_ok]
  unfold enumV
  dsimp only
  rw [lstI_of hk, Res.bind_ok]
  congr 1
  rw [List.mapIdx_eq_zipIdx_map, List.zipIdx_map, List.map_map]
  rfl
@[simp] theorem itm_l {ds : List D} : itm (.list ds) = ⟨false, some 0, .list ds⟩ := by simp [itm]
@[simp] theorem itm_d {d : D} : (itm d).d = d := Eq.trans rfl rfl
@[simp] theorem itm_kf {d : D} (h : flat d = true) : (itm d).k = none := by simp [itm, h]
@[simp] theorem bdT_2 {ρ : Rho} {i j : Nat} {v : BV} {x y : D} (h : v.d = .tuple [x, y]) : bdT [i, j] ρ v = .ok (setSl (setSl ρ i (.va (itm x).k x)) j (.va (itm y).k y)) := by
  unfold bdT
  rw [h]
  rfl
@[simp] theorem bd1_ap {ρ : Rho} {i : Nat} {v : BV} : bd1 i ρ v = .ok (setSl ρ i (.va v.k v.d)) := Eq.trans rfl rfl
/-! places in written lists -/
theorem atI_n {α : Type} [Inhabited α] {xs : List D} {f : α → D} {v : List α} {i : Nat} (e : xs = v.map f) (h : i < v.length) : atI xs (i : Int) = some (f (v.getD i default)) := by
  subst e
  refine atI_nat ?_
  rw [List.getElem?_map, List.getElem?_eq_getElem h, List.getD, List.getElem?_eq_getElem h]
  rfl
theorem ix_n {α : Type} [Inhabited α] {f : α → D} {v : List α} {i : Nat} {bb b2 : Bool} {k k2 : Lv} (h : i < v.length) : ixD ⟨bb, k, .list (v.map f)⟩ ⟨b2, k2, .int (i : Nat)⟩ = .ok (pick ⟨bb, k, .list (v.map f)⟩ (pd k) (f (v.getD i default))) :=
  ixD_l (atI_n rfl h)
theorem inLine_n {n : Nat} (h : n < 2 ^ 40) : inLine (n : Int) = true := inLine_of (by omega) (by omega)
end Ev
namespace Ev
open PySem PySem.Spec PyProof.Rows L2
/-! ### more loops and places -/
section
variable {ρ : Rho} {a b c : Rho → Res BV} {s t : Rho → SR}
/-- a loop each turn of which appends to one list -/
theorem sFor_app {A : Type} {xi : Rho → Res (List BV)} {bd : Rho → BV → Res Rho} (as : List A) (iv : A → BV) (mk : List D → Rho) (F : A → D) (hi : xi (mk []) = .ok (as.map iv)) (hl : as.length ≤ 1000000)
    (h : ∀ ds e, e ∈ as → ds.length < sizeLine → ∃ ρ1, bd (mk ds) (iv e) = .ok ρ1 ∧ (s ρ1 = .nx (mk (ds ++ [F e])) ∨ s ρ1 = .ct (mk (ds ++ [F e])))) : sFor xi bd s (mk []) = .nx (mk (as.map F)) := by
  have := sFor_steps (s := s) (xi := xi) (bd := bd) as iv (fun n => mk ((as.take n).map F)) (by simpa using hi) fun i e he => by
    have hi' := (List.getElem?_eq_some_iff.mp he).1
    have hs : sizeLine = 16777216 := by decide
    have h2 := h ((as.take i).map F) e (List.mem_of_getElem? he) (by rw [List.length_map, List.length_take]; omega)
    have e1 : (as.take (i + 1)).map F = (as.take i).map F ++ [F e] := by rw [List.take_add_one, he, List.map_append]; rfl
    rw [e1]
    exact h2
  simpa using this
theorem appM_flat {i j : Nat} {k kj : Lv} {ds : List D} {d : D} (h : ρ[i]? = some (.va k (.list ds))) (h2 : ρ[j]? = some (.va kj d)) (hf : flat d = true) (hij : i ≠ j) (hk : k ≠ some 0) (hl : ds.length < sizeLine) : sAppM (xPl i) j ρ = .nx (setSl (setSl ρ j .em) i (.va k (.list (ds ++ [d])))) := by
  have e1 : xPl i ρ = .ok (i, []) := by unfold xPl plcR; rw [h]
  have e2 : atP ρ (i, []) = .ok (k, .list ds) := by unfold atP; simp only [h]; rfl
  have e3 : atP (setSl ρ j .em) (i, []) = .ok (k, .list ds) := by unfold atP; simp only [atP_em (q := (i, [])) hij h]; rfl
  unfold sAppM
  rw [e1]
  dsimp only
  rw [if_pos ⟨by unfold isL; rw [e2], hij⟩, h2]
  dsimp only
  rw [if_pos (.inl hf)]
  have e4 : appV (setSl ρ j .em) (i, []) ⟨false, kj, d⟩ = .ok (setSl (setSl ρ j .em) i (.va k (.list (ds ++ [d])))) := by
    unfold appV
    rw [settle_f hf, Res.bind_ok, e3, Res.bind_ok]
    dsimp only
    rw [if_pos hl]
    unfold takeLv
    rw [if_neg hk]
    simp only [hf, if_true, Res.bind_ok]
    rw [chg_va (atP_em (q := (i, [])) hij h)]
    rfl
  rw [e4]
/-- a new list of new parts takes up another one -/
theorem appM_new {i j : Nat} {ds : List D} {d : D} (h : ρ[i]? = some (.va none (.list ds))) (h2 : ρ[j]? = some (.va none d)) (hf : flat d = false) (hij : i ≠ j) (hl : ds.length < sizeLine) : sAppM (xPl i) j ρ = .nx (setSl (setSl ρ j .em) i (.va none (.list (ds ++ [d])))) := by
  have e1 : xPl i ρ = .ok (i, []) := by unfold xPl plcR; rw [h]
  have e2 : atP ρ (i, []) = .ok (none, .list ds) := by unfold atP; simp only [h]; rfl
  have e3 : atP (setSl ρ j .em) (i, []) = .ok (none, .list ds) := by unfold atP; simp only [atP_em (q := (i, [])) hij h]; rfl
  unfold sAppM
  rw [e1]
  dsimp only
  rw [if_pos ⟨by unfold isL; rw [e2], hij⟩, h2]
  dsimp only
  rw [if_pos (.inr (.inl rfl))]
  have hf' : ¬ flat d = true := by rw [hf]; simp
  have e4 : appV (setSl ρ j .em) (i, []) ⟨false, none, d⟩ = .ok (setSl (setSl ρ j .em) i (.va none (.list (ds ++ [d])))) := by
    unfold appV
    have e5 : Ev.settle false ⟨false, none, d⟩ = .ok ⟨false, none, d⟩ := by unfold Ev.settle; rw [if_neg hf']; rfl
    rw [e5, Res.bind_ok, e3, Res.bind_ok]
    dsimp only
    rw [if_pos hl]
    unfold takeLv
    simp only [hf', if_false, Res.bind_ok, reduceCtorEq, if_true]
    rw [chg_va (atP_em (q := (i, [])) hij h)]
    rfl
  rw [e4]
/-- a call whose arguments are flat, with a result of some level -/
theorem call_k {φ : List D → Res (Lv × D)} {n : Nat} {xs : List (Rho → Res BV)} {vs : List BV} {k : Lv} {d : D} (h1 : evA true xs ρ = .ok vs) (hl : vs.length = n) (h2 : φ (dsB vs) = .ok (k, d)) (hf : flat d = false) (hv : (vs.all fun v => v.k == some 0 || flat v.d) = true) : xA true (xCall φ n) xs ρ = .ok ⟨false, k, d⟩ := by
  rw [ap_xA, h1, Res.bind_ok, xCall_ap hl, h2, Res.bind_ok]
  dsimp only
  rw [if_neg (by rw [hf]; simp)]
  by_cases hk : k = none
  · rw [if_pos hk, hk]
  · rw [if_neg hk, if_pos hv]
end
theorem it_enumR {A : Type} [Inhabited A] {ρ : Rho} {a : Rho → Res BV} {cl ba : Bool} {ka : Lv} {u : List A} {f : A → D} (ha : a ρ = .ok ⟨ba, ka, .list (u.map f)⟩)
    (hk : ba = false ∨ ka = some 0 ∨ cl = false ∧ flats (u.map f) = true) : xItA (enumV cl) [a] ρ = .ok ((List.range u.length).map fun j => itm (.tuple [.int (j : Nat), f (u.getD j default)])) := by
  rw [it_enum ha hk]
  congr 1
  refine List.ext_getElem (by simp) fun i h1 h2 => ?_
  simp at h1 h2
  simp [List.getD, List.getElem?_eq_getElem h1]
theorem unp_2 {ρ : Rho} {a : Rho → Res BV} {i j : Nat} {bb : Bool} {k : Lv} {x y : D} (h : a ρ = .ok ⟨bb, k, .tuple [x, y]⟩) (hk : k = some 0 ∨ bb = false ∨ flat (.tuple [x, y]) = true) : sUnp (bdT [i, j]) a ρ = .nx (setSl (setSl ρ i (.va (itm x).k x)) j (.va (itm y).k y)) := by
  have key : ∃ v : BV, Ev.settle true ⟨bb, k, .tuple [x, y]⟩ = .ok v ∧ v.d = .tuple [x, y] ∧ ¬ (v.b = true ∧ ¬ v.k = some 0) := by
    by_cases hf : flat (.tuple [x, y]) = true
    · exact ⟨⟨false, none, .tuple [x, y]⟩, settle_f hf, rfl, by simp⟩
    · obtain ⟨v, e1, e2, e3⟩ := settle_t ⟨bb, k, .tuple [x, y]⟩
      refine ⟨v, e1, e2, fun z => ?_⟩
      rcases e3 with e3 | e3 | ⟨e3, e4, e5⟩
      · exact hf e3
      · exact z.2 e3
      · rcases hk with hk | hk | hk
        · exact z.2 (e4.trans hk)
        · have e5 : bb = true := e5
          rw [hk] at e5; cases e5
        · exact hf hk
  obtain ⟨v, e1, e2, hv⟩ := key
  unfold sUnp eS
  rw [h]
  dsimp only
  rw [e1]
  dsimp only
  rw [if_neg hv]
  have e4 : bdT [i, j] ρ v = .ok (setSl (setSl ρ i (.va (itm x).k x)) j (.va (itm y).k y)) := bdT_2 e2
  rw [e4]
end Ev

set_option Elab.async false
set_option linter.all false
set_option maxRecDepth 100000
namespace Ev
open PySem PySem.Spec PyProof.Rows L2
/-! ### values of list operations -/
theorem dMulV_1 {k k2 : Lv} {bb b2 : Bool} {x : D} {n : Nat} (hf : flat x = true) (hk : k ≠ some 0) (hn : n ≤ 1000000) : dMulV ⟨bb, k, .list [x]⟩ ⟨b2, k2, .int (n : Nat)⟩ = .ok ⟨false, none, .list (List.replicate n x)⟩ := by
  have e1 : shI ⟨bb, k, .list [x]⟩ = .ok [x] := by
    unfold shI
    simp [hf]
  have hs : sizeLine = 16777216 := by decide
  have e2 : (List.replicate n [x]).flatten = List.replicate n x := by
    induction n with
    | zero => rfl
    | succ n ih => rw [List.replicate_succ, List.flatten_cons, ih (by omega), List.replicate_succ]; rfl
  unfold dMulV
  dsimp only
  rw [e1, Res.bind_ok, if_pos ⟨hk, by omega, by omega, by simp; omega⟩]
  have e3 : (n : Int).toNat = n := by omega
  rw [e3, e2]
  unfold mkNew newk
  rw [if_pos (flats_all fun d hd => by rw [(List.mem_replicate.mp hd).2]; exact hf)]
  rfl
theorem shI_flat {bb : Bool} {k : Lv} {ds : List D} (h : flats ds = true) : shI ⟨bb, k, .list ds⟩ = .ok ds := by
  unfold shI
  dsimp only
  rw [if_pos (.inl h)]
theorem flats_app {ds es : List D} (h : flats ds = true) (h' : flats es = true) : flats (ds ++ es) = true := by
  induction ds with
  | nil => exact h'
  | cons d ds ih =>
    rw [flats_c, Bool.and_eq_true] at h
    rw [List.cons_append, flats_c, h.1, ih h.2]; rfl
theorem mkNew_flat {ds : List D} (h : flats ds = true) : mkNew ds = .ok ⟨false, none, .list ds⟩ := by
  unfold mkNew newk
  rw [if_pos h]
  rfl
theorem dAddV_f {k k2 : Lv} {bb b2 : Bool} {ds es : List D} (h : flats ds = true) (h' : flats es = true) (hn : ds.length + es.length ≤ 1000000) : dAddV ⟨bb, k, .list ds⟩ ⟨b2, k2, .list es⟩ = .ok ⟨false, none, .list (ds ++ es)⟩ := by
  have hs : sizeLine = 16777216 := by decide
  unfold dAddV
  dsimp only
  rw [shI_flat h, Res.bind_ok, shI_flat h', Res.bind_ok, if_pos (by omega), mkNew_flat (flats_app h h')]
theorem mkListOf_f {k : Lv} {bb : Bool} {ds : List D} (h : flats ds = true) : mkListOf [⟨bb, k, .list ds⟩] = .ok ⟨false, none, .list ds⟩ := by
  unfold mkListOf
  dsimp only
  rw [shI_flat h, Res.bind_ok, mkNew_flat h]
theorem boolsD_map {A : Type} {p : A → Bool} : ∀ as : List A, boolsD (as.map fun a => .bool (p a)) = some (as.map p)
  | [] => rfl
  | a :: as => by rw [List.map_cons, boolsD, boolsD_map as]; rfl
theorem dQuant_map {A : Type} {p : A → Bool} {f : List Bool → Bool} {as : List A} : dQuant f (.list (as.map fun a => .bool (p a))) = .ok (.bool (f (as.map p))) := by
  unfold dQuant
  dsimp only
  rw [boolsD_map]
theorem all_id {A : Type} {p : A → Bool} {as : List A} : ((as.map p).all id) = as.all p := by induction as <;> simp_all
theorem any_id {A : Type} {p : A → Bool} {as : List A} : ((as.map p).any id) = as.any p := by induction as <;> simp_all
theorem flats_mem2 {ds : List D} (h : flats ds = true) {d : D} (hd : d ∈ ds) : flat d = true := by
  induction ds with
  | nil => cases hd
  | cons e ds ih =>
    rw [flats_c, Bool.and_eq_true] at h
    rcases List.mem_cons.mp hd with rfl | hd
    · exact h.1
    · exact ih h.2 hd
theorem cut_from {ds : List D} {n : Nat} (h : n ≤ ds.length) : cutD ds (some (n : Int)) none = ds.drop n := by
  unfold cutD
  rw [HT.sIx_nat, HT.sIx_none, Nat.min_eq_left h]
  exact List.take_of_length_le (by rw [List.length_drop]; omega)
theorem cut_to {ds : List D} {n : Nat} : cutD ds none (some (n : Int)) = ds.take n := by
  unfold cutD
  rw [HT.sIx_nat, HT.sIx_none, Nat.sub_zero, List.drop_zero]
  by_cases h : n ≤ ds.length
  · rw [Nat.min_eq_left h]
  · rw [Nat.min_eq_right (by omega), List.take_of_length_le (by omega), List.take_of_length_le (by omega)]
/-- a slice of flat items -/
theorem xSl_f {ρ : Rho} {a : Rho → Res BV} {l h : Rho → Res (Option Int)} {bb : Bool} {k : Lv} {ds : List D} {lo hi : Option Int} (ha : a ρ = .ok ⟨bb, k, .list ds⟩) (hl : l ρ = .ok lo) (hh : h ρ = .ok hi) (hf : flats ds = true) : xSl a l h ρ = .ok ⟨false, none, .list (cutD ds lo hi)⟩ := by
  unfold xSl
  rw [ha, Res.bind_ok, hl, Res.bind_ok, hh, Res.bind_ok, shI_flat hf, Res.bind_ok, mkNew_flat]
  exact flats_all fun d hd => flats_mem2 hf (List.mem_of_mem_drop (List.mem_of_mem_take hd))
theorem mul_sm {a b : Int} (ha : a.natAbs < 2 ^ 64) (hb : b.natAbs < 2 ^ 64) : dMul (.int a) (.int b) = .ok (.int (a * b)) := dMul_b (n := 64) (m := 64) ha hb (by omega)
theorem dNe_str {x : Str} : dNe (.str x) (.str x) = .ok (.bool false) := by
  unfold dNe
  split
  · rename_i h
    rw [SeqAt.eqv_refl _ (SeqAt.canLay_of_shaped h.1)]; rfl
  · simp [strEq]
theorem dEq_str {x : Str} : dEq (.str x) (.str x) = .ok (.bool true) := by
  unfold dEq
  split
  · rename_i h
    rw [SeqAt.eqv_refl _ (SeqAt.canLay_of_shaped h.1)]
  · simp [strEq]
theorem pick1 {P : Nat → D → Prop} (h : ∀ i, ∃ d, P i d) : ∃ f : Nat → D, ∀ i, P i (f i) := Classical.skolem.mp h
/-! ### aliases; an item is set -/
@[simp] theorem kil_al1 {j : Nat} {p : List Nat} {ρ : Rho} : killA j (.al j p :: ρ) = .em :: killA j ρ := by simp [killA]
theorem kil_al2 {i j : Nat} {p : List Nat} {ρ : Rho} (h : i ≠ j) : killA j (.al i p :: ρ) = .al i p :: killA j ρ := by simp [killA, h]
@[simp] theorem stA_al1 {j i : Nat} {p : List Nat} {ρ : Rho} {x : Sl} : stA j (.al j p :: ρ) (i + 1) x = .em :: stA j ρ i x := by
  unfold stA
  rw [kil_al1]
  rfl
section
variable {ρ : Rho} {a b c x : Rho → Res BV}
theorem pl_of {i : Nat} {k : Lv} {d : D} (h : ρ[i]? = some (.va k d)) : xPl i ρ = .ok (i, []) := by unfold xPl plcR; rw [h]
theorem pl_al {i j : Nat} {p : List Nat} (h : ρ[i]? = some (.al j p)) : xPl i ρ = .ok (j, p) := by unfold xPl plcR; rw [h]
theorem at_root {i : Nat} {k : Lv} {d : D} (h : ρ[i]? = some (.va k d)) : atP ρ (i, []) = .ok (k, d) := by unfold atP; simp only [h]; rfl
theorem at_item {w n : Nat} {k : Lv} {ds : List D} {d : D} (h : ρ[w]? = some (.va k (.list ds))) (hd : ds[n]? = some d) : atP ρ (w, [n]) = .ok (pd k, d) := by
  unfold atP
  simp only [h]
  unfold subD
  simp only [kidsD, hd]
  rfl
theorem plIx_of {w n : Nat} {k : Lv} {ds : List D} {bb : Bool} {kk : Lv} (h : ρ[w]? = some (.va k (.list ds))) (ha : a ρ = .ok ⟨bb, kk, .int (n : Nat)⟩) (hn : n < ds.length) : xPlIx (xPl w) a ρ = .ok (w, [n]) := by
  unfold xPlIx
  rw [pl_of h, Res.bind_ok, ha, Res.bind_ok, at_root h, Res.bind_ok]
  have e : posD (k, .list ds) (.int (n : Nat)) = .ok n := by
    unfold posD
    dsimp only
    rw [ixN_in (by omega) (by omega)]
    rfl
  dsimp only
  rw [e, Res.bind_ok]
  rfl
theorem sAl_of {i : Nat} {p : Rho → Res (Nat × List Nat)} {q : Nat × List Nat} (h : p ρ = .ok q) (hq : q.1 ≠ i) (hi : i < ρ.length) : sAl i p ρ = .nx ((setSl ρ i .em).set i (.al q.1 q.2)) := by
  unfold sAl
  rw [h]
  exact if_pos ⟨hq, hi⟩
/-- an item of a slot's list -/
theorem sSet_root {w n : Nat} {k : Lv} {ds : List D} {v : D} {b1 b2 : Bool} {k1 k2 : Lv} (h : ρ[w]? = some (.va k (.list ds))) (hk : k ≠ some 0) (hn : n < ds.length) (hb : b ρ = .ok ⟨b1, k1, .int (n : Nat)⟩) (hx : x ρ = .ok ⟨b2, k2, v⟩) (hf : flat v = true) :
    sSet (xPl w) b x ρ = .nx (setSl ρ w (.va k (.list (ds.set n v)))) := by
  unfold sSet
  rw [hx]
  dsimp only
  rw [pl_of h]
  dsimp only
  rw [hb]
  dsimp only
  have e : setV ρ (w, []) (.int (n : Nat)) ⟨b2, k2, v⟩ = .ok (setSl ρ w (.va k (.list (ds.set n v)))) := by
    unfold setV
    rw [settle_f hf, Res.bind_ok, at_root h, Res.bind_ok]
    dsimp only
    rw [ixN_in (by omega) (by omega)]
    dsimp only
    unfold takeLv
    rw [if_neg hk]
    simp only [hf, if_true, Res.bind_ok]
    rw [chg_va h]
    have e : (n : Int).toNat = n := by omega
    rw [e]
    rfl
  rw [e]
/-- an item of an item, by a place -/
theorem sSet_item {w n m : Nat} {p : Rho → Res (Nat × List Nat)} {k : Lv} {ds es : List D} {v : D} {b1 b2 : Bool} {k1 k2 : Lv} (h : ρ[w]? = some (.va k (.list ds))) (hp : p ρ = .ok (w, [n])) (he : ds[n]? = some (.list es)) (hk : pd k ≠ some 0) (hn : m < es.length) (hb : b ρ = .ok ⟨b1, k1, .int (m : Nat)⟩) (hx : x ρ = .ok ⟨b2, k2, v⟩) (hf : flat v = true) :
    sSet p b x ρ = .nx (setSl ρ w (.va k (.list (ds.set n (.list (es.set m v)))))) := by
  unfold sSet
  rw [hx]
  dsimp only
  rw [hp]
  dsimp only
  rw [hb]
  dsimp only
  have e : setV ρ (w, [n]) (.int (m : Nat)) ⟨b2, k2, v⟩ = .ok (setSl ρ w (.va k (.list (ds.set n (.list (es.set m v)))))) := by
    unfold setV
    rw [settle_f hf, Res.bind_ok, at_item h he, Res.bind_ok]
    dsimp only
    rw [ixN_in (by omega) (by omega)]
    dsimp only
    unfold takeLv
    rw [if_neg hk]
    simp only [hf, if_true, Res.bind_ok]
    rw [chg_va h]
    have e : (m : Int).toNat = m := by omega
    rw [e]
    rfl
  rw [e]
theorem sApp_new {i : Nat} {ds : List D} {d : D} (h : ρ[i]? = some (.va none (.list ds))) (ha : a ρ = .ok ⟨false, none, d⟩) (hf : flat d = false) (hl : ds.length < sizeLine) : sApp (xPl i) a ρ = .nx (setSl ρ i (.va none (.list (ds ++ [d])))) := by
  have hf' : ¬ flat d = true := by rw [hf]; simp
  rw [app_of h, ha, sr_ok]
  unfold appR
  have e4 : appV ρ (i, []) ⟨false, none, d⟩ = .ok (setSl ρ i (.va none (.list (ds ++ [d])))) := by
    unfold appV
    have e5 : Ev.settle false ⟨false, none, d⟩ = .ok ⟨false, none, d⟩ := by unfold Ev.settle; rw [if_neg hf']; rfl
    rw [e5, Res.bind_ok, at_root h, Res.bind_ok]
    dsimp only
    rw [if_pos hl]
    unfold takeLv
    simp only [hf', if_false, Res.bind_ok, reduceCtorEq, if_true]
    rw [chg_va h]
    rfl
  rw [e4]
theorem sAppT_of {o : Rho → Res BV} {k : Lv} {ds : List D} {v : BV} (h : o ρ = .ok ⟨false, k, .list ds⟩) (hk : k ≠ some 0) (hl : ds.length < sizeLine) (hx : x ρ = .ok v) : sAppT o x ρ = .nx ρ := by
  unfold sAppT
  rw [h]
  dsimp only
  rw [if_pos ⟨rfl, hk, hl⟩, hx]
end
end Ev

set_option Elab.async false
set_option linter.all false
set_option maxRecDepth 100000
set_option maxHeartbeats 0

namespace Lw
open PySem PySem.Spec PyProof.Rows L2 Ev

def top (i : Nat) : Stmt := PySem.Challenge.pw_latelaw_k07_walks_and_circuits.main.body.getD i (.Pass ⟨0, 0, 0, 0⟩)
structure Fx (K : PySem.W.Frag) (mg : Str → Option Value) : Prop where
  g__law_draws : mg "_law_draws" = some (.ref (He.ga K "_law_draws"))
  d__law_draws : ∃ fd, FunD K "_law_draws" "_law_draws" (defArgs (top 12)) (defBody (top 12)) (defScope (top 12)) [] [] (He.ga K "_law_draws") fd
  k__law_draws : PySem.W.keepIn K (.ref (He.ga K "_law_draws")) = true
  g__law_gcd : mg "_law_gcd" = some (.ref (He.ga K "_law_gcd"))
  d__law_gcd : ∃ fd, FunD K "_law_gcd" "_law_gcd" (defArgs (top 13)) (defBody (top 13)) (defScope (top 13)) [] [] (He.ga K "_law_gcd") fd
  k__law_gcd : PySem.W.keepIn K (.ref (He.ga K "_law_gcd")) = true
  g__law_fraction : mg "_law_fraction" = some (.ref (He.ga K "_law_fraction"))
  d__law_fraction : ∃ fd, FunD K "_law_fraction" "_law_fraction" (defArgs (top 14)) (defBody (top 14)) (defScope (top 14)) [] [] (He.ga K "_law_fraction") fd
  k__law_fraction : PySem.W.keepIn K (.ref (He.ga K "_law_fraction")) = true
  g__law_small : mg "_law_small" = some (.ref (He.ga K "_law_small"))
  d__law_small : ∃ fd, FunD K "_law_small" "_law_small" (defArgs (top 21)) (defBody (top 21)) (defScope (top 21)) [] [] (He.ga K "_law_small") fd
  k__law_small : PySem.W.keepIn K (.ref (He.ga K "_law_small")) = true
  g__law_times : mg "_law_times" = some (.ref (He.ga K "_law_times"))
  d__law_times : ∃ fd, FunD K "_law_times" "_law_times" (defArgs (top 16)) (defBody (top 16)) (defScope (top 16)) [] [] (He.ga K "_law_times") fd
  k__law_times : PySem.W.keepIn K (.ref (He.ga K "_law_times")) = true
  g__law_work : mg "_law_work" = some (.ref (He.ga K "_law_work"))
  d__law_work : ∃ fd, FunD K "_law_work" "_law_work" (defArgs (top 22)) (defBody (top 22)) (defScope (top 22)) [] [] (He.ga K "_law_work") fd
  k__law_work : PySem.W.keepIn K (.ref (He.ga K "_law_work")) = true
  g__law_cell : mg "_law_cell" = some (.ref (He.ga K "_law_cell"))
  d__law_cell : ∃ fd, FunD K "_law_cell" "_law_cell" (defArgs (top 11)) (defBody (top 11)) (defScope (top 11)) [] [] (He.ga K "_law_cell") fd
  k__law_cell : PySem.W.keepIn K (.ref (He.ga K "_law_cell")) = true
  g__law_circuits : mg "_law_circuits" = some (.ref (He.ga K "_law_circuits"))
  d__law_circuits : ∃ fd, FunD K "_law_circuits" "_law_circuits" (defArgs (top 30)) (defBody (top 30)) (defScope (top 30)) [] [] (He.ga K "_law_circuits") fd
  k__law_circuits : PySem.W.keepIn K (.ref (He.ga K "_law_circuits")) = true
  g__law_plus : mg "_law_plus" = some (.ref (He.ga K "_law_plus"))
  d__law_plus : ∃ fd, FunD K "_law_plus" "_law_plus" (defArgs (top 15)) (defBody (top 15)) (defScope (top 15)) [] [] (He.ga K "_law_plus") fd
  k__law_plus : PySem.W.keepIn K (.ref (He.ga K "_law_plus")) = true
  g__law_walk_time : mg "_law_walk_time" = some (.ref (He.ga K "_law_walk_time"))
  d__law_walk_time : ∃ fd, FunD K "_law_walk_time" "_law_walk_time" (defArgs (top 28)) (defBody (top 28)) (defScope (top 28)) [] [] (He.ga K "_law_walk_time") fd
  k__law_walk_time : PySem.W.keepIn K (.ref (He.ga K "_law_walk_time")) = true
  g_fraction : mg "fraction" = some (.ref (He.ga K "fraction"))
  d_fraction : ∃ fd, FunD K "fraction" "fraction" (defArgs (top 5)) (defBody (top 5)) (defScope (top 5)) [] [] (He.ga K "fraction") fd
  k_fraction : PySem.W.keepIn K (.ref (He.ga K "fraction")) = true
  g_plus : mg "plus" = some (.ref (He.ga K "plus"))
  d_plus : ∃ fd, FunD K "plus" "plus" (defArgs (top 6)) (defBody (top 6)) (defScope (top 6)) [] [] (He.ga K "plus") fd
  k_plus : PySem.W.keepIn K (.ref (He.ga K "plus")) = true
  g_walk_time : mg "walk_time" = some (.ref (He.ga K "walk_time"))
  d_walk_time : ∃ fd, FunD K "walk_time" "walk_time" (defArgs (top 8)) (defBody (top 8)) (defScope (top 8)) [] [] (He.ga K "walk_time") fd
  k_walk_time : PySem.W.keepIn K (.ref (He.ga K "walk_time")) = true
  g_is_circuit : mg "is_circuit" = some (.ref (He.ga K "is_circuit"))
  d_is_circuit : ∃ fd, FunD K "is_circuit" "is_circuit" (defArgs (top 9)) (defBody (top 9)) (defScope (top 9)) [] [] (He.ga K "is_circuit") fd
  k_is_circuit : PySem.W.keepIn K (.ref (He.ga K "is_circuit")) = true
  g__law_along : mg "_law_along" = some (.ref (He.ga K "_law_along"))
  d__law_along : ∃ fd, FunD K "_law_along" "_law_along" (defArgs (top 33)) (defBody (top 33)) (defScope (top 33)) [] [] (He.ga K "_law_along") fd
  k__law_along : PySem.W.keepIn K (.ref (He.ga K "_law_along")) = true
  g__law_is_circuit : mg "_law_is_circuit" = some (.ref (He.ga K "_law_is_circuit"))
  d__law_is_circuit : ∃ fd, FunD K "_law_is_circuit" "_law_is_circuit" (defArgs (top 32)) (defBody (top 32)) (defScope (top 32)) [] [] (He.ga K "_law_is_circuit") fd
  k__law_is_circuit : PySem.W.keepIn K (.ref (He.ga K "_law_is_circuit")) = true
  g_law : mg "law" = some (.ref (He.ga K "law"))
  d_law : ∃ fd, FunD K "law" "law" (defArgs (top 34)) (defBody (top 34)) (defScope (top 34)) [] [] (He.ga K "law") fd
  k_law : PySem.W.keepIn K (.ref (He.ga K "law")) = true
  g_OutOfRange : mg "OutOfRange" = some (.ref (He.ga K "OutOfRange"))
  x_OutOfRange : PySem.W.excIn K (He.ga K "OutOfRange") He.veBase "ValueError.__new__" = true
  k_OutOfRange : PySem.W.keepIn K (.ref (He.ga K "OutOfRange")) = true
  b_OutOfRange : PySem.W.subIn K (.ref (He.ga K "OutOfRange")) (.type "BaseException") = some true
  t_OutOfRange : PySem.W.typeIn K (.ref (He.ga K "OutOfRange")) = some (.type "type")
  n_abs : mg "abs" = none
  n_all : mg "all" = none
  n_bool : mg "bool" = none
  n_int : mg "int" = none
  n_isinstance : mg "isinstance" = none
  n_len : mg "len" = none
  n_list : mg "list" = none
  n_min : mg "min" = none
  n_range : mg "range" = none
  n_repr : mg "repr" = none
  n_reversed : mg "reversed" = none
  i_gcd : mg "gcd" = some (.builtin "math.gcd")
def dd__law_draws : He.DefD := ⟨("_law_draws", none), "_law_draws", "_law_draws", defArgs (top 12), defBody (top 12), defScope (top 12), [], []⟩
def dd__law_gcd : He.DefD := ⟨("_law_gcd", none), "_law_gcd", "_law_gcd", defArgs (top 13), defBody (top 13), defScope (top 13), [], []⟩
def dd__law_fraction : He.DefD := ⟨("_law_fraction", none), "_law_fraction", "_law_fraction", defArgs (top 14), defBody (top 14), defScope (top 14), [], []⟩
def dd__law_small : He.DefD := ⟨("_law_small", none), "_law_small", "_law_small", defArgs (top 21), defBody (top 21), defScope (top 21), [], []⟩
def dd__law_times : He.DefD := ⟨("_law_times", none), "_law_times", "_law_times", defArgs (top 16), defBody (top 16), defScope (top 16), [], []⟩
def dd__law_work : He.DefD := ⟨("_law_work", none), "_law_work", "_law_work", defArgs (top 22), defBody (top 22), defScope (top 22), [], []⟩
def dd__law_cell : He.DefD := ⟨("_law_cell", none), "_law_cell", "_law_cell", defArgs (top 11), defBody (top 11), defScope (top 11), [], []⟩
def dd__law_circuits : He.DefD := ⟨("_law_circuits", none), "_law_circuits", "_law_circuits", defArgs (top 30), defBody (top 30), defScope (top 30), [], []⟩
def dd__law_plus : He.DefD := ⟨("_law_plus", none), "_law_plus", "_law_plus", defArgs (top 15), defBody (top 15), defScope (top 15), [], []⟩
def dd__law_walk_time : He.DefD := ⟨("_law_walk_time", none), "_law_walk_time", "_law_walk_time", defArgs (top 28), defBody (top 28), defScope (top 28), [], []⟩
def dd_fraction : He.DefD := ⟨("fraction", none), "fraction", "fraction", defArgs (top 5), defBody (top 5), defScope (top 5), [], []⟩
def dd_plus : He.DefD := ⟨("plus", none), "plus", "plus", defArgs (top 6), defBody (top 6), defScope (top 6), [], []⟩
def dd_walk_time : He.DefD := ⟨("walk_time", none), "walk_time", "walk_time", defArgs (top 8), defBody (top 8), defScope (top 8), [], []⟩
def dd_is_circuit : He.DefD := ⟨("is_circuit", none), "is_circuit", "is_circuit", defArgs (top 9), defBody (top 9), defScope (top 9), [], []⟩
def dd__law_along : He.DefD := ⟨("_law_along", none), "_law_along", "_law_along", defArgs (top 33), defBody (top 33), defScope (top 33), [], []⟩
def dd__law_is_circuit : He.DefD := ⟨("_law_is_circuit", none), "_law_is_circuit", "_law_is_circuit", defArgs (top 32), defBody (top 32), defScope (top 32), [], []⟩
def dd_law : He.DefD := ⟨("law", none), "law", "law", defArgs (top 34), defBody (top 34), defScope (top 34), [], []⟩
def fn : List He.DefD := [dd__law_draws, dd__law_gcd, dd__law_fraction, dd__law_small, dd__law_times, dd__law_work, dd__law_cell, dd__law_circuits, dd__law_plus, dd__law_walk_time, dd_fraction, dd_plus, dd_walk_time, dd_is_circuit, dd__law_along, dd__law_is_circuit, dd_law]
def fa : List He.Fa := [.glo "_law_draws", .glo "_law_gcd", .glo "_law_fraction", .glo "_law_small", .glo "_law_times", .glo "_law_work", .glo "_law_cell", .glo "_law_circuits", .glo "_law_plus", .glo "_law_walk_time", .glo "fraction", .glo "plus", .glo "walk_time", .glo "is_circuit", .glo "_law_along", .glo "_law_is_circuit", .glo "law", .glo "OutOfRange", .exc "OutOfRange", .free "abs", .free "all", .free "bool", .free "int", .free "isinstance", .free "len", .free "list", .free "min", .free "range", .free "repr", .free "reversed"]
def exL (K : PySem.W.Frag) : List Bool := [He.eqO (PySem.W.nsIn K mainGlobals "gcd") (some (some (.builtin "math.gcd")))]
abbrev exB : PySem.W.Frag → Bool := fun K => (exL K).all fun b => b
theorem fx_of {K : PySem.W.Frag} {mg : Str → Option Value} {h : Heap} {w : World} {h0 : Heap} (X : K.In h) (G : h.Ns mainGlobals mg) (c : He.SaysX fa fn [] [] exB w h0 K) : Fx K mg := by
  have glo : ∀ (i : Nat) {x : Str}, fa[i]? = some (.glo x) → mg x = some (.ref (He.ga K x)) := fun i {x} e => He.glo_ok X G (c.t.d.fact i e)
  have free : ∀ (i : Nat) {x : Str}, fa[i]? = some (.free x) → mg x = none := fun i {x} e => He.free_ok X G (c.t.d.fact i e)
  exact ⟨glo 0 rfl,
    c.t.d.def_ 0 (d := dd__law_draws) rfl,
    (c.t.d.def_ 0 (d := dd__law_draws) rfl).elim fun _ h => h.kp,
    glo 1 rfl,
    c.t.d.def_ 1 (d := dd__law_gcd) rfl,
    (c.t.d.def_ 1 (d := dd__law_gcd) rfl).elim fun _ h => h.kp,
    glo 2 rfl,
    c.t.d.def_ 2 (d := dd__law_fraction) rfl,
    (c.t.d.def_ 2 (d := dd__law_fraction) rfl).elim fun _ h => h.kp,
    glo 3 rfl,
    c.t.d.def_ 3 (d := dd__law_small) rfl,
    (c.t.d.def_ 3 (d := dd__law_small) rfl).elim fun _ h => h.kp,
    glo 4 rfl,
    c.t.d.def_ 4 (d := dd__law_times) rfl,
    (c.t.d.def_ 4 (d := dd__law_times) rfl).elim fun _ h => h.kp,
    glo 5 rfl,
    c.t.d.def_ 5 (d := dd__law_work) rfl,
    (c.t.d.def_ 5 (d := dd__law_work) rfl).elim fun _ h => h.kp,
    glo 6 rfl,
    c.t.d.def_ 6 (d := dd__law_cell) rfl,
    (c.t.d.def_ 6 (d := dd__law_cell) rfl).elim fun _ h => h.kp,
    glo 7 rfl,
    c.t.d.def_ 7 (d := dd__law_circuits) rfl,
    (c.t.d.def_ 7 (d := dd__law_circuits) rfl).elim fun _ h => h.kp,
    glo 8 rfl,
    c.t.d.def_ 8 (d := dd__law_plus) rfl,
    (c.t.d.def_ 8 (d := dd__law_plus) rfl).elim fun _ h => h.kp,
    glo 9 rfl,
    c.t.d.def_ 9 (d := dd__law_walk_time) rfl,
    (c.t.d.def_ 9 (d := dd__law_walk_time) rfl).elim fun _ h => h.kp,
    glo 10 rfl,
    c.t.d.def_ 10 (d := dd_fraction) rfl,
    (c.t.d.def_ 10 (d := dd_fraction) rfl).elim fun _ h => h.kp,
    glo 11 rfl,
    c.t.d.def_ 11 (d := dd_plus) rfl,
    (c.t.d.def_ 11 (d := dd_plus) rfl).elim fun _ h => h.kp,
    glo 12 rfl,
    c.t.d.def_ 12 (d := dd_walk_time) rfl,
    (c.t.d.def_ 12 (d := dd_walk_time) rfl).elim fun _ h => h.kp,
    glo 13 rfl,
    c.t.d.def_ 13 (d := dd_is_circuit) rfl,
    (c.t.d.def_ 13 (d := dd_is_circuit) rfl).elim fun _ h => h.kp,
    glo 14 rfl,
    c.t.d.def_ 14 (d := dd__law_along) rfl,
    (c.t.d.def_ 14 (d := dd__law_along) rfl).elim fun _ h => h.kp,
    glo 15 rfl,
    c.t.d.def_ 15 (d := dd__law_is_circuit) rfl,
    (c.t.d.def_ 15 (d := dd__law_is_circuit) rfl).elim fun _ h => h.kp,
    glo 16 rfl,
    c.t.d.def_ 16 (d := dd_law) rfl,
    (c.t.d.def_ 16 (d := dd_law) rfl).elim fun _ h => h.kp,
    glo 17 rfl,
    (He.exc_ok (c.t.d.fact 18 rfl)).1,
    (He.exc_ok (c.t.d.fact 18 rfl)).2.1,
    (He.exc_ok (c.t.d.fact 18 rfl)).2.2.1,
    (He.exc_ok (c.t.d.fact 18 rfl)).2.2.2,
    free 19 rfl,
    free 20 rfl,
    free 21 rfl,
    free 22 rfl,
    free 23 rfl,
    free 24 rfl,
    free 25 rfl,
    free 26 rfl,
    free 27 rfl,
    free 28 rfl,
    free 29 rfl,
    PySem.W.mg_of X G (He.eqO_ok (exGet c.more 0 rfl))⟩
section
variable {P : Program} {w : World} {K : PySem.W.Frag} {mg : Str → Option Value} {base : Heap}
def l__law_draws_0_i : Rho → Res (List BV) := xItV true (xVa 1)
def l__law_draws_0_b : Rho → SR := sIf (tAndX (xTru (xVa 5)) (xTb (x2 (pl dGt) (xVa 3) (xCn (.int 1))))) (sSeq (sApp (xPl 2) (x2 (pl dMod) (xA true (b1 dInt) [xVa 3]) (xVa 6))) (sSeq (sAsg 3 (x2 (pl dDiv) (xVa 3) (xVa 6))) (sF [6] (sNil)))) (sSeq (sAsg 4 (x2 (pl dMod) (xA true (b1 dInt) [x2 (pl dAdd) (x2 (pl dMul) (xVa 4) (xCn (.int 48271))) (xCn (.int 11))]) (xCn (.int 2147483647)))) (sSeq (sAsg 4 (x2 (pl dMod) (xA true (b1 dInt) [x2 (pl dAdd) (x2 (pl dMul) (xVa 4) (xCn (.int 69621))) (xCn (.int 7))]) (xCn (.int 2147483647)))) (sSeq (sApp (xPl 2) (x2 (pl dMod) (xA true (b1 dInt) [x2 (pl dDiv) (xVa 4) (xCn (.int 13))]) (xVa 6))) (sF [6] (sNil)))))
def s__law_draws : Rho → SR := sSeq (sAsg 2 (xA false mkLst [])) (sSeq (sAsg 3 (xA true (b1 dAbs) [xA true (b1 dInt) [xVa 0]])) (sSeq (sAsg 4 (x2 (pl dMod) (xA true (b1 dInt) [xVa 3]) (xCn (.int 2147483647)))) (sSeq (sAsg 5 (xOrV (x2 (pl dLt) (xVa 0) (xCn (.int 0))) (x2 (pl dGe) (xVa 0) (x2 (pl dPow) (xCn (.int 10)) (xCn (.int 18)))))) (sF [0] (sSeq (sFor l__law_draws_0_i (bd1 6) l__law_draws_0_b) (sRet (xVa 2)))))))
def f__law_draws : List D → Res (Lv × D) := runB s__law_draws 7 2
theorem sc__law_draws : FnScope ["_law_cell_here", "_law_limits", "_law_found", "_law_rest", "_law_state", "_law_free", "_law_limit"] ["_law_cell_here", "_law_limits"] (defScope (top 12)) := ⟨rfl, rfl, rfl, by decide +kernel, rfl, by decide +kernel, by decide +kernel⟩
theorem d__law_draws (F : Fx K mg) : FnS P w K mg base 1 (He.ga K "_law_draws") 2 f__law_draws := by
  obtain ⟨fd, FF⟩ := F.d__law_draws
  refine fnS_of (N := ["_law_cell_here", "_law_limits", "_law_found", "_law_rest", "_law_state", "_law_free", "_law_limit"]) (ps := ["_law_cell_here", "_law_limits"]) (k := 0) (fun_of FF) sc__law_draws (by decide) (fun _ _ _ _ _ _ us hl => match us, hl with | [_, _], _ => rfl) fun cd A outer s H E hr => ?_
  have tk : Takes (bodyX P w K mg base ["_law_cell_here", "_law_limits", "_law_found", "_law_rest", "_law_state", "_law_free", "_law_limit"] "_law_draws" (top 12) (He.ga K "_law_draws") cd A outer s H E) (bodyW E) := takes_of rfl rfl rfl rfl
  have hp : PassesOwn (model P w) _ _ _ := passes_of (X := bodyX P w K mg base ["_law_cell_here", "_law_limits", "_law_found", "_law_rest", "_law_state", "_law_free", "_law_limit"] "_law_draws" (top 12) (He.ga K "_law_draws") cd A outer s H E) rfl
  have hN := sc__law_draws.nd
  have hu := hr.r.units
  have hu65 := Ev.units65 hr.r
  have hg := hr.g
  exact (ss_cons (st_asg (i := 2) hN (by rfl) (locl (by rfl)) (se_lst (fr := false) sa_nil (by decide)) (by rfl) (by first | exact .inr rfl | exact .inl rfl))
    (ss_cons (st_asg (i := 3) hN (by rfl) (locl (by rfl)) (se_callB bl_abs (by rfl) F.n_abs bb_abs (sa_cons (se_callTy bl_int (by rfl) F.n_int bb_int (sa_cons (se_va (i := 0) (by rfl) (vis (by rfl)) (by rfl) (by rfl)) sa_nil (by rfl)) (by decide) (by rfl) (by rfl) (by rfl)) sa_nil (by rfl)) (by decide) (by rfl) (by rfl) (by rfl)) (by rfl) (by first | exact .inr rfl | exact .inl rfl))
    (ss_cons (st_asg (i := 4) hN (by rfl) (locl (by rfl)) (se_bin ops_mod (se_callTy bl_int (by rfl) F.n_int bb_int (sa_cons (se_va (i := 3) (by rfl) (vis (by rfl)) (by rfl) (by rfl)) sa_nil (by rfl)) (by decide) (by rfl) (by rfl) (by rfl)) se_int) (by rfl) (by first | exact .inr rfl | exact .inl rfl))
    (ss_cons (st_asg (i := 5) hN (by rfl) (locl (by rfl)) (se_or (se_cmp ops_lt (nomark _) (se_va (i := 0) (by rfl) (vis (by rfl)) (by rfl) (by rfl)) se_int) (se_one (se_cmp ops_ge (nomark _) (se_va (i := 0) (by rfl) (vis (by rfl)) (by rfl) (by rfl)) (se_bin ops_pow se_int se_int)))) (by rfl) (by first | exact .inr rfl | exact .inl rfl))
    (ss_sF [0] (ss_cons (st_for (is := [6]) (xi := l__law_draws_0_i) (bd := bd1 6) (sb := l__law_draws_0_b) hp rfl (si_seq (se_va (i := 1) (by rfl) (vis (by rfl)) (by rfl) (by rfl))) (pg_name (i := 6) hN (by rfl) (locl (by rfl)) (by first | exact .inr rfl | exact .inl rfl)) sg_name (itmOk_seq (cl := true)) (ss_one (st_if (st_bool (sw_and (st_val (se_va (i := 5) (by rfl) (vis (by rfl)) (by rfl) (by rfl)) (fun _ => rfl)) (sw_and1 (st_cmp ops_gt (nomark _) (se_va (i := 3) (by rfl) (vis (by rfl)) (by rfl) (by rfl)) se_int)))) (ss_cons (st_app (sp_name (i := 2) (by rfl) (vis (by rfl)) (by rfl) (by rfl)) (se_bin ops_mod (se_callTy bl_int (by rfl) F.n_int bb_int (sa_cons (se_va (i := 3) (by rfl) (vis (by rfl)) (by rfl) (by rfl)) sa_nil (by rfl)) (by decide) (by rfl) (by rfl) (by rfl)) (se_va (i := 6) (by rfl) (vis (by rfl)) (by rfl) (by rfl))) (by rfl) (by rfl) (by rfl) (by rfl) (by rfl) (by rfl))
    (ss_cons (st_asg (i := 3) hN (by rfl) (locl (by rfl)) (se_bin ops_div (se_va (i := 3) (by rfl) (vis (by rfl)) (by rfl) (by rfl)) (se_va (i := 6) (by rfl) (vis (by rfl)) (by rfl) (by rfl))) (by rfl) (by first | exact .inr rfl | exact .inl rfl))
    (ss_sF [6] ss_nil))) (ss_cons (st_asg (i := 4) hN (by rfl) (locl (by rfl)) (se_bin ops_mod (se_callTy bl_int (by rfl) F.n_int bb_int (sa_cons (se_bin ops_add (se_bin ops_mul (se_va (i := 4) (by rfl) (vis (by rfl)) (by rfl) (by rfl)) se_int) se_int) sa_nil (by rfl)) (by decide) (by rfl) (by rfl) (by rfl)) se_int) (by rfl) (by first | exact .inr rfl | exact .inl rfl))
    (ss_cons (st_asg (i := 4) hN (by rfl) (locl (by rfl)) (se_bin ops_mod (se_callTy bl_int (by rfl) F.n_int bb_int (sa_cons (se_bin ops_add (se_bin ops_mul (se_va (i := 4) (by rfl) (vis (by rfl)) (by rfl) (by rfl)) se_int) se_int) sa_nil (by rfl)) (by decide) (by rfl) (by rfl) (by rfl)) se_int) (by rfl) (by first | exact .inr rfl | exact .inl rfl))
    (ss_cons (st_app (sp_name (i := 2) (by rfl) (vis (by rfl)) (by rfl) (by rfl)) (se_bin ops_mod (se_callTy bl_int (by rfl) F.n_int bb_int (sa_cons (se_bin ops_div (se_va (i := 4) (by rfl) (vis (by rfl)) (by rfl) (by rfl)) se_int) sa_nil (by rfl)) (by decide) (by rfl) (by rfl) (by rfl)) (se_va (i := 6) (by rfl) (vis (by rfl)) (by rfl) (by rfl))) (by rfl) (by rfl) (by rfl) (by rfl) (by rfl) (by rfl))
    (ss_sF [6] ss_nil)))))) (fun _ => rfl))
    (ss_one (st_ret (se_va (i := 2) (by rfl) (vis (by rfl)) (by rfl) (by rfl))))))))))
def l__law_gcd_0_i : Rho → Res (List BV) := xItA rangeV1 [x2 (pl dAdd) (x2 (pl dAdd) (x1 (p1 dBits) (xVa 0)) (x1 (p1 dBits) (xVa 1))) (xCn (.int 4))]
def l__law_gcd_0_b : Rho → SR := sF [2] (sSeq (sIf (xTb (x2 (pl dEq) (xVa 1) (xCn (.int 0)))) (sRet (xVa 0)) (sNil)) (sSeq (sAsg 3 (x2 (pl dMod) (xA true (b1 dInt) [xVa 0]) (xVa 1))) (sF [0] (sSeq (sMov 0 1) (sMov 1 3)))))
def s__law_gcd : Rho → SR := sSeq (sAsg 0 (xA true (b1 dAbs) [xVa 0])) (sSeq (sAsg 1 (xA true (b1 dAbs) [xVa 1])) (sSeq (sFor l__law_gcd_0_i (bd1 2) l__law_gcd_0_b) (sRet (xVa 0))))
def f__law_gcd : List D → Res (Lv × D) := runB s__law_gcd 4 2
theorem sc__law_gcd : FnScope ["_law_a", "_law_b", "_law_k", "_law_rest"] ["_law_a", "_law_b"] (defScope (top 13)) := ⟨rfl, rfl, rfl, by decide +kernel, rfl, by decide +kernel, by decide +kernel⟩
theorem d__law_gcd (F : Fx K mg) : FnS P w K mg base 1 (He.ga K "_law_gcd") 2 f__law_gcd := by
  obtain ⟨fd, FF⟩ := F.d__law_gcd
  refine fnS_of (N := ["_law_a", "_law_b", "_law_k", "_law_rest"]) (ps := ["_law_a", "_law_b"]) (k := 0) (fun_of FF) sc__law_gcd (by decide) (fun _ _ _ _ _ _ us hl => match us, hl with | [_, _], _ => rfl) fun cd A outer s H E hr => ?_
  have tk : Takes (bodyX P w K mg base ["_law_a", "_law_b", "_law_k", "_law_rest"] "_law_gcd" (top 13) (He.ga K "_law_gcd") cd A outer s H E) (bodyW E) := takes_of rfl rfl rfl rfl
  have hp : PassesOwn (model P w) _ _ _ := passes_of (X := bodyX P w K mg base ["_law_a", "_law_b", "_law_k", "_law_rest"] "_law_gcd" (top 13) (He.ga K "_law_gcd") cd A outer s H E) rfl
  have hN := sc__law_gcd.nd
  have hu := hr.r.units
  have hu65 := Ev.units65 hr.r
  have hg := hr.g
  exact (ss_cons (st_asg (i := 0) hN (by rfl) (locl (by rfl)) (se_callB bl_abs (by rfl) F.n_abs bb_abs (sa_cons (se_va (i := 0) (by rfl) (vis (by rfl)) (by rfl) (by rfl)) sa_nil (by rfl)) (by decide) (by rfl) (by rfl) (by rfl)) (by rfl) (by first | exact .inr rfl | exact .inl rfl))
    (ss_cons (st_asg (i := 1) hN (by rfl) (locl (by rfl)) (se_callB bl_abs (by rfl) F.n_abs bb_abs (sa_cons (se_va (i := 1) (by rfl) (vis (by rfl)) (by rfl) (by rfl)) sa_nil (by rfl)) (by decide) (by rfl) (by rfl) (by rfl)) (by rfl) (by first | exact .inr rfl | exact .inl rfl))
    (ss_cons (st_for (is := [2]) (xi := l__law_gcd_0_i) (bd := bd1 2) (sb := l__law_gcd_0_b) hp rfl (si_range1 (by rfl) F.n_range (sa_cons (se_bin ops_add (se_bin ops_add (se_bits (se_va (i := 0) (by rfl) (vis (by rfl)) (by rfl) (by rfl)) (by rfl) (by rfl)) (se_bits (se_va (i := 1) (by rfl) (vis (by rfl)) (by rfl) (by rfl)) (by rfl) (by rfl))) se_int) sa_nil (by rfl)) (by rfl)) (pg_name (i := 2) hN (by rfl) (locl (by rfl)) (by first | exact .inr rfl | exact .inl rfl)) sg_name (itmOk_range1 (cl := true)) (ss_sF [2] (ss_cons (st_if (st_cmp (ops_eq hu) (nomark _) (se_va (i := 1) (by rfl) (vis (by rfl)) (by rfl) (by rfl)) se_int) (ss_one (st_ret (se_va (i := 0) (by rfl) (vis (by rfl)) (by rfl) (by rfl)))) ss_nil)
    (ss_cons (st_asg (i := 3) hN (by rfl) (locl (by rfl)) (se_bin ops_mod (se_callTy bl_int (by rfl) F.n_int bb_int (sa_cons (se_va (i := 0) (by rfl) (vis (by rfl)) (by rfl) (by rfl)) sa_nil (by rfl)) (by decide) (by rfl) (by rfl) (by rfl)) (se_va (i := 1) (by rfl) (vis (by rfl)) (by rfl) (by rfl))) (by rfl) (by first | exact .inr rfl | exact .inl rfl))
    (ss_sF [0] (ss_cons (st_mov (i := 0) (j := 1) (by decide) hN (by rfl) (by rfl) (locl (by rfl)) (vis (by rfl)) (by rfl) (by rfl) (by rfl) (by first | exact .inr rfl | exact .inl rfl))
    (ss_one (st_mov (i := 1) (j := 3) (by decide) hN (by rfl) (by rfl) (locl (by rfl)) (vis (by rfl)) (by rfl) (by rfl) (by rfl) (by first | exact .inr rfl | exact .inl rfl)))))))) (fun _ => rfl))
    (ss_one (st_ret (se_va (i := 0) (by rfl) (vis (by rfl)) (by rfl) (by rfl)))))))
def s__law_fraction : Rho → SR := sSeq (sAsg 2 (xA true (xCall f__law_gcd 2) [xVa 0, xVa 1])) (sSeq (sIf (xTb (x2 (pl dLt) (xVa 1) (xCn (.int 0)))) (sAsg 2 (x1 (p1 dNeg) (xVa 2))) (sNil)) (sRet (xA false mkTup [x2 (pl dDiv) (xVa 0) (xVa 2), x2 (pl dDiv) (xVa 1) (xVa 2)])))
def f__law_fraction : List D → Res (Lv × D) := runB s__law_fraction 3 2
theorem sc__law_fraction : FnScope ["_law_top", "_law_low", "_law_common"] ["_law_top", "_law_low"] (defScope (top 14)) := ⟨rfl, rfl, rfl, by decide +kernel, rfl, by decide +kernel, by decide +kernel⟩
theorem d__law_fraction (F : Fx K mg) : FnS P w K mg base 2 (He.ga K "_law_fraction") 2 f__law_fraction := by
  obtain ⟨fd, FF⟩ := F.d__law_fraction
  refine fnS_of (N := ["_law_top", "_law_low", "_law_common"]) (ps := ["_law_top", "_law_low"]) (k := 1) (fun_of FF) sc__law_fraction (by decide) (fun _ _ _ _ _ _ us hl => match us, hl with | [_, _], _ => rfl) fun cd A outer s H E hr => ?_
  have tk : Takes (bodyX P w K mg base ["_law_top", "_law_low", "_law_common"] "_law_fraction" (top 14) (He.ga K "_law_fraction") cd A outer s H E) (bodyW E) := takes_of rfl rfl rfl rfl
  have hp : PassesOwn (model P w) _ _ _ := passes_of (X := bodyX P w K mg base ["_law_top", "_law_low", "_law_common"] "_law_fraction" (top 14) (He.ga K "_law_fraction") cd A outer s H E) rfl
  have hN := sc__law_fraction.nd
  have hu := hr.r.units
  have hu65 := Ev.units65 hr.r
  have hg := hr.g
  exact (ss_cons (st_asg (i := 2) hN (by rfl) (locl (by rfl)) (se_call ((d__law_gcd F).mono (by omega)) hr tk (by rfl) F.g__law_gcd F.k__law_gcd (sa_cons (se_va (i := 0) (by rfl) (vis (by rfl)) (by rfl) (by rfl)) (sa_cons (se_va (i := 1) (by rfl) (vis (by rfl)) (by rfl) (by rfl)) sa_nil (by rfl)) (by rfl)) (by rfl) (by rfl) (by rfl)) (by rfl) (by first | exact .inr rfl | exact .inl rfl))
    (ss_cons (st_if (st_cmp ops_lt (nomark _) (se_va (i := 1) (by rfl) (vis (by rfl)) (by rfl) (by rfl)) se_int) (ss_one (st_asg (i := 2) hN (by rfl) (locl (by rfl)) (se_neg (se_va (i := 2) (by rfl) (vis (by rfl)) (by rfl) (by rfl))) (by rfl) (by first | exact .inr rfl | exact .inl rfl))) ss_nil)
    (ss_one (st_ret (se_tup (fr := false) (sa_cons (se_bin ops_div (se_va (i := 0) (by rfl) (vis (by rfl)) (by rfl) (by rfl)) (se_va (i := 2) (by rfl) (vis (by rfl)) (by rfl) (by rfl))) (sa_cons (se_bin ops_div (se_va (i := 1) (by rfl) (vis (by rfl)) (by rfl) (by rfl)) (se_va (i := 2) (by rfl) (vis (by rfl)) (by rfl) (by rfl))) sa_nil (by rfl)) (by rfl)) (by decide))))))
def s__law_small : Rho → SR := sSeq (sAsg 2 (xA true (xCall f__law_draws 2) [xVa 0, xA false mkLst [xCn (.int 10), xCn (.int 15), xCn (.int 12)]])) (sF [0] (sSeq (sIf (xTb (x2 (pl dLt) (x2 ixD (xVa 2) (xCn (.int 0))) (xVa 1))) (sRet (xCn .none)) (sF [1] (sNil))) (sSeq (sIf (xTb (x2 (pl dEq) (x2 ixD (xVa 2) (xCn (.int 0))) (xCn (.int 9)))) (sRet (xA true (xCall f__law_fraction 2) [x2 (pl dSub) (x2 ixD (xVa 2) (xCn (.int 1))) (xCn (.int 7)), x2 (pl dAdd) (xCn (.int 1)) (x2 ixD (xVa 2) (xCn (.int 2)))])) (sNil)) (sRet (xA false mkTup [x2 (pl dSub) (x2 ixD (xVa 2) (xCn (.int 1))) (xCn (.int 7)), xCn (.int 1)])))))
def f__law_small : List D → Res (Lv × D) := runB s__law_small 3 2
theorem sc__law_small : FnScope ["_law_cell_here", "_law_often", "_law_draws_here"] ["_law_cell_here", "_law_often"] (defScope (top 21)) := ⟨rfl, rfl, rfl, by decide +kernel, rfl, by decide +kernel, by decide +kernel⟩
theorem d__law_small (F : Fx K mg) : FnS P w K mg base 3 (He.ga K "_law_small") 2 f__law_small := by
  obtain ⟨fd, FF⟩ := F.d__law_small
  refine fnS_of (N := ["_law_cell_here", "_law_often", "_law_draws_here"]) (ps := ["_law_cell_here", "_law_often"]) (k := 2) (fun_of FF) sc__law_small (by decide) (fun _ _ _ _ _ _ us hl => match us, hl with | [_, _], _ => rfl) fun cd A outer s H E hr => ?_
  have tk : Takes (bodyX P w K mg base ["_law_cell_here", "_law_often", "_law_draws_here"] "_law_small" (top 21) (He.ga K "_law_small") cd A outer s H E) (bodyW E) := takes_of rfl rfl rfl rfl
  have hp : PassesOwn (model P w) _ _ _ := passes_of (X := bodyX P w K mg base ["_law_cell_here", "_law_often", "_law_draws_here"] "_law_small" (top 21) (He.ga K "_law_small") cd A outer s H E) rfl
  have hN := sc__law_small.nd
  have hu := hr.r.units
  have hu65 := Ev.units65 hr.r
  have hg := hr.g
  exact (ss_cons (st_asg (i := 2) hN (by rfl) (locl (by rfl)) (se_call ((d__law_draws F).mono (by omega)) hr tk (by rfl) F.g__law_draws F.k__law_draws (sa_cons (se_va (i := 0) (by rfl) (vis (by rfl)) (by rfl) (by rfl)) (sa_cons (se_lst (fr := false) (sa_cons se_int (sa_cons se_int (sa_cons se_int sa_nil (by rfl)) (by rfl)) (by rfl)) (by decide)) sa_nil (by rfl)) (by rfl)) (by rfl) (by rfl) (by rfl)) (by rfl) (by first | exact .inr rfl | exact .inl rfl))
    (ss_sF [0] (ss_cons (st_if (st_cmp ops_lt (nomark _) (se_ix (se_va (i := 2) (by rfl) (vis (by rfl)) (by rfl) (by rfl)) se_int (fun _ _ => rfl)) (se_va (i := 1) (by rfl) (vis (by rfl)) (by rfl) (by rfl))) (ss_one (st_ret se_non)) (ss_sF [1] ss_nil))
    (ss_cons (st_if (st_cmp (ops_eq hu) (nomark _) (se_ix (se_va (i := 2) (by rfl) (vis (by rfl)) (by rfl) (by rfl)) se_int (fun _ _ => rfl)) se_int) (ss_one (st_ret (se_call ((d__law_fraction F).mono (by omega)) hr tk (by rfl) F.g__law_fraction F.k__law_fraction (sa_cons (se_bin ops_sub (se_ix (se_va (i := 2) (by rfl) (vis (by rfl)) (by rfl) (by rfl)) se_int (fun _ _ => rfl)) se_int) (sa_cons (se_bin ops_add se_int (se_ix (se_va (i := 2) (by rfl) (vis (by rfl)) (by rfl) (by rfl)) se_int (fun _ _ => rfl))) sa_nil (by rfl)) (by rfl)) (by rfl) (by rfl) (by rfl)))) ss_nil)
    (ss_one (st_ret (se_tup (fr := false) (sa_cons (se_bin ops_sub (se_ix (se_va (i := 2) (by rfl) (vis (by rfl)) (by rfl) (by rfl)) se_int (fun _ _ => rfl)) se_int) (sa_cons se_int sa_nil (by rfl)) (by rfl)) (by decide))))))))
def s__law_times : Rho → SR := sRet (xA true (xCall f__law_fraction 2) [x2 (pl dMul) (x2 ixD (xVa 0) (xCn (.int 0))) (xVa 1), x2 ixD (xVa 0) (xCn (.int 1))])
def f__law_times : List D → Res (Lv × D) := runB s__law_times 2 2
theorem sc__law_times : FnScope ["_law_first", "_law_number"] ["_law_first", "_law_number"] (defScope (top 16)) := ⟨rfl, rfl, rfl, by decide +kernel, rfl, by decide +kernel, by decide +kernel⟩
theorem d__law_times (F : Fx K mg) : FnS P w K mg base 3 (He.ga K "_law_times") 2 f__law_times := by
  obtain ⟨fd, FF⟩ := F.d__law_times
  refine fnS_of (N := ["_law_first", "_law_number"]) (ps := ["_law_first", "_law_number"]) (k := 2) (fun_of FF) sc__law_times (by decide) (fun _ _ _ _ _ _ us hl => match us, hl with | [_, _], _ => rfl) fun cd A outer s H E hr => ?_
  have tk : Takes (bodyX P w K mg base ["_law_first", "_law_number"] "_law_times" (top 16) (He.ga K "_law_times") cd A outer s H E) (bodyW E) := takes_of rfl rfl rfl rfl
  have hp : PassesOwn (model P w) _ _ _ := passes_of (X := bodyX P w K mg base ["_law_first", "_law_number"] "_law_times" (top 16) (He.ga K "_law_times") cd A outer s H E) rfl
  have hN := sc__law_times.nd
  have hu := hr.r.units
  have hu65 := Ev.units65 hr.r
  have hg := hr.g
  exact (ss_one (st_ret (se_call ((d__law_fraction F).mono (by omega)) hr tk (by rfl) F.g__law_fraction F.k__law_fraction (sa_cons (se_bin ops_mul (se_ix (se_va (i := 0) (by rfl) (vis (by rfl)) (by rfl) (by rfl)) se_int (fun _ _ => rfl)) (se_va (i := 1) (by rfl) (vis (by rfl)) (by rfl) (by rfl))) (sa_cons (se_ix (se_va (i := 0) (by rfl) (vis (by rfl)) (by rfl) (by rfl)) se_int (fun _ _ => rfl)) sa_nil (by rfl)) (by rfl)) (by rfl) (by rfl) (by rfl))))
def l__law_work_1_i : Rho → Res (List BV) := xItA rangeV1 [xVa 5]
def l__law_work_1_b : Rho → SR := sSeq (sAsg 11 (x2 (pl dAdd) (x2 (pl dMul) (xVa 8) (xVa 5)) (xVa 10))) (sF [10] (sSeq (sAsg 12 (x2 (pl dMul) (xCn (.int 31)) (xVa 11))) (sSeq (sIf (xTb (x2 (pl dGt) (xA true (b1 dLen) [xVa 1]) (xCn (.int 0)))) (sF [12] (sSeq (sAsg 12 (x2 (pl dAdd) (xA true (b1 dInt) [x2 ixD (xVa 1) (x2 (pl dMod) (xVa 11) (xA true (b1 dLen) [xVa 1]))]) (x2 (pl dMul) (x2 (pl dMul) (xCn (.int 31)) (x2 (pl dDiv) (xVa 11) (xA true (b1 dLen) [xVa 1]))) (xCn (.int 7))))) (sF [11] (sNil)))) (sF [11] (sNil))) (sSeq (sAsg 13 (xA true (xCall f__law_small 2) [xVa 12, xVa 6])) (sF [12] (sSeq (sIf (xTb (x2 (pl dIsNot) (xVa 13) (xCn .none))) (sAsg 13 (xA true (xCall f__law_times 2) [xVa 13, xVa 4])) (sNil)) (sAppM (xPl 9) 13)))))))
def l__law_work_0_i : Rho → Res (List BV) := xItA rangeV1 [xVa 5]
def l__law_work_0_b : Rho → SR := sSeq (sAsg 9 (xA false mkLst [])) (sSeq (sFor l__law_work_1_i (bd1 10) l__law_work_1_b) (sF [8, 10, 11, 12, 13] (sAppM (xPl 7) 9)))
def l__law_work_3_i : Rho → Res (List BV) := xItA rangeV1 [xVa 5]
def l__law_work_3_b : Rho → SR := sIf (xTb (x2 (pl dGt) (xVa 10) (xVa 8))) (sSeq (sAl 9 (xPlIx (xPl 7) (xVa 8))) (sSeq (sSet (xPl 9) (xVa 10) (xCn .none)) (sF [9, 10] (sNil)))) (sF [10] (sNil))
def l__law_work_2_i : Rho → Res (List BV) := xItA rangeV1 [xVa 5]
def l__law_work_2_b : Rho → SR := sSeq (sFor l__law_work_3_i (bd1 10) l__law_work_3_b) (sF [8, 9, 10] (sNil))
def s__law_work : Rho → SR := sSeq (sAsg 3 (xA true (xCall f__law_draws 2) [xVa 0, xA true mkLst [xVa 2, xCn (.int 10), xCn (.int 4), xCn (.int 6), x2 (pl dPow) (xCn (.int 10)) (xCn (.int 9))]])) (sF [0, 2] (sSeq (sAsg 4 (x2 ixD (xA false mkLst [xCn (.int 1), xCn (.int 1), xCn (.int 1), xCn (.int 1), x2 (pl dAdd) (xCn (.int 1)) (x2 (pl dMod) (xA true (b1 dInt) [x2 ixD (xVa 3) (xCn (.int 4))]) (xCn (.int 500))), x2 (pl dAdd) (xCn (.int 1)) (x2 ixD (xVa 3) (xCn (.int 4)))]) (x2 ixD (xVa 3) (xCn (.int 3))))) (sSeq (sAsg 5 (x2 (pl dAdd) (xCn (.int 1)) (x2 ixD (xVa 3) (xCn (.int 0))))) (sH [5] (sSeq (sAsg 6 (x2 ixD (xA false mkLst [xCn (.int 0), xCn (.int 2), xCn (.int 4), xCn (.int 5), xCn (.int 6), xCn (.int 7), xCn (.int 7), xCn (.int 8), xCn (.int 5), xCn (.int 3)]) (x2 ixD (xVa 3) (xCn (.int 1))))) (sSeq (sAsg 7 (xA false mkLst [])) (sSeq (sFor l__law_work_0_i (bd1 8) l__law_work_0_b) (sF [1, 4, 6, 8, 9, 10, 11, 12, 13] (sSeq (sIf (xTb (x2 (pl dEq) (x2 ixD (xVa 3) (xCn (.int 2))) (xCn (.int 0)))) (sF [3] (sSeq (sFor l__law_work_2_i (bd1 8) l__law_work_2_b) (sF [5, 8, 9, 10] (sNil)))) (sF [3, 5] (sNil))) (sRet (xVa 7)))))))))))
def f__law_work : List D → Res (Lv × D) := runB s__law_work 14 3
theorem sc__law_work : FnScope ["_law_cell_here", "_law_cells", "_law_most", "_law_draws_here", "_law_factor", "_law_size", "_law_often", "_law_work_here", "_law_i", "_law_row", "_law_j", "_law_at", "_law_number", "_law_moment_here"] ["_law_cell_here", "_law_cells", "_law_most"] (defScope (top 22)) := ⟨rfl, rfl, rfl, by decide +kernel, rfl, by decide +kernel, by decide +kernel⟩
theorem d__law_work (F : Fx K mg) : FnS P w K mg base 4 (He.ga K "_law_work") 3 f__law_work := by
  obtain ⟨fd, FF⟩ := F.d__law_work
  refine fnS_of (N := ["_law_cell_here", "_law_cells", "_law_most", "_law_draws_here", "_law_factor", "_law_size", "_law_often", "_law_work_here", "_law_i", "_law_row", "_law_j", "_law_at", "_law_number", "_law_moment_here"]) (ps := ["_law_cell_here", "_law_cells", "_law_most"]) (k := 3) (fun_of FF) sc__law_work (by decide) (fun _ _ _ _ _ _ us hl => match us, hl with | [_, _, _], _ => rfl) fun cd A outer s H E hr => ?_
  have tk : Takes (bodyX P w K mg base ["_law_cell_here", "_law_cells", "_law_most", "_law_draws_here", "_law_factor", "_law_size", "_law_often", "_law_work_here", "_law_i", "_law_row", "_law_j", "_law_at", "_law_number", "_law_moment_here"] "_law_work" (top 22) (He.ga K "_law_work") cd A outer s H E) (bodyW E) := takes_of rfl rfl rfl rfl
  have hp : PassesOwn (model P w) _ _ _ := passes_of (X := bodyX P w K mg base ["_law_cell_here", "_law_cells", "_law_most", "_law_draws_here", "_law_factor", "_law_size", "_law_often", "_law_work_here", "_law_i", "_law_row", "_law_j", "_law_at", "_law_number", "_law_moment_here"] "_law_work" (top 22) (He.ga K "_law_work") cd A outer s H E) rfl
  have hN := sc__law_work.nd
  have hu := hr.r.units
  have hu65 := Ev.units65 hr.r
  have hg := hr.g
  exact (ss_cons (st_asg (i := 3) hN (by rfl) (locl (by rfl)) (se_call ((d__law_draws F).mono (by omega)) hr tk (by rfl) F.g__law_draws F.k__law_draws (sa_cons (se_va (i := 0) (by rfl) (vis (by rfl)) (by rfl) (by rfl)) (sa_cons (se_lst (fr := true) (sa_cons (se_va (i := 2) (by rfl) (vis (by rfl)) (by rfl) (by rfl)) (sa_cons se_int (sa_cons se_int (sa_cons se_int (sa_cons (se_bin ops_pow se_int se_int) sa_nil (by rfl)) (by rfl)) (by rfl)) (by rfl)) (by rfl)) (by decide)) sa_nil (by rfl)) (by rfl)) (by rfl) (by rfl) (by rfl)) (by rfl) (by first | exact .inr rfl | exact .inl rfl))
    (ss_sF [0, 2] (ss_cons (st_asg (i := 4) hN (by rfl) (locl (by rfl)) (se_ix (se_lst (fr := false) (sa_cons se_int (sa_cons se_int (sa_cons se_int (sa_cons se_int (sa_cons (se_bin ops_add se_int (se_bin ops_mod (se_callTy bl_int (by rfl) F.n_int bb_int (sa_cons (se_ix (se_va (i := 3) (by rfl) (vis (by rfl)) (by rfl) (by rfl)) se_int (fun _ _ => rfl)) sa_nil (by rfl)) (by decide) (by rfl) (by rfl) (by rfl)) se_int)) (sa_cons (se_bin ops_add se_int (se_ix (se_va (i := 3) (by rfl) (vis (by rfl)) (by rfl) (by rfl)) se_int (fun _ _ => rfl))) sa_nil (by rfl)) (by rfl)) (by rfl)) (by rfl)) (by rfl)) (by rfl)) (by decide)) (se_ix (se_va (i := 3) (by rfl) (vis (by rfl)) (by rfl) (by rfl)) se_int (fun _ _ => rfl)) (fun _ _ => rfl)) (by rfl) (by first | exact .inr rfl | exact .inl rfl))
    (ss_cons (st_asg (i := 5) hN (by rfl) (locl (by rfl)) (se_bin ops_add se_int (se_ix (se_va (i := 3) (by rfl) (vis (by rfl)) (by rfl) (by rfl)) se_int (fun _ _ => rfl))) (by rfl) (by first | exact .inr rfl | exact .inl rfl))
    (ss_sH [5] (ss_cons (st_asg (i := 6) hN (by rfl) (locl (by rfl)) (se_ix (se_lst (fr := false) (sa_cons se_int (sa_cons se_int (sa_cons se_int (sa_cons se_int (sa_cons se_int (sa_cons se_int (sa_cons se_int (sa_cons se_int (sa_cons se_int (sa_cons se_int sa_nil (by rfl)) (by rfl)) (by rfl)) (by rfl)) (by rfl)) (by rfl)) (by rfl)) (by rfl)) (by rfl)) (by rfl)) (by decide)) (se_ix (se_va (i := 3) (by rfl) (vis (by rfl)) (by rfl) (by rfl)) se_int (fun _ _ => rfl)) (fun _ _ => rfl)) (by rfl) (by first | exact .inr rfl | exact .inl rfl))
    (ss_cons (st_asg (i := 7) hN (by rfl) (locl (by rfl)) (se_lst (fr := false) sa_nil (by decide)) (by rfl) (by first | exact .inr rfl | exact .inl rfl))
    (ss_cons (st_for (is := [8]) (xi := l__law_work_0_i) (bd := bd1 8) (sb := l__law_work_0_b) hp rfl (si_range1 (by rfl) F.n_range (sa_cons (se_va (i := 5) (by rfl) (vis (by rfl)) (by rfl) (by rfl)) sa_nil (by rfl)) (by rfl)) (pg_name (i := 8) hN (by rfl) (locl (by rfl)) (by first | exact .inr rfl | exact .inl rfl)) sg_name (itmOk_range1 (cl := true)) (ss_cons (st_asg (i := 9) hN (by rfl) (locl (by rfl)) (se_lst (fr := false) sa_nil (by decide)) (by rfl) (by first | exact .inr rfl | exact .inl rfl))
    (ss_cons (st_for (is := [10]) (xi := l__law_work_1_i) (bd := bd1 10) (sb := l__law_work_1_b) hp rfl (si_range1 (by rfl) F.n_range (sa_cons (se_va (i := 5) (by rfl) (vis (by rfl)) (by rfl) (by rfl)) sa_nil (by rfl)) (by rfl)) (pg_name (i := 10) hN (by rfl) (locl (by rfl)) (by first | exact .inr rfl | exact .inl rfl)) sg_name (itmOk_range1 (cl := true)) (ss_cons (st_asg (i := 11) hN (by rfl) (locl (by rfl)) (se_bin ops_add (se_bin ops_mul (se_va (i := 8) (by rfl) (vis (by rfl)) (by rfl) (by rfl)) (se_va (i := 5) (by rfl) (vis (by rfl)) (by rfl) (by rfl))) (se_va (i := 10) (by rfl) (vis (by rfl)) (by rfl) (by rfl))) (by rfl) (by first | exact .inr rfl | exact .inl rfl))
    (ss_sF [10] (ss_cons (st_asg (i := 12) hN (by rfl) (locl (by rfl)) (se_bin ops_mul se_int (se_va (i := 11) (by rfl) (vis (by rfl)) (by rfl) (by rfl))) (by rfl) (by first | exact .inr rfl | exact .inl rfl))
    (ss_cons (st_if (st_cmp ops_gt (nomark _) (se_callB bl_len (by rfl) F.n_len bb_len (sa_cons (se_va (i := 1) (by rfl) (vis (by rfl)) (by rfl) (by rfl)) sa_nil (by rfl)) (by decide) (by rfl) (by rfl) (by rfl)) se_int) (ss_sF [12] (ss_cons (st_asg (i := 12) hN (by rfl) (locl (by rfl)) (se_bin ops_add (se_callTy bl_int (by rfl) F.n_int bb_int (sa_cons (se_ix (se_va (i := 1) (by rfl) (vis (by rfl)) (by rfl) (by rfl)) (se_bin ops_mod (se_va (i := 11) (by rfl) (vis (by rfl)) (by rfl) (by rfl)) (se_callB bl_len (by rfl) F.n_len bb_len (sa_cons (se_va (i := 1) (by rfl) (vis (by rfl)) (by rfl) (by rfl)) sa_nil (by rfl)) (by decide) (by rfl) (by rfl) (by rfl))) (fun _ _ => rfl)) sa_nil (by rfl)) (by decide) (by rfl) (by rfl) (by rfl)) (se_bin ops_mul (se_bin ops_mul se_int (se_bin ops_div (se_va (i := 11) (by rfl) (vis (by rfl)) (by rfl) (by rfl)) (se_callB bl_len (by rfl) F.n_len bb_len (sa_cons (se_va (i := 1) (by rfl) (vis (by rfl)) (by rfl) (by rfl)) sa_nil (by rfl)) (by decide) (by rfl) (by rfl) (by rfl)))) se_int)) (by rfl) (by first | exact .inr rfl | exact .inl rfl))
    (ss_sF [11] ss_nil))) (ss_sF [11] ss_nil))
    (ss_cons (st_asg (i := 13) hN (by rfl) (locl (by rfl)) (se_call ((d__law_small F).mono (by omega)) hr tk (by rfl) F.g__law_small F.k__law_small (sa_cons (se_va (i := 12) (by rfl) (vis (by rfl)) (by rfl) (by rfl)) (sa_cons (se_va (i := 6) (by rfl) (vis (by rfl)) (by rfl) (by rfl)) sa_nil (by rfl)) (by rfl)) (by rfl) (by rfl) (by rfl)) (by rfl) (by first | exact .inr rfl | exact .inl rfl))
    (ss_sF [12] (ss_cons (st_if (st_cmp ops_isNot (nomark _) (se_va (i := 13) (by rfl) (vis (by rfl)) (by rfl) (by rfl)) se_non) (ss_one (st_asg (i := 13) hN (by rfl) (locl (by rfl)) (se_call ((d__law_times F).mono (by omega)) hr tk (by rfl) F.g__law_times F.k__law_times (sa_cons (se_va (i := 13) (by rfl) (vis (by rfl)) (by rfl) (by rfl)) (sa_cons (se_va (i := 4) (by rfl) (vis (by rfl)) (by rfl) (by rfl)) sa_nil (by rfl)) (by rfl)) (by rfl) (by rfl) (by rfl)) (by rfl) (by first | exact .inr rfl | exact .inl rfl))) ss_nil)
    (ss_one (st_appM (j := 13) (sp_name (i := 9) (by rfl) (vis (by rfl)) (by rfl) (by rfl)) (by rfl) (vis (by rfl)) (by rfl) (by rfl) (by rfl) (by rfl) (by rfl) (by rfl) (by rfl) (by rfl)))))))))) (fun _ => rfl))
    (ss_sF [8, 10, 11, 12, 13] (ss_one (st_appM (j := 9) (sp_name (i := 7) (by rfl) (vis (by rfl)) (by rfl) (by rfl)) (by rfl) (vis (by rfl)) (by rfl) (by rfl) (by rfl) (by rfl) (by rfl) (by rfl) (by rfl) (by rfl)))))) (fun _ => rfl))
    (ss_sF [1, 4, 6, 8, 9, 10, 11, 12, 13] (ss_cons (st_if (st_cmp (ops_eq hu) (nomark _) (se_ix (se_va (i := 3) (by rfl) (vis (by rfl)) (by rfl) (by rfl)) se_int (fun _ _ => rfl)) se_int) (ss_sF [3] (ss_cons (st_for (is := [8]) (xi := l__law_work_2_i) (bd := bd1 8) (sb := l__law_work_2_b) hp rfl (si_range1 (by rfl) F.n_range (sa_cons (se_va (i := 5) (by rfl) (vis (by rfl)) (by rfl) (by rfl)) sa_nil (by rfl)) (by rfl)) (pg_name (i := 8) hN (by rfl) (locl (by rfl)) (by first | exact .inr rfl | exact .inl rfl)) sg_name (itmOk_range1 (cl := true)) (ss_cons (st_for (is := [10]) (xi := l__law_work_3_i) (bd := bd1 10) (sb := l__law_work_3_b) hp rfl (si_range1 (by rfl) F.n_range (sa_cons (se_va (i := 5) (by rfl) (vis (by rfl)) (by rfl) (by rfl)) sa_nil (by rfl)) (by rfl)) (pg_name (i := 10) hN (by rfl) (locl (by rfl)) (by first | exact .inr rfl | exact .inl rfl)) sg_name (itmOk_range1 (cl := true)) (ss_one (st_if (st_cmp ops_gt (nomark _) (se_va (i := 10) (by rfl) (vis (by rfl)) (by rfl) (by rfl)) (se_va (i := 8) (by rfl) (vis (by rfl)) (by rfl) (by rfl))) (ss_cons (st_al (i := 9) hN (by rfl) (locl (by rfl)) (sp_ix (sp_name (i := 7) (by rfl) (vis (by rfl)) (by rfl) (by rfl)) (se_va (i := 8) (by rfl) (vis (by rfl)) (by rfl) (by rfl)) (fun _ _ => rfl)) (by rfl) (by first | exact .inr rfl | exact .inl rfl))
    (ss_cons (st_set (sp_name (i := 9) (by rfl) (vis (by rfl)) (by rfl) (by rfl)) (se_va (i := 10) (by rfl) (vis (by rfl)) (by rfl) (by rfl)) se_non (pg_sub pe_w pe_w set_list) (by rfl) (by rfl) (by rfl))
    (ss_sF [9, 10] ss_nil))) (ss_sF [10] ss_nil))) (fun _ => rfl))
    (ss_sF [8, 9, 10] ss_nil)) (fun _ => rfl))
    (ss_sF [5, 8, 9, 10] ss_nil))) (ss_sF [3, 5] ss_nil))
    (ss_one (st_ret (se_va (i := 7) (by rfl) (vis (by rfl)) (by rfl) (by rfl))))))))))))))
def s__law_cell : Rho → SR := sSeq (sIf (xTb (x2 (pl dLt) (xVa 1) (xA true (b1 dLen) [xVa 0]))) (sRet (xA true (b1 dInt) [x2 ixD (xVa 0) (xVa 1)])) (sF [0, 1] (sNil))) (sRet (xCn (.int 0)))
def f__law_cell : List D → Res (Lv × D) := runB s__law_cell 2 2
theorem sc__law_cell : FnScope ["_law_script", "_law_k"] ["_law_script", "_law_k"] (defScope (top 11)) := ⟨rfl, rfl, rfl, by decide +kernel, rfl, by decide +kernel, by decide +kernel⟩
theorem d__law_cell (F : Fx K mg) : FnS P w K mg base 1 (He.ga K "_law_cell") 2 f__law_cell := by
  obtain ⟨fd, FF⟩ := F.d__law_cell
  refine fnS_of (N := ["_law_script", "_law_k"]) (ps := ["_law_script", "_law_k"]) (k := 0) (fun_of FF) sc__law_cell (by decide) (fun _ _ _ _ _ _ us hl => match us, hl with | [_, _], _ => rfl) fun cd A outer s H E hr => ?_
  have tk : Takes (bodyX P w K mg base ["_law_script", "_law_k"] "_law_cell" (top 11) (He.ga K "_law_cell") cd A outer s H E) (bodyW E) := takes_of rfl rfl rfl rfl
  have hp : PassesOwn (model P w) _ _ _ := passes_of (X := bodyX P w K mg base ["_law_script", "_law_k"] "_law_cell" (top 11) (He.ga K "_law_cell") cd A outer s H E) rfl
  have hN := sc__law_cell.nd
  have hu := hr.r.units
  have hu65 := Ev.units65 hr.r
  have hg := hr.g
  exact (ss_cons (st_if (st_cmp ops_lt (nomark _) (se_va (i := 1) (by rfl) (vis (by rfl)) (by rfl) (by rfl)) (se_callB bl_len (by rfl) F.n_len bb_len (sa_cons (se_va (i := 0) (by rfl) (vis (by rfl)) (by rfl) (by rfl)) sa_nil (by rfl)) (by decide) (by rfl) (by rfl) (by rfl))) (ss_one (st_ret (se_callTy bl_int (by rfl) F.n_int bb_int (sa_cons (se_ix (se_va (i := 0) (by rfl) (vis (by rfl)) (by rfl) (by rfl)) (se_va (i := 1) (by rfl) (vis (by rfl)) (by rfl) (by rfl)) (fun _ _ => rfl)) sa_nil (by rfl)) (by decide) (by rfl) (by rfl) (by rfl)))) (ss_sF [0, 1] ss_nil))
    (ss_one (st_ret se_int)))
def l__law_circuits_3_i : Rho → Res (List BV) := xItA rangeV2 [xVa 3, xVa 1]
def l__law_circuits_3_b : Rho → SR := sIf (xTb (x2 (pl dIsNot) (x2 ixD (x2 ixD (xVa 0) (xVa 8)) (x2 ixD (xVa 7) (x1 (p1 dNeg) (xCn (.int 1))))) (xCn .none))) (sIf (xTb (x2 (pl dEq) (xVa 8) (xVa 3))) (sF [8] (sApp (xPl 2) (x2 (dAddV) (xVa 7) (xA false mkLst [xVa 3])))) (sIf (xTb (x2 (pl (dInD true)) (xVa 8) (xVa 7))) (sSeq (sApp (xPl 6) (x2 (dAddV) (xVa 7) (xA false mkLst [xVa 8]))) (sF [8] (sNil))) (sF [8] (sNil)))) (sF [8] (sNil))
def l__law_circuits_2_i : Rho → Res (List BV) := xItV true (xVa 4)
def l__law_circuits_2_b : Rho → SR := sH [7] (sSeq (sFor l__law_circuits_3_i (bd1 8) l__law_circuits_3_b) (sF [7, 8] (sNil)))
def l__law_circuits_1_i : Rho → Res (List BV) := xItA rangeV1 [xVa 1]
def l__law_circuits_1_b : Rho → SR := sF [5] (sH [4] (sSeq (sAsg 6 (xA false mkLst [])) (sSeq (sFor l__law_circuits_2_i (bd1 7) l__law_circuits_2_b) (sF [4, 7, 8] (sSeq (sMov 4 6) (sH [4] (sNil)))))))
def l__law_circuits_0_i : Rho → Res (List BV) := xItA rangeV1 [xVa 1]
def l__law_circuits_0_b : Rho → SR := sSeq (sAsg 4 (xA false mkLst [xA false mkLst [xVa 3]])) (sH [4] (sSeq (sFor l__law_circuits_1_i (bd1 5) l__law_circuits_1_b) (sF [3, 4, 5, 6, 7, 8] (sNil))))
def s__law_circuits : Rho → SR := sSeq (sAsg 1 (xA true (b1 dLen) [xVa 0])) (sSeq (sAsg 2 (xA false mkLst [])) (sSeq (sFor l__law_circuits_0_i (bd1 3) l__law_circuits_0_b) (sH [4, 7] (sRet (xVa 2)))))
def f__law_circuits : List D → Res (Lv × D) := runB s__law_circuits 9 1
theorem sc__law_circuits : FnScope ["_law_work_here", "_law_size", "_law_found", "_law_start", "_law_paths", "_law_k", "_law_longer", "_law_path", "_law_i"] ["_law_work_here"] (defScope (top 30)) := ⟨rfl, rfl, rfl, by decide +kernel, rfl, by decide +kernel, by decide +kernel⟩
theorem d__law_circuits (F : Fx K mg) : FnS P w K mg base 1 (He.ga K "_law_circuits") 1 f__law_circuits := by
  obtain ⟨fd, FF⟩ := F.d__law_circuits
  refine fnS_of (N := ["_law_work_here", "_law_size", "_law_found", "_law_start", "_law_paths", "_law_k", "_law_longer", "_law_path", "_law_i"]) (ps := ["_law_work_here"]) (k := 0) (fun_of FF) sc__law_circuits (by decide) (fun _ _ _ _ _ _ us hl => match us, hl with | [_], _ => rfl) fun cd A outer s H E hr => ?_
  have tk : Takes (bodyX P w K mg base ["_law_work_here", "_law_size", "_law_found", "_law_start", "_law_paths", "_law_k", "_law_longer", "_law_path", "_law_i"] "_law_circuits" (top 30) (He.ga K "_law_circuits") cd A outer s H E) (bodyW E) := takes_of rfl rfl rfl rfl
  have hp : PassesOwn (model P w) _ _ _ := passes_of (X := bodyX P w K mg base ["_law_work_here", "_law_size", "_law_found", "_law_start", "_law_paths", "_law_k", "_law_longer", "_law_path", "_law_i"] "_law_circuits" (top 30) (He.ga K "_law_circuits") cd A outer s H E) rfl
  have hN := sc__law_circuits.nd
  have hu := hr.r.units
  have hu65 := Ev.units65 hr.r
  have hg := hr.g
  exact (ss_cons (st_asg (i := 1) hN (by rfl) (locl (by rfl)) (se_callB bl_len (by rfl) F.n_len bb_len (sa_cons (se_va (i := 0) (by rfl) (vis (by rfl)) (by rfl) (by rfl)) sa_nil (by rfl)) (by decide) (by rfl) (by rfl) (by rfl)) (by rfl) (by first | exact .inr rfl | exact .inl rfl))
    (ss_cons (st_asg (i := 2) hN (by rfl) (locl (by rfl)) (se_lst (fr := false) sa_nil (by decide)) (by rfl) (by first | exact .inr rfl | exact .inl rfl))
    (ss_cons (st_for (is := [3]) (xi := l__law_circuits_0_i) (bd := bd1 3) (sb := l__law_circuits_0_b) hp rfl (si_range1 (by rfl) F.n_range (sa_cons (se_va (i := 1) (by rfl) (vis (by rfl)) (by rfl) (by rfl)) sa_nil (by rfl)) (by rfl)) (pg_name (i := 3) hN (by rfl) (locl (by rfl)) (by first | exact .inr rfl | exact .inl rfl)) sg_name (itmOk_range1 (cl := true)) (ss_cons (st_asg (i := 4) hN (by rfl) (locl (by rfl)) (se_lst (fr := false) (sa_cons (se_lst (fr := false) (sa_cons (se_va (i := 3) (by rfl) (vis (by rfl)) (by rfl) (by rfl)) sa_nil (by rfl)) (by decide)) sa_nil (by rfl)) (by decide)) (by rfl) (by first | exact .inr rfl | exact .inl rfl))
    (ss_sH [4] (ss_cons (st_for (is := [5]) (xi := l__law_circuits_1_i) (bd := bd1 5) (sb := l__law_circuits_1_b) hp rfl (si_range1 (by rfl) F.n_range (sa_cons (se_va (i := 1) (by rfl) (vis (by rfl)) (by rfl) (by rfl)) sa_nil (by rfl)) (by rfl)) (pg_name (i := 5) hN (by rfl) (locl (by rfl)) (by first | exact .inr rfl | exact .inl rfl)) sg_name (itmOk_range1 (cl := true)) (ss_sF [5] (ss_sH [4] (ss_cons (st_asg (i := 6) hN (by rfl) (locl (by rfl)) (se_lst (fr := false) sa_nil (by decide)) (by rfl) (by first | exact .inr rfl | exact .inl rfl))
    (ss_cons (st_for (is := [7]) (xi := l__law_circuits_2_i) (bd := bd1 7) (sb := l__law_circuits_2_b) hp rfl (si_seq (se_va (i := 4) (by rfl) (vis (by rfl)) (by rfl) (by rfl))) (pg_name (i := 7) hN (by rfl) (locl (by rfl)) (by first | exact .inr rfl | exact .inl rfl)) sg_name (itmOk_seq (cl := true)) (ss_sH [7] (ss_cons (st_for (is := [8]) (xi := l__law_circuits_3_i) (bd := bd1 8) (sb := l__law_circuits_3_b) hp rfl (si_range2 (by rfl) F.n_range (sa_cons (se_va (i := 3) (by rfl) (vis (by rfl)) (by rfl) (by rfl)) (sa_cons (se_va (i := 1) (by rfl) (vis (by rfl)) (by rfl) (by rfl)) sa_nil (by rfl)) (by rfl)) (by rfl) (by rfl)) (pg_name (i := 8) hN (by rfl) (locl (by rfl)) (by first | exact .inr rfl | exact .inl rfl)) sg_name (itmOk_range2 (cl := true)) (ss_one (st_if (st_cmp ops_isNot (nomark _) (se_ix (se_ix (se_va (i := 0) (by rfl) (vis (by rfl)) (by rfl) (by rfl)) (se_va (i := 8) (by rfl) (vis (by rfl)) (by rfl) (by rfl)) (fun _ _ => rfl)) (se_ix (se_va (i := 7) (by rfl) (vis (by rfl)) (by rfl) (by rfl)) (se_neg se_int) (fun _ _ => rfl)) (fun _ _ => rfl)) se_non) (ss_one (st_if (st_cmp (ops_eq hu) (nomark _) (se_va (i := 8) (by rfl) (vis (by rfl)) (by rfl) (by rfl)) (se_va (i := 3) (by rfl) (vis (by rfl)) (by rfl) (by rfl))) (ss_sF [8] (ss_one (st_app (sp_name (i := 2) (by rfl) (vis (by rfl)) (by rfl) (by rfl)) (se_bin ops_addV (se_va (i := 7) (by rfl) (vis (by rfl)) (by rfl) (by rfl)) (se_lst (fr := false) (sa_cons (se_va (i := 3) (by rfl) (vis (by rfl)) (by rfl) (by rfl)) sa_nil (by rfl)) (by decide))) (by rfl) (by rfl) (by rfl) (by rfl) (by rfl) (by rfl)))) (ss_one (st_if (st_cmp (ops_inD true hu65) (by with_unfolding_all rfl) (se_va (i := 8) (by rfl) (vis (by rfl)) (by rfl) (by rfl)) (se_va (i := 7) (by rfl) (vis (by rfl)) (by rfl) (by rfl))) (ss_cons (st_app (sp_name (i := 6) (by rfl) (vis (by rfl)) (by rfl) (by rfl)) (se_bin ops_addV (se_va (i := 7) (by rfl) (vis (by rfl)) (by rfl) (by rfl)) (se_lst (fr := false) (sa_cons (se_va (i := 8) (by rfl) (vis (by rfl)) (by rfl) (by rfl)) sa_nil (by rfl)) (by decide))) (by rfl) (by rfl) (by rfl) (by rfl) (by rfl) (by rfl))
    (ss_sF [8] ss_nil)) (ss_sF [8] ss_nil))))) (ss_sF [8] ss_nil))) (fun _ => rfl))
    (ss_sF [7, 8] ss_nil))) (fun _ => rfl))
    (ss_sF [4, 7, 8] (ss_cons (st_mov (i := 4) (j := 6) (by decide) hN (by rfl) (by rfl) (locl (by rfl)) (vis (by rfl)) (by rfl) (by rfl) (by rfl) (by first | exact .inr rfl | exact .inl rfl))
    (ss_sH [4] ss_nil))))))) (fun _ => rfl))
    (ss_sF [3, 4, 5, 6, 7, 8] ss_nil)))) (fun _ => rfl))
    (ss_sH [4, 7] (ss_one (st_ret (se_va (i := 2) (by rfl) (vis (by rfl)) (by rfl) (by rfl))))))))
def s__law_plus : Rho → SR := sSeq (sIf (tOrX (xTb (x2 (pl dIs) (xVa 0) (xCn .none))) (xTb (x2 (pl dIs) (xVa 1) (xCn .none)))) (sRet (xCn .none)) (sNil)) (sRet (xA true (xCall f__law_fraction 2) [x2 (pl dAdd) (x2 (pl dMul) (x2 ixD (xVa 0) (xCn (.int 0))) (x2 ixD (xVa 1) (xCn (.int 1)))) (x2 (pl dMul) (x2 ixD (xVa 1) (xCn (.int 0))) (x2 ixD (xVa 0) (xCn (.int 1)))), x2 (pl dMul) (x2 ixD (xVa 0) (xCn (.int 1))) (x2 ixD (xVa 1) (xCn (.int 1)))]))
def f__law_plus : List D → Res (Lv × D) := runB s__law_plus 2 2
theorem sc__law_plus : FnScope ["_law_first", "_law_second"] ["_law_first", "_law_second"] (defScope (top 15)) := ⟨rfl, rfl, rfl, by decide +kernel, rfl, by decide +kernel, by decide +kernel⟩
theorem d__law_plus (F : Fx K mg) : FnS P w K mg base 3 (He.ga K "_law_plus") 2 f__law_plus := by
  obtain ⟨fd, FF⟩ := F.d__law_plus
  refine fnS_of (N := ["_law_first", "_law_second"]) (ps := ["_law_first", "_law_second"]) (k := 2) (fun_of FF) sc__law_plus (by decide) (fun _ _ _ _ _ _ us hl => match us, hl with | [_, _], _ => rfl) fun cd A outer s H E hr => ?_
  have tk : Takes (bodyX P w K mg base ["_law_first", "_law_second"] "_law_plus" (top 15) (He.ga K "_law_plus") cd A outer s H E) (bodyW E) := takes_of rfl rfl rfl rfl
  have hp : PassesOwn (model P w) _ _ _ := passes_of (X := bodyX P w K mg base ["_law_first", "_law_second"] "_law_plus" (top 15) (He.ga K "_law_plus") cd A outer s H E) rfl
  have hN := sc__law_plus.nd
  have hu := hr.r.units
  have hu65 := Ev.units65 hr.r
  have hg := hr.g
  exact (ss_cons (st_if (st_bool (sw_or (st_cmp ops_is (nomark _) (se_va (i := 0) (by rfl) (vis (by rfl)) (by rfl) (by rfl)) se_non) (sw_or1 (st_cmp ops_is (nomark _) (se_va (i := 1) (by rfl) (vis (by rfl)) (by rfl) (by rfl)) se_non)))) (ss_one (st_ret se_non)) ss_nil)
    (ss_one (st_ret (se_call ((d__law_fraction F).mono (by omega)) hr tk (by rfl) F.g__law_fraction F.k__law_fraction (sa_cons (se_bin ops_add (se_bin ops_mul (se_ix (se_va (i := 0) (by rfl) (vis (by rfl)) (by rfl) (by rfl)) se_int (fun _ _ => rfl)) (se_ix (se_va (i := 1) (by rfl) (vis (by rfl)) (by rfl) (by rfl)) se_int (fun _ _ => rfl))) (se_bin ops_mul (se_ix (se_va (i := 1) (by rfl) (vis (by rfl)) (by rfl) (by rfl)) se_int (fun _ _ => rfl)) (se_ix (se_va (i := 0) (by rfl) (vis (by rfl)) (by rfl) (by rfl)) se_int (fun _ _ => rfl)))) (sa_cons (se_bin ops_mul (se_ix (se_va (i := 0) (by rfl) (vis (by rfl)) (by rfl) (by rfl)) se_int (fun _ _ => rfl)) (se_ix (se_va (i := 1) (by rfl) (vis (by rfl)) (by rfl) (by rfl)) se_int (fun _ _ => rfl))) sa_nil (by rfl)) (by rfl)) (by rfl) (by rfl) (by rfl)))))
def l__law_walk_time_0_i : Rho → Res (List BV) := xItV true (xVa 1)
def l__law_walk_time_0_b : Rho → SR := sIf (tNotX (xTb (x3c dLe dLt (xCn (.int 0)) (xVa 3) (xA true (b1 dLen) [xVa 0])))) (sRet (xCn .none)) (sF [3] (sNil))
def l__law_walk_time_1_i : Rho → Res (List BV) := xItA rangeV1 [x2 (pl dSub) (xA true (b1 dLen) [xVa 1]) (xCn (.int 1))]
def l__law_walk_time_1_b : Rho → SR := sSeq (sAsg 2 (xA true (xCall f__law_plus 2) [xVa 2, x2 ixD (x2 ixD (xVa 0) (x2 ixD (xVa 1) (x2 (pl dAdd) (xVa 4) (xCn (.int 1))))) (x2 ixD (xVa 1) (xVa 4))])) (sF [4] (sNil))
def s__law_walk_time : Rho → SR := sSeq (sAsg 2 (xA false mkTup [xCn (.int 0), xCn (.int 1)])) (sSeq (sFor l__law_walk_time_0_i (bd1 3) l__law_walk_time_0_b) (sF [3] (sSeq (sFor l__law_walk_time_1_i (bd1 4) l__law_walk_time_1_b) (sRet (xVa 2)))))
def f__law_walk_time : List D → Res (Lv × D) := runB s__law_walk_time 5 2
theorem sc__law_walk_time : FnScope ["_law_work_here", "_law_walk", "_law_time", "_law_event", "_law_k"] ["_law_work_here", "_law_walk"] (defScope (top 28)) := ⟨rfl, rfl, rfl, by decide +kernel, rfl, by decide +kernel, by decide +kernel⟩
theorem d__law_walk_time (F : Fx K mg) : FnS P w K mg base 4 (He.ga K "_law_walk_time") 2 f__law_walk_time := by
  obtain ⟨fd, FF⟩ := F.d__law_walk_time
  refine fnS_of (N := ["_law_work_here", "_law_walk", "_law_time", "_law_event", "_law_k"]) (ps := ["_law_work_here", "_law_walk"]) (k := 3) (fun_of FF) sc__law_walk_time (by decide) (fun _ _ _ _ _ _ us hl => match us, hl with | [_, _], _ => rfl) fun cd A outer s H E hr => ?_
  have tk : Takes (bodyX P w K mg base ["_law_work_here", "_law_walk", "_law_time", "_law_event", "_law_k"] "_law_walk_time" (top 28) (He.ga K "_law_walk_time") cd A outer s H E) (bodyW E) := takes_of rfl rfl rfl rfl
  have hp : PassesOwn (model P w) _ _ _ := passes_of (X := bodyX P w K mg base ["_law_work_here", "_law_walk", "_law_time", "_law_event", "_law_k"] "_law_walk_time" (top 28) (He.ga K "_law_walk_time") cd A outer s H E) rfl
  have hN := sc__law_walk_time.nd
  have hu := hr.r.units
  have hu65 := Ev.units65 hr.r
  have hg := hr.g
  exact (ss_cons (st_asg (i := 2) hN (by rfl) (locl (by rfl)) (se_tup (fr := false) (sa_cons se_int (sa_cons se_int sa_nil (by rfl)) (by rfl)) (by decide)) (by rfl) (by first | exact .inr rfl | exact .inl rfl))
    (ss_cons (st_for (is := [3]) (xi := l__law_walk_time_0_i) (bd := bd1 3) (sb := l__law_walk_time_0_b) hp rfl (si_seq (se_va (i := 1) (by rfl) (vis (by rfl)) (by rfl) (by rfl))) (pg_name (i := 3) hN (by rfl) (locl (by rfl)) (by first | exact .inr rfl | exact .inl rfl)) sg_name (itmOk_seq (cl := true)) (ss_one (st_if (st_not (st_chain (opp_cmp op_le) (opp_cmp op_lt) (by with_unfolding_all rfl) se_int (se_va (i := 3) (by rfl) (vis (by rfl)) (by rfl) (by rfl)) (se_callB bl_len (by rfl) F.n_len bb_len (sa_cons (se_va (i := 0) (by rfl) (vis (by rfl)) (by rfl) (by rfl)) sa_nil (by rfl)) (by decide) (by rfl) (by rfl) (by rfl)))) (ss_one (st_ret se_non)) (ss_sF [3] ss_nil))) (fun _ => rfl))
    (ss_sF [3] (ss_cons (st_for (is := [4]) (xi := l__law_walk_time_1_i) (bd := bd1 4) (sb := l__law_walk_time_1_b) hp rfl (si_range1 (by rfl) F.n_range (sa_cons (se_bin ops_sub (se_callB bl_len (by rfl) F.n_len bb_len (sa_cons (se_va (i := 1) (by rfl) (vis (by rfl)) (by rfl) (by rfl)) sa_nil (by rfl)) (by decide) (by rfl) (by rfl) (by rfl)) se_int) sa_nil (by rfl)) (by rfl)) (pg_name (i := 4) hN (by rfl) (locl (by rfl)) (by first | exact .inr rfl | exact .inl rfl)) sg_name (itmOk_range1 (cl := true)) (ss_cons (st_asg (i := 2) hN (by rfl) (locl (by rfl)) (se_call ((d__law_plus F).mono (by omega)) hr tk (by rfl) F.g__law_plus F.k__law_plus (sa_cons (se_va (i := 2) (by rfl) (vis (by rfl)) (by rfl) (by rfl)) (sa_cons (se_ix (se_ix (se_va (i := 0) (by rfl) (vis (by rfl)) (by rfl) (by rfl)) (se_ix (se_va (i := 1) (by rfl) (vis (by rfl)) (by rfl) (by rfl)) (se_bin ops_add (se_va (i := 4) (by rfl) (vis (by rfl)) (by rfl) (by rfl)) se_int) (fun _ _ => rfl)) (fun _ _ => rfl)) (se_ix (se_va (i := 1) (by rfl) (vis (by rfl)) (by rfl) (by rfl)) (se_va (i := 4) (by rfl) (vis (by rfl)) (by rfl) (by rfl)) (fun _ _ => rfl)) (fun _ _ => rfl)) sa_nil (by rfl)) (by rfl)) (by rfl) (by rfl) (by rfl)) (by rfl) (by first | exact .inr rfl | exact .inl rfl))
    (ss_sF [4] ss_nil)) (fun _ => rfl))
    (ss_one (st_ret (se_va (i := 2) (by rfl) (vis (by rfl)) (by rfl) (by rfl))))))))
def s_fraction : Rho → SR := sSeq (sIf (xTb (x2 (pl dEq) (xVa 1) (xCn (.int 0)))) (sRz "OutOfRange") (sNil)) (sSeq (sAsg 2 (xA true (b2 dGcd) [xVa 0, xVa 1])) (sSeq (sIf (xTb (x2 (pl dLt) (xVa 1) (xCn (.int 0)))) (sAsg 2 (x1 (p1 dNeg) (xVa 2))) (sNil)) (sRet (xA false mkTup [x2 (pl dDiv) (xVa 0) (xVa 2), x2 (pl dDiv) (xVa 1) (xVa 2)]))))
def f_fraction : List D → Res (Lv × D) := runB s_fraction 3 2
theorem sc_fraction : FnScope ["top", "low", "divisor"] ["top", "low"] (defScope (top 5)) := ⟨rfl, rfl, rfl, by decide +kernel, rfl, by decide +kernel, by decide +kernel⟩
theorem d_fraction (F : Fx K mg) : FnS P w K mg base 1 (He.ga K "fraction") 2 f_fraction := by
  obtain ⟨fd, FF⟩ := F.d_fraction
  refine fnS_of (N := ["top", "low", "divisor"]) (ps := ["top", "low"]) (k := 0) (fun_of FF) sc_fraction (by decide) (fun _ _ _ _ _ _ us hl => match us, hl with | [_, _], _ => rfl) fun cd A outer s H E hr => ?_
  have tk : Takes (bodyX P w K mg base ["top", "low", "divisor"] "fraction" (top 5) (He.ga K "fraction") cd A outer s H E) (bodyW E) := takes_of rfl rfl rfl rfl
  have hp : PassesOwn (model P w) _ _ _ := passes_of (X := bodyX P w K mg base ["top", "low", "divisor"] "fraction" (top 5) (He.ga K "fraction") cd A outer s H E) rfl
  have hN := sc_fraction.nd
  have hu := hr.r.units
  have hu65 := Ev.units65 hr.r
  have hg := hr.g
  exact (ss_cons (st_if (st_cmp (ops_eq hu) (nomark _) (se_va (i := 1) (by rfl) (vis (by rfl)) (by rfl) (by rfl)) se_int) (ss_one (st_raise rfl tk F.g_OutOfRange (pmk_own PySem.F.excBase_ValueError F.x_OutOfRange F.g_OutOfRange F.k_OutOfRange (raises_own F.b_OutOfRange F.t_OutOfRange) (by rfl) (by rfl)))) ss_nil)
    (ss_cons (st_asg (i := 2) hN (by rfl) (locl (by rfl)) (se_callBf bl_gcd (by rfl) F.i_gcd (sa_cons (se_va (i := 0) (by rfl) (vis (by rfl)) (by rfl) (by rfl)) (sa_cons (se_va (i := 1) (by rfl) (vis (by rfl)) (by rfl) (by rfl)) sa_nil (by rfl)) (by rfl)) (by rfl) (by rfl) (by rfl)) (by rfl) (by first | exact .inr rfl | exact .inl rfl))
    (ss_cons (st_if (st_cmp ops_lt (nomark _) (se_va (i := 1) (by rfl) (vis (by rfl)) (by rfl) (by rfl)) se_int) (ss_one (st_asg (i := 2) hN (by rfl) (locl (by rfl)) (se_neg (se_va (i := 2) (by rfl) (vis (by rfl)) (by rfl) (by rfl))) (by rfl) (by first | exact .inr rfl | exact .inl rfl))) ss_nil)
    (ss_one (st_ret (se_tup (fr := false) (sa_cons (se_bin ops_div (se_va (i := 0) (by rfl) (vis (by rfl)) (by rfl) (by rfl)) (se_va (i := 2) (by rfl) (vis (by rfl)) (by rfl) (by rfl))) (sa_cons (se_bin ops_div (se_va (i := 1) (by rfl) (vis (by rfl)) (by rfl) (by rfl)) (se_va (i := 2) (by rfl) (vis (by rfl)) (by rfl) (by rfl))) sa_nil (by rfl)) (by rfl)) (by decide)))))))
def s_plus : Rho → SR := sSeq (sIf (tOrX (xTb (x2 (pl dIs) (xVa 0) (xCn .none))) (xTb (x2 (pl dIs) (xVa 1) (xCn .none)))) (sRet (xCn .none)) (sNil)) (sRet (xA true (xCall f_fraction 2) [x2 (pl dAdd) (x2 (pl dMul) (x2 ixD (xVa 0) (xCn (.int 0))) (x2 ixD (xVa 1) (xCn (.int 1)))) (x2 (pl dMul) (x2 ixD (xVa 1) (xCn (.int 0))) (x2 ixD (xVa 0) (xCn (.int 1)))), x2 (pl dMul) (x2 ixD (xVa 0) (xCn (.int 1))) (x2 ixD (xVa 1) (xCn (.int 1)))]))
def f_plus : List D → Res (Lv × D) := runB s_plus 2 2
theorem sc_plus : FnScope ["first", "second"] ["first", "second"] (defScope (top 6)) := ⟨rfl, rfl, rfl, by decide +kernel, rfl, by decide +kernel, by decide +kernel⟩
theorem d_plus (F : Fx K mg) : FnS P w K mg base 2 (He.ga K "plus") 2 f_plus := by
  obtain ⟨fd, FF⟩ := F.d_plus
  refine fnS_of (N := ["first", "second"]) (ps := ["first", "second"]) (k := 1) (fun_of FF) sc_plus (by decide) (fun _ _ _ _ _ _ us hl => match us, hl with | [_, _], _ => rfl) fun cd A outer s H E hr => ?_
  have tk : Takes (bodyX P w K mg base ["first", "second"] "plus" (top 6) (He.ga K "plus") cd A outer s H E) (bodyW E) := takes_of rfl rfl rfl rfl
  have hp : PassesOwn (model P w) _ _ _ := passes_of (X := bodyX P w K mg base ["first", "second"] "plus" (top 6) (He.ga K "plus") cd A outer s H E) rfl
  have hN := sc_plus.nd
  have hu := hr.r.units
  have hu65 := Ev.units65 hr.r
  have hg := hr.g
  exact (ss_cons (st_if (st_bool (sw_or (st_cmp ops_is (nomark _) (se_va (i := 0) (by rfl) (vis (by rfl)) (by rfl) (by rfl)) se_non) (sw_or1 (st_cmp ops_is (nomark _) (se_va (i := 1) (by rfl) (vis (by rfl)) (by rfl) (by rfl)) se_non)))) (ss_one (st_ret se_non)) ss_nil)
    (ss_one (st_ret (se_call ((d_fraction F).mono (by omega)) hr tk (by rfl) F.g_fraction F.k_fraction (sa_cons (se_bin ops_add (se_bin ops_mul (se_ix (se_va (i := 0) (by rfl) (vis (by rfl)) (by rfl) (by rfl)) se_int (fun _ _ => rfl)) (se_ix (se_va (i := 1) (by rfl) (vis (by rfl)) (by rfl) (by rfl)) se_int (fun _ _ => rfl))) (se_bin ops_mul (se_ix (se_va (i := 1) (by rfl) (vis (by rfl)) (by rfl) (by rfl)) se_int (fun _ _ => rfl)) (se_ix (se_va (i := 0) (by rfl) (vis (by rfl)) (by rfl) (by rfl)) se_int (fun _ _ => rfl)))) (sa_cons (se_bin ops_mul (se_ix (se_va (i := 0) (by rfl) (vis (by rfl)) (by rfl) (by rfl)) se_int (fun _ _ => rfl)) (se_ix (se_va (i := 1) (by rfl) (vis (by rfl)) (by rfl) (by rfl)) se_int (fun _ _ => rfl))) sa_nil (by rfl)) (by rfl)) (by rfl) (by rfl) (by rfl)))))
def c_walk_time_0_i : Rho → Res (List BV) := xItV false (xVa 1)
def c_walk_time_0_c : Rho → Res Bool := tTrue
def c_walk_time_0_x : Rho → Res BV := x3c dLe dLt (xCn (.int 0)) (xVa 2) (xA true (b1 dLen) [xVa 0])
def l_walk_time_1_i : Rho → Res (List BV) := xItA rangeV1 [x2 (pl dSub) (xA true (b1 dLen) [xVa 1]) (xCn (.int 1))]
def l_walk_time_1_b : Rho → SR := sSeq (sAsg 3 (xA true (xCall f_plus 2) [xVa 3, x2 ixD (x2 ixD (xVa 0) (x2 ixD (xVa 1) (x2 (pl dAdd) (xVa 4) (xCn (.int 1))))) (x2 ixD (xVa 1) (xVa 4))])) (sF [4] (sNil))
def s_walk_time : Rho → SR := sSeq (sIf (tNotX (xTru (xA true (b1 (dQuant fun bs => bs.all id)) [xLc c_walk_time_0_i [2] (bd1 2) c_walk_time_0_c c_walk_time_0_x]))) (sRet (xCn .none)) (sNil)) (sSeq (sAsg 3 (xA false mkTup [xCn (.int 0), xCn (.int 1)])) (sSeq (sFor l_walk_time_1_i (bd1 4) l_walk_time_1_b) (sRet (xVa 3))))
def f_walk_time : List D → Res (Lv × D) := runB s_walk_time 5 2
theorem sc_walk_time : FnScope ["work", "walk", "event", "time", "at"] ["work", "walk"] (defScope (top 8)) := ⟨rfl, rfl, rfl, by decide +kernel, rfl, by decide +kernel, by decide +kernel⟩
theorem d_walk_time (F : Fx K mg) : FnS P w K mg base 3 (He.ga K "walk_time") 2 f_walk_time := by
  obtain ⟨fd, FF⟩ := F.d_walk_time
  refine fnS_of (N := ["work", "walk", "event", "time", "at"]) (ps := ["work", "walk"]) (k := 2) (fun_of FF) sc_walk_time (by decide) (fun _ _ _ _ _ _ us hl => match us, hl with | [_, _], _ => rfl) fun cd A outer s H E hr => ?_
  have tk : Takes (bodyX P w K mg base ["work", "walk", "event", "time", "at"] "walk_time" (top 8) (He.ga K "walk_time") cd A outer s H E) (bodyW E) := takes_of rfl rfl rfl rfl
  have hp : PassesOwn (model P w) _ _ _ := passes_of (X := bodyX P w K mg base ["work", "walk", "event", "time", "at"] "walk_time" (top 8) (He.ga K "walk_time") cd A outer s H E) rfl
  have hN := sc_walk_time.nd
  have hu := hr.r.units
  have hu65 := Ev.units65 hr.r
  have hg := hr.g
  exact (ss_cons (st_if (st_not (st_val (se_callB (bl_all rfl) (by rfl) F.n_all bb_all (sa_cons (se_lc (is := [2]) (ow := [("event", 2)]) (xi := c_walk_time_0_i) (c := c_walk_time_0_c) (x := c_walk_time_0_x) (bd := bd1 2) rfl hN (blkOk_by (N := ["work", "walk", "event", "time", "at"]) (sc := defScope (top 8)) (by decide +kernel)) (si_seq (se_va (i := 1) (by rfl) (vis (by rfl)) (by rfl) (by rfl))) itmOk_seq (fun bs bH bC bcl bfp => (pg_name (i := 2) hN (by rfl) (locl (by rfl)) (by first | exact .inr rfl | exact .inl rfl))) sg_name (by decide) (fun bs bH bC bcl bfp => stt_nil) (fun bs bH bC bcl bfp => (se_chain (opp_cmp op_le) (opp_cmp op_lt) (by with_unfolding_all rfl) se_int (se_va (i := 2) (by rfl) (vis (by rfl)) (by rfl) (by rfl)) (se_callB bl_len (by rfl) F.n_len bb_len (sa_cons (se_va (i := 0) (by rfl) (vis (by rfl)) (by rfl) (by rfl)) sa_nil (by rfl)) (by decide) (by rfl) (by rfl) (by rfl)))) (fun _ => rfl)) sa_nil (by rfl)) (by decide) (by rfl) (by rfl) (by rfl)) (fun _ => rfl))) (ss_one (st_ret se_non)) ss_nil)
    (ss_cons (st_asg (i := 3) hN (by rfl) (locl (by rfl)) (se_tup (fr := false) (sa_cons se_int (sa_cons se_int sa_nil (by rfl)) (by rfl)) (by decide)) (by rfl) (by first | exact .inr rfl | exact .inl rfl))
    (ss_cons (st_for (is := [4]) (xi := l_walk_time_1_i) (bd := bd1 4) (sb := l_walk_time_1_b) hp rfl (si_range1 (by rfl) F.n_range (sa_cons (se_bin ops_sub (se_callB bl_len (by rfl) F.n_len bb_len (sa_cons (se_va (i := 1) (by rfl) (vis (by rfl)) (by rfl) (by rfl)) sa_nil (by rfl)) (by decide) (by rfl) (by rfl) (by rfl)) se_int) sa_nil (by rfl)) (by rfl)) (pg_name (i := 4) hN (by rfl) (locl (by rfl)) (by first | exact .inr rfl | exact .inl rfl)) sg_name (itmOk_range1 (cl := true)) (ss_cons (st_asg (i := 3) hN (by rfl) (locl (by rfl)) (se_call ((d_plus F).mono (by omega)) hr tk (by rfl) F.g_plus F.k_plus (sa_cons (se_va (i := 3) (by rfl) (vis (by rfl)) (by rfl) (by rfl)) (sa_cons (se_ix (se_ix (se_va (i := 0) (by rfl) (vis (by rfl)) (by rfl) (by rfl)) (se_ix (se_va (i := 1) (by rfl) (vis (by rfl)) (by rfl) (by rfl)) (se_bin ops_add (se_va (i := 4) (by rfl) (vis (by rfl)) (by rfl) (by rfl)) se_int) (fun _ _ => rfl)) (fun _ _ => rfl)) (se_ix (se_va (i := 1) (by rfl) (vis (by rfl)) (by rfl) (by rfl)) (se_va (i := 4) (by rfl) (vis (by rfl)) (by rfl) (by rfl)) (fun _ _ => rfl)) (fun _ _ => rfl)) sa_nil (by rfl)) (by rfl)) (by rfl) (by rfl) (by rfl)) (by rfl) (by first | exact .inr rfl | exact .inl rfl))
    (ss_sF [4] ss_nil)) (fun _ => rfl))
    (ss_one (st_ret (se_va (i := 3) (by rfl) (vis (by rfl)) (by rfl) (by rfl)))))))
def c_is_circuit_0_i : Rho → Res (List BV) := xItV false (xVa 2)
def c_is_circuit_0_c : Rho → Res Bool := tTrue
def c_is_circuit_0_x : Rho → Res BV := xVa 3
def s_is_circuit : Rho → SR := sSeq (sIf (tOrX (xTb (x2 (pl dLt) (xA true (b1 dLen) [xVa 1]) (xCn (.int 2)))) (tOrX (xTb (x2 (pl dNe) (x2 ixD (xVa 1) (xCn (.int 0))) (x2 ixD (xVa 1) (x1 (p1 dNeg) (xCn (.int 1)))))) (xTb (x2 (pl dIs) (xA true (xCall f_walk_time 2) [xVa 0, xVa 1]) (xCn .none))))) (sRet (xCn (.bool false))) (sF [0] (sNil))) (sSeq (sAsg 2 (xSl (xVa 1) (oNo) (oAt (x1 (p1 dNeg) (xCn (.int 1)))))) (sRet (xAndV (x2 (pl dEq) (x2 ixD (xVa 1) (xCn (.int 0))) (xA true (b1 (dIntsF fMin)) [xVa 2])) (x2 (pl dEq) (xLenSc c_is_circuit_0_i [3] (bd1 3) c_is_circuit_0_c c_is_circuit_0_x) (xA true (b1 dLen) [xVa 2])))))
def f_is_circuit : List D → Res (Lv × D) := runB s_is_circuit 4 2
theorem sc_is_circuit : FnScope ["work", "walk", "events", "event"] ["work", "walk"] (defScope (top 9)) := ⟨rfl, rfl, rfl, by decide +kernel, rfl, by decide +kernel, by decide +kernel⟩
theorem d_is_circuit (F : Fx K mg) : FnS P w K mg base 4 (He.ga K "is_circuit") 2 f_is_circuit := by
  obtain ⟨fd, FF⟩ := F.d_is_circuit
  refine fnS_of (N := ["work", "walk", "events", "event"]) (ps := ["work", "walk"]) (k := 3) (fun_of FF) sc_is_circuit (by decide) (fun _ _ _ _ _ _ us hl => match us, hl with | [_, _], _ => rfl) fun cd A outer s H E hr => ?_
  have tk : Takes (bodyX P w K mg base ["work", "walk", "events", "event"] "is_circuit" (top 9) (He.ga K "is_circuit") cd A outer s H E) (bodyW E) := takes_of rfl rfl rfl rfl
  have hp : PassesOwn (model P w) _ _ _ := passes_of (X := bodyX P w K mg base ["work", "walk", "events", "event"] "is_circuit" (top 9) (He.ga K "is_circuit") cd A outer s H E) rfl
  have hN := sc_is_circuit.nd
  have hu := hr.r.units
  have hu65 := Ev.units65 hr.r
  have hg := hr.g
  exact (ss_cons (st_if (st_bool (sw_or (st_cmp ops_lt (nomark _) (se_callB bl_len (by rfl) F.n_len bb_len (sa_cons (se_va (i := 1) (by rfl) (vis (by rfl)) (by rfl) (by rfl)) sa_nil (by rfl)) (by decide) (by rfl) (by rfl) (by rfl)) se_int) (sw_or (st_cmp (ops_ne hu) (nomark _) (se_ix (se_va (i := 1) (by rfl) (vis (by rfl)) (by rfl) (by rfl)) se_int (fun _ _ => rfl)) (se_ix (se_va (i := 1) (by rfl) (vis (by rfl)) (by rfl) (by rfl)) (se_neg se_int) (fun _ _ => rfl))) (sw_or1 (st_cmp ops_is (nomark _) (se_call ((d_walk_time F).mono (by omega)) hr tk (by rfl) F.g_walk_time F.k_walk_time (sa_cons (se_va (i := 0) (by rfl) (vis (by rfl)) (by rfl) (by rfl)) (sa_cons (se_va (i := 1) (by rfl) (vis (by rfl)) (by rfl) (by rfl)) sa_nil (by rfl)) (by rfl)) (by rfl) (by rfl) (by rfl)) se_non))))) (ss_one (st_ret se_bl)) (ss_sF [0] ss_nil))
    (ss_cons (st_asg (i := 2) hN (by rfl) (locl (by rfl)) (se_slice (se_va (i := 1) (by rfl) (vis (by rfl)) (by rfl) (by rfl)) so_none (so_some (se_neg se_int))) (by rfl) (by first | exact .inr rfl | exact .inl rfl))
    (ss_one (st_ret (se_and (se_cmp (ops_eq hu) (nomark _) (se_ix (se_va (i := 1) (by rfl) (vis (by rfl)) (by rfl) (by rfl)) se_int (fun _ _ => rfl)) (se_callB (bl_min rfl) (by rfl) F.n_min bb_min (sa_cons (se_va (i := 2) (by rfl) (vis (by rfl)) (by rfl) (by rfl)) sa_nil (by rfl)) (by decide) (by rfl) (by rfl) (by rfl))) (se_one (se_cmp (ops_eq hu) (nomark _) (se_lenSc (is := [3]) (ow := [("event", 3)]) (xi := c_is_circuit_0_i) (c := c_is_circuit_0_c) (x := c_is_circuit_0_x) (bd := bd1 3) (by rfl) F.n_len rfl hN (blkOk_by (N := ["work", "walk", "events", "event"]) (sc := defScope (top 9)) (by decide +kernel)) (si_seq (se_va (i := 2) (by rfl) (vis (by rfl)) (by rfl) (by rfl))) itmOk_seq (fun bs bH bC bcl bfp => (pg_name (i := 3) hN (by rfl) (locl (by rfl)) (by first | exact .inr rfl | exact .inl rfl))) sg_name (by decide) (fun bs bH bC bcl bfp => stt_nil) (fun bs bH bC bcl bfp => (se_va (i := 3) (by rfl) (vis (by rfl)) (by rfl) (by rfl))) (fun _ => rfl) (by rfl)) (se_callB bl_len (by rfl) F.n_len bb_len (sa_cons (se_va (i := 2) (by rfl) (vis (by rfl)) (by rfl) (by rfl)) sa_nil (by rfl)) (by decide) (by rfl) (by rfl) (by rfl)))))))))
def c__law_along_1_i : Rho → Res (List BV) := xItA rangeV1 [xVa 3]
def c__law_along_1_c : Rho → Res Bool := xTb (x2 (pl dIsNot) (x2 ixD (x2 ixD (xVa 0) (xVa 7)) (x2 ixD (xVa 4) (x1 (p1 dNeg) (xCn (.int 1))))) (xCn .none))
def c__law_along_1_x : Rho → Res BV := xVa 7
def l__law_along_0_i : Rho → Res (List BV) := xItV true (xSl (xVa 2) (oAt (xCn (.int 2))) (oAt (x2 (pl dAdd) (xCn (.int 2)) (x2 ixD (xVa 2) (xCn (.int 0))))))
def l__law_along_0_b : Rho → SR := sSeq (sAsg 6 (xLc c__law_along_1_i [7] (bd1 7) c__law_along_1_c c__law_along_1_x)) (sH [6] (sIf (xTb (x2 (pl dGt) (xA true (b1 dLen) [xVa 6]) (xCn (.int 0)))) (sSeq (sApp (xPl 4) (x2 ixD (xVa 6) (x2 (pl dMod) (xA true (b1 dInt) [xVa 5]) (xA true (b1 dLen) [xVa 6])))) (sF [5, 6] (sNil))) (sF [5, 6] (sNil))))
def s__law_along : Rho → SR := sSeq (sAsg 2 (xA true (xCall f__law_draws 2) [xVa 1, x2 (dAddV) (xA false mkLst [xCn (.int 9)]) (x2 (dMulV) (xA false mkLst [xCn (.int 60)]) (xCn (.int 9)))])) (sF [1] (sH [2] (sSeq (sAsg 3 (xA true (b1 dLen) [xVa 0])) (sSeq (sAsg 4 (xA false mkLst [x2 (pl dMod) (xA true (b1 dInt) [x2 ixD (xVa 2) (xCn (.int 1))]) (xVa 3)])) (sSeq (sFor l__law_along_0_i (bd1 5) l__law_along_0_b) (sH [6] (sRet (xVa 4))))))))
def f__law_along : List D → Res (Lv × D) := runB s__law_along 8 2
theorem sc__law_along : FnScope ["_law_work_here", "_law_cell_here", "_law_draws_here", "_law_size", "_law_walk", "_law_pick", "_law_ways", "_law_i"] ["_law_work_here", "_law_cell_here"] (defScope (top 33)) := ⟨rfl, rfl, rfl, by decide +kernel, rfl, by decide +kernel, by decide +kernel⟩
theorem d__law_along (F : Fx K mg) : FnS P w K mg base 2 (He.ga K "_law_along") 2 f__law_along := by
  obtain ⟨fd, FF⟩ := F.d__law_along
  refine fnS_of (N := ["_law_work_here", "_law_cell_here", "_law_draws_here", "_law_size", "_law_walk", "_law_pick", "_law_ways", "_law_i"]) (ps := ["_law_work_here", "_law_cell_here"]) (k := 1) (fun_of FF) sc__law_along (by decide) (fun _ _ _ _ _ _ us hl => match us, hl with | [_, _], _ => rfl) fun cd A outer s H E hr => ?_
  have tk : Takes (bodyX P w K mg base ["_law_work_here", "_law_cell_here", "_law_draws_here", "_law_size", "_law_walk", "_law_pick", "_law_ways", "_law_i"] "_law_along" (top 33) (He.ga K "_law_along") cd A outer s H E) (bodyW E) := takes_of rfl rfl rfl rfl
  have hp : PassesOwn (model P w) _ _ _ := passes_of (X := bodyX P w K mg base ["_law_work_here", "_law_cell_here", "_law_draws_here", "_law_size", "_law_walk", "_law_pick", "_law_ways", "_law_i"] "_law_along" (top 33) (He.ga K "_law_along") cd A outer s H E) rfl
  have hN := sc__law_along.nd
  have hu := hr.r.units
  have hu65 := Ev.units65 hr.r
  have hg := hr.g
  exact (ss_cons (st_asg (i := 2) hN (by rfl) (locl (by rfl)) (se_call ((d__law_draws F).mono (by omega)) hr tk (by rfl) F.g__law_draws F.k__law_draws (sa_cons (se_va (i := 1) (by rfl) (vis (by rfl)) (by rfl) (by rfl)) (sa_cons (se_bin ops_addV (se_lst (fr := false) (sa_cons se_int sa_nil (by rfl)) (by decide)) (se_bin ops_mulV (se_lst (fr := false) (sa_cons se_int sa_nil (by rfl)) (by decide)) se_int)) sa_nil (by rfl)) (by rfl)) (by rfl) (by rfl) (by rfl)) (by rfl) (by first | exact .inr rfl | exact .inl rfl))
    (ss_sF [1] (ss_sH [2] (ss_cons (st_asg (i := 3) hN (by rfl) (locl (by rfl)) (se_callB bl_len (by rfl) F.n_len bb_len (sa_cons (se_va (i := 0) (by rfl) (vis (by rfl)) (by rfl) (by rfl)) sa_nil (by rfl)) (by decide) (by rfl) (by rfl) (by rfl)) (by rfl) (by first | exact .inr rfl | exact .inl rfl))
    (ss_cons (st_asg (i := 4) hN (by rfl) (locl (by rfl)) (se_lst (fr := false) (sa_cons (se_bin ops_mod (se_callTy bl_int (by rfl) F.n_int bb_int (sa_cons (se_ix (se_va (i := 2) (by rfl) (vis (by rfl)) (by rfl) (by rfl)) se_int (fun _ _ => rfl)) sa_nil (by rfl)) (by decide) (by rfl) (by rfl) (by rfl)) (se_va (i := 3) (by rfl) (vis (by rfl)) (by rfl) (by rfl))) sa_nil (by rfl)) (by decide)) (by rfl) (by first | exact .inr rfl | exact .inl rfl))
    (ss_cons (st_for (is := [5]) (xi := l__law_along_0_i) (bd := bd1 5) (sb := l__law_along_0_b) hp rfl (si_seq (se_slice (se_va (i := 2) (by rfl) (vis (by rfl)) (by rfl) (by rfl)) (so_some se_int) (so_some (se_bin ops_add se_int (se_ix (se_va (i := 2) (by rfl) (vis (by rfl)) (by rfl) (by rfl)) se_int (fun _ _ => rfl)))))) (pg_name (i := 5) hN (by rfl) (locl (by rfl)) (by first | exact .inr rfl | exact .inl rfl)) sg_name (itmOk_seq (cl := true)) (ss_cons (st_asgC (is := [7]) (ow := [("_law_i", 7)]) (xi := c__law_along_1_i) (c := c__law_along_1_c) (x := c__law_along_1_x) (bd := bd1 7) (i := 6) rfl hN (by rfl) (by rfl) (sw_true (by rfl) (by rfl) (by rfl) (by rfl)) (blkOk_by (N := ["_law_work_here", "_law_cell_here", "_law_draws_here", "_law_size", "_law_walk", "_law_pick", "_law_ways", "_law_i"]) (sc := defScope (top 33)) (by decide +kernel)) (si_range1 (by rfl) F.n_range (sa_cons (se_va (i := 3) (by rfl) (vis (by rfl)) (by rfl) (by rfl)) sa_nil (by rfl)) (by rfl)) itmOk_range1 (fun bs bH bC bcl bfp => (pg_name (i := 7) hN (by rfl) (locl (by rfl)) (by first | exact .inr rfl | exact .inl rfl))) sg_name (by decide) (fun bs bH bC bcl bfp => (stt_one (st_cmp ops_isNot (nomark _) (se_ix (se_ix (se_va (i := 0) (by rfl) (vis (by rfl)) (by rfl) (by rfl)) (se_va (i := 7) (by rfl) (vis (by rfl)) (by rfl) (by rfl)) (fun _ _ => rfl)) (se_ix (se_va (i := 4) (by rfl) (vis (by rfl)) (by rfl) (by rfl)) (se_neg se_int) (fun _ _ => rfl)) (fun _ _ => rfl)) se_non))) (fun bs bH bC bcl bfp => (se_va (i := 7) (by rfl) (vis (by rfl)) (by rfl) (by rfl))) (fun _ => rfl))
    (ss_sH [6] (ss_one (st_if (st_cmp ops_gt (nomark _) (se_callB bl_len (by rfl) F.n_len bb_len (sa_cons (se_va (i := 6) (by rfl) (vis (by rfl)) (by rfl) (by rfl)) sa_nil (by rfl)) (by decide) (by rfl) (by rfl) (by rfl)) se_int) (ss_cons (st_app (sp_name (i := 4) (by rfl) (vis (by rfl)) (by rfl) (by rfl)) (se_ix (se_va (i := 6) (by rfl) (vis (by rfl)) (by rfl) (by rfl)) (se_bin ops_mod (se_callTy bl_int (by rfl) F.n_int bb_int (sa_cons (se_va (i := 5) (by rfl) (vis (by rfl)) (by rfl) (by rfl)) sa_nil (by rfl)) (by decide) (by rfl) (by rfl) (by rfl)) (se_callB bl_len (by rfl) F.n_len bb_len (sa_cons (se_va (i := 6) (by rfl) (vis (by rfl)) (by rfl) (by rfl)) sa_nil (by rfl)) (by decide) (by rfl) (by rfl) (by rfl))) (fun _ _ => rfl)) (by rfl) (by rfl) (by rfl) (by rfl) (by rfl) (by rfl))
    (ss_sF [5, 6] ss_nil)) (ss_sF [5, 6] ss_nil))))) (fun _ => rfl))
    (ss_sH [6] (ss_one (st_ret (se_va (i := 4) (by rfl) (vis (by rfl)) (by rfl) (by rfl)))))))))))
def l__law_is_circuit_0_i : Rho → Res (List BV) := xItA rangeV1 [xA true (b1 dLen) [xVa 2]]
def l__law_is_circuit_0_b : Rho → SR := sIf (tOrX (xTb (x2 (pl (dInD false)) (x2 ixD (xVa 2) (xVa 3)) (xSl (xVa 2) (oNo) (oAt (xVa 3))))) (xTb (x2 (pl dLt) (x2 ixD (xVa 2) (xVa 3)) (x2 ixD (xVa 1) (xCn (.int 0)))))) (sRet (xCn (.bool false))) (sF [3] (sNil))
def s__law_is_circuit : Rho → SR := sSeq (sIf (tOrX (xTb (x2 (pl dLt) (xA true (b1 dLen) [xVa 1]) (xCn (.int 2)))) (tOrX (xTb (x2 (pl dNe) (x2 ixD (xVa 1) (xCn (.int 0))) (x2 ixD (xVa 1) (x1 (p1 dNeg) (xCn (.int 1)))))) (xTb (x2 (pl dIs) (xA true (xCall f__law_walk_time 2) [xVa 0, xVa 1]) (xCn .none))))) (sRet (xCn (.bool false))) (sF [0] (sNil))) (sSeq (sAsg 2 (xSl (xVa 1) (oNo) (oAt (x1 (p1 dNeg) (xCn (.int 1)))))) (sSeq (sFor l__law_is_circuit_0_i (bd1 3) l__law_is_circuit_0_b) (sRet (xCn (.bool true)))))
def f__law_is_circuit : List D → Res (Lv × D) := runB s__law_is_circuit 4 2
theorem sc__law_is_circuit : FnScope ["_law_work_here", "_law_walk", "_law_inner", "_law_k"] ["_law_work_here", "_law_walk"] (defScope (top 32)) := ⟨rfl, rfl, rfl, by decide +kernel, rfl, by decide +kernel, by decide +kernel⟩
theorem d__law_is_circuit (F : Fx K mg) : FnS P w K mg base 5 (He.ga K "_law_is_circuit") 2 f__law_is_circuit := by
  obtain ⟨fd, FF⟩ := F.d__law_is_circuit
  refine fnS_of (N := ["_law_work_here", "_law_walk", "_law_inner", "_law_k"]) (ps := ["_law_work_here", "_law_walk"]) (k := 4) (fun_of FF) sc__law_is_circuit (by decide) (fun _ _ _ _ _ _ us hl => match us, hl with | [_, _], _ => rfl) fun cd A outer s H E hr => ?_
  have tk : Takes (bodyX P w K mg base ["_law_work_here", "_law_walk", "_law_inner", "_law_k"] "_law_is_circuit" (top 32) (He.ga K "_law_is_circuit") cd A outer s H E) (bodyW E) := takes_of rfl rfl rfl rfl
  have hp : PassesOwn (model P w) _ _ _ := passes_of (X := bodyX P w K mg base ["_law_work_here", "_law_walk", "_law_inner", "_law_k"] "_law_is_circuit" (top 32) (He.ga K "_law_is_circuit") cd A outer s H E) rfl
  have hN := sc__law_is_circuit.nd
  have hu := hr.r.units
  have hu65 := Ev.units65 hr.r
  have hg := hr.g
  exact (ss_cons (st_if (st_bool (sw_or (st_cmp ops_lt (nomark _) (se_callB bl_len (by rfl) F.n_len bb_len (sa_cons (se_va (i := 1) (by rfl) (vis (by rfl)) (by rfl) (by rfl)) sa_nil (by rfl)) (by decide) (by rfl) (by rfl) (by rfl)) se_int) (sw_or (st_cmp (ops_ne hu) (nomark _) (se_ix (se_va (i := 1) (by rfl) (vis (by rfl)) (by rfl) (by rfl)) se_int (fun _ _ => rfl)) (se_ix (se_va (i := 1) (by rfl) (vis (by rfl)) (by rfl) (by rfl)) (se_neg se_int) (fun _ _ => rfl))) (sw_or1 (st_cmp ops_is (nomark _) (se_call ((d__law_walk_time F).mono (by omega)) hr tk (by rfl) F.g__law_walk_time F.k__law_walk_time (sa_cons (se_va (i := 0) (by rfl) (vis (by rfl)) (by rfl) (by rfl)) (sa_cons (se_va (i := 1) (by rfl) (vis (by rfl)) (by rfl) (by rfl)) sa_nil (by rfl)) (by rfl)) (by rfl) (by rfl) (by rfl)) se_non))))) (ss_one (st_ret se_bl)) (ss_sF [0] ss_nil))
    (ss_cons (st_asg (i := 2) hN (by rfl) (locl (by rfl)) (se_slice (se_va (i := 1) (by rfl) (vis (by rfl)) (by rfl) (by rfl)) so_none (so_some (se_neg se_int))) (by rfl) (by first | exact .inr rfl | exact .inl rfl))
    (ss_cons (st_for (is := [3]) (xi := l__law_is_circuit_0_i) (bd := bd1 3) (sb := l__law_is_circuit_0_b) hp rfl (si_range1 (by rfl) F.n_range (sa_cons (se_callB bl_len (by rfl) F.n_len bb_len (sa_cons (se_va (i := 2) (by rfl) (vis (by rfl)) (by rfl) (by rfl)) sa_nil (by rfl)) (by decide) (by rfl) (by rfl) (by rfl)) sa_nil (by rfl)) (by rfl)) (pg_name (i := 3) hN (by rfl) (locl (by rfl)) (by first | exact .inr rfl | exact .inl rfl)) sg_name (itmOk_range1 (cl := true)) (ss_one (st_if (st_bool (sw_or (st_cmp (ops_inD false hu65) (by with_unfolding_all rfl) (se_ix (se_va (i := 2) (by rfl) (vis (by rfl)) (by rfl) (by rfl)) (se_va (i := 3) (by rfl) (vis (by rfl)) (by rfl) (by rfl)) (fun _ _ => rfl)) (se_slice (se_va (i := 2) (by rfl) (vis (by rfl)) (by rfl) (by rfl)) so_none (so_some (se_va (i := 3) (by rfl) (vis (by rfl)) (by rfl) (by rfl))))) (sw_or1 (st_cmp ops_lt (nomark _) (se_ix (se_va (i := 2) (by rfl) (vis (by rfl)) (by rfl) (by rfl)) (se_va (i := 3) (by rfl) (vis (by rfl)) (by rfl) (by rfl)) (fun _ _ => rfl)) (se_ix (se_va (i := 1) (by rfl) (vis (by rfl)) (by rfl) (by rfl)) se_int (fun _ _ => rfl)))))) (ss_one (st_ret se_bl)) (ss_sF [3] ss_nil))) (fun _ => rfl))
    (ss_one (st_ret se_bl)))))
def l_law_0_i : Rho → Res (List BV) := xItA rangeV1 [xA true (b1 dLen) [xVa 3]]
def l_law_0_b : Rho → SR := sH [5] (sSeq (sAsg 7 (x2 ixD (xVa 3) (xVa 6))) (sF [6] (sH [7] (sSeq (sAsg 5 (x2 (dAddV) (xVa 5) (xFz (xA true mkLst [xVa 7, x2 (dAddV) (xSl (xVa 7) (oAt (xCn (.int 1))) (oNo)) (xA true mkLst [x2 ixD (xVa 7) (xCn (.int 1))]), xSl (xVa 7) (oNo) (oAt (x1 (p1 dNeg) (xCn (.int 1)))), x2 (dAddV) (xVa 7) (xSl (xVa 7) (oAt (xCn (.int 1))) (oNo)), xRev (xVa 7)])))) (sF [7] (sNil))))))
def c_law_2_i : Rho → Res (List BV) := xItV false (xSl (xVa 9) (oAt (xCn (.int 1))) (oAt (x2 (pl dAdd) (xCn (.int 2)) (x2 ixD (xVa 9) (xCn (.int 0))))))
def c_law_2_c : Rho → Res Bool := tTrue
def c_law_2_x : Rho → Res BV := x2 (pl dSub) (xVa 10) (xCn (.int 1))
def c_law_3_i : Rho → Res (List BV) := xItV false (xSl (xVa 9) (oAt (xCn (.int 1))) (oAt (x2 (pl dAdd) (xCn (.int 2)) (x2 ixD (xVa 9) (xCn (.int 0))))))
def c_law_3_c : Rho → Res Bool := tTrue
def c_law_3_x : Rho → Res BV := x2 (pl dMod) (xA true (b1 dInt) [xVa 10]) (xVa 2)
def l_law_1_i : Rho → Res (List BV) := xItV true (x2 (dAddV) (xA false mkLst [xCn (.int 0), xCn (.int 1)]) (xSl (xVa 0) (oAt (xCn (.int 37))) (oNo)))
def l_law_1_b : Rho → SR := sSeq (sApp (xPl 5) (xFz (xA true (xCall f__law_along 2) [xVa 1, xVa 8]))) (sSeq (sAsg 9 (xA true (xCall f__law_draws 2) [xVa 8, x2 (dAddV) (xA false mkLst [xCn (.int 6)]) (x2 (dMulV) (xA false mkLst [x2 (pl dAdd) (xVa 2) (xCn (.int 2))]) (xCn (.int 6)))])) (sF [8] (sH [9] (sSeq (sApp (xPl 5) (xFz (xLc c_law_2_i [10] (bd1 10) c_law_2_c c_law_2_x))) (sSeq (sApp (xPl 5) (xFz (xLc c_law_3_i [10] (bd1 10) c_law_3_c c_law_3_x))) (sF [9] (sNil)))))))
def l_law_4_i : Rho → Res (List BV) := xItV true (xVa 5)
def l_law_4_b : Rho → SR := sSeq (sAsg 12 (xA true (mkListOf) [xVa 11])) (sSeq (sAsg 13 (xA true (xCall f__law_walk_time 2) [xVa 1, xVa 11])) (sSeq (sAsg 14 (xA true (xCall f_walk_time 2) [xVa 1, xVa 11])) (sSeq (sIf (tOrX (xTb (x2 (pl dNe) (xVa 14) (xVa 13))) (xTb (x2 (pl dNe) (xA true (b1 dRepr) [xVa 14]) (xA true (b1 dRepr) [xVa 13])))) (sRet (xCn (.bool false))) (sF [13, 14] (sNil))) (sSeq (sAsg 15 (xA true (xCall f_is_circuit 2) [xVa 1, xVa 11])) (sIf (tOrX (tNotX (xTru (x1 (p1 (dIsi "bool")) (xVa 15)))) (tOrX (xTb (x2 (pl dNe) (xVa 15) (xA true (xCall f__law_is_circuit 2) [xVa 1, xVa 11]))) (xTb (x2 (pl dNe) (xVa 11) (xVa 12))))) (sRet (xCn (.bool false))) (sF [11, 12, 15] (sNil)))))))
def s_law : Rho → SR := sSeq (sAsg 1 (xA true (xCall f__law_work 3) [xA true (xCall f__law_cell 2) [xVa 0, xCn (.int 0)], xSl (xVa 0) (oAt (xCn (.int 1))) (oAt (xCn (.int 37))), xCn (.int 6)])) (sSeq (sAsg 2 (xA true (b1 dLen) [xVa 1])) (sSeq (sAsg 3 (xSl (xFz (xA true (xCall f__law_circuits 1) [xVa 1])) (oNo) (oAt (xCn (.int 40))))) (sH [3] (sSeq (sAsg 4 (xA true (b1 dRepr) [xVa 1])) (sSeq (sAsg 5 (xA true mkLst [xA false mkLst [xCn (.int 0)], xA false mkLst [xCn (.int 0), xCn (.int 0)], xA false mkLst [xVa 2], xA false mkLst [x1 (p1 dNeg) (xCn (.int 1))], xA false mkLst [xCn (.int 0), xVa 2], xA false mkLst [x1 (p1 dNeg) (xCn (.int 1)), x1 (p1 dNeg) (xCn (.int 1))]])) (sSeq (sFor l_law_0_i (bd1 6) l_law_0_b) (sF [3, 6, 7] (sSeq (sFor l_law_1_i (bd1 8) l_law_1_b) (sF [0, 2, 8, 9] (sH [5] (sSeq (sFor l_law_4_i (bd1 11) l_law_4_b) (sRet (xAndV (x2 (pl dEq) (xA true (b1 dRepr) [xVa 1]) (xVa 4)) (x2 (pl dIsB) (xA true (xCall f_is_circuit 2) [xVa 1, xA false mkLst []]) (xCn (.bool false))))))))))))))))
def f_law : List D → Res (Lv × D) := runB s_law 16 1
theorem sc_law : FnScope ["_law_script", "_law_work_here", "_law_size", "_law_circuits_here", "_law_before", "_law_walks", "_law_k", "_law_one", "_law_cell_here", "_law_draws_here", "_law_event", "_law_walk", "_law_kept", "_law_due", "_law_actual", "_law_told"] ["_law_script"] (defScope (top 34)) := ⟨rfl, rfl, rfl, by decide +kernel, rfl, by decide +kernel, by decide +kernel⟩
theorem d_law (F : Fx K mg) : FnS P w K mg base 6 (He.ga K "law") 1 f_law := by
  obtain ⟨fd, FF⟩ := F.d_law
  refine fnS_of (N := ["_law_script", "_law_work_here", "_law_size", "_law_circuits_here", "_law_before", "_law_walks", "_law_k", "_law_one", "_law_cell_here", "_law_draws_here", "_law_event", "_law_walk", "_law_kept", "_law_due", "_law_actual", "_law_told"]) (ps := ["_law_script"]) (k := 5) (fun_of FF) sc_law (by decide) (fun _ _ _ _ _ _ us hl => match us, hl with | [_], _ => rfl) fun cd A outer s H E hr => ?_
  have tk : Takes (bodyX P w K mg base ["_law_script", "_law_work_here", "_law_size", "_law_circuits_here", "_law_before", "_law_walks", "_law_k", "_law_one", "_law_cell_here", "_law_draws_here", "_law_event", "_law_walk", "_law_kept", "_law_due", "_law_actual", "_law_told"] "law" (top 34) (He.ga K "law") cd A outer s H E) (bodyW E) := takes_of rfl rfl rfl rfl
  have hp : PassesOwn (model P w) _ _ _ := passes_of (X := bodyX P w K mg base ["_law_script", "_law_work_here", "_law_size", "_law_circuits_here", "_law_before", "_law_walks", "_law_k", "_law_one", "_law_cell_here", "_law_draws_here", "_law_event", "_law_walk", "_law_kept", "_law_due", "_law_actual", "_law_told"] "law" (top 34) (He.ga K "law") cd A outer s H E) rfl
  have hN := sc_law.nd
  have hu := hr.r.units
  have hu65 := Ev.units65 hr.r
  have hg := hr.g
  exact (ss_cons (st_asg (i := 1) hN (by rfl) (locl (by rfl)) (se_call ((d__law_work F).mono (by omega)) hr tk (by rfl) F.g__law_work F.k__law_work (sa_cons (se_call ((d__law_cell F).mono (by omega)) hr tk (by rfl) F.g__law_cell F.k__law_cell (sa_cons (se_va (i := 0) (by rfl) (vis (by rfl)) (by rfl) (by rfl)) (sa_cons se_int sa_nil (by rfl)) (by rfl)) (by rfl) (by rfl) (by rfl)) (sa_cons (se_slice (se_va (i := 0) (by rfl) (vis (by rfl)) (by rfl) (by rfl)) (so_some se_int) (so_some se_int)) (sa_cons se_int sa_nil (by rfl)) (by rfl)) (by rfl)) (by rfl) (by rfl) (by rfl)) (by rfl) (by first | exact .inr rfl | exact .inl rfl))
    (ss_cons (st_asg (i := 2) hN (by rfl) (locl (by rfl)) (se_callB bl_len (by rfl) F.n_len bb_len (sa_cons (se_va (i := 1) (by rfl) (vis (by rfl)) (by rfl) (by rfl)) sa_nil (by rfl)) (by decide) (by rfl) (by rfl) (by rfl)) (by rfl) (by first | exact .inr rfl | exact .inl rfl))
    (ss_cons (st_asg (i := 3) hN (by rfl) (locl (by rfl)) (se_slice (se_frz (se_call ((d__law_circuits F).mono (by omega)) hr tk (by rfl) F.g__law_circuits F.k__law_circuits (sa_cons (se_va (i := 1) (by rfl) (vis (by rfl)) (by rfl) (by rfl)) sa_nil (by rfl)) (by rfl) (by rfl) (by rfl))) so_none (so_some se_int)) (by rfl) (by first | exact .inr rfl | exact .inl rfl))
    (ss_sH [3] (ss_cons (st_asg (i := 4) hN (by rfl) (locl (by rfl)) (se_callB (bl_repr hg hu65) (by rfl) F.n_repr bb_repr (sa_cons (se_va (i := 1) (by rfl) (vis (by rfl)) (by rfl) (by rfl)) sa_nil (by rfl)) (by decide) (by rfl) (by rfl) (by rfl)) (by rfl) (by first | exact .inr rfl | exact .inl rfl))
    (ss_cons (st_asg (i := 5) hN (by rfl) (locl (by rfl)) (se_lst (fr := true) (sa_cons (se_lst (fr := false) (sa_cons se_int sa_nil (by rfl)) (by decide)) (sa_cons (se_lst (fr := false) (sa_cons se_int (sa_cons se_int sa_nil (by rfl)) (by rfl)) (by decide)) (sa_cons (se_lst (fr := false) (sa_cons (se_va (i := 2) (by rfl) (vis (by rfl)) (by rfl) (by rfl)) sa_nil (by rfl)) (by decide)) (sa_cons (se_lst (fr := false) (sa_cons (se_neg se_int) sa_nil (by rfl)) (by decide)) (sa_cons (se_lst (fr := false) (sa_cons se_int (sa_cons (se_va (i := 2) (by rfl) (vis (by rfl)) (by rfl) (by rfl)) sa_nil (by rfl)) (by rfl)) (by decide)) (sa_cons (se_lst (fr := false) (sa_cons (se_neg se_int) (sa_cons (se_neg se_int) sa_nil (by rfl)) (by rfl)) (by decide)) sa_nil (by rfl)) (by rfl)) (by rfl)) (by rfl)) (by rfl)) (by rfl)) (by decide)) (by rfl) (by first | exact .inr rfl | exact .inl rfl))
    (ss_cons (st_for (is := [6]) (xi := l_law_0_i) (bd := bd1 6) (sb := l_law_0_b) hp rfl (si_range1 (by rfl) F.n_range (sa_cons (se_callB bl_len (by rfl) F.n_len bb_len (sa_cons (se_va (i := 3) (by rfl) (vis (by rfl)) (by rfl) (by rfl)) sa_nil (by rfl)) (by decide) (by rfl) (by rfl) (by rfl)) sa_nil (by rfl)) (by rfl)) (pg_name (i := 6) hN (by rfl) (locl (by rfl)) (by first | exact .inr rfl | exact .inl rfl)) sg_name (itmOk_range1 (cl := true)) (ss_sH [5] (ss_cons (st_asg (i := 7) hN (by rfl) (locl (by rfl)) (se_ix (se_va (i := 3) (by rfl) (vis (by rfl)) (by rfl) (by rfl)) (se_va (i := 6) (by rfl) (vis (by rfl)) (by rfl) (by rfl)) (fun _ _ => rfl)) (by rfl) (by first | exact .inr rfl | exact .inl rfl))
    (ss_sF [6] (ss_sH [7] (ss_cons (st_asg (i := 5) hN (by rfl) (locl (by rfl)) (se_bin ops_addV (se_va (i := 5) (by rfl) (vis (by rfl)) (by rfl) (by rfl)) (se_frz (se_lst (fr := true) (sa_cons (se_va (i := 7) (by rfl) (vis (by rfl)) (by rfl) (by rfl)) (sa_cons (se_bin ops_addV (se_slice (se_va (i := 7) (by rfl) (vis (by rfl)) (by rfl) (by rfl)) (so_some se_int) so_none) (se_lst (fr := true) (sa_cons (se_ix (se_va (i := 7) (by rfl) (vis (by rfl)) (by rfl) (by rfl)) se_int (fun _ _ => rfl)) sa_nil (by rfl)) (by decide))) (sa_cons (se_slice (se_va (i := 7) (by rfl) (vis (by rfl)) (by rfl) (by rfl)) so_none (so_some (se_neg se_int))) (sa_cons (se_bin ops_addV (se_va (i := 7) (by rfl) (vis (by rfl)) (by rfl) (by rfl)) (se_slice (se_va (i := 7) (by rfl) (vis (by rfl)) (by rfl) (by rfl)) (so_some se_int) so_none)) (sa_cons (se_lstRev rfl (by rfl) F.n_list (by rfl) F.n_reversed (se_va (i := 7) (by rfl) (vis (by rfl)) (by rfl) (by rfl))) sa_nil (by rfl)) (by rfl)) (by rfl)) (by rfl)) (by rfl)) (by decide)))) (by rfl) (by first | exact .inr rfl | exact .inl rfl))
    (ss_sF [7] ss_nil)))))) (fun _ => rfl))
    (ss_sF [3, 6, 7] (ss_cons (st_for (is := [8]) (xi := l_law_1_i) (bd := bd1 8) (sb := l_law_1_b) hp rfl (si_seq (se_bin ops_addV (se_lst (fr := false) (sa_cons se_int (sa_cons se_int sa_nil (by rfl)) (by rfl)) (by decide)) (se_slice (se_va (i := 0) (by rfl) (vis (by rfl)) (by rfl) (by rfl)) (so_some se_int) so_none))) (pg_name (i := 8) hN (by rfl) (locl (by rfl)) (by first | exact .inr rfl | exact .inl rfl)) sg_name (itmOk_seq (cl := true)) (ss_cons (st_app (sp_name (i := 5) (by rfl) (vis (by rfl)) (by rfl) (by rfl)) (se_frz (se_call ((d__law_along F).mono (by omega)) hr tk (by rfl) F.g__law_along F.k__law_along (sa_cons (se_va (i := 1) (by rfl) (vis (by rfl)) (by rfl) (by rfl)) (sa_cons (se_va (i := 8) (by rfl) (vis (by rfl)) (by rfl) (by rfl)) sa_nil (by rfl)) (by rfl)) (by rfl) (by rfl) (by rfl))) (by rfl) (by rfl) (by rfl) (by rfl) (by rfl) (by rfl))
    (ss_cons (st_asg (i := 9) hN (by rfl) (locl (by rfl)) (se_call ((d__law_draws F).mono (by omega)) hr tk (by rfl) F.g__law_draws F.k__law_draws (sa_cons (se_va (i := 8) (by rfl) (vis (by rfl)) (by rfl) (by rfl)) (sa_cons (se_bin ops_addV (se_lst (fr := false) (sa_cons se_int sa_nil (by rfl)) (by decide)) (se_bin ops_mulV (se_lst (fr := false) (sa_cons (se_bin ops_add (se_va (i := 2) (by rfl) (vis (by rfl)) (by rfl) (by rfl)) se_int) sa_nil (by rfl)) (by decide)) se_int)) sa_nil (by rfl)) (by rfl)) (by rfl) (by rfl) (by rfl)) (by rfl) (by first | exact .inr rfl | exact .inl rfl))
    (ss_sF [8] (ss_sH [9] (ss_cons (st_app (sp_name (i := 5) (by rfl) (vis (by rfl)) (by rfl) (by rfl)) (se_frz (se_lc (is := [10]) (ow := [("_law_event", 10)]) (xi := c_law_2_i) (c := c_law_2_c) (x := c_law_2_x) (bd := bd1 10) rfl hN (blkOk_by (N := ["_law_script", "_law_work_here", "_law_size", "_law_circuits_here", "_law_before", "_law_walks", "_law_k", "_law_one", "_law_cell_here", "_law_draws_here", "_law_event", "_law_walk", "_law_kept", "_law_due", "_law_actual", "_law_told"]) (sc := defScope (top 34)) (by decide +kernel)) (si_seq (se_slice (se_va (i := 9) (by rfl) (vis (by rfl)) (by rfl) (by rfl)) (so_some se_int) (so_some (se_bin ops_add se_int (se_ix (se_va (i := 9) (by rfl) (vis (by rfl)) (by rfl) (by rfl)) se_int (fun _ _ => rfl)))))) itmOk_seq (fun bs bH bC bcl bfp => (pg_name (i := 10) hN (by rfl) (locl (by rfl)) (by first | exact .inr rfl | exact .inl rfl))) sg_name (by decide) (fun bs bH bC bcl bfp => stt_nil) (fun bs bH bC bcl bfp => (se_bin ops_sub (se_va (i := 10) (by rfl) (vis (by rfl)) (by rfl) (by rfl)) se_int)) (fun _ => rfl))) (by rfl) (by rfl) (by rfl) (by rfl) (by rfl) (by rfl))
    (ss_cons (st_app (sp_name (i := 5) (by rfl) (vis (by rfl)) (by rfl) (by rfl)) (se_frz (se_lc (is := [10]) (ow := [("_law_event", 10)]) (xi := c_law_3_i) (c := c_law_3_c) (x := c_law_3_x) (bd := bd1 10) rfl hN (blkOk_by (N := ["_law_script", "_law_work_here", "_law_size", "_law_circuits_here", "_law_before", "_law_walks", "_law_k", "_law_one", "_law_cell_here", "_law_draws_here", "_law_event", "_law_walk", "_law_kept", "_law_due", "_law_actual", "_law_told"]) (sc := defScope (top 34)) (by decide +kernel)) (si_seq (se_slice (se_va (i := 9) (by rfl) (vis (by rfl)) (by rfl) (by rfl)) (so_some se_int) (so_some (se_bin ops_add se_int (se_ix (se_va (i := 9) (by rfl) (vis (by rfl)) (by rfl) (by rfl)) se_int (fun _ _ => rfl)))))) itmOk_seq (fun bs bH bC bcl bfp => (pg_name (i := 10) hN (by rfl) (locl (by rfl)) (by first | exact .inr rfl | exact .inl rfl))) sg_name (by decide) (fun bs bH bC bcl bfp => stt_nil) (fun bs bH bC bcl bfp => (se_bin ops_mod (se_callTy bl_int (by rfl) F.n_int bb_int (sa_cons (se_va (i := 10) (by rfl) (vis (by rfl)) (by rfl) (by rfl)) sa_nil (by rfl)) (by decide) (by rfl) (by rfl) (by rfl)) (se_va (i := 2) (by rfl) (vis (by rfl)) (by rfl) (by rfl)))) (fun _ => rfl))) (by rfl) (by rfl) (by rfl) (by rfl) (by rfl) (by rfl))
    (ss_sF [9] ss_nil))))))) (fun _ => rfl))
    (ss_sF [0, 2, 8, 9] (ss_sH [5] (ss_cons (st_for (is := [11]) (xi := l_law_4_i) (bd := bd1 11) (sb := l_law_4_b) hp rfl (si_seq (se_va (i := 5) (by rfl) (vis (by rfl)) (by rfl) (by rfl))) (pg_name (i := 11) hN (by rfl) (locl (by rfl)) (by first | exact .inr rfl | exact .inl rfl)) sg_name (itmOk_seq (cl := true)) (ss_cons (st_asg (i := 12) hN (by rfl) (locl (by rfl)) (se_callTy bl_list (by rfl) F.n_list bb_list (sa_cons (se_va (i := 11) (by rfl) (vis (by rfl)) (by rfl) (by rfl)) sa_nil (by rfl)) (by decide) (by rfl) (by rfl) (by rfl)) (by rfl) (by first | exact .inr rfl | exact .inl rfl))
    (ss_cons (st_asg (i := 13) hN (by rfl) (locl (by rfl)) (se_call ((d__law_walk_time F).mono (by omega)) hr tk (by rfl) F.g__law_walk_time F.k__law_walk_time (sa_cons (se_va (i := 1) (by rfl) (vis (by rfl)) (by rfl) (by rfl)) (sa_cons (se_va (i := 11) (by rfl) (vis (by rfl)) (by rfl) (by rfl)) sa_nil (by rfl)) (by rfl)) (by rfl) (by rfl) (by rfl)) (by rfl) (by first | exact .inr rfl | exact .inl rfl))
    (ss_cons (st_asg (i := 14) hN (by rfl) (locl (by rfl)) (se_call ((d_walk_time F).mono (by omega)) hr tk (by rfl) F.g_walk_time F.k_walk_time (sa_cons (se_va (i := 1) (by rfl) (vis (by rfl)) (by rfl) (by rfl)) (sa_cons (se_va (i := 11) (by rfl) (vis (by rfl)) (by rfl) (by rfl)) sa_nil (by rfl)) (by rfl)) (by rfl) (by rfl) (by rfl)) (by rfl) (by first | exact .inr rfl | exact .inl rfl))
    (ss_cons (st_if (st_bool (sw_or (st_cmp (ops_ne hu) (nomark _) (se_va (i := 14) (by rfl) (vis (by rfl)) (by rfl) (by rfl)) (se_va (i := 13) (by rfl) (vis (by rfl)) (by rfl) (by rfl))) (sw_or1 (st_cmp (ops_ne hu) (nomark _) (se_callB (bl_repr hg hu65) (by rfl) F.n_repr bb_repr (sa_cons (se_va (i := 14) (by rfl) (vis (by rfl)) (by rfl) (by rfl)) sa_nil (by rfl)) (by decide) (by rfl) (by rfl) (by rfl)) (se_callB (bl_repr hg hu65) (by rfl) F.n_repr bb_repr (sa_cons (se_va (i := 13) (by rfl) (vis (by rfl)) (by rfl) (by rfl)) sa_nil (by rfl)) (by decide) (by rfl) (by rfl) (by rfl)))))) (ss_one (st_ret se_bl)) (ss_sF [13, 14] ss_nil))
    (ss_cons (st_asg (i := 15) hN (by rfl) (locl (by rfl)) (se_call ((d_is_circuit F).mono (by omega)) hr tk (by rfl) F.g_is_circuit F.k_is_circuit (sa_cons (se_va (i := 1) (by rfl) (vis (by rfl)) (by rfl) (by rfl)) (sa_cons (se_va (i := 11) (by rfl) (vis (by rfl)) (by rfl) (by rfl)) sa_nil (by rfl)) (by rfl)) (by rfl) (by rfl) (by rfl)) (by rfl) (by first | exact .inr rfl | exact .inl rfl))
    (ss_one (st_if (st_bool (sw_or (st_not (st_val (se_isi (se_va (i := 15) (by rfl) (vis (by rfl)) (by rfl) (by rfl)) (by rfl) F.n_isinstance bb_isinstance (by rfl) F.n_bool bb_bool (by decide) (by rfl) (by rfl) (by rfl) (by rfl)) (fun _ => rfl))) (sw_or (st_cmp (ops_ne hu) (nomark _) (se_va (i := 15) (by rfl) (vis (by rfl)) (by rfl) (by rfl)) (se_call ((d__law_is_circuit F).mono (by omega)) hr tk (by rfl) F.g__law_is_circuit F.k__law_is_circuit (sa_cons (se_va (i := 1) (by rfl) (vis (by rfl)) (by rfl) (by rfl)) (sa_cons (se_va (i := 11) (by rfl) (vis (by rfl)) (by rfl) (by rfl)) sa_nil (by rfl)) (by rfl)) (by rfl) (by rfl) (by rfl))) (sw_or1 (st_cmp (ops_ne hu) (nomark _) (se_va (i := 11) (by rfl) (vis (by rfl)) (by rfl) (by rfl)) (se_va (i := 12) (by rfl) (vis (by rfl)) (by rfl) (by rfl))))))) (ss_one (st_ret se_bl)) (ss_sF [11, 12, 15] ss_nil)))))))) (fun _ => rfl))
    (ss_one (st_ret (se_and (se_cmp (ops_eq hu) (nomark _) (se_callB (bl_repr hg hu65) (by rfl) F.n_repr bb_repr (sa_cons (se_va (i := 1) (by rfl) (vis (by rfl)) (by rfl) (by rfl)) sa_nil (by rfl)) (by decide) (by rfl) (by rfl) (by rfl)) (se_va (i := 4) (by rfl) (vis (by rfl)) (by rfl) (by rfl))) (se_one (se_cmp ops_isB (nomark _) (se_call ((d_is_circuit F).mono (by omega)) hr tk (by rfl) F.g_is_circuit F.k_is_circuit (sa_cons (se_va (i := 1) (by rfl) (vis (by rfl)) (by rfl) (by rfl)) (sa_cons (se_lst (fr := false) sa_nil (by decide)) sa_nil (by rfl)) (by rfl)) (by rfl) (by rfl) (by rfl)) se_bl)))))))))))))))))
end

end Lw

namespace Lw
open PySem PySem.Spec PyProof.Rows L2 Ev
def s__law_moment : Rho → SR := sSeq (sAsg 1 (xA true (xCall f__law_draws 2) [xVa 0, xA false mkLst [xCn (.int 8), xCn (.int 21), xCn (.int 6), xCn (.int 2000001), xCn (.int 1000000)]])) (sF [0] (sSeq (sIf (xTb (x2 (pl dLt) (x2 ixD (xVa 1) (xCn (.int 0))) (xCn (.int 2)))) (sRet (xCn .none)) (sNil)) (sSeq (sIf (xTb (x2 (pl dEq) (x2 ixD (xVa 1) (xCn (.int 0))) (xCn (.int 2)))) (sRet (xA true (xCall f__law_fraction 2) [x2 (pl dSub) (x2 ixD (xVa 1) (xCn (.int 3))) (xCn (.int 1000000)), x2 (pl dAdd) (xCn (.int 1)) (x2 ixD (xVa 1) (xCn (.int 4)))])) (sNil)) (sSeq (sIf (xTb (x2 (pl dEq) (x2 ixD (xVa 1) (xCn (.int 0))) (xCn (.int 3)))) (sRet (xA true (xCall f__law_fraction 2) [x2 (pl dSub) (x2 ixD (xVa 1) (xCn (.int 1))) (xCn (.int 10)), x2 (pl dAdd) (xCn (.int 1)) (x2 ixD (xVa 1) (xCn (.int 2)))])) (sNil)) (sRet (xA false mkTup [x2 (pl dSub) (x2 ixD (xVa 1) (xCn (.int 1))) (xCn (.int 10)), xCn (.int 1)]))))))
def f__law_moment : List D → Res (Lv × D) := runB s__law_moment 2 1
def c__law_mixed_1_i : Rho → Res (List BV) := xItA rangeV1 [xVa 3]
def c__law_mixed_1_c : Rho → Res Bool := tTrue
def c__law_mixed_1_x : Rho → Res BV := xA true (xCall f__law_moment 1) [x2 (pl dAdd) (x2 (pl dAdd) (xA true (b1 dInt) [xVa 1]) (x2 (pl dMul) (xCn (.int 41)) (xVa 5))) (x2 (pl dMul) (xCn (.int 103)) (xVa 7))]
def c__law_mixed_2_i : Rho → Res (List BV) := xItA rangeV1 [xVa 3]
def c__law_mixed_2_c : Rho → Res Bool := tTrue
def c__law_mixed_2_x : Rho → Res BV := xA true (xCall f__law_small 2) [x2 (pl dAdd) (x2 (pl dAdd) (xA true (b1 dInt) [xVa 1]) (x2 (pl dMul) (xCn (.int 41)) (xVa 5))) (x2 (pl dMul) (xCn (.int 103)) (xVa 7)), x2 (pl dAdd) (xCn (.int 3)) (x2 ixD (xVa 2) (xCn (.int 1)))]
def c__law_mixed_3_i : Rho → Res (List BV) := xItV false (xVa 6)
def c__law_mixed_3_c : Rho → Res Bool := tTrue
def c__law_mixed_3_x : Rho → Res BV := x2 (pl dIs) (xVa 8) (xCn .none)
def l__law_mixed_0_i : Rho → Res (List BV) := xItA rangeV1 [xVa 3]
def l__law_mixed_0_b : Rho → SR := sSeq (sIf (xTb (x2 (pl dEq) (x2 ixD (xVa 2) (xCn (.int 1))) (xCn (.int 0)))) (sAsg 6 (xLc c__law_mixed_1_i [7] (bd1 7) c__law_mixed_1_c c__law_mixed_1_x)) (sAsg 6 (xLc c__law_mixed_2_i [7] (bd1 7) c__law_mixed_2_c c__law_mixed_2_x))) (sSeq (sIf (xTru (xA true (b1 (dQuant fun bs => bs.all id)) [xLc c__law_mixed_3_i [8] (bd1 8) c__law_mixed_3_c c__law_mixed_3_x])) (sH [6] (sSeq (sAsg 6 (x2 (dAddV) (xA false mkLst [xA false mkTup [xVa 5, xCn (.int 1)]]) (xSl (xVa 6) (oAt (xCn (.int 1))) (oNo)))) (sF [5] (sNil)))) (sF [5] (sNil))) (sAppM (xPl 4) 6))
def c__law_mixed_4_i : Rho → Res (List BV) := xItA rangeV1 [xVa 3]
def c__law_mixed_4_c : Rho → Res Bool := tTrue
def c__law_mixed_4_x : Rho → Res BV := x2 ixD (xA false mkLst [xCn (.str "late"), xCn (.str "early")]) (x2 (pl dAnd) (x2 (pl dShr) (x2 ixD (xVa 2) (xCn (.int 2))) (xVa 9)) (xCn (.int 1)))
def s__law_mixed : Rho → SR := sSeq (sAsg 2 (xA true (xCall f__law_draws 2) [xVa 0, xA false mkLst [xCn (.int 12), xCn (.int 4), xCn (.int 4096)]])) (sF [0] (sSeq (sAsg 3 (x2 (pl dAdd) (xCn (.int 1)) (x2 ixD (xVa 2) (xCn (.int 0))))) (sH [3] (sSeq (sAsg 4 (xA false mkLst [])) (sSeq (sFor l__law_mixed_0_i (bd1 5) l__law_mixed_0_b) (sH [4, 6] (sRet (xA true mkTup [xVa 4, xLc c__law_mixed_4_i [9] (bd1 9) c__law_mixed_4_c c__law_mixed_4_x]))))))))
def f__law_mixed : List D → Res (Lv × D) := runB s__law_mixed 10 2
def s_is_less : Rho → SR := sSeq (sIf (xTb (x2 (pl dIs) (xVa 1) (xCn .none))) (sRet (xCn (.bool false))) (sNil)) (sSeq (sIf (xTb (x2 (pl dIs) (xVa 0) (xCn .none))) (sRet (xCn (.bool true))) (sNil)) (sRet (x2 (pl dLt) (x2 (pl dMul) (x2 ixD (xVa 0) (xCn (.int 0))) (x2 ixD (xVa 1) (xCn (.int 1)))) (x2 (pl dMul) (x2 ixD (xVa 1) (xCn (.int 0))) (x2 ixD (xVa 0) (xCn (.int 1)))))))
def f_is_less : List D → Res (Lv × D) := runB s_is_less 2 2
def s_later : Rho → SR := sRet (xIte (xTru (xA true (xCall f_is_less 2) [xVa 0, xVa 1])) (xVa 1) (xVa 0))
def f_later : List D → Res (Lv × D) := runB s_later 2 2
def l_latest_0_i : Rho → Res (List BV) := xItV true (xVa 0)
def l_latest_0_b : Rho → SR := sSeq (sAsg 1 (xA true (xCall f_later 2) [xVa 1, xVa 2])) (sF [2] (sNil))
def s_latest : Rho → SR := sSeq (sAsg 1 (xCn .none)) (sSeq (sFor l_latest_0_i (bd1 2) l_latest_0_b) (sRet (xVa 1)))
def f_latest : List D → Res (Lv × D) := runB s_latest 3 1
def c_next_round_0_i : Rho → Res (List BV) := xItA (zipV false) [xVa 4, xVa 1]
def c_next_round_0_c : Rho → Res Bool := tTrue
def c_next_round_0_x : Rho → Res BV := xA true (xCall f_plus 2) [xVa 2, xVa 3]
def c_next_round_1_i : Rho → Res (List BV) := xItV false (xVa 0)
def c_next_round_1_c : Rho → Res Bool := tTrue
def c_next_round_1_x : Rho → Res BV := xA true (xCall f_latest 1) [xLc c_next_round_0_i [2, 3] (bdT [2, 3]) c_next_round_0_c c_next_round_0_x]
def s_next_round : Rho → SR := sRet (xLc c_next_round_1_i [4] (bd1 4) c_next_round_1_c c_next_round_1_x)
def f_next_round : List D → Res (Lv × D) := runB s_next_round 5 2
def s__law_less : Rho → SR := sSeq (sIf (xTb (x2 (pl dIs) (xVa 1) (xCn .none))) (sRet (xCn (.bool false))) (sNil)) (sRet (xOrV (x2 (pl dIs) (xVa 0) (xCn .none)) (x2 (pl dLt) (x2 (pl dMul) (x2 ixD (xVa 0) (xCn (.int 0))) (x2 ixD (xVa 1) (xCn (.int 1)))) (x2 (pl dMul) (x2 ixD (xVa 1) (xCn (.int 0))) (x2 ixD (xVa 0) (xCn (.int 1)))))))
def f__law_less : List D → Res (Lv × D) := runB s__law_less 2 2
def l__law_next_1_i : Rho → Res (List BV) := xItA rangeV1 [xA true (b1 dLen) [xVa 2]]
def l__law_next_1_b : Rho → SR := sIf (xTb (x2 (pl dIsNot) (x2 ixD (x2 ixD (xVa 2) (xVa 5)) (xVa 7)) (xCn .none))) (sSeq (sAsg 8 (xA true (xCall f__law_plus 2) [x2 ixD (x2 ixD (xVa 2) (xVa 5)) (xVa 7), x2 ixD (xVa 1) (xVa 7)])) (sF [7] (sIf (tOrX (xTb (x2 (pl dIs) (xVa 6) (xCn .none))) (tOrX (tAndX (xTb (x2 (pl dEq) (x2 ixD (xVa 3) (xVa 5)) (xCn (.str "late")))) (xTru (xA true (xCall f__law_less 2) [xVa 6, xVa 8]))) (tAndX (xTb (x2 (pl dEq) (x2 ixD (xVa 3) (xVa 5)) (xCn (.str "early")))) (xTru (xA true (xCall f__law_less 2) [xVa 8, xVa 6]))))) (sF [6] (sMov 6 8)) (sF [8] (sNil))))) (sF [7] (sNil))
def l__law_next_0_i : Rho → Res (List BV) := xItA rangeV1 [xA true (b1 dLen) [xVa 2]]
def l__law_next_0_b : Rho → SR := sSeq (sAsg 6 (xCn .none)) (sSeq (sFor l__law_next_1_i (bd1 7) l__law_next_1_b) (sF [5, 7, 8] (sAppM (xPl 4) 6)))
def s__law_next : Rho → SR := sSeq (sUnp (bdT [2, 3]) (xVa 0)) (sF [0] (sSeq (sAsg 4 (xA false mkLst [])) (sSeq (sFor l__law_next_0_i (bd1 5) l__law_next_0_b) (sRet (xVa 4)))))
def f__law_next : List D → Res (Lv × D) := runB s__law_next 9 2
def l_extreme_0_i : Rho → Res (List BV) := xItV true (xVa 0)
def l_extreme_0_b : Rho → SR := sIf (tIteX (xTb (x2 (pl dEq) (xVa 1) (xCn (.str "late")))) (xTru (xA true (xCall f_is_less 2) [xVa 2, xVa 3])) (xTru (xA true (xCall f_is_less 2) [xVa 3, xVa 2]))) (sF [2] (sMov 2 3)) (sF [3] (sNil))
def s_extreme : Rho → SR := sSeq (sAsg 2 (x2 ixD (xVa 0) (xCn (.int 0)))) (sSeq (sFor l_extreme_0_i (bd1 3) l_extreme_0_b) (sRet (xVa 2)))
def f_extreme : List D → Res (Lv × D) := runB s_extreme 4 2
def c_arms_of_0_i : Rho → Res (List BV) := xItA (enumV false) [x2 ixD (xVa 0) (xVa 1)]
def c_arms_of_0_c : Rho → Res Bool := xTb (x2 (pl dIsNot) (xVa 3) (xCn .none))
def c_arms_of_0_x : Rho → Res BV := xVa 2
def s_arms_of : Rho → SR := sRet (xLc c_arms_of_0_i [2, 3] (bdT [2, 3]) c_arms_of_0_c c_arms_of_0_x)
def f_arms_of : List D → Res (Lv × D) := runB s_arms_of 4 2
def c_mixed_round_1_i : Rho → Res (List BV) := xItV false (xA true (xCall f_arms_of 2) [xVa 2, xVa 5])
def c_mixed_round_1_c : Rho → Res Bool := tTrue
def c_mixed_round_1_x : Rho → Res BV := xA true (xCall f_plus 2) [x2 ixD (x2 ixD (xVa 2) (xVa 5)) (xVa 7), x2 ixD (xVa 1) (xVa 7)]
def l_mixed_round_0_i : Rho → Res (List BV) := xItA (enumV true) [xVa 3]
def l_mixed_round_0_b : Rho → SR := sSeq (sApp (xPl 4) (xA true (xCall f_extreme 2) [xLc c_mixed_round_1_i [7] (bd1 7) c_mixed_round_1_c c_mixed_round_1_x, xVa 6])) (sF [5, 6] (sNil))
def s_mixed_round : Rho → SR := sSeq (sUnp (bdT [2, 3]) (xVa 0)) (sF [0] (sH [2, 3] (sSeq (sAsg 4 (xA false mkLst [])) (sSeq (sFor l_mixed_round_0_i (bdT [5, 6]) l_mixed_round_0_b) (sRet (xVa 4))))))
def f_mixed_round : List D → Res (Lv × D) := runB s_mixed_round 8 2
def c__law_negated_0_i : Rho → Res (List BV) := xItV false (xVa 0)
def c__law_negated_0_c : Rho → Res Bool := tTrue
def c__law_negated_0_x : Rho → Res BV := xIte (xTb (x2 (pl dIs) (xVa 1) (xCn .none))) (xCn .none) (xA true mkTup [x1 (p1 dNeg) (x2 ixD (xVa 1) (xCn (.int 0))), x2 ixD (xVa 1) (xCn (.int 1))])
def s__law_negated : Rho → SR := sRet (xLc c__law_negated_0_i [1] (bd1 1) c__law_negated_0_c c__law_negated_0_x)
def f__law_negated : List D → Res (Lv × D) := runB s__law_negated 2 1
def c__law_finite_0_i : Rho → Res (List BV) := xItA rangeV1 [xVa 1]
def c__law_finite_0_c : Rho → Res Bool := tTrue
def c__law_finite_0_x : Rho → Res BV := xA true (xCall f__law_fraction 2) [x2 (pl dSub) (x2 ixD (xVa 2) (xVa 3)) (xCn (.int 20)), x2 ixD (xA false mkLst [xCn (.int 2), xCn (.int 1), xCn (.int 1), xCn (.int 1), xCn (.int 5), xCn (.int 9)]) (x2 ixD (xVa 2) (x2 (pl dAdd) (xVa 1) (xVa 3)))]
def s__law_finite : Rho → SR := sSeq (sAsg 2 (xA true (xCall f__law_draws 2) [xVa 0, x2 (dAddV) (x2 (dMulV) (xA false mkLst [xCn (.int 41)]) (xVa 1)) (x2 (dMulV) (xA false mkLst [xCn (.int 6)]) (xVa 1))])) (sRet (xLc c__law_finite_0_i [3] (bd1 3) c__law_finite_0_c c__law_finite_0_x))
def f__law_finite : List D → Res (Lv × D) := runB s__law_finite 4 2
def c__law_vector_0_i : Rho → Res (List BV) := xItA rangeV1 [xVa 1]
def c__law_vector_0_c : Rho → Res Bool := tTrue
def c__law_vector_0_x : Rho → Res BV := x2 ixD (xA true mkLst [x2 ixD (xVa 3) (xVa 4), xCn .none]) (xA true (b1 dInt) [x2 (pl dEq) (x2 ixD (xVa 2) (xVa 4)) (xCn (.int 0))])
def s__law_vector : Rho → SR := sSeq (sAsg 2 (xA true (xCall f__law_draws 2) [xVa 0, x2 (dMulV) (xA false mkLst [xCn (.int 5)]) (xVa 1)])) (sSeq (sAsg 3 (xA true (xCall f__law_finite 2) [x2 (pl dDiv) (xA true (b1 dInt) [xVa 0]) (xCn (.int 7)), xVa 1])) (sH [3] (sRet (xLc c__law_vector_0_i [4] (bd1 4) c__law_vector_0_c c__law_vector_0_x))))
def f__law_vector : List D → Res (Lv × D) := runB s__law_vector 5 2
def l_round_after_0_i : Rho → Res (List BV) := xItA rangeV1 [xVa 2]
def l_round_after_0_b : Rho → SR := sF [4] (sAsg 3 (xA true (xCall f_next_round 2) [xVa 0, xVa 3]))
def s_round_after : Rho → SR := sSeq (sIf (xTb (x2 (pl dLt) (xVa 2) (xCn (.int 0)))) (sRz "OutOfRange") (sNil)) (sSeq (sAsg 3 (xA true (mkListOf) [xVa 1])) (sF [1] (sSeq (sFor l_round_after_0_i (bd1 4) l_round_after_0_b) (sRet (xVa 3)))))
def f_round_after : List D → Res (Lv × D) := runB s_round_after 5 3
def l__law_latest_0_i : Rho → Res (List BV) := xItV true (xVa 0)
def l__law_latest_0_b : Rho → SR := sIf (xTru (xA true (xCall f__law_less 2) [xVa 1, xVa 2])) (sF [1] (sMov 1 2)) (sF [2] (sNil))
def s__law_latest : Rho → SR := sSeq (sAsg 1 (xCn .none)) (sSeq (sFor l__law_latest_0_i (bd1 2) l__law_latest_0_b) (sRet (xVa 1)))
def f__law_latest : List D → Res (Lv × D) := runB s__law_latest 3 1
def c__law_round_0_i : Rho → Res (List BV) := xItA rangeV1 [xA true (b1 dLen) [xVa 1]]
def c__law_round_0_c : Rho → Res Bool := tTrue
def c__law_round_0_x : Rho → Res BV := xA true (xCall f__law_plus 2) [x2 ixD (xVa 3) (xVa 2), x2 ixD (xVa 1) (xVa 2)]
def c__law_round_1_i : Rho → Res (List BV) := xItV false (xVa 0)
def c__law_round_1_c : Rho → Res Bool := tTrue
def c__law_round_1_x : Rho → Res BV := xA true (xCall f__law_latest 1) [xLc c__law_round_0_i [2] (bd1 2) c__law_round_0_c c__law_round_0_x]
def s__law_round : Rho → SR := sRet (xLc c__law_round_1_i [3] (bd1 3) c__law_round_1_c c__law_round_1_x)
def f__law_round : List D → Res (Lv × D) := runB s__law_round 4 2
def c__law_idle_0_i : Rho → Res (List BV) := xItA rangeV1 [xVa 0]
def c__law_idle_0_c : Rho → Res Bool := tTrue
def c__law_idle_0_x : Rho → Res BV := x2 ixD (xA false mkLst [xCn .none, xA false mkTup [xCn (.int 0), xCn (.int 1)]]) (xA true (b1 dInt) [x2 (pl dEq) (xVa 2) (xVa 1)])
def c__law_idle_1_i : Rho → Res (List BV) := xItA rangeV1 [xVa 0]
def c__law_idle_1_c : Rho → Res Bool := tTrue
def c__law_idle_1_x : Rho → Res BV := xLc c__law_idle_0_i [1] (bd1 1) c__law_idle_0_c c__law_idle_0_x
def s__law_idle : Rho → SR := sRet (xLc c__law_idle_1_i [2] (bd1 2) c__law_idle_1_c c__law_idle_1_x)
def f__law_idle : List D → Res (Lv × D) := runB s__law_idle 3 1
def c__law_product_1_i : Rho → Res (List BV) := xItA rangeV1 [xVa 2]
def c__law_product_1_c : Rho → Res Bool := tTrue
def c__law_product_1_x : Rho → Res BV := xA true (xCall f__law_plus 2) [x2 ixD (x2 ixD (xVa 0) (xVa 4)) (xVa 5), x2 ixD (x2 ixD (xVa 1) (xVa 5)) (xVa 6)]
def c__law_product_2_i : Rho → Res (List BV) := xItA rangeV1 [xVa 2]
def c__law_product_2_c : Rho → Res Bool := tTrue
def c__law_product_2_x : Rho → Res BV := xA true (xCall f__law_latest 1) [xLc c__law_product_1_i [5] (bd1 5) c__law_product_1_c c__law_product_1_x]
def l__law_product_0_i : Rho → Res (List BV) := xItA rangeV1 [xVa 2]
def l__law_product_0_b : Rho → SR := sSeq (sApp (xPl 3) (xLc c__law_product_2_i [6] (bd1 6) c__law_product_2_c c__law_product_2_x)) (sF [4] (sNil))
def s__law_product : Rho → SR := sSeq (sAsg 2 (xA true (b1 dLen) [xVa 0])) (sSeq (sAsg 3 (xA false mkLst [])) (sSeq (sFor l__law_product_0_i (bd1 4) l__law_product_0_b) (sRet (xVa 3))))
def f__law_product : List D → Res (Lv × D) := runB s__law_product 7 2
def s_check_sizes : Rho → SR := sIf (xTb (x2 (pl dNe) (xA true (b1 dLen) [xVa 0]) (xA true (b1 dLen) [xVa 1]))) (sRz "OutOfRange") (sF [0, 1] (sNil))
def f_check_sizes : List D → Res (Lv × D) := runB s_check_sizes 2 2
def c_columns_of_0_i : Rho → Res (List BV) := xItV false (xVa 0)
def c_columns_of_0_c : Rho → Res Bool := tTrue
def c_columns_of_0_x : Rho → Res BV := x2 ixD (xVa 1) (xVa 2)
def c_columns_of_1_i : Rho → Res (List BV) := xItA rangeV1 [xA true (b1 dLen) [xVa 0]]
def c_columns_of_1_c : Rho → Res Bool := tTrue
def c_columns_of_1_x : Rho → Res BV := xLc c_columns_of_0_i [1] (bd1 1) c_columns_of_0_c c_columns_of_0_x
def s_columns_of : Rho → SR := sRet (xLc c_columns_of_1_i [2] (bd1 2) c_columns_of_1_c c_columns_of_1_x)
def f_columns_of : List D → Res (Lv × D) := runB s_columns_of 3 1
def c_product_0_i : Rho → Res (List BV) := xItA (zipV false) [xVa 6, xVa 5]
def c_product_0_c : Rho → Res Bool := tTrue
def c_product_0_x : Rho → Res BV := xA true (xCall f_plus 2) [xVa 3, xVa 4]
def c_product_1_i : Rho → Res (List BV) := xItV false (xVa 2)
def c_product_1_c : Rho → Res Bool := tTrue
def c_product_1_x : Rho → Res BV := xA true (xCall f_latest 1) [xLc c_product_0_i [3, 4] (bdT [3, 4]) c_product_0_c c_product_0_x]
def c_product_2_i : Rho → Res (List BV) := xItV false (xVa 0)
def c_product_2_c : Rho → Res Bool := tTrue
def c_product_2_x : Rho → Res BV := xLc c_product_1_i [5] (bd1 5) c_product_1_c c_product_1_x
def s_product : Rho → SR := sSeq (sEx (xA true (xCall f_check_sizes 2) [xVa 0, xVa 1])) (sSeq (sAsg 2 (xA true (xCall f_columns_of 1) [xVa 1])) (sH [2] (sRet (xLc c_product_2_i [6] (bd1 6) c_product_2_c c_product_2_x))))
def f_product : List D → Res (Lv × D) := runB s_product 7 2
def c_later_work_0_i : Rho → Res (List BV) := xItA (zipV false) [xVa 4, xVa 5]
def c_later_work_0_c : Rho → Res Bool := tTrue
def c_later_work_0_x : Rho → Res BV := xA true (xCall f_later 2) [xVa 2, xVa 3]
def c_later_work_1_i : Rho → Res (List BV) := xItA (zipV false) [xVa 0, xVa 1]
def c_later_work_1_c : Rho → Res Bool := tTrue
def c_later_work_1_x : Rho → Res BV := xLc c_later_work_0_i [2, 3] (bdT [2, 3]) c_later_work_0_c c_later_work_0_x
def s_later_work : Rho → SR := sSeq (sEx (xA true (xCall f_check_sizes 2) [xVa 0, xVa 1])) (sRet (xLc c_later_work_1_i [4, 5] (bdT [4, 5]) c_later_work_1_c c_later_work_1_x))
def f_later_work : List D → Res (Lv × D) := runB s_later_work 6 2
def c_idle_0_i : Rho → Res (List BV) := xItA rangeV1 [xVa 0]
def c_idle_0_c : Rho → Res Bool := tTrue
def c_idle_0_x : Rho → Res BV := xIte (xTb (x2 (pl dEq) (xVa 2) (xVa 1))) (xA false mkTup [xCn (.int 0), xCn (.int 1)]) (xCn .none)
def c_idle_1_i : Rho → Res (List BV) := xItA rangeV1 [xVa 0]
def c_idle_1_c : Rho → Res Bool := tTrue
def c_idle_1_x : Rho → Res BV := xLc c_idle_0_i [1] (bd1 1) c_idle_0_c c_idle_0_x
def s_idle : Rho → SR := sSeq (sIf (xTb (x2 (pl dLt) (xVa 0) (xCn (.int 1)))) (sRz "OutOfRange") (sNil)) (sRet (xLc c_idle_1_i [2] (bd1 2) c_idle_1_c c_idle_1_x))
def f_idle : List D → Res (Lv × D) := runB s_idle 3 1
def l_power_0_i : Rho → Res (List BV) := xItA rangeV1 [xVa 1]
def l_power_0_b : Rho → SR := sF [3] (sAsg 2 (xA true (xCall f_product 2) [xVa 2, xVa 0]))
def s_power : Rho → SR := sSeq (sIf (xTb (x2 (pl dLt) (xVa 1) (xCn (.int 0)))) (sRz "OutOfRange") (sNil)) (sSeq (sAsg 2 (xA true (xCall f_idle 1) [xA true (b1 dLen) [xVa 0]])) (sSeq (sFor l_power_0_i (bd1 3) l_power_0_b) (sRet (xVa 2))))
def f_power : List D → Res (Lv × D) := runB s_power 4 2
def l__law_new_0_i : Rho → Res (List BV) := xItA rangeV1 [xA true (b1 dLen) [xVa 0]]
def l__law_new_0_b : Rho → SR := sAppM (xPlIx (xPl 0) (xVa 2)) 2
def c__law_new_1_i : Rho → Res (List BV) := xItA rangeV1 [xA true (b1 dLen) [xVa 1]]
def c__law_new_1_c : Rho → Res Bool := tTrue
def c__law_new_1_x : Rho → Res BV := x2 (dAddV) (x2 ixD (xVa 1) (xVa 2)) (xA false mkLst [xVa 2])
def s__law_new : Rho → SR := sSeq (sIf (tOrX (tNotX (xTru (x1 (p1 (dIsi "list")) (xVa 0)))) (tOrX (xTb (x2 (pl dNe) (xVa 0) (xVa 1))) (xTb (x2 (pl dNe) (xA true (b1 dRepr) [xVa 0]) (xA true (b1 dRepr) [xVa 1]))))) (sRet (xCn (.bool false))) (sNil)) (sSeq (sFor l__law_new_0_i (bd1 2) l__law_new_0_b) (sRet (x2 (pl dEq) (xVa 0) (xLc c__law_new_1_i [2] (bd1 2) c__law_new_1_c c__law_new_1_x))))
def f__law_new : List D → Res (Lv × D) := runB s__law_new 3 2
def s_check_lengths : Rho → SR := sIf (xTb (x2 (pl dNe) (xA true (b1 dLen) [xVa 0]) (xA true (b1 dLen) [xVa 1]))) (sRz "OutOfRange") (sF [0, 1] (sNil))
def f_check_lengths : List D → Res (Lv × D) := runB s_check_lengths 2 2
def c_later_vector_0_i : Rho → Res (List BV) := xItA (zipV false) [xVa 0, xVa 1]
def c_later_vector_0_c : Rho → Res Bool := tTrue
def c_later_vector_0_x : Rho → Res BV := xA true (xCall f_later 2) [xVa 2, xVa 3]
def s_later_vector : Rho → SR := sSeq (sEx (xA true (xCall f_check_lengths 2) [xVa 0, xVa 1])) (sRet (xLc c_later_vector_0_i [2, 3] (bdT [2, 3]) c_later_vector_0_c c_later_vector_0_x))
def f_later_vector : List D → Res (Lv × D) := runB s_later_vector 4 2
def c_at_most_0_i : Rho → Res (List BV) := xItA (zipV false) [xVa 0, xVa 1]
def c_at_most_0_c : Rho → Res Bool := tTrue
def c_at_most_0_x : Rho → Res BV := xNotV (xA true (xCall f_is_less 2) [xVa 3, xVa 2])
def s_at_most : Rho → SR := sSeq (sEx (xA true (xCall f_check_lengths 2) [xVa 0, xVa 1])) (sRet (xA true (b1 (dQuant fun bs => bs.all id)) [xLc c_at_most_0_i [2, 3] (bdT [2, 3]) c_at_most_0_c c_at_most_0_x]))
def f_at_most : List D → Res (Lv × D) := runB s_at_most 4 2
def s__law_near : Rho → SR := sSeq (sIf (xTb (x2 (pl dIs) (xVa 0) (xCn .none))) (sRet (xCn .none)) (sNil)) (sRet (xA true (xCall f__law_plus 2) [xVa 0, xA true (xCall f__law_fraction 2) [x2 (pl dSub) (x2 (pl dMod) (xA true (b1 dInt) [xVa 1]) (xCn (.int 3))) (xCn (.int 1)), x2 (pl dAdd) (xCn (.int 1)) (x2 (pl dMod) (x2 (pl dDiv) (xA true (b1 dInt) [xVa 1]) (xCn (.int 3))) (xCn (.int 1000000)))]]))
def f__law_near : List D → Res (Lv × D) := runB s__law_near 2 2
def l_reached_from_1_i : Rho → Res (List BV) := xItA rangeV1 [xA true (b1 dLen) [xVa 0]]
def l_reached_from_1_b : Rho → SR := sIf (tAndX (xTb (x2 (pl dIsNot) (x2 ixD (x2 ixD (xVa 0) (xVa 4)) (x2 ixD (xVa 2) (xVa 3))) (xCn .none))) (xTb (x2 (pl (dInD true)) (xVa 4) (xVa 2)))) (sAppM (xPl 2) 4) (sF [4] (sNil))
def w_reached_from_0_c : Rho → Res Bool := xTb (x2 (pl dLt) (xVa 3) (xA true (b1 dLen) [xVa 2]))
def w_reached_from_0_b : Rho → SR := sSeq (sFor l_reached_from_1_i (bd1 4) l_reached_from_1_b) (sF [4] (sAug 3 (xCn (.int 1))))
def s_reached_from : Rho → SR := sSeq (sIf (tNotX (xTb (x3c dLe dLt (xCn (.int 0)) (xVa 1) (xA true (b1 dLen) [xVa 0])))) (sRz "OutOfRange") (sNil)) (sSeq (sAsg 2 (xA true mkLst [xVa 1])) (sF [1] (sSeq (sAsg 3 (xCn (.int 0))) (sSeq (sWh 1000000000 w_reached_from_0_c w_reached_from_0_b) (sRet (xA true (mkSorted) [xVa 2]))))))
def f_reached_from : List D → Res (Lv × D) := runB s_reached_from 5 2
def c_classes_0_i : Rho → Res (List BV) := xItA rangeV1 [xA true (b1 dLen) [xVa 0]]
def c_classes_0_c : Rho → Res Bool := tTrue
def c_classes_0_x : Rho → Res BV := xA true (xCall f_reached_from 2) [xVa 0, xVa 2]
def c_classes_2_i : Rho → Res (List BV) := xItV false (x2 ixD (xVa 1) (xVa 2))
def c_classes_2_c : Rho → Res Bool := xTb (x2 (pl (dInD false)) (xVa 2) (x2 ixD (xVa 1) (xVa 5)))
def c_classes_2_x : Rho → Res BV := xVa 5
def l_classes_1_i : Rho → Res (List BV) := xItA rangeV1 [xA true (b1 dLen) [xVa 0]]
def l_classes_1_b : Rho → SR := sSeq (sAsg 4 (xLc c_classes_2_i [5] (bd1 5) c_classes_2_c c_classes_2_x)) (sIf (xTb (x2 (pl dEq) (x2 ixD (xVa 4) (xCn (.int 0))) (xVa 2))) (sF [2] (sAppM (xPl 3) 4)) (sF [2, 4] (sNil)))
def s_classes : Rho → SR := sSeq (sAsg 1 (xLc c_classes_0_i [2] (bd1 2) c_classes_0_c c_classes_0_x)) (sH [1] (sSeq (sAsg 3 (xA false mkLst [])) (sSeq (sFor l_classes_1_i (bd1 2) l_classes_1_b) (sH [4] (sRet (xVa 3))))))
def f_classes : List D → Res (Lv × D) := runB s_classes 6 1
def c__law_reached_2_i : Rho → Res (List BV) := xItV false (xVa 2)
def c__law_reached_2_c : Rho → Res Bool := tTrue
def c__law_reached_2_x : Rho → Res BV := x2 (pl dIsNot) (x2 ixD (x2 ixD (xVa 0) (xVa 4)) (xVa 5)) (xCn .none)
def l__law_reached_1_i : Rho → Res (List BV) := xItA rangeV1 [xA true (b1 dLen) [xVa 0]]
def l__law_reached_1_b : Rho → SR := sIf (tAndX (xTb (x2 (pl (dInD true)) (xVa 4) (xVa 2))) (xTru (xA true (b1 (dQuant fun bs => bs.any id)) [xLc c__law_reached_2_i [5] (bd1 5) c__law_reached_2_c c__law_reached_2_x]))) (sAppM (xPl 2) 4) (sF [4] (sNil))
def l__law_reached_0_i : Rho → Res (List BV) := xItA rangeV1 [xA true (b1 dLen) [xVa 0]]
def l__law_reached_0_b : Rho → SR := sF [3] (sSeq (sFor l__law_reached_1_i (bd1 4) l__law_reached_1_b) (sF [4] (sNil)))
def s__law_reached : Rho → SR := sSeq (sAsg 2 (xA true mkLst [xVa 1])) (sF [1] (sSeq (sFor l__law_reached_0_i (bd1 3) l__law_reached_0_b) (sH [2] (sRet (xA true (mkSorted) [xVa 2])))))
def f__law_reached : List D → Res (Lv × D) := runB s__law_reached 6 2
def s_is_active : Rho → SR := sRet (xOrV (x2 (pl dGt) (xA true (b1 dLen) [xVa 1]) (xCn (.int 1))) (x2 (pl dIsNot) (x2 ixD (x2 ixD (xVa 0) (x2 ixD (xVa 1) (xCn (.int 0)))) (x2 ixD (xVa 1) (xCn (.int 0)))) (xCn .none)))
def f_is_active : List D → Res (Lv × D) := runB s_is_active 2 2
def c__law_is_0_i : Rho → Res (List BV) := xItV false (xVa 0)
def c__law_is_0_c : Rho → Res Bool := tTrue
def c__law_is_0_x : Rho → Res BV := x1 (p1 (dIsi "bool")) (xVa 4)
def s__law_is : Rho → SR := sSeq (sAsg 3 (xA true (xCall f__law_fraction 2) [xVa 1, xVa 2])) (sF [1, 2] (sSeq (sIf (tOrX (tNotX (xTru (x1 (p1 (dIsi "tuple")) (xVa 0)))) (xTb (x2 (pl dNe) (xVa 0) (xVa 3)))) (sRet (xCn (.bool false))) (sF [3] (sNil))) (sRet (xNotV (xA true (b1 (dQuant fun bs => bs.any id)) [xLc c__law_is_0_i [4] (bd1 4) c__law_is_0_c c__law_is_0_x])))))
def f__law_is : List D → Res (Lv × D) := runB s__law_is 5 3
def s_over : Rho → SR := sRet (xA true (xCall f_fraction 2) [x2 (pl dMul) (x2 ixD (xVa 0) (xCn (.int 0))) (x2 ixD (xVa 1) (xCn (.int 1))), x2 (pl dMul) (x2 ixD (xVa 0) (xCn (.int 1))) (x2 ixD (xVa 1) (xCn (.int 0)))])
def f_over : List D → Res (Lv × D) := runB s_over 2 2
def s_minus : Rho → SR := sRet (xA true (xCall f_fraction 2) [x2 (pl dSub) (x2 (pl dMul) (x2 ixD (xVa 0) (xCn (.int 0))) (x2 ixD (xVa 1) (xCn (.int 1)))) (x2 (pl dMul) (x2 ixD (xVa 1) (xCn (.int 0))) (x2 ixD (xVa 0) (xCn (.int 1)))), x2 (pl dMul) (x2 ixD (xVa 0) (xCn (.int 1))) (x2 ixD (xVa 1) (xCn (.int 1)))])
def f_minus : List D → Res (Lv × D) := runB s_minus 2 2
def s_times : Rho → SR := sRet (xA true (xCall f_fraction 2) [x2 (pl dMul) (x2 ixD (xVa 0) (xCn (.int 0))) (x2 ixD (xVa 1) (xCn (.int 0))), x2 (pl dMul) (x2 ixD (xVa 0) (xCn (.int 1))) (x2 ixD (xVa 1) (xCn (.int 1)))])
def f_times : List D → Res (Lv × D) := runB s_times 2 2
def s_comes_before : Rho → SR := sRet (x2 (pl dLt) (xA true mkTup [xA true (b1 dLen) [xVa 0], xVa 0]) (xA true mkTup [xA true (b1 dLen) [xVa 1], xVa 1]))
def f_comes_before : List D → Res (Lv × D) := runB s_comes_before 2 2
def l_potentials_of_2_i : Rho → Res (List BV) := xItA rangeV1 [xVa 2]
def l_potentials_of_2_b : Rho → SR := sSeq (sAsg 8 (x2 ixD (x2 ixD (xVa 0) (xVa 6)) (xVa 7))) (sSeq (sIf (tOrX (xTb (x2 (pl dIs) (xVa 8) (xCn .none))) (xTb (x2 (pl dNe) (x2 ixD (xVa 1) (xVa 7)) (x2 ixD (xVa 1) (xVa 6))))) (sF [7, 8] (sCt)) (sNil)) (sSeq (sAsg 9 (xIte (xTb (x2 (pl dIs) (x2 ixD (xVa 1) (xVa 6)) (xCn .none))) (xA false mkTup [xCn (.int 1), xCn (.int 1)]) (xA true (xCall f_minus 2) [xVa 8, x2 ixD (xVa 1) (xVa 6)]))) (sF [8] (sSeq (sSet (xPl 5) (xVa 6) (xA true (xCall f_later 2) [x2 ixD (xVa 5) (xVa 6), xA true (xCall f_plus 2) [x2 ixD (xVa 3) (xVa 7), xVa 9]])) (sF [7, 9] (sNil))))))
def l_potentials_of_1_i : Rho → Res (List BV) := xItA rangeV1 [xVa 2]
def l_potentials_of_1_b : Rho → SR := sSeq (sFor l_potentials_of_2_i (bd1 7) l_potentials_of_2_b) (sF [6, 7, 8, 9] (sNil))
def l_potentials_of_0_i : Rho → Res (List BV) := xItA rangeV1 [xVa 2]
def l_potentials_of_0_b : Rho → SR := sF [4] (sSeq (sAsg 5 (xA true (mkListOf) [xVa 3])) (sSeq (sFor l_potentials_of_1_i (bd1 6) l_potentials_of_1_b) (sF [3, 6, 7, 8, 9] (sMov 3 5))))
def s_potentials_of : Rho → SR := sSeq (sAsg 2 (xA true (b1 dLen) [xVa 0])) (sSeq (sAsg 3 (x2 (dMulV) (xA false mkLst [xA false mkTup [xCn (.int 0), xCn (.int 1)]]) (xVa 2))) (sSeq (sFor l_potentials_of_0_i (bd1 4) l_potentials_of_0_b) (sRet (xVa 3))))
def f_potentials_of : List D → Res (Lv × D) := runB s_potentials_of 10 2
def s__law_size_of : Rho → SR := sSeq (sIf (xTb (x2 (pl dIs) (xVa 0) (xCn .none))) (sRet (xCn (.int 0))) (sNil)) (sRet (x2 (pl dAdd) (x2 (pl dDiv) (xA true (b1 dAbs) [x2 ixD (xVa 0) (xCn (.int 0))]) (x2 ixD (xVa 0) (xCn (.int 1)))) (xCn (.int 1))))
def f__law_size_of : List D → Res (Lv × D) := runB s__law_size_of 1 1
def s__law_minus : Rho → SR := sRet (xA true (xCall f__law_plus 2) [xVa 0, xA true mkTup [x1 (p1 dNeg) (x2 ixD (xVa 1) (xCn (.int 0))), x2 ixD (xVa 1) (xCn (.int 1))]])
def f__law_minus : List D → Res (Lv × D) := runB s__law_minus 2 2
end Lw

set_option Elab.async false
set_option linter.all false
set_option maxRecDepth 100000
set_option maxHeartbeats 400000
namespace Ev
open PySem PySem.Spec PyProof.Rows L2
/-! ### fractions in lowest terms -/
def gz (t l : Int) : Int := ((Nat.gcd t.natAbs l.natAbs : Nat) : Int)
def sg (t l : Int) : Int := if l < 0 then -gz t l else gz t l
def nf (t l : Int) : D := pr (t.fdiv (sg t l)) (l.fdiv (sg t l))
theorem gz_pos {t l : Int} (h : l ≠ 0) : 0 < gz t l := by
  unfold gz
  have : 0 < Nat.gcd t.natAbs l.natAbs := Nat.gcd_pos_of_pos_right _ (by omega)
  omega
theorem sg_ne {t l : Int} (h : l ≠ 0) : sg t l ≠ 0 := by
  have := gz_pos (t := t) h
  unfold sg
  split <;> omega
theorem sg_abs {t l : Int} : (sg t l).natAbs = Nat.gcd t.natAbs l.natAbs := by
  unfold sg gz
  split <;> simp
theorem log_of {n : Nat} (h : n < 2 ^ 9000) : n.log2 < 9000 := by
  by_cases h0 : n = 0
  · subst h0; decide
  · exact (Nat.log2_lt h0).mpr h
theorem sg_log {t l : Int} (h : l ≠ 0) (hb : l.natAbs < 2 ^ 9000) : (sg t l).natAbs.log2 < 9000 := by
  rw [sg_abs]
  exact log_of (Nat.lt_of_le_of_lt (Nat.gcd_le_right _ (by omega)) hb)
theorem nf_scale {t l f : Int} (hl : l ≠ 0) (hf : 0 < f) : nf (t * f) (l * f) = nf t l := by
  have eg : sg (t * f) (l * f) = sg t l * f := by
    unfold sg gz
    have e1 : Nat.gcd (t * f).natAbs (l * f).natAbs = Nat.gcd t.natAbs l.natAbs * f.natAbs := by rw [Int.natAbs_mul, Int.natAbs_mul, Nat.gcd_mul_right]
    have e2 : ((f.natAbs : Nat) : Int) = f := by omega
    rw [e1]
    have e3 : (l * f < 0) ↔ l < 0 := by
      constructor
      · intro h
        apply Classical.byContradiction
        intro h'
        have := Int.mul_nonneg (show 0 ≤ l by omega) (show 0 ≤ f by omega)
        omega
      · intro h
        exact Int.mul_neg_of_neg_of_pos h hf
    by_cases h : l < 0
    · rw [if_pos h, if_pos (e3.mpr h), Int.natCast_mul, e2, Int.neg_mul]
    · rw [if_neg h, if_neg (fun z => h (e3.mp z)), Int.natCast_mul, e2]
  have q : ∀ x : Int, (x * f).fdiv (sg t l * f) = x.fdiv (sg t l) := fun x => by
    rw [Int.mul_comm x f, Int.mul_comm (sg t l) f]
    exact Int.mul_fdiv_mul_of_pos _ _ hf
  unfold nf
  rw [eg, q, q]
theorem nf_neg {t l : Int} (hl : l ≠ 0) : nf (-t) (-l) = nf t l := by
  have eg : sg (-t) (-l) = -sg t l := by
    unfold sg gz
    rw [Int.natAbs_neg, Int.natAbs_neg]
    by_cases h : l < 0
    · rw [if_pos h, if_neg (by omega), Int.neg_neg]
    · rw [if_neg h, if_pos (by omega)]
  unfold nf
  rw [eg, Int.neg_fdiv_neg, Int.neg_fdiv_neg]
/-- equal fractions have one form -/
theorem nf_eq {x y x' y' : Int} (hy : 0 < y) (hy' : 0 < y') (h : x * y' = x' * y) : nf x y = nf x' y' := by
  rw [← nf_scale (t := x) (l := y) (f := y') (by omega) hy', ← nf_scale (t := x') (l := y') (f := y) (by omega) hy, h, Int.mul_comm y y']
/-- what the form of t / M is -/
theorem nf_parts {t M : Int} (hM : 0 < M) : ∃ p q g, nf t M = pr p q ∧ t = p * g ∧ M = q * g ∧ 0 < q ∧ 0 < g ∧ Nat.gcd p.natAbs q.natAbs = 1 := by
  have hg := gz_pos (t := t) (l := M) (by omega)
  have es : sg t M = gz t M := if_neg (by omega)
  obtain ⟨a, ea⟩ : gz t M ∣ t := by
    unfold gz
    exact Int.natAbs_dvd_natAbs.mp (by simpa using Nat.gcd_dvd_left _ _)
  obtain ⟨b, eb⟩ : gz t M ∣ M := by
    unfold gz
    exact Int.natAbs_dvd_natAbs.mp (by simpa using Nat.gcd_dvd_right _ _)
  have h0 : gz t M ≠ 0 := by omega
  have qa : t.fdiv (gz t M) = a := by
    conv => lhs; arg 1; rw [ea]
    exact Int.mul_fdiv_cancel_left _ h0
  have qb : M.fdiv (gz t M) = b := by
    conv => lhs; arg 1; rw [eb]
    exact Int.mul_fdiv_cancel_left _ h0
  refine ⟨a, b, gz t M, by unfold nf; rw [es, qa, qb], by rw [Int.mul_comm]; exact ea, by rw [Int.mul_comm]; exact eb, ?_, hg, ?_⟩
  · apply Classical.byContradiction
    intro hb
    have : gz t M * b ≤ 0 := Int.mul_nonpos_of_nonneg_of_nonpos (by omega) (by omega)
    omega
  · have e1 : t.natAbs = (gz t M).natAbs * a.natAbs := by conv => lhs; rw [ea]; rw [Int.natAbs_mul]
    have e2 : M.natAbs = (gz t M).natAbs * b.natAbs := by conv => lhs; rw [eb]; rw [Int.natAbs_mul]
    have e3 : (gz t M).natAbs = Nat.gcd t.natAbs M.natAbs := by unfold gz; simp
    have e4 : Nat.gcd t.natAbs M.natAbs = Nat.gcd ((gz t M).natAbs * a.natAbs) ((gz t M).natAbs * b.natAbs) := by rw [← e1, ← e2]
    rw [Nat.gcd_mul_left, ← e3] at e4
    have e5 : 0 < (gz t M).natAbs := by omega
    have e6 : (gz t M).natAbs * 1 = (gz t M).natAbs * Nat.gcd a.natAbs b.natAbs := by rw [Nat.mul_one]; exact e4
    exact (Nat.eq_of_mul_eq_mul_left e5 e6).symm
theorem nf_inj {s t M : Int} (hM : 0 < M) (h : nf s M = nf t M) : s = t := by
  obtain ⟨p, q, g, e1, e2, e3, hq, hg, _⟩ := nf_parts (t := s) hM
  obtain ⟨p', q', g', e1', e2', e3', hq', hg', _⟩ := nf_parts (t := t) hM
  rw [e1, e1'] at h
  unfold pr at h
  simp only [PyData.tuple.injEq, List.cons.injEq, PyData.int.injEq, and_true] at h
  obtain ⟨rfl, rfl⟩ := h
  have : q * g = q * g' := by rw [← e3, ← e3']
  have := Int.eq_of_mul_eq_mul_left (show q ≠ 0 by omega) this
  rw [e2, e2', this]
/-! ### moments: None, or a number of M-th parts -/
abbrev OI := Option Int
def en (M : Int) : OI → D
  | none => .none
  | some t => nf t M
def GM (M : Int) : Prop := 0 < M ∧ Bd 3000 M
def Bm (n : Nat) (m : OI) : Prop := ∀ t, m = some t → Bd n t
abbrev Sm (m : OI) : Prop := Bm 5500 m
theorem Bm.mono {n k : Nat} {m : OI} (h : Bm n m) (l : n ≤ k) : Bm k m := fun t e => (h t e).mono l
theorem Bm.none {n : Nat} : Bm n none := fun t e => by cases e
theorem Bm.some {n : Nat} {t : Int} (h : Bd n t) : Bm n (some t) := fun t' e => by cases e; exact h
theorem Bm.get {n : Nat} {t : Int} (h : Bm n (Option.some t)) : Bd n t := h t rfl
def pls : OI → OI → OI
  | some a, some b => some (a + b)
  | _, _ => none
def lts : OI → OI → Bool
  | _, none => false
  | none, some _ => true
  | some a, some b => decide (a < b)
def mxs (a b : OI) : OI := if lts a b = true then b else a
theorem Bm.pls {n : Nat} {a b : OI} (h : Bm n a) (h' : Bm n b) : Bm (n + 1) (Ev.pls a b) := by
  intro t e
  cases a <;> cases b <;> simp [Ev.pls] at e
  subst e
  exact h.get.add h'.get
theorem Bm.mxs {n : Nat} {a b : OI} (h : Bm n a) (h' : Bm n b) : Bm n (Ev.mxs a b) := by
  unfold Ev.mxs; split <;> assumption
@[simp] theorem flat_nf {t M : Int} : flat (nf t M) = true := flat_pr
@[simp] theorem flat_en {M : Int} {m : OI} : flat (en M m) = true := by cases m <;> rfl
@[simp] theorem isNon_en {M : Int} {m : OI} : isNon (en M m) = m.isNone := by cases m <;> rfl
@[simp] theorem isNon_nf {t M : Int} : isNon (nf t M) = false := Eq.trans rfl rfl
@[simp] theorem shaped_en {M : Int} {m : OI} : SeqAt.shaped (en M m) = true := by cases m <;> rfl
/-- the data of a moment -/
theorem en_parts {M t : Int} (hM : GM M) (ht : Bd 5500 t) : ∃ p q, nf t M = pr p q ∧ p * M = t * q ∧ 0 < q ∧ Bd 5500 p ∧ Bd 3000 q ∧ Nat.gcd p.natAbs q.natAbs = 1 := by
  obtain ⟨p, q, g, e1, e2, e3, hq, hg, h1⟩ := nf_parts (t := t) hM.1
  refine ⟨p, q, e1, ?_, hq, ht.le ?_, hM.2.le ?_, h1⟩
  · rw [e2]
    conv => lhs; rw [e3]
    rw [Int.mul_assoc, Int.mul_comm g q]
  · rw [e2, Int.natAbs_mul]
    exact Nat.le_mul_of_pos_right _ (by omega)
  · rw [e3, Int.natAbs_mul]
    exact Nat.le_mul_of_pos_right _ (by omega)
/-! ### their arithmetic -/
theorem add_parts {M s t p q c d : Int} (hM : 0 < M) (h1 : p * M = s * q) (h2 : c * M = t * d) (hq : 0 < q) (hd : 0 < d) : nf (p * d + c * q) (q * d) = nf (s + t) M := by
  refine nf_eq (Int.mul_pos hq hd) hM ?_
  have e1 : p * d * M = s * (q * d) := by rw [Int.mul_right_comm, h1, Int.mul_assoc]
  have e2 : c * q * M = t * (q * d) := by rw [Int.mul_right_comm, h2, Int.mul_assoc, Int.mul_comm d q]
  rw [Int.add_mul, Int.add_mul, e1, e2]
theorem sub_parts {M s t p q c d : Int} (hM : 0 < M) (h1 : p * M = s * q) (h2 : c * M = t * d) (hq : 0 < q) (hd : 0 < d) : nf (p * d - c * q) (q * d) = nf (s - t) M := by
  refine nf_eq (Int.mul_pos hq hd) hM ?_
  have e1 : p * d * M = s * (q * d) := by rw [Int.mul_right_comm, h1, Int.mul_assoc]
  have e2 : c * q * M = t * (q * d) := by rw [Int.mul_right_comm, h2, Int.mul_assoc, Int.mul_comm d q]
  rw [Int.sub_mul, Int.sub_mul, e1, e2]
theorem mul_parts {M s p q k : Int} (hM : 0 < M) (h1 : p * M = s * q) (hq : 0 < q) : nf (p * k) q = nf (s * k) M := by
  refine nf_eq hq hM ?_
  rw [Int.mul_right_comm, h1, Int.mul_right_comm]
theorem div_parts {M s p q k : Int} (hM : 0 < M) (h1 : p * M = (s * k) * q) (hq : 0 < q) (hk : 0 < k) : nf p (q * k) = nf s M := by
  refine nf_eq (Int.mul_pos hq hk) hM ?_
  rw [h1, Int.mul_assoc s k q, Int.mul_comm k q]
theorem lt_parts {M s t p q c d : Int} (hM : 0 < M) (h1 : p * M = s * q) (h2 : c * M = t * d) (hq : 0 < q) (hd : 0 < d) : p * d < c * q ↔ s < t := by
  have e1 : p * d * M = s * (q * d) := by rw [Int.mul_right_comm, h1, Int.mul_assoc]
  have e2 : c * q * M = t * (q * d) := by rw [Int.mul_right_comm, h2, Int.mul_assoc, Int.mul_comm d q]
  have hqd := Int.mul_pos hq hd
  constructor
  · intro h
    have := Int.mul_lt_mul_of_pos_right h hM
    rw [e1, e2] at this
    exact Int.lt_of_mul_lt_mul_right this (by omega)
  · intro h
    have := Int.mul_lt_mul_of_pos_right h hqd
    rw [← e1, ← e2] at this
    exact Int.lt_of_mul_lt_mul_right this (by omega)
theorem eqv_nf {s t M : Int} (hM : 0 < M) : PyData.eqv (nf s M) (nf t M) = decide (s = t) := by
  obtain ⟨p, q, g, e1, e2, e3, hq, hg, _⟩ := nf_parts (t := s) hM
  obtain ⟨p', q', g', e1', e2', e3', hq', hg', _⟩ := nf_parts (t := t) hM
  have key : (p = p' ∧ q = q') ↔ s = t := by
    constructor
    · rintro ⟨rfl, rfl⟩
      exact nf_inj hM (by rw [e1, e1'])
    · rintro rfl
      rw [e1] at e1'
      unfold pr at e1'
      simpa using e1'
  rw [e1, e1']
  simp only [pr, PyData.eqv, PyData.eqvAll, sameAll]
  have : (p == p' && (q == q' && true)) = decide (p = p' ∧ q = q') := by
    by_cases h1 : p = p' <;> by_cases h2 : q = q' <;> simp [h1, h2]
  rw [decide_eq_decide.mpr key] at this
  exact this
theorem eqv_en {M : Int} {a b : OI} (hM : 0 < M) : PyData.eqv (en M a) (en M b) = decide (a = b) := by
  cases a with
  | none =>
    cases b with
    | none => rfl
    | some t => exact Eq.trans rfl rfl
  | some s =>
    cases b with
    | none => exact Eq.trans rfl rfl
    | some t => simp only [en, eqv_nf hM, Option.some.injEq]
theorem en_inj {M : Int} {a b : OI} (hM : 0 < M) (h : en M a = en M b) : a = b := by
  have := eqv_en (a := a) (b := b) hM
  rw [h, SeqAt.eqv_refl _ (SeqAt.canLay_of_shaped shaped_en)] at this
  exact of_decide_eq_true this.symm
@[simp] theorem dEq_en {M : Int} {a b : OI} (hM : 0 < M) : dEq (en M a) (en M b) = .ok (.bool (decide (a = b))) := by
  unfold dEq
  rw [if_pos ⟨shaped_en, shaped_en⟩, eqv_en hM]
@[simp] theorem dNe_en {M : Int} {a b : OI} (hM : 0 < M) : dNe (en M a) (en M b) = .ok (.bool (!decide (a = b))) := by
  unfold dNe
  rw [if_pos ⟨shaped_en, shaped_en⟩, eqv_en hM]
end Ev

set_option Elab.async false
set_option linter.all false
set_option maxRecDepth 100000
set_option maxHeartbeats 400000
namespace Lw
open PySem PySem.Spec PyProof.Rows L2 Ev
theorem c_fraction {t l : Int} (h : l ≠ 0) (hb : l.natAbs < 2 ^ 9000) : f_fraction [.int t, .int l] = .ok (none, nf t l) := by
  have hn := sg_ne (t := t) h
  have hl := sg_log (t := t) h hb
  unfold nf
  by_cases hneg : l < 0
  · have hs : sg t l = -gz t l := by unfold sg; rw [if_pos hneg]
    rw [hs] at hn hl ⊢
    unfold gz at hn hl ⊢
    simp [f_fraction, runB, s_fraction, startR, h, hneg, dDiv_i hn hl]
  · have hs : sg t l = gz t l := by unfold sg; rw [if_neg hneg]
    rw [hs] at hn hl ⊢
    unfold gz at hn hl ⊢
    simp [f_fraction, runB, s_fraction, startR, h, hneg, dDiv_i hn hl]
/-! ### the law's own gcd -/
theorem gcd_turn {a b : Nat} {v : BV} (hb : b ≠ 0) : l__law_gcd_0_b [.va none (.int a), .va none (.int b), .va v.k v.d, .em] = .nx [.va none (.int b), .va none (.int (a % b : Nat)), .em, .em] := by
  have hb' : (b : Int) ≠ 0 := by omega
  have hm : (a : Int).fmod b = ((a % b : Nat) : Int) := by
    rw [Int.fmod_eq_emod_of_nonneg _ (by omega)]
    rfl
  simp [l__law_gcd_0_b, hb, hb', hm, sMov]
theorem gcd_loop : ∀ (n : Nat) (vs : List BV) (a b : Nat), b ≤ a → a * b < 2 ^ n → n < vs.length →
    forL (bd1 2) l__law_gcd_0_b vs [.va none (.int a), .va none (.int b), .em, .em] = .rt none (.int (Nat.gcd a b : Nat))
  | n, [], _, _, _, _, h => absurd h (Nat.not_lt_zero _)
  | n, v :: vs, a, b, hab, hp, hl => by
    by_cases hb : b = 0
    · subst hb
      refine forL_rt (ρ1 := [.va none (.int a), .va none (.int (0 : Nat)), .va v.k v.d, .em]) (by simp) ?_
      simp [l__law_gcd_0_b]
    · cases n with
      | zero =>
        exfalso
        have h0 : a * b = 0 := by simpa using hp
        rcases Nat.mul_eq_zero.mp h0 with h0 | h0 <;> omega
      | succ n =>
        have hlt : a % b < b := Nat.mod_lt _ (by omega)
        have h2r : 2 * (a % b) ≤ a := by
          have h1 := Nat.div_add_mod a b
          have h4 : 1 ≤ a / b := (Nat.one_le_div_iff (by omega)).mpr hab
          have h5 : b * 1 ≤ b * (a / b) := Nat.mul_le_mul_left _ h4
          omega
        have hp' : b * (a % b) < 2 ^ n := by
          have h1 : b * (2 * (a % b)) ≤ b * a := Nat.mul_le_mul_left _ h2r
          have h3 : b * (2 * (a % b)) = 2 * (b * (a % b)) := by rw [← Nat.mul_assoc, Nat.mul_comm b 2, Nat.mul_assoc]
          have h4 : a * b = b * a := Nat.mul_comm _ _
          rw [Nat.pow_succ] at hp
          omega
        have ih := gcd_loop n vs b (a % b) (by omega) hp' (by simpa using hl)
        have e : Nat.gcd b (a % b) = Nat.gcd a b := by rw [Nat.gcd_comm b, ← Nat.gcd_rec b a, Nat.gcd_comm]
        rw [e] at ih
        exact (forL_nx (ρ1 := [.va none (.int a), .va none (.int b), .va v.k v.d, .em]) (by simp) (gcd_turn hb)).trans ih
theorem bits_lt (a : Int) : a.natAbs < 2 ^ Builtin.Int.intBits a := by
  unfold Builtin.Int.intBits
  by_cases h : a = 0
  · subst h; decide
  · have e : (a == 0) = false := by simpa using h
    rw [e]
    show a.natAbs < 2 ^ (a.natAbs.log2 + 1)
    exact (Nat.log2_lt (by omega)).mp (by omega)
theorem bits_le {a : Int} (h : a.natAbs < 2 ^ 9000) : Builtin.Int.intBits a ≤ 9000 := by
  unfold Builtin.Int.intBits
  by_cases h0 : a = 0
  · subst h0; decide
  · have e : (a == 0) = false := by simpa using h0
    rw [e]
    show a.natAbs.log2 + 1 ≤ 9000
    exact log_of h
theorem bits_abs (x : Int) : Builtin.Int.intBits (x.natAbs : Int) = Builtin.Int.intBits x := by
  unfold Builtin.Int.intBits
  by_cases h : x = 0
  · subst h; rfl
  · have q1 : (x == 0) = false := by simpa using h
    have q2 : ((x.natAbs : Int) == 0) = false := by simpa using h
    rw [q1, q2]
    rfl
theorem gcd_iter {a b n m : Nat} (hn : Builtin.Int.intBits (a : Int) = n) (hm : Builtin.Int.intBits (b : Int) = m) (h1 : n ≤ 9000) (h2 : m ≤ 9000) : l__law_gcd_0_i [.va none (.int a), .va none (.int b), .em, .em] = .ok (intItems 0 1 (n + m + 4)) := by
  have hl : inLine ((n : Int) + m + 4) = true := inLine_of (by omega) (by omega)
  have e : ((n : Int) + m + 4).toNat = n + m + 4 := by omega
  have hA : evA true [x2 (pl dAdd) (x2 (pl dAdd) (x1 (p1 dBits) (xVa 0)) (x1 (p1 dBits) (xVa 1))) (xCn (.int 4))] [.va none (.int a), .va none (.int b), .em, .em] = .ok [⟨false, none, .int ((n : Int) + m + 4)⟩] := by
    rw [← hn, ← hm]
    rfl
  unfold l__law_gcd_0_i
  rw [xIt_of, hA, Res.bind_ok, range1_i hl, e]
theorem gcd_key {a b n : Nat} (hp : a * b < 2 ^ n) {vs : List BV} (hl : n + 2 < vs.length) : forL (bd1 2) l__law_gcd_0_b vs [.va none (.int a), .va none (.int b), .em, .em] = .rt none (.int (Nat.gcd a b : Nat)) := by
  cases vs with
  | nil => simp at hl
  | cons v vs =>
    simp only [List.length_cons] at hl
    by_cases hb0 : b = 0
    · rw [hb0]
      refine forL_rt (ρ1 := [.va none (.int a), .va none (.int (0 : Nat)), .va v.k v.d, .em]) (by simp) ?_
      simp [l__law_gcd_0_b]
    · have hle : a % b ≤ a := Nat.mod_le _ _
      have hlt : a % b < b := Nat.mod_lt _ (by omega)
      have hp' : b * (a % b) < 2 ^ n := by
        have : b * (a % b) ≤ b * a := Nat.mul_le_mul_left _ hle
        rw [Nat.mul_comm b a] at this
        omega
      have ih := gcd_loop n vs b (a % b) (by omega) hp' (by omega)
      have e : Nat.gcd b (a % b) = Nat.gcd a b := by rw [Nat.gcd_comm b, ← Nat.gcd_rec b a, Nat.gcd_comm]
      rw [e] at ih
      exact (forL_nx (ρ1 := [.va none (.int a), .va none (.int b), .va v.k v.d, .em]) (by simp) (gcd_turn hb0)).trans ih
theorem c_gcd {a b : Int} (ha : a.natAbs < 2 ^ 9000) (hb : b.natAbs < 2 ^ 9000) : f__law_gcd [.int a, .int b] = .ok (none, .int (Nat.gcd a.natAbs b.natAbs : Nat)) := by
  have h1 := bits_le ha
  have h2 := bits_le hb
  clear ha hb
  have n1 := bits_lt a
  have n2 := bits_lt b
  have hp : a.natAbs * b.natAbs < 2 ^ (Builtin.Int.intBits a + Builtin.Int.intBits b) := by
    rw [Nat.pow_add]
    exact Nat.mul_lt_mul'' n1 n2
  have hi := gcd_iter (bits_abs a) (bits_abs b) h1 h2
  have key := gcd_key hp (vs := intItems 0 1 (Builtin.Int.intBits a + Builtin.Int.intBits b + 4)) (by rw [intItems_len]; omega)
  refine runB_rt rfl ?_
  show s__law_gcd [.va (some 0) (.int a), .va (some 0) (.int b), .em, .em] = _
  unfold s__law_gcd
  apply sq; intro T hT; simp; subst hT
  apply sq; intro T hT; simp; subst hT
  exact sSeq_rt (sFor_rt hi key)
theorem c_lfraction {t l : Int} (h : l ≠ 0) (ht : t.natAbs < 2 ^ 9000) (hb : l.natAbs < 2 ^ 9000) : f__law_fraction [.int t, .int l] = .ok (none, nf t l) := by
  have hn := sg_ne (t := t) h
  have hl := sg_log (t := t) h hb
  have hg : f__law_gcd [.int t, .int l] = .ok (none, .int (gz t l)) := c_gcd ht hb
  clear ht hb
  refine runB_rt rfl ?_
  show s__law_fraction [.va (some 0) (.int t), .va (some 0) (.int l), .em] = _
  unfold s__law_fraction
  generalize f__law_gcd = φ at hg ⊢
  apply sq; intro T hT; simp [hg]; subst hT
  unfold nf
  by_cases hneg : l < 0
  · have hs : sg t l = -gz t l := by unfold sg; rw [if_pos hneg]
    rw [hs] at hn hl ⊢
    simp [hneg, dDiv_i hn hl]
  · have hs : sg t l = gz t l := by unfold sg; rw [if_neg hneg]
    rw [hs] at hn hl ⊢
    simp [hneg, dDiv_i hn hl]
/-! ### the arithmetic of moments -/
theorem bd9 {n : Nat} {x : Int} (h : Bd n x) (l : n ≤ 9000) : x.natAbs < 2 ^ 9000 := h.mono l
variable {M : Int} {a b : OI}
theorem c_plus (hM : GM M) (ha : Sm a) (hb : Sm b) : f_plus [en M a, en M b] = .ok (none, en M (pls a b)) := by
  cases a with
  | none => simp [f_plus, runB, s_plus, startR, en, pls]
  | some s =>
    cases b with
    | none => simp [f_plus, runB, s_plus, startR, en, pls]
    | some t =>
      obtain ⟨p, q, e1, h1, hq, b1, b2, _⟩ := en_parts hM ha.get
      obtain ⟨c, d, e2, h2, hd, b3, b4, _⟩ := en_parts hM hb.get
      have hf := c_fraction (t := p * d + c * q) (l := q * d) (by have := Int.mul_pos hq hd; omega) (bd9 (b2.mul b4) (by omega))
      have m1 := dMul_b b1 b4 (by omega)
      have m2 := dMul_b b3 b2 (by omega)
      have m3 := dMul_b b2 b4 (by omega)
      clear b1 b2 b3 b4
      simp only [en, pls]
      rw [← add_parts hM.1 h1 h2 hq hd, e1, e2]
      refine runB_rt rfl ?_
      show s_plus [.va (some 0) (pr p q), .va (some 0) (pr c d)] = _
      unfold s_plus
      generalize f_fraction = φ at hf ⊢
      simp [m1, m2, m3, hf]
theorem c_lplus (hM : GM M) (ha : Sm a) (hb : Sm b) : f__law_plus [en M a, en M b] = .ok (none, en M (pls a b)) := by
  cases a with
  | none => simp [f__law_plus, runB, s__law_plus, startR, en, pls]
  | some s =>
    cases b with
    | none => simp [f__law_plus, runB, s__law_plus, startR, en, pls]
    | some t =>
      obtain ⟨p, q, e1, h1, hq, b1, b2, _⟩ := en_parts hM ha.get
      obtain ⟨c, d, e2, h2, hd, b3, b4, _⟩ := en_parts hM hb.get
      have hf := c_lfraction (t := p * d + c * q) (l := q * d) (by have := Int.mul_pos hq hd; omega) (bd9 ((b1.mul b4).add (b3.mul b2)) (by omega)) (bd9 (b2.mul b4) (by omega))
      have m1 := dMul_b b1 b4 (by omega)
      have m2 := dMul_b b3 b2 (by omega)
      have m3 := dMul_b b2 b4 (by omega)
      clear b1 b2 b3 b4
      simp only [en, pls]
      rw [← add_parts hM.1 h1 h2 hq hd, e1, e2]
      refine runB_rt rfl ?_
      show s__law_plus [.va (some 0) (pr p q), .va (some 0) (pr c d)] = _
      unfold s__law_plus
      generalize f__law_fraction = φ at hf ⊢
      simp [m1, m2, m3, hf]
theorem c_minus {s t : Int} (hM : GM M) (ha : Bd 5500 s) (hb : Bd 5500 t) : f_minus [nf s M, nf t M] = .ok (none, nf (s - t) M) := by
  obtain ⟨p, q, e1, h1, hq, b1, b2, _⟩ := en_parts hM ha
  obtain ⟨c, d, e2, h2, hd, b3, b4, _⟩ := en_parts hM hb
  have hf := c_fraction (t := p * d - c * q) (l := q * d) (by have := Int.mul_pos hq hd; omega) (bd9 (b2.mul b4) (by omega))
  have m1 := dMul_b b1 b4 (by omega)
  have m2 := dMul_b b3 b2 (by omega)
  have m3 := dMul_b b2 b4 (by omega)
  clear b1 b2 b3 b4
  rw [← sub_parts hM.1 h1 h2 hq hd, e1, e2]
  refine runB_rt rfl ?_
  show s_minus [.va (some 0) (pr p q), .va (some 0) (pr c d)] = _
  unfold s_minus
  generalize f_fraction = φ at hf ⊢
  simp [m1, m2, m3, hf]
theorem c_ltimes {s k : Int} (hM : GM M) (ha : Bd 5500 s) (hk : Bd 3000 k) : f__law_times [nf s M, .int k] = .ok (none, nf (s * k) M) := by
  obtain ⟨p, q, e1, h1, hq, b1, b2, _⟩ := en_parts hM ha
  have hf := c_lfraction (t := p * k) (l := q) (by omega) (bd9 (b1.mul hk) (by omega)) (bd9 b2 (by omega))
  have m1 := dMul_b b1 hk (by omega)
  clear b1 b2
  rw [← mul_parts hM.1 h1 hq, e1]
  refine runB_rt rfl ?_
  show s__law_times [.va (some 0) (pr p q), .va (some 0) (.int k)] = _
  unfold s__law_times
  generalize f__law_fraction = φ at hf ⊢
  simp [m1, hf]
theorem c_times {s k : Int} (hM : GM M) (ha : Bd 5500 s) (hk : Bd 3000 k) : f_times [nf s M, pr k 1] = .ok (none, nf (s * k) M) := by
  obtain ⟨p, q, e1, h1, hq, b1, b2, _⟩ := en_parts hM ha
  have hf := c_fraction (t := p * k) (l := q * 1) (by omega) (by rw [Int.mul_one]; exact bd9 b2 (by omega))
  have m1 := dMul_b b1 hk (by omega)
  have m2 := dMul_b (j := 1) (m := 1) b2 (by unfold Bd; decide) (by omega)
  clear b1 b2
  rw [← mul_parts hM.1 h1 hq, e1]
  simp only [Int.mul_one] at hf m2
  refine runB_rt rfl ?_
  show s_times [.va (some 0) (pr p q), .va (some 0) (pr k 1)] = _
  unfold s_times
  generalize f_fraction = φ at hf ⊢
  simp [m1, m2, hf]
theorem c_over {s k : Int} (hM : GM M) (ha : Bd 5500 (s * k)) (hk : Bd 3000 k) (h0 : 0 < k) : f_over [nf (s * k) M, pr k 1] = .ok (none, nf s M) := by
  obtain ⟨p, q, e1, h1, hq, b1, b2, _⟩ := en_parts hM ha
  have hf := c_fraction (t := p * 1) (l := q * k) (by have := Int.mul_pos hq h0; omega) (bd9 (b2.mul hk) (by omega))
  have m1 := dMul_b b2 hk (by omega)
  have m2 := dMul_b (j := 1) (m := 1) b1 (by unfold Bd; decide) (by omega)
  clear b1 b2
  rw [← div_parts hM.1 h1 hq h0, e1]
  simp only [Int.mul_one] at hf m2
  refine runB_rt rfl ?_
  show s_over [.va (some 0) (pr p q), .va (some 0) (pr k 1)] = _
  unfold s_over
  generalize f_fraction = φ at hf ⊢
  simp [m1, m2, hf]
theorem c_is_less (hM : GM M) (ha : Sm a) (hb : Sm b) : f_is_less [en M a, en M b] = .ok (none, .bool (lts a b)) := by
  cases b with
  | none => cases a <;> simp [f_is_less, runB, s_is_less, startR, en, lts]
  | some t =>
    cases a with
    | none => simp [f_is_less, runB, s_is_less, startR, en, lts]
    | some s =>
      obtain ⟨p, q, e1, h1, hq, b1, b2, _⟩ := en_parts hM ha.get
      obtain ⟨c, d, e2, h2, hd, b3, b4, _⟩ := en_parts hM hb.get
      have m1 := dMul_b b1 b4 (by omega)
      have m2 := dMul_b b3 b2 (by omega)
      have hl := lt_parts hM.1 h1 h2 hq hd
      clear b1 b2 b3 b4
      simp only [en, lts]
      rw [e1, e2]
      simp [f_is_less, runB, s_is_less, startR, m1, m2, hl]
theorem c_lless (hM : GM M) (ha : Sm a) (hb : Sm b) : f__law_less [en M a, en M b] = .ok (none, .bool (lts a b)) := by
  cases b with
  | none => cases a <;> simp [f__law_less, runB, s__law_less, startR, en, lts]
  | some t =>
    cases a with
    | none => simp [f__law_less, runB, s__law_less, startR, en, lts]
    | some s =>
      obtain ⟨p, q, e1, h1, hq, b1, b2, _⟩ := en_parts hM ha.get
      obtain ⟨c, d, e2, h2, hd, b3, b4, _⟩ := en_parts hM hb.get
      have m1 := dMul_b b1 b4 (by omega)
      have m2 := dMul_b b3 b2 (by omega)
      have hl := lt_parts hM.1 h1 h2 hq hd
      clear b1 b2 b3 b4
      simp only [en, lts]
      rw [e1, e2]
      simp [f__law_less, runB, s__law_less, startR, m1, m2, hl]
theorem c_later (hM : GM M) (ha : Sm a) (hb : Sm b) : f_later [en M a, en M b] = .ok (none, en M (mxs a b)) := by
  have h := c_is_less hM ha hb
  refine runB_rt rfl ?_
  show s_later [.va (some 0) (en M a), .va (some 0) (en M b)] = _
  unfold s_later
  generalize f_is_less = φ at h ⊢
  by_cases hl : lts a b = true
  · simp [h, hl, mxs]
  · simp [h, hl, mxs]
end Lw

set_option Elab.async false
set_option linter.all false
set_option maxRecDepth 100000
set_option maxHeartbeats 400000
namespace Lw
open PySem PySem.Spec PyProof.Rows L2 Ev
/-! ### the script's numbers, draws -/
theorem c_cell {ns : List Int} {k : Nat} : f__law_cell [.list (ns.map .int), .int (k : Nat)] = .ok (none, .int (ns.getD k 0)) := by
  refine runB_rt rfl ?_
  show s__law_cell [.va (some 0) (.list (ns.map .int)), .va (some 0) (.int k)] = _
  unfold s__law_cell
  by_cases h : k < ns.length
  · have e : atI (ns.map PyData.int) (k : Int) = some (.int (ns.getD k 0)) := atI_n rfl h
    simp [h, ixD_l e]
  · have h2 : ns[k]? = none := List.getElem?_eq_none_iff.mpr (by omega)
    simp [h, List.getD, h2]
/-- a turn of the draws: a drawn number, a new rest, a new state -/
theorem draw_turn {lim : D} {ds : List D} {r st l : Int} {fr : Bool} (hl : 0 < l) (hlb : Bd 8000 l) (hr : 0 ≤ r) (hst : 0 ≤ st) (hst2 : st < 2147483647) (hsz : ds.length < sizeLine) :
    ∃ x r2 st2 : Int, 0 ≤ x ∧ x < l ∧ 0 ≤ r2 ∧ 0 ≤ st2 ∧ st2 < 2147483647 ∧
      l__law_draws_0_b [.em, .va (some 0) lim, .va none (.list ds), .va none (.int r), .va none (.int st), .va none (.bool fr), .va none (.int l)] = .nx [.em, .va (some 0) lim, .va none (.list (ds ++ [.int x])), .va none (.int r2), .va none (.int st2), .va none (.bool fr), .em] := by
  have hne : l ≠ 0 := by omega
  by_cases hc : fr = true ∧ 1 < r
  · obtain ⟨rfl, hr1⟩ := hc
    refine ⟨r.fmod l, r.fdiv l, st, Int.fmod_nonneg_of_pos _ hl, Int.fmod_lt_of_pos _ hl, Int.fdiv_nonneg hr (by omega), hst, hst2, ?_⟩
    have dd := dDiv_b (i := r) hne hlb (by omega)
    clear hlb
    simp [l__law_draws_0_b, hr1, hne, hsz, dd]
  · have b1 : Bd 31 st := Bd.of (m := 2147483647) (by omega) (by decide)
    have c1 : Bd 16 (48271 : Int) := by unfold Bd; decide
    have c2 : Bd 17 (69621 : Int) := by unfold Bd; decide
    have c3 : Bd 4 (13 : Int) := by unfold Bd; decide
    have p1 : 0 ≤ (st * 48271 + 11).fmod 2147483647 := Int.fmod_nonneg_of_pos _ (by decide)
    have p2 : (st * 48271 + 11).fmod 2147483647 < 2147483647 := Int.fmod_lt_of_pos _ (by decide)
    generalize hs1 : (st * 48271 + 11).fmod 2147483647 = st1 at p1 p2
    have b2 : Bd 31 st1 := Bd.of (m := 2147483647) (by omega) (by decide)
    have p3 : 0 ≤ (st1 * 69621 + 7).fmod 2147483647 := Int.fmod_nonneg_of_pos _ (by decide)
    have p4 : (st1 * 69621 + 7).fmod 2147483647 < 2147483647 := Int.fmod_lt_of_pos _ (by decide)
    refine ⟨((st1 * 69621 + 7).fmod 2147483647).fdiv 13 |>.fmod l, r, (st1 * 69621 + 7).fmod 2147483647, Int.fmod_nonneg_of_pos _ hl, Int.fmod_lt_of_pos _ hl, hr, p3, p4, ?_⟩
    have hcond : (if fr = true then (Res.ok (decide (1 < r)) : Res Bool) else .ok false) = .ok false := by
      by_cases h1 : fr = true
      · have h2 : ¬ 1 < r := fun z => hc ⟨h1, z⟩
        simp [h1, h2]
      · simp [h1]
    have m1 := dMul_b b1 c1 (by omega)
    have m2 := dMul_b b2 c2 (by omega)
    have m3 := dDiv_b (i := (st1 * 69621 + 7).fmod 2147483647) (show (13 : Int) ≠ 0 by decide) c3 (by omega)
    clear hlb b1 b2 c1 c2 c3
    unfold l__law_draws_0_b
    rw [ap_if, ap_tand]
    simp [hcond, hne, hsz, m1, m2, hs1, m3]
theorem draw_loop : ∀ (ls : List Int), (∀ l ∈ ls, 0 < l ∧ Bd 8000 l) → ∀ (ds : List D) (r st : Int) (fr : Bool) (lim : D), 0 ≤ r → 0 ≤ st → st < 2147483647 → ds.length + ls.length < 1000 →
    ∃ (xs : List Int) (r' st' : Int), forL (bd1 6) l__law_draws_0_b (ls.map fun l => ⟨false, none, .int l⟩) [.em, .va (some 0) lim, .va none (.list ds), .va none (.int r), .va none (.int st), .va none (.bool fr), .em] =
      .nx [.em, .va (some 0) lim, .va none (.list (ds ++ xs.map .int)), .va none (.int r'), .va none (.int st'), .va none (.bool fr), .em] ∧ xs.length = ls.length ∧ ∀ (i : Nat) (l x : Int), ls[i]? = some l → xs[i]? = some x → 0 ≤ x ∧ x < l
  | [], _, ds, r, st, fr, lim, hr, hst, hst2, hlen => ⟨[], r, st, by simp [forL_nil], rfl, fun i l x e => by simp at e⟩
  | l :: ls, hl, ds, r, st, fr, lim, hr, hst, hst2, hlen => by
    obtain ⟨hl0, hlb⟩ := hl l List.mem_cons_self
    have hsz : ds.length < sizeLine := Nat.lt_of_lt_of_le (show ds.length < 1000 by omega) (by decide)
    obtain ⟨x, r2, st2, x0, x1, q1, q2, q3, e⟩ := draw_turn (lim := lim) (fr := fr) hl0 hlb hr hst hst2 hsz
    obtain ⟨xs, r', st', f1, f2, f3⟩ := draw_loop ls (fun z hz => hl z (List.mem_cons_of_mem _ hz)) (ds ++ [.int x]) r2 st2 fr lim q1 q2 q3 (by simp at hlen ⊢; omega)
    refine ⟨x :: xs, r', st', ?_, by simp [f2], fun i l' y h1 h2 => ?_⟩
    · rw [List.map_cons, forL_nx (ρ1 := [.em, .va (some 0) lim, .va none (.list ds), .va none (.int r), .va none (.int st), .va none (.bool fr), .va none (.int l)]) (by simp) e, f1]
      simp
    · cases i with
      | zero =>
        simp at h1 h2
        subst h1; subst h2
        exact ⟨x0, x1⟩
      | succ i => exact f3 i l' y (by simpa using h1) (by simpa using h2)
theorem pow18 : dPow (.int 10) (.int 18) = .ok (.int 1000000000000000000) := by kernel_rfl
theorem c_draws (c : Int) (ls : List Int) (hl : ∀ l ∈ ls, 0 < l ∧ Bd 8000 l) (hlen : ls.length < 1000) :
    ∃ xs : List Int, f__law_draws [.int c, .list (ls.map .int)] = .ok (none, .list (xs.map .int)) ∧ xs.length = ls.length ∧ ∀ (i : Nat) (l x : Int), ls[i]? = some l → xs[i]? = some x → 0 ≤ x ∧ x < l := by
  have q1 : 0 ≤ ((c.natAbs : Int)).fmod 2147483647 := Int.fmod_nonneg_of_pos _ (by decide)
  have q2 : ((c.natAbs : Int)).fmod 2147483647 < 2147483647 := Int.fmod_lt_of_pos _ (by decide)
  obtain ⟨xs, r', st', f1, f2, f3⟩ := draw_loop ls hl [] c.natAbs ((c.natAbs : Int).fmod 2147483647) (decide (c < 0) || decide (1000000000000000000 ≤ c)) (.list (ls.map .int)) (by omega) q1 q2 (by simpa using hlen)
  refine ⟨xs, ?_, f2, f3⟩
  refine runB_rt rfl ?_
  show s__law_draws [.va (some 0) (.int c), .va (some 0) (.list (ls.map .int)), .em, .em, .em, .em, .em] = _
  unfold s__law_draws
  apply sq; intro T hT; simp [mkLst, sc]; subst hT
  apply sq; intro T hT; simp; subst hT
  apply sq; intro T hT; simp; subst hT
  have e4 : xOrV (x2 (pl dLt) (xVa 0) (xCn (.int 0))) (x2 (pl dGe) (xVa 0) (x2 (pl dPow) (xCn (.int 10)) (xCn (.int 18)))) [.va (some 0) (.int c), .va (some 0) (.list (ls.map .int)), .va none (.list []), .va none (.int c.natAbs), .va none (.int ((c.natAbs : Int).fmod 2147483647)), .em, .em] = .ok ⟨false, none, .bool (decide (c < 0) || decide (1000000000000000000 ≤ c))⟩ := by
    by_cases hneg : c < 0
    · simp [hneg]
    · simp [hneg, pow18]
  apply sq; intro T hT; rw [ap_asg, e4]; simp; subst hT
  rw [sF_ap]
  have e5 : l__law_draws_0_i [.em, .va (some 0) (.list (ls.map .int)), .va none (.list []), .va none (.int c.natAbs), .va none (.int ((c.natAbs : Int).fmod 2147483647)), .va none (.bool (decide (c < 0) || decide (1000000000000000000 ≤ c))), .em] = .ok (ls.map fun l => ⟨false, none, .int l⟩) :=
    it_flat (e_va rfl) (fun x => rfl) (.inr (.inl rfl))
  simp only [fgt_cs, fgt_nl, setSl_stA, stA_0, kil_va, kil_em, kil_nil]
  rw [sSeq_nx (sFor_nx e5 f1)]
  simp
end Lw

set_option Elab.async false
set_option linter.all false
set_option maxRecDepth 100000
set_option maxHeartbeats 400000
namespace Ev
open PySem PySem.Spec PyProof.Rows L2
abbrev eV (M : Int) (v : List OI) : D := .list (v.map (en M))
abbrev eW (M : Int) (W : List (List OI)) : D := .list (W.map fun r => .list (r.map (en M)))
abbrev SmV (v : List OI) : Prop := ∀ m ∈ v, Sm m
abbrev SmW (W : List (List OI)) : Prop := ∀ r ∈ W, ∀ m ∈ r, Sm m
abbrev BmV (n : Nat) (v : List OI) : Prop := ∀ m ∈ v, Bm n m
abbrev BmW (n : Nat) (W : List (List OI)) : Prop := ∀ r ∈ W, ∀ m ∈ r, Bm n m
def lat (v : List OI) : OI := v.foldl mxs none
theorem foldl_mxs_bm {n : Nat} : ∀ (v : List OI) (m : OI), Bm n m → BmV n v → Bm n (v.foldl mxs m)
  | [], _, h, _ => h
  | x :: v, m, h, hv => foldl_mxs_bm v (mxs m x) (h.mxs (hv x List.mem_cons_self)) fun z hz => hv z (List.mem_cons_of_mem _ hz)
theorem Bm.lat {n : Nat} {v : List OI} (h : BmV n v) : Bm n (Ev.lat v) := foldl_mxs_bm v Option.none Bm.none h
def nxt (W : List (List OI)) (v : List OI) : List OI := W.map fun r => lat (List.zipWith pls r v)
theorem mem_zipWith {f : OI → OI → OI} : ∀ {u v : List OI} {z : OI}, z ∈ List.zipWith f u v → ∃ a b, a ∈ u ∧ b ∈ v ∧ z = f a b
  | [], _, _, h => by simp at h
  | _ :: _, [], _, h => by simp at h
  | a :: u, b :: v, z, h => by
    simp only [List.zipWith_cons_cons] at h
    rcases List.mem_cons.mp h with h | h
    · exact ⟨a, b, List.mem_cons_self, List.mem_cons_self, h⟩
    · obtain ⟨x, y, hx, hy, e⟩ := mem_zipWith h
      exact ⟨x, y, List.mem_cons_of_mem _ hx, List.mem_cons_of_mem _ hy, e⟩
theorem BmV.zip {n : Nat} {u v : List OI} (h : BmV n u) (h' : BmV n v) : BmV (n + 1) (List.zipWith pls u v) := fun z hz => by
  obtain ⟨a, b, ha, hb, rfl⟩ := mem_zipWith hz
  exact (h a ha).pls (h' b hb)
theorem BmV.nxt {n : Nat} {W : List (List OI)} {v : List OI} (h : BmW n W) (h' : BmV n v) : BmV (n + 1) (Ev.nxt W v) := fun z hz => by
  obtain ⟨r, hr, rfl⟩ := List.mem_map.mp hz
  exact Bm.lat (BmV.zip (h r hr) h')
theorem BmV.mono {n k : Nat} {v : List OI} (h : BmV n v) (l : n ≤ k) : BmV k v := fun z hz => (h z hz).mono l
theorem zip_map2 {M : Int} (u v : List OI) : (u.zip v).map (fun p => en M (pls p.1 p.2)) = (List.zipWith pls u v).map (en M) := by
  rw [List.zip, List.map_zipWith, List.map_zipWith]
/-! ### places -/
def ato (r : List OI) (j : Nat) : OI := r.getD j none
def rwo (W : List (List OI)) (i : Nat) : List OI := W.getD i []
theorem ato_mem {r : List OI} {j : Nat} (h : j < r.length) : ato r j ∈ r := by
  unfold ato
  rw [List.getD, List.getElem?_eq_getElem h]
  exact List.getElem_mem h
theorem rwo_mem {W : List (List OI)} {j : Nat} (h : j < W.length) : rwo W j ∈ W := by
  unfold rwo
  rw [List.getD, List.getElem?_eq_getElem h]
  exact List.getElem_mem h
theorem ix_o {M : Int} {r : List OI} {j : Nat} {bb b2 : Bool} {k k2 : Lv} (h : j < r.length) : ixD ⟨bb, k, .list (r.map (en M))⟩ ⟨b2, k2, .int (j : Nat)⟩ = .ok ⟨false, none, en M (ato r j)⟩ := by
  rw [ix_n h, pick_flat flat_en]
  rfl
theorem ix_r {M : Int} {W : List (List OI)} {i : Nat} {bb b2 : Bool} {k k2 : Lv} (h : i < W.length) : ixD ⟨bb, k, .list (W.map fun r => .list (r.map (en M)))⟩ ⟨b2, k2, .int (i : Nat)⟩ = .ok ⟨bb, pd k, .list ((rwo W i).map (en M))⟩ := by
  rw [ix_n h, pick_l]
  rfl
theorem map_ato (r : List OI) : (List.range r.length).map (ato r) = r := by
  refine List.ext_getElem (by simp) fun i h1 h2 => ?_
  simp [ato, List.getD, List.getElem?_eq_getElem h2]
theorem map_rwo (W : List (List OI)) : (List.range W.length).map (rwo W) = W := by
  refine List.ext_getElem (by simp) fun i h1 h2 => ?_
  simp [rwo, List.getD, List.getElem?_eq_getElem h2]
theorem it_enumO {ρ : Rho} {a : Rho → Res BV} {cl ba : Bool} {ka : Lv} {M : Int} {u : List OI} (ha : a ρ = .ok ⟨ba, ka, .list (u.map (en M))⟩) (hk : ba = false ∨ ka = some 0 ∨ cl = false) : xItA (enumV cl) [a] ρ = .ok ((List.range u.length).map fun j => itm (.tuple [.int (j : Nat), en M (ato u j)])) :=
  it_enumR ha (hk.imp_right (Or.imp_right fun z => ⟨z, flats_map fun _ => flat_en⟩))
end Ev
namespace Lw
open PySem PySem.Spec PyProof.Rows L2 Ev
variable {M : Int}
theorem c_latest (hM : GM M) {v : List OI} (hv : SmV v) : f_latest [eV M v] = .ok (none, en M (lat v)) := by
  have hl : ∀ a b : OI, Sm a → Sm b → f_later [en M a, en M b] = .ok (none, en M (mxs a b)) := fun a b ha hb => c_later hM ha hb
  refine runB_rt rfl ?_
  show s_latest [.va (some 0) (eV M v), .em, .em] = _
  unfold s_latest
  have L := (sFor_fold (xi := l_latest_0_i) (bd := bd1 2) (s := l_latest_0_b) v (fun x => ⟨false, none, en M x⟩) (fun m => [.va (some 0) (eV M v), .va none (en M m), .em]) mxs Sm none
    (it_flat (e_va rfl) (fun x => flat_en) (.inr (.inl rfl))) Bm.none fun m x hx hm => ⟨⟨_, rfl, .inl (by simp [l_latest_0_b, hl m x hm (hv x hx)])⟩, hm.mxs (hv x hx)⟩).1
  apply sq; intro T hT; simp; subst hT
  refine (sSeq_nx L).trans ?_
  simp [lat]
theorem c_llatest (hM : GM M) {v : List OI} (hv : SmV v) : f__law_latest [eV M v] = .ok (none, en M (lat v)) := by
  have hl : ∀ a b : OI, Sm a → Sm b → f__law_less [en M a, en M b] = .ok (none, .bool (lts a b)) := fun a b ha hb => c_lless hM ha hb
  refine runB_rt rfl ?_
  show s__law_latest [.va (some 0) (eV M v), .em, .em] = _
  unfold s__law_latest
  have L := (sFor_fold (xi := l__law_latest_0_i) (bd := bd1 2) (s := l__law_latest_0_b) v (fun x => ⟨false, none, en M x⟩) (fun m => [.va (some 0) (eV M v), .va none (en M m), .em]) mxs Sm none
    (it_flat (e_va rfl) (fun x => flat_en) (.inr (.inl rfl))) Bm.none fun m x hx hm => ⟨⟨_, rfl, .inl (by
      by_cases h : lts m x = true
      · simp [l__law_latest_0_b, hl m x hm (hv x hx), h, mxs, sMov]
      · simp [l__law_latest_0_b, hl m x hm (hv x hx), h, mxs])⟩, hm.mxs (hv x hx)⟩).1
  apply sq; intro T hT; simp; subst hT
  refine (sSeq_nx L).trans ?_
  simp [lat]
theorem c_next_round (hM : GM M) {W : List (List OI)} {v : List OI} (hW : BmW 5000 W) (hv : BmV 5000 v) (hl : W.length ≤ 1000) (hl2 : v.length ≤ 1000) : f_next_round [eW M W, eV M v] = .ok (none, eV M (nxt W v)) := by
  have hp : ∀ a b : OI, Sm a → Sm b → f_plus [en M a, en M b] = .ok (none, en M (pls a b)) := fun a b ha hb => c_plus hM ha hb
  have hlat : ∀ u : List OI, SmV u → f_latest [eV M u] = .ok (none, en M (lat u)) := fun u hu => c_latest hM hu
  refine runB_rt rfl ?_
  show s_next_round [.va (some 0) (eW M W), .va (some 0) (eV M v), .em, .em, .em] = _
  unfold s_next_round
  have inner : ∀ r ∈ W, xLc c_next_round_0_i [2, 3] (bdT [2, 3]) c_next_round_0_c c_next_round_0_x [.va (some 0) (eW M W), .va (some 0) (eV M v), .em, .em, .va (some 0) (eV M r)] = .ok ⟨false, none, eV M (List.zipWith pls r v)⟩ := fun r hr => by
    have := lc_map (ρ := [.va (some 0) (eW M W), .va (some 0) (eV M v), .em, .em, .va (some 0) (eV M r)]) (xi := c_next_round_0_i) (own := [2, 3]) (bd := bdT [2, 3]) (cc := c_next_round_0_c) (x := c_next_round_0_x) (r.zip v) (fun p => itm (.tuple [en M p.1, en M p.2])) (fun p => en M (pls p.1 p.2))
      (it_zip (e_va rfl) (e_va rfl) (.inr (.inl rfl)) (.inr (.inl rfl))) (by have := List.length_zip (l₁ := r) (l₂ := v); omega) fun p hp' => by
        have hpm := List.of_mem_zip hp'
        refine ⟨_, rfl, rfl, false, none, ?_, .inl flat_en⟩
        have h1 := hp p.1 p.2 ((hW r hr _ hpm.1).mono (by omega)) ((hv _ hpm.2).mono (by omega))
        simp [c_next_round_0_x, bindN, h1]
    rw [this, zip_map2]
  have outer := lc_map (ρ := [.va (some 0) (eW M W), .va (some 0) (eV M v), .em, .em, .em]) (xi := c_next_round_1_i) (own := [4]) (bd := bd1 4) (cc := c_next_round_1_c) (x := c_next_round_1_x) W (fun r => ⟨false, some 0, eV M r⟩) (fun r => en M (lat (List.zipWith pls r v)))
    (it_rows (e_va rfl) (.inr rfl)) (by omega) fun r hr => by
      refine ⟨_, rfl, rfl, false, none, ?_, .inl flat_en⟩
      have h1 := hlat (List.zipWith pls r v) (BmV.mono (BmV.zip (hW r hr) hv) (by omega))
      exact call1 (inner r hr) h1
  rw [ap_ret, outer]
  simp [nxt]
end Lw

set_option Elab.async false
set_option linter.all false
set_option maxRecDepth 100000
set_option maxHeartbeats 400000
namespace Ev
open PySem PySem.Spec PyProof.Rows L2
/-! ### data that can be shown: w bounds the parts, h the depth -/
structure Rq (w h : Nat) (d : D) : Prop where
  c : d.canLay0 = true
  s : d.showable = true
  l : d.leavesShort 1902 = true
  b : d.bulk ≤ w
  d : d.depth ≤ h
theorem Rq.mono {w h w' h' : Nat} {d : D} (r : Rq w h d) (a : w ≤ w') (b : h ≤ h') : Rq w' h' d := ⟨r.c, r.s, r.l, Nat.le_trans r.b a, Nat.le_trans r.d b⟩
theorem Rq.none : Rq 0 0 .none := ⟨rfl, rfl, rfl, Nat.le_refl _, Nat.le_refl _⟩
theorem Rq.bool {b : Bool} : Rq 0 0 (.bool b) := ⟨rfl, rfl, rfl, Nat.le_refl _, Nat.le_refl _⟩
theorem Rq.int {i : Int} (h : Bd 1900 i) : Rq 0 0 (.int i) := by
  have hl := h.log
  refine ⟨rfl, ?_, ?_, Nat.le_refl _, Nat.le_refl _⟩
  · simp only [PyData.showable, decide_eq_true_eq]; omega
  · have e := int_text_length_le (a := i) (k := 1901) (by omega) (by omega)
    simp only [PyData.leavesShort, decide_eq_true_eq]
    show (Str.ofString (toString i)).length ≤ 1902
    rw [PySem.ofString_length]; exact e
theorem Rq.str {x : Str} (h : (PyData.str x).canLay0 = true) (h2 : (PyData.str x).leavesShort 1902 = true) (h3 : x.cps.size ≤ 40) : Rq 40 0 (.str x) := ⟨h, rfl, h2, h3, Nat.le_refl _⟩
theorem rq_all {w h : Nat} : ∀ {ds : List D}, (∀ d ∈ ds, Rq w h d) → PyData.canLayAll0 ds = true ∧ PyData.showableAll ds = true ∧ PyData.leavesShortAll 1902 ds = true ∧ PyData.bulkAll ds ≤ ds.length * (w + 1) ∧ PyData.depthAll ds ≤ h
  | [], _ => ⟨rfl, rfl, rfl, Nat.zero_le _, Nat.zero_le _⟩
  | d :: ds, hd => by
    obtain ⟨a1, a2, a3, a4, a5⟩ := rq_all fun z hz => hd z (List.mem_cons_of_mem _ hz)
    obtain ⟨b1, b2, b3, b4, b5⟩ := hd d List.mem_cons_self
    refine ⟨by simp only [PyData.canLayAll0, a1, b1, Bool.and_self], by simp only [PyData.showableAll, a2, b2, Bool.and_self], by simp only [PyData.leavesShortAll, a3, b3, Bool.and_self], ?_, ?_⟩
    · simp only [PyData.bulkAll, List.length_cons, Nat.add_mul]; omega
    · simp only [PyData.depthAll]; omega
theorem Rq.list {w h n : Nat} {ds : List D} (hd : ∀ d ∈ ds, Rq w h d) (hn : ds.length ≤ n) : Rq (n * (w + 1)) (h + 1) (.list ds) := by
  obtain ⟨a1, a2, a3, a4, a5⟩ := rq_all hd
  refine ⟨by simpa only [PyData.canLay0] using a1, by simpa only [PyData.showable] using a2, by simpa only [PyData.leavesShort] using a3, ?_, by simp only [PyData.depth]; omega⟩
  simp only [PyData.bulk]
  exact Nat.le_trans a4 (Nat.mul_le_mul_right _ hn)
theorem Rq.tuple {w h n : Nat} {ds : List D} (hd : ∀ d ∈ ds, Rq w h d) (hn : ds.length ≤ n) : Rq (n * (w + 1)) (h + 1) (.tuple ds) := by
  obtain ⟨a1, a2, a3, a4, a5⟩ := rq_all hd
  refine ⟨by simpa only [PyData.canLay0] using a1, by simpa only [PyData.showable] using a2, by simpa only [PyData.leavesShort] using a3, ?_, by simp only [PyData.depth]; omega⟩
  simp only [PyData.bulk]
  exact Nat.le_trans a4 (Nat.mul_le_mul_right _ hn)
theorem Rq.shaped {w h : Nat} {d : D} (r : Rq w h d) (hh : h ≤ 64) : SeqAt.shaped d = true := by
  unfold SeqAt.shaped
  rw [r.c, decide_eq_true (Nat.le_trans r.d hh)]
  rfl
theorem dRepr_of {w h : Nat} {d : D} (r : Rq w h d) (hh : h ≤ 64) (hw : w ≤ 8000) : dRepr d = .ok (.str d.shown) := by
  unfold dRepr
  refine if_pos ⟨r.shaped hh, r.s, ?_⟩
  have e := PyData.shown_le_bulk 1902 (by omega) d r.l
  have e2 : sizeLine = 16777216 := by decide
  have e3 : (1902 + 2) * d.bulk ≤ 1904 * 8000 := Nat.mul_le_mul_left _ (Nat.le_trans r.b hw)
  omega
theorem Rq.pr {a b : Int} (ha : Bd 1900 a) (hb : Bd 1900 b) : Rq 2 1 (pr a b) := by
  refine Rq.tuple (w := 0) (h := 0) (n := 2) (fun d hd => ?_) (by simp)
  simp at hd
  rcases hd with rfl | rfl
  · exact Rq.int ha
  · exact Rq.int hb
/-! ### the shown size of moments: the parts of the fraction -/
def Sd (n : Nat) (M : Int) (m : OI) : Prop := ∀ t, m = some t → ∃ p q, nf t M = Ev.pr p q ∧ Bd n p ∧ Bd n q
theorem Sd.none {n : Nat} {M : Int} : Sd n M Option.none := fun t e => by cases e
theorem Sd.mono {n k : Nat} {M : Int} {m : OI} (h : Sd n M m) (l : n ≤ k) : Sd k M m := fun t e => by
  obtain ⟨p, q, e1, a, b⟩ := h t e
  exact ⟨p, q, e1, a.mono l, b.mono l⟩
/-- the parts of a fraction that is written somehow -/
theorem nf_small {n : Nat} {x y : Int} (hy : 0 < y) (hx : Bd n x) (hy' : Bd n y) : ∃ p q, nf x y = Ev.pr p q ∧ Bd n p ∧ Bd n q := by
  obtain ⟨p, q, g, e1, e2, e3, hq, hg, _⟩ := nf_parts (t := x) hy
  refine ⟨p, q, e1, hx.le ?_, hy'.le ?_⟩
  · rw [e2, Int.natAbs_mul]; exact Nat.le_mul_of_pos_right _ (by omega)
  · rw [e3, Int.natAbs_mul]; exact Nat.le_mul_of_pos_right _ (by omega)
theorem Sd.of {n : Nat} {M x y t : Int} (hM : 0 < M) (hy : 0 < y) (hx : Bd n x) (hy' : Bd n y) (e : x * M = t * y) : Sd n M (some t) := fun t' e' => by
  cases e'
  rw [← nf_eq hy hM e]
  exact nf_small hy hx hy'
theorem pos_parts {M t p q : Int} (hM : 0 < M) (e : nf t M = Ev.pr p q) : p * M = t * q ∧ 0 < q := by
  obtain ⟨p', q', g, e1, e2, e3, hq, hg, _⟩ := nf_parts (t := t) hM
  rw [e] at e1
  unfold Ev.pr at e1
  simp only [PyData.tuple.injEq, List.cons.injEq, PyData.int.injEq, and_true] at e1
  obtain ⟨rfl, rfl⟩ := e1
  refine ⟨?_, hq⟩
  rw [e2]
  conv => lhs; rw [e3]
  rw [Int.mul_assoc, Int.mul_comm g q]
theorem Sd.pls {n k : Nat} {M : Int} {a b : OI} (hM : 0 < M) (h : Sd n M a) (h' : Sd k M b) : Sd (n + k + 1) M (Ev.pls a b) := by
  intro t e
  cases a with
  | none => cases b <;> simp [Ev.pls] at e
  | some s =>
    cases b with
    | none => simp [Ev.pls] at e
    | some u =>
      obtain ⟨p, q, e1, b1, b2⟩ := h s rfl
      obtain ⟨c, d, e2, b3, b4⟩ := h' u rfl
      obtain ⟨h1, hq⟩ := pos_parts hM e1
      obtain ⟨h2, hd⟩ := pos_parts hM e2
      simp only [Ev.pls, Option.some.injEq] at e
      subst e
      rw [← add_parts hM h1 h2 hq hd]
      refine nf_small (Int.mul_pos hq hd) ?_ ((b2.mul b4).mono (by omega))
      exact (b1.mul b4).add ((b3.mul b2).mono (by omega))
theorem Sd.mxs {n : Nat} {M : Int} {a b : OI} (h : Sd n M a) (h' : Sd n M b) : Sd n M (Ev.mxs a b) := by
  unfold Ev.mxs; split <;> assumption
theorem Rq.en {M : Int} {m : OI} (h : Sd 1900 M m) : Rq 2 1 (Ev.en M m) := by
  cases m with
  | none => exact Rq.none.mono (by omega) (by omega)
  | some t =>
    obtain ⟨p, q, e, a, b⟩ := h t rfl
    show Rq 2 1 (nf t M)
    rw [e]; exact Rq.pr a b
end Ev

set_option Elab.async false
set_option linter.all false
set_option maxRecDepth 100000
set_option maxHeartbeats 400000
namespace Ev
open PySem PySem.Spec PyProof.Rows L2
/-! ### one denominator for many moments -/
def scl (c : Int) : OI → OI
  | none => none
  | some t => some (t * c)
theorem en_scl {N c : Int} (hN : 0 < N) (hc : 0 < c) (m : OI) : en (N * c) (scl c m) = en N m := by
  cases m with
  | none => rfl
  | some t => exact nf_scale (by omega) hc
theorem Bm.scl {n k : Nat} {c : Int} {m : OI} (h : Bm n m) (hc : Bd k c) : Bm (n + k) (Ev.scl c m) := by
  intro t e
  cases m with
  | none => cases e
  | some s => simp only [Ev.scl, Option.some.injEq] at e; subst e; exact h.get.mul hc
theorem Sd.scl {n : Nat} {N c : Int} {m : OI} (hN : 0 < N) (hc : 0 < c) (h : Sd n N m) : Sd n (N * c) (Ev.scl c m) := by
  intro t e
  cases m with
  | none => cases e
  | some s =>
    simp only [Ev.scl, Option.some.injEq] at e
    subst e
    rw [nf_scale (by omega) hc]
    exact h s rfl
/-- a moment's datum: its denominator within a bits, its parts within b -/
def MoD (a b : Nat) (d : D) : Prop := ∃ (N : Int) (m : OI), d = en N m ∧ 0 < N ∧ Bd a N ∧ Bm b m ∧ Sd b N m
theorem MoD.none {a b : Nat} (h : 0 < a) : MoD a b .none := ⟨1, Option.none, rfl, by decide, (show Bd 1 1 by unfold Bd; decide).mono h, Bm.none, Sd.none⟩
theorem MoD.nf {a b : Nat} {t l : Int} (hl : 0 < l) (ha : Bd a l) (hb : Bd b t) (hab : a ≤ b) : MoD a b (nf t l) := ⟨l, some t, rfl, hl, ha, Bm.some hb, fun t' e => by
  cases e
  obtain ⟨p, q, e1, h1, h2⟩ := nf_small hl (hb.mono (Nat.le_max_left b a)) (ha.mono (Nat.le_max_right b a))
  rw [Nat.max_eq_left hab] at h1 h2
  exact ⟨p, q, e1, h1, h2⟩⟩
theorem nf_one {t : Int} : nf t 1 = pr t 1 := by
  have e : sg t 1 = 1 := by unfold sg gz; simp
  unfold nf
  rw [e]
  simp [Int.fdiv_one]
theorem MoD.one {a b : Nat} {t : Int} (ha : 0 < a) (hb : Bd b t) (hab : a ≤ b) : MoD a b (pr t 1) := by
  rw [← nf_one]
  exact MoD.nf (by decide) ((show Bd 1 1 by unfold Bd; decide).mono ha) hb hab
theorem bd_one : Bd 0 1 ∨ True := .inr trivial
/-- a list of moments -/
theorem gather {a b : Nat} : ∀ {ds : List D}, (∀ d ∈ ds, MoD a b d) → ∃ (M : Int) (ms : List OI), ds = ms.map (en M) ∧ 0 < M ∧ Bd (a * ds.length + 1) M ∧ BmV (b + a * ds.length + 1) ms ∧ ∀ m ∈ ms, Sd b M m
  | [], _ => ⟨1, [], rfl, by decide, (show Bd 1 1 by unfold Bd; decide).mono (by simp), fun m h => (by cases h), by simp⟩
  | d :: ds, h => by
    obtain ⟨N, m, rfl, hN, bN, bm, sm⟩ := h d List.mem_cons_self
    obtain ⟨M, ms, rfl, hM, bM, bms, sms⟩ := gather fun z hz => h z (List.mem_cons_of_mem _ hz)
    refine ⟨N * M, scl M m :: ms.map (scl N), ?_, Int.mul_pos hN hM, ?_, ?_, ?_⟩
    · rw [List.map_cons, en_scl hN hM, List.map_map]
      congr 1
      refine List.map_congr_left fun x _ => ?_
      show en M x = en (N * M) (scl N x)
      rw [Int.mul_comm N M, en_scl hM hN]
    · refine (bN.mul bM).mono ?_
      simp only [List.length_map, List.length_cons, Nat.mul_add]; omega
    · intro z hz
      rcases List.mem_cons.mp hz with rfl | hz
      · refine (bm.scl bM).mono ?_
        simp only [List.length_map, List.length_cons, Nat.mul_add]; omega
      · obtain ⟨x, hx, rfl⟩ := List.mem_map.mp hz
        refine ((bms x hx).scl bN).mono ?_
        simp only [List.length_map, List.length_cons, Nat.mul_add]; omega
    · intro z hz
      rcases List.mem_cons.mp hz with rfl | hz
      · exact Sd.scl hN hM sm
      · obtain ⟨x, hx, rfl⟩ := List.mem_map.mp hz
        rw [Int.mul_comm N M]
        exact Sd.scl hM hN (sms x hx)
/-- rows of moments; n bounds the rows' lengths -/
theorem gather2 {a b n : Nat} : ∀ {dss : List (List D)}, (∀ ds ∈ dss, ds.length ≤ n ∧ ∀ d ∈ ds, MoD a b d) → ∃ (M : Int) (W : List (List OI)), dss = W.map (fun r => r.map (en M)) ∧ 0 < M ∧ Bd ((a * n + 1) * dss.length + 1) M ∧ BmW (b + (a * n + 1) * dss.length + 1) W ∧ ∀ r ∈ W, ∀ m ∈ r, Sd b M m
  | [], _ => ⟨1, [], rfl, by decide, (show Bd 1 1 by unfold Bd; decide).mono (by simp), fun m h => (by cases h), by simp⟩
  | ds :: dss, h => by
    obtain ⟨hn, hd⟩ := h ds List.mem_cons_self
    obtain ⟨N, ms, rfl, hN, bN, bms, sms⟩ := gather hd
    obtain ⟨M, W, rfl, hM, bM, bW, sW⟩ := gather2 fun z hz => h z (List.mem_cons_of_mem _ hz)
    have hn' : a * (ms.map (en N)).length ≤ a * n := Nat.mul_le_mul_left _ hn
    refine ⟨N * M, ms.map (scl M) :: W.map (fun r => r.map (scl N)), ?_, Int.mul_pos hN hM, ?_, ?_, ?_⟩
    · rw [List.map_cons, List.map_map, List.map_map]
      congr 1
      · exact List.map_congr_left fun x _ => (en_scl hN hM x).symm
      · refine List.map_congr_left fun r _ => ?_
        show r.map (en M) = (r.map (scl N)).map (en (N * M))
        rw [List.map_map]
        refine List.map_congr_left fun x _ => ?_
        show en M x = en (N * M) (scl N x)
        rw [Int.mul_comm N M, en_scl hM hN]
    · refine (bN.mul bM).mono ?_
      simp only [List.length_cons, Nat.mul_add]; omega
    · intro r hr z hz
      rcases List.mem_cons.mp hr with rfl | hr
      · obtain ⟨x, hx, rfl⟩ := List.mem_map.mp hz
        refine ((bms x hx).scl bM).mono ?_
        simp only [List.length_cons, Nat.mul_add]; omega
      · obtain ⟨r0, hr0, rfl⟩ := List.mem_map.mp hr
        obtain ⟨x, hx, rfl⟩ := List.mem_map.mp hz
        refine ((bW r0 hr0 x hx).scl bN).mono ?_
        simp only [List.length_cons, Nat.mul_add]; omega
    · intro r hr z hz
      rcases List.mem_cons.mp hr with rfl | hr
      · obtain ⟨x, hx, rfl⟩ := List.mem_map.mp hz
        exact Sd.scl hN hM (sms x hx)
      · obtain ⟨r0, hr0, rfl⟩ := List.mem_map.mp hr
        obtain ⟨x, hx, rfl⟩ := List.mem_map.mp hz
        rw [Int.mul_comm N M]
        exact Sd.scl hM hN (sW r0 hr0 x hx)
end Ev
namespace Lw
open PySem PySem.Spec PyProof.Rows L2 Ev
theorem lims {ls : List Int} (h : (ls.all fun l => decide (0 < l) && decide (l.natAbs ≤ 10 ^ 12)) = true) : ∀ l ∈ ls, 0 < l ∧ Bd 8000 l := fun l hl => by
  have := List.all_eq_true.mp h l hl
  simp only [Bool.and_eq_true, decide_eq_true_eq] at this
  exact ⟨this.1, (Bd.of (n := 40) this.2 (by decide)).mono (by omega)⟩
theorem smB {n : Nat} {x : Int} (h : x.natAbs ≤ n) {k : Nat} (h2 : n < 2 ^ k) : Bd k x := Bd.of h h2
/-- a drawn moment -/
theorem c_moment (c : Int) : ∃ d, f__law_moment [.int c] = .ok (none, d) ∧ MoD 20 21 d := by
  obtain ⟨xs, f1, f2, f3⟩ := c_draws c [8, 21, 6, 2000001, 1000000] (lims (by decide)) (by decide)
  match xs, f2 with
  | [x0, x1, x2', x3, x4], _ =>
  have b0 := f3 0 8 x0 rfl rfl
  have b1 := f3 1 21 x1 rfl rfl
  have b2 := f3 2 6 x2' rfl rfl
  have b3 := f3 3 2000001 x3 rfl rfl
  have b4 := f3 4 1000000 x4 rfl rfl
  have i0 : atI [PyData.int x0, .int x1, .int x2', .int x3, .int x4] 0 = some (.int x0) := rfl
  have i1 : atI [PyData.int x0, .int x1, .int x2', .int x3, .int x4] 1 = some (.int x1) := rfl
  have i2 : atI [PyData.int x0, .int x1, .int x2', .int x3, .int x4] 2 = some (.int x2') := rfl
  have i3 : atI [PyData.int x0, .int x1, .int x2', .int x3, .int x4] 3 = some (.int x3) := rfl
  have i4 : atI [PyData.int x0, .int x1, .int x2', .int x3, .int x4] 4 = some (.int x4) := rfl
  have sm : ∀ x : Int, x.natAbs ≤ 1000001 → Bd 20 x := fun x h => smB h (by decide)
  have lf : ∀ t l : Int, 0 < l → t.natAbs ≤ 1000001 → l.natAbs ≤ 1000001 → f__law_fraction [.int t, .int l] = .ok (none, nf t l) := fun t l h ht hl => c_lfraction (by omega) (bd9 (sm t ht) (by omega)) (bd9 (sm l hl) (by omega))
  have go : ∀ d, s__law_moment [.va (some 0) (.int c), .em] = .rt none d → MoD 20 21 d → ∃ d, f__law_moment [.int c] = .ok (none, d) ∧ MoD 20 21 d := fun d h m => ⟨d, runB_rt rfl h, m⟩
  have f1' : f__law_draws [.int c, .list [.int 8, .int 21, .int 6, .int 2000001, .int 1000000]] = .ok (none, .list [.int x0, .int x1, .int x2', .int x3, .int x4]) := f1
  generalize [PyData.int x0, .int x1, .int x2', .int x3, .int x4] = L at f1' i0 i1 i2 i3 i4
  by_cases h2 : x0 < 2
  · refine go .none ?_ (MoD.none (by omega))
    unfold s__law_moment
    apply sq; intro T hT; simp [mkLst, dispLv, sc, f1']; subst hT
    simp [ixD_l i0, h2]
  · by_cases h3 : x0 = 2
    · refine go (nf (x3 - 1000000) (1 + x4)) ?_ (MoD.nf (by omega) (sm _ (by omega)) ((sm _ (by omega)).mono (by omega)) (by omega))
      have e := lf (x3 - 1000000) (1 + x4) (by omega) (by omega) (by omega)
      unfold s__law_moment
      apply sq; intro T hT; simp [mkLst, dispLv, sc, f1']; subst hT
      rw [sF_ap]
      apply sq; intro T hT; simp [ixD_l i0, h2]; subst hT
      apply sq; intro T hT
      simp [ixD_l i0, h3, ixD_l i3, ixD_l i4, e]
    · by_cases h4 : x0 = 3
      · refine go (nf (x1 - 10) (1 + x2')) ?_ (MoD.nf (by omega) (sm _ (by omega)) ((sm _ (by omega)).mono (by omega)) (by omega))
        have e := lf (x1 - 10) (1 + x2') (by omega) (by omega) (by omega)
        unfold s__law_moment
        apply sq; intro T hT; simp [mkLst, dispLv, sc, f1']; subst hT
        rw [sF_ap]
        apply sq; intro T hT; simp [ixD_l i0, h2]; subst hT
        apply sq; intro T hT; simp [ixD_l i0, h3]; subst hT
        apply sq; intro T hT
        simp [ixD_l i0, h4, ixD_l i1, ixD_l i2, e]
      · refine go (pr (x1 - 10) 1) ?_ (MoD.one (by omega) ((sm _ (by omega)).mono (by omega)) (by omega))
        unfold s__law_moment
        apply sq; intro T hT; simp [mkLst, dispLv, sc, f1']; subst hT
        rw [sF_ap]
        apply sq; intro T hT; simp [ixD_l i0, h2]; subst hT
        apply sq; intro T hT; simp [ixD_l i0, h3]; subst hT
        apply sq; intro T hT; simp [ixD_l i0, h4]; subst hT
        simp [ixD_l i1]
/-- a drawn small moment: its denominator divides 27720 -/
theorem c_small (c k : Int) : ∃ m : OI, f__law_small [.int c, .int k] = .ok (none, en 27720 m) ∧ Bm 19 m ∧ Sd 7 27720 m := by
  obtain ⟨xs, f1, f2, f3⟩ := c_draws c [10, 15, 12] (lims (by decide)) (by decide)
  match xs, f2 with
  | [x0, x1, x2'], _ =>
  have b0 := f3 0 10 x0 rfl rfl
  have b1 := f3 1 15 x1 rfl rfl
  have b2 := f3 2 12 x2' rfl rfl
  have i0 : atI [PyData.int x0, .int x1, .int x2'] 0 = some (.int x0) := rfl
  have i1 : atI [PyData.int x0, .int x1, .int x2'] 1 = some (.int x1) := rfl
  have i2 : atI [PyData.int x0, .int x1, .int x2'] 2 = some (.int x2') := rfl
  have sm : ∀ x : Int, x.natAbs ≤ 100 → Bd 7 x := fun x h => smB h (by decide)
  have go : ∀ m, s__law_small [.va (some 0) (.int c), .va (some 0) (.int k), .em] = .rt none (en 27720 m) → Bm 19 m → Sd 7 27720 m → ∃ m : OI, f__law_small [.int c, .int k] = .ok (none, en 27720 m) ∧ Bm 19 m ∧ Sd 7 27720 m := fun d h m m2 => ⟨d, runB_rt rfl h, m, m2⟩
  have f1' : f__law_draws [.int c, .list [.int 10, .int 15, .int 12]] = .ok (none, .list [.int x0, .int x1, .int x2']) := f1
  generalize [PyData.int x0, .int x1, .int x2'] = L at f1' i0 i1 i2
  by_cases h2 : x0 < k
  · refine go none ?_ Bm.none Sd.none
    unfold s__law_small
    apply sq; intro T hT; simp [mkLst, dispLv, sc, f1']; subst hT
    simp [ixD_l i0, h2, en]
  · by_cases h3 : x0 = 9
    · have hd : (1 + x2') ∣ 27720 := by
        have : x2' = 0 ∨ x2' = 1 ∨ x2' = 2 ∨ x2' = 3 ∨ x2' = 4 ∨ x2' = 5 ∨ x2' = 6 ∨ x2' = 7 ∨ x2' = 8 ∨ x2' = 9 ∨ x2' = 10 ∨ x2' = 11 := by omega
        rcases this with rfl | rfl | rfl | rfl | rfl | rfl | rfl | rfl | rfl | rfl | rfl | rfl <;> decide
      obtain ⟨g, hg⟩ := hd
      have hg0 : 0 < g := by
        apply Classical.byContradiction
        intro h
        have := Int.mul_nonpos_of_nonneg_of_nonpos (show 0 ≤ 1 + x2' by omega) (show g ≤ 0 by omega)
        omega
      have hg1 : g ≤ 27720 := by
        have := Int.mul_le_mul_of_nonneg_right (show 1 ≤ 1 + x2' by omega) (show 0 ≤ g by omega)
        omega
      refine go (some ((x1 - 7) * g)) ?_ (Bm.some (((smB (n := 8) (k := 4) (by omega) (by decide)).mul (smB (n := 27720) (k := 15) (by omega) (by decide))).mono (by omega))) (Sd.of (x := x1 - 7) (y := 1 + x2') (by decide) (by omega) (sm _ (by omega)) (sm _ (by omega)) (by rw [hg, Int.mul_assoc, Int.mul_comm g]))
      have e : f__law_fraction [.int (x1 - 7), .int (1 + x2')] = .ok (none, en 27720 (some ((x1 - 7) * g))) := by
        rw [c_lfraction (by omega) (bd9 (sm _ (by omega)) (by omega)) (bd9 (sm _ (by omega)) (by omega))]
        show _ = Res.ok (none, nf ((x1 - 7) * g) 27720)
        rw [hg, nf_scale (by omega) hg0]
      unfold s__law_small
      apply sq; intro T hT; simp [mkLst, dispLv, sc, f1']; subst hT
      rw [sF_ap]
      apply sq; intro T hT; simp [ixD_l i0, h2]; subst hT
      apply sq; intro T hT
      simp [ixD_l i0, h3, ixD_l i1, ixD_l i2, e]
    · refine go (some ((x1 - 7) * 27720)) ?_ (Bm.some (((smB (n := 8) (k := 4) (by omega) (by decide)).mul (smB (n := 27720) (k := 15) (by omega) (by decide))).mono (by omega))) (Sd.of (x := x1 - 7) (y := 1) (by decide) (by decide) (sm _ (by omega)) (sm _ (by decide)) (by rw [Int.mul_one]))
      have e : en 27720 (some ((x1 - 7) * 27720)) = pr (x1 - 7) 1 := by
        show nf ((x1 - 7) * 27720) 27720 = _
        rw [← nf_one, ← nf_scale (t := x1 - 7) (l := 1) (f := 27720) (by decide) (by decide)]
        rfl
      rw [e]
      unfold s__law_small
      apply sq; intro T hT; simp [mkLst, dispLv, sc, f1']; subst hT
      rw [sF_ap]
      apply sq; intro T hT; simp [ixD_l i0, h2]; subst hT
      apply sq; intro T hT; simp [ixD_l i0, h3]; subst hT
      simp [ixD_l i1]
end Lw

set_option Elab.async false
set_option linter.all false
set_option maxRecDepth 100000
set_option maxHeartbeats 1000000
namespace Lw
open PySem PySem.Spec PyProof.Rows L2 Ev
/-! ### rounds -/
def rnd (W : List (List OI)) (v : List OI) : Nat → List OI
  | 0 => v
  | k + 1 => nxt W (rnd W v k)
theorem rnd_len {W : List (List OI)} {v : List OI} (h : W.length = v.length) : ∀ k, (rnd W v k).length = v.length
  | 0 => rfl
  | k + 1 => by simp [rnd, nxt, h]
theorem rnd_bm {n : Nat} {W : List (List OI)} {v : List OI} (hW : BmW n W) (hv : BmV n v) : ∀ k, BmV (n + k) (rnd W v k)
  | 0 => hv
  | k + 1 => BmV.nxt (fun r hr => BmV.mono (hW r hr) (show n ≤ n + k by omega)) (rnd_bm hW hv k)
theorem nxt_zip {W : List (List OI)} {v : List OI} (h : ∀ r ∈ W, r.length = v.length) : nxt W v = W.map fun r => lat ((List.range v.length).map fun j => pls (ato r j) (ato v j)) := by
  unfold nxt
  refine List.map_congr_left fun r hr => ?_
  congr 1
  refine List.ext_getElem (by simp [h r hr]) fun i h1 h2 => ?_
  simp at h1 h2
  simp [ato, List.getD, List.getElem?_eq_getElem (show i < r.length by omega), List.getElem?_eq_getElem (show i < v.length by omega)]
variable {M : Int}
theorem c_lround (hM : GM M) {W : List (List OI)} {v : List OI} (hW : BmW 5000 W) (hv : BmV 5000 v) (hl : W.length ≤ 1000) (hl2 : v.length ≤ 1000) (hr : ∀ r ∈ W, r.length = v.length) : f__law_round [eW M W, eV M v] = .ok (none, eV M (nxt W v)) := by
  have hp : ∀ a b : OI, Sm a → Sm b → f__law_plus [en M a, en M b] = .ok (none, en M (pls a b)) := fun a b ha hb => c_lplus hM ha hb
  have hlat : ∀ u : List OI, SmV u → f__law_latest [eV M u] = .ok (none, en M (lat u)) := fun u hu => c_llatest hM hu
  refine runB_rt rfl ?_
  show s__law_round [.va (some 0) (eW M W), .va (some 0) (eV M v), .em, .em] = _
  unfold s__law_round
  have inner : ∀ r ∈ W, xLc c__law_round_0_i [2] (bd1 2) c__law_round_0_c c__law_round_0_x [.va (some 0) (eW M W), .va (some 0) (eV M v), .em, .va (some 0) (eV M r)] = .ok ⟨false, none, eV M ((List.range v.length).map fun j => pls (ato r j) (ato v j))⟩ := fun r hr' => by
    have := lc_map (ρ := [.va (some 0) (eW M W), .va (some 0) (eV M v), .em, .va (some 0) (eV M r)]) (xi := c__law_round_0_i) (own := [2]) (bd := bd1 2) (cc := c__law_round_0_c) (x := c__law_round_0_x) (List.range v.length) (fun j => ⟨false, none, .int (j : Nat)⟩) (fun j => en M (pls (ato r j) (ato v j)))
      (it_range1 (n := v.length) (bb := false) (k := none) (by simp) (by omega)) (by rw [List.length_range]; omega) fun j hj => by
        have hj := List.mem_range.mp hj
        have hj1 : j < r.length := by rw [hr r hr']; exact hj
        refine ⟨_, rfl, rfl, false, none, ?_, .inl flat_en⟩
        have h1 := hp (ato r j) (ato v j) ((hW r hr' _ (ato_mem hj1)).mono (by omega)) ((hv _ (ato_mem hj)).mono (by omega))
        simp [c__law_round_0_x, ix_o hj1, ix_o hj, h1]
    rw [this]
    simp [Function.comp_def]
  have outer := lc_map (ρ := [.va (some 0) (eW M W), .va (some 0) (eV M v), .em, .em]) (xi := c__law_round_1_i) (own := [3]) (bd := bd1 3) (cc := c__law_round_1_c) (x := c__law_round_1_x) W (fun r => ⟨false, some 0, eV M r⟩) (fun r => en M (lat ((List.range v.length).map fun j => pls (ato r j) (ato v j))))
    (it_rows (e_va rfl) (.inr rfl)) (by omega) fun r hr' => by
      refine ⟨_, rfl, rfl, false, none, ?_, .inl flat_en⟩
      refine call1 (inner r hr') (hlat _ fun m hm => ?_)
      obtain ⟨j, hj, rfl⟩ := List.mem_map.mp hm
      have hj := List.mem_range.mp hj
      have hj1 : j < r.length := by rw [hr r hr']; exact hj
      exact (Bm.pls (hW r hr' _ (ato_mem hj1)) (hv _ (ato_mem hj))).mono (by omega)
  rw [ap_ret, outer, nxt_zip hr]
  simp [Function.comp_def]
theorem c_round_after (hM : GM M) {W : List (List OI)} {v : List OI} (k : Nat) (hW : BmW 1000 W) (hv : BmV 1000 v) (hk : k ≤ 3500) (hl : W.length ≤ 1000) (hl2 : v.length ≤ 1000) : f_round_after [eW M W, eV M v, .int (k : Nat)] = .ok (none, eV M (rnd W v k)) := by
  have hn : ∀ u : List OI, BmV 4999 u → u.length ≤ 1000 → f_next_round [eW M W, eV M u] = .ok (none, eV M (nxt W u)) := fun u hu hlu => c_next_round hM (fun r hr => BmV.mono (hW r hr) (by omega)) (BmV.mono hu (by omega)) hl hlu
  refine runB_rt rfl ?_
  show s_round_after [.va (some 0) (eW M W), .va (some 0) (eV M v), .va (some 0) (.int k), .em, .em] = _
  unfold s_round_after
  have hlen : ∀ i, (rnd W v i).length ≤ 1000 := fun i => by
    cases i with
    | zero => exact hl2
    | succ i => simpa [rnd, nxt] using hl
  apply sqR; intro T R' hT hR
  simp [show ¬ ((k : Int) < 0) by omega]
  subst hT hR
  apply sqR; intro T R' hT hR
  have fv : flats (v.map (en M)) = true := flats_map fun _ => flat_en
  simp [mkListOf_f fv]
  subst hT hR
  apply sFq; intro T R' hT hR; simp; subst hT hR
  have L := sFor_steps (s := l_round_after_0_b) (xi := l_round_after_0_i) (bd := bd1 4) (List.range k) (fun i => ⟨false, none, .int (i : Nat)⟩) (fun i => [.va (some 0) (eW M W), .em, .va (some 0) (.int k), .va none (eV M (rnd W v i)), .em])
    (it_range1 (n := k) (bb := true) (k := some 0) rfl (by omega)) fun i e hi => by
      have hi' := (List.getElem?_eq_some_iff.mp hi).1
      rw [List.length_range] at hi'
      have h1 := hn (rnd W v i) (BmV.mono (rnd_bm hW hv i) (by omega)) (hlen i)
      have en' : rnd W v (i + 1) = nxt W (rnd W v i) := rfl
      refine ⟨_, rfl, .inl ?_⟩
      rw [en']
      unfold l_round_after_0_b
      apply sFq; intro T R' hT hR; simp; subst hT hR
      rw [ap_asg, call2 (u := ⟨true, some 0, eW M W⟩) (v := ⟨true, none, eV M (rnd W v i)⟩) rfl rfl h1]
      simp
  rw [List.length_range] at L
  refine (sSeq_nx L).trans ?_
  simp
theorem c_round_after_neg {d e : D} {k : Int} (hk : k < 0) : f_round_after [d, e, .int k] = .rz "OutOfRange" := by
  refine runB_rz (ρ' := [.va (some 0) d, .va (some 0) e, .va (some 0) (.int k), .em, .em]) rfl ?_
  show s_round_after [.va (some 0) d, .va (some 0) e, .va (some 0) (.int k), .em, .em] = _
  unfold s_round_after
  simp [hk]
/-! ### drawn vectors, drawn works: the denominator is 27720 -/
theorem gm27720 : GM 27720 := ⟨by decide, (smB (n := 27720) (k := 15) (by decide) (by decide)).mono (by omega)⟩
theorem nf_27720 {t l : Int} (h : l = 1 ∨ l = 2 ∨ l = 3 ∨ l = 4 ∨ l = 5 ∨ l = 6 ∨ l = 7 ∨ l = 8 ∨ l = 9 ∨ l = 10 ∨ l = 11 ∨ l = 12) : nf t l = en 27720 (some (t * (27720 / l))) := by
  have hg : 0 < 27720 / l ∧ l * (27720 / l) = 27720 ∧ 0 < l := by
    rcases h with rfl | rfl | rfl | rfl | rfl | rfl | rfl | rfl | rfl | rfl | rfl | rfl <;> decide
  show nf t l = nf (t * (27720 / l)) 27720
  conv => rhs; arg 2; rw [← hg.2.1]
  rw [nf_scale (by omega) hg.1]
theorem div27720 {l : Int} (h : 0 < l) : (27720 / l).natAbs ≤ 27720 := by
  have h1 : 0 ≤ 27720 / l := Int.ediv_nonneg (by decide) (by omega)
  have h2 : 27720 / l ≤ 27720 := Int.ediv_le_self _ (by decide)
  omega
theorem at_map {xs : List Int} {i : Nat} {x : Int} (h : xs[i]? = some x) : atI (xs.map PyData.int) (i : Int) = some (.int x) := Ev.atI_nat (by rw [List.getElem?_map, h]; rfl)
theorem c_lfinite (c : Int) (n : Nat) (hn : n ≤ 100) : ∃ v : List OI, f__law_finite [.int c, .int (n : Nat)] = .ok (none, eV 27720 v) ∧ v.length = n ∧ BmV 21 v ∧ (∀ m ∈ v, m.isSome = true) ∧ ∀ m ∈ v, Sd 6 27720 m := by
  obtain ⟨xs, f1, f2, f3⟩ := c_draws c (List.replicate n 41 ++ List.replicate n 6) (fun l hl => by
    simp at hl
    rcases hl with ⟨_, rfl⟩ | ⟨_, rfl⟩
    · exact ⟨by decide, (smB (n := 41) (k := 40) (by decide) (by decide)).mono (by omega)⟩
    · exact ⟨by decide, (smB (n := 6) (k := 40) (by decide) (by decide)).mono (by omega)⟩) (by simp; omega)
  have hlen : xs.length = n + n := by rw [f2]; simp
  have hy : ∀ j : Nat, ∃ y z : Int, j < n → (xs[j]? = some y ∧ xs[n + j]? = some z ∧ 0 ≤ y ∧ y < 41 ∧ 0 ≤ z ∧ z < 6) := fun j => by
    by_cases hj : j < n
    · have e1 : xs[j]? = some xs[j] := List.getElem?_eq_getElem (by omega)
      have e2 : xs[n + j]? = some xs[n + j] := List.getElem?_eq_getElem (by omega)
      have q1 := f3 j 41 _ (by rw [List.getElem?_append_left (by simpa using hj)]; simp [hj]) e1
      have q2 := f3 (n + j) 6 _ (by rw [List.getElem?_append_right (by simp)]; simp [hj]) e2
      exact ⟨_, _, fun _ => ⟨e1, e2, q1.1, q1.2, q2.1, q2.2⟩⟩
    · exact ⟨0, 0, fun h => absurd h hj⟩
  obtain ⟨yy, hy⟩ := Classical.skolem.mp hy
  obtain ⟨zz, hy⟩ := Classical.skolem.mp hy
  let lo : Nat → Int := fun j => if zz j = 0 then 2 else if zz j = 4 then 5 else if zz j = 5 then 9 else 1
  have hlo : ∀ j, lo j = 1 ∨ lo j = 2 ∨ lo j = 5 ∨ lo j = 9 := fun j => by
    show (if zz j = 0 then (2 : Int) else if zz j = 4 then 5 else if zz j = 5 then 9 else 1) = 1 ∨ (if zz j = 0 then (2 : Int) else if zz j = 4 then 5 else if zz j = 5 then 9 else 1) = 2 ∨ (if zz j = 0 then (2 : Int) else if zz j = 4 then 5 else if zz j = 5 then 9 else 1) = 5 ∨ (if zz j = 0 then (2 : Int) else if zz j = 4 then 5 else if zz j = 5 then 9 else 1) = 9
    split <;> (try split) <;> (try split) <;> simp
  have hnf : ∀ j, nf (yy j - 20) (lo j) = en 27720 (some ((yy j - 20) * (27720 / lo j))) := fun j => nf_27720 (by have := hlo j; omega)
  refine ⟨(List.range n).map fun j => some ((yy j - 20) * (27720 / lo j)), ?_, by simp, fun m hm => ?_, fun m hm => ?_, fun m hm => ?_⟩
  · refine runB_rt rfl ?_
    show s__law_finite [.va (some 0) (.int c), .va (some 0) (.int n), .em, .em] = _
    unfold s__law_finite
    have z1 := dMulV_1 (x := .int 41) (k := none) (bb := false) (b2 := true) (k2 := some 0) (n := n) rfl (by simp) (by omega)
    have z2 := dMulV_1 (x := .int 6) (k := none) (bb := false) (b2 := true) (k2 := some 0) (n := n) rfl (by simp) (by omega)
    have g1 : flats (List.replicate n (PyData.int 41)) = true := flats_all fun d hd => by rw [(List.mem_replicate.mp hd).2]; rfl
    have g2 : flats (List.replicate n (PyData.int 6)) = true := flats_all fun d hd => by rw [(List.mem_replicate.mp hd).2]; rfl
    have z3 := dAddV_f (bb := false) (k := none) (b2 := false) (k2 := none) g1 g2 (by simp; omega)
    have f1' : f__law_draws [.int c, .list (List.replicate n (.int 41) ++ List.replicate n (.int 6))] = .ok (none, .list (xs.map .int)) := by
      have e : (List.replicate n 41 ++ List.replicate n 6 : List Int).map PyData.int = List.replicate n (.int 41) ++ List.replicate n (.int 6) := by simp
      rw [← e]; exact f1
    apply sqR; intro T R' hT hR
    simp [mkLst, dispLv, sc, z1, z2, z3, f1']
    subst hT hR
    have := lc_map (ρ := [.va (some 0) (.int c), .va (some 0) (.int n), .va none (.list (xs.map .int)), .em]) (xi := c__law_finite_0_i) (own := [3]) (bd := bd1 3) (cc := c__law_finite_0_c) (x := c__law_finite_0_x) (List.range n) (fun j => ⟨false, none, .int (j : Nat)⟩) (fun j => nf (yy j - 20) (lo j))
      (it_range1 (n := n) (bb := true) (k := some 0) rfl (by omega)) (by rw [List.length_range]; omega) fun j hj => by
        obtain ⟨e1, e2, q1, q2, q3, q4⟩ := hy j (List.mem_range.mp hj)
        have a1 := at_map e1
        have a2 := at_map e2
        have a2' : atI (xs.map PyData.int) ((n : Int) + (j : Int)) = some (.int (zz j)) := by simpa using a2
        refine ⟨_, rfl, rfl, false, none, ?_, .inl flat_nf⟩
        have hl := hlo j
        have hf := c_lfraction (t := yy j - 20) (l := lo j) (by omega) (bd9 (smB (n := 30) (k := 5) (by omega) (by decide)) (by omega)) (bd9 (smB (n := 9) (k := 5) (by omega) (by decide)) (by omega))
        have ez : ∀ ρ : Rho, xA false mkLst [xCn (.int 2), xCn (.int 1), xCn (.int 1), xCn (.int 1), xCn (.int 5), xCn (.int 9)] ρ = .ok ⟨false, none, .list [.int 2, .int 1, .int 1, .int 1, .int 5, .int 9]⟩ := fun ρ => rfl
        have ei : ∀ (b2 : Bool) (k2 : Lv), ixD ⟨false, none, .list [.int 2, .int 1, .int 1, .int 1, .int 5, .int 9]⟩ ⟨b2, k2, .int (zz j)⟩ = .ok ⟨false, none, .int (lo j)⟩ := fun b2 k2 => by
          have : zz j = 0 ∨ zz j = 1 ∨ zz j = 2 ∨ zz j = 3 ∨ zz j = 4 ∨ zz j = 5 := by omega
          show _ = Res.ok (⟨false, none, .int (if zz j = 0 then (2 : Int) else if zz j = 4 then 5 else if zz j = 5 then 9 else 1)⟩ : BV)
          rcases this with h | h | h | h | h | h <;> rw [h] <;> rfl
        have e3 : x2 ixD (xA false mkLst [xCn (.int 2), xCn (.int 1), xCn (.int 1), xCn (.int 1), xCn (.int 5), xCn (.int 9)]) (x2 ixD (xVa 2) (x2 (pl dAdd) (xVa 1) (xVa 3))) [.va (some 0) (.int c), .va (some 0) (.int n), .va none (.list (xs.map .int)), .va none (.int (j : Nat))] = .ok ⟨false, none, .int (lo j)⟩ := by
          rw [ap_x2, ez, Res.bind_ok]
          simp [ixD_l a2', ei]
        have e4 : x2 (pl dSub) (x2 ixD (xVa 2) (xVa 3)) (xCn (.int 20)) [.va (some 0) (.int c), .va (some 0) (.int n), .va none (.list (xs.map .int)), .va none (.int (j : Nat))] = .ok ⟨false, none, .int (yy j - 20)⟩ := by
          simp [ixD_l a1]
        have e5 : fgt [3] [.va (some 0) (.int c), .va (some 0) (.int n), .va none (.list (xs.map .int)), .em] = [.va (some 0) (.int c), .va (some 0) (.int n), .va none (.list (xs.map .int)), .em] := by simp
        rw [e5]
        exact call2 e4 e3 hf
    rw [ap_ret, this]
    simp only [hnf, sr_ok, retR_list]
    show SR.rt none (.list _) = SR.rt none (.list _)
    rw [List.map_map]
    rfl
  · obtain ⟨j, hj, rfl⟩ := List.mem_map.mp hm
    obtain ⟨_, _, q1, q2, _⟩ := hy j (List.mem_range.mp hj)
    have hl := hlo j
    exact Bm.some (((smB (n := 20) (k := 5) (by omega) (by decide)).mul (smB (div27720 (l := lo j) (by omega)) (k := 15) (by decide))).mono (by omega))
  · obtain ⟨j, hj, rfl⟩ := List.mem_map.mp hm
    rfl
  · obtain ⟨j, hj, rfl⟩ := List.mem_map.mp hm
    obtain ⟨_, _, q1, q2, _⟩ := hy j (List.mem_range.mp hj)
    have hl := hlo j
    intro t e
    cases e
    have e2 : nf ((yy j - 20) * (27720 / lo j)) 27720 = nf (yy j - 20) (lo j) := (hnf j).symm
    rw [e2]
    exact nf_small (by omega) (smB (n := 20) (by omega) (by decide)) (smB (n := 9) (by omega) (by decide))
end Lw

set_option Elab.async false
set_option linter.all false
set_option maxRecDepth 100000
set_option maxHeartbeats 1000000
namespace Lw
open PySem PySem.Spec PyProof.Rows L2 Ev
theorem c_lvector (c : Int) (n : Nat) (hn : n ≤ 100) : ∃ v : List OI, f__law_vector [.int c, .int (n : Nat)] = .ok (none, eV 27720 v) ∧ v.length = n ∧ BmV 21 v ∧ ∀ m ∈ v, Sd 6 27720 m := by
  obtain ⟨xs, f1, f2, f3⟩ := c_draws c (List.replicate n 5) (fun l hl => by
    simp at hl
    obtain ⟨_, rfl⟩ := hl
    exact ⟨by decide, (smB (n := 5) (k := 40) (by decide) (by decide)).mono (by omega)⟩) (by simp; omega)
  have hlen : xs.length = n := by rw [f2]; simp
  obtain ⟨v, g1, g2, g3, g4, g5⟩ := c_lfinite (c.fdiv 7) n hn
  have hx : ∀ j : Nat, ∃ y : Int, j < n → xs[j]? = some y := fun j => by
    by_cases hj : j < n
    · exact ⟨xs[j], fun _ => List.getElem?_eq_getElem (by omega)⟩
    · exact ⟨0, fun h => absurd h hj⟩
  obtain ⟨yy, hx⟩ := Classical.skolem.mp hx
  refine ⟨(List.range n).map fun j => if yy j = 0 then none else ato v j, ?_, by simp, fun m hm => ?_, fun m hm => ?_⟩
  · refine runB_rt rfl ?_
    show s__law_vector [.va (some 0) (.int c), .va (some 0) (.int n), .em, .em, .em] = _
    unfold s__law_vector
    have z1 := dMulV_1 (x := .int 5) (k := none) (bb := false) (b2 := true) (k2 := some 0) (n := n) rfl (by simp) (by omega)
    have f1' : f__law_draws [.int c, .list (List.replicate n (.int 5))] = .ok (none, .list (xs.map .int)) := by
      have e : (List.replicate n 5 : List Int).map PyData.int = List.replicate n (.int 5) := by simp
      rw [← e]; exact f1
    apply sqR; intro T R' hT hR
    simp [mkLst, dispLv, sc, z1, f1']
    subst hT hR
    have d1 := dDiv_b (i := c) (j := 7) (n := 3) (by decide) (by unfold Bd; decide) (by omega)
    apply sqR; intro T R' hT hR
    simp [d1, g1]
    subst hT hR
    rw [sH_ap]
    simp only [shN_cs, shN_nl]
    rw [shN1_of (i := 3) rfl, if_neg (by simp)]
    simp only [List.set_cons_succ, List.set_cons_zero]
    have := lc_map (ρ := [.va (some 0) (.int c), .va (some 0) (.int n), .va none (.list (xs.map .int)), .va (some 0) (eV 27720 v), .em]) (xi := c__law_vector_0_i) (own := [4]) (bd := bd1 4) (cc := c__law_vector_0_c) (x := c__law_vector_0_x) (List.range n) (fun j => ⟨false, none, .int (j : Nat)⟩) (fun j => en 27720 (if yy j = 0 then none else ato v j))
      (it_range1 (n := n) (bb := true) (k := some 0) rfl (by omega)) (by rw [List.length_range]; omega) fun j hj => by
        have hj := List.mem_range.mp hj
        have a1 := at_map (hx j hj)
        have hjv : j < v.length := by omega
        refine ⟨_, rfl, rfl, false, none, ?_, .inl flat_en⟩
        have e5 : fgt [4] [.va (some 0) (.int c), .va (some 0) (.int n), .va none (.list (xs.map .int)), .va (some 0) (eV 27720 v), .em] = [.va (some 0) (.int c), .va (some 0) (.int n), .va none (.list (xs.map .int)), .va (some 0) (eV 27720 v), .em] := by simp
        rw [e5]
        have e1 : xA true mkLst [x2 ixD (xVa 3) (xVa 4), xCn .none] [.va (some 0) (.int c), .va (some 0) (.int n), .va none (.list (xs.map .int)), .va (some 0) (eV 27720 v), .va none (.int (j : Nat))] = .ok ⟨false, none, .list [en 27720 (ato v j), .none]⟩ := by
          simp [ix_o hjv, mkLst, dispLv, sc]
        have e2 : xA true (b1 dInt) [x2 (pl dEq) (x2 ixD (xVa 2) (xVa 4)) (xCn (.int 0))] [.va (some 0) (.int c), .va (some 0) (.int n), .va none (.list (xs.map .int)), .va (some 0) (eV 27720 v), .va none (.int (j : Nat))] = .ok ⟨false, none, .int (if yy j = 0 then 1 else 0)⟩ := by
          simp [ixD_l a1]
        show x2 ixD _ _ [.va (some 0) (.int c), .va (some 0) (.int n), .va none (.list (xs.map .int)), .va (some 0) (eV 27720 v), .va none (.int (j : Nat))] = _
        rw [ap_x2, e1, Res.bind_ok, e2, Res.bind_ok]
        by_cases hy : yy j = 0
        · rw [if_pos hy, if_pos hy]; rfl
        · rw [if_neg hy, if_neg hy]
          rw [ixD_l (d := en 27720 (ato v j)) rfl, pick_flat flat_en]
    rw [ap_ret, this]
    show SR.rt none (.list _) = SR.rt none (.list _)
    rw [List.map_map]
    rfl
  · obtain ⟨j, hj, rfl⟩ := List.mem_map.mp hm
    have hj := List.mem_range.mp hj
    split
    · exact Bm.none
    · exact g3 _ (ato_mem (by omega))
  · obtain ⟨j, hj, rfl⟩ := List.mem_map.mp hm
    have hj := List.mem_range.mp hj
    split
    · exact Sd.none
    · exact g5 _ (ato_mem (by omega))
/-! ### drawn works -/
structure Wk (n : Nat) (W : List (List OI)) : Prop where
  l : W.length = n
  r : ∀ r ∈ W, r.length = n
  b : BmW 52 W
  s : ∀ r ∈ W, ∀ m ∈ r, Sd 38 27720 m
def setW (W : List (List OI)) (i j : Nat) (m : OI) : List (List OI) := W.set i ((rwo W i).set j m)
theorem Wk.set {n : Nat} {W : List (List OI)} (h : Wk n W) (i j : Nat) (hi : i < n) : Wk n (setW W i j none) := by
  have hm : ∀ r ∈ setW W i j none, r ∈ W ∨ r = (rwo W i).set j none := fun r hr => by
    rcases List.mem_or_eq_of_mem_set hr with hr | hr
    · exact .inl hr
    · exact .inr hr
  have hrow : rwo W i ∈ W := rwo_mem (by rw [h.l]; exact hi)
  have hin : ∀ m ∈ (rwo W i).set j none, m ∈ rwo W i ∨ m = none := fun m hm => List.mem_or_eq_of_mem_set hm
  refine ⟨by simp [setW, h.l], fun r hr => ?_, fun r hr m hm' => ?_, fun r hr m hm' => ?_⟩
  · rcases hm r hr with hr | rfl
    · exact h.r r hr
    · rw [List.length_set]; exact h.r _ hrow
  · rcases hm r hr with hr | rfl
    · exact h.b r hr m hm'
    · rcases hin m hm' with h' | rfl
      · exact h.b _ hrow m h'
      · exact Bm.none
  · rcases hm r hr with hr | rfl
    · exact h.s r hr m hm'
    · rcases hin m hm' with h' | rfl
      · exact h.s _ hrow m h'
      · exact Sd.none
theorem eW_set {M : Int} {W : List (List OI)} {i j : Nat} {m : OI} (hi : i < W.length) : (W.map fun r => PyData.list (r.map (en M))).set i (.list (((rwo W i).map (en M)).set j (en M m))) = (setW W i j m).map fun r => .list (r.map (en M)) := by
  unfold setW
  rw [List.map_set, List.map_set]
theorem Sd.mulk {n k : Nat} {M t c : Int} (hM : 0 < M) (h : Sd n M (some t)) (hc : Bd k c) : Sd (n + k) M (some (t * c)) := by
  obtain ⟨p, q, e, b1, b2⟩ := h t rfl
  obtain ⟨h1, hq⟩ := pos_parts hM e
  refine Sd.of hM hq (b1.mul hc) (b2.mono (by omega)) ?_
  rw [Int.mul_right_comm, h1, Int.mul_right_comm]
end Lw

set_option Elab.async false
set_option linter.all false
set_option maxRecDepth 100000
set_option maxHeartbeats 1000000
namespace Lw
open PySem PySem.Spec PyProof.Rows L2 Ev
def numW (cells : List Int) (a : Nat) : Int := if 0 < cells.length then cells.getD (a % cells.length) 0 + 31 * (a / cells.length : Nat) * 7 else 31 * (a : Int)
def mulO (f : Int) (m : OI) : OI := m.map fun t => t * f
theorem c_ltimesO {M k : Int} {m : OI} (hM : GM M) (ha : Bm 5500 m) (hk : Bd 3000 k) (hs : m.isSome = true) : f__law_times [en M m, .int k] = .ok (none, en M (mulO k m)) := by
  cases m with
  | none => cases hs
  | some t => exact c_ltimes hM ha.get hk
theorem lwork_cell (cells : List Int) (hc : cells.length ≤ 63) (L : List D) (f o : Int) (hf : Bd 31 f) (so : Int → OI) (hso : ∀ c, f__law_small [.int c, .int o] = .ok (none, en 27720 (so c)) ∧ Bm 19 (so c) ∧ Sd 7 27720 (so c)) (n i j : Nat) (hn : n ≤ 12) (hi : i < n) (hj : j < n) (ws ds : List D) (hsz : ds.length < sizeLine) :
    l__law_work_1_b [.em, .va (some 0) (.list (cells.map .int)), .em, .va none (.list L), .va none (.int f), .va none (.int n), .va none (.int o), .va none (.list ws), .va none (.int i), .va none (.list ds), .va none (.int j), .em, .em, .em]
    = .nx [.em, .va (some 0) (.list (cells.map .int)), .em, .va none (.list L), .va none (.int f), .va none (.int n), .va none (.int o), .va none (.list ws), .va none (.int i), .va none (.list (ds ++ [en 27720 (mulO f (so (numW cells (i * n + j))))])), .em, .em, .em, .em] := by
  have hat : i * n + j < 144 := by
    have : i * n ≤ 11 * 12 := Nat.mul_le_mul (by omega) hn
    omega
  have m1 : dMul (.int i) (.int n) = .ok (.int ((i * n : Nat) : Int)) := by
    rw [mul_sm (by omega) (by omega), Int.natCast_mul]
  have m2 : dMul (.int 31) (.int ((i * n + j : Nat) : Int)) = .ok (.int (31 * ((i * n + j : Nat) : Int))) := mul_sm (by decide) (by omega)
  generalize hA : i * n + j = a at hat m2 ⊢
  unfold l__law_work_1_b
  apply sqR; intro T R' hT hR
  have e1 : ((i * n : Nat) : Int) + (j : Int) = (a : Int) := by omega
  simp [m1]
  rw [show ((i : Int) * (n : Int) + (j : Int)) = (a : Int) by rw [← hA]; simp]
  subst hT hR
  apply sFq; intro T R' hT hR; simp; subst hT hR
  apply sqR; intro T R' hT hR
  simp [m2]
  subst hT hR
  apply sqR; intro T R' hT hR
  have hnum : sIf (xTb (x2 (pl dGt) (xA true (b1 dLen) [xVa 1]) (xCn (.int 0)))) (sF [12] (sSeq (sAsg 12 (x2 (pl dAdd) (xA true (b1 dInt) [x2 ixD (xVa 1) (x2 (pl dMod) (xVa 11) (xA true (b1 dLen) [xVa 1]))]) (x2 (pl dMul) (x2 (pl dMul) (xCn (.int 31)) (x2 (pl dDiv) (xVa 11) (xA true (b1 dLen) [xVa 1]))) (xCn (.int 7))))) (sF [11] (sNil)))) (sF [11] (sNil))
      [.em, .va (some 0) (.list (cells.map .int)), .em, .va none (.list L), .va none (.int f), .va none (.int n), .va none (.int o), .va none (.list ws), .va none (.int i), .va none (.list ds), .em, .va none (.int a), .va none (.int (31 * (a : Int))), .em] = .nx [.em, .va (some 0) (.list (cells.map .int)), .em, .va none (.list L), .va none (.int f), .va none (.int n), .va none (.int o), .va none (.list ws), .va none (.int i), .va none (.list ds), .em, .em, .va none (.int (numW cells a)), .em] := by
    by_cases h0 : 0 < cells.length
    · have hm : dMod (.int a) (.int (cells.length : Nat)) = .ok (.int ((a % cells.length : Nat) : Int)) := by
        rw [dMod_i (by omega), Int.fmod_eq_emod_of_nonneg _ (by omega)]
        rfl
      have hd : dDiv (.int a) (.int (cells.length : Nat)) = .ok (.int ((a / cells.length : Nat) : Int)) := by
        rw [dDiv_b (n := 7) (by omega) (smB (n := 63) (by omega) (by decide)) (by omega), Int.fdiv_eq_ediv_of_nonneg _ (by omega)]
        rfl
      have hlt : a % cells.length < cells.length := Nat.mod_lt _ h0
      have hix : atI (cells.map PyData.int) ((a % cells.length : Nat) : Int) = some (.int (cells.getD (a % cells.length) 0)) := atI_n rfl hlt
      obtain ⟨q, hqe, hq⟩ : ∃ q : Nat, a / cells.length = q ∧ q ≤ 143 := ⟨_, rfl, Nat.le_trans (Nat.div_le_self _ _) (by omega)⟩
      have en' : numW cells a = cells.getD (a % cells.length) 0 + 31 * (a / cells.length : Nat) * 7 := if_pos h0
      rw [hqe] at hd en'
      have m3 : dMul (.int 31) (.int (q : Int)) = .ok (.int (31 * (q : Int))) := mul_sm (by decide) (by omega)
      have m4 : dMul (.int (31 * (q : Int))) (.int 7) = .ok (.int (31 * (q : Int) * 7)) := mul_sm (by omega) (by decide)
      rw [if_tt (by simp [h0]), en']
      generalize cells.getD (a % cells.length) 0 = y at *
      generalize (a % cells.length : Nat) = r at *
      apply sFq; intro T R' hT hR; simp; subst hT hR
      apply sqR; intro T R' hT hR
      simp [hm, hd, ixD_l hix, m3, m4]
      subst hT hR
      simp
    · have en' : numW cells a = 31 * (a : Int) := if_neg h0
      have h0' : cells.length = 0 := by omega
      rw [if_ff (by simp [h0']), en']
      simp
  rw [hnum]
  simp
  subst hT hR
  generalize numW cells a = num
  obtain ⟨s1, s2, s3⟩ := hso num
  apply sqR; intro T R' hT hR
  rw [ap_asg, call2 (u := ⟨true, none, .int num⟩) (v := ⟨true, none, .int o⟩) rfl rfl s1]
  simp
  subst hT hR
  apply sFq; intro T R' hT hR; simp; subst hT hR
  apply sqR; intro T R' hT hR
  cases hso' : so num with
  | none =>
    rw [if_ff (by simp [en])]
    simp
    subst hT hR
    rw [appM_flat (i := 9) (j := 13) rfl rfl flat_en (by decide) (by decide) hsz]
    simp [mulO, hso']
  | some t =>
    rw [hso'] at s2
    have ht := c_ltimesO (m := some t) gm27720 (s2.mono (by omega)) (hf.mono (by omega)) rfl
    rw [if_tt (by simp), ap_asg, call2 (u := ⟨true, none, en 27720 (some t)⟩) (v := ⟨true, none, .int f⟩) rfl rfl ht]
    simp
    subst hT hR
    rw [appM_flat (i := 9) (j := 13) rfl rfl flat_en (by decide) (by decide) hsz]
    simp [hso']
/-- a drawn work -/
theorem c_lwork (c : Int) (cells : List Int) (hc : cells.length ≤ 63) (most : Nat) (h1 : 1 ≤ most) (hm : most ≤ 12) : ∃ (n : Nat) (W : List (List OI)), f__law_work [.int c, .list (cells.map .int), .int (most : Nat)] = .ok (none, eW 27720 W) ∧ 1 ≤ n ∧ n ≤ most ∧ Wk n W := by
  obtain ⟨xs, f1, f2, f3⟩ := c_draws c [(most : Int), 10, 4, 6, 1000000000] (fun l hl => by
    simp at hl
    have : Bd 8000 l ∧ 0 < l := by
      rcases hl with rfl | rfl | rfl | rfl | rfl <;> exact ⟨(smB (n := 1000000000) (k := 40) (by omega) (by decide)).mono (by omega), by omega⟩
    exact ⟨this.2, this.1⟩) (by simp)
  match xs, f2 with
  | [x0, x1, x2', x3, x4], _ =>
  have q0 := f3 0 most x0 rfl rfl
  have q1 := f3 1 10 x1 rfl rfl
  have q2 := f3 2 4 x2' rfl rfl
  have q3 := f3 3 6 x3 rfl rfl
  have q4 := f3 4 1000000000 x4 rfl rfl
  have i0 : atI [PyData.int x0, .int x1, .int x2', .int x3, .int x4] 0 = some (.int x0) := rfl
  have i1 : atI [PyData.int x0, .int x1, .int x2', .int x3, .int x4] 1 = some (.int x1) := rfl
  have i2 : atI [PyData.int x0, .int x1, .int x2', .int x3, .int x4] 2 = some (.int x2') := rfl
  have i3 : atI [PyData.int x0, .int x1, .int x2', .int x3, .int x4] 3 = some (.int x3) := rfl
  have i4 : atI [PyData.int x0, .int x1, .int x2', .int x3, .int x4] 4 = some (.int x4) := rfl
  have f1' : f__law_draws [.int c, .list [.int most, .int 10, .int 4, .int 6, .int 1000000000]] = .ok (none, .list [.int x0, .int x1, .int x2', .int x3, .int x4]) := f1
  have hfl : flats [PyData.int x0, .int x1, .int x2', .int x3, .int x4] = true := rfl
  generalize [PyData.int x0, .int x1, .int x2', .int x3, .int x4] = L at f1' i0 i1 i2 i3 i4 hfl
  obtain ⟨n, hn⟩ : ∃ n : Nat, 1 + x0 = (n : Int) := ⟨(1 + x0).toNat, by omega⟩
  -- the factor
  have hmod0 : 0 ≤ x4.fmod 500 := Int.fmod_nonneg_of_pos _ (by decide)
  have hmod1 : x4.fmod 500 < 500 := Int.fmod_lt_of_pos _ (by decide)
  obtain ⟨f, hf, ef⟩ : ∃ f : Int, Bd 31 f ∧ ixD ⟨false, none, .list [.int 1, .int 1, .int 1, .int 1, .int (1 + x4.fmod 500), .int (1 + x4)]⟩ ⟨false, none, .int x3⟩ = .ok ⟨false, none, .int f⟩ := by
    have : x3 = 0 ∨ x3 = 1 ∨ x3 = 2 ∨ x3 = 3 ∨ x3 = 4 ∨ x3 = 5 := by omega
    have b1 : Bd 31 1 := by unfold Bd; decide
    rcases this with rfl | rfl | rfl | rfl | rfl | rfl
    · exact ⟨1, b1, rfl⟩
    · exact ⟨1, b1, rfl⟩
    · exact ⟨1, b1, rfl⟩
    · exact ⟨1, b1, rfl⟩
    · exact ⟨1 + x4.fmod 500, smB (n := 1000) (by omega) (by decide), rfl⟩
    · exact ⟨1 + x4, smB (n := 1000000000) (by omega) (by decide), rfl⟩
  obtain ⟨o, eo⟩ : ∃ o : Int, ixD ⟨false, none, .list [.int 0, .int 2, .int 4, .int 5, .int 6, .int 7, .int 7, .int 8, .int 5, .int 3]⟩ ⟨false, none, .int x1⟩ = .ok ⟨false, none, .int o⟩ := by
    have : x1 = 0 ∨ x1 = 1 ∨ x1 = 2 ∨ x1 = 3 ∨ x1 = 4 ∨ x1 = 5 ∨ x1 = 6 ∨ x1 = 7 ∨ x1 = 8 ∨ x1 = 9 := by omega
    rcases this with rfl | rfl | rfl | rfl | rfl | rfl | rfl | rfl | rfl | rfl <;> exact ⟨_, rfl⟩
  obtain ⟨so, hso⟩ : ∃ so : Int → OI, ∀ c, f__law_small [.int c, .int o] = .ok (none, en 27720 (so c)) ∧ Bm 19 (so c) ∧ Sd 7 27720 (so c) := Classical.skolem.mp fun c => c_small c o
  have hn12 : n ≤ 12 := by omega
  let W0 : List (List OI) := (List.range n).map fun i => (List.range n).map fun j => mulO f (so (numW cells (i * n + j)))
  have hW0 : Wk n W0 := by
    refine ⟨by simp [W0], fun r hr => ?_, fun r hr m hm' => ?_, fun r hr m hm' => ?_⟩
    · obtain ⟨i, _, rfl⟩ := List.mem_map.mp hr
      simp
    · obtain ⟨i, _, rfl⟩ := List.mem_map.mp hr
      obtain ⟨j, _, rfl⟩ := List.mem_map.mp hm'
      have h := (hso (numW cells (i * n + j))).2.1
      cases hs : so (numW cells (i * n + j)) with
      | none => exact Bm.none
      | some t =>
        rw [hs] at h
        exact Bm.some ((h.get.mul hf).mono (by omega))
    · obtain ⟨i, _, rfl⟩ := List.mem_map.mp hr
      obtain ⟨j, _, rfl⟩ := List.mem_map.mp hm'
      have h := (hso (numW cells (i * n + j))).2.2
      cases hs : so (numW cells (i * n + j)) with
      | none => exact Sd.none
      | some t =>
        rw [hs] at h
        exact Sd.mulk (by decide) h hf
  have inner : ∀ (ws : List D) (i : Nat), i < n → sFor l__law_work_1_i (bd1 10) l__law_work_1_b [.em, .va (some 0) (.list (cells.map .int)), .em, .va none (.list L), .va none (.int f), .va none (.int n), .va none (.int o), .va none (.list ws), .va none (.int i), .va none (.list []), .em, .em, .em, .em]
      = .nx [.em, .va (some 0) (.list (cells.map .int)), .em, .va none (.list L), .va none (.int f), .va none (.int n), .va none (.int o), .va none (.list ws), .va none (.int i), .va none (.list ((List.range n).map fun j => en 27720 (mulO f (so (numW cells (i * n + j)))))), .em, .em, .em, .em] := fun ws i hi =>
    sFor_app (s := l__law_work_1_b) (xi := l__law_work_1_i) (bd := bd1 10) (List.range n) (fun j => ⟨false, none, .int (j : Nat)⟩) (fun ds => [.em, .va (some 0) (.list (cells.map .int)), .em, .va none (.list L), .va none (.int f), .va none (.int n), .va none (.int o), .va none (.list ws), .va none (.int i), .va none (.list ds), .em, .em, .em, .em]) (fun j => en 27720 (mulO f (so (numW cells (i * n + j)))))
      (it_range1 (n := n) (bb := true) (k := none) rfl (by omega)) (by rw [List.length_range]; omega) fun ds j hj hsz =>
        ⟨_, rfl, .inl (lwork_cell cells hc L f o hf so hso n i j hn12 hi (List.mem_range.mp hj) ws ds hsz)⟩
  have L0 := sFor_app (s := l__law_work_0_b) (xi := l__law_work_0_i) (bd := bd1 8) (List.range n) (fun j => ⟨false, none, .int (j : Nat)⟩) (fun ws => [.em, .va (some 0) (.list (cells.map .int)), .em, .va none (.list L), .va none (.int f), .va none (.int n), .va none (.int o), .va none (.list ws), .em, .em, .em, .em, .em, .em]) (fun i => .list ((List.range n).map fun j => en 27720 (mulO f (so (numW cells (i * n + j))))))
      (it_range1 (n := n) (bb := true) (k := none) rfl (by omega)) (by rw [List.length_range]; omega) fun ws i hi hsz => by
        refine ⟨_, rfl, .inl ?_⟩
        unfold l__law_work_0_b
        apply sqR; intro T R' hT hR; simp [mkLst, dispLv, sc]; subst hT hR
        refine (sSeq_nx (inner ws i (List.mem_range.mp hi))).trans ?_
        apply sFq; intro T R' hT hR; simp; subst hT hR
        rw [appM_new (i := 7) (j := 9) rfl rfl (by simp) (by decide) hsz]
        simp
  have eW0 : (List.range n).map (fun i => PyData.list ((List.range n).map fun j => en 27720 (mulO f (so (numW cells (i * n + j)))))) = W0.map fun r => .list (r.map (en 27720)) := by
    simp [W0, Function.comp_def]
  rw [eW0] at L0
  -- the upper part is emptied
  have turn : ∀ (W : List (List OI)) (i j : Nat), Wk n W → i < n → j < n → l__law_work_3_b [.em, .em, .em, .em, .em, .va none (.int n), .em, .va none (eW 27720 W), .va none (.int i), .em, .va none (.int j), .em, .em, .em] = .nx [.em, .em, .em, .em, .em, .va none (.int n), .em, .va none (eW 27720 (if i < j then setW W i j none else W)), .va none (.int i), .em, .em, .em, .em, .em] := fun W i j hW hi hj => by
    unfold l__law_work_3_b
    by_cases hij : i < j
    · rw [if_pos hij, if_tt (by simp [hij])]
      have hiW : i < W.length := by rw [hW.l]; exact hi
      have hrow : (W.map fun r => PyData.list (r.map (en 27720)))[i]? = some (.list ((rwo W i).map (en 27720))) := by
        rw [List.getElem?_map, List.getElem?_eq_getElem hiW]
        simp [rwo, List.getD, List.getElem?_eq_getElem hiW]
      have hp : xPlIx (xPl 7) (xVa 8) [.em, .em, .em, .em, .em, .va none (.int n), .em, .va none (eW 27720 W), .va none (.int i), .em, .va none (.int j), .em, .em, .em] = .ok (7, [i]) := plIx_of (k := none) (bb := true) (kk := none) rfl rfl (by simpa using hiW)
      refine (sSeq_nx (sAl_of hp (by simp) (by simp))).trans ?_
      apply sqR; intro T R' hT hR
      rw [sSet_item (w := 7) (n := i) (m := j) (k := none) (ds := W.map fun r => .list (r.map (en 27720))) (es := (rwo W i).map (en 27720)) (v := .none) (b1 := true) (b2 := false) (k1 := none) (k2 := none) (by simp) (pl_al (by simp)) hrow (by simp [pd]) (by rw [List.length_map, hW.r _ (rwo_mem hiW)]; exact hj) (by simp) rfl rfl]
      have e2 := eW_set (M := 27720) (m := none) (j := j) hiW
      simp only [en] at e2
      rw [e2]
      simp
      subst hT hR
      simp
    · rw [if_neg hij, if_ff (by simp; omega)]
      simp
  have loop3 : ∀ (W : List (List OI)) (i : Nat), Wk n W → i < n → ∃ W', Wk n W' ∧ sFor l__law_work_3_i (bd1 10) l__law_work_3_b [.em, .em, .em, .em, .em, .va none (.int n), .em, .va none (eW 27720 W), .va none (.int i), .em, .em, .em, .em, .em] = .nx [.em, .em, .em, .em, .em, .va none (.int n), .em, .va none (eW 27720 W'), .va none (.int i), .em, .em, .em, .em, .em] := fun W i hW hi => by
    have := sFor_fold (s := l__law_work_3_b) (xi := l__law_work_3_i) (bd := bd1 10) (List.range n) (fun j => ⟨false, none, .int (j : Nat)⟩) (fun W => [.em, .em, .em, .em, .em, .va none (.int n), .em, .va none (eW 27720 W), .va none (.int i), .em, .em, .em, .em, .em]) (fun W j => if i < j then setW W i j none else W) (Wk n) W
      (it_range1 (n := n) (bb := true) (k := none) rfl (by omega)) hW fun W j hj hW => ⟨⟨_, rfl, .inl (turn W i j hW hi (List.mem_range.mp hj))⟩, by split <;> first | exact hW.set i j hi | exact hW⟩
    exact ⟨_, this.2, this.1⟩
  obtain ⟨g, hg⟩ : ∃ g : List (List OI) → Nat → List (List OI), ∀ W i, Wk n W → i < n → Wk n (g W i) ∧ sFor l__law_work_3_i (bd1 10) l__law_work_3_b [.em, .em, .em, .em, .em, .va none (.int n), .em, .va none (eW 27720 W), .va none (.int i), .em, .em, .em, .em, .em] = .nx [.em, .em, .em, .em, .em, .va none (.int n), .em, .va none (eW 27720 (g W i)), .va none (.int i), .em, .em, .em, .em, .em] := by
    have h : ∀ W i, ∃ W', Wk n W → i < n → Wk n W' ∧ sFor l__law_work_3_i (bd1 10) l__law_work_3_b [.em, .em, .em, .em, .em, .va none (.int n), .em, .va none (eW 27720 W), .va none (.int i), .em, .em, .em, .em, .em] = .nx [.em, .em, .em, .em, .em, .va none (.int n), .em, .va none (eW 27720 W'), .va none (.int i), .em, .em, .em, .em, .em] := fun W i => by
      by_cases hW : Wk n W ∧ i < n
      · obtain ⟨W', h1, h2⟩ := loop3 W i hW.1 hW.2
        exact ⟨W', fun _ _ => ⟨h1, h2⟩⟩
      · exact ⟨W, fun a b => absurd ⟨a, b⟩ hW⟩
    obtain ⟨g, hg⟩ := Classical.skolem.mp fun W => Classical.skolem.mp (h W)
    exact ⟨g, hg⟩
  have L2' := sFor_fold (s := l__law_work_2_b) (xi := l__law_work_2_i) (bd := bd1 8) (List.range n) (fun j => ⟨false, none, .int (j : Nat)⟩) (fun W => [.em, .em, .em, .em, .em, .va none (.int n), .em, .va none (eW 27720 W), .em, .em, .em, .em, .em, .em]) g (Wk n) W0
      (it_range1 (n := n) (bb := true) (k := none) rfl (by omega)) hW0 fun W i hi hW => by
        have hi := List.mem_range.mp hi
        obtain ⟨a1, a2⟩ := hg W i hW hi
        refine ⟨⟨_, rfl, .inl ?_⟩, a1⟩
        unfold l__law_work_2_b
        refine (sSeq_nx a2).trans ?_
        simp
  have pw9 : dPow (.int 10) (.int 9) = .ok (.int 1000000000) := by kernel_rfl
  have start : ∀ (W : List (List OI)), Wk n W → (x2' = 0 → W = (List.range n).foldl g W0) → (x2' ≠ 0 → W = W0) → s__law_work [.va (some 0) (.int c), .va (some 0) (.list (cells.map .int)), .va (some 0) (.int most), .em, .em, .em, .em, .em, .em, .em, .em, .em, .em, .em] = .rt none (eW 27720 W) := fun W hW h0 h0' => by
    unfold s__law_work
    apply sqR; intro T R' hT hR; simp [mkLst, dispLv, sc, pw9, f1']; subst hT hR
    apply sFq; intro T R' hT hR; simp; subst hT hR
    have ez : ∀ ρ : Rho, xVa 3 ρ = .ok ⟨true, none, .list L⟩ → x2 ixD (xA false mkLst [xCn (.int 1), xCn (.int 1), xCn (.int 1), xCn (.int 1), x2 (pl dAdd) (xCn (.int 1)) (x2 (pl dMod) (xA true (b1 dInt) [x2 ixD (xVa 3) (xCn (.int 4))]) (xCn (.int 500))), x2 (pl dAdd) (xCn (.int 1)) (x2 ixD (xVa 3) (xCn (.int 4)))]) (x2 ixD (xVa 3) (xCn (.int 3))) ρ = .ok ⟨false, none, .int f⟩ := fun ρ h3 => by
      have e1 : xA false mkLst [xCn (.int 1), xCn (.int 1), xCn (.int 1), xCn (.int 1), x2 (pl dAdd) (xCn (.int 1)) (x2 (pl dMod) (xA true (b1 dInt) [x2 ixD (xVa 3) (xCn (.int 4))]) (xCn (.int 500))), x2 (pl dAdd) (xCn (.int 1)) (x2 ixD (xVa 3) (xCn (.int 4)))] ρ = .ok ⟨false, none, .list [.int 1, .int 1, .int 1, .int 1, .int (1 + x4.fmod 500), .int (1 + x4)]⟩ := by
        have hd : dMod (.int x4) (.int 500) = .ok (.int (x4.fmod 500)) := dMod_i (by decide)
        simp only [ap_xA, evA_cons, ap_cn, Res.bind_ok, settle_i, ap_x2, h3, ixD_l i4, pick_flat flat_i, evA_nil, b1_ap, dInt_i, pl_ap, hd, dAdd_i]
        rfl
      rw [ap_x2, e1, Res.bind_ok, ap_x2, h3, Res.bind_ok, ap_cn, Res.bind_ok, ixD_l i3, pick_flat flat_i, Res.bind_ok, ef]
    apply sqR; intro T R' hT hR; rw [ap_asg, ez _ rfl]; simp; subst hT hR
    apply sqR; intro T R' hT hR; simp [ixD_l i0, hn]; subst hT hR
    rw [sH_ap]
    simp only [shN_cs, shN_nl]
    rw [shN1_of (i := 5) rfl, if_pos (by simp)]
    have eo2 : ∀ ρ : Rho, xVa 3 ρ = .ok ⟨true, none, .list L⟩ → x2 ixD (xA false mkLst [xCn (.int 0), xCn (.int 2), xCn (.int 4), xCn (.int 5), xCn (.int 6), xCn (.int 7), xCn (.int 7), xCn (.int 8), xCn (.int 5), xCn (.int 3)]) (x2 ixD (xVa 3) (xCn (.int 1))) ρ = .ok ⟨false, none, .int o⟩ := fun ρ h3 => by
      have e1 : xA false mkLst [xCn (.int 0), xCn (.int 2), xCn (.int 4), xCn (.int 5), xCn (.int 6), xCn (.int 7), xCn (.int 7), xCn (.int 8), xCn (.int 5), xCn (.int 3)] ρ = .ok ⟨false, none, .list [.int 0, .int 2, .int 4, .int 5, .int 6, .int 7, .int 7, .int 8, .int 5, .int 3]⟩ := rfl
      rw [ap_x2, e1, Res.bind_ok, ap_x2, h3, Res.bind_ok, ap_cn, Res.bind_ok, ixD_l i1, pick_flat flat_i, Res.bind_ok, eo]
    apply sqR; intro T R' hT hR; rw [ap_asg, eo2 _ rfl]; simp; subst hT hR
    apply sqR; intro T R' hT hR; simp [mkLst, dispLv, sc]; subst hT hR
    refine (sSeq_nx L0).trans ?_
    apply sFq; intro T R' hT hR; simp; subst hT hR
    apply sqR; intro T R' hT hR
    by_cases hx : x2' = 0
    · rw [if_tt (by simp [ixD_l i2, hx])]
      have := L2'.1
      rw [← h0 hx] at this
      simp [this]
      subst hT hR
      simp
    · rw [if_ff (by simp [ixD_l i2, hx])]
      simp
      subst hT hR
      rw [h0' hx]
      simp
  by_cases hx : x2' = 0
  · exact ⟨n, _, runB_rt rfl (start _ L2'.2 (fun _ => rfl) fun h => absurd hx h), by omega, by omega, L2'.2⟩
  · exact ⟨n, W0, runB_rt rfl (start _ hW0 (fun h => absurd h hx) fun _ => rfl), by omega, by omega, hW0⟩
end Lw

set_option Elab.async false
set_option linter.all false
set_option maxRecDepth 100000
set_option maxHeartbeats 400000
namespace Ev
open PySem PySem.Spec PyProof.Rows L2
/-! ### the algebra of moments -/
def le (a b : OI) : Prop := lts b a = false
theorem le_none {a : OI} : le none a := by unfold le; cases a <;> rfl
theorem some_le_none {s : Int} : ¬ le (some s) none := by unfold le; simp [lts]
theorem some_le {s t : Int} : le (some s) (some t) ↔ s ≤ t := by unfold le; simp [lts]
theorem le_refl (a : OI) : le a a := by
  cases a with
  | none => exact le_none
  | some s => exact some_le.mpr (Int.le_refl s)
theorem le_trans {a b c : OI} (h : le a b) (h' : le b c) : le a c := by
  cases a with
  | none => exact le_none
  | some s =>
    cases b with
    | none => exact absurd h some_le_none
    | some t =>
      cases c with
      | none => exact absurd h' some_le_none
      | some u => exact some_le.mpr (Int.le_trans (some_le.mp h) (some_le.mp h'))
theorem le_antisymm {a b : OI} (h : le a b) (h' : le b a) : a = b := by
  cases a with
  | none =>
    cases b with
    | none => rfl
    | some t => exact absurd h' some_le_none
  | some s =>
    cases b with
    | none => exact absurd h some_le_none
    | some t => rw [Int.le_antisymm (some_le.mp h) (some_le.mp h')]
theorem eq_of_le {a b : OI} (h : ∀ c, le a c ↔ le b c) : a = b := le_antisymm ((h b).mpr (le_refl b)) ((h a).mp (le_refl a))
theorem le_total (a b : OI) : le a b ∨ le b a := by
  cases a with
  | none => exact .inl le_none
  | some s =>
    cases b with
    | none => exact .inr le_none
    | some t => exact (Int.le_total s t).imp some_le.mpr some_le.mpr
theorem lts_iff {a b : OI} : lts a b = true ↔ ¬ le b a := by unfold le; simp
theorem not_lts {a b : OI} : lts a b = false ↔ le b a := Iff.rfl
theorem mxs_le {a b c : OI} : le (mxs a b) c ↔ le a c ∧ le b c := by
  unfold mxs
  by_cases h : lts a b = true
  · rw [if_pos h]
    have h1 : le a b := (le_total a b).resolve_right (lts_iff.mp h)
    exact ⟨fun z => ⟨le_trans h1 z, z⟩, fun z => z.2⟩
  · rw [if_neg h]
    have h1 : le b a := by unfold le; simpa using h
    exact ⟨fun z => ⟨z, le_trans h1 z⟩, fun z => z.1⟩
theorem mxs_comm (a b : OI) : mxs a b = mxs b a := eq_of_le fun c => by rw [mxs_le, mxs_le]; exact And.comm
theorem le_mxs_l {a b : OI} : le a (mxs a b) := (mxs_le.mp (le_refl _)).1
theorem le_mxs_r {a b : OI} : le b (mxs a b) := (mxs_le.mp (le_refl _)).2
theorem fold_le {c : OI} : ∀ (v : List OI) (m : OI), le (v.foldl mxs m) c ↔ le m c ∧ ∀ x ∈ v, le x c
  | [], m => by simp
  | x :: v, m => by
    rw [List.foldl_cons, fold_le v, mxs_le]
    simp only [List.mem_cons, forall_eq_or_imp, and_assoc]
theorem lat_le {v : List OI} {c : OI} : le (lat v) c ↔ ∀ x ∈ v, le x c := by
  unfold lat
  rw [fold_le]
  exact ⟨fun h => h.2, fun h => ⟨le_none, h⟩⟩
def big (n : Nat) (g : Nat → OI) : OI := lat ((List.range n).map g)
theorem big_le {n : Nat} {g : Nat → OI} {c : OI} : le (big n g) c ↔ ∀ k, k < n → le (g k) c := by
  unfold big
  rw [lat_le]
  constructor
  · intro h k hk
    exact h _ (List.mem_map.mpr ⟨k, List.mem_range.mpr hk, rfl⟩)
  · intro h x hx
    obtain ⟨k, hk, rfl⟩ := List.mem_map.mp hx
    exact h k (List.mem_range.mp hk)
theorem le_big {n k : Nat} {g : Nat → OI} (hk : k < n) : le (g k) (big n g) := big_le.mp (le_refl _) k hk
theorem big_congr {n : Nat} {g h : Nat → OI} (e : ∀ k, k < n → g k = h k) : big n g = big n h := by
  unfold big
  congr 1
  exact List.map_congr_left fun k hk => e k (List.mem_range.mp hk)
theorem big_bm {n m : Nat} {g : Nat → OI} (h : ∀ k, k < n → Bm m (g k)) : Bm m (big n g) := by
  refine Bm.lat fun x hx => ?_
  obtain ⟨k, hk, rfl⟩ := List.mem_map.mp hx
  exact h k (List.mem_range.mp hk)
theorem pls_comm (a b : OI) : pls a b = pls b a := by
  cases a <;> cases b <;> simp [pls]
  exact Int.add_comm _ _
theorem pls_assoc (a b c : OI) : pls (pls a b) c = pls a (pls b c) := by
  cases a <;> cases b <;> cases c <;> simp [pls]
  exact Int.add_assoc _ _ _
theorem pls_zero (a : OI) : pls a (some 0) = a := by cases a <;> simp [pls]
theorem zero_pls (a : OI) : pls (some 0) a = a := by cases a <;> simp [pls]
theorem pls_none (a : OI) : pls a none = none := by cases a <;> rfl
theorem none_pls (a : OI) : pls none a = none := rfl
/-- what is left of c when x is taken away -/
theorem pls_le (x : OI) (c : OI) : ∃ P : OI → Prop, (∀ a, le (pls a x) c ↔ P a) ∧ ∀ (n : Nat) (g : Nat → OI), P (big n g) ↔ ∀ k, k < n → P (g k) := by
  cases x with
  | none => exact ⟨fun _ => True, fun a => by rw [pls_none]; exact ⟨fun _ => trivial, fun _ => le_none⟩, fun n g => by simp⟩
  | some x =>
    let c' : OI := c.map fun t => t - x
    refine ⟨fun a => le a c', fun a => ?_, fun n g => big_le⟩
    cases a with
    | none => exact ⟨fun _ => le_none, fun _ => le_none⟩
    | some s =>
      cases c with
      | none => exact ⟨fun h => absurd h some_le_none, fun h => absurd h some_le_none⟩
      | some t =>
        show le (some (s + x)) (some t) ↔ le (some s) (some (t - x))
        rw [some_le, some_le]
        omega
theorem pls_big_le {n : Nat} {g : Nat → OI} {x c : OI} : le (pls (big n g) x) c ↔ ∀ k, k < n → le (pls (g k) x) c := by
  obtain ⟨P, h1, h2⟩ := pls_le x c
  rw [h1, h2]
  exact forall_congr' fun k => imp_congr_right fun _ => (h1 _).symm
theorem big_pls_le {n : Nat} {g : Nat → OI} {x c : OI} : le (pls x (big n g)) c ↔ ∀ k, k < n → le (pls x (g k)) c := by
  rw [pls_comm, pls_big_le]
  exact forall_congr' fun k => imp_congr_right fun _ => by rw [pls_comm]
theorem pls_mono {a b x : OI} (h : le a b) : le (pls a x) (pls b x) := by
  cases x with
  | none => rw [pls_none]; exact le_none
  | some x =>
    cases a with
    | none => exact le_none
    | some s =>
      cases b with
      | none => exact absurd h some_le_none
      | some t =>
        have := some_le.mp h
        exact some_le.mpr (by omega)
theorem pls_mono' {a b x : OI} (h : le a b) : le (pls x a) (pls x b) := by rw [pls_comm x a, pls_comm x b]; exact pls_mono h
theorem pls_mxs_le {a b x c : OI} : le (pls (mxs a b) x) c ↔ le (pls a x) c ∧ le (pls b x) c := by
  constructor
  · exact fun h => ⟨le_trans (pls_mono le_mxs_l) h, le_trans (pls_mono le_mxs_r) h⟩
  · rintro ⟨h1, h2⟩
    unfold mxs
    split <;> assumption
theorem mxs_pls_le {a b x c : OI} : le (pls x (mxs a b)) c ↔ le (pls x a) c ∧ le (pls x b) c := by
  rw [pls_comm, pls_mxs_le, pls_comm a, pls_comm b]
/-! ### tables -/
def at2 (A : List (List OI)) (i j : Nat) : OI := ato (rwo A i) j
def mk2 (n : Nat) (f : Nat → Nat → OI) : List (List OI) := (List.range n).map fun i => (List.range n).map fun j => f i j
def mk1 (n : Nat) (f : Nat → OI) : List OI := (List.range n).map f
structure Sq (n : Nat) (A : List (List OI)) : Prop where
  l : A.length = n
  r : ∀ r ∈ A, r.length = n
theorem sq_mk (n : Nat) (f : Nat → Nat → OI) : Sq n (mk2 n f) := ⟨by simp [mk2], fun r hr => by
  obtain ⟨i, _, rfl⟩ := List.mem_map.mp hr
  simp⟩
theorem Sq.row {n : Nat} {A : List (List OI)} (h : Sq n A) {i : Nat} (hi : i < n) : rwo A i ∈ A ∧ (rwo A i).length = n := by
  have := rwo_mem (W := A) (j := i) (by rw [h.l]; exact hi)
  exact ⟨this, h.r _ this⟩
theorem at_mk {n : Nat} {f : Nat → Nat → OI} {i j : Nat} (hi : i < n) (hj : j < n) : at2 (mk2 n f) i j = f i j := by
  unfold at2 rwo ato mk2
  simp [List.getD, hi, hj]
theorem at_mk1 {n : Nat} {f : Nat → OI} {j : Nat} (hj : j < n) : ato (mk1 n f) j = f j := by
  unfold ato mk1
  simp [List.getD, hj]
theorem len_mk1 {n : Nat} {f : Nat → OI} : (mk1 n f).length = n := by simp [mk1]
theorem mk1_self {n : Nat} {v : List OI} (h : v.length = n) : v = mk1 n (ato v) := by
  subst h
  exact (map_ato v).symm
theorem mk2_self {n : Nat} {A : List (List OI)} (h : Sq n A) : A = mk2 n (at2 A) := by
  have e := map_rwo A
  rw [h.l] at e
  rw [← e]
  unfold mk2
  refine List.map_congr_left fun i hi => ?_
  have hi := List.mem_range.mp hi
  rw [e]
  have := mk1_self (h.row hi).2
  exact this
theorem mk2_congr {n : Nat} {f g : Nat → Nat → OI} (h : ∀ i j, i < n → j < n → f i j = g i j) : mk2 n f = mk2 n g :=
  List.map_congr_left fun i hi => List.map_congr_left fun j hj => h i j (List.mem_range.mp hi) (List.mem_range.mp hj)
theorem mk1_congr {n : Nat} {f g : Nat → OI} (h : ∀ i, i < n → f i = g i) : mk1 n f = mk1 n g :=
  List.map_congr_left fun i hi => h i (List.mem_range.mp hi)
theorem mk2_bm {n m : Nat} {f : Nat → Nat → OI} (h : ∀ i j, i < n → j < n → Bm m (f i j)) : BmW m (mk2 n f) := fun r hr z hz => by
  obtain ⟨i, hi, rfl⟩ := List.mem_map.mp hr
  obtain ⟨j, hj, rfl⟩ := List.mem_map.mp hz
  exact h i j (List.mem_range.mp hi) (List.mem_range.mp hj)
theorem mk1_bm {n m : Nat} {f : Nat → OI} (h : ∀ i, i < n → Bm m (f i)) : BmV m (mk1 n f) := fun z hz => by
  obtain ⟨i, hi, rfl⟩ := List.mem_map.mp hz
  exact h i (List.mem_range.mp hi)
theorem at_bm {n m : Nat} {A : List (List OI)} (h : Sq n A) (b : BmW m A) {i j : Nat} (hi : i < n) (hj : j < n) : Bm m (at2 A i j) := by
  obtain ⟨h1, h2⟩ := h.row hi
  exact b _ h1 _ (ato_mem (by rw [h2]; exact hj))
/-- the product, the later one, the unit, powers, the next round -/
def mp (n : Nat) (A B : List (List OI)) : List (List OI) := mk2 n fun i j => big n fun k => pls (at2 A i k) (at2 B k j)
def ml (n : Nat) (A B : List (List OI)) : List (List OI) := mk2 n fun i j => mxs (at2 A i j) (at2 B i j)
def mi (n : Nat) : List (List OI) := mk2 n fun i j => if i = j then some 0 else none
def mw (n : Nat) (A : List (List OI)) : Nat → List (List OI)
  | 0 => mi n
  | k + 1 => mp n (mw n A k) A
def mv (n : Nat) (A : List (List OI)) (v : List OI) : List OI := mk1 n fun i => big n fun k => pls (at2 A i k) (ato v k)
def vl (n : Nat) (u v : List OI) : List OI := mk1 n fun i => mxs (ato u i) (ato v i)
theorem sq_mp {n : Nat} {A B : List (List OI)} : Sq n (mp n A B) := sq_mk _ _
theorem sq_ml {n : Nat} {A B : List (List OI)} : Sq n (ml n A B) := sq_mk _ _
theorem sq_mi {n : Nat} : Sq n (mi n) := sq_mk _ _
theorem sq_mw {n : Nat} {A : List (List OI)} : ∀ k, Sq n (mw n A k)
  | 0 => sq_mi
  | k + 1 => sq_mp
theorem mp_bm {n m : Nat} {A B : List (List OI)} (hA : Sq n A) (hB : Sq n B) (a : BmW m A) (b : BmW m B) : BmW (m + 1) (mp n A B) :=
  mk2_bm fun i j hi hj => big_bm fun k hk => (at_bm hA a hi hk).pls (at_bm hB b hk hj)
theorem ml_bm {n m : Nat} {A B : List (List OI)} (hA : Sq n A) (hB : Sq n B) (a : BmW m A) (b : BmW m B) : BmW m (ml n A B) :=
  mk2_bm fun i j hi hj => (at_bm hA a hi hj).mxs (at_bm hB b hi hj)
theorem mi_bm {n m : Nat} : BmW m (mi n) := mk2_bm fun i j hi hj => by
  split
  · exact Bm.some (by unfold Bd; simp [Nat.two_pow_pos])
  · exact Bm.none
theorem mw_bm {n m : Nat} {A : List (List OI)} (hA : Sq n A) (a : BmW m A) : ∀ k, BmW (m + k) (mw n A k)
  | 0 => mi_bm
  | k + 1 => mp_bm (sq_mw k) hA (mw_bm hA a k) fun r hr z hz => (a r hr z hz).mono (Nat.le_add_right m k)
theorem mv_len {n : Nat} {A : List (List OI)} {v : List OI} : (mv n A v).length = n := len_mk1
theorem mv_bm {n m : Nat} {A : List (List OI)} {v : List OI} (hA : Sq n A) (hv : v.length = n) (a : BmW m A) (b : BmV m v) : BmV (m + 1) (mv n A v) :=
  mk1_bm fun i hi => big_bm fun k hk => (at_bm hA a hi hk).pls (b _ (ato_mem (by omega)))
theorem nxt_mv {n : Nat} {A : List (List OI)} {v : List OI} (hA : Sq n A) (hv : v.length = n) : nxt A v = mv n A v := by
  unfold nxt mv mk1
  have e := map_rwo A
  rw [hA.l] at e
  conv => lhs; rw [← e]
  rw [List.map_map]
  refine List.map_congr_left fun i hi => ?_
  have hi := List.mem_range.mp hi
  show lat (List.zipWith pls (rwo A i) v) = lat ((List.range n).map fun k => pls (at2 A i k) (ato v k))
  congr 1
  refine List.ext_getElem (by simp [(hA.row hi).2, hv]) fun j h1 h2 => ?_
  simp [(hA.row hi).2, hv] at h1 h2
  simp [at2, ato, List.getD, List.getElem?_eq_getElem (show j < (rwo A i).length by rw [(hA.row hi).2]; exact h1), List.getElem?_eq_getElem (show j < v.length by omega)]
/-! ### laws -/
theorem mp_assoc {n : Nat} {A B C : List (List OI)} : mp n (mp n A B) C = mp n A (mp n B C) := by
  refine mk2_congr fun i j hi hj => eq_of_le fun c => ?_
  rw [big_le, big_le]
  have e1 : ∀ k, k < n → (le (pls (at2 (mp n A B) i k) (at2 C k j)) c ↔ ∀ l, l < n → le (pls (pls (at2 A i l) (at2 B l k)) (at2 C k j)) c) := fun k hk => by
    rw [show at2 (mp n A B) i k = big n fun l => pls (at2 A i l) (at2 B l k) from at_mk hi hk, pls_big_le]
  have e2 : ∀ l, l < n → (le (pls (at2 A i l) (at2 (mp n B C) l j)) c ↔ ∀ k, k < n → le (pls (at2 A i l) (pls (at2 B l k) (at2 C k j))) c) := fun l hl => by
    rw [show at2 (mp n B C) l j = big n fun k => pls (at2 B l k) (at2 C k j) from at_mk hl hj, big_pls_le]
  constructor
  · intro h l hl
    rw [e2 l hl]
    intro k hk
    rw [← pls_assoc]
    exact (e1 k hk).mp (h k hk) l hl
  · intro h k hk
    rw [e1 k hk]
    intro l hl
    rw [pls_assoc]
    exact (e2 l hl).mp (h l hl) k hk
theorem mp_ml {n : Nat} {A B C : List (List OI)} : mp n A (ml n B C) = ml n (mp n A B) (mp n A C) := by
  refine mk2_congr fun i j hi hj => eq_of_le fun c => ?_
  rw [big_le, mxs_le, show at2 (mp n A B) i j = _ from at_mk hi hj, show at2 (mp n A C) i j = _ from at_mk hi hj, big_le, big_le]
  constructor
  · intro h
    refine ⟨fun k hk => ?_, fun k hk => ?_⟩
    · have := h k hk
      rw [show at2 (ml n B C) k j = _ from at_mk hk hj, mxs_pls_le] at this
      exact this.1
    · have := h k hk
      rw [show at2 (ml n B C) k j = _ from at_mk hk hj, mxs_pls_le] at this
      exact this.2
  · rintro ⟨h1, h2⟩ k hk
    rw [show at2 (ml n B C) k j = _ from at_mk hk hj, mxs_pls_le]
    exact ⟨h1 k hk, h2 k hk⟩
theorem ml_mp {n : Nat} {A B C : List (List OI)} : mp n (ml n B C) A = ml n (mp n B A) (mp n C A) := by
  refine mk2_congr fun i j hi hj => eq_of_le fun c => ?_
  rw [big_le, mxs_le, show at2 (mp n B A) i j = _ from at_mk hi hj, show at2 (mp n C A) i j = _ from at_mk hi hj, big_le, big_le]
  constructor
  · intro h
    refine ⟨fun k hk => ?_, fun k hk => ?_⟩
    · have := h k hk
      rw [show at2 (ml n B C) i k = _ from at_mk hi hk, pls_mxs_le] at this
      exact this.1
    · have := h k hk
      rw [show at2 (ml n B C) i k = _ from at_mk hi hk, pls_mxs_le] at this
      exact this.2
  · rintro ⟨h1, h2⟩ k hk
    rw [show at2 (ml n B C) i k = _ from at_mk hi hk, pls_mxs_le]
    exact ⟨h1 k hk, h2 k hk⟩
theorem big_unit {n i : Nat} {g : Nat → OI} (hi : i < n) (h : ∀ k, k < n → k ≠ i → g k = none) : big n g = g i := by
  refine eq_of_le fun c => ?_
  rw [big_le]
  constructor
  · exact fun z => z i hi
  · intro z k hk
    by_cases e : k = i
    · rw [e]; exact z
    · rw [h k hk e]; exact le_none
theorem mp_mi {n : Nat} {A : List (List OI)} (hA : Sq n A) : mp n A (mi n) = A := by
  conv => rhs; rw [mk2_self hA]
  refine mk2_congr fun i j hi hj => ?_
  rw [big_unit hj fun k hk e => by rw [show at2 (mi n) k j = _ from at_mk hk hj, if_neg e, pls_none], show at2 (mi n) j j = _ from at_mk hj hj, if_pos rfl, pls_zero]
theorem mi_mp {n : Nat} {A : List (List OI)} (hA : Sq n A) : mp n (mi n) A = A := by
  conv => rhs; rw [mk2_self hA]
  refine mk2_congr fun i j hi hj => ?_
  rw [big_unit hi fun k hk e => by rw [show at2 (mi n) i k = _ from at_mk hi hk, if_neg (Ne.symm e), none_pls], show at2 (mi n) i i = _ from at_mk hi hi, if_pos rfl, zero_pls]
theorem ml_comm {n : Nat} {A B : List (List OI)} : ml n A B = ml n B A := mk2_congr fun i j _ _ => mxs_comm _ _
theorem mw_add {n : Nat} {A : List (List OI)} (a : Nat) : ∀ b, mp n (mw n A a) (mw n A b) = mw n A (a + b)
  | 0 => mp_mi (sq_mw a)
  | b + 1 => by
    show mp n (mw n A a) (mp n (mw n A b) A) = mp n (mw n A (a + b)) A
    rw [← mp_assoc, mw_add a b]
theorem mw_mul {n : Nat} {A : List (List OI)} (a : Nat) : ∀ b, mw n (mw n A a) b = mw n A (a * b)
  | 0 => rfl
  | b + 1 => by
    show mp n (mw n (mw n A a) b) (mw n A a) = mw n A (a * (b + 1))
    rw [mw_mul a b, mw_add, Nat.mul_add, Nat.mul_one]
theorem mw_one {n : Nat} {A : List (List OI)} (hA : Sq n A) : mw n A 1 = A := mi_mp hA
theorem mv_mp {n : Nat} {A B : List (List OI)} {v : List OI} : mv n (mp n A B) v = mv n A (mv n B v) := by
  refine mk1_congr fun i hi => eq_of_le fun c => ?_
  rw [big_le, big_le]
  have e1 : ∀ k, k < n → (le (pls (at2 (mp n A B) i k) (ato v k)) c ↔ ∀ l, l < n → le (pls (pls (at2 A i l) (at2 B l k)) (ato v k)) c) := fun k hk => by
    rw [show at2 (mp n A B) i k = big n fun l => pls (at2 A i l) (at2 B l k) from at_mk hi hk, pls_big_le]
  have e2 : ∀ l, l < n → (le (pls (at2 A i l) (ato (mv n B v) l)) c ↔ ∀ k, k < n → le (pls (at2 A i l) (pls (at2 B l k) (ato v k))) c) := fun l hl => by
    rw [show ato (mv n B v) l = big n fun k => pls (at2 B l k) (ato v k) from at_mk1 hl, big_pls_le]
  constructor
  · intro h l hl
    rw [e2 l hl]
    intro k hk
    rw [← pls_assoc]
    exact (e1 k hk).mp (h k hk) l hl
  · intro h k hk
    rw [e1 k hk]
    intro l hl
    rw [pls_assoc]
    exact (e2 l hl).mp (h l hl) k hk
theorem mv_ml {n : Nat} {A B : List (List OI)} {v : List OI} : mv n (ml n A B) v = vl n (mv n A v) (mv n B v) := by
  refine mk1_congr fun i hi => eq_of_le fun c => ?_
  rw [big_le, mxs_le, show ato (mv n A v) i = _ from at_mk1 hi, show ato (mv n B v) i = _ from at_mk1 hi, big_le, big_le]
  constructor
  · intro h
    refine ⟨fun k hk => ?_, fun k hk => ?_⟩
    · have := h k hk
      rw [show at2 (ml n A B) i k = _ from at_mk hi hk, pls_mxs_le] at this
      exact this.1
    · have := h k hk
      rw [show at2 (ml n A B) i k = _ from at_mk hi hk, pls_mxs_le] at this
      exact this.2
  · rintro ⟨h1, h2⟩ k hk
    rw [show at2 (ml n A B) i k = _ from at_mk hi hk, pls_mxs_le]
    exact ⟨h1 k hk, h2 k hk⟩
theorem mv_vl {n : Nat} {A : List (List OI)} {u v : List OI} : mv n A (vl n u v) = vl n (mv n A u) (mv n A v) := by
  refine mk1_congr fun i hi => eq_of_le fun c => ?_
  rw [big_le, mxs_le, show ato (mv n A u) i = _ from at_mk1 hi, show ato (mv n A v) i = _ from at_mk1 hi, big_le, big_le]
  constructor
  · intro h
    refine ⟨fun k hk => ?_, fun k hk => ?_⟩
    · have := h k hk
      rw [show ato (vl n u v) k = _ from at_mk1 hk, mxs_pls_le] at this
      exact this.1
    · have := h k hk
      rw [show ato (vl n u v) k = _ from at_mk1 hk, mxs_pls_le] at this
      exact this.2
  · rintro ⟨h1, h2⟩ k hk
    rw [show ato (vl n u v) k = _ from at_mk1 hk, mxs_pls_le]
    exact ⟨h1 k hk, h2 k hk⟩
theorem mv_mi {n : Nat} {v : List OI} (hv : v.length = n) : mv n (mi n) v = v := by
  conv => rhs; rw [mk1_self hv]
  refine mk1_congr fun i hi => ?_
  rw [big_unit hi fun k hk e => by rw [show at2 (mi n) i k = _ from at_mk hi hk, if_neg (Ne.symm e), none_pls], show at2 (mi n) i i = _ from at_mk hi hi, if_pos rfl, zero_pls]
theorem mv_mono {n : Nat} {A : List (List OI)} {u v : List OI} (h : ∀ i, i < n → le (ato u i) (ato v i)) : ∀ i, i < n → le (ato (mv n A u) i) (ato (mv n A v) i) := fun i hi => by
  rw [show ato (mv n A u) i = _ from at_mk1 hi, show ato (mv n A v) i = _ from at_mk1 hi, big_le]
  exact fun k hk => le_trans (pls_mono' (h k hk)) (le_big (g := fun k => pls (at2 A i k) (ato v k)) hk)
theorem mw_comm {n : Nat} {A : List (List OI)} (hA : Sq n A) (k : Nat) : mp n A (mw n A k) = mw n A (k + 1) := by
  have := mw_add (n := n) (A := A) 1 k
  rw [mw_one hA, Nat.add_comm] at this
  exact this
end Ev

set_option Elab.async false
set_option linter.all false
set_option maxRecDepth 100000
set_option maxHeartbeats 1000000
namespace Lw
open PySem PySem.Spec PyProof.Rows L2 Ev
variable {M : Int}
theorem c_check_sizes {A B : List D} (h : A.length = B.length) : f_check_sizes [.list A, .list B] = .ok (none, .none) := by
  unfold f_check_sizes runB s_check_sizes startR
  simp [h]
theorem c_check_sizes_rz {A B : List D} (h : A.length ≠ B.length) : f_check_sizes [.list A, .list B] = .rz "OutOfRange" := by
  have h' : ¬ (A.length : Int) = (B.length : Int) := by omega
  refine runB_rz (ρ' := [.va (some 0) (.list A), .va (some 0) (.list B)]) rfl ?_
  show s_check_sizes [.va (some 0) (.list A), .va (some 0) (.list B)] = _
  unfold s_check_sizes
  simp [h']
def cols (n : Nat) (B : List (List OI)) : List (List OI) := mk2 n fun j i => at2 B i j
theorem rows_at {n : Nat} {B : List (List OI)} (hB : Sq n B) (j : Nat) : B.map (fun r => ato r j) = mk1 n fun i => at2 B i j := by
  have e := map_rwo B
  rw [hB.l] at e
  conv => lhs; rw [← e]
  rw [List.map_map]
  rfl
theorem c_columns_of {n : Nat} {B : List (List OI)} (hB : Sq n B) (hn : n ≤ 1000) : f_columns_of [eW M B] = .ok (none, eW M (cols n B)) := by
  refine runB_rt rfl ?_
  show s_columns_of [.va (some 0) (eW M B), .em, .em] = _
  unfold s_columns_of
  have inner : ∀ j : Nat, j < n → xLc c_columns_of_0_i [1] (bd1 1) c_columns_of_0_c c_columns_of_0_x [.va (some 0) (eW M B), .em, .va none (.int j)] = .ok ⟨false, none, eV M (mk1 n fun i => at2 B i j)⟩ := fun j hj => by
    have := lc_map (ρ := [.va (some 0) (eW M B), .em, .va none (.int (j : Nat))]) (xi := c_columns_of_0_i) (own := [1]) (bd := bd1 1) (cc := c_columns_of_0_c) (x := c_columns_of_0_x) B (fun r => ⟨false, some 0, eV M r⟩) (fun r => en M (ato r j))
      (it_rows (e_va rfl) (.inr rfl)) (by rw [hB.l]; omega) fun r hr => by
        refine ⟨_, rfl, rfl, false, none, ?_, .inl flat_en⟩
        have hj' : j < r.length := by rw [hB.r r hr]; exact hj
        simp [c_columns_of_0_x, ix_o hj']
    rw [this]
    have e := congrArg (List.map (en M)) (rows_at hB j)
    rw [List.map_map] at e
    show Res.ok (⟨false, none, .list (List.map (en M ∘ fun r => ato r j) B)⟩ : BV) = _
    rw [e]
  have outer := lc_map (ρ := [.va (some 0) (eW M B), .em, .em]) (xi := c_columns_of_1_i) (own := [2]) (bd := bd1 2) (cc := c_columns_of_1_c) (x := c_columns_of_1_x) (List.range n) (fun j => ⟨false, none, .int (j : Nat)⟩) (fun j => eV M (mk1 n fun i => at2 B i j))
    (it_range1 (n := n) (bb := false) (k := none) (by simp [hB.l]) (by omega)) (by rw [List.length_range]; omega) fun j hj => by
      refine ⟨_, rfl, rfl, false, none, ?_, .inr ⟨rfl, rfl⟩⟩
      simp
      exact inner j (List.mem_range.mp hj)
  rw [ap_ret, outer]
  simp [cols, mk2, mk1, Function.comp_def]
theorem zip_mk1 {n : Nat} {r : List OI} {f : Nat → OI} (hr : r.length = n) : List.zipWith pls r (mk1 n f) = mk1 n fun k => pls (ato r k) (f k) := by
  refine List.ext_getElem (by simp [mk1, hr]) fun i h1 h2 => ?_
  simp [mk1, hr] at h1 h2
  simp [mk1, ato, List.getD, List.getElem?_eq_getElem (show i < r.length by omega)]
theorem c_product (hM : GM M) {n : Nat} {A B : List (List OI)} (hA : Sq n A) (hB : Sq n B) (hn : n ≤ 1000) (bA : BmW 5000 A) (bB : BmW 5000 B) : f_product [eW M A, eW M B] = .ok (none, eW M (mp n A B)) := by
  have hp : ∀ a b : OI, Sm a → Sm b → f_plus [en M a, en M b] = .ok (none, en M (pls a b)) := fun a b ha hb => c_plus hM ha hb
  have hlat : ∀ u : List OI, SmV u → f_latest [eV M u] = .ok (none, en M (lat u)) := fun u hu => c_latest hM hu
  have hcs : f_check_sizes [eW M A, eW M B] = .ok (none, .none) := c_check_sizes (by simp [hA.l, hB.l])
  have hco := c_columns_of (M := M) hB hn
  refine runB_rt rfl ?_
  show s_product [.va (some 0) (eW M A), .va (some 0) (eW M B), .em, .em, .em, .em, .em] = _
  unfold s_product
  apply sqR; intro T R' hT hR; rw [ap_ex, call2 (u := ⟨true, some 0, eW M A⟩) (v := ⟨true, some 0, eW M B⟩) rfl rfl hcs]; simp; subst hT hR
  apply sqR; intro T R' hT hR; rw [ap_asg, call1 (u := ⟨true, some 0, eW M B⟩) rfl hco]; simp; subst hT hR
  rw [sH_ap]
  simp only [shN_cs, shN_nl]
  rw [shN1_of (i := 2) rfl, if_neg (by simp)]
  simp only [List.set_cons_succ, List.set_cons_zero]
  have in0 : ∀ (r : List OI) (j : Nat), r ∈ A → j < n → xLc c_product_0_i [3, 4] (bdT [3, 4]) c_product_0_c c_product_0_x [.va (some 0) (eW M A), .va (some 0) (eW M B), .va (some 0) (eW M (cols n B)), .em, .em, .va (some 0) (eV M (mk1 n fun i => at2 B i j)), .va (some 0) (eV M r)] = .ok ⟨false, none, eV M (mk1 n fun k => pls (ato r k) (at2 B k j))⟩ := fun r j hr hj => by
    have hrl := hA.r r hr
    have := lc_map (ρ := [.va (some 0) (eW M A), .va (some 0) (eW M B), .va (some 0) (eW M (cols n B)), .em, .em, .va (some 0) (eV M (mk1 n fun i => at2 B i j)), .va (some 0) (eV M r)]) (xi := c_product_0_i) (own := [3, 4]) (bd := bdT [3, 4]) (cc := c_product_0_c) (x := c_product_0_x) (r.zip (mk1 n fun i => at2 B i j)) (fun p => itm (.tuple [en M p.1, en M p.2])) (fun p => en M (pls p.1 p.2))
      (it_zip (e_va rfl) (e_va rfl) (.inr (.inl rfl)) (.inr (.inl rfl))) (by have := List.length_zip (l₁ := r) (l₂ := mk1 n fun i => at2 B i j); omega) fun p hp' => by
        have hpm := List.of_mem_zip hp'
        refine ⟨_, rfl, rfl, false, none, ?_, .inl flat_en⟩
        obtain ⟨i, hi, e2⟩ := List.mem_map.mp hpm.2
        have hi := List.mem_range.mp hi
        have h1 := hp p.1 p.2 ((bA r hr _ hpm.1).mono (by omega)) (by rw [← e2]; exact (at_bm hB bB hi hj).mono (by omega))
        simp [c_product_0_x, bindN, h1]
    rw [this, zip_map2, zip_mk1 hrl]
  have in1 : ∀ r ∈ A, xLc c_product_1_i [5] (bd1 5) c_product_1_c c_product_1_x [.va (some 0) (eW M A), .va (some 0) (eW M B), .va (some 0) (eW M (cols n B)), .em, .em, .em, .va (some 0) (eV M r)] = .ok ⟨false, none, eV M (mk1 n fun j => big n fun k => pls (ato r k) (at2 B k j))⟩ := fun r hr => by
    have hrl := hA.r r hr
    have hc : cols n B = (List.range n).map fun j => mk1 n fun i => at2 B i j := rfl
    have := lc_map (ρ := [.va (some 0) (eW M A), .va (some 0) (eW M B), .va (some 0) (eW M (cols n B)), .em, .em, .em, .va (some 0) (eV M r)]) (xi := c_product_1_i) (own := [5]) (bd := bd1 5) (cc := c_product_1_c) (x := c_product_1_x) (List.range n) (fun j => ⟨false, some 0, eV M (mk1 n fun i => at2 B i j)⟩) (fun j => en M (big n fun k => pls (ato r k) (at2 B k j)))
      (by
        have := it_rows (cl := false) (ρ := [.va (some 0) (eW M A), .va (some 0) (eW M B), .va (some 0) (eW M (cols n B)), .em, .em, .em, .va (some 0) (eV M r)]) (a := xVa 2) (bb := true) (k := some 0) (v := cols n B) (f := fun r => r.map (en M)) rfl (.inr rfl)
        refine this.trans ?_
        rw [hc, List.map_map]
        rfl) (by rw [List.length_range]; omega) fun j hj => by
        have hj := List.mem_range.mp hj
        refine ⟨_, rfl, rfl, false, none, ?_, .inl flat_en⟩
        refine call1 (in0 r j hr hj) (hlat _ (mk1_bm fun k hk => ?_))
        exact (Bm.pls ((bA r hr _ (ato_mem (by omega)))) (at_bm hB bB hk hj)).mono (by omega)
    rw [this]
    simp [mk1, Function.comp_def]
  have outer := lc_map (ρ := [.va (some 0) (eW M A), .va (some 0) (eW M B), .va (some 0) (eW M (cols n B)), .em, .em, .em, .em]) (xi := c_product_2_i) (own := [6]) (bd := bd1 6) (cc := c_product_2_c) (x := c_product_2_x) A (fun r => ⟨false, some 0, eV M r⟩) (fun r => eV M (mk1 n fun j => big n fun k => pls (ato r k) (at2 B k j)))
    (it_rows (e_va rfl) (.inr rfl)) (by rw [hA.l]; omega) fun r hr => ⟨_, rfl, rfl, false, none, in1 r hr, .inr ⟨rfl, rfl⟩⟩
  rw [ap_ret, outer]
  have e : A.map (fun r => mk1 n fun j => big n fun k => pls (ato r k) (at2 B k j)) = mp n A B := by
    have e := map_rwo A
    rw [hA.l] at e
    conv => lhs; rw [← e]
    rw [List.map_map]
    rfl
  rw [← e]
  simp [Function.comp_def]
theorem c_product_rz {A B : List D} (h : A.length ≠ B.length) : f_product [.list A, .list B] = .rz "OutOfRange" := by
  refine runB_rz (ρ' := [.va (some 0) (.list A), .va (some 0) (.list B), .em, .em, .em, .em, .em]) rfl ?_
  show s_product [.va (some 0) (.list A), .va (some 0) (.list B), .em, .em, .em, .em, .em] = _
  unfold s_product
  have e : xA true (xCall f_check_sizes 2) [xVa 0, xVa 1] [.va (some 0) (.list A), .va (some 0) (.list B), .em, .em, .em, .em, .em] = .rz "OutOfRange" := call_rz (vs := [⟨true, some 0, .list A⟩, ⟨true, some 0, .list B⟩]) (by simp) rfl (c_check_sizes_rz h)
  rw [ap_seq, ap_ex, e]
  rfl
theorem c_later_work (hM : GM M) {n : Nat} {A B : List (List OI)} (hA : Sq n A) (hB : Sq n B) (hn : n ≤ 1000) (bA : BmW 5000 A) (bB : BmW 5000 B) : f_later_work [eW M A, eW M B] = .ok (none, eW M (ml n A B)) := by
  have hp : ∀ a b : OI, Sm a → Sm b → f_later [en M a, en M b] = .ok (none, en M (mxs a b)) := fun a b ha hb => c_later hM ha hb
  have hcs : f_check_sizes [eW M A, eW M B] = .ok (none, .none) := c_check_sizes (by simp [hA.l, hB.l])
  refine runB_rt rfl ?_
  show s_later_work [.va (some 0) (eW M A), .va (some 0) (eW M B), .em, .em, .em, .em] = _
  unfold s_later_work
  apply sqR; intro T R' hT hR; rw [ap_ex, call2 (u := ⟨true, some 0, eW M A⟩) (v := ⟨true, some 0, eW M B⟩) rfl rfl hcs]; simp; subst hT hR
  have in0 : ∀ (r q : List OI), r ∈ A → q ∈ B → xLc c_later_work_0_i [2, 3] (bdT [2, 3]) c_later_work_0_c c_later_work_0_x [.va (some 0) (eW M A), .va (some 0) (eW M B), .em, .em, .va (some 0) (eV M r), .va (some 0) (eV M q)] = .ok ⟨false, none, .list ((r.zip q).map fun p => en M (mxs p.1 p.2))⟩ := fun r q hr hq => by
    exact lc_map (ρ := [.va (some 0) (eW M A), .va (some 0) (eW M B), .em, .em, .va (some 0) (eV M r), .va (some 0) (eV M q)]) (xi := c_later_work_0_i) (own := [2, 3]) (bd := bdT [2, 3]) (cc := c_later_work_0_c) (x := c_later_work_0_x) (r.zip q) (fun p => itm (.tuple [en M p.1, en M p.2])) (fun p => en M (mxs p.1 p.2))
      (it_zip (e_va rfl) (e_va rfl) (.inr (.inl rfl)) (.inr (.inl rfl))) (by have := List.length_zip (l₁ := r) (l₂ := q); have := hA.r r hr; omega) fun p hp' => by
        have hpm := List.of_mem_zip hp'
        refine ⟨_, rfl, rfl, false, none, ?_, .inl flat_en⟩
        have h1 := hp p.1 p.2 ((bA r hr _ hpm.1).mono (by omega)) ((bB q hq _ hpm.2).mono (by omega))
        simp [c_later_work_0_x, bindN, h1]
  have outer := lc_map (ρ := [.va (some 0) (eW M A), .va (some 0) (eW M B), .em, .em, .em, .em]) (xi := c_later_work_1_i) (own := [4, 5]) (bd := bdT [4, 5]) (cc := c_later_work_1_c) (x := c_later_work_1_x) (A.zip B) (fun p => itm (.tuple [eV M p.1, eV M p.2])) (fun p => .list ((p.1.zip p.2).map fun q => en M (mxs q.1 q.2)))
    (it_zip (e_va rfl) (e_va rfl) (.inr (.inl rfl)) (.inr (.inl rfl))) (by have := List.length_zip (l₁ := A) (l₂ := B); have := hA.l; omega) fun p hp' => by
      have hpm := List.of_mem_zip hp'
      refine ⟨_, rfl, rfl, false, none, ?_, .inr ⟨rfl, rfl⟩⟩
      simp [bindN]
      exact in0 p.1 p.2 hpm.1 hpm.2
  rw [ap_ret, outer]
  have e : (A.zip B).map (fun p => PyData.list ((p.1.zip p.2).map fun q => en M (mxs q.1 q.2))) = (ml n A B).map fun r => .list (r.map (en M)) := by
    refine List.ext_getElem (by simp [hA.l, hB.l, sq_ml.l]) fun i h1 h2 => ?_
    simp [hA.l, hB.l] at h1
    have hiA : i < A.length := by rw [hA.l]; omega
    have hiB : i < B.length := by rw [hB.l]; omega
    have ra : A[i] = rwo A i := by simp [rwo, List.getD, List.getElem?_eq_getElem hiA]
    have rb : B[i] = rwo B i := by simp [rwo, List.getD, List.getElem?_eq_getElem hiB]
    have hra := (hA.row (i := i) (by omega)).2
    have hrb := (hB.row (i := i) (by omega)).2
    simp only [List.getElem_map, List.getElem_zip, ra, rb]
    congr 1
    refine List.ext_getElem (by simp [ml, mk2, hra, hrb]) fun j h3 h4 => ?_
    simp [hra, hrb] at h3
    simp [ml, mk2, at2, ato, List.getD, List.getElem?_eq_getElem (show j < (rwo A i).length by omega), List.getElem?_eq_getElem (show j < (rwo B i).length by omega)]
  rw [sr_ok, retR_list, e]
theorem en_zero (hM : 0 < M) : en M (some 0) = pr 0 1 := by
  show nf 0 M = _
  rw [← nf_one, ← nf_scale (t := 0) (l := 1) (f := M) (by decide) hM, Int.zero_mul, Int.one_mul]
theorem c_idle (hM : 0 < M) {n : Nat} (h1 : 1 ≤ n) (hn : n ≤ 1000) : f_idle [.int n] = .ok (none, eW M (mi n)) := by
  refine runB_rt rfl ?_
  show s_idle [.va (some 0) (.int n), .em, .em] = _
  unfold s_idle
  apply sqR; intro T R' hT hR; simp [show ¬ ((n : Int) < 1) by omega]; subst hT hR
  have e0 := en_zero hM
  have in0 : ∀ i : Nat, i < n → xLc c_idle_0_i [1] (bd1 1) c_idle_0_c c_idle_0_x [.va (some 0) (.int n), .em, .va none (.int i)] = .ok ⟨false, none, eV M (mk1 n fun j => if i = j then some 0 else none)⟩ := fun i hi => by
    have := lc_map (ρ := [.va (some 0) (.int n), .em, .va none (.int i)]) (xi := c_idle_0_i) (own := [1]) (bd := bd1 1) (cc := c_idle_0_c) (x := c_idle_0_x) (List.range n) (fun j => ⟨false, none, .int (j : Nat)⟩) (fun j => en M (if i = j then some 0 else none))
      (it_range1 (n := n) (bb := true) (k := some 0) rfl (by omega)) (by rw [List.length_range]; omega) fun j hj => by
        refine ⟨_, rfl, rfl, false, none, ?_, .inl flat_en⟩
        by_cases hij : i = j
        · rw [if_pos hij, e0]
          simp [c_idle_0_x, hij]
        · rw [if_neg hij]
          simp [c_idle_0_x, show ¬ (i : Int) = (j : Int) by omega, en]
    rw [this]
    simp [mk1, Function.comp_def]
  have outer := lc_map (ρ := [.va (some 0) (.int n), .em, .em]) (xi := c_idle_1_i) (own := [2]) (bd := bd1 2) (cc := c_idle_1_c) (x := c_idle_1_x) (List.range n) (fun j => ⟨false, none, .int (j : Nat)⟩) (fun i => eV M (mk1 n fun j => if i = j then some 0 else none))
    (it_range1 (n := n) (bb := true) (k := some 0) rfl (by omega)) (by rw [List.length_range]; omega) fun i hi => by
      refine ⟨_, rfl, rfl, false, none, ?_, .inr ⟨rfl, rfl⟩⟩
      simp
      exact in0 i (List.mem_range.mp hi)
  rw [ap_ret, outer]
  simp [mi, mk2, mk1, Function.comp_def]
theorem c_idle_rz {k : Int} (h : k < 1) : f_idle [.int k] = .rz "OutOfRange" := by
  refine runB_rz (ρ' := [.va (some 0) (.int k), .em, .em]) rfl ?_
  show s_idle [.va (some 0) (.int k), .em, .em] = _
  unfold s_idle
  simp [h]
theorem c_power (hM : GM M) {n : Nat} {A : List (List OI)} (hA : Sq n A) (k : Nat) (h1 : 1 ≤ n) (hn : n ≤ 1000) (hk : k ≤ 2000) (bA : BmW 2000 A) : f_power [eW M A, .int (k : Nat)] = .ok (none, eW M (mw n A k)) := by
  have hp : ∀ i, i ≤ 2000 → f_product [eW M (mw n A i), eW M A] = .ok (none, eW M (mp n (mw n A i) A)) := fun i hi => c_product hM (sq_mw i) hA hn (fun r hr => BmV.mono (mw_bm hA bA i r hr) (by omega)) (fun r hr => BmV.mono (bA r hr) (by omega))
  have hi := c_idle hM.1 h1 hn
  refine runB_rt rfl ?_
  show s_power [.va (some 0) (eW M A), .va (some 0) (.int k), .em, .em] = _
  unfold s_power
  apply sqR; intro T R' hT hR; simp [show ¬ ((k : Int) < 0) by omega]; subst hT hR
  apply sqR; intro T R' hT hR; rw [ap_asg, call1 (u := ⟨false, none, .int n⟩) (by simp [hA.l]) hi]; simp; subst hT hR
  have L := sFor_steps (s := l_power_0_b) (xi := l_power_0_i) (bd := bd1 3) (List.range k) (fun i => ⟨false, none, .int (i : Nat)⟩) (fun i => [.va (some 0) (eW M A), .va (some 0) (.int k), .va none (eW M (mw n A i)), .em])
    (it_range1 (n := k) (bb := true) (k := some 0) rfl (by omega)) fun i e hi => by
      have hi' := (List.getElem?_eq_some_iff.mp hi).1
      rw [List.length_range] at hi'
      refine ⟨_, rfl, .inl ?_⟩
      unfold l_power_0_b
      apply sFq; intro T R' hT hR; simp; subst hT hR
      rw [ap_asg, call2 (u := ⟨true, none, eW M (mw n A i)⟩) (v := ⟨true, some 0, eW M A⟩) rfl rfl (hp i (by omega))]
      simp [mw]
  rw [List.length_range] at L
  refine (sSeq_nx L).trans ?_
  simp
theorem c_power_rz {A : D} {k : Int} (h : k < 0) : f_power [A, .int k] = .rz "OutOfRange" := by
  refine runB_rz (ρ' := [.va (some 0) A, .va (some 0) (.int k), .em, .em]) rfl ?_
  show s_power [.va (some 0) A, .va (some 0) (.int k), .em, .em] = _
  unfold s_power
  simp [h]
theorem c_check_lengths {A B : List D} (h : A.length = B.length) : f_check_lengths [.list A, .list B] = .ok (none, .none) := by
  unfold f_check_lengths runB s_check_lengths startR
  simp [h]
theorem c_check_lengths_rz {A B : List D} (h : A.length ≠ B.length) : f_check_lengths [.list A, .list B] = .rz "OutOfRange" := by
  have h' : ¬ (A.length : Int) = (B.length : Int) := by omega
  refine runB_rz (ρ' := [.va (some 0) (.list A), .va (some 0) (.list B)]) rfl ?_
  show s_check_lengths [.va (some 0) (.list A), .va (some 0) (.list B)] = _
  unfold s_check_lengths
  simp [h']
theorem zip_vl {n : Nat} {u v : List OI} (hu : u.length = n) (hv : v.length = n) : (u.zip v).map (fun p => en M (mxs p.1 p.2)) = (vl n u v).map (en M) := by
  refine List.ext_getElem (by simp [vl, mk1, hu, hv]) fun i h1 h2 => ?_
  simp [hu, hv] at h1
  simp [vl, mk1, ato, List.getD, List.getElem?_eq_getElem (show i < u.length by omega), List.getElem?_eq_getElem (show i < v.length by omega)]
theorem c_later_vector (hM : GM M) {n : Nat} {u v : List OI} (hu : u.length = n) (hv : v.length = n) (hn : n ≤ 1000) (bu : BmV 5500 u) (bv : BmV 5500 v) : f_later_vector [eV M u, eV M v] = .ok (none, eV M (vl n u v)) := by
  have hp : ∀ a b : OI, Sm a → Sm b → f_later [en M a, en M b] = .ok (none, en M (mxs a b)) := fun a b ha hb => c_later hM ha hb
  have hcs : f_check_lengths [eV M u, eV M v] = .ok (none, .none) := c_check_lengths (by simp [hu, hv])
  refine runB_rt rfl ?_
  show s_later_vector [.va (some 0) (eV M u), .va (some 0) (eV M v), .em, .em] = _
  unfold s_later_vector
  apply sqR; intro T R' hT hR; rw [ap_ex, call2 (u := ⟨true, some 0, eV M u⟩) (v := ⟨true, some 0, eV M v⟩) rfl rfl hcs]; simp; subst hT hR
  have := lc_map (ρ := [.va (some 0) (eV M u), .va (some 0) (eV M v), .em, .em]) (xi := c_later_vector_0_i) (own := [2, 3]) (bd := bdT [2, 3]) (cc := c_later_vector_0_c) (x := c_later_vector_0_x) (u.zip v) (fun p => itm (.tuple [en M p.1, en M p.2])) (fun p => en M (mxs p.1 p.2))
    (it_zip (e_va rfl) (e_va rfl) (.inr (.inl rfl)) (.inr (.inl rfl))) (by have := List.length_zip (l₁ := u) (l₂ := v); omega) fun p hp' => by
      have hpm := List.of_mem_zip hp'
      refine ⟨_, rfl, rfl, false, none, ?_, .inl flat_en⟩
      have h1 := hp p.1 p.2 (bu _ hpm.1) (bv _ hpm.2)
      simp [c_later_vector_0_x, bindN, h1]
  rw [ap_ret, this, zip_vl hu hv]
  simp
theorem c_later_vector_rz {A B : List D} (h : A.length ≠ B.length) : f_later_vector [.list A, .list B] = .rz "OutOfRange" := by
  refine runB_rz (ρ' := [.va (some 0) (.list A), .va (some 0) (.list B), .em, .em]) rfl ?_
  show s_later_vector [.va (some 0) (.list A), .va (some 0) (.list B), .em, .em] = _
  unfold s_later_vector
  have e : xA true (xCall f_check_lengths 2) [xVa 0, xVa 1] [.va (some 0) (.list A), .va (some 0) (.list B), .em, .em] = .rz "OutOfRange" := call_rz (vs := [⟨true, some 0, .list A⟩, ⟨true, some 0, .list B⟩]) (by simp) rfl (c_check_lengths_rz h)
  rw [ap_seq, ap_ex, e]
  rfl
def atm (n : Nat) (u v : List OI) : Bool := (List.range n).all fun i => !lts (ato v i) (ato u i)
theorem c_at_most (hM : GM M) {n : Nat} {u v : List OI} (hu : u.length = n) (hv : v.length = n) (hn : n ≤ 1000) (bu : BmV 5500 u) (bv : BmV 5500 v) : f_at_most [eV M u, eV M v] = .ok (none, .bool (atm n u v)) := by
  have hp : ∀ a b : OI, Sm a → Sm b → f_is_less [en M a, en M b] = .ok (none, .bool (lts a b)) := fun a b ha hb => c_is_less hM ha hb
  have hcs : f_check_lengths [eV M u, eV M v] = .ok (none, .none) := c_check_lengths (by simp [hu, hv])
  refine runB_rt rfl ?_
  show s_at_most [.va (some 0) (eV M u), .va (some 0) (eV M v), .em, .em] = _
  unfold s_at_most
  apply sqR; intro T R' hT hR; rw [ap_ex, call2 (u := ⟨true, some 0, eV M u⟩) (v := ⟨true, some 0, eV M v⟩) rfl rfl hcs]; simp; subst hT hR
  have := lc_map (ρ := [.va (some 0) (eV M u), .va (some 0) (eV M v), .em, .em]) (xi := c_at_most_0_i) (own := [2, 3]) (bd := bdT [2, 3]) (cc := c_at_most_0_c) (x := c_at_most_0_x) (u.zip v) (fun p => itm (.tuple [en M p.1, en M p.2])) (fun p => .bool (!lts p.2 p.1))
    (it_zip (e_va rfl) (e_va rfl) (.inr (.inl rfl)) (.inr (.inl rfl))) (by have := List.length_zip (l₁ := u) (l₂ := v); omega) fun p hp' => by
      have hpm := List.of_mem_zip hp'
      refine ⟨_, rfl, rfl, false, none, ?_, .inl rfl⟩
      have h1 := hp p.2 p.1 (bv _ hpm.2) (bu _ hpm.1)
      simp [c_at_most_0_x, bindN, h1]
  rw [ap_ret, b1_of this dQuant_map]
  have e : (u.zip v).map (fun p => !lts p.2 p.1) = (List.range n).map fun i => !lts (ato v i) (ato u i) := by
    refine List.ext_getElem (by simp [hu, hv]) fun i h1 h2 => ?_
    simp [hu, hv] at h1
    simp [ato, List.getD, List.getElem?_eq_getElem (show i < u.length by omega), List.getElem?_eq_getElem (show i < v.length by omega)]
  rw [e]
  have e2 := all_id (as := List.range n) (p := fun i => !lts (ato v i) (ato u i))
  rw [e2]
  simp [atm]
end Lw

set_option Elab.async false
set_option linter.all false
set_option maxRecDepth 100000
set_option maxHeartbeats 400000
namespace Ev
open PySem PySem.Spec PyProof.Rows L2
/-! ### walks -/
/-- the time of a walk: a walk is a list of events, the last one is the latest -/
def wt (W : List (List OI)) (w : List Nat) : OI := (List.range (w.length - 1)).foldl (fun t a => pls t (at2 W (w.getD (a + 1) 0) (w.getD a 0))) (some 0)
theorem getD_app {w : List Nat} {i a : Nat} (h : a < w.length) : (w ++ [i]).getD a 0 = w.getD a 0 := by
  simp [List.getD, List.getElem?_append_left h]
theorem getD_last {w : List Nat} {i : Nat} : (w ++ [i]).getD w.length 0 = i := by
  simp [List.getD]
theorem wt_one {W : List (List OI)} {e : Nat} : wt W [e] = some 0 := rfl
theorem wt_snoc {W : List (List OI)} {w : List Nat} {i : Nat} (h : w ≠ []) : wt W (w ++ [i]) = pls (wt W w) (at2 W i (w.getD (w.length - 1) 0)) := by
  have hl : 0 < w.length := List.length_pos_iff.mpr h
  unfold wt
  have e : (w ++ [i]).length - 1 = (w.length - 1) + 1 := by simp; omega
  rw [e, List.range_succ, List.foldl_append, List.foldl_cons, List.foldl_nil]
  have e2 : w.length - 1 + 1 = w.length := by omega
  rw [e2, getD_last, getD_app (by omega)]
  congr 1
  have key : ∀ (l : List Nat) (t : OI), (∀ a ∈ l, a < w.length - 1) → l.foldl (fun t a => pls t (at2 W ((w ++ [i]).getD (a + 1) 0) ((w ++ [i]).getD a 0))) t = l.foldl (fun t a => pls t (at2 W (w.getD (a + 1) 0) (w.getD a 0))) t := fun l => by
    induction l with
    | nil => exact fun _ _ => rfl
    | cons a l ih =>
      intro t ha
      have := ha a List.mem_cons_self
      rw [List.foldl_cons, List.foldl_cons, getD_app (by omega), getD_app (by omega)]
      exact ih _ fun z hz => ha z (List.mem_cons_of_mem _ hz)
  exact key _ _ fun a ha => List.mem_range.mp ha
/-- all walks of the length L -/
def nextW (n : Nat) (W : List (List OI)) (w : List Nat) : List (List Nat) := ((List.range n).filter fun i => (at2 W i (w.getD (w.length - 1) 0)).isSome).map fun i => w ++ [i]
def wks (n : Nat) (W : List (List OI)) : Nat → List (List Nat)
  | 0 => (List.range n).map fun e => [e]
  | L + 1 => (wks n W L).flatMap (nextW n W)
theorem wks_spec {n : Nat} {W : List (List OI)} : ∀ (L : Nat) (w : List Nat), w ∈ wks n W L → w.length = L + 1 ∧ (∀ e ∈ w, e < n) ∧ (wt W w).isSome = true
  | 0, w, h => by
    obtain ⟨e, he, rfl⟩ := List.mem_map.mp h
    exact ⟨rfl, fun x hx => by rw [List.mem_singleton.mp hx]; exact List.mem_range.mp he, rfl⟩
  | L + 1, w, h => by
    obtain ⟨w0, h0, h1⟩ := List.mem_flatMap.mp h
    obtain ⟨a1, a2, a3⟩ := wks_spec L w0 h0
    obtain ⟨i, hi, rfl⟩ := List.mem_map.mp h1
    obtain ⟨hi1, hi2⟩ := List.mem_filter.mp hi
    refine ⟨by simp [a1], fun e he => ?_, ?_⟩
    · rcases List.mem_append.mp he with he | he
      · exact a2 e he
      · rw [List.mem_singleton.mp he]; exact List.mem_range.mp hi1
    · rw [wt_snoc (by intro z; rw [z] at a1; simp at a1)]
      cases h3 : wt W w0 with
      | none => rw [h3] at a3; cases a3
      | some t =>
        cases h4 : at2 W i (w0.getD (w0.length - 1) 0) with
        | none => rw [h4] at hi2; cases hi2
        | some u => rfl
def lastE (w : List Nat) : Nat := w.getD (w.length - 1) 0
theorem lastE_mem {n : Nat} {W : List (List OI)} {L : Nat} {w : List Nat} (h : w ∈ wks n W L) : lastE w < n ∧ w.getD 0 0 < n ∧ w ≠ [] := by
  obtain ⟨a1, a2, _⟩ := wks_spec L w h
  have hl : w.length - 1 < w.length := by omega
  refine ⟨?_, ?_, fun z => by rw [z] at a1; simp at a1⟩
  · unfold lastE
    rw [List.getD, List.getElem?_eq_getElem hl]
    exact a2 _ (List.getElem_mem hl)
  · rw [List.getD, List.getElem?_eq_getElem (show 0 < w.length by omega)]
    exact a2 _ (List.getElem_mem (by omega))
/-- the power's place is the greatest time of the walks -/
theorem mw_walks {n : Nat} {W : List (List OI)} (hW : Sq n W) : ∀ (L : Nat) (i j : Nat), i < n → j < n → ∀ c, le (at2 (mw n W L) i j) c ↔ ∀ w ∈ wks n W L, lastE w = i → w.getD 0 0 = j → le (wt W w) c
  | 0, i, j, hi, hj, c => by
    rw [show at2 (mw n W 0) i j = _ from at_mk hi hj]
    constructor
    · intro h w hw e1 e2
      obtain ⟨e, he, rfl⟩ := List.mem_map.mp hw
      have e1 : e = i := e1
      have e2 : e = j := e2
      rw [if_pos (by omega)] at h
      exact h
    · intro h
      split
      · rename_i hij
        exact h [i] (List.mem_map.mpr ⟨i, List.mem_range.mpr hi, rfl⟩) rfl hij
      · exact le_none
  | L + 1, i, j, hi, hj, c => by
    have e0 : at2 (mw n W (L + 1)) i j = big n fun k => pls (at2 W i k) (at2 (mw n W L) k j) := by
      rw [← mw_comm hW]
      exact at_mk hi hj
    rw [e0, big_le]
    have key : ∀ k, k < n → (le (pls (at2 W i k) (at2 (mw n W L) k j)) c ↔ ∀ w ∈ wks n W L, lastE w = k → w.getD 0 0 = j → le (pls (wt W w) (at2 W i k)) c) := fun k hk => by
      obtain ⟨P, h1, _⟩ := pls_le (at2 W i k) c
      rw [pls_comm, h1]
      -- P is downward closed: use the walks' own bound
      constructor
      · intro h w hw e1 e2
        refine le_trans (pls_mono ((mw_walks hW L k j hk hj _).mp (le_refl _) w hw e1 e2)) ((h1 _).mpr h)
      · intro h
        rw [← h1]
        -- the value of the power is taken by a walk, or it is None
        cases hv : at2 (mw n W L) k j with
        | none => exact le_none
        | some t =>
          have ex : ∃ w ∈ wks n W L, lastE w = k ∧ w.getD 0 0 = j ∧ le (some t) (wt W w) := by
            apply Classical.byContradiction
            intro hne
            have hlt : ∀ w ∈ wks n W L, lastE w = k → w.getD 0 0 = j → le (wt W w) (some (t - 1)) := fun w hw e1 e2 => by
              cases hw2 : wt W w with
              | none => exact le_none
              | some u =>
                have : ¬ le (some t) (some u) := fun z => hne ⟨w, hw, e1, e2, by rw [hw2]; exact z⟩
                rw [some_le] at this
                exact some_le.mpr (by omega)
            have := (mw_walks hW L k j hk hj _).mpr hlt
            rw [hv, some_le] at this
            omega
          obtain ⟨w, hw, e1, e2, e3⟩ := ex
          exact le_trans (pls_mono e3) (h w hw e1 e2)
    constructor
    · intro h w hw e1 e2
      obtain ⟨w0, h0, h1⟩ := List.mem_flatMap.mp hw
      obtain ⟨i', hi', rfl⟩ := List.mem_map.mp h1
      obtain ⟨l1, l2, l3⟩ := lastE_mem h0
      have hl0 : 0 < w0.length := List.length_pos_iff.mpr l3
      have e1 : i' = i := by
        rw [← e1]
        unfold lastE
        have : (w0 ++ [i']).length - 1 = w0.length := by simp
        rw [this, getD_last]
      rw [getD_app hl0] at e2
      rw [wt_snoc l3, e1]
      exact (key (lastE w0) l1).mp (h _ l1) w0 h0 rfl e2
    · intro h k hk
      rw [key k hk]
      intro w0 h0 e1 e2
      obtain ⟨l1, l2, l3⟩ := lastE_mem h0
      have hl0 : 0 < w0.length := List.length_pos_iff.mpr l3
      cases hv : at2 W i k with
      | none => rw [pls_none]; exact le_none
      | some u =>
        have hm : w0 ++ [i] ∈ wks n W (L + 1) := List.mem_flatMap.mpr ⟨w0, h0, List.mem_map.mpr ⟨i, List.mem_filter.mpr ⟨List.mem_range.mpr hi, by
          show (at2 W i (lastE w0)).isSome = true
          rw [e1, hv]; rfl⟩, rfl⟩⟩
        have := h _ hm (by
          unfold lastE
          have : (w0 ++ [i]).length - 1 = w0.length := by simp
          rw [this, getD_last]) (by rw [getD_app hl0]; exact e2)
        rw [wt_snoc l3] at this
        rw [← hv, ← e1]
        exact this
/-! ### the table of the greatest times -/
def set2 (T : List (List OI)) (i j : Nat) (m : OI) : List (List OI) := T.set i ((rwo T i).set j m)
theorem sq_set2 {n : Nat} {T : List (List OI)} {i j : Nat} {m : OI} (h : Sq n T) (hi : i < n) : Sq n (set2 T i j m) := ⟨by simp [set2, h.l], fun r hr => by
  rcases List.mem_or_eq_of_mem_set hr with hr | rfl
  · exact h.r r hr
  · rw [List.length_set]; exact (h.row hi).2⟩
theorem at_set2 {n : Nat} {T : List (List OI)} {i j k l : Nat} {m : OI} (h : Sq n T) (hi : i < n) (hj : j < n) (hk : k < n) (hl : l < n) : at2 (set2 T i j m) k l = if k = i ∧ l = j then m else at2 T k l := by
  have hiT : i < T.length := by rw [h.l]; exact hi
  have hkT : k < T.length := by rw [h.l]; exact hk
  have hr := (h.row hi).2
  unfold at2 set2
  by_cases hki : k = i
  · subst hki
    have e : rwo (T.set k ((rwo T k).set j m)) k = (rwo T k).set j m := by
      unfold rwo
      simp [List.getD, hiT]
    rw [e]
    unfold ato
    by_cases hlj : l = j
    · subst hlj
      rw [if_pos ⟨rfl, rfl⟩]
      simp [List.getD, show l < (rwo T k).length by omega]
    · rw [if_neg (fun z => hlj z.2)]
      simp [List.getD, List.getElem?_set_ne (Ne.symm hlj)]
  · rw [if_neg (fun z => hki z.1)]
    have e : rwo (T.set i ((rwo T i).set j m)) k = rwo T k := by
      unfold rwo
      simp [List.getD, List.getElem?_set_ne (Ne.symm hki)]
    rw [e]
def putW (W : List (List OI)) (T : List (List OI)) (w : List Nat) : List (List OI) := set2 T (lastE w) (w.getD 0 0) (lat [at2 T (lastE w) (w.getD 0 0), wt W w])
theorem lat2 {a b : OI} {c : OI} : le (lat [a, b]) c ↔ le a c ∧ le b c := by rw [lat_le]; simp
theorem put_fold {n : Nat} {W : List (List OI)} : ∀ (ws : List (List Nat)) (T : List (List OI)), Sq n T → (∀ w ∈ ws, lastE w < n ∧ w.getD 0 0 < n) → Sq n (ws.foldl (putW W) T) ∧ ∀ i j, i < n → j < n → ∀ c, le (at2 (ws.foldl (putW W) T) i j) c ↔ le (at2 T i j) c ∧ ∀ w ∈ ws, lastE w = i → w.getD 0 0 = j → le (wt W w) c
  | [], T, hT, _ => ⟨hT, fun i j hi hj c => by simp⟩
  | w :: ws, T, hT, h => by
    obtain ⟨h1, h2⟩ := h w List.mem_cons_self
    obtain ⟨a1, a2⟩ := put_fold (W := W) ws (putW W T w) (sq_set2 hT h1) fun z hz => h z (List.mem_cons_of_mem _ hz)
    refine ⟨a1, fun i j hi hj c => ?_⟩
    rw [List.foldl_cons, a2 i j hi hj c]
    unfold putW
    rw [at_set2 hT h1 h2 hi hj]
    simp only [List.mem_cons, forall_eq_or_imp]
    by_cases hc : i = lastE w ∧ j = w.getD 0 0
    · obtain ⟨rfl, rfl⟩ := hc
      rw [if_pos ⟨rfl, rfl⟩, lat2]
      constructor
      · rintro ⟨⟨x, y⟩, z⟩
        exact ⟨x, fun _ _ => y, z⟩
      · rintro ⟨x, y, z⟩
        exact ⟨⟨x, y rfl rfl⟩, z⟩
    · rw [if_neg hc]
      constructor
      · rintro ⟨x, z⟩
        exact ⟨x, fun e1 e2 => absurd ⟨e1.symm, e2.symm⟩ hc, z⟩
      · rintro ⟨x, _, z⟩
        exact ⟨x, z⟩
def noneT (n : Nat) : List (List OI) := mk2 n fun _ _ => none
theorem table_power {n : Nat} {W : List (List OI)} (hW : Sq n W) (L : Nat) : (wks n W L).foldl (putW W) (noneT n) = mw n W L := by
  obtain ⟨a1, a2⟩ := put_fold (W := W) (wks n W L) (noneT n) (sq_mk _ _) fun w hw => ⟨(lastE_mem hw).1, (lastE_mem hw).2.1⟩
  rw [mk2_self a1, mk2_self (sq_mw (A := W) L)]
  refine mk2_congr fun i j hi hj => eq_of_le fun c => ?_
  rw [a2 i j hi hj c, mw_walks hW L i j hi hj c, show at2 (noneT n) i j = none from at_mk hi hj]
  exact ⟨fun h => h.2, fun h => ⟨le_none, h⟩⟩
/-- a column of the power -/
theorem mv_unit {n : Nat} {A : List (List OI)} {e : Nat} (he : e < n) : mv n A (mk1 n fun k => if k = e then some 0 else none) = mk1 n fun i => at2 A i e := by
  refine mk1_congr fun i hi => ?_
  rw [big_unit he fun k hk h => by rw [at_mk1 hk, if_neg h, pls_none], at_mk1 he, if_pos rfl, pls_zero]
end Ev

set_option Elab.async false
set_option linter.all false
set_option maxRecDepth 100000
set_option maxHeartbeats 1000000
namespace Lw
open PySem PySem.Spec PyProof.Rows L2 Ev
variable {M : Int}
theorem en_zero0 {M : Int} (hM : 0 < M) : en M (some 0) = pr 0 1 := by
  show nf 0 M = _
  rw [← nf_one, ← nf_scale (t := 0) (l := 1) (f := M) (by decide) hM, Int.zero_mul, Int.one_mul]
/-! ### the time of a walk -/
def pwt (W : List (List OI)) (w : List Nat) (k : Nat) : OI := (List.range k).foldl (fun t a => pls t (at2 W (w.getD (a + 1) 0) (w.getD a 0))) (some 0)
theorem pwt_succ {W : List (List OI)} {w : List Nat} {k : Nat} : pwt W w (k + 1) = pls (pwt W w k) (at2 W (w.getD (k + 1) 0) (w.getD k 0)) := by
  unfold pwt
  rw [List.range_succ, List.foldl_append]
  rfl
theorem pwt_wt {W : List (List OI)} {w : List Nat} : pwt W w (w.length - 1) = wt W w := rfl
def okw (n : Nat) (ws : List Int) : Bool := ws.all fun e => decide (0 ≤ e) && decide (e < (n : Int))
theorem okw_nat {n : Nat} {ws : List Int} (h : okw n ws = true) : ∃ w : List Nat, ws = w.map (fun e : Nat => (e : Int)) ∧ ∀ e ∈ w, e < n := by
  refine ⟨ws.map Int.toNat, ?_, fun e he => ?_⟩
  · rw [List.map_map]
    conv => lhs; rw [← List.map_id ws]
    refine List.map_congr_left fun e he => ?_
    have := List.all_eq_true.mp h e he
    simp only [Bool.and_eq_true, decide_eq_true_eq] at this
    show e = ((e.toNat : Nat) : Int)
    omega
  · obtain ⟨x, hx, rfl⟩ := List.mem_map.mp he
    have := List.all_eq_true.mp h x hx
    simp only [Bool.and_eq_true, decide_eq_true_eq] at this
    omega
theorem okw_of {n : Nat} {w : List Nat} (h : ∀ e ∈ w, e < n) : okw n (w.map fun e : Nat => (e : Int)) = true := by
  refine List.all_eq_true.mpr fun e he => ?_
  obtain ⟨x, hx, rfl⟩ := List.mem_map.mp he
  have := h x hx
  simp
  omega
theorem getD_lt {n : Nat} {w : List Nat} {a : Nat} (h : ∀ e ∈ w, e < n) (ha : a < w.length) : w.getD a 0 < n := by
  rw [List.getD, List.getElem?_eq_getElem ha]
  exact h _ (List.getElem_mem ha)
theorem pwt_bm {n b : Nat} {W : List (List OI)} {w : List Nat} (hW : Sq n W) (bW : BmW b W) (h : ∀ e ∈ w, e < n) : ∀ k, k + 1 ≤ w.length → Bm (b + k) (pwt W w k)
  | 0, _ => Bm.some (by unfold Bd; simp [Nat.two_pow_pos])
  | k + 1, hk => by
    rw [pwt_succ]
    refine (pwt_bm hW bW h k (by omega)).pls ?_
    exact (at_bm hW bW (getD_lt h (by omega)) (getD_lt h (by omega))).mono (by omega)
abbrev iL (w : List Nat) : D := .list (w.map fun e => .int (e : Nat))
theorem ix_iL {w : List Nat} {a : Nat} {bb b2 : Bool} {k k2 : Lv} (h : a < w.length) : ixD ⟨bb, k, iL w⟩ ⟨b2, k2, .int (a : Nat)⟩ = .ok ⟨false, none, .int (w.getD a 0 : Nat)⟩ := by
  rw [ix_n (f := fun e : Nat => PyData.int (e : Int)) h, pick_flat rfl]
  rfl
theorem ix_2 {n i j : Nat} {W : List (List OI)} {bb b2 : Bool} {k2 : Lv} (hW : Sq n W) (hi : i < n) (hj : j < n) : (ixD ⟨bb, some 0, eW M W⟩ ⟨b2, k2, .int (i : Nat)⟩).bind (fun u => ixD u ⟨b2, k2, .int (j : Nat)⟩) = .ok ⟨false, none, en M (at2 W i j)⟩ := by
  rw [ix_r (by rw [hW.l]; exact hi), Res.bind_ok, ix_o (by rw [(hW.row hi).2]; exact hj)]
  rfl
theorem c_walk_time (hM : GM M) {n : Nat} {W : List (List OI)} {w : List Nat} (hW : Sq n W) (bW : BmW 1000 W) (hn : n ≤ 1000) (h : ∀ e ∈ w, e < n) (h0 : w ≠ []) (hl : w.length ≤ 3000) : f_walk_time [eW M W, iL w] = .ok (none, en M (wt W w)) := by
  have hp : ∀ a b : OI, Sm a → Sm b → f_plus [en M a, en M b] = .ok (none, en M (pls a b)) := fun a b ha hb => c_plus hM ha hb
  have hl0 : 0 < w.length := List.length_pos_iff.mpr h0
  refine runB_rt rfl ?_
  show s_walk_time [.va (some 0) (eW M W), .va (some 0) (iL w), .em, .em, .em] = _
  unfold s_walk_time
  have hc := lc_map (ρ := [.va (some 0) (eW M W), .va (some 0) (iL w), .em, .em, .em]) (xi := c_walk_time_0_i) (own := [2]) (bd := bd1 2) (cc := c_walk_time_0_c) (x := c_walk_time_0_x) w (fun e => ⟨false, none, .int (e : Nat)⟩) (fun _ => .bool true)
    (it_flat (e_va rfl) (fun x => rfl) (.inr (.inl rfl))) (by omega) fun e he => by
      refine ⟨_, rfl, rfl, false, none, ?_, .inl rfl⟩
      have hen := h e he
      simp [c_walk_time_0_x, hW.l, hen]
  have ht : xTru (xA true (b1 (dQuant fun bs => bs.all id)) [xLc c_walk_time_0_i [2] (bd1 2) c_walk_time_0_c c_walk_time_0_x]) [.va (some 0) (eW M W), .va (some 0) (iL w), .em, .em, .em] = .ok true := by
    refine tru_b (bb := false) (k := none) (b1_of hc ?_)
    dsimp only
    rw [dQuant_map (p := fun _ : Nat => true)]
    simp
  apply sqR; intro T R' hT hR
  rw [if_ff (not_tt ht)]
  simp; subst hT hR
  apply sqR; intro T R' hT hR; simp; subst hT hR
  have e0 : pr 0 1 = en M (pwt W w 0) := (en_zero0 hM.1).symm
  rw [e0]
  have L := sFor_steps (s := l_walk_time_1_b) (xi := l_walk_time_1_i) (bd := bd1 4) (List.range (w.length - 1)) (fun i => ⟨false, none, .int (i : Nat)⟩) (fun i => [.va (some 0) (eW M W), .va (some 0) (iL w), .em, .va none (en M (pwt W w i)), .em])
    (it_range1 (n := w.length - 1) (bb := false) (k := none) (by
      have : (w.length : Int) - 1 = ((w.length - 1 : Nat) : Int) := by omega
      simp [this]) (by omega)) fun i e hi => by
      have hi' := (List.getElem?_eq_some_iff.mp hi)
      have hlt := hi'.1
      rw [List.length_range] at hlt
      have he : e = i := by have := hi'.2; simpa using this.symm
      subst he
      refine ⟨_, rfl, .inl ?_⟩
      have b1 := pwt_bm hW bW h e (by omega)
      have g1 := getD_lt h (show e + 1 < w.length by omega)
      have g0 := getD_lt h (show e < w.length by omega)
      have h1 := hp (pwt W w e) (at2 W (w.getD (e + 1) 0) (w.getD e 0)) (b1.mono (by omega)) ((at_bm hW bW g1 g0).mono (by omega))
      have i1 := ix_iL (w := w) (bb := true) (b2 := false) (k := some 0) (k2 := none) (show e + 1 < w.length by omega)
      have i0 := ix_iL (w := w) (bb := true) (b2 := true) (k := some 0) (k2 := none) (show e < w.length by omega)
      have i2 := ix_2 (M := M) (bb := true) (b2 := false) (k2 := none) hW g1 g0
      rw [pwt_succ]
      unfold l_walk_time_1_b
      have ee : xA true (xCall f_plus 2) [xVa 3, x2 ixD (x2 ixD (xVa 0) (x2 ixD (xVa 1) (x2 (pl dAdd) (xVa 4) (xCn (.int 1))))) (x2 ixD (xVa 1) (xVa 4))] [.va (some 0) (eW M W), .va (some 0) (iL w), .em, .va none (en M (pwt W w e)), .va none (.int e)] = .ok ⟨false, none, en M (pls (pwt W w e) (at2 W (w.getD (e + 1) 0) (w.getD e 0)))⟩ := by
        refine call2 (u := ⟨true, none, en M (pwt W w e)⟩) rfl (v := ⟨false, none, en M (at2 W (w.getD (e + 1) 0) (w.getD e 0))⟩) ?_ h1
        have z1 : x2 ixD (xVa 1) (x2 (pl dAdd) (xVa 4) (xCn (.int 1))) [.va (some 0) (eW M W), .va (some 0) (iL w), .em, .va none (en M (pwt W w e)), .va none (.int e)] = .ok ⟨false, none, .int (w.getD (e + 1) 0 : Nat)⟩ := by
          have : (e : Int) + 1 = ((e + 1 : Nat) : Int) := by omega
          rw [ap_x2, xVa_1, Res.bind_ok, ap_x2, xVa_4, Res.bind_ok, ap_cn, Res.bind_ok, pl_ap, dAdd_i, Res.bind_ok, Res.bind_ok, this, i1]
        have z0 : x2 ixD (xVa 1) (xVa 4) [.va (some 0) (eW M W), .va (some 0) (iL w), .em, .va none (en M (pwt W w e)), .va none (.int e)] = .ok ⟨false, none, .int (w.getD e 0 : Nat)⟩ := by
          rw [ap_x2, xVa_1, Res.bind_ok, xVa_4, Res.bind_ok, i0]
        rw [ap_x2, ap_x2, xVa_0, Res.bind_ok, z1, Res.bind_ok, z0]
        exact i2
      apply sqR; intro T R' hT hR
      rw [ap_asg]
      simp only [setSl_stA, stA_va, stA_em, stA_0, kil_nil] at *
      rw [ee]
      simp; subst hT hR
      simp
  rw [List.length_range] at L
  refine (sSeq_nx L).trans ?_
  rw [pwt_wt]
  simp
end Lw

set_option Elab.async false
set_option linter.all false
set_option maxRecDepth 100000
set_option maxHeartbeats 2000000
namespace Lw
open PySem PySem.Spec PyProof.Rows L2 Ev
theorem lay_all {ds : List D} (h : ∀ d ∈ ds, d.canLay0 = true) : PyData.canLayAll0 ds = true := by
  induction ds with
  | nil => rfl
  | cons d ds ih => simp only [PyData.canLayAll0, h d List.mem_cons_self, ih fun z hz => h z (List.mem_cons_of_mem _ hz), Bool.and_self]
theorem dep_all {n : Nat} {ds : List D} (h : ∀ d ∈ ds, d.depth ≤ n) : PyData.depthAll ds ≤ n := by
  induction ds with
  | nil => exact Nat.zero_le _
  | cons d ds ih =>
    have := h d List.mem_cons_self
    have := ih fun z hz => h z (List.mem_cons_of_mem _ hz)
    simp only [PyData.depthAll]; omega
theorem lay_en {M : Int} {m : OI} : (en M m).canLay0 = true ∧ (en M m).depth ≤ 1 := by
  cases m with
  | none => exact ⟨rfl, Nat.zero_le _⟩
  | some t => exact ⟨rfl, Nat.le_refl _⟩
theorem lay_eV {M : Int} {v : List OI} : (eV M v).canLay0 = true ∧ (eV M v).depth ≤ 2 := by
  refine ⟨?_, ?_⟩
  · simp only [PyData.canLay0]
    exact lay_all fun d hd => by obtain ⟨m, _, rfl⟩ := List.mem_map.mp hd; exact lay_en.1
  · simp only [PyData.depth]
    have := dep_all (n := 1) (ds := v.map (en M)) fun d hd => by obtain ⟨m, _, rfl⟩ := List.mem_map.mp hd; exact lay_en.2
    omega
theorem lay_eW {M : Int} {W : List (List OI)} : (eW M W).canLay0 = true ∧ (eW M W).depth ≤ 3 := by
  refine ⟨?_, ?_⟩
  · simp only [PyData.canLay0]
    exact lay_all fun d hd => by obtain ⟨m, _, rfl⟩ := List.mem_map.mp hd; exact lay_eV.1
  · simp only [PyData.depth]
    have := dep_all (n := 2) (ds := W.map fun r => .list (r.map (en M))) fun d hd => by obtain ⟨m, _, rfl⟩ := List.mem_map.mp hd; exact lay_eV.2
    omega
theorem shaped_eV {M : Int} {v : List OI} : SeqAt.shaped (eV M v) = true := by
  unfold SeqAt.shaped
  rw [lay_eV.1, decide_eq_true (by have := (lay_eV (M := M) (v := v)).2; omega)]
  rfl
theorem shaped_eW {M : Int} {W : List (List OI)} : SeqAt.shaped (eW M W) = true := by
  unfold SeqAt.shaped
  rw [lay_eW.1, decide_eq_true (by have := (lay_eW (M := M) (W := W)).2; omega)]
  rfl
@[simp] theorem dNe_eV {M : Int} {v : List OI} : dNe (eV M v) (eV M v) = .ok (.bool false) := dNe_self shaped_eV
@[simp] theorem dNe_eW {M : Int} {W : List (List OI)} : dNe (eW M W) (eW M W) = .ok (.bool false) := dNe_self shaped_eW
theorem c_cellI {ns : List Int} {k : Int} (h : 0 ≤ k) : f__law_cell [.list (ns.map .int), .int k] = .ok (none, .int (ns.getD k.toNat 0)) := by
  have e : k = ((k.toNat : Nat) : Int) := by omega
  conv => lhs; rw [e]
  exact c_cell
theorem cell_e {ns : List Int} {ρ : Rho} {E : Rho → Res BV} {k : Int} {bb : Bool} {kk : Lv} (h0 : xVa 0 ρ = .ok ⟨true, some 0, .list (ns.map .int)⟩) (h : E ρ = .ok ⟨bb, kk, .int k⟩) (hk : 0 ≤ k) : xA true (xCall f__law_cell 2) [xVa 0, E] ρ = .ok ⟨false, none, .int (ns.getD k.toNat 0)⟩ :=
  call2 h0 h (c_cellI hk)
theorem flats_ints (ns : List Int) : flats (ns.map PyData.int) = true := flats_map fun _ => rfl
theorem cut_ft {ds : List D} {a b : Nat} : Ev.cutD ds (some (a : Int)) (some (b : Int)) = (ds.drop (min a ds.length)).take (min b ds.length - min a ds.length) := by
  unfold Ev.cutD
  rw [HT.sIx_nat, HT.sIx_nat]
theorem cut_f {ds : List D} {a : Nat} : Ev.cutD ds (some (a : Int)) none = ds.drop (min a ds.length) := by
  unfold Ev.cutD
  rw [HT.sIx_nat, HT.sIx_none]
  exact List.take_of_length_le (by rw [List.length_drop]; omega)
theorem slice_ints {ns : List Int} {a b : Nat} : Ev.cutD (ns.map PyData.int) (some (a : Int)) (some (b : Int)) = ((ns.drop (min a ns.length)).take (min b ns.length - min a ns.length)).map .int := by
  have := cut_ft (ds := ns.map PyData.int) (a := a) (b := b)
  simp only [List.length_map] at this
  rw [List.map_take, List.map_drop]
  exact this
theorem slice_intsF {ns : List Int} {a : Nat} : Ev.cutD (ns.map PyData.int) (some (a : Int)) none = (ns.drop (min a ns.length)).map .int := by
  have := cut_f (ds := ns.map PyData.int) (a := a)
  rw [List.length_map, ← List.map_drop] at this
  exact this
theorem ne_false {ρ : Rho} {a b : Rho → Res BV} {b1 b2 : Bool} {k1 k2 : Lv} {d e : D} (ha : a ρ = .ok ⟨b1, k1, d⟩) (hb : b ρ = .ok ⟨b2, k2, e⟩) (h : dNe d e = .ok (.bool false)) : xTb (x2 (pl dNe) a b) ρ = .ok false := by
  rw [ap_tb, ap_x2, ha, Res.bind_ok, hb, Res.bind_ok, pl_ap, h]; rfl
theorem Wk.sq {n : Nat} {W : List (List OI)} (h : Wk n W) : Sq n W := ⟨h.l, h.r⟩
end Lw

set_option Elab.async false
set_option linter.all false
set_option maxRecDepth 100000
set_option maxHeartbeats 400000
namespace Ev
open PySem PySem.Spec PyProof.Rows L2
/-! ### how many different ones -/
theorem ms_S : ∀ (ks : List Int) (t : Ms) (j : Int), (ks.foldl Ms.add t).S j = (t.S j || decide (j ∈ ks))
  | [], t, j => by simp
  | k :: ks, t, j => by
    rw [List.foldl_cons, ms_S ks (t.add k) j]
    show ((t.S j || decide (j = k)) || decide (j ∈ ks)) = (t.S j || decide (j ∈ k :: ks))
    rw [Bool.or_assoc]
    congr 1
    by_cases h : j = k
    · simp [h]
    · simp [h]
theorem ms_n_le : ∀ (ks : List Int) (t : Ms), (ks.foldl Ms.add t).n ≤ t.n + ks.length := ms_le
theorem ms_n : ∀ (ks : List Int) (t : Ms), (ks.foldl Ms.add t).n = t.n + ks.length ↔ ks.Nodup ∧ ∀ k ∈ ks, t.S k = false
  | [], t => by simp
  | k :: ks, t => by
    rw [List.foldl_cons, List.length_cons]
    have ih := ms_n ks (t.add k)
    have le := ms_le ks (t.add k)
    have hS : ∀ j, (t.add k).S j = (t.S j || decide (j = k)) := fun j => rfl
    cases hk : t.S k with
    | true =>
      have hn : (t.add k).n = t.n := by unfold Ms.add; simp [hk]
      rw [hn] at le
      constructor
      · intro h; omega
      · intro h
        have := h.2 k List.mem_cons_self
        rw [hk] at this; cases this
    | false =>
      have hn : (t.add k).n = t.n + 1 := by unfold Ms.add; simp [hk]
      rw [hn] at ih
      have e : t.n + (ks.length + 1) = t.n + 1 + ks.length := by omega
      rw [e, ih, List.nodup_cons]
      constructor
      · rintro ⟨h1, h2⟩
        refine ⟨⟨fun hm => ?_, h1⟩, fun j hj => ?_⟩
        · have := h2 k hm
          rw [hS] at this
          simp at this
        · rcases List.mem_cons.mp hj with rfl | hj
          · exact hk
          · have := h2 j hj
            rw [hS] at this
            simp at this
            exact this.1
      · rintro ⟨⟨h1, h2⟩, h3⟩
        refine ⟨h2, fun j hj => ?_⟩
        rw [hS, h3 j (List.mem_cons_of_mem _ hj)]
        have : j ≠ k := fun z => h1 (z ▸ hj)
        simp [this]
theorem msOf_nodup {ks : List Int} : (msOf ks).n = ks.length ↔ ks.Nodup := by
  have := ms_n ks Ms.nil
  have e : Ms.nil.n = 0 := rfl
  unfold msOf
  rw [e, Nat.zero_add] at this
  rw [this]
  exact ⟨fun h => h.1, fun h => ⟨h, fun _ _ => rfl⟩⟩
/-! ### circuits in normal form -/
/-- the law's test, from the k-th event on -/
def okC (w0 : Int) (inner : List Int) : Bool := (List.range inner.length).all fun k => !(decide (inner.getD k 0 ∈ inner.take k) || decide (inner.getD k 0 < w0))
theorem nodup_take {l : List Int} : l.Nodup ↔ ∀ k, k < l.length → l.getD k 0 ∉ l.take k := by
  constructor
  · intro h k hk hm
    obtain ⟨i, hi, e⟩ := List.getElem_of_mem hm
    rw [List.length_take] at hi
    rw [List.getElem_take] at e
    have hik : i < k := by omega
    have := (List.pairwise_iff_getElem.mp h) i k (by omega) hk hik
    rw [List.getD, List.getElem?_eq_getElem hk] at e
    exact this e
  · intro h
    refine List.pairwise_iff_getElem.mpr fun i j hi hj hij e => ?_
    refine h j hj ?_
    rw [List.getD, List.getElem?_eq_getElem hj]
    show l[j] ∈ _
    rw [← e]
    have : i < (l.take j).length := by rw [List.length_take]; omega
    have e2 : (l.take j)[i] = l[i] := List.getElem_take
    rw [← e2]
    exact List.getElem_mem this
theorem okC_iff {w0 : Int} {inner : List Int} : okC w0 inner = true ↔ inner.Nodup ∧ ∀ x ∈ inner, w0 ≤ x := by
  unfold okC
  rw [List.all_eq_true]
  constructor
  · intro h
    have h' : ∀ k, k < inner.length → inner.getD k 0 ∉ inner.take k ∧ ¬ inner.getD k 0 < w0 := fun k hk => by
      have := h k (List.mem_range.mpr hk)
      simp only [Bool.not_eq_true', Bool.or_eq_false_iff, decide_eq_false_iff_not] at this
      exact this
    refine ⟨nodup_take.mpr fun k hk => (h' k hk).1, fun x hx => ?_⟩
    obtain ⟨i, hi, e⟩ := List.getElem_of_mem hx
    have := (h' i hi).2
    rw [List.getD, List.getElem?_eq_getElem hi] at this
    have e2 : (some inner[i]).getD 0 = inner[i] := rfl
    rw [e2, e] at this
    omega
  · rintro ⟨h1, h2⟩ k hk
    have hk := List.mem_range.mp hk
    have a := nodup_take.mp h1 k hk
    have b : w0 ≤ inner.getD k 0 := h2 _ (by rw [List.getD, List.getElem?_eq_getElem hk]; exact List.getElem_mem hk)
    simp only [Bool.not_eq_true', Bool.or_eq_false_iff, decide_eq_false_iff_not]
    exact ⟨a, by omega⟩
end Ev

set_option Elab.async false
set_option linter.all false
set_option maxRecDepth 100000
set_option maxHeartbeats 1000000
namespace Lw
open PySem PySem.Spec PyProof.Rows L2 Ev
variable {M : Int}
section
variable {s : Rho → SR} {ρ : Rho}
/-- a loop that tests its items: it goes on, or the def returns -/
theorem forL_test {A : Type} {bd : Rho → BV → Res Rho} (iv : A → BV) (p : A → Bool) (d : D) : ∀ as : List A, (∀ e ∈ as, ∃ ρ1, bd ρ (iv e) = .ok ρ1 ∧ s ρ1 = if p e = true then .nx ρ else .rt none d) → forL bd s (as.map iv) ρ = if as.all p = true then .nx ρ else .rt none d
  | [], _ => rfl
  | e :: as, h => by
    obtain ⟨ρ1, h1, h2⟩ := h e List.mem_cons_self
    have ih := forL_test iv p d as fun z hz => h z (List.mem_cons_of_mem _ hz)
    rw [List.map_cons, List.all_cons]
    by_cases hp : p e = true
    · rw [if_pos hp] at h2
      rw [forL_nx h1 h2, ih, hp, Bool.true_and]
    · rw [if_neg hp] at h2
      rw [forL_rt h1 h2, Bool.eq_false_iff.mpr hp, Bool.false_and]
      rfl
theorem sFor_test {A : Type} {xi : Rho → Res (List BV)} {bd : Rho → BV → Res Rho} (as : List A) (iv : A → BV) (p : A → Bool) (d : D) (hi : xi ρ = .ok (as.map iv)) (h : ∀ e ∈ as, ∃ ρ1, bd ρ (iv e) = .ok ρ1 ∧ s ρ1 = if p e = true then .nx ρ else .rt none d) :
    sFor xi bd s ρ = if as.all p = true then .nx ρ else .rt none d := by
  have e := forL_test iv p d as h
  by_cases hp : as.all p = true
  · rw [if_pos hp] at e ⊢
    exact sFor_nx hi e
  · rw [if_neg hp] at e ⊢
    exact sFor_rt hi e
end
abbrev zL (ws : List Int) : D := .list (ws.map .int)
/-- the time of any list of ints -/
def wti (n : Nat) (W : List (List OI)) (ws : List Int) : OI := if okw n ws = true then wt W (ws.map Int.toNat) else none
theorem okw_toNat {n : Nat} {ws : List Int} (h : okw n ws = true) : zL ws = iL (ws.map Int.toNat) ∧ ∀ e ∈ ws.map Int.toNat, e < n := by
  obtain ⟨w, rfl, hw⟩ := okw_nat h
  have e : (w.map fun e : Nat => (e : Int)).map Int.toNat = w := by
    rw [List.map_map]
    conv => rhs; rw [← List.map_id w]
    exact List.map_congr_left fun x _ => rfl
  rw [e]
  refine ⟨?_, hw⟩
  show PyData.list _ = PyData.list _
  rw [List.map_map]
  rfl
theorem c_walk_time_z (hM : GM M) {n : Nat} {W : List (List OI)} {ws : List Int} (hW : Sq n W) (bW : BmW 1000 W) (hn : n ≤ 1000) (h0 : ws ≠ []) (hl : ws.length ≤ 3000) : f_walk_time [eW M W, zL ws] = .ok (none, en M (wti n W ws)) := by
  unfold wti
  by_cases h : okw n ws = true
  · obtain ⟨e, hw⟩ := okw_toNat h
    rw [if_pos h, e]
    exact c_walk_time hM hW bW hn hw (by simpa using h0) (by simpa using hl)
  · rw [if_neg h]
    refine runB_rt rfl ?_
    show s_walk_time [.va (some 0) (eW M W), .va (some 0) (zL ws), .em, .em, .em] = _
    unfold s_walk_time
    have hc := lc_map (ρ := [.va (some 0) (eW M W), .va (some 0) (zL ws), .em, .em, .em]) (xi := c_walk_time_0_i) (own := [2]) (bd := bd1 2) (cc := c_walk_time_0_c) (x := c_walk_time_0_x) ws (fun e => ⟨false, none, .int e⟩) (fun e => .bool (decide (0 ≤ e) && decide (e < (n : Int))))
      (it_flat (e_va rfl) (fun x => rfl) (.inr (.inl rfl))) (by omega) fun e he => by
        refine ⟨_, rfl, rfl, false, none, ?_, .inl rfl⟩
        by_cases h1 : 0 ≤ e
        · simp [c_walk_time_0_x, hW.l, h1]
        · simp [c_walk_time_0_x, hW.l, h1]
    have ht : xTru (xA true (b1 (dQuant fun bs => bs.all id)) [xLc c_walk_time_0_i [2] (bd1 2) c_walk_time_0_c c_walk_time_0_x]) [.va (some 0) (eW M W), .va (some 0) (zL ws), .em, .em, .em] = .ok false := by
      refine tru_b (bb := false) (k := none) (b1_of hc ?_)
      dsimp only
      rw [dQuant_map (p := fun e : Int => decide (0 ≤ e) && decide (e < (n : Int))), all_id]
      show Res.ok (PyData.bool (okw n ws)) = _
      rw [Bool.eq_false_iff.mpr h]
    rw [ap_seq, if_tt ((not_tt ht).trans rfl)]
    rfl
theorem c_lwalk_time (hM : GM M) {n : Nat} {W : List (List OI)} {w : List Nat} (hW : Sq n W) (bW : BmW 1000 W) (hn : n ≤ 1000) (h : ∀ e ∈ w, e < n) (h0 : w ≠ []) (hl : w.length ≤ 3000) : f__law_walk_time [eW M W, iL w] = .ok (none, en M (wt W w)) := by
  have hp : ∀ a b : OI, Sm a → Sm b → f__law_plus [en M a, en M b] = .ok (none, en M (pls a b)) := fun a b ha hb => c_lplus hM ha hb
  have hl0 : 0 < w.length := List.length_pos_iff.mpr h0
  refine runB_rt rfl ?_
  show s__law_walk_time [.va (some 0) (eW M W), .va (some 0) (iL w), .em, .em, .em] = _
  unfold s__law_walk_time
  apply sqR; intro T R' hT hR; simp; subst hT hR
  have L0 := sFor_id (s := l__law_walk_time_0_b) (xi := l__law_walk_time_0_i) (bd := bd1 3) (ρ := [.va (some 0) (eW M W), .va (some 0) (iL w), .va none (pr 0 1), .em, .em]) w (fun e => ⟨false, none, .int (e : Nat)⟩)
    (it_flat (e_va rfl) (fun x => rfl) (.inr (.inl rfl))) fun e he => by
      refine ⟨_, rfl, .inl ?_⟩
      have hen := h e he
      simp [l__law_walk_time_0_b, hW.l, hen]
  refine (sSeq_nx L0).trans ?_
  apply sFq; intro T R' hT hR; simp; subst hT hR
  have e0 : pr 0 1 = en M (pwt W w 0) := (en_zero0 hM.1).symm
  rw [e0]
  have L := sFor_steps (s := l__law_walk_time_1_b) (xi := l__law_walk_time_1_i) (bd := bd1 4) (List.range (w.length - 1)) (fun i => ⟨false, none, .int (i : Nat)⟩) (fun i => [.va (some 0) (eW M W), .va (some 0) (iL w), .va none (en M (pwt W w i)), .em, .em])
    (it_range1 (n := w.length - 1) (bb := false) (k := none) (by
      have : (w.length : Int) - 1 = ((w.length - 1 : Nat) : Int) := by omega
      simp [this]) (by omega)) fun i e hi => by
      have hi' := (List.getElem?_eq_some_iff.mp hi)
      have hlt := hi'.1
      rw [List.length_range] at hlt
      have he : e = i := by have := hi'.2; simpa using this.symm
      subst he
      refine ⟨_, rfl, .inl ?_⟩
      have b1 := pwt_bm hW bW h e (by omega)
      have g1 := getD_lt h (show e + 1 < w.length by omega)
      have g0 := getD_lt h (show e < w.length by omega)
      have h1 := hp (pwt W w e) (at2 W (w.getD (e + 1) 0) (w.getD e 0)) (b1.mono (by omega)) ((at_bm hW bW g1 g0).mono (by omega))
      have i1 := ix_iL (w := w) (bb := true) (b2 := false) (k := some 0) (k2 := none) (show e + 1 < w.length by omega)
      have i0 := ix_iL (w := w) (bb := true) (b2 := true) (k := some 0) (k2 := none) (show e < w.length by omega)
      have i2 := ix_2 (M := M) (bb := true) (b2 := false) (k2 := none) hW g1 g0
      rw [pwt_succ]
      unfold l__law_walk_time_1_b
      have ee : xA true (xCall f__law_plus 2) [xVa 2, x2 ixD (x2 ixD (xVa 0) (x2 ixD (xVa 1) (x2 (pl dAdd) (xVa 4) (xCn (.int 1))))) (x2 ixD (xVa 1) (xVa 4))] [.va (some 0) (eW M W), .va (some 0) (iL w), .va none (en M (pwt W w e)), .em, .va none (.int e)] = .ok ⟨false, none, en M (pls (pwt W w e) (at2 W (w.getD (e + 1) 0) (w.getD e 0)))⟩ := by
        refine call2 (u := ⟨true, none, en M (pwt W w e)⟩) rfl (v := ⟨false, none, en M (at2 W (w.getD (e + 1) 0) (w.getD e 0))⟩) ?_ h1
        have z1 : x2 ixD (xVa 1) (x2 (pl dAdd) (xVa 4) (xCn (.int 1))) [.va (some 0) (eW M W), .va (some 0) (iL w), .va none (en M (pwt W w e)), .em, .va none (.int e)] = .ok ⟨false, none, .int (w.getD (e + 1) 0 : Nat)⟩ := by
          have : (e : Int) + 1 = ((e + 1 : Nat) : Int) := by omega
          rw [ap_x2, xVa_1, Res.bind_ok, ap_x2, xVa_4, Res.bind_ok, ap_cn, Res.bind_ok, pl_ap, dAdd_i, Res.bind_ok, Res.bind_ok, this, i1]
        have z0 : x2 ixD (xVa 1) (xVa 4) [.va (some 0) (eW M W), .va (some 0) (iL w), .va none (en M (pwt W w e)), .em, .va none (.int e)] = .ok ⟨false, none, .int (w.getD e 0 : Nat)⟩ := by
          rw [ap_x2, xVa_1, Res.bind_ok, xVa_4, Res.bind_ok, i0]
        rw [ap_x2, ap_x2, xVa_0, Res.bind_ok, z1, Res.bind_ok, z0]
        exact i2
      apply sqR; intro T R' hT hR
      rw [ap_asg]
      simp only [setSl_stA, stA_va, stA_em, stA_0, kil_nil] at *
      rw [ee]
      simp; subst hT hR
      simp
  rw [List.length_range] at L
  refine (sSeq_nx L).trans ?_
  rw [pwt_wt]
  simp
theorem ix_last {w : List Nat} {bb b2 : Bool} {k k2 : Lv} (h : w ≠ []) : ixD ⟨bb, k, iL w⟩ ⟨b2, k2, .int (-1)⟩ = .ok ⟨false, none, .int (lastE w : Nat)⟩ := by
  have hl : 0 < w.length := List.length_pos_iff.mpr h
  have := ix_iL (w := w) (a := w.length - 1) (bb := bb) (b2 := b2) (k := k) (k2 := k2) (by omega)
  have e0 : ixN (w.map fun e => PyData.int (e : Nat)).length (-1) = some (w.length - 1) := by
    unfold ixN
    rw [List.length_map, if_neg (by decide), if_pos (by omega)]
    congr 1
    omega
  have e1 : ixN (w.map fun e => PyData.int (e : Nat)).length ((w.length - 1 : Nat) : Int) = some (w.length - 1) := by
    rw [List.length_map, ixN_in (by omega) (by omega)]
    rfl
  have e : ixD ⟨bb, k, iL w⟩ ⟨b2, k2, .int (-1)⟩ = ixD ⟨bb, k, iL w⟩ ⟨b2, k2, .int ((w.length - 1 : Nat) : Int)⟩ := by
    unfold ixD
    dsimp only
    unfold atI
    rw [e0, e1]
  rw [e, this]
  rfl
theorem c_lwalk_time_z (hM : GM M) {n : Nat} {W : List (List OI)} {ws : List Int} (hW : Sq n W) (bW : BmW 1000 W) (hn : n ≤ 1000) (h0 : ws ≠ []) (hl : ws.length ≤ 3000) : f__law_walk_time [eW M W, zL ws] = .ok (none, en M (wti n W ws)) := by
  unfold wti
  by_cases h : okw n ws = true
  · obtain ⟨e, hw⟩ := okw_toNat h
    rw [if_pos h, e]
    exact c_lwalk_time hM hW bW hn hw (by simpa using h0) (by simpa using hl)
  · rw [if_neg h]
    refine runB_rt rfl ?_
    show s__law_walk_time [.va (some 0) (eW M W), .va (some 0) (zL ws), .em, .em, .em] = _
    unfold s__law_walk_time
    apply sqR; intro T R' hT hR; simp; subst hT hR
    have L := sFor_test (s := l__law_walk_time_0_b) (xi := l__law_walk_time_0_i) (bd := bd1 3) (ρ := [.va (some 0) (eW M W), .va (some 0) (zL ws), .va none (pr 0 1), .em, .em]) ws (fun e => ⟨false, none, .int e⟩) (fun e => decide (0 ≤ e) && decide (e < (n : Int))) .none
      (it_flat (e_va rfl) (fun x => rfl) (.inr (.inl rfl))) fun e he => by
        refine ⟨[.va (some 0) (eW M W), .va (some 0) (zL ws), .va none (pr 0 1), .va none (.int e), .em], rfl, ?_⟩
        unfold l__law_walk_time_0_b
        by_cases h1 : 0 ≤ e
        · by_cases h2 : e < (n : Int)
          · simp [hW.l, h1, h2]
          · simp [hW.l, h1, h2]
        · simp [hW.l, h1]
    have hall : (ws.all fun e => decide (0 ≤ e) && decide (e < (n : Int))) = false := Bool.eq_false_iff.mpr h
    rw [hall, if_neg (by simp)] at L
    exact sSeq_rt L
end Lw

set_option Elab.async false
set_option linter.all false
set_option maxRecDepth 100000
set_option maxHeartbeats 1000000
namespace Lw
open PySem PySem.Spec PyProof.Rows L2 Ev
variable {M : Int}
theorem ix_z {ws : List Int} {a : Nat} {bb b2 : Bool} {k k2 : Lv} (h : a < ws.length) : ixD ⟨bb, k, zL ws⟩ ⟨b2, k2, .int (a : Nat)⟩ = .ok ⟨false, none, .int (ws.getD a 0)⟩ := by
  rw [ix_n (f := PyData.int) h, pick_flat rfl]
  rfl
theorem ix_zlast {ws : List Int} {bb b2 : Bool} {k k2 : Lv} (h : ws ≠ []) : ixD ⟨bb, k, zL ws⟩ ⟨b2, k2, .int (-1)⟩ = .ok ⟨false, none, .int (ws.getD (ws.length - 1) 0)⟩ := by
  have hl : 0 < ws.length := List.length_pos_iff.mpr h
  have := ix_z (ws := ws) (a := ws.length - 1) (bb := bb) (b2 := b2) (k := k) (k2 := k2) (by omega)
  have e0 : ixN (ws.map PyData.int).length (-1) = some (ws.length - 1) := by
    unfold ixN
    rw [List.length_map, if_neg (by decide), if_pos (by omega)]
    congr 1
    omega
  have e1 : ixN (ws.map PyData.int).length ((ws.length - 1 : Nat) : Int) = some (ws.length - 1) := by
    rw [List.length_map, ixN_in (by omega) (by omega)]
    rfl
  have e : ixD ⟨bb, k, zL ws⟩ ⟨b2, k2, .int (-1)⟩ = ixD ⟨bb, k, zL ws⟩ ⟨b2, k2, .int ((ws.length - 1 : Nat) : Int)⟩ := by
    unfold ixD
    dsimp only
    unfold atI
    rw [e0, e1]
  rw [e, this]
theorem cut_init {ds : List D} (h : ds ≠ []) : Ev.cutD ds none (some (-1)) = ds.take (ds.length - 1) := by
  have hl : 0 < ds.length := List.length_pos_iff.mpr h
  unfold Ev.cutD
  have e : HT.sIx ds.length ds.length (some (-1)) = ds.length - 1 := by
    unfold HT.sIx
    dsimp only
    rw [if_pos (by omega)]
    omega
  rw [e, HT.sIx_none, Nat.sub_zero, List.drop_zero]
/-- the plain law of is_circuit -/
def isC (n : Nat) (W : List (List OI)) (ws : List Int) : Bool := decide (2 ≤ ws.length) && decide (ws.getD 0 0 = ws.getD (ws.length - 1) 0) && (wti n W ws).isSome && okC (ws.getD 0 0) (ws.take (ws.length - 1))
theorem initz {ws : List Int} {ρ : Rho} {i : Nat} {q : Bool} {k : Lv} (h : ws ≠ []) (hx : xVa i ρ = .ok ⟨q, k, zL ws⟩) : xSl (xVa i) (oNo) (oAt (x1 (p1 dNeg) (xCn (.int 1)))) ρ = .ok ⟨false, none, zL (ws.take (ws.length - 1))⟩ := by
  rw [xSl_f hx (lo := none) (hi := some (-1)) rfl rfl (flats_ints ws), cut_init (by simpa using h), List.length_map, ← List.map_take]
theorem isNone_e {ρ : Rho} {a : Rho → Res BV} {q : Bool} {k : Lv} {m : OI} (h : a ρ = .ok ⟨q, k, en M m⟩) : xTb (x2 (pl dIs) a (xCn .none)) ρ = .ok (!m.isSome) := by
  rw [ap_tb, ap_x2, h, Res.bind_ok, ap_cn, Res.bind_ok, pl_ap]
  cases m <;> rfl
/-- the head of both tests -/
theorem headC {n : Nat} {W : List (List OI)} {ws : List Int} {φ : List D → Res (Lv × D)} {ρ : Rho} (h0 : xVa 0 ρ = .ok ⟨true, some 0, eW M W⟩) (h1 : xVa 1 ρ = .ok ⟨true, some 0, zL ws⟩) (hφ : ws ≠ [] → φ [eW M W, zL ws] = .ok (none, en M (wti n W ws))) :
    tOrX (xTb (x2 (pl dLt) (xA true (b1 dLen) [xVa 1]) (xCn (.int 2)))) (tOrX (xTb (x2 (pl dNe) (x2 ixD (xVa 1) (xCn (.int 0))) (x2 ixD (xVa 1) (x1 (p1 dNeg) (xCn (.int 1)))))) (xTb (x2 (pl dIs) (xA true (xCall φ 2) [xVa 0, xVa 1]) (xCn .none)))) ρ =
      .ok (!(decide (2 ≤ ws.length) && decide (ws.getD 0 0 = ws.getD (ws.length - 1) 0) && (wti n W ws).isSome)) := by
  have el : xA true (b1 dLen) [xVa 1] ρ = .ok ⟨false, none, .int (ws.length : Nat)⟩ := b1_of h1 (by
    show dLen (.list _) = _
    simp)
  have t1 : xTb (x2 (pl dLt) (xA true (b1 dLen) [xVa 1]) (xCn (.int 2))) ρ = .ok (!decide (2 ≤ ws.length)) := by
    rw [ap_tb, ap_x2, el, Res.bind_ok, ap_cn, Res.bind_ok, pl_ap, dLt_i]
    by_cases h : 2 ≤ ws.length
    · have : ¬ (ws.length : Int) < 2 := by omega
      rw [decide_eq_false this, decide_eq_true h]; rfl
    · have : (ws.length : Int) < 2 := by omega
      rw [decide_eq_true this, decide_eq_false h]; rfl
  by_cases h : 2 ≤ ws.length
  · have hne : ws ≠ [] := fun z => by rw [z] at h; simp at h
    have t2 : xTb (x2 (pl dNe) (x2 ixD (xVa 1) (xCn (.int 0))) (x2 ixD (xVa 1) (x1 (p1 dNeg) (xCn (.int 1))))) ρ = .ok (!decide (ws.getD 0 0 = ws.getD (ws.length - 1) 0)) := by
      have e0 : x2 ixD (xVa 1) (xCn (.int 0)) ρ = .ok ⟨false, none, .int (ws.getD 0 0)⟩ := by
        rw [ap_x2, h1, Res.bind_ok, ap_cn, Res.bind_ok, show PyData.int 0 = .int ((0 : Nat) : Int) from rfl, ix_z (by omega)]
      have e1 : x2 ixD (xVa 1) (x1 (p1 dNeg) (xCn (.int 1))) ρ = .ok ⟨false, none, .int (ws.getD (ws.length - 1) 0)⟩ := by
        rw [ap_x2, h1, Res.bind_ok]
        exact ix_zlast (b2 := false) (k2 := none) hne
      rw [ap_tb, ap_x2, e0, Res.bind_ok, e1, Res.bind_ok, pl_ap, dNe_i]
      rfl
    have t3 := isNone_e (call2 h0 h1 (hφ hne))
    rw [ap_tor, t1, decide_eq_true h]
    show tOrX _ _ ρ = _
    rw [ap_tor, t2]
    cases decide (ws.getD 0 0 = ws.getD (ws.length - 1) 0)
    · rfl
    · exact t3
  · rw [ap_tor, t1, decide_eq_false h]
    rfl
end Lw

set_option Elab.async false
set_option linter.all false
set_option maxRecDepth 100000
set_option maxHeartbeats 1000000
namespace Lw
open PySem PySem.Spec PyProof.Rows L2 Ev
variable {M : Int}
theorem lay_zL {ns : List Int} : (zL ns).canLay0 = true ∧ (zL ns).depth ≤ 1 := by
  refine ⟨?_, ?_⟩
  · show (PyData.list _).canLay0 = true
    simp only [PyData.canLay0]
    exact lay_all fun d hd => by obtain ⟨m, _, rfl⟩ := List.mem_map.mp hd; rfl
  · show (PyData.list _).depth ≤ 1
    simp only [PyData.depth]
    have := dep_all (n := 0) (ds := ns.map PyData.int) fun d hd => by obtain ⟨m, _, rfl⟩ := List.mem_map.mp hd; exact Nat.le_refl _
    omega
theorem shaped_zL {ns : List Int} : SeqAt.shaped (zL ns) = true := by
  unfold SeqAt.shaped
  rw [lay_zL.1, decide_eq_true (by have := (lay_zL (ns := ns)).2; omega)]
  rfl
theorem in_zL {neg : Bool} {w : List Int} {i : Int} : dInD neg (.int i) (zL w) = .ok (.bool (decide (i ∈ w) != neg)) := by
  unfold dInD
  dsimp only
  rw [if_pos ⟨rfl, shaped_zL⟩]
  congr 3
  induction w with
  | nil => rfl
  | cons a w ih =>
    rw [List.map_cons, List.any_cons, ih]
    have : PyData.eqv (.int a) (.int i) = decide (a = i) := by
      show (a == i) = decide (a = i)
      by_cases h : a = i
      · simp [h]
      · simp [h]
    rw [this]
    by_cases h : a = i
    · simp [h]
    · have : ¬ i = a := fun z => h z.symm
      simp [h, this]
theorem intsD_z : ∀ ns : List Int, intsD (ns.map PyData.int) = some ns
  | [] => rfl
  | n :: ns => by rw [List.map_cons, intsD, intsD_z ns]; rfl
theorem lcI_z {ρ : Rho} (hlen : 3 < ρ.length) : ∀ ns : List Int, lcI (bd1 3) tTrue (xVa 3) ρ (ns.map fun e => ⟨false, none, .int e⟩) = .ok ns
  | [] => rfl
  | n :: ns => by
    have ih := lcI_z hlen ns
    rw [List.map_cons, lcI, show bd1 3 ρ ⟨false, none, .int n⟩ = .ok (setSl ρ 3 (.va none (.int n))) from rfl]
    have hx : xVa 3 (setSl ρ 3 (.va none (.int n))) = .ok ⟨true, none, .int n⟩ := e_va (by
      unfold setSl
      rw [List.getElem?_set_self (by unfold killA; rw [List.length_map]; exact hlen)])
    dsimp only
    rw [hx]
    show (lcI (bd1 3) tTrue (xVa 3) ρ (ns.map fun e => ⟨false, none, .int e⟩)).bind _ = _
    rw [ih]
    rfl
theorem okC_min {w0 : Int} {inner : List Int} (h0 : w0 ∈ inner) : okC w0 inner = (decide (w0 = minI inner) && decide ((msOf inner).n = inner.length)) := by
  have hl : 0 < inner.length := List.length_pos_iff.mpr fun z => by rw [z] at h0; cases h0
  rw [Bool.eq_iff_iff, okC_iff, Bool.and_eq_true, decide_eq_true_eq, decide_eq_true_eq, msOf_nodup, and_comm]
  refine and_congr_left fun _ => ⟨fun h => ?_, fun h x hx => ?_⟩
  · have a := h _ (minI_mem hl)
    have b := minI_le h0
    omega
  · have := minI_le hx
    omega
theorem c_is_circuit (hM : GM M) {n : Nat} {W : List (List OI)} {ws : List Int} (hW : Sq n W) (bW : BmW 1000 W) (hn : n ≤ 1000) (hl : ws.length ≤ 900) : f_is_circuit [eW M W, zL ws] = .ok (none, .bool (isC n W ws)) := by
  refine runB_rt rfl ?_
  show s_is_circuit [.va (some 0) (eW M W), .va (some 0) (zL ws), .em, .em] = _
  have hd := headC (M := M) (n := n) (W := W) (ws := ws) (φ := f_walk_time) (ρ := [.va (some 0) (eW M W), .va (some 0) (zL ws), .em, .em]) rfl rfl (fun h0 => c_walk_time_z hM hW bW hn h0 (by omega))
  unfold s_is_circuit isC
  by_cases hb : (decide (2 ≤ ws.length) && decide (ws.getD 0 0 = ws.getD (ws.length - 1) 0) && (wti n W ws).isSome) = true
  · rw [hb, Bool.true_and]
    rw [hb] at hd
    have h2 : 2 ≤ ws.length := by
      simp only [Bool.and_eq_true, decide_eq_true_eq] at hb
      exact hb.1.1
    have hne : ws ≠ [] := fun z => by rw [z] at h2; simp at h2
    have hin : (ws.take (ws.length - 1)).length = ws.length - 1 := by rw [List.length_take]; omega
    have h0 : ws.getD 0 0 ∈ ws.take (ws.length - 1) := by
      have e : (ws.take (ws.length - 1)).getD 0 0 = ws.getD 0 0 := by
        rw [List.getD, List.getD, List.getElem?_take, if_pos (by omega)]
      rw [← e, List.getD, List.getElem?_eq_getElem (by omega)]
      exact List.getElem_mem _
    rw [okC_min h0]
    have ei : ∀ {ρ : Rho}, xVa 1 ρ = .ok ⟨true, some 0, zL ws⟩ → xSl (xVa 1) (oNo) (oAt (x1 (p1 dNeg) (xCn (.int 1)))) ρ = .ok ⟨false, none, zL (ws.take (ws.length - 1))⟩ := fun h => initz hne h
    generalize hI : ws.take (ws.length - 1) = inner at h0 hin ei ⊢
    apply sqR; intro T R' hT hR
    rw [if_ff hd]
    simp; subst hT hR
    apply sqR; intro T R' hT hR
    rw [ap_asg, ei (e_va (i := 1) rfl)]
    simp; subst hT hR
    have e1 : x2 (pl dEq) (x2 ixD (xVa 1) (xCn (.int 0))) (xA true (b1 (dIntsF fMin)) [xVa 2]) [.em, .va (some 0) (zL ws), .va none (zL inner), .em] = .ok ⟨false, none, .bool (decide (ws.getD 0 0 = minI inner))⟩ := by
      have a : x2 ixD (xVa 1) (xCn (.int 0)) [.em, .va (some 0) (zL ws), .va none (zL inner), .em] = .ok ⟨false, none, .int (ws.getD 0 0)⟩ := by
        rw [ap_x2, xVa_1, Res.bind_ok, ap_cn, Res.bind_ok, show PyData.int 0 = .int ((0 : Nat) : Int) from rfl, ix_z (by omega)]
      have b : xA true (b1 (dIntsF fMin)) [xVa 2] [.em, .va (some 0) (zL ws), .va none (zL inner), .em] = .ok ⟨false, none, .int (minI inner)⟩ := b1_of (e_va (i := 2) rfl) (by
        show dIntsF fMin (.list (inner.map PyData.int)) = _
        unfold dIntsF
        dsimp only
        rw [intsD_z]
        dsimp only
        unfold fMin
        rw [if_pos (by omega)]
        rfl)
      rw [ap_x2, a, Res.bind_ok, b, Res.bind_ok, pl_ap, dEq_i]
      rfl
    have e2 : x2 (pl dEq) (xLenSc c_is_circuit_0_i [3] (bd1 3) c_is_circuit_0_c c_is_circuit_0_x) (xA true (b1 dLen) [xVa 2]) [.em, .va (some 0) (zL ws), .va none (zL inner), .em] = .ok ⟨false, none, .bool (decide ((msOf inner).n = inner.length))⟩ := by
      have a : xLenSc c_is_circuit_0_i [3] (bd1 3) c_is_circuit_0_c c_is_circuit_0_x [.em, .va (some 0) (zL ws), .va none (zL inner), .em] = .ok ⟨false, none, .int ((msOf inner).n : Nat)⟩ := by
        have hit : c_is_circuit_0_i [.em, .va (some 0) (zL ws), .va none (zL inner), .em] = .ok (inner.map fun e => ⟨false, none, .int e⟩) := it_flat (bb := true) (k := none) (e_va (i := 2) rfl) (fun x => rfl) (.inr (.inr rfl))
        unfold xLenSc
        rw [hit, Res.bind_ok, if_pos (by rw [List.length_map]; omega)]
        have := lcI_z (ρ := fgt [3] [.em, .va (some 0) (zL ws), .va none (zL inner), .em]) (by simp) inner
        rw [show lcI (bd1 3) c_is_circuit_0_c c_is_circuit_0_x = lcI (bd1 3) tTrue (xVa 3) from rfl, this, Res.bind_ok]
      have b : xA true (b1 dLen) [xVa 2] [.em, .va (some 0) (zL ws), .va none (zL inner), .em] = .ok ⟨false, none, .int (inner.length : Nat)⟩ := b1_of (e_va (i := 2) rfl) (by
        show dLen (.list _) = _
        simp)
      rw [ap_x2, a, Res.bind_ok, b, Res.bind_ok, pl_ap, dEq_i]
      by_cases h : (msOf inner).n = inner.length
      · rw [h]; simp
      · have h3 : ¬ ((msOf inner).n : Int) = (inner.length : Int) := by omega
        rw [decide_eq_false h, decide_eq_false h3]; rfl
    rw [ap_ret, ap_and, e1, Res.bind_ok, theB_b, Res.bind_ok]
    cases decide (ws.getD 0 0 = minI inner)
    · rfl
    · rw [if_pos rfl, e2]
      rfl
  · have hb' := Bool.eq_false_iff.mpr hb
    rw [hb'] at hd ⊢
    rw [ap_seq, if_tt hd]
    rfl
end Lw

set_option Elab.async false
set_option linter.all false
set_option maxRecDepth 100000
set_option maxHeartbeats 1000000
namespace Lw
open PySem PySem.Spec PyProof.Rows L2 Ev
variable {M : Int}
theorem c_lis_circuit (hM : GM M) {n : Nat} {W : List (List OI)} {ws : List Int} (hW : Sq n W) (bW : BmW 1000 W) (hn : n ≤ 1000) (hl : ws.length ≤ 900) : f__law_is_circuit [eW M W, zL ws] = .ok (none, .bool (isC n W ws)) := by
  refine runB_rt rfl ?_
  show s__law_is_circuit [.va (some 0) (eW M W), .va (some 0) (zL ws), .em, .em] = _
  have hd := headC (M := M) (n := n) (W := W) (ws := ws) (φ := f__law_walk_time) (ρ := [.va (some 0) (eW M W), .va (some 0) (zL ws), .em, .em]) rfl rfl (fun h0 => c_lwalk_time_z hM hW bW hn h0 (by omega))
  unfold s__law_is_circuit isC
  by_cases hb : (decide (2 ≤ ws.length) && decide (ws.getD 0 0 = ws.getD (ws.length - 1) 0) && (wti n W ws).isSome) = true
  · rw [hb, Bool.true_and]
    rw [hb] at hd
    have h2 : 2 ≤ ws.length := by
      simp only [Bool.and_eq_true, decide_eq_true_eq] at hb
      exact hb.1.1
    have hne : ws ≠ [] := fun z => by rw [z] at h2; simp at h2
    have hin : (ws.take (ws.length - 1)).length = ws.length - 1 := by rw [List.length_take]; omega
    have ei : ∀ {ρ : Rho}, xVa 1 ρ = .ok ⟨true, some 0, zL ws⟩ → xSl (xVa 1) (oNo) (oAt (x1 (p1 dNeg) (xCn (.int 1)))) ρ = .ok ⟨false, none, zL (ws.take (ws.length - 1))⟩ := fun h => initz hne h
    generalize hI : ws.take (ws.length - 1) = inner at hin ei ⊢
    apply sqR; intro T R' hT hR
    rw [if_ff hd]
    simp; subst hT hR
    apply sqR; intro T R' hT hR
    rw [ap_asg, ei (e_va (i := 1) rfl)]
    simp; subst hT hR
    have L := sFor_test (s := l__law_is_circuit_0_b) (xi := l__law_is_circuit_0_i) (bd := bd1 3) (ρ := [.em, .va (some 0) (zL ws), .va none (zL inner), .em]) (List.range inner.length) (fun k => ⟨false, none, .int (k : Nat)⟩) (fun k => !(decide (inner.getD k 0 ∈ inner.take k) || decide (inner.getD k 0 < ws.getD 0 0))) (.bool false)
      (it_range1 (n := inner.length) (bb := false) (k := none) (b1_of (e_va (i := 2) rfl) (by
        show dLen (.list _) = _
        simp)) (by omega)) fun k hk => by
        have hk := List.mem_range.mp hk
        refine ⟨[.em, .va (some 0) (zL ws), .va none (zL inner), .va none (.int k)], rfl, ?_⟩
        have a : x2 ixD (xVa 2) (xVa 3) [.em, .va (some 0) (zL ws), .va none (zL inner), .va none (.int k)] = .ok ⟨false, none, .int (inner.getD k 0)⟩ := by
          rw [ap_x2, xVa_2, Res.bind_ok, xVa_3, Res.bind_ok, ix_z hk]
        have b : xSl (xVa 2) (oNo) (oAt (xVa 3)) [.em, .va (some 0) (zL ws), .va none (zL inner), .va none (.int k)] = .ok ⟨false, none, zL (inner.take k)⟩ := by
          have e3 : oAt (xVa 3) [.em, .va (some 0) (zL ws), .va none (zL inner), .va none (.int k)] = .ok (some (k : Int)) := rfl
          rw [xSl_f (e_va (i := 2) rfl) (lo := none) (hi := some (k : Int)) rfl e3 (flats_ints inner), cut_to, ← List.map_take]
        have c : x2 ixD (xVa 1) (xCn (.int 0)) [.em, .va (some 0) (zL ws), .va none (zL inner), .va none (.int k)] = .ok ⟨false, none, .int (ws.getD 0 0)⟩ := by
          rw [ap_x2, xVa_1, Res.bind_ok, ap_cn, Res.bind_ok, show PyData.int 0 = .int ((0 : Nat) : Int) from rfl, ix_z (by omega)]
        have t : tOrX (xTb (x2 (pl (dInD false)) (x2 ixD (xVa 2) (xVa 3)) (xSl (xVa 2) (oNo) (oAt (xVa 3))))) (xTb (x2 (pl dLt) (x2 ixD (xVa 2) (xVa 3)) (x2 ixD (xVa 1) (xCn (.int 0))))) [.em, .va (some 0) (zL ws), .va none (zL inner), .va none (.int k)] = .ok (decide (inner.getD k 0 ∈ inner.take k) || decide (inner.getD k 0 < ws.getD 0 0)) := by
          have t1 : xTb (x2 (pl (dInD false)) (x2 ixD (xVa 2) (xVa 3)) (xSl (xVa 2) (oNo) (oAt (xVa 3)))) [.em, .va (some 0) (zL ws), .va none (zL inner), .va none (.int k)] = .ok (decide (inner.getD k 0 ∈ inner.take k)) := by
            rw [ap_tb, ap_x2, a, Res.bind_ok, b, Res.bind_ok, pl_ap, in_zL]
            cases decide (inner.getD k 0 ∈ inner.take k) <;> rfl
          have t2 : xTb (x2 (pl dLt) (x2 ixD (xVa 2) (xVa 3)) (x2 ixD (xVa 1) (xCn (.int 0)))) [.em, .va (some 0) (zL ws), .va none (zL inner), .va none (.int k)] = .ok (decide (inner.getD k 0 < ws.getD 0 0)) := by
            rw [ap_tb, ap_x2, a, Res.bind_ok, c, Res.bind_ok, pl_ap, dLt_i]
            rfl
          rw [ap_tor, t1, Res.bind_ok]
          cases decide (inner.getD k 0 ∈ inner.take k)
          · exact t2
          · rfl
        unfold l__law_is_circuit_0_b
        cases hv : (decide (inner.getD k 0 ∈ inner.take k) || decide (inner.getD k 0 < ws.getD 0 0)) with
        | true =>
          rw [hv] at t
          rw [if_tt t]
          rfl
        | false =>
          rw [hv] at t
          rw [if_ff t]
          simp
    show sSeq _ _ _ = SR.rt none (.bool (okC (ws.getD 0 0) inner))
    unfold okC
    by_cases h : ((List.range inner.length).all fun k => !(decide (inner.getD k 0 ∈ inner.take k) || decide (inner.getD k 0 < ws.getD 0 0))) = true
    · rw [if_pos h] at L
      rw [h]
      refine (sSeq_nx L).trans ?_
      simp
    · rw [if_neg h] at L
      rw [Bool.eq_false_iff.mpr h]
      exact sSeq_rt L
  · have hb' := Bool.eq_false_iff.mpr hb
    rw [hb'] at hd ⊢
    rw [ap_seq, if_tt hd]
    rfl
end Lw

set_option Elab.async false
set_option linter.all false
set_option maxRecDepth 100000
set_option maxHeartbeats 1000000
namespace Lw
open PySem PySem.Spec PyProof.Rows L2 Ev
variable {M : Int}
/-! ### the law's circuits: only their shape matters -/
abbrev LL := List (List Nat)
abbrev iW (cs : LL) : D := .list (cs.map fun w => iL w)
theorem iW_app {cs : LL} {w : List Nat} : PyData.list ((cs.map fun w => iL w) ++ [iL w]) = iW (cs ++ [w]) := by
  unfold iW
  rw [List.map_append]
  rfl
/-- paths of at most k events -/
def Pk (n k : Nat) (p : List Nat) : Prop := p ≠ [] ∧ p.length ≤ k ∧ ∀ e ∈ p, e < n
theorem Pk.snoc {n k e : Nat} {p : List Nat} (h : Pk n k p) (he : e < n) : Pk n (k + 1) (p ++ [e]) := ⟨by simp, by rw [List.length_append]; have := h.2.1; simp; omega, fun x hx => by
  rcases List.mem_append.mp hx with hx | hx
  · exact h.2.2 x hx
  · rw [List.mem_singleton.mp hx]; exact he⟩
theorem Pk.last {n k : Nat} {p : List Nat} (h : Pk n k p) : lastE p < n := by
  have hl : 0 < p.length := List.length_pos_iff.mpr h.1
  unfold lastE
  rw [List.getD, List.getElem?_eq_getElem (by omega)]
  exact h.2.2 _ (List.getElem_mem (by omega))
/-- circuits found: at least two events -/
def Ck (n k : Nat) (p : List Nat) : Prop := 2 ≤ p.length ∧ p.length ≤ k ∧ ∀ e ∈ p, e < n
theorem Pk.close {n k e : Nat} {p : List Nat} (h : Pk n k p) (he : e < n) : Ck n (k + 1) (p ++ [e]) := ⟨by rw [List.length_append]; have := List.length_pos_iff.mpr h.1; simp; omega, (h.snoc he).2.1, (h.snoc he).2.2⟩
def stI (W : List (List OI)) (start : Nat) (p : List Nat) (fl : LL × LL) (i : Nat) : LL × LL :=
  if (at2 W i (lastE p)).isSome = true then (if i = start then (fl.1 ++ [p ++ [start]], fl.2) else if i ∉ p then (fl.1, fl.2 ++ [p ++ [i]]) else fl) else fl
theorem stI_ok {n k start i a b : Nat} {W : List (List OI)} {p : List Nat} {fl : LL × LL} (hp : Pk n k p) (hs : start < n) (hi : i < n) (h1 : ∀ c ∈ fl.1, Ck n (n + 1) c) (h2 : ∀ c ∈ fl.2, Pk n (k + 1) c) (hk : k ≤ n) (la : fl.1.length ≤ a) (lb : fl.2.length ≤ b) :
    (∀ c ∈ (stI W start p fl i).1, Ck n (n + 1) c) ∧ (∀ c ∈ (stI W start p fl i).2, Pk n (k + 1) c) ∧ (stI W start p fl i).1.length ≤ a + 1 ∧ (stI W start p fl i).2.length ≤ b + 1 := by
  unfold stI
  split
  · split
    · refine ⟨fun c hc => ?_, h2, by simp; omega, by show fl.2.length ≤ _; omega⟩
      rcases List.mem_append.mp hc with hc | hc
      · exact h1 c hc
      · rw [List.mem_singleton.mp hc]
        have := hp.close hs
        exact ⟨this.1, by have := this.2.1; omega, this.2.2⟩
    · split
      · refine ⟨h1, fun c hc => ?_, by show fl.1.length ≤ _; omega, by simp; omega⟩
        rcases List.mem_append.mp hc with hc | hc
        · exact h2 c hc
        · rw [List.mem_singleton.mp hc]; exact hp.snoc hi
      · exact ⟨h1, h2, by omega, by omega⟩
  · exact ⟨h1, h2, by omega, by omega⟩
theorem circ_body {n k start i : Nat} {W : List (List OI)} {p : List Nat} {fl : LL × LL} {P : D} (hW : Sq n W) (hp : Pk n k p) (hs : start < n) (hi : i < n) (hn : n ≤ 6) (hk : k ≤ n) (la : fl.1.length ≤ 10000000) (lb : fl.2.length ≤ 10000000) :
    l__law_circuits_3_b [.va (some 0) (eW M W), .va none (.int n), .va none (iW fl.1), .va none (.int start), .va (some 0) P, .em, .va none (iW fl.2), .va (some 0) (iL p), .va none (.int i)] = .nx [.va (some 0) (eW M W), .va none (.int n), .va none (iW (stI W start p fl i).1), .va none (.int start), .va (some 0) P, .em, .va none (iW (stI W start p fl i).2), .va (some 0) (iL p), .em] := by
  have hsz : sizeLine = 16777216 := by decide
  have hpl := hp.2.1
  have tA : xTb (x2 (pl dIsNot) (x2 ixD (x2 ixD (xVa 0) (xVa 8)) (x2 ixD (xVa 7) (x1 (p1 dNeg) (xCn (.int 1))))) (xCn .none)) [.va (some 0) (eW M W), .va none (.int n), .va none (iW fl.1), .va none (.int start), .va (some 0) P, .em, .va none (iW fl.2), .va (some 0) (iL p), .va none (.int i)] = .ok (at2 W i (lastE p)).isSome := by
    have el : x2 ixD (xVa 7) (x1 (p1 dNeg) (xCn (.int 1))) [.va (some 0) (eW M W), .va none (.int n), .va none (iW fl.1), .va none (.int start), .va (some 0) P, .em, .va none (iW fl.2), .va (some 0) (iL p), .va none (.int i)] = .ok ⟨false, none, .int (lastE p : Nat)⟩ := by
      rw [ap_x2, xVa_7, Res.bind_ok]
      exact ix_last (b2 := false) (k2 := none) hp.1
    rw [ap_tb, ap_x2, ap_x2, ap_x2, xVa_0, Res.bind_ok, xVa_8, Res.bind_ok, ix_r (by rw [hW.l]; exact hi), Res.bind_ok, el, Res.bind_ok, ix_o (by rw [(hW.row hi).2]; exact hp.last), Res.bind_ok, ap_cn, Res.bind_ok, pl_ap]
    show _ = Res.ok (at2 W i (lastE p)).isSome
    unfold at2
    cases ato (rwo W i) (lastE p) <;> rfl
  have tB : xTb (x2 (pl dEq) (xVa 8) (xVa 3)) [.va (some 0) (eW M W), .va none (.int n), .va none (iW fl.1), .va none (.int start), .va (some 0) P, .em, .va none (iW fl.2), .va (some 0) (iL p), .va none (.int i)] = .ok (decide (i = start)) := by
    rw [ap_tb, ap_x2, xVa_8, Res.bind_ok, xVa_3, Res.bind_ok, pl_ap, dEq_i]
    by_cases h : i = start
    · subst h; simp
    · have h2 : ¬ (i : Int) = (start : Int) := by omega
      rw [decide_eq_false h, decide_eq_false h2]; rfl
  have tC : xTb (x2 (pl (dInD true)) (xVa 8) (xVa 7)) [.va (some 0) (eW M W), .va none (.int n), .va none (iW fl.1), .va none (.int start), .va (some 0) P, .em, .va none (iW fl.2), .va (some 0) (iL p), .va none (.int i)] = .ok (decide (i ∉ p)) := by
    have e : iL p = zL (p.map fun i : Nat => (i : Int)) := by
      show PyData.list _ = PyData.list _
      rw [List.map_map]
      rfl
    rw [ap_tb, ap_x2, xVa_8, Res.bind_ok, xVa_7, Res.bind_ok, pl_ap, e, in_zL]
    have hm : ((i : Int) ∈ p.map fun i : Nat => (i : Int)) ↔ i ∈ p := by
      rw [List.mem_map]
      constructor
      · rintro ⟨a, ha, hai⟩
        have : a = i := by omega
        exact this ▸ ha
      · exact fun h => ⟨i, h, rfl⟩
    by_cases h : i ∈ p
    · rw [decide_eq_true (hm.mpr h), decide_eq_false (fun z : i ∉ p => z h)]; rfl
    · rw [decide_eq_false (fun z => h (hm.mp z)), decide_eq_true h]; rfl
  have app : ∀ {ρ : Rho} {j e : Nat}, ρ[7]? = some (.va (some 0) (iL p)) → ρ[j]? = some (.va none (.int e)) → x2 (dAddV) (xVa 7) (xA false mkLst [xVa j]) ρ = .ok ⟨false, none, iL (p ++ [e])⟩ := fun {ρ j e} h7 hj => by
    have e2 : xA false mkLst [xVa j] ρ = .ok ⟨false, none, .list [.int e]⟩ := by
      rw [ap_xA, evA_cons, e_va hj, Res.bind_ok, settle_i, Res.bind_ok, evA_nil, Res.bind_ok, Res.bind_ok]
      exact mkLst_of rfl rfl
    rw [ap_x2, e_va h7, Res.bind_ok, e2, Res.bind_ok, dAddV_f (flats_map fun _ => rfl) rfl (by simp only [List.length_map, List.length_cons, List.length_nil]; omega)]
    refine congrArg (fun d => Res.ok (⟨false, none, d⟩ : BV)) ?_
    show PyData.list _ = PyData.list _
    rw [List.map_append]
    rfl
  have fL : ∀ w : List Nat, flat (iL w) = false := fun w => by simp
  unfold l__law_circuits_3_b stI
  cases hA : (at2 W i (lastE p)).isSome with
  | false =>
    rw [hA] at tA
    rw [if_ff tA, if_neg (by simp)]
    simp
  | true =>
    rw [hA] at tA
    rw [if_tt tA, if_pos rfl]
    by_cases h : i = start
    · rw [decide_eq_true h] at tB
      rw [if_tt tB, if_pos h]
      apply sFq; intro T R' hT hR
      generalize hf1 : fl.1 = F at *
      generalize hf2 : fl.2 = G at *
      have n4 : noAl (.va (some 0) P) = true := rfl
      generalize (Sl.va (some 0) P) = SP at *
      simp [n4]; subst hT hR
      rw [sApp_new (i := 2) rfl (app (j := 3) rfl rfl) (fL _) (by rw [List.length_map]; omega), iW_app]
      simp [n4]
    · rw [decide_eq_false h] at tB
      rw [if_ff tB, if_neg h]
      by_cases h2 : i ∉ p
      · rw [decide_eq_true h2] at tC
        rw [if_tt tC, if_pos h2]
        refine (sSeq_nx (sApp_new (i := 6) rfl (app (j := 8) rfl rfl) (fL _) (by rw [List.length_map]; omega))).trans ?_
        rw [iW_app]
        have n4 : noAl (.va (some 0) P) = true := rfl
        generalize (Sl.va (some 0) P) = SP at *
        simp [n4]
      · rw [decide_eq_false h2] at tC
        rw [if_ff tC, if_neg h2]
        have n4 : noAl (.va (some 0) P) = true := rfl
        generalize (Sl.va (some 0) P) = SP at *
        simp [n4]
theorem foldI_ok {n k start : Nat} {W : List (List OI)} {p : List Nat} (hp : Pk n k p) (hs : start < n) (hk : k ≤ n) : ∀ (l : List Nat) (fl : LL × LL) (a b : Nat), (∀ i ∈ l, i < n) → (∀ c ∈ fl.1, Ck n (n + 1) c) → (∀ c ∈ fl.2, Pk n (k + 1) c) → fl.1.length ≤ a → fl.2.length ≤ b →
    (∀ c ∈ (l.foldl (stI W start p) fl).1, Ck n (n + 1) c) ∧ (∀ c ∈ (l.foldl (stI W start p) fl).2, Pk n (k + 1) c) ∧ (l.foldl (stI W start p) fl).1.length ≤ a + l.length ∧ (l.foldl (stI W start p) fl).2.length ≤ b + l.length
  | [], fl, a, b, _, h1, h2, la, lb => ⟨h1, h2, la, lb⟩
  | i :: l, fl, a, b, hl, h1, h2, la, lb => by
    obtain ⟨g1, g2, g3, g4⟩ := stI_ok (W := W) hp hs (hl i List.mem_cons_self) h1 h2 hk la lb
    obtain ⟨f1, f2, f3, f4⟩ := foldI_ok hp hs hk l (stI W start p fl i) (a + 1) (b + 1) (fun x hx => hl x (List.mem_cons_of_mem _ hx)) g1 g2 g3 g4
    rw [List.foldl_cons, List.length_cons]
    exact ⟨f1, f2, by omega, by omega⟩
theorem it_range2 {ρ : Rho} {a b : Rho → Res BV} {x y : Nat} {b1 b2 : Bool} {k1 k2 : Lv} (ha : a ρ = .ok ⟨b1, k1, .int (x : Nat)⟩) (hb : b ρ = .ok ⟨b2, k2, .int (y : Nat)⟩) (h : y < 2 ^ 40) (h2 : x < 2 ^ 40) : xItA rangeV2 [a, b] ρ = .ok (((List.range (y - x)).map fun i => x + i).map fun e => ⟨false, none, .int (e : Nat)⟩) := by
  rw [xIt_of, evA_cons, ha, Res.bind_ok, settle_i, Res.bind_ok, evA_cons, hb, Res.bind_ok, settle_i, Res.bind_ok, evA_nil, Res.bind_ok, Res.bind_ok, Res.bind_ok]
  unfold rangeV2
  dsimp only
  rw [if_pos ⟨inLine_of (by omega) (by omega), inLine_of (by omega) (by omega)⟩, List.map_map]
  have e : ((y : Int) - (x : Int)).toNat = y - x := by omega
  rw [e]
  refine congrArg Res.ok (List.map_congr_left fun i _ => ?_)
  have e2 : (x : Int) + (i : Nat) * 1 = ((x + i : Nat) : Int) := by omega
  rw [e2]
  rfl
/-- the events from start on -/
def frm (n start : Nat) : List Nat := (List.range (n - start)).map fun i => start + i
theorem frm_lt {n start i : Nat} (h : i ∈ frm n start) : i < n := by
  obtain ⟨j, hj, rfl⟩ := List.mem_map.mp h
  have := List.mem_range.mp hj
  omega
theorem frm_len {n start : Nat} : (frm n start).length ≤ n := by
  unfold frm
  rw [List.length_map, List.length_range]
  omega
theorem circ_inner {n k start : Nat} {W : List (List OI)} {p : List Nat} {fl : LL × LL} {P : D} (hW : Sq n W) (hp : Pk n k p) (hs : start < n) (hn : n ≤ 6) (hk : k ≤ n) (h1 : ∀ c ∈ fl.1, Ck n (n + 1) c) (h2 : ∀ c ∈ fl.2, Pk n (k + 1) c) (la : fl.1.length ≤ 9000000) (lb : fl.2.length ≤ 9000000) :
    sFor l__law_circuits_3_i (bd1 8) l__law_circuits_3_b [.va (some 0) (eW M W), .va none (.int n), .va none (iW fl.1), .va none (.int start), .va (some 0) P, .em, .va none (iW fl.2), .va (some 0) (iL p), .em] = .nx [.va (some 0) (eW M W), .va none (.int n), .va none (iW ((frm n start).foldl (stI W start p) fl).1), .va none (.int start), .va (some 0) P, .em, .va none (iW ((frm n start).foldl (stI W start p) fl).2), .va (some 0) (iL p), .em] := by
  have L := sFor_steps (s := l__law_circuits_3_b) (xi := l__law_circuits_3_i) (bd := bd1 8) (frm n start) (fun e => ⟨false, none, .int (e : Nat)⟩) (fun i => [.va (some 0) (eW M W), .va none (.int n), .va none (iW (((frm n start).take i).foldl (stI W start p) fl).1), .va none (.int start), .va (some 0) P, .em, .va none (iW (((frm n start).take i).foldl (stI W start p) fl).2), .va (some 0) (iL p), .em])
    (it_range2 (b1 := true) (k1 := none) (b2 := true) (k2 := none) rfl rfl (by omega) (by omega)) fun i e hi => by
      have hil := (List.getElem?_eq_some_iff.mp hi).1
      have hfl := frm_len (n := n) (start := start)
      obtain ⟨f1, f2, f3, f4⟩ := foldI_ok (W := W) hp hs hk ((frm n start).take i) fl 9000000 9000000 (fun x hx => frm_lt (List.mem_of_mem_take hx)) h1 h2 la lb
      rw [List.length_take] at f3 f4
      rw [List.take_add_one, hi, Option.toList_some, List.foldl_append, List.foldl_cons, List.foldl_nil]
      refine ⟨[.va (some 0) (eW M W), .va none (.int n), .va none (iW (((frm n start).take i).foldl (stI W start p) fl).1), .va none (.int start), .va (some 0) P, .em, .va none (iW (((frm n start).take i).foldl (stI W start p) fl).2), .va (some 0) (iL p), .va none (.int e)], ?_, .inl (circ_body hW hp hs (frm_lt (List.mem_of_getElem? hi)) hn hk (by omega) (by omega))⟩
      show Res.ok (setSl _ 8 _) = _
      generalize iW (((frm n start).take i).foldl (stI W start p) fl).1 = X1
      generalize iW (((frm n start).take i).foldl (stI W start p) fl).2 = X2
      simp
  rw [List.take_length] at L
  exact L
/-- all paths of a step -/
def stP (n : Nat) (W : List (List OI)) (start : Nat) (fl : LL × LL) (p : List Nat) : LL × LL := (frm n start).foldl (stI W start p) fl
theorem foldP_ok {n k start : Nat} {W : List (List OI)} (hs : start < n) (hk : k ≤ n) (hn : n ≤ 6) : ∀ (ps : LL) (fl : LL × LL) (a b : Nat), (∀ p ∈ ps, Pk n k p) → (∀ c ∈ fl.1, Ck n (n + 1) c) → (∀ c ∈ fl.2, Pk n (k + 1) c) → fl.1.length ≤ a → fl.2.length ≤ b →
    (∀ c ∈ (ps.foldl (stP n W start) fl).1, Ck n (n + 1) c) ∧ (∀ c ∈ (ps.foldl (stP n W start) fl).2, Pk n (k + 1) c) ∧ (ps.foldl (stP n W start) fl).1.length ≤ a + 6 * ps.length ∧ (ps.foldl (stP n W start) fl).2.length ≤ b + 6 * ps.length
  | [], fl, a, b, _, h1, h2, la, lb => ⟨h1, h2, la, lb⟩
  | p :: ps, fl, a, b, hl, h1, h2, la, lb => by
    have hfl := frm_len (n := n) (start := start)
    obtain ⟨g1, g2, g3, g4⟩ := foldI_ok (W := W) (hl p List.mem_cons_self) hs hk (frm n start) fl a b (fun i hi => frm_lt hi) h1 h2 la lb
    obtain ⟨f1, f2, f3, f4⟩ := foldP_ok hs hk hn ps (stP n W start fl p) (a + 6) (b + 6) (fun x hx => hl x (List.mem_cons_of_mem _ hx)) g1 g2 (Nat.le_trans g3 (by omega)) (Nat.le_trans g4 (by omega))
    rw [List.foldl_cons, List.length_cons]
    exact ⟨f1, f2, by omega, by omega⟩
theorem circ_mid {n k start : Nat} {W : List (List OI)} {ps : LL} {F : LL} (hW : Sq n W) (hps : ∀ p ∈ ps, Pk n k p) (hs : start < n) (hn : n ≤ 6) (hk : k ≤ n) (h1 : ∀ c ∈ F, Ck n (n + 1) c) (la : F.length ≤ 1000000) (lp : ps.length ≤ 1000000) :
    sFor l__law_circuits_2_i (bd1 7) l__law_circuits_2_b [.va (some 0) (eW M W), .va none (.int n), .va none (iW F), .va none (.int start), .va (some 0) (iW ps), .em, .va none (iW []), .em, .em] = .nx [.va (some 0) (eW M W), .va none (.int n), .va none (iW (ps.foldl (stP n W start) (F, [])).1), .va none (.int start), .va (some 0) (iW ps), .em, .va none (iW (ps.foldl (stP n W start) (F, [])).2), .em, .em] := by
  have L := sFor_steps (s := l__law_circuits_2_b) (xi := l__law_circuits_2_i) (bd := bd1 7) ps (fun w => ⟨false, some 0, .list (w.map fun e => PyData.int (e : Nat))⟩) (fun i => [.va (some 0) (eW M W), .va none (.int n), .va none (iW ((ps.take i).foldl (stP n W start) (F, [])).1), .va none (.int start), .va (some 0) (iW ps), .em, .va none (iW ((ps.take i).foldl (stP n W start) (F, [])).2), .em, .em])
    (it_rows (bb := true) (k := some 0) (e_va (i := 4) rfl) (.inr rfl)) fun i p hi => by
      have hil := (List.getElem?_eq_some_iff.mp hi).1
      obtain ⟨f1, f2, f3, f4⟩ := foldP_ok (W := W) hs hk hn (ps.take i) (F, []) 1000000 0 (fun x hx => hps x (List.mem_of_mem_take hx)) h1 (fun c hc => absurd hc (by simp)) la (Nat.zero_le _)
      rw [List.length_take] at f3 f4
      rw [List.take_add_one, hi, Option.toList_some, List.foldl_append, List.foldl_cons, List.foldl_nil]
      have inner := circ_inner (M := M) (P := iW ps) hW (hps p (List.mem_of_getElem? hi)) hs hn hk f1 f2 (by omega) (by omega)
      refine ⟨[.va (some 0) (eW M W), .va none (.int n), .va none (iW ((ps.take i).foldl (stP n W start) (F, [])).1), .va none (.int start), .va (some 0) (iW ps), .em, .va none (iW ((ps.take i).foldl (stP n W start) (F, [])).2), .va (some 0) (iL p), .em], ?_, .inl ?_⟩
      · show Res.ok (setSl _ 7 _) = _
        generalize iW ((ps.take i).foldl (stP n W start) (F, [])).1 = X1
        generalize iW ((ps.take i).foldl (stP n W start) (F, [])).2 = X2
        generalize iW ps = X3
        simp
      · unfold l__law_circuits_2_b
        rw [sH_ap]
        simp only [shN_cs, shN_nl]
        rw [shN1_of (i := 7) rfl, if_neg (by simp)]
        simp only [List.set_cons_succ, List.set_cons_zero]
        refine (sSeq_nx inner).trans ?_
        show _ = SR.nx [.va (some 0) (eW M W), .va none (.int n), .va none (iW (stP n W start ((ps.take i).foldl (stP n W start) (F, [])) p).1), .va none (.int start), .va (some 0) (iW ps), .em, .va none (iW (stP n W start ((ps.take i).foldl (stP n W start) (F, [])) p).2), .em, .em]
        rw [show (frm n start).foldl (stI W start p) ((ps.take i).foldl (stP n W start) (F, [])) = stP n W start ((ps.take i).foldl (stP n W start) (F, [])) p from rfl]
        generalize iW (stP n W start ((ps.take i).foldl (stP n W start) (F, [])) p).1 = X1
        generalize iW (stP n W start ((ps.take i).foldl (stP n W start) (F, [])) p).2 = X2
        generalize iW ps = X3
        simp
  rw [List.take_length] at L
  exact L
/-- all steps -/
def itK (n : Nat) (W : List (List OI)) (start : Nat) (F : LL) : Nat → LL × LL
  | 0 => (F, [[start]])
  | i + 1 => (itK n W start F i).2.foldl (stP n W start) ((itK n W start F i).1, [])
theorem itK_ok {n start a : Nat} {W : List (List OI)} {F : LL} (hs : start < n) (hn : n ≤ 6) (h1 : ∀ c ∈ F, Ck n (n + 1) c) (la : F.length ≤ a) : ∀ i, i ≤ n → (∀ c ∈ (itK n W start F i).1, Ck n (n + 1) c) ∧ (∀ p ∈ (itK n W start F i).2, Pk n (i + 1) p) ∧ (itK n W start F i).1.length ≤ a + 2 * 6 ^ i ∧ (itK n W start F i).2.length ≤ 6 ^ i
  | 0, _ => ⟨h1, fun p hp => by rw [List.mem_singleton.mp hp]; exact ⟨by simp, by simp, fun e he => by rw [List.mem_singleton.mp he]; exact hs⟩, by show F.length ≤ _; omega, by simp [itK]⟩
  | i + 1, hi => by
    obtain ⟨g1, g2, g3, g4⟩ := itK_ok hs hn h1 la i (by omega)
    obtain ⟨f1, f2, f3, f4⟩ := foldP_ok (W := W) hs (show i + 1 ≤ n by omega) hn (itK n W start F i).2 ((itK n W start F i).1, []) (a + 2 * 6 ^ i) 0 g2 g1 (fun c hc => absurd hc (by simp)) g3 (Nat.le_refl _)
    have e : 6 ^ (i + 1) = 6 * 6 ^ i := by rw [Nat.pow_succ, Nat.mul_comm]
    exact ⟨f1, f2, Nat.le_trans f3 (by omega), Nat.le_trans f4 (by omega)⟩
theorem circ_steps {n start : Nat} {W : List (List OI)} {F : LL} (hW : Sq n W) (hs : start < n) (hn : n ≤ 6) (h1 : ∀ c ∈ F, Ck n (n + 1) c) (la : F.length ≤ 800000) :
    sFor l__law_circuits_1_i (bd1 5) l__law_circuits_1_b [.va (some 0) (eW M W), .va none (.int n), .va none (iW F), .va none (.int start), .va (some 0) (iW [[start]]), .em, .em, .em, .em] = .nx [.va (some 0) (eW M W), .va none (.int n), .va none (iW (itK n W start F n).1), .va none (.int start), .va (some 0) (iW (itK n W start F n).2), .em, .em, .em, .em] := by
  have L := sFor_steps (s := l__law_circuits_1_b) (xi := l__law_circuits_1_i) (bd := bd1 5) (List.range n) (fun i => ⟨false, none, .int (i : Nat)⟩) (fun i => [.va (some 0) (eW M W), .va none (.int n), .va none (iW (itK n W start F i).1), .va none (.int start), .va (some 0) (iW (itK n W start F i).2), .em, .em, .em, .em])
    (it_range1 (n := n) (bb := true) (k := none) rfl (by omega)) fun i e hi => by
      have hi' := (List.getElem?_eq_some_iff.mp hi).1
      rw [List.length_range] at hi'
      obtain ⟨g1, g2, g3, g4⟩ := itK_ok (W := W) hs hn h1 la i (by omega)
      have p6 : 6 ^ i ≤ 6 ^ 5 := Nat.pow_le_pow_right (by decide) (by omega)
      have p5 : 6 ^ 5 = 7776 := by decide
      have mid := circ_mid (M := M) hW g2 hs hn (show i + 1 ≤ n by omega) g1 (by omega) (by omega)
      rw [show (itK n W start F i).2.foldl (stP n W start) ((itK n W start F i).1, []) = itK n W start F (i + 1) from rfl] at mid
      refine ⟨[.va (some 0) (eW M W), .va none (.int n), .va none (iW (itK n W start F i).1), .va none (.int start), .va (some 0) (iW (itK n W start F i).2), .va none (.int e), .em, .em, .em], ?_, .inl ?_⟩
      · show Res.ok (setSl _ 5 _) = _
        generalize iW (itK n W start F i).1 = X1
        generalize iW (itK n W start F i).2 = X2
        simp
      · generalize (itK n W start F i).1 = F1 at *
        generalize (itK n W start F i).2 = F2 at *
        generalize (itK n W start F (i + 1)).1 = F3 at *
        generalize (itK n W start F (i + 1)).2 = F4 at *
        have l2 : ∃ l, iW F2 = .list l := ⟨_, rfl⟩
        obtain ⟨l2, e2⟩ := l2
        obtain ⟨l1, e1⟩ : ∃ l, iW F1 = .list l := ⟨_, rfl⟩
        obtain ⟨l3, e3⟩ : ∃ l, iW F3 = .list l := ⟨_, rfl⟩
        obtain ⟨l4, e4⟩ : ∃ l, iW F4 = .list l := ⟨_, rfl⟩
        have e0 : iW [] = .list [] := rfl
        rw [e1, e2, e3, e4, e0] at mid
        rw [e1, e2, e3, e4]
        unfold l__law_circuits_1_b
        apply sFq; intro T R' hT hR; simp; subst hT hR
        rw [sH_ap]
        simp only [shN_cs, shN_nl]
        rw [shN1_of (i := 4) rfl, if_neg (by simp)]
        simp only [List.set_cons_succ, List.set_cons_zero]
        apply sqR; intro T R' hT hR; simp [mkLst, dispLv, sc]; subst hT hR
        refine (sSeq_nx mid).trans ?_
        apply sFq; intro T R' hT hR; simp; subst hT hR
        refine (sSeq_nx (sMov_of (i := 4) (j := 6) rfl)).trans ?_
        simp
        rw [shN1_of (i := 4) rfl, if_neg (by simp)]
        simp
  rw [List.length_range] at L
  exact L
end Lw

set_option Elab.async false
set_option linter.all false
set_option maxRecDepth 100000
set_option maxHeartbeats 1000000
namespace Lw
open PySem PySem.Spec PyProof.Rows L2 Ev
variable {M : Int}
def itS (n : Nat) (W : List (List OI)) : Nat → LL
  | 0 => []
  | s + 1 => (itK n W s (itS n W s) n).1
theorem itS_ok {n : Nat} {W : List (List OI)} (hn : n ≤ 6) : ∀ s, s ≤ n → (∀ c ∈ itS n W s, Ck n (n + 1) c) ∧ (itS n W s).length ≤ s * 93312
  | 0, _ => ⟨fun c hc => absurd hc (by simp [itS]), by simp [itS]⟩
  | s + 1, hs => by
    obtain ⟨g1, g2⟩ := itS_ok hn s (by omega)
    obtain ⟨f1, _, f3, _⟩ := itK_ok (W := W) (show s < n by omega) hn g1 g2 n (Nat.le_refl n)
    have p6 : 6 ^ n ≤ 6 ^ 6 := Nat.pow_le_pow_right (by decide) hn
    have p5 : 6 ^ 6 = 46656 := by decide
    exact ⟨f1, Nat.le_trans f3 (by rw [Nat.add_mul]; omega)⟩
theorem c_lcircuits {n : Nat} {W : List (List OI)} (hW : Sq n W) (hn : n ≤ 6) : ∃ cs : LL, f__law_circuits [eW M W] = .ok (none, iW cs) ∧ (∀ c ∈ cs, Ck n (n + 1) c) ∧ cs.length ≤ 600000 := by
  obtain ⟨z1, z2⟩ := itS_ok (W := W) hn n (Nat.le_refl n)
  refine ⟨itS n W n, ?_, z1, by omega⟩
  refine runB_rt rfl ?_
  show s__law_circuits [.va (some 0) (eW M W), .em, .em, .em, .em, .em, .em, .em, .em] = _
  have L := sFor_steps (s := l__law_circuits_0_b) (xi := l__law_circuits_0_i) (bd := bd1 3) (List.range n) (fun i => ⟨false, none, .int (i : Nat)⟩) (fun i => [.va (some 0) (eW M W), .va none (.int n), .va none (iW (itS n W i)), .em, .em, .em, .em, .em, .em])
    (it_range1 (n := n) (bb := true) (k := none) rfl (by omega)) fun i e hi => by
      have hi' := (List.getElem?_eq_some_iff.mp hi).1
      rw [List.length_range] at hi'
      have he : e = i := by have := (List.getElem?_eq_some_iff.mp hi).2; simpa using this.symm
      subst he
      obtain ⟨g1, g2⟩ := itS_ok (W := W) hn e (by omega)
      have st := circ_steps (M := M) hW hi' hn g1 (by omega)
      rw [show (itK n W e (itS n W e) n).1 = itS n W (e + 1) from rfl] at st
      refine ⟨[.va (some 0) (eW M W), .va none (.int n), .va none (iW (itS n W e)), .va none (.int e), .em, .em, .em, .em, .em], ?_, .inl ?_⟩
      · show Res.ok (setSl _ 3 _) = _
        generalize iW (itS n W e) = X1
        simp
      · generalize (itK n W e (itS n W e) n).2 = F4 at *
        generalize itS n W (e + 1) = F3 at *
        generalize itS n W e = F1 at *
        obtain ⟨l1, e1⟩ : ∃ l, iW F1 = .list l := ⟨_, rfl⟩
        obtain ⟨l3, e3⟩ : ∃ l, iW F3 = .list l := ⟨_, rfl⟩
        obtain ⟨l4, e4⟩ : ∃ l, iW F4 = .list l := ⟨_, rfl⟩
        have e0 : iW [[e]] = .list [.list [.int (e : Nat)]] := rfl
        rw [e1, e3, e4, e0] at st
        rw [e1, e3]
        unfold l__law_circuits_0_b
        have ed : xA false mkLst [xA false mkLst [xVa 3]] [.va (some 0) (eW M W), .va none (.int n), .va none (.list l1), .va none (.int e), .em, .em, .em, .em, .em] = .ok ⟨false, none, .list [.list [.int (e : Nat)]]⟩ := rfl
        apply sqR; intro T R' hT hR
        rw [ap_asg, ed]
        simp; subst hT hR
        rw [sH_ap]
        simp only [shN_cs, shN_nl]
        rw [shN1_of (i := 4) rfl, if_neg (by simp)]
        simp only [List.set_cons_succ, List.set_cons_zero]
        refine (sSeq_nx st).trans ?_
        simp
  rw [List.length_range] at L
  have e9 : iW (itS n W 0) = .list [] := rfl
  generalize itS n W n = C at *
  obtain ⟨l1, e1⟩ : ∃ l, iW C = .list l := ⟨_, rfl⟩
  rw [e1, e9] at L
  rw [e1]
  unfold s__law_circuits
  apply sqR; intro T R' hT hR; simp [hW.l]; subst hT hR
  apply sqR; intro T R' hT hR; simp [mkLst, dispLv, sc]; subst hT hR
  refine (sSeq_nx L).trans ?_
  have em : ∀ {i : Nat} {ρ : Rho}, ρ[i]? = some .em → shN1 i ρ = ρ := fun h => by unfold shN1; rw [h]
  rw [sH_ap]
  simp only [shN_cs, shN_nl]
  rw [em (i := 4) rfl, em (i := 7) rfl]
  simp
end Lw

set_option Elab.async false
set_option linter.all false
set_option maxRecDepth 100000
set_option maxHeartbeats 1000000
namespace Lw
open PySem PySem.Spec PyProof.Rows L2 Ev
variable {M : Int}
section
variable {ρ : Rho} {a b x : Rho → Res BV}
theorem app_zf {i : Nat} {k : Lv} {ds : List D} {d : D} {bb : Bool} {kk : Lv} (h : ρ[i]? = some (.va k (.list ds))) (hk : k ≠ some 0) (ha : a ρ = .ok ⟨bb, kk, d⟩) (hf : flat d = true) (hl : ds.length < sizeLine) : sApp (xPl i) a ρ = .nx (setSl ρ i (.va k (.list (ds ++ [d])))) := by
  rw [app_of h, ha, sr_ok]
  unfold appR
  have e4 : appV ρ (i, []) ⟨bb, kk, d⟩ = .ok (setSl ρ i (.va k (.list (ds ++ [d])))) := by
    unfold appV
    rw [settle_f hf, Res.bind_ok, at_root h, Res.bind_ok]
    dsimp only
    rw [if_pos hl]
    unfold takeLv
    rw [if_neg hk]
    simp only [hf, if_true, Res.bind_ok]
    rw [chg_va h]
    rfl
  rw [e4]
end
def ways (n : Nat) (W : List (List OI)) (w : List Nat) : List Nat := (List.range n).filter fun i => (at2 W i (lastE w)).isSome
def goW (n : Nat) (W : List (List OI)) (w : List Nat) (c : Int) : List Nat := if 0 < (ways n W w).length then w ++ [(ways n W w).getD (c.fmod ((ways n W w).length : Nat)).toNat 0] else w
theorem goW_ok {n : Nat} {W : List (List OI)} {w : List Nat} {c : Int} {k : Nat} (h : Pk n k w) : Pk n (k + 1) (goW n W w c) := by
  unfold goW
  split
  · rename_i hl
    refine h.snoc ?_
    have h0 : 0 ≤ c.fmod ((ways n W w).length : Nat) := Int.fmod_nonneg_of_pos _ (by omega)
    have h1 : c.fmod ((ways n W w).length : Nat) < ((ways n W w).length : Nat) := Int.fmod_lt_of_pos _ (by omega)
    generalize c.fmod ((ways n W w).length : Nat) = r at h0 h1
    have hm : (ways n W w).getD r.toNat 0 ∈ ways n W w := by
      rw [List.getD, List.getElem?_eq_getElem (by omega)]
      exact List.getElem_mem (by omega)
    exact List.mem_range.mp (List.mem_filter.mp hm).1
  · exact ⟨h.1, by have := h.2.1; omega, h.2.2⟩
theorem fold_goW {n : Nat} {W : List (List OI)} : ∀ (cs : List Int) (w : List Nat) (k : Nat), Pk n k w → Pk n (k + cs.length) (cs.foldl (goW n W) w)
  | [], w, k, h => h
  | c :: cs, w, k, h => by
    have := fold_goW (W := W) cs (goW n W w c) (k + 1) (goW_ok h)
    rw [List.foldl_cons, List.length_cons]
    have e : k + (cs.length + 1) = k + 1 + cs.length := by omega
    rw [e]
    exact this
theorem along_body {n k : Nat} {W : List (List OI)} {w : List Nat} {c : Int} {dr : List D} (hW : Sq n W) (hw : Pk n k w) (hn : n ≤ 6) (hk : k ≤ 1000) :
    l__law_along_0_b [.va (some 0) (eW M W), .em, .va (some 0) (.list dr), .va none (.int n), .va none (iL w), .va none (.int c), .em, .em] = .nx [.va (some 0) (eW M W), .em, .va (some 0) (.list dr), .va none (.int n), .va none (iL (goW n W w c)), .em, .em, .em] := by
  have hsz : sizeLine = 16777216 := by decide
  have hlast := hw.last
  have hlw := hw.2.1
  have hc := lc_fil (ρ := [.va (some 0) (eW M W), .em, .va (some 0) (.list dr), .va none (.int n), .va none (iL w), .va none (.int c), .em, .em]) (xi := c__law_along_1_i) (own := [7]) (bd := bd1 7) (cc := c__law_along_1_c) (x := c__law_along_1_x) (List.range n) (fun j => ⟨false, none, .int (j : Nat)⟩) (fun i => (at2 W i (lastE w)).isSome) (fun i => .int (i : Nat))
    (it_range1 (n := n) (bb := true) (k := none) rfl (by omega)) (by rw [List.length_range]; omega) fun j hj => by
      have hj := List.mem_range.mp hj
      refine ⟨[.va (some 0) (eW M W), .em, .va (some 0) (.list dr), .va none (.int n), .va none (iL w), .va none (.int c), .em, .va none (.int j)], rfl, ?_, fun _ => ⟨true, none, rfl, .inl rfl⟩⟩
      have el : x2 ixD (xVa 4) (x1 (p1 dNeg) (xCn (.int 1))) [.va (some 0) (eW M W), .em, .va (some 0) (.list dr), .va none (.int n), .va none (iL w), .va none (.int c), .em, .va none (.int j)] = .ok ⟨false, none, .int (lastE w : Nat)⟩ := by
        rw [ap_x2, xVa_4, Res.bind_ok]
        exact ix_last (b2 := false) (k2 := none) hw.1
      unfold c__law_along_1_c
      rw [ap_tb, ap_x2, ap_x2, ap_x2, xVa_0, Res.bind_ok, xVa_7, Res.bind_ok, ix_r (by rw [hW.l]; exact hj), Res.bind_ok, el, Res.bind_ok, ix_o (by rw [(hW.row hj).2]; exact hlast), Res.bind_ok, ap_cn, Res.bind_ok, pl_ap]
      show _ = Res.ok (at2 W j (lastE w)).isSome
      unfold at2
      cases ato (rwo W j) (lastE w) <;> rfl
  have hc' : xLc c__law_along_1_i [7] (bd1 7) c__law_along_1_c c__law_along_1_x [.va (some 0) (eW M W), .em, .va (some 0) (.list dr), .va none (.int n), .va none (iL w), .va none (.int c), .em, .em] = .ok ⟨false, none, iL (ways n W w)⟩ := hc
  unfold l__law_along_0_b goW
  generalize ways n W w = ys at *
  apply sqR; intro T R' hT hR
  rw [ap_asg, hc']
  simp; subst hT hR
  rw [sH_ap]
  simp only [shN_cs, shN_nl]
  rw [shN1_of (i := 6) rfl, if_neg (by simp)]
  simp only [List.set_cons_succ, List.set_cons_zero]
  have el : xA true (b1 dLen) [xVa 6] [.va (some 0) (eW M W), .em, .va (some 0) (.list dr), .va none (.int n), .va none (iL w), .va none (.int c), .va (some 0) (iL ys), .em] = .ok ⟨false, none, .int (ys.length : Nat)⟩ := b1_of (e_va (i := 6) rfl) (by
    show dLen (.list _) = _
    simp)
  have ht : xTb (x2 (pl dGt) (xA true (b1 dLen) [xVa 6]) (xCn (.int 0))) [.va (some 0) (eW M W), .em, .va (some 0) (.list dr), .va none (.int n), .va none (iL w), .va none (.int c), .va (some 0) (iL ys), .em] = .ok (decide (0 < ys.length)) := by
    rw [ap_tb, ap_x2, el, Res.bind_ok, ap_cn, Res.bind_ok, pl_ap]
    have e : dGt (.int (ys.length : Nat)) (.int 0) = .ok (.bool (decide ((0 : Int) < (ys.length : Nat)))) := rfl
    rw [e]
    by_cases h : 0 < ys.length
    · have h2 : (0 : Int) < (ys.length : Nat) := by omega
      rw [decide_eq_true h, decide_eq_true h2]; rfl
    · have h2 : ¬ (0 : Int) < (ys.length : Nat) := by omega
      rw [decide_eq_false h, decide_eq_false h2]; rfl
  by_cases h : 0 < ys.length
  · rw [if_tt (ht.trans (by rw [decide_eq_true h])), if_pos h]
    have h0 : 0 ≤ c.fmod (ys.length : Nat) := Int.fmod_nonneg_of_pos _ (by omega)
    have h1 : c.fmod (ys.length : Nat) < (ys.length : Nat) := Int.fmod_lt_of_pos _ (by omega)
    have em : dMod (.int c) (.int (ys.length : Nat)) = .ok (.int (c.fmod (ys.length : Nat))) := dMod_i (by omega)
    have ex : x2 ixD (xVa 6) (x2 (pl dMod) (xA true (b1 dInt) [xVa 5]) (xA true (b1 dLen) [xVa 6])) [.va (some 0) (eW M W), .em, .va (some 0) (.list dr), .va none (.int n), .va none (iL w), .va none (.int c), .va (some 0) (iL ys), .em] = .ok ⟨false, none, .int (ys.getD (c.fmod (ys.length : Nat)).toNat 0 : Nat)⟩ := by
      have e5 : xA true (b1 dInt) [xVa 5] [.va (some 0) (eW M W), .em, .va (some 0) (.list dr), .va none (.int n), .va none (iL w), .va none (.int c), .va (some 0) (iL ys), .em] = .ok ⟨false, none, .int c⟩ := b1_of (e_va (i := 5) rfl) rfl
      have e6 : c.fmod (ys.length : Nat) = ((c.fmod (ys.length : Nat)).toNat : Nat) := by omega
      rw [ap_x2, xVa_6, Res.bind_ok, ap_x2, e5, Res.bind_ok, el, Res.bind_ok, pl_ap, em, Res.bind_ok, Res.bind_ok]
      conv => lhs; rw [e6]
      exact ix_iL (by omega)
    refine (sSeq_nx (app_zf (i := 4) rfl (by decide) ex rfl (by rw [List.length_map]; omega))).trans ?_
    have e7 : PyData.list ((w.map fun e => PyData.int (e : Nat)) ++ [.int (ys.getD (c.fmod (ys.length : Nat)).toNat 0 : Nat)]) = iL (w ++ [ys.getD (c.fmod (ys.length : Nat)).toNat 0]) := by
      unfold iL
      rw [List.map_append]
      rfl
    rw [e7]
    simp
  · rw [if_ff (ht.trans (by rw [decide_eq_false h])), if_neg h]
    simp
end Lw

set_option Elab.async false
set_option linter.all false
set_option maxRecDepth 100000
set_option maxHeartbeats 1000000
namespace Lw
open PySem PySem.Spec PyProof.Rows L2 Ev
variable {M : Int}
theorem c_lalong {n : Nat} {W : List (List OI)} (hW : Sq n W) (h1 : 1 ≤ n) (hn : n ≤ 6) (c : Int) : ∃ w, f__law_along [eW M W, .int c] = .ok (none, iL w) ∧ Pk n 10 w := by
  obtain ⟨xs, f1, f2, f3⟩ := c_draws c (9 :: List.replicate 9 60) (lims (by decide)) (by decide)
  have hl : xs.length = 10 := f2
  have d0 : 0 ≤ xs.getD 0 0 := (f3 0 9 (xs.getD 0 0) rfl (by rw [List.getD, List.getElem?_eq_getElem (by omega)]; rfl)).1
  have d1 : 0 ≤ xs.getD 1 0 := (f3 1 60 (xs.getD 1 0) rfl (by rw [List.getD, List.getElem?_eq_getElem (by omega)]; rfl)).1
  generalize ha : xs.getD 0 0 = a at d0
  generalize hb : xs.getD 1 0 = b at d1
  obtain ⟨a', rfl⟩ : ∃ a' : Nat, a = (a' : Int) := ⟨a.toNat, by omega⟩
  have m0 : 0 ≤ b.fmod (n : Nat) := Int.fmod_nonneg_of_pos _ (by omega)
  have m1 : b.fmod (n : Nat) < (n : Nat) := Int.fmod_lt_of_pos _ (by omega)
  have em : dMod (.int b) (.int (n : Nat)) = .ok (.int (b.fmod (n : Nat))) := dMod_i (by omega)
  generalize b.fmod (n : Nat) = r at m0 m1 em
  obtain ⟨r', rfl⟩ : ∃ r' : Nat, r = (r' : Int) := ⟨r.toNat, by omega⟩
  have hst : Pk n 1 [r'] := ⟨by simp, by simp, fun e he => by rw [List.mem_singleton.mp he]; omega⟩
  generalize hcs : ((xs.drop (min 2 xs.length)).take (min (2 + a') xs.length - min 2 xs.length)) = cs
  have hcl : cs.length ≤ 8 := by
    rw [← hcs, List.length_take, List.length_drop]
    omega
  have hP := fold_goW (W := W) cs [r'] 1 hst
  refine ⟨cs.foldl (goW n W) [r'], ?_, hP.1, by have := hP.2.1; omega, hP.2.2⟩
  refine runB_rt rfl ?_
  show s__law_along [.va (some 0) (eW M W), .va (some 0) (.int c), .em, .em, .em, .em, .em, .em] = _
  have L := sFor_steps (s := l__law_along_0_b) (xi := l__law_along_0_i) (bd := bd1 5) cs (fun e => ⟨false, none, .int e⟩) (fun i => [.va (some 0) (eW M W), .em, .va (some 0) (zL xs), .va none (.int n), .va none (iL ((cs.take i).foldl (goW n W) [r'])), .em, .em, .em])
    (by
      have e2 : oAt (x2 (pl dAdd) (xCn (.int 2)) (x2 ixD (xVa 2) (xCn (.int 0)))) [.va (some 0) (eW M W), .em, .va (some 0) (zL xs), .va none (.int n), .va none (iL ((cs.take 0).foldl (goW n W) [r'])), .em, .em, .em] = .ok (some ((2 + a' : Nat) : Int)) := by
        have e0 : x2 (pl dAdd) (xCn (.int 2)) (x2 ixD (xVa 2) (xCn (.int 0))) [.va (some 0) (eW M W), .em, .va (some 0) (zL xs), .va none (.int n), .va none (iL ((cs.take 0).foldl (goW n W) [r'])), .em, .em, .em] = .ok ⟨false, none, .int (2 + (a' : Int))⟩ := by
          rw [ap_x2, ap_cn, Res.bind_ok, ap_x2, xVa_2, Res.bind_ok, ap_cn, Res.bind_ok, show PyData.int 0 = .int ((0 : Nat) : Int) from rfl, ix_z (by omega), Res.bind_ok, ha, pl_ap, dAdd_i]
          rfl
        unfold oAt
        rw [e0]
        show Res.ok (some (2 + (a' : Int))) = _
        congr 2
      have es := xSl_f (ρ := [.va (some 0) (eW M W), .em, .va (some 0) (zL xs), .va none (.int n), .va none (iL ((cs.take 0).foldl (goW n W) [r'])), .em, .em, .em]) (a := xVa 2) (l := oAt (xCn (.int 2))) (e_va (i := 2) rfl) (lo := some ((2 : Nat) : Int)) rfl e2 (flats_ints xs)
      rw [slice_ints (ns := xs) (a := 2) (b := 2 + a'), hcs] at es
      exact it_flat (bb := false) (k := none) (f := PyData.int) es (fun x => rfl) (.inl rfl)) fun i e hi => by
      have hil := (List.getElem?_eq_some_iff.mp hi).1
      have hPi := fold_goW (W := W) (cs.take i) [r'] 1 hst
      rw [List.length_take] at hPi
      rw [List.take_add_one, hi, Option.toList_some, List.foldl_append, List.foldl_cons, List.foldl_nil]
      refine ⟨[.va (some 0) (eW M W), .em, .va (some 0) (zL xs), .va none (.int n), .va none (iL ((cs.take i).foldl (goW n W) [r'])), .va none (.int e), .em, .em], ?_, .inl (along_body hW hPi hn (by omega))⟩
      show Res.ok (setSl _ 5 _) = _
      generalize iL ((cs.take i).foldl (goW n W) [r']) = X1
      simp
  rw [List.take_length] at L
  have e9 : iL ((cs.take 0).foldl (goW n W) [r']) = .list [.int (r' : Nat)] := rfl
  rw [e9] at L
  generalize cs.foldl (goW n W) [r'] = wf at *
  obtain ⟨lf, elf⟩ : ∃ l, iL wf = .list l := ⟨_, rfl⟩
  rw [elf] at L ⊢
  have elst : ∀ ρ : Rho, x2 (dAddV) (xA false mkLst [xCn (.int 9)]) (x2 (dMulV) (xA false mkLst [xCn (.int 60)]) (xCn (.int 9))) ρ = .ok ⟨false, none, .list ((9 :: List.replicate 9 60 : List Int).map .int)⟩ := fun ρ => rfl
  unfold s__law_along
  apply sqR; intro T R' hT hR
  rw [ap_asg, call2 (e_va (i := 1) rfl) (elst _) f1]
  have ez : ∀ {ρ : Rho}, ρ[2]? = some (.va (some 0) (zL xs)) → ρ[3]? = some (.va none (.int n)) → xA false mkLst [x2 (pl dMod) (xA true (b1 dInt) [x2 ixD (xVa 2) (xCn (.int 1))]) (xVa 3)] ρ = .ok ⟨false, none, .list [.int (r' : Nat)]⟩ := fun {ρ} h2 h3 => by
    have e1 : x2 ixD (xVa 2) (xCn (.int 1)) ρ = .ok ⟨false, none, .int b⟩ := by
      rw [ap_x2, e_va h2, Res.bind_ok, ap_cn, Res.bind_ok, show PyData.int 1 = .int ((1 : Nat) : Int) from rfl, ix_z (by omega), hb]
    have e2 : x2 (pl dMod) (xA true (b1 dInt) [x2 ixD (xVa 2) (xCn (.int 1))]) (xVa 3) ρ = .ok ⟨false, none, .int (r' : Nat)⟩ := by
      rw [ap_x2, b1_of e1 dInt_i, Res.bind_ok, e_va h3, Res.bind_ok, pl_ap, em]
      rfl
    rw [ap_xA, evA_cons, e2, Res.bind_ok, settle_i, Res.bind_ok, evA_nil, Res.bind_ok, Res.bind_ok]
    exact mkLst_of rfl rfl
  obtain ⟨lx, hlx⟩ : ∃ l, zL xs = .list l := ⟨_, rfl⟩
  rw [show PyData.list (xs.map PyData.int) = .list lx from hlx]
  simp only [hlx] at ez L
  simp; subst hT hR
  apply sFq; intro T R' hT hR; simp; subst hT hR
  rw [sH_ap]
  simp only [shN_cs, shN_nl]
  rw [shN1_of (i := 2) rfl, if_neg (by simp)]
  simp only [List.set_cons_succ, List.set_cons_zero]
  apply sqR; intro T R' hT hR; simp [hW.l]; subst hT hR
  apply sqR; intro T R' hT hR
  rw [ap_asg, ez rfl rfl]
  simp; subst hT hR
  refine (sSeq_nx L).trans ?_
  have emp : ∀ {i : Nat} {ρ : Rho}, ρ[i]? = some .em → shN1 i ρ = ρ := fun h => by unfold shN1; rw [h]
  rw [sH_ap]
  simp only [shN_cs, shN_nl]
  rw [emp (i := 6) rfl]
  simp
end Lw

set_option Elab.async false
set_option linter.all false
set_option maxRecDepth 100000
set_option maxHeartbeats 1000000
namespace Lw
open PySem PySem.Spec PyProof.Rows L2 Ev
variable {M : Int}
theorem kit_bb : kitB "bool" "bool" = some true := by decide +kernel
theorem dIsi_bl {b : Bool} : dIsi "bool" (.bool b) = .ok (.bool true) := by
  unfold dIsi
  show (match kitB "bool" "bool" with | some b => Res.ok (PyData.bool b) | none => .er) = _
  rw [kit_bb]
theorem isb_ff {ρ : Rho} {i : Nat} {k : Lv} {c : Bool} (h : ρ[i]? = some (.va k (.bool c))) : tNotX (xTru (x1 (p1 (dIsi "bool")) (xVa i))) ρ = .ok false := by
  refine (not_tt (b := true) (tru_b (bb := false) (k := none) ?_)).trans rfl
  rw [ap_x1, e_va h, Res.bind_ok, p1_ap, dIsi_bl]
  rfl
/-- a walk's turn -/
theorem turn07 (hM : GM M) {n : Nat} {W : List (List OI)} {ws : List Int} {S4 S5 : Sl} (n4 : noAl S4 = true) (n5 : noAl S5 = true) (hW : Sq n W) (bW : BmW 1000 W) (hn : n ≤ 1000) (h0 : ws ≠ []) (hl : ws.length ≤ 900) (hr : ∃ w : Str, dRepr (en M (wti n W ws)) = .ok (.str w)) :
    l_law_4_b [.em, .va none (eW M W), .em, .em, S4, S5, .em, .em, .em, .em, .em, .va (some 0) (zL ws), .em, .em, .em, .em] = .nx [.em, .va none (eW M W), .em, .em, S4, S5, .em, .em, .em, .em, .em, .em, .em, .em, .em, .em] := by
  have t1 := c_lwalk_time_z hM hW bW hn h0 (by omega)
  have t2 := c_walk_time_z hM hW bW hn h0 (by omega)
  have i1 := c_is_circuit hM hW bW hn hl
  have i2 := c_lis_circuit hM hW bW hn hl
  obtain ⟨w, hw⟩ := hr
  have fe : flat (en M (wti n W ws)) = true := flat_en
  have se : SeqAt.shaped (en M (wti n W ws)) = true := shaped_en
  have sz : SeqAt.shaped (zL ws) = true := shaped_zL
  have ml : ∀ {ρ : Rho}, ρ[11]? = some (.va (some 0) (zL ws)) → xA true (mkListOf) [xVa 11] ρ = .ok ⟨false, none, zL ws⟩ := fun {ρ} h => by
    rw [ap_xA, evA_cons, e_va h, Res.bind_ok, settle_lt, Res.bind_ok, evA_nil, Res.bind_ok, Res.bind_ok]
    exact mkListOf_f (flats_ints ws)
  generalize en M (wti n W ws) = tm at *
  generalize isC n W ws = cb at *
  obtain ⟨lz, hz⟩ : ∃ l, zL ws = .list l := ⟨_, rfl⟩
  rw [hz] at t1 t2 i1 i2 sz ⊢
  simp only [hz] at ml
  unfold l_law_4_b
  apply sqR; intro T R' hT hR
  rw [ap_asg, ml rfl]
  simp [n4, n5]; subst hT hR
  apply sqR; intro T R' hT hR
  rw [ap_asg, call2 (e_va (i := 1) rfl) (e_va (i := 11) rfl) t1]
  simp [n4, n5, fe]; subst hT hR
  apply sqR; intro T R' hT hR
  rw [ap_asg, call2 (e_va (i := 1) rfl) (e_va (i := 11) rfl) t2]
  simp [n4, n5, fe]; subst hT hR
  apply sqR; intro T R' hT hR
  rw [if_ff ((or_ff (ne_false (e_va (i := 14) rfl) (e_va (i := 13) rfl) (dNe_self se))).trans (ne_false (b1_of (e_va (i := 14) rfl) hw) (b1_of (e_va (i := 13) rfl) hw) dNe_str))]
  simp [n4, n5]; subst hT hR
  apply sqR; intro T R' hT hR
  rw [ap_asg, call2 (e_va (i := 1) rfl) (e_va (i := 11) rfl) i1]
  simp [n4, n5]; subst hT hR
  rw [if_ff ((or_ff (isb_ff (i := 15) rfl)).trans ((or_ff (ne_false (e_va (i := 15) rfl) (call2 (e_va (i := 1) rfl) (e_va (i := 11) rfl) i2) (dNe_self rfl))).trans (ne_false (e_va (i := 11) rfl) (e_va (i := 12) rfl) (dNe_self sz))))]
  simp [n4, n5]
end Lw

set_option Elab.async false
set_option linter.all false
set_option maxRecDepth 100000
set_option maxHeartbeats 1000000
namespace Lw
open PySem PySem.Spec PyProof.Rows L2 Ev
variable {M : Int}
theorem at_sd {n k i j : Nat} {W : List (List OI)} (hW : Sq n W) (h : ∀ r ∈ W, ∀ m ∈ r, Sd k M m) (hi : i < n) (hj : j < n) : Sd k M (at2 W i j) := by
  have hr := hW.row hi
  refine h _ hr.1 _ ?_
  show ato (rwo W i) j ∈ rwo W i
  unfold ato
  rw [List.getD, List.getElem?_eq_getElem (by rw [hr.2]; exact hj)]
  exact List.getElem_mem _
theorem pwt_sd (hM : GM M) {n : Nat} {W : List (List OI)} {w : List Nat} (hW : Sq n W) (h : ∀ r ∈ W, ∀ m ∈ r, Sd 38 M m) (hw : ∀ e ∈ w, e < n) : ∀ k, k + 1 ≤ w.length → Sd (1 + 39 * k) M (pwt W w k)
  | 0, _ => fun t ht => by
    have ht : some (0 : Int) = some t := ht
    cases ht
    exact ⟨0, 1, en_zero0 hM.1, by unfold Bd; decide, by unfold Bd; decide⟩
  | k + 1, hk => by
    rw [pwt_succ]
    have a := pwt_sd hM hW h hw k (by omega)
    have b := at_sd (M := M) hW h (getD_lt hw (show k + 1 < w.length by omega)) (getD_lt hw (show k < w.length by omega))
    exact (Sd.pls hM.1 a b).mono (by omega)
theorem wti_repr (hM : GM M) {n : Nat} {W : List (List OI)} {ws : List Int} (hW : Sq n W) (h : ∀ r ∈ W, ∀ m ∈ r, Sd 38 M m) (h0 : ws ≠ []) (hl : ws.length ≤ 40) : ∃ w : Str, dRepr (en M (wti n W ws)) = .ok (.str w) := by
  have hs : Sd 1900 M (wti n W ws) := by
    unfold wti
    split
    · rename_i ho
      obtain ⟨_, hw⟩ := okw_toNat ho
      rw [← pwt_wt]
      have hl0 : 0 < ws.length := List.length_pos_iff.mpr h0
      exact (pwt_sd hM hW h hw _ (by rw [List.length_map]; omega)).mono (by rw [List.length_map]; omega)
    · exact Sd.none
  exact ⟨_, dRepr_of (Rq.en hs) (by omega) (by omega)⟩
end Lw

set_option Elab.async false
set_option linter.all false
set_option maxRecDepth 100000
set_option maxHeartbeats 1000000
namespace Lw
open PySem PySem.Spec PyProof.Rows L2 Ev
variable {M : Int}
/-- a list of lists of ints -/
abbrev zW (ws : List (List Int)) : D := .list (ws.map fun w => zL w)
theorem dAddV_00 {b1 b2 : Bool} {ds es : List D} (h : ds.length + es.length ≤ 1000000) : dAddV ⟨b1, some 0, .list ds⟩ ⟨b2, some 0, .list es⟩ = .ok ⟨false, sc (newk (ds ++ es)), .list (ds ++ es)⟩ := by
  have e : ∀ (b : Bool) (d : List D), shI ⟨b, some 0, .list d⟩ = .ok d := fun b d => by
    unfold shI
    dsimp only
    rw [if_pos (.inr rfl)]
  have hs : sizeLine = 16777216 := by decide
  unfold dAddV
  dsimp only
  rw [e, Res.bind_ok, e, Res.bind_ok, if_pos (by omega)]
  rfl
/-- the five walks that a circuit gives -/
def five (c : List Int) : List (List Int) := [c, c.drop 1 ++ [c.getD 1 0], c.take (c.length - 1), c ++ c.drop 1, c.reverse]
theorem drop1z {c : List Int} {ρ : Rho} {i : Nat} {q : Bool} {k : Lv} (hl : 1 ≤ c.length) (hx : xVa i ρ = .ok ⟨q, k, zL c⟩) : xSl (xVa i) (oAt (xCn (.int 1))) (oNo) ρ = .ok ⟨false, none, zL (c.drop 1)⟩ := by
  rw [xSl_f hx (lo := some ((1 : Nat) : Int)) (hi := none) rfl rfl (flats_ints c), cut_from (by simpa using hl), ← List.map_drop]
theorem five_e {c : List Int} {ρ : Rho} (hl : 2 ≤ c.length) (hL : c.length ≤ 100) (hx : ρ[7]? = some (.va (some 0) (zL c))) :
    xFz (xA true mkLst [xVa 7, x2 (dAddV) (xSl (xVa 7) (oAt (xCn (.int 1))) (oNo)) (xA true mkLst [x2 ixD (xVa 7) (xCn (.int 1))]), xSl (xVa 7) (oNo) (oAt (x1 (p1 dNeg) (xCn (.int 1)))), x2 (dAddV) (xVa 7) (xSl (xVa 7) (oAt (xCn (.int 1))) (oNo)), xRev (xVa 7)]) ρ = .ok ⟨false, some 0, zW (five c)⟩ := by
  have hne : c ≠ [] := fun z => by rw [z] at hl; simp at hl
  have x7 := e_va hx
  have e1 := drop1z (show 1 ≤ c.length by omega) x7
  have e0 : xA true mkLst [x2 ixD (xVa 7) (xCn (.int 1))] ρ = .ok ⟨false, none, zL [c.getD 1 0]⟩ := by
    have q : x2 ixD (xVa 7) (xCn (.int 1)) ρ = .ok ⟨false, none, .int (c.getD 1 0)⟩ := by
      rw [ap_x2, x7, Res.bind_ok, ap_cn, Res.bind_ok, show PyData.int 1 = .int ((1 : Nat) : Int) from rfl, ix_z (by omega)]
    rw [ap_xA, evA_cons, q, Res.bind_ok, settle_i, Res.bind_ok, evA_nil, Res.bind_ok, Res.bind_ok]
    exact mkLst_of rfl rfl
  have a2 : x2 (dAddV) (xSl (xVa 7) (oAt (xCn (.int 1))) (oNo)) (xA true mkLst [x2 ixD (xVa 7) (xCn (.int 1))]) ρ = .ok ⟨false, none, zL (c.drop 1 ++ [c.getD 1 0])⟩ := by
    rw [ap_x2, e1, Res.bind_ok, e0, Res.bind_ok, dAddV_f (flats_ints _) (flats_ints _) (by simp; omega), ← List.map_append]
  have a3 := initz hne x7
  have a4 : x2 (dAddV) (xVa 7) (xSl (xVa 7) (oAt (xCn (.int 1))) (oNo)) ρ = .ok ⟨false, none, zL (c ++ c.drop 1)⟩ := by
    rw [ap_x2, x7, Res.bind_ok, e1, Res.bind_ok, dAddV_f (flats_ints _) (flats_ints _) (by simp; omega), ← List.map_append]
  have a5 : xRev (xVa 7) ρ = .ok ⟨false, none, zL c.reverse⟩ := by
    unfold xRev
    rw [x7, Res.bind_ok, shI_flat (flats_ints _), Res.bind_ok, ← List.map_reverse, mkNew_flat (flats_ints _)]
  unfold xFz
  rw [ap_xA, evA_cons, x7, Res.bind_ok, settle_lt, Res.bind_ok, evA_cons, a2, Res.bind_ok, settle_lo, Res.bind_ok, evA_cons, a3, Res.bind_ok, settle_lo, Res.bind_ok, evA_cons, a4, Res.bind_ok, settle_lo, Res.bind_ok, evA_cons, a5, Res.bind_ok, settle_lo, Res.bind_ok, evA_nil]
  rfl
end Lw

set_option Elab.async false
set_option linter.all false
set_option maxRecDepth 100000
set_option maxHeartbeats 1000000
namespace Lw
open PySem PySem.Spec PyProof.Rows L2 Ev
variable {M : Int}
theorem newk_z {ws : List (List Int)} (h : ws ≠ []) : sc (newk (ws.map fun w => zL w)) = some 1 := by
  unfold newk
  rw [if_neg]
  · rfl
  · cases ws with
    | nil => exact absurd rfl h
    | cons w ws => simp
/-- a circuit's turn -/
theorem turn07a {cs ws : List (List Int)} {i : Nat} {A B C S4 : Sl} (nA : noAl A = true) (nB : noAl B = true) (nC : noAl C = true) (n4 : noAl S4 = true) (hi : i < cs.length) (hl : 2 ≤ (cs.getD i []).length) (hL : (cs.getD i []).length ≤ 100) (hw : ws ≠ []) (hws : ws.length ≤ 900000) :
    l_law_0_b [A, B, C, .va (some 0) (zW cs), S4, .va (some 1) (zW ws), .va none (.int i), .em, .em, .em, .em, .em, .em, .em, .em, .em] = .nx [A, B, C, .va (some 0) (zW cs), S4, .va (some 1) (zW (ws ++ five (cs.getD i []))), .em, .em, .em, .em, .em, .em, .em, .em, .em, .em] := by
  have ei : ∀ {ρ : Rho}, ρ[3]? = some (.va (some 0) (zW cs)) → ρ[6]? = some (.va none (.int i)) → x2 ixD (xVa 3) (xVa 6) ρ = .ok ⟨true, some 0, zL (cs.getD i [])⟩ := fun {ρ} h3 h6 => by
    rw [ap_x2, e_va h3, Res.bind_ok, e_va h6, Res.bind_ok, ix_n hi, pick_l]
    rfl
  have ef := fun {ρ : Rho} (hx : ρ[7]? = some (.va (some 0) (zL (cs.getD i [])))) => five_e hl hL hx
  have hk : sc (newk ((ws ++ five (cs.getD i [])).map fun w => zL w)) = some 1 := newk_z (by simp [hw])
  have hlen : (five (cs.getD i [])).length = 5 := rfl
  generalize five (cs.getD i []) = fv at *
  generalize cs.getD i [] = c at *
  have ea : ∀ {ρ : Rho}, ρ[5]? = some (.va (some 0) (zW ws)) → ρ[7]? = some (.va (some 0) (zL c)) → x2 (dAddV) (xVa 5) (xFz (xA true mkLst [xVa 7, x2 (dAddV) (xSl (xVa 7) (oAt (xCn (.int 1))) (oNo)) (xA true mkLst [x2 ixD (xVa 7) (xCn (.int 1))]), xSl (xVa 7) (oNo) (oAt (x1 (p1 dNeg) (xCn (.int 1)))), x2 (dAddV) (xVa 7) (xSl (xVa 7) (oAt (xCn (.int 1))) (oNo)), xRev (xVa 7)])) ρ = .ok ⟨false, some 1, zW (ws ++ fv)⟩ := fun {ρ} h5 h7 => by
    rw [ap_x2, e_va h5, Res.bind_ok, ef h7, Res.bind_ok, dAddV_00 (by rw [List.length_map, List.length_map]; omega), ← List.map_append, hk]
  obtain ⟨l1, e1⟩ : ∃ l, zW ws = .list l := ⟨_, rfl⟩
  obtain ⟨l2, e2⟩ : ∃ l, zW (ws ++ fv) = .list l := ⟨_, rfl⟩
  obtain ⟨l3, e3⟩ : ∃ l, zL c = .list l := ⟨_, rfl⟩
  obtain ⟨l4, e4⟩ : ∃ l, zW cs = .list l := ⟨_, rfl⟩
  simp only [e1, e2, e3, e4] at ea ei ⊢
  unfold l_law_0_b
  rw [sH_ap]
  simp only [shN_cs, shN_nl]
  rw [shN1_of (i := 5) rfl, if_neg (by simp)]
  simp only [List.set_cons_succ, List.set_cons_zero]
  apply sqR; intro T R' hT hR
  rw [ap_asg, ei rfl rfl]
  simp [nA, nB, nC, n4]; subst hT hR
  apply sFq; intro T R' hT hR; simp [nA, nB, nC, n4]; subst hT hR
  rw [sH_ap]
  simp only [shN_cs, shN_nl]
  rw [shN1_of (i := 7) rfl, if_neg (by simp)]
  simp only [List.set_cons_succ, List.set_cons_zero]
  apply sqR; intro T R' hT hR
  rw [ap_asg, ea rfl rfl]
  simp [nA, nB, nC, n4]; subst hT hR
  simp [nA, nB, nC, n4]
end Lw

set_option Elab.async false
set_option linter.all false
set_option maxRecDepth 100000
set_option maxHeartbeats 1000000
namespace Lw
open PySem PySem.Spec PyProof.Rows L2 Ev
section
variable {ρ : Rho} {a : Rho → Res BV}
/-- a shared list is appended to a list of shared lists -/
theorem app_sh {i : Nat} {ds : List D} {d : D} (h : ρ[i]? = some (.va (some 1) (.list ds))) (ha : a ρ = .ok ⟨false, some 0, d⟩) (hf : flat d = false) (hl : ds.length < sizeLine) : sApp (xPl i) a ρ = .nx (setSl ρ i (.va (some 1) (.list (ds ++ [d])))) := by
  have hf' : ¬ flat d = true := by rw [hf]; simp
  rw [app_of h, ha, sr_ok]
  unfold appR
  have e4 : appV ρ (i, []) ⟨false, some 0, d⟩ = .ok (setSl ρ i (.va (some 1) (.list (ds ++ [d])))) := by
    unfold appV
    have e5 : Ev.settle false ⟨false, some 0, d⟩ = .ok ⟨false, some 0, d⟩ := by unfold Ev.settle; rw [if_neg hf']; rfl
    rw [e5, Res.bind_ok, at_root h, Res.bind_ok]
    dsimp only
    rw [if_pos hl]
    have e6 : takeLv (isRoot []) (some 1) ds ⟨false, some 0, d⟩ = .ok (some 1) := by
      unfold takeLv
      rw [if_neg (by decide), if_neg hf', if_neg (by simp)]
      exact if_pos (show pd (some 1) = some 0 from rfl)
    rw [e6, Res.bind_ok, chg_va h]
    rfl
  rw [e4]
/-- a new list, frozen -/
theorem fz_new {ds : List D} (h : a ρ = .ok ⟨false, none, .list ds⟩) : xFz a ρ = .ok ⟨false, some 0, .list ds⟩ := by
  unfold xFz
  rw [h, Res.bind_ok, settle_lo]
end
end Lw

set_option Elab.async false
set_option linter.all false
set_option maxRecDepth 100000
set_option maxHeartbeats 1000000
namespace Lw
open PySem PySem.Spec PyProof.Rows L2 Ev
variable {M : Int}
theorem zL_nat (w : List Nat) : zL (w.map fun e : Nat => (e : Int)) = iL w := by
  show PyData.list _ = PyData.list _
  rw [List.map_map]
  rfl
/-- a cell's turn: three walks are appended -/
theorem turn07b {n : Nat} {W : List (List OI)} {ws : List (List Int)} {A S4 : Sl} (nA : noAl A = true) (n4 : noAl S4 = true) (hW : Sq n W) (h1 : 1 ≤ n) (hn : n ≤ 6) (hl : ws.length ≤ 900000) (c : Int) : ∃ vs : List (List Int), (∀ w ∈ vs, w ≠ [] ∧ w.length ≤ 40) ∧ vs.length = 3 ∧
    l_law_1_b [A, .va none (eW M W), .va none (.int n), .em, S4, .va (some 1) (zW ws), .em, .em, .va none (.int c), .em, .em, .em, .em, .em, .em, .em] = .nx [A, .va none (eW M W), .va none (.int n), .em, S4, .va (some 1) (zW (ws ++ vs)), .em, .em, .em, .em, .em, .em, .em, .em, .em, .em] := by
  obtain ⟨w, fw, hw⟩ := c_lalong (M := M) hW h1 hn c
  obtain ⟨xs, f1, f2, f3⟩ := c_draws c (6 :: List.replicate 6 ((n : Int) + 2)) (fun l hl => by
    rcases List.mem_cons.mp hl with rfl | hl
    · exact ⟨by decide, (smB (n := 8) (k := 4) (by decide) (by decide)).mono (by omega)⟩
    · rw [(List.mem_replicate.mp hl).2]
      exact ⟨by omega, (smB (n := 8) (k := 4) (by omega) (by decide)).mono (by omega)⟩) (by simp)
  have hxl : xs.length = 7 := f2
  rw [List.map_cons, List.map_replicate] at f1
  have d0 : 0 ≤ xs.getD 0 0 := (f3 0 6 (xs.getD 0 0) rfl (by rw [List.getD, List.getElem?_eq_getElem (by omega)]; rfl)).1
  have d9 : ∃ a' : Nat, xs.getD 0 0 = (a' : Int) := ⟨(xs.getD 0 0).toNat, by omega⟩
  obtain ⟨a', ha⟩ := d9
  generalize hcs : ((xs.drop (min 1 xs.length)).take (min (2 + a') xs.length - min 1 xs.length)) = cs
  have hcl : cs.length ≤ 6 ∧ 0 < cs.length := by
    rw [← hcs, List.length_take, List.length_drop]
    omega
  have hne : cs ≠ [] := List.length_pos_iff.mp hcl.2
  refine ⟨[w.map fun e : Nat => (e : Int), cs.map fun e => e - 1, cs.map fun e => e.fmod n], fun v hv => ?_, rfl, ?_⟩
  · simp only [List.mem_cons, List.not_mem_nil, or_false] at hv
    rcases hv with rfl | rfl | rfl
    · exact ⟨by simpa using hw.1, by rw [List.length_map]; have := hw.2.1; omega⟩
    · exact ⟨by simpa using hne, by rw [List.length_map]; omega⟩
    · exact ⟨by simpa using hne, by rw [List.length_map]; omega⟩
  have e9 : zW (ws ++ [w.map fun e : Nat => (e : Int), cs.map fun e => e - 1, cs.map fun e => e.fmod n]) = .list (((ws.map (fun w => zL w) ++ [iL w]) ++ [zL (cs.map fun e => e - 1)]) ++ [zL (cs.map fun e => e.fmod n)]) := by
    rw [← zL_nat]
    simp [zW]
  rw [e9]
  have hdl : (ws.map (fun w => zL w)).length ≤ 900000 := by rw [List.length_map]; exact hl
  have hsz : sizeLine = 16777216 := by decide
  show l_law_1_b [A, .va none (eW M W), .va none (.int n), .em, S4, .va (some 1) (.list (ws.map fun w => zL w)), .em, .em, .va none (.int c), .em, .em, .em, .em, .em, .em, .em] = _
  generalize ws.map (fun w => zL w) = ds at hdl
  have ew : ∀ {ρ : Rho}, ρ[1]? = some (.va none (eW M W)) → ρ[8]? = some (.va none (.int c)) → xFz (xA true (xCall f__law_along 2) [xVa 1, xVa 8]) ρ = .ok ⟨false, some 0, iL w⟩ := fun {ρ} h1 h8 => fz_new (call2 (e_va h1) (e_va h8) fw)
  have edr : ∀ {ρ : Rho}, ρ[2]? = some (.va none (.int n)) → ρ[8]? = some (.va none (.int c)) → xA true (xCall f__law_draws 2) [xVa 8, x2 (dAddV) (xA false mkLst [xCn (.int 6)]) (x2 (dMulV) (xA false mkLst [x2 (pl dAdd) (xVa 2) (xCn (.int 2))]) (xCn (.int 6)))] ρ = .ok ⟨false, none, zL xs⟩ := fun {ρ} h2 h8 => by
    have e1 : x2 (pl dAdd) (xVa 2) (xCn (.int 2)) ρ = .ok ⟨false, none, .int ((n : Int) + 2)⟩ := by
      rw [ap_x2, e_va h2, Res.bind_ok, ap_cn, Res.bind_ok, pl_ap, dAdd_i, Res.bind_ok]
    have e2 : xA false mkLst [x2 (pl dAdd) (xVa 2) (xCn (.int 2))] ρ = .ok ⟨false, none, .list [.int ((n : Int) + 2)]⟩ := by
      rw [ap_xA, evA_cons, e1, Res.bind_ok, settle_i, Res.bind_ok, evA_nil, Res.bind_ok, Res.bind_ok]
      exact mkLst_of rfl rfl
    have e3 : x2 (dMulV) (xA false mkLst [x2 (pl dAdd) (xVa 2) (xCn (.int 2))]) (xCn (.int 6)) ρ = .ok ⟨false, none, .list (List.replicate 6 (.int ((n : Int) + 2)))⟩ := by
      rw [ap_x2, e2, Res.bind_ok, ap_cn, Res.bind_ok]
      exact dMulV_1 (n := 6) rfl (by decide) (by decide)
    have e4 : xA false mkLst [xCn (.int 6)] ρ = .ok ⟨false, none, .list [.int 6]⟩ := rfl
    refine call2 (v := ⟨false, none, .list (.int 6 :: List.replicate 6 (.int ((n : Int) + 2)))⟩) (e_va h8) ?_ f1
    rw [ap_x2, e4, Res.bind_ok, e3, Res.bind_ok, dAddV_f (show flats [PyData.int 6] = true from rfl) (flats_all fun d hd => by rw [(List.mem_replicate.mp hd).2]; rfl) (by rw [List.length_replicate]; decide), List.singleton_append]
  have esl : ∀ {ρ : Rho}, ρ[9]? = some (.va (some 0) (zL xs)) → xSl (xVa 9) (oAt (xCn (.int 1))) (oAt (x2 (pl dAdd) (xCn (.int 2)) (x2 ixD (xVa 9) (xCn (.int 0))))) ρ = .ok ⟨false, none, zL cs⟩ := fun {ρ} h9 => by
    have e2 : oAt (x2 (pl dAdd) (xCn (.int 2)) (x2 ixD (xVa 9) (xCn (.int 0)))) ρ = .ok (some ((2 + a' : Nat) : Int)) := by
      have e0 : x2 (pl dAdd) (xCn (.int 2)) (x2 ixD (xVa 9) (xCn (.int 0))) ρ = .ok ⟨false, none, .int (2 + (a' : Int))⟩ := by
        rw [ap_x2, ap_cn, Res.bind_ok, ap_x2, e_va h9, Res.bind_ok, ap_cn, Res.bind_ok, show PyData.int 0 = .int ((0 : Nat) : Int) from rfl, ix_z (by omega), Res.bind_ok, ha, pl_ap, dAdd_i]
        rfl
      unfold oAt
      rw [e0]
      show Res.ok (some (2 + (a' : Int))) = _
      congr 2
    have es := xSl_f (ρ := ρ) (a := xVa 9) (l := oAt (xCn (.int 1))) (e_va h9) (lo := some ((1 : Nat) : Int)) rfl e2 (flats_ints xs)
    rw [slice_ints (ns := xs) (a := 1) (b := 2 + a'), hcs] at es
    exact es
  have c2 : ∀ {X5 : Sl}, noAl X5 = true → xFz (xLc c_law_2_i [10] (bd1 10) c_law_2_c c_law_2_x) [A, .va none (eW M W), .va none (.int n), .em, S4, X5, .em, .em, .em, .va (some 0) (zL xs), .em, .em, .em, .em, .em, .em] = .ok ⟨false, some 0, zL (cs.map fun e => e - 1)⟩ := fun {X5} n5 => by
    have hc := lc_map (ρ := [A, .va none (eW M W), .va none (.int n), .em, S4, X5, .em, .em, .em, .va (some 0) (zL xs), .em, .em, .em, .em, .em, .em]) (xi := c_law_2_i) (own := [10]) (bd := bd1 10) (cc := c_law_2_c) (x := c_law_2_x) cs (fun e => ⟨false, none, .int e⟩) (fun e => .int (e - 1))
      (it_flat (bb := false) (k := none) (f := PyData.int) (esl rfl) (fun x => rfl) (.inl rfl)) (by omega) fun e he => ⟨[A, .va none (eW M W), .va none (.int n), .em, S4, X5, .em, .em, .em, .va (some 0) (zL xs), .va none (.int e), .em, .em, .em, .em, .em], by
        show Res.ok (setSl _ 10 _) = _
        generalize zL xs = D9
        simp [nA, n4, n5], rfl, false, none, rfl, .inl rfl⟩
    refine (fz_new hc).trans ?_
    show _ = Res.ok (⟨false, some 0, .list ((cs.map fun e => e - 1).map .int)⟩ : BV)
    rw [List.map_map]
    rfl
  have c3 : ∀ {X5 : Sl}, noAl X5 = true → xFz (xLc c_law_3_i [10] (bd1 10) c_law_3_c c_law_3_x) [A, .va none (eW M W), .va none (.int n), .em, S4, X5, .em, .em, .em, .va (some 0) (zL xs), .em, .em, .em, .em, .em, .em] = .ok ⟨false, some 0, zL (cs.map fun e => e.fmod n)⟩ := fun {X5} n5 => by
    have hc := lc_map (ρ := [A, .va none (eW M W), .va none (.int n), .em, S4, X5, .em, .em, .em, .va (some 0) (zL xs), .em, .em, .em, .em, .em, .em]) (xi := c_law_3_i) (own := [10]) (bd := bd1 10) (cc := c_law_3_c) (x := c_law_3_x) cs (fun e => ⟨false, none, .int e⟩) (fun e => .int (e.fmod n))
      (it_flat (bb := false) (k := none) (f := PyData.int) (esl rfl) (fun x => rfl) (.inl rfl)) (by omega) fun e he => ⟨[A, .va none (eW M W), .va none (.int n), .em, S4, X5, .em, .em, .em, .va (some 0) (zL xs), .va none (.int e), .em, .em, .em, .em, .em], by
        show Res.ok (setSl _ 10 _) = _
        generalize zL xs = D9
        simp [nA, n4, n5], rfl, false, none, by
          have e1 : xA true (b1 dInt) [xVa 10] [A, .va none (eW M W), .va none (.int n), .em, S4, X5, .em, .em, .em, .va (some 0) (zL xs), .va none (.int e), .em, .em, .em, .em, .em] = .ok ⟨false, none, .int e⟩ := b1_of (e_va (i := 10) rfl) dInt_i
          show x2 (pl dMod) (xA true (b1 dInt) [xVa 10]) (xVa 2) _ = _
          rw [ap_x2, e1, Res.bind_ok, e_va (i := 2) rfl, Res.bind_ok, pl_ap, dMod_i (by omega)]
          rfl, .inl rfl⟩
    refine (fz_new hc).trans ?_
    show _ = Res.ok (⟨false, some 0, .list ((cs.map fun e => e.fmod n).map .int)⟩ : BV)
    rw [List.map_map]
    rfl
  have fL : flat (iL w) = false := by simp
  have f2' : flat (zL (cs.map fun e => e - 1)) = false := by simp
  have f3' : flat (zL (cs.map fun e => e.fmod n)) = false := by simp
  generalize zL (cs.map fun e => e - 1) = Z2 at *
  generalize zL (cs.map fun e => e.fmod n) = Z3 at *
  generalize iL w = Z1 at *
  obtain ⟨lx, hlx⟩ : ∃ l, zL xs = .list l := ⟨_, rfl⟩
  simp only [hlx] at c2 c3 edr
  unfold l_law_1_b
  refine (sSeq_nx (app_sh (i := 5) rfl (ew rfl rfl) fL (by omega))).trans ?_
  have nd : ∀ {k : Lv} {d : D}, noAl (.va k d) = true := rfl
  refine Eq.trans (congrArg _ (show setSl _ 5 _ = [A, .va none (eW M W), .va none (.int n), .em, S4, .va (some 1) (.list (ds ++ [Z1])), .em, .em, .va none (.int c), .em, .em, .em, .em, .em, .em, .em] by simp [nA, n4])) ?_
  apply sqR; intro T R' hT hR
  rw [ap_asg, edr rfl rfl]
  simp [nA, n4]; subst hT hR
  apply sFq; intro T R' hT hR; simp [nA, n4]; subst hT hR
  rw [sH_ap]
  simp only [shN_cs, shN_nl]
  rw [shN1_of (i := 9) rfl, if_neg (by simp)]
  simp only [List.set_cons_succ, List.set_cons_zero]
  refine (sSeq_nx (app_sh (i := 5) rfl (c2 nd) f2' (by simp; omega))).trans ?_
  refine Eq.trans (congrArg _ (show setSl _ 5 _ = [A, .va none (eW M W), .va none (.int n), .em, S4, .va (some 1) (.list (ds ++ [Z1] ++ [Z2])), .em, .em, .em, .va (some 0) (.list lx), .em, .em, .em, .em, .em, .em] by simp [nA, n4])) ?_
  refine (sSeq_nx (app_sh (i := 5) rfl (c3 nd) f3' (by simp; omega))).trans ?_
  simp [nA, n4]
end Lw

set_option Elab.async false
set_option linter.all false
set_option maxRecDepth 100000
set_option maxHeartbeats 2000000
namespace Lw
open PySem PySem.Spec PyProof.Rows L2 Ev
theorem rq_eV7 {n : Nat} {M : Int} {v : List OI} (h : ∀ m ∈ v, Sd 1900 M m) (hl : v.length ≤ n) : Rq (3 * n) 2 (eV M v) :=
  Rq.list (w := 2) (h := 1) (n := n) (fun d hd => by obtain ⟨m, hm, rfl⟩ := List.mem_map.mp hd; exact Rq.en (h m hm)) (by simpa using hl) |>.mono (by omega) (by omega)
theorem rq_eW7 {n : Nat} {M : Int} {W : List (List OI)} (h : ∀ r ∈ W, ∀ m ∈ r, Sd 1900 M m) (hl : W.length ≤ n) (hl2 : ∀ r ∈ W, r.length ≤ n) : Rq (n * (3 * n + 1)) 3 (eW M W) :=
  Rq.list (w := 3 * n) (h := 2) (n := n) (fun d hd => by obtain ⟨r, hr, rfl⟩ := List.mem_map.mp hd; exact rq_eV7 (h r hr) (hl2 r hr)) (by simpa using hl)
def Ok7 (ws : List (List Int)) : Prop := ∀ w ∈ ws, w ≠ [] ∧ w.length ≤ 40
theorem five_ok {c : List Int} (h : 2 ≤ c.length) (h2 : c.length ≤ 7) : Ok7 (five c) := fun w hw => by
  unfold five at hw
  simp only [List.mem_cons, List.not_mem_nil, or_false] at hw
  have key : 0 < w.length ∧ w.length ≤ 40 := by
    rcases hw with rfl | rfl | rfl | rfl | rfl
    · omega
    · simp only [List.length_append, List.length_drop, List.length_cons, List.length_nil]; omega
    · rw [List.length_take]; omega
    · simp only [List.length_append, List.length_drop]; omega
    · rw [List.length_reverse]; omega
  exact ⟨List.length_pos_iff.mp key.1, key.2⟩
theorem Ok7.app {a b : List (List Int)} (ha : Ok7 a) (hb : Ok7 b) : Ok7 (a ++ b) := fun w hw => by
  rcases List.mem_append.mp hw with h | h
  · exact ha w h
  · exact hb w h
theorem Ok7.flat {cs : List (List Int)} (h : ∀ c ∈ cs, 2 ≤ c.length ∧ c.length ≤ 7) : Ok7 (cs.flatMap five) := fun w hw => by
  obtain ⟨c, hc, hw⟩ := List.mem_flatMap.mp hw
  exact five_ok (h c hc).1 (h c hc).2 w hw
theorem flat5_len : ∀ cs : List (List Int), (cs.flatMap five).length = 5 * cs.length
  | [] => rfl
  | c :: cs => by
    rw [List.flatMap_cons, List.length_append, flat5_len cs, List.length_cons, show (five c).length = 5 from rfl]
    omega
/-- the cells' walks -/
theorem loop71 {n : Nat} {W : List (List OI)} {A S4 : Sl} (nA : noAl A = true) (n4 : noAl S4 = true) (hW : Sq n W) (h1 : 1 ≤ n) (hn : n ≤ 6) : ∀ (ps : List Int) (ws : List (List Int)), Ok7 ws → ws.length + 3 * ps.length ≤ 900000 → ∃ vs, Ok7 vs ∧ vs.length = ws.length + 3 * ps.length ∧
    forL (bd1 8) l_law_1_b (ps.map fun c => ⟨false, none, .int c⟩) [A, .va none (eW 27720 W), .va none (.int n), .em, S4, .va (some 1) (zW ws), .em, .em, .em, .em, .em, .em, .em, .em, .em, .em] = .nx [A, .va none (eW 27720 W), .va none (.int n), .em, S4, .va (some 1) (zW vs), .em, .em, .em, .em, .em, .em, .em, .em, .em, .em]
  | [], ws, h, _ => ⟨ws, h, rfl, rfl⟩
  | p :: ps, ws, h, hl => by
    rw [List.length_cons] at hl
    obtain ⟨us, u1, u2, u3⟩ := turn07b (M := 27720) (A := A) (S4 := S4) (ws := ws) nA n4 hW h1 hn (by omega) p
    obtain ⟨vs, v1, v2, v3⟩ := loop71 nA n4 hW h1 hn ps (ws ++ us) (h.app u1) (by rw [List.length_append]; omega)
    refine ⟨vs, v1, by rw [v2, List.length_append, List.length_cons]; omega, ?_⟩
    rw [List.map_cons, ← v3]
    refine forL_nx (ρ1 := [A, .va none (eW 27720 W), .va none (.int n), .em, S4, .va (some 1) (zW ws), .em, .em, .va none (.int p), .em, .em, .em, .em, .em, .em, .em]) ?_ u3
    show Res.ok (setSl _ 8 _) = _
    generalize zW ws = Z
    simp [nA, n4]
theorem phi07 (ns : List Int) (hns : ns.length ≤ 63) : f_law [.list (ns.map .int)] = .ok (none, .bool true) := by
  have G := gm27720
  obtain ⟨n, W, g1, g2, g3, hW⟩ := c_lwork (ns.getD 0 0) ((ns.drop (min 1 ns.length)).take (min 37 ns.length - min 1 ns.length)) (by simp; omega) 6 (by omega) (by omega)
  have hA := hW.sq
  have bA : BmW 1000 W := fun r hr => BmV.mono (hW.b r hr) (by omega)
  obtain ⟨ww, hw⟩ : ∃ w : Str, dRepr (eW 27720 W) = .ok (.str w) := ⟨_, dRepr_of (w := 6 * (3 * 6 + 1)) (h := 3) (rq_eW7 (n := 6) (fun r hr m hm => (hW.s r hr m hm).mono (by omega)) (by rw [hW.l]; omega) (fun r hr => by rw [hW.r r hr]; omega)) (by omega) (by omega)⟩
  obtain ⟨C, q1, q2, q3⟩ := c_lcircuits (M := 27720) hA g3
  -- the circuits told
  obtain ⟨cs, hcs⟩ : ∃ cs : List (List Int), cs = (C.take 40).map fun w => w.map fun e : Nat => (e : Int) := ⟨_, rfl⟩
  have ecs : (C.map fun w => iL w).take 40 = cs.map fun w => zL w := by
    rw [hcs, ← List.map_take, List.map_map]
    exact List.map_congr_left fun w _ => (zL_nat w).symm
  have cs1 : ∀ c ∈ cs, 2 ≤ c.length ∧ c.length ≤ 7 := fun c hc => by
    rw [hcs] at hc
    obtain ⟨w, hw, rfl⟩ := List.mem_map.mp hc
    have := q2 w (List.mem_of_mem_take hw)
    rw [List.length_map]
    exact ⟨this.1, by have := this.2.1; omega⟩
  have cs2 : cs.length ≤ 40 := by rw [hcs, List.length_map, List.length_take]; omega
  have ex3 : ∀ {ρ : Rho}, xVa 1 ρ = .ok ⟨true, none, eW 27720 W⟩ → xSl (xFz (xA true (xCall f__law_circuits 1) [xVa 1])) (oNo) (oAt (xCn (.int 40))) ρ = .ok ⟨false, sc (newk (cs.map fun w => zL w)), zW cs⟩ := fun {ρ} h => by
    have e0 := fz_new (call1 h q1)
    have e1 : shI ⟨false, some 0, .list (C.map fun w => iL w)⟩ = .ok (C.map fun w => iL w) := by
      unfold shI
      dsimp only
      rw [if_pos (.inr rfl)]
    unfold xSl
    rw [e0, Res.bind_ok, show oNo ρ = .ok none from rfl, Res.bind_ok, show oAt (xCn (.int 40)) ρ = .ok (some ((40 : Nat) : Int)) from rfl, Res.bind_ok, e1, Res.bind_ok, cut_to, ecs]
    rfl
  have ecut : flat (zW cs) = false := by simp
  clear ecs hcs q1 q2 q3
  refine runB_rt rfl ?_
  show s_law [.va (some 0) (.list (ns.map .int)), .em, .em, .em, .em, .em, .em, .em, .em, .em, .em, .em, .em, .em, .em, .em] = _
  have hA0 : ∀ (r : Rho), xVa 0 (.va (some 0) (.list (ns.map .int)) :: r) = .ok ⟨true, some 0, .list (ns.map .int)⟩ := fun r => rfl
  have c0 : ∀ (ρ : Rho) (k : Int), 0 ≤ k → xVa 0 ρ = .ok ⟨true, some 0, .list (ns.map .int)⟩ → xA true (xCall f__law_cell 2) [xVa 0, xCn (.int k)] ρ = .ok ⟨false, none, .int (ns.getD k.toNat 0)⟩ := fun ρ k hk h0 => cell_e h0 rfl hk
  have eS : ∀ ρ : Rho, xVa 0 ρ = .ok ⟨true, some 0, .list (ns.map .int)⟩ → xSl (xVa 0) (oAt (xCn (.int 1))) (oAt (xCn (.int 37))) ρ = .ok ⟨false, none, .list (((ns.drop (min 1 ns.length)).take (min 37 ns.length - min 1 ns.length)).map .int)⟩ := fun ρ h0 => by
    rw [← slice_ints (ns := ns) (a := 1) (b := 37)]
    exact xSl_f h0 rfl rfl (flats_ints ns)
  have eP : ∀ ρ : Rho, xVa 0 ρ = .ok ⟨true, some 0, .list (ns.map .int)⟩ → x2 (dAddV) (xA false mkLst [xCn (.int 0), xCn (.int 1)]) (xSl (xVa 0) (oAt (xCn (.int 37))) oNo) ρ = .ok ⟨false, none, .list ((0 :: 1 :: ns.drop (min 37 ns.length)).map .int)⟩ := fun ρ h0 => by
    have e0 : xA false mkLst [xCn (.int 0), xCn (.int 1)] ρ = .ok ⟨false, none, .list [.int 0, .int 1]⟩ := rfl
    have e1 : xSl (xVa 0) (oAt (xCn (.int 37))) oNo ρ = .ok ⟨false, none, .list ((ns.drop (min 37 ns.length)).map .int)⟩ := by
      rw [← slice_intsF (ns := ns) (a := 37)]
      exact xSl_f h0 rfl rfl (flats_ints ns)
    rw [ap_x2, e0, Res.bind_ok, e1, Res.bind_ok, dAddV_f rfl (flats_ints _) (by simp; omega)]
    rfl
  generalize hS : (Sl.va (some 0) (.list (ns.map .int)) : Sl) = A at hA0 ⊢
  have nA : noAl A = true := by rw [← hS]; rfl
  have ps63 : (0 :: 1 :: ns.drop (min 37 ns.length)).length ≤ 100 := by simp; omega
  generalize (0 :: 1 :: ns.drop (min 37 ns.length)) = ps at eP ps63
  -- the loops
  obtain ⟨w0, hw0⟩ : ∃ w0 : List (List Int), w0 = [[0], [0, 0], [(n : Int)], [-1], [0, (n : Int)], [-1, -1]] := ⟨_, rfl⟩
  have ok0 : Ok7 w0 := fun w hw => by
    rw [hw0] at hw
    simp only [List.mem_cons, List.not_mem_nil, or_false] at hw
    rcases hw with rfl | rfl | rfl | rfl | rfl | rfl <;> exact ⟨by simp, by simp⟩
  have l0 : w0.length = 6 := by rw [hw0]; rfl
  have e5 : ∀ {ρ : Rho}, xVa 2 ρ = .ok ⟨true, none, .int n⟩ → xA true mkLst [xA false mkLst [xCn (.int 0)], xA false mkLst [xCn (.int 0), xCn (.int 0)], xA false mkLst [xVa 2], xA false mkLst [x1 (p1 dNeg) (xCn (.int 1))], xA false mkLst [xCn (.int 0), xVa 2], xA false mkLst [x1 (p1 dNeg) (xCn (.int 1)), x1 (p1 dNeg) (xCn (.int 1))]] ρ = .ok ⟨false, some 1, zW w0⟩ := fun {ρ} h => by
    have a1 : xA false mkLst [xVa 2] ρ = .ok ⟨false, none, zL [(n : Int)]⟩ := by
      rw [ap_xA, evA_cons, h, Res.bind_ok, settle_i, Res.bind_ok, evA_nil, Res.bind_ok, Res.bind_ok]
      exact mkLst_of rfl rfl
    have a2 : xA false mkLst [xCn (.int 0), xVa 2] ρ = .ok ⟨false, none, zL [0, (n : Int)]⟩ := by
      rw [ap_xA, evA_cons, ap_cn, Res.bind_ok, settle_i, Res.bind_ok, evA_cons, h, Res.bind_ok, settle_i, Res.bind_ok, evA_nil, Res.bind_ok, Res.bind_ok, Res.bind_ok]
      exact mkLst_of rfl rfl
    have a3 : xA false mkLst [xCn (.int 0)] ρ = .ok ⟨false, none, zL [0]⟩ := rfl
    have a4 : xA false mkLst [xCn (.int 0), xCn (.int 0)] ρ = .ok ⟨false, none, zL [0, 0]⟩ := rfl
    have a5 : xA false mkLst [x1 (p1 dNeg) (xCn (.int 1))] ρ = .ok ⟨false, none, zL [-1]⟩ := rfl
    have a6 : xA false mkLst [x1 (p1 dNeg) (xCn (.int 1)), x1 (p1 dNeg) (xCn (.int 1))] ρ = .ok ⟨false, none, zL [-1, -1]⟩ := rfl
    rw [hw0, ap_xA, evA_cons, a3, Res.bind_ok, settle_lo, Res.bind_ok, evA_cons, a4, Res.bind_ok, settle_lo, Res.bind_ok, evA_cons, a1, Res.bind_ok, settle_lo, Res.bind_ok, evA_cons, a5, Res.bind_ok, settle_lo, Res.bind_ok, evA_cons, a2, Res.bind_ok, settle_lo, Res.bind_ok, evA_cons, a6, Res.bind_ok, settle_lo, Res.bind_ok, evA_nil]
    rfl
  clear hw0
  have w0ne : w0 ≠ [] := List.length_pos_iff.mp (by omega)
  have L0 := sFor_steps (s := l_law_0_b) (xi := l_law_0_i) (bd := bd1 6) (List.range cs.length) (fun i => ⟨false, none, .int (i : Nat)⟩) (fun i => [A, .va none (eW 27720 W), .va none (.int n), .va (some 0) (zW cs), .va none (.str ww), .va (some 1) (zW (w0 ++ (cs.take i).flatMap five)), .em, .em, .em, .em, .em, .em, .em, .em, .em, .em])
    (it_range1 (n := cs.length) (bb := false) (k := none) (b1_of (e_va (i := 3) rfl) (by
      show dLen (.list _) = _
      simp [dLen])) (by omega)) fun i e hi => by
      have hi' := (List.getElem?_eq_some_iff.mp hi)
      have hlt := hi'.1
      rw [List.length_range] at hlt
      have he : e = i := by have := hi'.2; simpa using this.symm
      subst he
      have hm := cs1 _ (List.getElem_mem hlt)
      have eg : cs.getD e [] = cs[e] := by rw [List.getD, List.getElem?_eq_getElem hlt]; rfl
      have e1 : w0 ++ (cs.take (e + 1)).flatMap five = (w0 ++ (cs.take e).flatMap five) ++ five (cs.getD e []) := by
        rw [List.take_add_one, List.getElem?_eq_getElem hlt, List.flatMap_append, eg, List.append_assoc]
        simp
      rw [e1]
      refine ⟨[A, .va none (eW 27720 W), .va none (.int n), .va (some 0) (zW cs), .va none (.str ww), .va (some 1) (zW (w0 ++ (cs.take e).flatMap five)), .va none (.int e), .em, .em, .em, .em, .em, .em, .em, .em, .em], ?_, .inl (turn07a nA rfl rfl rfl hlt (by rw [eg]; exact hm.1) (by rw [eg]; omega) (by simp [w0ne]) (by rw [List.length_append, flat5_len, List.length_take]; omega))⟩
      show Res.ok (setSl _ 6 _) = _
      generalize zW (w0 ++ (cs.take e).flatMap five) = R1
      generalize zW cs = R2
      simp [nA]
  rw [List.length_range, List.take_length] at L0
  rw [show w0 ++ (cs.take 0).flatMap five = w0 by simp] at L0
  have ok1 := ok0.app (Ok7.flat cs1)
  have l1 : (w0 ++ cs.flatMap five).length ≤ 300 := by rw [List.length_append, flat5_len]; omega
  generalize w0 ++ cs.flatMap five = w1 at L0 ok1 l1
  obtain ⟨w2, ok2, l2, f2⟩ := loop71 (A := A) (S4 := .va none (.str ww)) nA rfl hA g2 g3 ps w1 ok1 (by omega)
  have L1 : sFor l_law_1_i (bd1 8) l_law_1_b [A, .va none (eW 27720 W), .va none (.int n), .em, .va none (.str ww), .va (some 1) (zW w1), .em, .em, .em, .em, .em, .em, .em, .em, .em, .em] = _ := sFor_nx (it_flat (bb := false) (k := none) (f := PyData.int) (eP _ (hA0 _)) (fun x => rfl) (.inl rfl)) f2
  have L4 := sFor_id (s := l_law_4_b) (xi := l_law_4_i) (bd := bd1 11) (ρ := [.em, .va none (eW 27720 W), .em, .em, .va none (.str ww), .va (some 0) (zW w2), .em, .em, .em, .em, .em, .em, .em, .em, .em, .em]) w2 (fun w => ⟨false, some 0, .list (w.map fun e => PyData.int e)⟩)
    (it_rows (bb := true) (k := some 0) (e_va (i := 5) rfl) (.inr rfl)) fun w hw => ⟨[.em, .va none (eW 27720 W), .em, .em, .va none (.str ww), .va (some 0) (zW w2), .em, .em, .em, .em, .em, .va (some 0) (zL w), .em, .em, .em, .em], by
      show Res.ok (setSl _ 11 _) = _
      generalize zW w2 = R1
      simp, .inl (turn07 G rfl rfl hA bA (by omega) (ok2 w hw).1 (by have := (ok2 w hw).2; omega) (wti_repr G hA hW.s (ok2 w hw).1 (ok2 w hw).2))⟩
  have i1 := c_is_circuit (ws := []) G hA bA (by omega) (by simp)
  have i2 : isC n W [] = false := rfl
  rw [i2] at i1
  have fin : ∀ {ρ : Rho}, xVa 1 ρ = .ok ⟨true, none, eW 27720 W⟩ → xA true (xCall f_is_circuit 2) [xVa 1, xA false mkLst []] ρ = .ok ⟨false, none, .bool false⟩ := fun {ρ} h => call2 (v := ⟨false, none, .list []⟩) h rfl i1
  obtain ⟨z0, h0⟩ : ∃ l, zW w0 = .list l := ⟨_, rfl⟩
  obtain ⟨z1, h1⟩ : ∃ l, zW w1 = .list l := ⟨_, rfl⟩
  obtain ⟨z2, h2⟩ : ∃ l, zW w2 = .list l := ⟨_, rfl⟩
  obtain ⟨z3, h3⟩ : ∃ l, zW cs = .list l := ⟨_, rfl⟩
  rw [h3] at ex3
  simp only [h0, h1, h2, h3] at e5 L0 L1 L4
  unfold s_law
  apply sqR; intro T R' hT hR
  rw [ap_asg, call3 (u := ⟨false, none, .int _⟩) (w := ⟨false, none, .int 6⟩) (c0 _ 0 (by decide) (hA0 _)) (eS _ (hA0 _)) rfl g1]
  simp [nA]; subst hT hR
  apply sqR; intro T R' hT hR; simp [nA, hA.l]; subst hT hR
  apply sqR; intro T R' hT hR
  rw [ap_asg, ex3 (e_va (i := 1) rfl)]
  simp [nA]; subst hT hR
  rw [sH_ap]
  simp only [shN_cs, shN_nl]
  rw [shN1_of (i := 3) rfl, if_neg (by simp)]
  simp only [List.set_cons_succ, List.set_cons_zero]
  apply sqR; intro T R' hT hR
  rw [ap_asg, b1_of (e_va (i := 1) rfl) hw]
  simp [nA]; subst hT hR
  apply sqR; intro T R' hT hR
  rw [ap_asg, e5 (e_va (i := 2) rfl)]
  simp [nA]; subst hT hR
  refine (sSeq_nx L0).trans ?_
  apply sFq; intro T R' hT hR; simp [nA]; subst hT hR
  refine (sSeq_nx L1).trans ?_
  apply sFq; intro T R' hT hR; simp [nA]; subst hT hR
  rw [sH_ap]
  simp only [shN_cs, shN_nl]
  rw [shN1_of (i := 5) rfl, if_neg (by simp)]
  simp only [List.set_cons_succ, List.set_cons_zero]
  refine (sSeq_nx L4).trans ?_
  rw [ap_ret, ap_and, ap_x2, b1_of (e_va (i := 1) rfl) hw, Res.bind_ok, e_va (i := 4) rfl, Res.bind_ok, pl_ap, dEq_str, Res.bind_ok, Res.bind_ok, theB_b, Res.bind_ok, if_pos rfl, ap_x2, fin (e_va (i := 1) rfl)]
  rfl
end Lw

namespace Lw
open PySem PySem.Spec PyProof.Rows L2 Ev
abbrev R : PySem.W.OpenRow := PySem.W.OpenLaw.row PySem.Challenge.rw_latelaw_k07_walks_and_circuits
abbrev hk : PySem.W.Hook := He.hookX 4 fa fn [] [] exB
def ob (s : PySem.W.SharedT) : He.AlX := He.obsX 4 fa fn [] [] exB (HandSHeadRun.getT s)
theorem ob_eq (s : PySem.W.SharedT) : ob s = hk.obs s.abs := He.obsX_eq (HandSHeadRun.getT_eq s)
abbrev loose : List Str := (["LateError", "OutOfRange", "fraction", "plus", "walk_time", "is_circuit", "_law_cell", "_law_draws", "_law_gcd", "_law_fraction", "_law_plus", "_law_times", "_law_minus", "_law_less", "_law_latest", "_law_moment", "_law_small", "_law_work", "_law_round", "_law_product", "_law_idle", "_law_finite", "_law_vector", "_law_walk_time", "_law_reached", "_law_circuits", "_law_mean", "_law_is_circuit", "_law_along"] : List Str)
theorem run (w : World) : HandSHeadRun.RunEqI R (PySem.W.view R.prog [0, 34]) hk ob 4000 loose w := by
  unfold HandSHeadRun.RunEqI
  kernel_rfl
theorem phi : ∀ ns : List Int, ns.length ≤ 63 → f_law [.list (ns.map .int)] = .ok (none, .bool true) := phi07
end Lw
open PySem PySem.W PySem.Calls PyProof.Rows
theorem PySem.Challenge.cw_latelaw_k07_walks_and_circuits_holds : PySem.Challenge.rw_latelaw_k07_walks_and_circuits.Holds := by
  w_on; o_law
  refine HandSHeadRun.head_imp (r := OpenLaw.row PySem.Challenge.rw_latelaw_k07_walks_and_circuits) (q := view (OpenLaw.row PySem.Challenge.rw_latelaw_k07_walks_and_circuits).prog [0, 34]) (H := Lw.hk) (ob := Lw.ob) (M := 4000) (loose := Lw.loose) (d := HandSHeadRun.topDef (OpenLaw.row PySem.Challenge.rw_latelaw_k07_walks_and_circuits).prog 34) (kwd := []) Lw.ob_eq
    Lw.run (by kernel_rfl) (by kernel_rfl) (by kernel_rfl) (by rfl) (by first | assumption | decide +kernel) (by decide +kernel) ⟨rfl, rfl, rfl, rfl, rfl, by decide +kernel⟩ ?hw ?hc
  case hw => w_witness2
  case hc =>
    refine Ev.law_end (l := PySem.Challenge.rw_latelaw_k07_walks_and_circuits) (n := 63) (k := 6) (φ := Lw.f_law) rfl (by decide) (by kernel_rfl) ⟨⟨rfl, by decide, by decide⟩, rfl⟩ ?F Lw.phi
    intro w mg fa h Y G hmg0
    obtain ⟨K, KX, c⟩ := Y
    have hmg : mg ("law" : PySem.Str) = some (.ref fa) := by
      have e : (HandSHeadRun.topDef (OpenLaw.row PySem.Challenge.rw_latelaw_k07_walks_and_circuits).prog 34).name = ("law" : PySem.Str) := by kernel_rfl
      rw [← e]
      exact hmg0
    have F := Lw.fx_of KX G c
    have e := hmg.symm.trans F.g_law
    cases e
    exact ⟨K, KX, fun base _ _ => Lw.d_law F⟩
