import PyProof.Rows.All
import Wide.All
import OpenK.AllK
import Wide.FinOn
import PyProof.EqAt
import PyProof.EqKinds
import PyProof.TupleCall
import HandS.ForMost
import HandS.Exc
import HandS.WordsExc
import HandS.CallSlots
import HandS.Walk
import HandS.ExcInit
import HandS.Wide
import HandS.TupAny
import HandS.IsInst
import HandS.Text
import HandS.Style
import HandS.Iter
import KE.GoesMore
import HandS.Zip
import HandS.Defaults
import HandS.MakeKwOnly
import HandS.HeadWalk
import HandS.EndTab
import HandS.ExcField
import HandS.TryMany
import HandS.Strs
import HandS.SetKeys
import HandS.Dict
import HandS.More
import HandS.DictComp
import HandS.HeadHook3
import KE.KRevSl
import HandS.HeadHook2
import HandS.List
import KE.KExcIs
import HandS.OwnEq
import HandS.RaiseMore
import HandS.NoneIn
import KE.SortData
import HandS.Star
import HandS.Comp
import KE.KDictWalk
import PyProof.DictFindH
import HandS.Conv
import HandS.Deep
import HandS.Replace
import HandS.FltList
import PyProof.StrOps2
import HandS.ReplaceLit
import PyProof.FitsReplace
import PyProof.StrLawsOccR
import KE.KUnpackStar
import KE.OsGo
import Open.SpecLaws
import PySem.Challenge.RW_keepstream_k06_formula_texts
set_option Elab.async false
set_option linter.all false
set_option maxRecDepth 100000
set_option maxHeartbeats 8000000
/-! text DL1 -/
/-! DL: data values, a store of mutable objects, and readings that speak of data alone. -/
namespace DL
open PySem PySem.Spec PyProof.Rows L2

/-- the bound on lengths (a constant: its unary form must never be looked at) -/
@[irreducible] def cap : Nat := 16777216
theorem cap_val : cap = 16777216 := by unfold cap; rfl
theorem cap_eq : cap = sizeLine := by unfold cap; rw [sizeLine_eq]
theorem cap_small {n : Nat} (h : n ≤ 1000) : n ≤ cap := by unfold cap; exact Nat.le_trans h (Nat.le_of_ble_eq_true rfl)
theorem cap_le {n : Nat} (h : n ≤ cap) : n ≤ sizeLine := by rw [← cap_eq]; exact h
/-- a value as data; loc n: the n-th mutable object of the store -/
inductive D where
  | non | bl (b : Bool) | int (i : Int) | str (x : Str) | ty (n : String)
  | tup (xs : List D) | rt (xs : List D) | lst (xs : List D) | rl (xs : List D) | dK (ks : List Key) (xs : List D) | dT (ks : List (List Key)) (xs : List D)
  | ins (C : Nat) (ns : List Str) (xs : List D) | er (C : Nat) (f : Str) (d : D) | loc (n : Nat) | ref (a : Addr) | cls (c : Nat)
  deriving Inhabited
/-- a mutable object -/
inductive Ob where
  | lst (xs : List D) | dK (ks : List Key) (xs : List D) | dT (ks : List (List Key)) (xs : List D) | ins (C : Nat) (ns : List Str) (xs : List D)
  deriving Inhabited
abbrev Store := List Ob
/-- the world of a moment: the store, where its objects stand, what stands for ever -/
structure Wd where
  μ : Store
  m : Nat → Addr
  F : Hp
  Z : Hp

section
variable (K : PySem.W.Frag) (ca : Nat → Addr)
mutual
def Rep (w : Wd) : D → V → Prop
  | .non, v => v = .non
  | .bl b, v => v = .bl b
  | .int i, v => v = .int i
  | .str x, v => v = .str x
  | .ty n, v => v = .ty n
  | .ref a, v => v = .ref a
  | .cls c, v => v = .ref (ca c)
  | .loc n, v => n < w.μ.length ∧ v = .ref (w.m n)
  | .tup xs, v => ∃ a vs, v = .ref a ∧ w.F a = some (.tup vs) ∧ Reps w xs vs
  | .rt xs, v => ∃ a vs, v = .ref a ∧ SqT K w.F a vs ∧ Reps w xs vs
  | .lst xs, v => ∃ a vs, v = .ref a ∧ w.F a = some (.lst vs) ∧ Reps w xs vs
  | .rl xs, v => ∃ a vs, v = .ref a ∧ SqL K w.F a vs ∧ Reps w xs vs
  | .dK ks xs, v => ∃ a vs, v = .ref a ∧ Rd w.F a (.dK (ks.zip vs)) ∧ ks.length = vs.length ∧ Reps w xs vs
  | .dT ks xs, v => ∃ a vs, v = .ref a ∧ Rd w.F a (.dT (ks.zip vs)) ∧ ks.length = vs.length ∧ Reps w xs vs
  | .ins C ns xs, v => ∃ a dx vs, v = .ref a ∧ w.F a = some (.ins (ca C) dx (ns.zip vs)) ∧ ns.length = vs.length ∧ Reps w xs vs
  | .er C f d, v => ∃ a dx y, v = .ref a ∧ w.F a = some (exo a (ca C) (some dx)) ∧ w.F dx = some (exd dx [(f, y)]) ∧ Rep w d y
def Reps (w : Wd) : List D → List V → Prop
  | [], vs => vs = []
  | x :: xs, vs => ∃ v r, vs = v :: r ∧ Rep w x v ∧ Reps w xs r
end
def RepO (w : Wd) : Ob → Option HO → Prop
  | .lst xs, h => ∃ vs, h = some (.lst vs) ∧ Reps K ca w xs vs
  | .dK ks xs, h => ∃ vs, h = some (.dK (ks.zip vs)) ∧ ks.length = vs.length ∧ Reps K ca w xs vs
  | .dT ks xs, h => ∃ vs, h = some (.dT (ks.zip vs)) ∧ ks.length = vs.length ∧ Reps K ca w xs vs
  | .ins C ns xs, h => ∃ dx vs, h = some (.ins (ca C) dx (ns.zip vs)) ∧ ns.length = vs.length ∧ Reps K ca w xs vs
/-- the heap bears the world -/
structure Stw (w : Wd) (H : Hp) : Prop where
  ex : Same w.F H
  ob : ∀ n o, w.μ[n]? = some o → w.F (w.m n) = none ∧ RepO K ca w o (H (w.m n))
  inj : ∀ i j, i < w.μ.length → j < w.μ.length → w.m i = w.m j → i = j
  zx : Same w.Z H
  zd : ∀ a o, w.Z a = some o → w.F a = none ∧ ∀ n, n < w.μ.length → w.m n ≠ a
  zt : ∀ a xs, w.Z a ≠ some (.tup xs)
/-- a later world -/
structure Le (w w' : Wd) : Prop where
  ex : Same w.F w'.F
  len : w.μ.length ≤ w'.μ.length
  mm : ∀ n, n < w.μ.length → w'.m n = w.m n
  z : w'.Z = w.Z
/-- a later world, whatever is private -/
structure LeX (w w' : Wd) : Prop where
  ex : Same w.F w'.F
  len : w.μ.length ≤ w'.μ.length
  mm : ∀ n, n < w.μ.length → w'.m n = w.m n
structure RepSt (w : Wd) (σ : List (Option D)) (σV : L2.St) : Prop where
  len : σ.length = σV.length
  get : ∀ (i : Nat) (d : D), σ[i]? = some (some d) → ∃ v, σV[i]? = some (some v) ∧ Rep K ca w d v
end

section
variable {K : PySem.W.Frag} {ca : Nat → Addr} {w w' w'' : Wd} {H H' : Hp}
theorem Le.x (l : Le w w') : LeX w w' := ⟨l.ex, l.len, l.mm⟩
instance {w w' : Wd} : Coe (Le w w') (LeX w w') := ⟨Le.x⟩
theorem LeX.trans (a : LeX w w') (b : LeX w' w'') : LeX w w'' := ⟨a.ex.trans b.ex, Nat.le_trans a.len b.len, fun n h => (b.mm n (Nat.lt_of_lt_of_le h a.len)).trans (a.mm n h)⟩
theorem Le.refl (w : Wd) : Le w w := ⟨Same.refl _, Nat.le_refl _, fun _ _ => rfl, rfl⟩
theorem Le.trans (a : Le w w') (b : Le w' w'') : Le w w'' := ⟨a.ex.trans b.ex, Nat.le_trans a.len b.len, fun n h => (b.mm n (Nat.lt_of_lt_of_le h a.len)).trans (a.mm n h), b.z.trans a.z⟩
theorem Same.rd {H H' : Hp} {a : Addr} {u : HO} (e : Same H H') (h : Rd H a u) : Rd H' a u := by
  rcases h with h | ⟨o, h⟩
  · exact .inl (e _ _ h)
  · exact .inr ⟨o, e _ _ h⟩
theorem Same.seqT {a : Addr} {xs : List V} (e : Same H H') (h : SqT K H a xs) : SqT K H' a xs := by
  rcases h with h | h
  · exact .inl (Same.rd e h)
  · exact .inr h
mutual
theorem Rep.mono (l : LeX w w') : ∀ (d : D) (v : V), Rep K ca w d v → Rep K ca w' d v
  | .non, v, h => by simp only [Rep] at h ⊢; exact h
  | .bl b, v, h => by simp only [Rep] at h ⊢; exact h
  | .int i, v, h => by simp only [Rep] at h ⊢; exact h
  | .str x, v, h => by simp only [Rep] at h ⊢; exact h
  | .ty n, v, h => by simp only [Rep] at h ⊢; exact h
  | .ref a, v, h => by simp only [Rep] at h ⊢; exact h
  | .cls c, v, h => by simp only [Rep] at h ⊢; exact h
  | .loc n, v, h => by
    simp only [Rep] at h ⊢
    exact ⟨Nat.lt_of_lt_of_le h.1 l.len, by rw [l.mm n h.1]; exact h.2⟩
  | .tup xs, v, h => by
    simp only [Rep] at h ⊢
    obtain ⟨a, vs, e, s, r⟩ := h
    exact ⟨a, vs, e, l.ex _ _ s, Reps.mono l xs vs r⟩
  | .rt xs, v, h => by
    simp only [Rep] at h ⊢
    obtain ⟨a, vs, e, s, r⟩ := h
    exact ⟨a, vs, e, Same.seqT l.ex s, Reps.mono l xs vs r⟩
  | .lst xs, v, h => by
    simp only [Rep] at h ⊢
    obtain ⟨a, vs, e, s, r⟩ := h
    exact ⟨a, vs, e, l.ex _ _ s, Reps.mono l xs vs r⟩
  | .rl xs, v, h => by
    simp only [Rep] at h ⊢
    obtain ⟨a, vs, e, s, r⟩ := h
    exact ⟨a, vs, e, l.ex.seq s, Reps.mono l xs vs r⟩
  | .dK ks xs, v, h => by
    simp only [Rep] at h ⊢
    obtain ⟨a, vs, e, s, z, r⟩ := h
    exact ⟨a, vs, e, Same.rd l.ex s, z, Reps.mono l xs vs r⟩
  | .dT ks xs, v, h => by
    simp only [Rep] at h ⊢
    obtain ⟨a, vs, e, s, z, r⟩ := h
    exact ⟨a, vs, e, Same.rd l.ex s, z, Reps.mono l xs vs r⟩
  | .ins C ns xs, v, h => by
    simp only [Rep] at h ⊢
    obtain ⟨a, dx, vs, e, s, z, r⟩ := h
    exact ⟨a, dx, vs, e, l.ex _ _ s, z, Reps.mono l xs vs r⟩
  | .er C f d, v, h => by
    simp only [Rep] at h ⊢
    obtain ⟨a, dx, y, e, s, z, r⟩ := h
    exact ⟨a, dx, y, e, l.ex _ _ s, l.ex _ _ z, Rep.mono l d y r⟩
theorem Reps.mono (l : LeX w w') : ∀ (xs : List D) (vs : List V), Reps K ca w xs vs → Reps K ca w' xs vs
  | [], vs, h => by simp only [Reps] at h ⊢; exact h
  | x :: xs, vs, h => by
    simp only [Reps] at h ⊢
    obtain ⟨v, r, e, hx, hr⟩ := h
    exact ⟨v, r, e, Rep.mono l x v hx, Reps.mono l xs r hr⟩
end
theorem RepO.mono (l : LeX w w') {o : Ob} {h : Option HO} (r : RepO K ca w o h) : RepO K ca w' o h := by
  cases o with
  | lst xs => obtain ⟨vs, e, q⟩ := r; exact ⟨vs, e, Reps.mono l _ _ q⟩
  | dK ks xs => obtain ⟨vs, e, z, q⟩ := r; exact ⟨vs, e, z, Reps.mono l _ _ q⟩
  | dT ks xs => obtain ⟨vs, e, z, q⟩ := r; exact ⟨vs, e, z, Reps.mono l _ _ q⟩
  | ins C ns xs => obtain ⟨dx, vs, e, z, q⟩ := r; exact ⟨dx, vs, e, z, Reps.mono l _ _ q⟩
mutual
theorem Rep.same (h1 : w'.μ = w.μ) (h2 : w'.m = w.m) (h3 : w'.F = w.F) : ∀ (d : D) (v : V), Rep K ca w d v → Rep K ca w' d v
  | .non, v, h => by simp only [Rep] at h ⊢; exact h
  | .bl b, v, h => by simp only [Rep] at h ⊢; exact h
  | .int i, v, h => by simp only [Rep] at h ⊢; exact h
  | .str x, v, h => by simp only [Rep] at h ⊢; exact h
  | .ty n, v, h => by simp only [Rep] at h ⊢; exact h
  | .ref a, v, h => by simp only [Rep] at h ⊢; exact h
  | .cls c, v, h => by simp only [Rep] at h ⊢; exact h
  | .loc n, v, h => by simp only [Rep] at h ⊢; rw [h1, h2]; exact h
  | .tup xs, v, h => by
    simp only [Rep] at h ⊢
    obtain ⟨a, vs, e, s, r⟩ := h
    exact ⟨a, vs, e, by rw [h3]; exact s, Reps.same h1 h2 h3 xs vs r⟩
  | .rt xs, v, h => by
    simp only [Rep] at h ⊢
    obtain ⟨a, vs, e, s, r⟩ := h
    exact ⟨a, vs, e, by rw [h3]; exact s, Reps.same h1 h2 h3 xs vs r⟩
  | .lst xs, v, h => by
    simp only [Rep] at h ⊢
    obtain ⟨a, vs, e, s, r⟩ := h
    exact ⟨a, vs, e, by rw [h3]; exact s, Reps.same h1 h2 h3 xs vs r⟩
  | .rl xs, v, h => by
    simp only [Rep] at h ⊢
    obtain ⟨a, vs, e, s, r⟩ := h
    exact ⟨a, vs, e, by rw [h3]; exact s, Reps.same h1 h2 h3 xs vs r⟩
  | .dK ks xs, v, h => by
    simp only [Rep] at h ⊢
    obtain ⟨a, vs, e, s, z, r⟩ := h
    exact ⟨a, vs, e, by rw [h3]; exact s, z, Reps.same h1 h2 h3 xs vs r⟩
  | .dT ks xs, v, h => by
    simp only [Rep] at h ⊢
    obtain ⟨a, vs, e, s, z, r⟩ := h
    exact ⟨a, vs, e, by rw [h3]; exact s, z, Reps.same h1 h2 h3 xs vs r⟩
  | .ins C ns xs, v, h => by
    simp only [Rep] at h ⊢
    obtain ⟨a, dx, vs, e, s, z, r⟩ := h
    exact ⟨a, dx, vs, e, by rw [h3]; exact s, z, Reps.same h1 h2 h3 xs vs r⟩
  | .er C f d, v, h => by
    simp only [Rep] at h ⊢
    obtain ⟨a, dx, y, e, s, z, r⟩ := h
    exact ⟨a, dx, y, e, by rw [h3]; exact s, by rw [h3]; exact z, Rep.same h1 h2 h3 d y r⟩
theorem Reps.same (h1 : w'.μ = w.μ) (h2 : w'.m = w.m) (h3 : w'.F = w.F) : ∀ (xs : List D) (vs : List V), Reps K ca w xs vs → Reps K ca w' xs vs
  | [], vs, h => by simp only [Reps] at h ⊢; exact h
  | x :: xs, vs, h => by
    simp only [Reps] at h ⊢
    obtain ⟨v, r, e, hx, hr⟩ := h
    exact ⟨v, r, e, Rep.same h1 h2 h3 x v hx, Reps.same h1 h2 h3 xs r hr⟩
end
theorem RepO.same (h1 : w'.μ = w.μ) (h2 : w'.m = w.m) (h3 : w'.F = w.F) {o : Ob} {h : Option HO} (r : RepO K ca w o h) : RepO K ca w' o h := by
  cases o with
  | lst xs => obtain ⟨vs, e, q⟩ := r; exact ⟨vs, e, Reps.same h1 h2 h3 _ _ q⟩
  | dK ks xs => obtain ⟨vs, e, z, q⟩ := r; exact ⟨vs, e, z, Reps.same h1 h2 h3 _ _ q⟩
  | dT ks xs => obtain ⟨vs, e, z, q⟩ := r; exact ⟨vs, e, z, Reps.same h1 h2 h3 _ _ q⟩
  | ins C ns xs => obtain ⟨dx, vs, e, z, q⟩ := r; exact ⟨dx, vs, e, z, Reps.same h1 h2 h3 _ _ q⟩
theorem RepO.sm {o : Ob} {h : Option HO} (r : RepO K ca w o h) (h1 : w'.μ = w.μ) (h2 : w'.m = w.m) (h3 : w'.F = w.F) : RepO K ca w' o h := RepO.same h1 h2 h3 r
theorem RepSt.same (h1 : w'.μ = w.μ) (h2 : w'.m = w.m) (h3 : w'.F = w.F) {σ : List (Option D)} {σV : L2.St} (r : RepSt K ca w σ σV) : RepSt K ca w' σ σV := ⟨r.len, fun i d h =>
  let ⟨v, e, q⟩ := r.get i d h
  ⟨v, e, Rep.same h1 h2 h3 d v q⟩⟩
theorem RepSt.mono (l : LeX w w') {σ : List (Option D)} {σV : L2.St} (r : RepSt K ca w σ σV) : RepSt K ca w' σ σV := ⟨r.len, fun i d h =>
  let ⟨v, e, q⟩ := r.get i d h
  ⟨v, e, Rep.mono l d v q⟩⟩
theorem RepSt.set {σ : List (Option D)} {σV : L2.St} (r : RepSt K ca w σ σV) (i : Nat) {d : D} {v : V} (h : Rep K ca w d v) : RepSt K ca w (σ.set i (some d)) (σV.set i (some v)) := ⟨by simp [r.len], fun k e hk => by
  rw [List.getElem?_set] at hk ⊢
  by_cases z : i = k
  · subst z
    rw [if_pos rfl] at hk ⊢
    split at hk
    · rename_i hl
      cases hk
      exact ⟨v, by rw [if_pos (by rw [← r.len]; exact hl)], h⟩
    · cases hk
  · rw [if_neg z] at hk ⊢
    exact r.get k e hk⟩
theorem RepSt.unset {σ : List (Option D)} {σV : L2.St} (r : RepSt K ca w σ σV) (i : Nat) (o : Option V) : RepSt K ca w (σ.set i none) (σV.set i o) := ⟨by simp [r.len], fun k e hk => by
  rw [List.getElem?_set] at hk ⊢
  by_cases z : i = k
  · subst z
    rw [if_pos rfl] at hk
    split at hk <;> cases hk
  · rw [if_neg z] at hk ⊢
    exact r.get k e hk⟩

/-! ### lists of representations -/
theorem Reps.cons {d : D} {ds : List D} {v : V} {vs : List V} (h : Rep K ca w d v) (r : Reps K ca w ds vs) : Reps K ca w (d :: ds) (v :: vs) := by
  simp only [Reps]; exact ⟨v, vs, rfl, h, r⟩
theorem Reps.nil : Reps K ca w [] [] := by simp only [Reps]
theorem Reps.len : ∀ {ds : List D} {vs : List V}, Reps K ca w ds vs → ds.length = vs.length
  | [], vs, h => by simp only [Reps] at h; simp [h]
  | d :: ds, vs, h => by
    simp only [Reps] at h
    obtain ⟨v, r, rfl, _, hr⟩ := h
    simp only [List.length_cons]; rw [Reps.len hr]
theorem Reps.get : ∀ {ds : List D} {vs : List V}, Reps K ca w ds vs → ∀ (i : Nat) (d : D), ds[i]? = some d → ∃ v, vs[i]? = some v ∧ Rep K ca w d v
  | [], _, _, i, d, e => by simp at e
  | d :: ds, vs, h, i, x, e => by
    simp only [Reps] at h
    obtain ⟨v, r, rfl, hv, hr⟩ := h
    cases i with
    | zero => simp at e; subst e; exact ⟨v, by simp, hv⟩
    | succ i =>
      obtain ⟨u, h1, h2⟩ := Reps.get hr i x (by simpa using e)
      exact ⟨u, by simpa using h1, h2⟩
theorem Reps.getV : ∀ {ds : List D} {vs : List V}, Reps K ca w ds vs → ∀ (i : Nat) (v : V), vs[i]? = some v → ∃ d, ds[i]? = some d ∧ Rep K ca w d v
  | [], vs, h, i, v, e => by simp only [Reps] at h; rw [h] at e; simp at e
  | d :: ds, vs, h, i, x, e => by
    simp only [Reps] at h
    obtain ⟨v, r, rfl, hv, hr⟩ := h
    cases i with
    | zero => simp at e; subst e; exact ⟨d, by simp, hv⟩
    | succ i =>
      obtain ⟨u, h1, h2⟩ := Reps.getV hr i x (by simpa using e)
      exact ⟨u, by simpa using h1, h2⟩
theorem Reps.append : ∀ {ds es : List D} {vs us : List V}, Reps K ca w ds vs → Reps K ca w es us → Reps K ca w (ds ++ es) (vs ++ us)
  | [], es, vs, us, h, r => by simp only [Reps] at h; rw [h]; exact r
  | d :: ds, es, vs, us, h, r => by
    simp only [Reps] at h
    obtain ⟨v, s, rfl, hv, hs⟩ := h
    exact Reps.cons hv (Reps.append hs r)
theorem Reps.of_get : ∀ {ds : List D} {vs : List V}, ds.length = vs.length → (∀ (i : Nat) d v, ds[i]? = some d → vs[i]? = some v → Rep K ca w d v) → Reps K ca w ds vs
  | [], [], _, _ => Reps.nil
  | [], _ :: _, h, _ => by simp at h
  | _ :: _, [], h, _ => by simp at h
  | d :: ds, v :: vs, h, q => Reps.cons (q 0 d v (by simp) (by simp)) (Reps.of_get (by simpa using h) fun i x y hx hy => q (i + 1) x y (by simpa using hx) (by simpa using hy))
theorem Reps.take {ds : List D} {vs : List V} (r : Reps K ca w ds vs) (n : Nat) : Reps K ca w (ds.take n) (vs.take n) := by
  refine Reps.of_get (by simp [r.len]) fun i d v hd hv => ?_
  rw [List.getElem?_take] at hd hv
  split at hd
  · obtain ⟨u, h1, h2⟩ := r.get i d hd
    rename_i hi
    rw [if_pos hi] at hv
    rw [h1] at hv; cases hv; exact h2
  · cases hd
theorem Reps.drop {ds : List D} {vs : List V} (r : Reps K ca w ds vs) (n : Nat) : Reps K ca w (ds.drop n) (vs.drop n) := by
  refine Reps.of_get (by simp [r.len]) fun i d v hd hv => ?_
  rw [List.getElem?_drop] at hd hv
  obtain ⟨u, h1, h2⟩ := r.get _ d hd
  rw [h1] at hv; cases hv; exact h2
theorem Reps.set {ds : List D} {vs : List V} (r : Reps K ca w ds vs) (n : Nat) {d : D} {v : V} (h : Rep K ca w d v) : Reps K ca w (ds.set n d) (vs.set n v) := by
  refine Reps.of_get (by simp [r.len]) fun i x y hx hy => ?_
  rw [List.getElem?_set] at hx hy
  by_cases e : n = i
  · subst e
    by_cases hl : n < ds.length
    · have hl' : n < vs.length := by rw [← r.len]; exact hl
      simp [hl] at hx
      simp [hl'] at hy
      subst hx; subst hy; exact h
    · simp [hl] at hx
  · rw [if_neg e] at hx hy
    obtain ⟨u, h1, h2⟩ := r.get _ x hx
    rw [h1] at hy; cases hy; exact h2
theorem Reps.one {d : D} {vs : List V} (r : Reps K ca w [d] vs) : ∃ v, vs = [v] ∧ Rep K ca w d v := by
  simp only [Reps] at r
  obtain ⟨v, s, rfl, h, rfl⟩ := r
  exact ⟨v, rfl, h⟩
theorem Reps.two {d e : D} {vs : List V} (r : Reps K ca w [d, e] vs) : ∃ v u, vs = [v, u] ∧ Rep K ca w d v ∧ Rep K ca w e u := by
  simp only [Reps] at r
  obtain ⟨v, s, rfl, h, u, s', rfl, h', rfl⟩ := r
  exact ⟨v, u, rfl, h, h'⟩

/-! ### the world grows -/
theorem Stw.fresh (S : Stw K ca w H) {p : Addr} (hp : H p = none) : w.F p = none := S.ex.free hp
theorem Stw.mne (S : Stw K ca w H) {p : Addr} (hp : H p = none) {n : Nat} (hn : n < w.μ.length) : w.m n ≠ p := by
  intro e
  have h := (S.ob n w.μ[n] (by simp [hn])).2
  rw [e, hp] at h
  cases q : w.μ[n] with
  | lst xs => rw [q] at h; obtain ⟨_, z, _⟩ := h; cases z
  | dK ks xs => rw [q] at h; obtain ⟨_, z, _⟩ := h; cases z
  | dT ks xs => rw [q] at h; obtain ⟨_, z, _⟩ := h; cases z
  | ins C ns xs => rw [q] at h; obtain ⟨_, _, z, _⟩ := h; cases z
theorem Stw.ob_lt (S : Stw K ca w H) {n : Nat} {o : Ob} (h : w.μ[n]? = some o) : n < w.μ.length := (List.getElem?_eq_some_iff.mp h).1
/-- a new thing that stands for ever -/
theorem Stw.grow (S : Stw K ca w H) {p : Addr} (hp : H p = none) (o : HO) : Stw K ca { w with F := upd w.F p o } (upd H p o) ∧ Le w { w with F := upd w.F p o } := by
  have hF : w.F p = none := S.fresh hp
  have le : Le w { w with F := upd w.F p o } := ⟨fun b u h => by show upd w.F p o b = some u; rw [upd_ne (ne_of_none h hF)]; exact h, Nat.le_refl _, fun _ _ => rfl, rfl⟩
  refine ⟨⟨fun b u h => ?_, fun n ob h => ?_, S.inj, fun b u h => ?_, fun b u h => ?_, S.zt⟩, le⟩
  · by_cases e : b = p
    · subst e
      have h : upd w.F b o b = some u := h
      rw [upd_same] at h ⊢; exact h
    · have h : upd w.F p o b = some u := h
      rw [upd_ne e] at h ⊢; exact S.ex b u h
  · have ne := S.mne hp (S.ob_lt h)
    obtain ⟨h1, h2⟩ := S.ob n ob h
    refine ⟨by show upd w.F p o (w.m n) = none; rw [upd_ne ne]; exact h1, ?_⟩
    show RepO K ca _ ob (upd H p o (w.m n))
    rw [upd_ne ne]
    exact h2.mono le
  · rw [upd_ne (ne_of_none (S.zx b u h) hp)]; exact S.zx b u h
  · refine ⟨?_, (S.zd b u h).2⟩
    show upd w.F p o b = none
    rw [upd_ne (ne_of_none (S.zx b u h) hp)]
    exact (S.zd b u h).1
/-- a new mutable object -/
theorem Stw.push (S : Stw K ca w H) {p : Addr} (hp : H p = none) {ob : Ob} {o : HO} (r : RepO K ca w ob (some o)) :
    Stw K ca ⟨w.μ ++ [ob], fun n => if n = w.μ.length then p else w.m n, w.F, w.Z⟩ (upd H p o) ∧ Le w ⟨w.μ ++ [ob], fun n => if n = w.μ.length then p else w.m n, w.F, w.Z⟩ := by
  have le : Le w ⟨w.μ ++ [ob], fun n => if n = w.μ.length then p else w.m n, w.F, w.Z⟩ := ⟨Same.refl _, by simp, fun n h => by show (if n = w.μ.length then p else w.m n) = w.m n; rw [if_neg (by omega)], rfl⟩
  refine ⟨⟨fun b u h => ?_, fun n ob' h => ?_, fun i j hi hj e => ?_, fun b u h => ?_, fun b u h => ⟨(S.zd b u h).1, fun n hn => ?_⟩, S.zt⟩, le⟩
  · rw [upd_ne (ne_of_none h (S.fresh hp))]; exact S.ex b u h
  · have h : (w.μ ++ [ob])[n]? = some ob' := h
    show w.F (if n = w.μ.length then p else w.m n) = none ∧ RepO K ca _ ob' (upd H p o (if n = w.μ.length then p else w.m n))
    by_cases e : n = w.μ.length
    · subst e
      simp at h
      subst h
      rw [if_pos rfl]
      exact ⟨S.fresh hp, by rw [upd_same]; exact r.mono le⟩
    · have hn : n < w.μ.length := by
        have := (List.getElem?_eq_some_iff.mp h).1
        simp at this; omega
      rw [List.getElem?_append_left hn] at h
      rw [if_neg e]
      obtain ⟨h1, h2⟩ := S.ob n ob' h
      exact ⟨h1, by rw [upd_ne (S.mne hp hn)]; exact h2.mono le⟩
  · have hi : i < (w.μ ++ [ob]).length := hi
    have hj : j < (w.μ ++ [ob]).length := hj
    simp at hi hj
    have e : (if i = w.μ.length then p else w.m i) = (if j = w.μ.length then p else w.m j) := e
    by_cases ei : i = w.μ.length
    · by_cases ej : j = w.μ.length
      · omega
      · rw [if_pos ei, if_neg ej] at e
        exact absurd e.symm (S.mne hp (by omega))
    · by_cases ej : j = w.μ.length
      · rw [if_neg ei, if_pos ej] at e
        exact absurd e (S.mne hp (by omega))
      · rw [if_neg ei, if_neg ej] at e
        exact S.inj i j (by omega) (by omega) e
  · rw [upd_ne (ne_of_none (S.zx b u h) hp)]; exact S.zx b u h
  · show (if n = w.μ.length then p else w.m n) ≠ b
    by_cases e : n = w.μ.length
    · rw [if_pos e]; exact (ne_of_none (S.zx b u h) hp).symm
    · rw [if_neg e]
      have hn : n < (w.μ ++ [ob]).length := hn
      simp at hn
      exact (S.zd b u h).2 n (by omega)
/-- a mutable object changes -/
theorem Stw.put (S : Stw K ca w H) {n : Nat} {ob : Ob} {o : HO} (hn : n < w.μ.length) (r : RepO K ca w ob (some o)) :
    Stw K ca { w with μ := w.μ.set n ob } (upd H (w.m n) o) ∧ Le w { w with μ := w.μ.set n ob } := by
  have le : Le w { w with μ := w.μ.set n ob } := ⟨Same.refl _, by simp, fun _ _ => rfl, rfl⟩
  have hF : w.F (w.m n) = none := (S.ob n w.μ[n] (by simp [hn])).1
  refine ⟨⟨fun b u h => ?_, fun k ob' h => ?_, fun i j hi hj e => ?_, fun b u h => ?_, fun b u h => ⟨(S.zd b u h).1, fun k hk => (S.zd b u h).2 k (by simpa using hk)⟩, S.zt⟩, le⟩
  · rw [upd_ne (ne_of_none h hF)]; exact S.ex b u h
  · have h : (w.μ.set n ob)[k]? = some ob' := h
    show w.F (w.m k) = none ∧ RepO K ca _ ob' (upd H (w.m n) o (w.m k))
    rw [List.getElem?_set] at h
    by_cases e : n = k
    · subst e
      simp [hn] at h
      subst h
      exact ⟨hF, by rw [upd_same]; exact r.mono le⟩
    · rw [if_neg e] at h
      obtain ⟨h1, h2⟩ := S.ob k ob' h
      have ne : w.m k ≠ w.m n := fun z => e (S.inj k n (S.ob_lt h) hn z).symm
      exact ⟨h1, by rw [upd_ne ne]; exact h2.mono le⟩
  · exact S.inj i j (by simpa using hi) (by simpa using hj) e
  · rw [upd_ne (Ne.symm ((S.zd b u h).2 n hn))]; exact S.zx b u h
/-- a private object comes, changes, or is given away -/
theorem zt_upd {Z : Hp} (h : ∀ a xs, Z a ≠ some (.tup xs)) {p : Addr} {o : HO} (ho : ∀ xs, o ≠ .tup xs) : ∀ a xs, upd Z p o a ≠ some (.tup xs) := fun a xs e => by
  by_cases c : a = p
  · subst c; rw [upd_same] at e; exact ho xs (Option.some.inj e)
  · rw [upd_ne c] at e; exact h a xs e
theorem Stw.hide (S : Stw K ca w H) {p : Addr} (hp : H p = none) (o : HO) (ho : ∀ xs, o ≠ .tup xs := by intro xs h; cases h) : Stw K ca { w with Z := upd w.Z p o } (upd H p o) := by
  refine ⟨fun b u h => ?_, fun n ob h => ?_, S.inj, fun b u h => ?_, fun b u h => ?_, zt_upd S.zt ho⟩
  · rw [upd_ne (ne_of_none h (S.fresh hp))]; exact S.ex b u h
  · obtain ⟨h1, h2⟩ := S.ob n ob h
    refine ⟨h1, ?_⟩
    show RepO K ca _ ob (upd H p o (w.m n))
    rw [upd_ne (S.mne hp (S.ob_lt h))]
    exact RepO.sm h2 rfl rfl rfl
  · have h : upd w.Z p o b = some u := h
    by_cases e : b = p
    · subst e; rw [upd_same] at h ⊢; exact h
    · rw [upd_ne e] at h ⊢; exact S.zx b u h
  · have h : upd w.Z p o b = some u := h
    by_cases e : b = p
    · subst e; exact ⟨S.fresh hp, fun n hn => S.mne hp hn⟩
    · rw [upd_ne e] at h; exact S.zd b u h
theorem Stw.hput (S : Stw K ca w H) {p : Addr} {o : HO} (hp : w.Z p = some o) (o' : HO) (ho : ∀ xs, o' ≠ .tup xs := by intro xs h; cases h) : Stw K ca { w with Z := upd w.Z p o' } (upd H p o') := by
  obtain ⟨z1, z2⟩ := S.zd p o hp
  refine ⟨fun b u h => ?_, fun n ob h => ?_, S.inj, fun b u h => ?_, fun b u h => ?_, zt_upd S.zt ho⟩
  · rw [upd_ne (ne_of_none h z1)]; exact S.ex b u h
  · obtain ⟨h1, h2⟩ := S.ob n ob h
    refine ⟨h1, ?_⟩
    show RepO K ca _ ob (upd H p o' (w.m n))
    rw [upd_ne (z2 n (S.ob_lt h))]
    exact RepO.sm h2 rfl rfl rfl
  · have h : upd w.Z p o' b = some u := h
    by_cases e : b = p
    · subst e; rw [upd_same] at h ⊢; exact h
    · rw [upd_ne e] at h ⊢; exact S.zx b u h
  · have h : upd w.Z p o' b = some u := h
    by_cases e : b = p
    · subst e; exact ⟨z1, z2⟩
    · rw [upd_ne e] at h; exact S.zd b u h
/-- the private object p goes over into what stands for ever, Z0 being the private ones without it -/
theorem Stw.unhide (S : Stw K ca w H) {p : Addr} {o : HO} (hp : w.Z p = some o) {Z0 : Hp} (h0 : Z0 p = none) (hz : ∀ b, b ≠ p → Z0 b = w.Z b) : Stw K ca { w with F := upd w.F p o, Z := Z0 } H := by
  obtain ⟨z1, z2⟩ := S.zd p o hp
  have le : Le w { w with F := upd w.F p o } := ⟨fun b u h => by show upd w.F p o b = some u; rw [upd_ne (ne_of_none h z1)]; exact h, Nat.le_refl _, fun _ _ => rfl, rfl⟩
  have zt0 : ∀ b xs, Z0 b ≠ some (.tup xs) := fun b xs e => by
    have c : b ≠ p := fun c => by rw [c, h0] at e; cases e
    rw [hz b c] at e
    exact S.zt b xs e
  refine ⟨fun b u h => ?_, fun n ob h => ?_, S.inj, fun b u h => ?_, fun b u h => ?_, zt0⟩
  · have h : upd w.F p o b = some u := h
    by_cases e : b = p
    · subst e; rw [upd_same] at h; rw [← h]; exact S.zx _ _ hp
    · rw [upd_ne e] at h; exact S.ex b u h
  · obtain ⟨h1, h2⟩ := S.ob n ob h
    refine ⟨by show upd w.F p o (w.m n) = none; rw [upd_ne (z2 n (S.ob_lt h))]; exact h1, RepO.sm (h2.mono le.x) rfl rfl rfl⟩
  · have h : Z0 b = some u := h
    have e : b ≠ p := fun e => by rw [e, h0] at h; cases h
    rw [hz b e] at h
    exact S.zx b u h
  · have h : Z0 b = some u := h
    have e : b ≠ p := fun e => by rw [e, h0] at h; cases h
    rw [hz b e] at h
    refine ⟨?_, (S.zd b u h).2⟩
    show upd w.F p o b = none
    rw [upd_ne e]
    exact (S.zd b u h).1
/-- the private object p goes over into the store -/
theorem Stw.unhideL (S : Stw K ca w H) {p : Addr} {o : HO} {ob : Ob} (hp : w.Z p = some o) (r : RepO K ca w ob (some o)) {Z0 : Hp} (h0 : Z0 p = none) (hz : ∀ b, b ≠ p → Z0 b = w.Z b) :
    Stw K ca ⟨w.μ ++ [ob], fun n => if n = w.μ.length then p else w.m n, w.F, Z0⟩ H := by
  obtain ⟨z1, z2⟩ := S.zd p o hp
  have le : Le w ⟨w.μ ++ [ob], fun n => if n = w.μ.length then p else w.m n, w.F, w.Z⟩ := ⟨Same.refl _, by simp, fun n h => by show (if n = w.μ.length then p else w.m n) = w.m n; rw [if_neg (by omega)], rfl⟩
  have hb : H p = some o := S.zx p o hp
  have zt0 : ∀ b xs, Z0 b ≠ some (.tup xs) := fun b xs e => by
    have c : b ≠ p := fun c => by rw [c, h0] at e; cases e
    rw [hz b c] at e
    exact S.zt b xs e
  refine ⟨S.ex, fun n ob' h => ?_, fun i j hi hj e => ?_, fun b u h => ?_, fun b u h => ?_, zt0⟩
  · have h : (w.μ ++ [ob])[n]? = some ob' := h
    show w.F (if n = w.μ.length then p else w.m n) = none ∧ RepO K ca _ ob' (H (if n = w.μ.length then p else w.m n))
    by_cases e : n = w.μ.length
    · subst e
      simp at h
      subst h
      rw [if_pos rfl]
      exact ⟨z1, by rw [hb]; exact RepO.sm (r.mono le.x) rfl rfl rfl⟩
    · have hn : n < w.μ.length := by
        have := (List.getElem?_eq_some_iff.mp h).1
        simp at this; omega
      rw [List.getElem?_append_left hn] at h
      rw [if_neg e]
      obtain ⟨h1, h2⟩ := S.ob n ob' h
      exact ⟨h1, RepO.sm (h2.mono le.x) rfl rfl rfl⟩
  · have hi : i < (w.μ ++ [ob]).length := hi
    have hj : j < (w.μ ++ [ob]).length := hj
    simp at hi hj
    have e : (if i = w.μ.length then p else w.m i) = (if j = w.μ.length then p else w.m j) := e
    by_cases ei : i = w.μ.length
    · by_cases ej : j = w.μ.length
      · omega
      · rw [if_pos ei, if_neg ej] at e
        exact absurd e.symm (z2 j (by omega))
    · by_cases ej : j = w.μ.length
      · rw [if_neg ei, if_pos ej] at e
        exact absurd e (z2 i (by omega))
      · rw [if_neg ei, if_neg ej] at e
        exact S.inj i j (by omega) (by omega) e
  · have h : Z0 b = some u := h
    have e : b ≠ p := fun e => by rw [e, h0] at h; cases h
    rw [hz b e] at h
    exact S.zx b u h
  · have h : Z0 b = some u := h
    have e : b ≠ p := fun e => by rw [e, h0] at h; cases h
    rw [hz b e] at h
    refine ⟨(S.zd b u h).1, fun n hn => ?_⟩
    show (if n = w.μ.length then p else w.m n) ≠ b
    by_cases en : n = w.μ.length
    · rw [if_pos en]; exact e.symm
    · rw [if_neg en]
      have hn : n < (w.μ ++ [ob]).length := hn
      simp at hn
      exact (S.zd b u h).2 n (by omega)
/-- what stands for ever is read in the heap -/
theorem Stw.rd (S : Stw K ca w H) {a : Addr} {u : HO} (h : Rd w.F a u) : Rd H a u := Same.rd S.ex h
theorem Stw.sqL (S : Stw K ca w H) {a : Addr} {xs : List V} (h : SqL K w.F a xs) : SqL K H a xs := S.ex.seq h
theorem Stw.sqT (S : Stw K ca w H) {a : Addr} {xs : List V} (h : SqT K w.F a xs) : SqT K H a xs := Same.seqT S.ex h
end

/-! ### results -/
/-- an answer; an exception of the class c with its value; or stuck -/
inductive Res (α : Type) where
  | ok (a : α) (μ : Store)
  | exc (c : Nat) (d : Option D) (μ : Store)
  | stuck
def Res.bind {α β : Type} (r : Res α) (k : α → Store → Res β) : Res β :=
  match r with
  | .ok a μ => k a μ
  | .exc c d μ => .exc c d μ
  | .stuck => .stuck
@[simp] theorem Res.bind_ok {α β : Type} (a : α) (μ : Store) (k : α → Store → Res β) : (Res.ok a μ).bind k = k a μ := rfl
@[simp] theorem Res.bind_exc {α β : Type} (c : Nat) (d : Option D) (μ : Store) (k : α → Store → Res β) : (Res.exc c d μ : Res α).bind k = .exc c d μ := rfl
@[simp] theorem Res.bind_stuck {α β : Type} (k : α → Store → Res β) : (Res.stuck : Res α).bind k = .stuck := rfl

/-- the static frame: the written part, the classes' addresses, the attribute of each own error -/
structure Cf where
  K : PySem.W.Frag
  ca : Nat → Addr
  xa : Nat → Option Str

section
variable (G : Cf)
abbrev Cf.Rep (w : Wd) : D → V → Prop := DL.Rep G.K G.ca w
abbrev Cf.Reps (w : Wd) : List D → List V → Prop := DL.Reps G.K G.ca w
abbrev Cf.Stw (w : Wd) (H : Hp) : Prop := DL.Stw G.K G.ca w H
abbrev Cf.RepSt (w : Wd) (σ : List (Option D)) (σV : L2.St) : Prop := DL.RepSt G.K G.ca w σ σV
/-- an exception's own dict: at dd; its attribute holds the value -/
def XVal (w : Wd) (H : Hp) (c : Nat) (d : Option D) (dd : Option Addr) : Prop :=
  match d with
  | none => True
  | some d => ∃ p v f, dd = some p ∧ G.xa c = some f ∧ H p = some (.xd [(f, v)]) ∧ G.Rep w d v
/-- what follows a result -/
def After {α ρ : Type} (R : Wd → α → ρ → Prop) (X : Nat → Option D → Wd → Hp → Prop) (w : Wd) (r : Res α) (Q : ρ → Hp → Prop) : Prop :=
  match r with
  | .ok a μ' => ∀ w' H' v, w'.μ = μ' → Le w w' → G.Stw w' H' → R w' a v → Q v H'
  | .exc c d μ' => ∀ w' H', w'.μ = μ' → Le w w' → G.Stw w' H' → X c d w' H'
  | .stuck => False
/-- an exception's way to the wish W at the slots σV -/
def XTo (W : XK) : Nat → Option D → Wd → Hp → Prop := fun c d w H => ∀ dd, XVal G w H c d dd → W (.ref (G.ca c)) dd H
end
section
variable {G : Cf} {α β ρ ρ' : Type} {R : Wd → α → ρ → Prop} {R' : Wd → β → ρ' → Prop} {X : Nat → Option D → Wd → Hp → Prop} {w w' : Wd} {r : Res α} {Q Q' : ρ → Hp → Prop}
theorem After.mono (h : After G R X w r Q) (q : ∀ v H, Q v H → Q' v H) : After G R X w r Q' := by
  cases r with
  | ok a μ => exact fun w' H' v e l s rr => q _ _ (h w' H' v e l s rr)
  | exc c d μ => exact h
  | stuck => exact h
theorem After.le (h : After G R X w r Q) (l : Le w w') : After G R X w' r Q := by
  cases r with
  | ok a μ => exact fun w2 H' v e l2 s rr => h w2 H' v e (l.trans l2) s rr
  | exc c d μ => exact fun w2 H' e l2 s => h w2 H' e (l.trans l2) s
  | stuck => exact h
theorem After.bind {k : α → Store → Res β} {Q : ρ' → Hp → Prop} (h : After G R' X w (r.bind k) Q) :
    After G R X w r fun v H => ∃ w1 a, Le w w1 ∧ G.Stw w1 H ∧ R w1 a v ∧ After G R' X w1 (k a w1.μ) Q := by
  cases r with
  | ok a μ =>
    intro w1 H1 v e l s rr
    subst e
    exact ⟨w1, a, l, s, rr, After.le h l⟩
  | exc c d μ => exact h
  | stuck => exact h
/-- an answer at once -/
theorem After.now {a : α} {Q : ρ → Hp → Prop} {v : ρ} {H : Hp} (h : After G R X w (.ok a w.μ) Q) (s : G.Stw w H) (rr : R w a v) : Q v H := h w H v rfl (Le.refl w) s rr
end
end DL
/-! text DL2 -/
namespace DL
open PySem PySem.Spec PyProof.Rows L2

abbrev Sg := List (Option D)
abbrev EF := Sg → Store → Res D
abbrev AF := Sg → Store → Res (List D)
abbrev BF := Sg → Store → Res Bool

section
variable (G : Cf) (W : XK)
abbrev RBl : Wd → Bool → Bool → Prop := fun _ a v => a = v
def tE (f : EF) : TE := fun σV H Q => ∃ σ w, G.Stw w H ∧ G.RepSt w σ σV ∧ After G G.Rep (XTo G W) w (f σ w.μ) Q
def tAF (f : AF) : TA := fun σV H Q => ∃ σ w, G.Stw w H ∧ G.RepSt w σ σV ∧ After G G.Reps (XTo G W) w (f σ w.μ) Q
def tB (f : BF) : TT := fun σV H Q => ∃ σ w, G.Stw w H ∧ G.RepSt w σ σV ∧ After G RBl (XTo G W) w (f σ w.μ) Q
end
theorem peI {X : Cx} {e : Expr} {t t' : TE} (h : PE X e t) (i : ∀ σ H Q, t' σ H Q → t σ H Q) : PE X e t' := ⟨fun pins s σ H Q I q => h.run pins s σ H Q I (i σ H Q q)⟩
theorem ptI {X : Cx} {e : Expr} {t t' : TT} (h : PT X e t) (i : ∀ σ H Q, t' σ H Q → t σ H Q) : PT X e t' := ⟨fun pins s σ H Q I q => h.run pins s σ H Q I (i σ H Q q)⟩
theorem pwI {X : Cx} {e : Expr} {t t' : TT} (h : PW X e t) (i : ∀ σ H Q, t' σ H Q → t σ H Q) : PW X e t' := ⟨fun wh pins s σ H Q I q => h.run wh pins s σ H Q I (i σ H Q q)⟩
theorem paI {X : Cx} {e : List Expr} {t t' : TA} (h : PA X e t) (i : ∀ σ H Q, t' σ H Q → t σ H Q) : PA X e t' := ⟨fun pos pins s σ H Q I q => h.run pos pins s σ H Q I (i σ H Q q)⟩

/-- the code of X bears data readings: G its frame, W its wish -/
abbrev DE (G : Cf) (X : Cx) (W : XK) (e : Expr) (f : EF) : Prop := PE X e (tE G W f)
abbrev DT (G : Cf) (X : Cx) (W : XK) (e : Expr) (f : BF) : Prop := PT X e (tB G W f)
abbrev DW (G : Cf) (X : Cx) (W : XK) (e : Expr) (f : BF) : Prop := PW X e (tB G W f)
abbrev DA (G : Cf) (X : Cx) (W : XK) (es : List Expr) (f : AF) : Prop := PA X es (tAF G W f)

/-! ### pure operations on values -/
abbrev O2 := D → D → Store → Option (D × Store)
def ofO {α : Type} : Option (α × Store) → Res α
  | some (d, μ) => .ok d μ
  | none => .stuck
@[simp] theorem ofO_some {α : Type} (d : α) (μ : Store) : ofO (some (d, μ)) = .ok d μ := rfl
@[simp] theorem ofO_none {α : Type} : ofO (none : Option (α × Store)) = .stuck := rfl
/-- what follows an operation -/
def AftO (G : Cf) (w : Wd) (o : Option (D × Store)) (Q : VK) : Prop := match o with
  | some (d, μ') => ∀ w' H' v, w'.μ = μ' → Le w w' → G.Stw w' H' → G.Rep w' d v → Q v H'
  | none => False
theorem AftO.of {G : Cf} {X : Nat → Option D → Wd → Hp → Prop} {w : Wd} {o : Option (D × Store)} {Q : VK} (h : After G G.Rep X w (ofO o) Q) : AftO G w o Q := by
  cases o with
  | none => exact h
  | some p => obtain ⟨d, μ⟩ := p; exact h
def r2O (G : Cf) (op : O2) : R2 := fun x y H Q => ∃ w dx dy, G.Stw w H ∧ G.Rep w dx x ∧ G.Rep w dy y ∧ AftO G w (op dx dy w.μ) Q
def r1O (G : Cf) (op : D → Store → Option (D × Store)) : V → Hp → VK → Prop := fun x H Q => ∃ w dx, G.Stw w H ∧ G.Rep w dx x ∧ AftO G w (op dx w.μ) Q
def rLO (G : Cf) (op : List D → Store → Option (D × Store)) : List V → Hp → VK → Prop := fun xs H Q => ∃ w ds, G.Stw w H ∧ G.Reps w ds xs ∧ AftO G w (op ds w.μ) Q
theorem oprI {X : Cx} {f : Value → Value → Sem Value} {r r' : R2} (h : OpR X f r) (i : ∀ x y H Q, r' x y H Q → r x y H Q) : OpR X f r' := fun pins s σ H x y v u Q I rx ry q => h pins s σ H x y v u Q I rx ry (i x y H Q q)
theorem unrI {X : Cx} {f : Value → Sem Value} {r r' : V → Hp → VK → Prop} (h : UnR X f r) (i : ∀ x H Q, r' x H Q → r x H Q) : UnR X f r' := fun pins s σ H x v Q I rx q => h pins s σ H x v Q I rx (i x H Q q)
theorem crI {X : Cx} {f : Value} {r r' : List V → Hp → VK → Prop} (h : CallR X f r) (i : ∀ xs H Q, r' xs H Q → r xs H Q) : CallR X f r' := fun pins s σ H xs us Q I rx q => h pins s σ H xs us Q I rx (i xs H Q q)

section
variable {G : Cf} {X : Cx} {W : XK} {a b c e : Expr} {es : List Expr} {fa fb fc : EF} {ff : AF} {ft fu : BF} {pos : Pos}

/-! ### names and constants -/
def fV (i : Nat) : EF := fun σ μ => match σ[i]? with
  | some (some d) => .ok d μ
  | _ => .stuck
def fC (d : D) : EF := fun _ μ => .ok d μ
theorem d_var (i : Nat) {x : Str} (hN : X.N[i]? = some x := by rfl) (hv : Vis X.env.scope x := by first | exact Or.inl rfl | exact Or.inr (Or.inl rfl) | exact Or.inr (Or.inr rfl)) (hd : (x == ("__debug__" : Str)) = false := by decide)
    (hcd : (x == ("__classdict__" : Str)) = false := by decide) : DE G X W (.Name x pos) (fV i) := by
  refine peI (pe_var hN hv hd hcd) fun σV H Q h => ?_
  obtain ⟨σ, w, S, R, A⟩ := h
  unfold fV at A
  split at A
  · rename_i d hd
    obtain ⟨v, e, r⟩ := R.get i d hd
    exact ⟨v, e, A.now S r⟩
  · exact A.elim
theorem d_c {d : D} {v : V} (h : PE X e (tC v)) (r : ∀ w, G.Rep w d v) : DE G X W e (fC d) := peI h fun σV H Q ⟨σ, w, S, R, A⟩ => A.now S (r w)
theorem d_int {i j} : DE G X W (.Constant (.int i) j pos) (fC (.int i)) := d_c pe_int fun w => by simp only [Cf.Rep, Rep]
theorem d_bl {b j} : DE G X W (.Constant (.bool b) j pos) (fC (.bl b)) := d_c pe_bl fun w => by simp only [Cf.Rep, Rep]
theorem d_non {j} : DE G X W (.Constant .none j pos) (fC .non) := d_c pe_non fun w => by simp only [Cf.Rep, Rep]
theorem d_str {x j} : DE G X W (.Constant (.str x) j pos) (fC (.str x)) := d_c pe_str fun w => by simp only [Cf.Rep, Rep]
/-- a global constant: a text, an int -/
theorem d_gstr {x y : Str} {t : Tok} (hm : X.mg x = some (.str y t)) (hg : Gl X x := by rfl) (hd : (x == ("__debug__" : Str)) = false := by decide) : DE G X W (.Name x pos) (fC (.str y)) := d_c (v := .str y) (pe_glob hg hm ⟨t, rfl⟩ hd) fun w => by simp only [Cf.Rep, Rep]
theorem d_gint {x : Str} {i : Int} {t : Tok} (hm : X.mg x = some (.int i t)) (hg : Gl X x := by rfl) (hd : (x == ("__debug__" : Str)) = false := by decide) : DE G X W (.Name x pos) (fC (.int i)) := d_c (v := .int i) (pe_glob hg hm ⟨t, rfl⟩ hd) fun w => by simp only [Cf.Rep, Rep]
/-- any global that stands for data -/
theorem d_glob {x : Str} {u : Value} {v : V} {d : D} (hm : X.mg x = some u) (r : RelV v u) (rd : ∀ w, G.Rep w d v) (hg : Gl X x := by rfl) (hd : (x == ("__debug__" : Str)) = false := by decide) : DE G X W (.Name x pos) (fC d) := d_c (pe_glob hg hm r hd) rd

/-! ### operations -/
def fBin (op : O2) (fa fb : EF) : EF := fun σ μ => (fa σ μ).bind fun x μ => (fb σ μ).bind fun y μ => ofO (op x y μ)
def fUn (op : D → Store → Option (D × Store)) (fa : EF) : EF := fun σ μ => (fa σ μ).bind fun x μ => ofO (op x μ)
theorem tE_op {op : O2} {σV : L2.St} {H : Hp} {Q : VK} (h : tE G W (fBin op fa fb) σV H Q) : tOp (r2O G op) (tE G W fa) (tE G W fb) σV H Q := by
  obtain ⟨σ, w, S, R, A⟩ := h
  refine ⟨σ, w, S, R, (After.bind (R := G.Rep) A).mono fun x H1 ⟨w1, dx, l1, S1, rx, A1⟩ => ?_⟩
  refine ⟨σ, w1, S1, R.mono l1, (After.bind (R := G.Rep) A1).mono fun y H2 ⟨w2, dy, l2, S2, ry, A2⟩ => ?_⟩
  exact ⟨w2, dx, dy, S2, Rep.mono l2 _ _ rx, ry, AftO.of A2⟩
theorem d_bin {op : Operator} {f : O2} (ho : OpR X (binaryOp op) (r2O G f)) (ha : DE G X W a fa) (hb : DE G X W b fb) : DE G X W (.BinOp a op b pos) (fBin f fa fb) :=
  peI (pe_op ho ha hb) fun _ _ _ h => tE_op h
theorem d_un {op : UnaryOp} {f : D → Store → Option (D × Store)} (ho : UnR X (unaryOp op) (r1O G f)) (ha : DE G X W a fa) : DE G X W (.UnaryOp op a pos) (fUn f fa) := by
  refine peI (pe_un ho ha) fun σV H Q h => ?_
  obtain ⟨σ, w, S, R, A⟩ := h
  exact ⟨σ, w, S, R, (After.bind (R := G.Rep) A).mono fun x H1 ⟨w1, dx, l1, S1, rx, A1⟩ => ⟨w1, dx, S1, rx, AftO.of A1⟩⟩
theorem d_cmp {op : CmpOp} {f : O2} (ho : OpR X (compareOp op) (r2O G f)) (ha : DE G X W a fa) (hb : DE G X W b fb) (hm : behindInMarks op b = false := by first | exact nomark _ | rfl) : DE G X W (.Compare a [op] [b] pos) (fBin f fa fb) :=
  peI (pe_cmpR ho ha hb hm) fun _ _ _ h => tE_op h
/-- a bool as an answer -/
def asB (d : D) (μ : Store) : Res Bool := match d with
  | .bl k => .ok k μ
  | _ => .stuck
def fTb (fa : EF) : BF := fun σ μ => (fa σ μ).bind asB
theorem asB_after {Y : Nat → Option D → Wd → Hp → Prop} {w : Wd} {d : D} {v : V} {H : Hp} {Q : Bool → Hp → Prop} (S : G.Stw w H) (r : G.Rep w d v) (h : After G RBl Y w (asB d w.μ) Q) : ∃ k, v = .bl k ∧ Q k H := by
  unfold asB at h
  split at h
  · rename_i k
    simp only [Cf.Rep, Rep] at r
    exact ⟨k, r, h.now S rfl⟩
  · exact h.elim
theorem tE_test {f : EF} {σV : L2.St} {H : Hp} {Q : Bool → Hp → Prop} (h : tB G W (fTb f) σV H Q) : tE G W f σV H fun v H' => ∃ k, v = .bl k ∧ Q k H' := by
  obtain ⟨σ, w, S, R, A⟩ := h
  exact ⟨σ, w, S, R, (After.bind (R := G.Rep) A).mono fun x H1 ⟨w1, dx, l1, S1, rx, A1⟩ => asB_after S1 rx A1⟩
/-- a comparison as a test -/
theorem d_tcmp {op : CmpOp} {f : O2} (ho : OpR X (compareOp op) (r2O G f)) (ha : DE G X W a fa) (hb : DE G X W b fb) (hm : behindInMarks op b = false := by first | exact nomark _ | rfl) : DT G X W (.Compare a [op] [b] pos) (fTb (fBin f fa fb)) :=
  ptI (pt_cmpR ho ha hb hm) fun _ _ _ h => tE_op (G := G) (tE_mono_test h)
where
  tE_mono_test {f : EF} {σV : L2.St} {H : Hp} {Q : Bool → Hp → Prop} (h : tB G W (fTb f) σV H Q) : tE G W f σV H fun v H' => ∃ k, v = .bl k ∧ Q k H' := tE_test h
/-- a bool's expression as a test -/
theorem d_tv (ha : DE G X W a fa) (he : ∀ whole, isTrue a X.env whole = (do let v ← whole; standAt a.pos; holding [v] (truthy v)) := by intro _; rfl) : DT G X W a (fTb fa) :=
  ptI (pt_val ha he) fun _ _ _ h => tE_test h
/-- any value's truth -/
def truD (d : D) (μ : Store) : Option Bool := match d with
  | .non => some false
  | .bl b => some b
  | .int i => some (i != 0)
  | .str x => if x.length ≤ cap then some ((x.length : Int) != 0) else none
  | .tup xs => some (!xs.isEmpty)
  | .lst xs => some (!xs.isEmpty)
  | .loc n => match μ[n]? with
    | some (.lst xs) => some (!xs.isEmpty)
    | _ => none
  | _ => none
def fTru (fa : EF) : BF := fun σ μ => (fa σ μ).bind fun d μ => match truD d μ with
  | some k => .ok k μ
  | none => .stuck
/-- and, or, not as tests -/
def fAndB (ft fu : BF) : BF := fun σ μ => (ft σ μ).bind fun k μ => if k = true then fu σ μ else .ok false μ
def fOrB (ft fu : BF) : BF := fun σ μ => (ft σ μ).bind fun k μ => if k = true then .ok true μ else fu σ μ
def fNotB (ft : BF) : BF := fun σ μ => (ft σ μ).bind fun k μ => .ok (!k) μ
variable {rest : List Expr}
theorem d_and1 (h : DT G X W a ft) : DW G X W (.BoolOp .And [a] pos) ft := pw_and1 h
theorem d_or1 (h : DT G X W a ft) : DW G X W (.BoolOp .Or [a] pos) ft := pw_or1 h
theorem d_andB (ha : DT G X W a ft) (hb : DW G X W (.BoolOp .And (b :: rest) pos) fu) : DW G X W (.BoolOp .And (a :: b :: rest) pos) (fAndB ft fu) := by
  refine pwI (pw_and ha hb) fun σV H Q h => ?_
  obtain ⟨σ, w, S, R, A⟩ := h
  refine ⟨σ, w, S, R, (After.bind (R := RBl) A).mono fun k H1 ⟨w1, k', l1, S1, e, A1⟩ => ?_⟩
  have e : k' = k := e
  subst e
  show (if k' = true then tB G W fu σV H1 Q else Q false H1)
  cases k' with
  | true => rw [if_pos rfl]; rw [if_pos rfl] at A1; exact ⟨σ, w1, S1, R.mono l1, A1⟩
  | false => rw [if_neg Bool.false_ne_true]; rw [if_neg Bool.false_ne_true] at A1; exact A1.now S1 rfl
theorem d_orB (ha : DT G X W a ft) (hb : DW G X W (.BoolOp .Or (b :: rest) pos) fu) : DW G X W (.BoolOp .Or (a :: b :: rest) pos) (fOrB ft fu) := by
  refine pwI (pw_or ha hb) fun σV H Q h => ?_
  obtain ⟨σ, w, S, R, A⟩ := h
  refine ⟨σ, w, S, R, (After.bind (R := RBl) A).mono fun k H1 ⟨w1, k', l1, S1, e, A1⟩ => ?_⟩
  have e : k' = k := e
  subst e
  show (if k' = true then Q true H1 else tB G W fu σV H1 Q)
  cases k' with
  | true => rw [if_pos rfl]; rw [if_pos rfl] at A1; exact A1.now S1 rfl
  | false => rw [if_neg Bool.false_ne_true]; rw [if_neg Bool.false_ne_true] at A1; exact ⟨σ, w1, S1, R.mono l1, A1⟩
theorem d_notB (ha : DT G X W a ft) : DT G X W (.UnaryOp .Not a pos) (fNotB ft) := by
  refine ptI (pt_not ha) fun σV H Q h => ?_
  obtain ⟨σ, w, S, R, A⟩ := h
  refine ⟨σ, w, S, R, (After.bind (R := RBl) A).mono fun k H1 ⟨w1, k', l1, S1, e, A1⟩ => ?_⟩
  have e : k' = k := e
  subst e
  exact A1.now S1 rfl
/-- and, or, not as values: all but the last a bool -/
def fAnd (fa fb : EF) : EF := fun σ μ => (fTb fa σ μ).bind fun k μ => if k = true then fb σ μ else .ok (.bl false) μ
def fOr (fa fb : EF) : EF := fun σ μ => (fTb fa σ μ).bind fun k μ => if k = true then .ok (.bl true) μ else fb σ μ
def fNot (fa : EF) : EF := fun σ μ => (fTb fa σ μ).bind fun k μ => .ok (.bl (!k)) μ
theorem rep_bl {w : Wd} {k : Bool} : G.Rep w (.bl k) (.bl k) := by simp only [Cf.Rep, Rep]
theorem fTb_after {w : Wd} {Y : Nat → Option D → Wd → Hp → Prop} {σ : Sg} {k : Bool → Store → Res D} {Q : VK} (A : After G G.Rep Y w ((fTb fa σ w.μ).bind k) Q) :
    After G G.Rep Y w (fa σ w.μ) fun v H1 => ∃ w1 b, v = .bl b ∧ Le w w1 ∧ G.Stw w1 H1 ∧ After G G.Rep Y w1 (k b w1.μ) Q := by
  unfold fTb at A
  cases q : fa σ w.μ with
  | ok d μ =>
    rw [q] at A
    simp only [Res.bind_ok] at A
    intro w1 H1 v e l s r
    subst e
    unfold asB at A
    split at A
    · rename_i b
      simp only [Cf.Rep, Rep] at r
      exact ⟨w1, b, r, l, s, A.le l⟩
    · exact A.elim
  | exc c d μ => rw [q] at A; exact A
  | stuck => rw [q] at A; exact A
theorem d_one {op : PySem.BoolOp} (ha : DE G X W a fa) : DE G X W (.BoolOp op [a] pos) fa := pe_one ha
theorem d_and (ha : DE G X W a fa) (hb : DE G X W (.BoolOp .And (b :: rest) pos) fb) : DE G X W (.BoolOp .And (a :: b :: rest) pos) (fAnd fa fb) := by
  refine peI (pe_and ha hb) fun σV H Q h => ?_
  obtain ⟨σ, w, S, R, A⟩ := h
  refine ⟨σ, w, S, R, (fTb_after A).mono fun v H1 ⟨w1, k, ev, l1, S1, A1⟩ => ⟨k, ev, ?_⟩⟩
  cases k with
  | true => rw [if_pos rfl]; rw [if_pos rfl] at A1; exact ⟨σ, w1, S1, R.mono l1, A1⟩
  | false => rw [if_neg Bool.false_ne_true]; rw [if_neg Bool.false_ne_true] at A1; exact A1.now S1 rep_bl
theorem d_or (ha : DE G X W a fa) (hb : DE G X W (.BoolOp .Or (b :: rest) pos) fb) : DE G X W (.BoolOp .Or (a :: b :: rest) pos) (fOr fa fb) := by
  refine peI (pe_or ha hb) fun σV H Q h => ?_
  obtain ⟨σ, w, S, R, A⟩ := h
  refine ⟨σ, w, S, R, (fTb_after A).mono fun v H1 ⟨w1, k, ev, l1, S1, A1⟩ => ⟨k, ev, ?_⟩⟩
  cases k with
  | true => rw [if_pos rfl]; rw [if_pos rfl] at A1; exact A1.now S1 rep_bl
  | false => rw [if_neg Bool.false_ne_true]; rw [if_neg Bool.false_ne_true] at A1; exact ⟨σ, w1, S1, R.mono l1, A1⟩
theorem d_not (ha : DE G X W a fa) : DE G X W (.UnaryOp .Not a pos) (fNot fa) := by
  refine peI (pe_not ha) fun σV H Q h => ?_
  obtain ⟨σ, w, S, R, A⟩ := h
  exact ⟨σ, w, S, R, (fTb_after A).mono fun v H1 ⟨w1, k, ev, l1, S1, A1⟩ => ⟨k, ev, A1.now S1 rep_bl⟩⟩
/-- a if t else b -/
def fIf (ft : BF) (fa fb : EF) : EF := fun σ μ => (ft σ μ).bind fun k μ => if k = true then fa σ μ else fb σ μ
theorem d_ife (ht : DT G X W c ft) (ha : DE G X W a fa) (hb : DE G X W b fb) : DE G X W (.IfExp c a b pos) (fIf ft fa fb) := by
  refine peI (pe_ifExp ht ha hb) fun σV H Q h => ?_
  obtain ⟨σ, w, S, R, A⟩ := h
  refine ⟨σ, w, S, R, (After.bind (R := RBl) A).mono fun k H1 ⟨w1, k', l1, S1, e, A1⟩ => ?_⟩
  have e : k' = k := e
  subst e
  show (if k' = true then tE G W fa σV H1 Q else tE G W fb σV H1 Q)
  cases k' with
  | true => rw [if_pos rfl]; rw [if_pos rfl] at A1; exact ⟨σ, w1, S1, R.mono l1, A1⟩
  | false => rw [if_neg Bool.false_ne_true]; rw [if_neg Bool.false_ne_true] at A1; exact ⟨σ, w1, S1, R.mono l1, A1⟩
/-- a < b < c -/
def fChain (f g : O2) (fa fb fc : EF) : EF := fun σ μ => (fa σ μ).bind fun x μ => (fb σ μ).bind fun y μ => (ofO (f x y μ)).bind fun z μ => (asB z μ).bind fun k μ => if k = true then (fc σ μ).bind fun u μ => ofO (g y u μ) else .ok (.bl false) μ
theorem tE_chain {f g : O2} {σV : L2.St} {H : Hp} {Q : VK} (h : tE G W (fChain f g fa fb fc) σV H Q) : tChain (r2O G f) (r2O G g) (tE G W fa) (tE G W fb) (tE G W fc) σV H Q := by
  obtain ⟨σ, w, S, R, A⟩ := h
  refine ⟨σ, w, S, R, (After.bind (R := G.Rep) A).mono fun x H1 ⟨w1, dx, l1, S1, rx, A1⟩ => ?_⟩
  refine ⟨σ, w1, S1, R.mono l1, (After.bind (R := G.Rep) A1).mono fun y H2 ⟨w2, dy, l2, S2, ry, A2⟩ => ?_⟩
  refine ⟨w2, dx, dy, S2, Rep.mono l2 _ _ rx, ry, ?_⟩
  refine AftO.of ((After.bind (R := G.Rep) A2).mono fun z H3 ⟨w3, dz, l3, S3, rz, A3⟩ => ?_)
  unfold asB at A3
  split at A3
  · rename_i k
    simp only [Cf.Rep, Rep] at rz
    refine ⟨k, rz, ?_⟩
    simp only [Res.bind_ok] at A3
    cases k with
    | true =>
      rw [if_pos rfl]; rw [if_pos rfl] at A3
      refine ⟨σ, w3, S3, R.mono (l1.trans (l2.trans l3)), (After.bind (R := G.Rep) A3).mono fun u H4 ⟨w4, du, l4, S4, ru, A4⟩ => ?_⟩
      exact ⟨w4, dy, du, S4, Rep.mono (l3.trans l4) _ _ ry, ru, AftO.of A4⟩
    | false => rw [if_neg Bool.false_ne_true]; rw [if_neg Bool.false_ne_true] at A3; exact A3.now S3 rep_bl
  · exact A3.elim
theorem d_chain {op op' : CmpOp} {f g : O2} (ho : OpR X (compareOp op) (r2O G f)) (ho' : OpR X (compareOp op') (r2O G g)) (ha : DE G X W a fa) (hb : DE G X W b fb) (hc : DE G X W c fc)
    (hm : lastMarks [op, op'] [b, c] = false := by with_unfolding_all rfl) : DE G X W (.Compare a [op, op'] [b, c] pos) (fChain f g fa fb fc) :=
  peI (pe_chain ho ho' ha hb hc hm) fun _ _ _ h => tE_chain h
theorem d_tchain {op op' : CmpOp} {f g : O2} (ho : OpR X (compareOp op) (r2O G f)) (ho' : OpR X (compareOp op') (r2O G g)) (ha : DE G X W a fa) (hb : DE G X W b fb) (hc : DE G X W c fc)
    (hm : lastMarks [op, op'] [b, c] = false := by with_unfolding_all rfl) : DT G X W (.Compare a [op, op'] [b, c] pos) (fTb (fChain f g fa fb fc)) :=
  ptI (pt_chain ho ho' ha hb hc hm) fun _ _ _ h => tE_chain (tE_test h)

/-! ### argument lists, displays -/
def aNil : AF := fun _ μ => .ok [] μ
def aCons (fa : EF) (ff : AF) : AF := fun σ μ => (fa σ μ).bind fun x μ => (ff σ μ).bind fun xs μ => .ok (x :: xs) μ
theorem a_nil : DA G X W [] aNil := paI pa_nil fun σV H Q ⟨σ, w, S, R, A⟩ => A.now S Reps.nil
theorem a_cons (ha : DE G X W a fa) (hr : DA G X W es ff) (hs : starEach (a :: es) X.env = (false, eval a X.env) :: starEach es X.env := by rfl) : DA G X W (a :: es) (aCons fa ff) := by
  refine paI (pa_cons ha hr hs) fun σV H Q h => ?_
  obtain ⟨σ, w, S, R, A⟩ := h
  refine ⟨σ, w, S, R, (After.bind (R := G.Rep) A).mono fun x H1 ⟨w1, dx, l1, S1, rx, A1⟩ => ?_⟩
  refine ⟨σ, w1, S1, R.mono l1, (After.bind (R := G.Reps) A1).mono fun xs H2 ⟨w2, dxs, l2, S2, rxs, A2⟩ => ?_⟩
  exact A2.now S2 (Reps.cons (Rep.mono l2 _ _ rx) rxs)
/-- a new list: for ever as it is, or one that may change -/
def newL (m : Bool) (xs : List D) (μ : Store) : D × Store := if m = true then (.loc μ.length, μ ++ [.lst xs]) else (.lst xs, μ)
theorem newL_ok {w : Wd} {H : Hp} {m : Bool} {xs : List D} {vs : List V} {Q : VK} (S : G.Stw w H) (r : G.Reps w xs vs) (A : AftO G w (some (newL m xs w.μ)) Q) : ∀ p, H p = none → Q (.ref p) (upd H p (.lst vs)) := by
  intro p hp
  unfold newL at A
  cases m with
  | true =>
    rw [if_pos rfl] at A
    obtain ⟨S', l'⟩ := S.push hp (ob := .lst xs) (o := .lst vs) ⟨vs, rfl, r⟩
    refine A _ _ _ rfl l' S' ?_
    simp only [Cf.Rep, Rep]
    exact ⟨by simp, by simp⟩
  | false =>
    rw [if_neg Bool.false_ne_true] at A
    obtain ⟨S', l'⟩ := S.grow hp (.lst vs)
    refine A { w with F := upd w.F p (.lst vs) } _ _ rfl l' S' ?_
    simp only [Cf.Rep, Rep]
    exact ⟨p, vs, rfl, upd_same, Reps.mono l' _ _ r⟩
theorem newT_ok {w : Wd} {H : Hp} {xs : List D} {vs : List V} {Q : VK} (S : G.Stw w H) (r : G.Reps w xs vs) (A : AftO G w (some (.tup xs, w.μ)) Q) : ∀ p, H p = none → Q (.ref p) (upd H p (.tup vs)) := by
  intro p hp
  obtain ⟨S', l'⟩ := S.grow hp (.tup vs)
  refine A { w with F := upd w.F p (.tup vs) } _ _ rfl l' S' ?_
  simp only [Cf.Rep, Rep]
  exact ⟨p, vs, rfl, upd_same, Reps.mono l' _ _ r⟩
theorem sz_le {n : Nat} (h : n ≤ cap) : n ≤ sizeLine := cap_le h
def fLst (m : Bool) (ff : AF) : EF := fun σ μ => (ff σ μ).bind fun xs μ => if xs.length ≤ cap then .ok (newL m xs μ).1 (newL m xs μ).2 else .stuck
def fTup (ff : AF) : EF := fun σ μ => (ff σ μ).bind fun xs μ => if xs.length ≤ cap then .ok (.tup xs) μ else .stuck
theorem d_lst (m : Bool) (ha : DA G X W es ff) : DE G X W (.List es pos) (fLst m ff) := by
  refine peI (pe_lst ha) fun σV H Q h => ?_
  obtain ⟨σ, w, S, R, A⟩ := h
  refine ⟨σ, w, S, R, (After.bind (R := G.Reps) A).mono fun xs H1 ⟨w1, dxs, l1, S1, rxs, A1⟩ => ?_⟩
  by_cases hz : dxs.length ≤ cap
  · rw [if_pos hz] at A1
    exact ⟨by rw [← Reps.len rxs]; exact sz_le hz, newL_ok S1 rxs A1⟩
  · rw [if_neg hz] at A1; exact A1.elim
theorem d_tup {k : Nat} (ha : DA G X W es ff) : DE G X W (.Tuple es k pos) (fTup ff) := by
  refine peI (pe_tup ha) fun σV H Q h => ?_
  obtain ⟨σ, w, S, R, A⟩ := h
  refine ⟨σ, w, S, R, (After.bind (R := G.Reps) A).mono fun xs H1 ⟨w1, dxs, l1, S1, rxs, A1⟩ => ?_⟩
  by_cases hz : dxs.length ≤ cap
  · rw [if_pos hz] at A1
    exact ⟨by rw [← Reps.len rxs]; exact sz_le hz, newT_ok S1 rxs A1⟩
  · rw [if_neg hz] at A1; exact A1.elim
end
end DL
/-! text DL3 -/
namespace DL
open PySem PySem.Spec PyProof.Rows L2

/-! ### what a value holds -/
/-- a list that can be known to the heap; any list; any tuple; a list or a tuple -/
def getM (μ : Store) : D → Option (List D)
  | .lst xs => some xs
  | .loc n => match μ[n]? with
    | some (.lst xs) => some xs
    | _ => none
  | _ => none
def getL (μ : Store) : D → Option (List D)
  | .rl xs => some xs
  | d => getM μ d
def getT : D → Option (List D)
  | .tup xs => some xs
  | _ => none
def getS (μ : Store) : D → Option (List D)
  | .tup xs => some xs
  | .rt xs => some xs
  | d => getL μ d
section
variable {G : Cf} {w : Wd} {H : Hp} {d : D} {v : V} {xs : List D}
theorem getM_ok (S : G.Stw w H) (r : G.Rep w d v) (h : getM w.μ d = some xs) : ∃ a vs, v = .ref a ∧ H a = some (.lst vs) ∧ G.Reps w xs vs := by
  cases d with
  | lst ys =>
    cases h
    simp only [Cf.Rep, Rep] at r
    obtain ⟨a, vs, e, q, rr⟩ := r
    exact ⟨a, vs, e, S.ex _ _ q, rr⟩
  | loc n =>
    simp only [Cf.Rep, Rep] at r
    obtain ⟨hn, rfl⟩ := r
    simp only [getM] at h
    split at h
    · rename_i ys e
      cases h
      obtain ⟨_, vs, q, rr⟩ := S.ob n _ e
      exact ⟨_, vs, rfl, q, rr⟩
    · cases h
  | _ => simp [getM] at h
theorem getL_ok (S : G.Stw w H) (r : G.Rep w d v) (h : getL w.μ d = some xs) : ∃ a vs, v = .ref a ∧ SqL G.K H a vs ∧ G.Reps w xs vs := by
  cases d with
  | rl ys =>
    cases h
    simp only [Cf.Rep, Rep] at r
    obtain ⟨a, vs, e, q, rr⟩ := r
    exact ⟨a, vs, e, S.sqL q, rr⟩
  | lst ys => obtain ⟨a, vs, e, q, rr⟩ := getM_ok S r (show getM w.μ (.lst ys) = some xs from h); exact ⟨a, vs, e, .of q, rr⟩
  | loc n => obtain ⟨a, vs, e, q, rr⟩ := getM_ok S r (show getM w.μ (.loc n) = some xs from h); exact ⟨a, vs, e, .of q, rr⟩
  | _ => simp [getL, getM] at h
theorem getT_ok (S : G.Stw w H) (r : G.Rep w d v) (h : getT d = some xs) : ∃ a vs, v = .ref a ∧ H a = some (.tup vs) ∧ G.Reps w xs vs := by
  cases d with
  | tup ys =>
    cases h
    simp only [Cf.Rep, Rep] at r
    obtain ⟨a, vs, e, q, rr⟩ := r
    exact ⟨a, vs, e, S.ex _ _ q, rr⟩
  | _ => simp [getT] at h
theorem getS_ok (S : G.Stw w H) (r : G.Rep w d v) (h : getS w.μ d = some xs) : ∃ a vs, v = .ref a ∧ (SqL G.K H a vs ∨ SqT G.K H a vs) ∧ G.Reps w xs vs := by
  cases d with
  | tup ys => obtain ⟨a, vs, e, q, rr⟩ := getT_ok S r (show getT (.tup ys) = some xs from h); exact ⟨a, vs, e, .inr (.of q), rr⟩
  | rt ys =>
    cases h
    simp only [Cf.Rep, Rep] at r
    obtain ⟨a, vs, e, q, rr⟩ := r
    exact ⟨a, vs, e, .inr (S.sqT q), rr⟩
  | rl ys => obtain ⟨a, vs, e, q, rr⟩ := getL_ok S r (show getL w.μ (.rl ys) = some xs from h); exact ⟨a, vs, e, .inl q, rr⟩
  | lst ys => obtain ⟨a, vs, e, q, rr⟩ := getL_ok S r (show getL w.μ (.lst ys) = some xs from h); exact ⟨a, vs, e, .inl q, rr⟩
  | loc n => obtain ⟨a, vs, e, q, rr⟩ := getL_ok S r (show getL w.μ (.loc n) = some xs from h); exact ⟨a, vs, e, .inl q, rr⟩
  | _ => simp [getS, getL, getM] at h
theorem rep_int {i : Int} : G.Rep w (.int i) v ↔ v = .int i := by simp only [Cf.Rep, Rep]
theorem rep_str {x : Str} : G.Rep w (.str x) v ↔ v = .str x := by simp only [Cf.Rep, Rep]
theorem rep_bool {x : Bool} : G.Rep w (.bl x) v ↔ v = .bl x := by simp only [Cf.Rep, Rep]
theorem rep_non : G.Rep w .non v ↔ v = .non := by simp only [Cf.Rep, Rep]
/-- an answer without a change -/
theorem AftO.here {d : D} {Q : VK} (S : G.Stw w H) (r : G.Rep w d v) (A : AftO G w (some (d, w.μ)) Q) : Q v H := A w H v rfl (Le.refl w) S r
end

/-! ### arithmetic and glueing -/
def oAdd (m : Bool) : O2 := fun d e μ => match d, e with
  | .int i, .int j => some (.int (i + j), μ)
  | .str x, .str y => if x.length + y.length ≤ cap then some (.str (x ++ y), μ) else none
  | .tup xs, .tup ys => if xs.length + ys.length ≤ cap then some (.tup (xs ++ ys), μ) else none
  | d, e => match getM μ d, getM μ e with
    | some xs, some ys => if xs.length + ys.length ≤ cap then some (newL m (xs ++ ys) μ) else none
    | _, _ => none
def oSub : O2 := fun d e μ => match d, e with
  | .int i, .int j => some (.int (i - j), μ)
  | _, _ => none
def oMul (m : Bool) : O2 := fun d e μ => match d, e with
  | .int i, .int j => if i.natAbs.log2 + j.natAbs.log2 < 1000000 then some (.int (i * j), μ) else none
  | d, .int k => match getM μ d with
    | some xs => if -(2 ^ 63) ≤ k ∧ k < 2 ^ 63 ∧ xs.length * k.toNat ≤ cap then some (newL m (List.replicate k.toNat xs).flatten μ) else none
    | none => none
  | _, _ => none
def oFdv : O2 := fun d e μ => match d, e with
  | .int i, .int j => if 0 < j ∧ j.natAbs.log2 < 9000 then some (.int (i / j), μ) else none
  | _, _ => none
def oMod : O2 := fun d e μ => match d, e with
  | .int i, .int j => if 0 < j then some (.int (i % j), μ) else none
  | _, _ => none
def oPow : O2 := fun d e μ => match d, e with
  | .int i, .int j => if 0 ≤ j ∧ j ≤ 1000000 ∧ i.natAbs < 2 ^ 64 then some (.int (i ^ j.toNat), μ) else none
  | _, _ => none
def oNeg : D → Store → Option (D × Store) := fun d μ => match d with
  | .int i => some (.int (-i), μ)
  | _ => none
section
variable {G : Cf} {X : Cx}
theorem tup_grow {w : Wd} {H : Hp} {xs : List D} {vs : List V} {Q : VK} (S : G.Stw w H) (r : G.Reps w xs vs) (A : AftO G w (some (.tup xs, w.μ)) Q) (p : Addr) (hp : H p = none) : Q (.ref p) (upd H p (.tup vs)) := newT_ok S r A p hp
theorem reps_flat {w : Wd} {xs : List D} {vs : List V} (r : G.Reps w xs vs) : ∀ k : Nat, G.Reps w (List.replicate k xs).flatten (List.replicate k vs).flatten
  | 0 => by simp only [List.replicate, List.flatten_nil]; exact Reps.nil
  | k + 1 => by
    simp only [List.replicate_succ, List.flatten_cons]
    exact Reps.append r (reps_flat r k)
theorem op_Add (hK : X.K = G.K) (m : Bool) : OpR X (binaryOp .Add) (r2O G (oAdd m)) := by
  refine oprI (OpR.or op_add (OpR.or op_add_str (OpR.or op_catA op_cat))) fun x y H Q h => ?_
  obtain ⟨w, d, e, S, rd, re, A⟩ := h
  unfold oAdd at A
  split at A
  · rw [rep_int] at rd re
    exact .inl ⟨_, _, rd, re, A.here S (rep_int.mpr rfl)⟩
  · rw [rep_str] at rd re
    split at A
    · rename_i hz
      exact .inr (.inl ⟨_, _, rd, re, sz_le hz, A.here S (rep_str.mpr rfl)⟩)
    · exact A.elim
  · rename_i xs ys
    split at A
    · rename_i hz
      obtain ⟨a, vs, rfl, qa, ra⟩ := getT_ok S rd rfl
      obtain ⟨b, us, rfl, qb, rb⟩ := getT_ok S re rfl
      have la := ra.len
      have lb := rb.len
      refine .inr (.inr (.inl ⟨a, b, vs, us, rfl, rfl, .of qa, .of qb, by rw [← la, ← lb]; exact sz_le hz, fun e => ?_, fun e1 e2 => ?_, fun e1 e2 p hp => ?_⟩))
      · subst e
        have ex : xs = [] := List.eq_nil_of_length_eq_zero (by simpa using la)
        subst ex
        exact A.here S re
      · subst e2
        have ey : ys = [] := List.eq_nil_of_length_eq_zero (by simpa using lb)
        subst ey
        exact A.here S (by rw [List.append_nil]; exact rd)
      · exact newT_ok S (Reps.append ra rb) A p hp
    · exact A.elim
  · split at A
    · rename_i d' e' _ _ _ xs ys h1 h2
      split at A
      · rename_i hz
        obtain ⟨a, vs, rfl, qa, ra⟩ := getM_ok S rd h1
        obtain ⟨b, us, rfl, qb, rb⟩ := getM_ok S re h2
        exact .inr (.inr (.inr ⟨a, b, vs, us, rfl, rfl, qa, qb, by rw [← ra.len, ← rb.len]; exact sz_le hz, newL_ok S (Reps.append ra rb) A⟩))
      · exact A.elim
    · exact A.elim
theorem op_Sub : OpR X (binaryOp .Sub) (r2O G oSub) := by
  refine oprI op_sub fun x y H Q h => ?_
  obtain ⟨w, d, e, S, rd, re, A⟩ := h
  unfold oSub at A
  split at A
  · rw [rep_int] at rd re
    exact ⟨_, _, rd, re, A.here S (rep_int.mpr rfl)⟩
  · exact A.elim
theorem op_Mul (m : Bool) : OpR X (binaryOp .Mult) (r2O G (oMul m)) := by
  refine oprI (OpR.or op_mulW op_rep) fun x y H Q h => ?_
  obtain ⟨w, d, e, S, rd, re, A⟩ := h
  unfold oMul at A
  split at A
  · rw [rep_int] at rd re
    split at A
    · rename_i hz
      exact .inl ⟨_, _, rd, re, hz, A.here S (rep_int.mpr rfl)⟩
    · exact A.elim
  · rw [rep_int] at re
    split at A
    · rename_i xs h1
      split at A
      · rename_i hz
        obtain ⟨a, vs, rfl, qa, ra⟩ := getM_ok S rd h1
        exact .inr ⟨a, _, vs, rfl, re, qa, hz.1, hz.2.1, by rw [← ra.len]; exact sz_le hz.2.2, newL_ok S (reps_flat ra _) A⟩
      · exact A.elim
    · exact A.elim
  · exact A.elim
theorem op_Fdv : OpR X (binaryOp .FloorDiv) (r2O G oFdv) := by
  refine oprI op_fdivW fun x y H Q h => ?_
  obtain ⟨w, d, e, S, rd, re, A⟩ := h
  unfold oFdv at A
  split at A
  · rw [rep_int] at rd re
    split at A
    · rename_i hz
      exact ⟨_, _, rd, re, hz, A.here S (rep_int.mpr rfl)⟩
    · exact A.elim
  · exact A.elim
theorem op_Mod' : OpR X (binaryOp .Mod) (r2O G oMod) := by
  refine oprI op_mod fun x y H Q h => ?_
  obtain ⟨w, d, e, S, rd, re, A⟩ := h
  unfold oMod at A
  split at A
  · rw [rep_int] at rd re
    split at A
    · rename_i hz
      exact ⟨_, _, rd, re, hz, A.here S (rep_int.mpr rfl)⟩
    · exact A.elim
  · exact A.elim
theorem op_Pow' : OpR X (binaryOp .Pow) (r2O G oPow) := by
  refine oprI op_pow fun x y H Q h => ?_
  obtain ⟨w, d, e, S, rd, re, A⟩ := h
  unfold oPow at A
  split at A
  · rw [rep_int] at rd re
    split at A
    · rename_i hz
      exact ⟨_, _, rd, re, hz, A.here S (rep_int.mpr rfl)⟩
    · exact A.elim
  · exact A.elim
theorem un_Neg : UnR X (unaryOp .USub) (r1O G oNeg) := by
  refine unrI un_neg fun x H Q h => ?_
  obtain ⟨w, d, S, rd, A⟩ := h
  unfold oNeg at A
  split at A
  · rw [rep_int] at rd
    exact ⟨_, rd, A.here S (rep_int.mpr rfl)⟩
  · exact A.elim
end

/-! ### order of ints and texts -/
def oLt : O2 := fun d e μ => match d, e with
  | .int i, .int j => some (.bl (decide (i < j)), μ)
  | .str x, .str y => some (.bl (decide (x.cps.toList < y.cps.toList)), μ)
  | _, _ => none
def oI (p : Int → Int → Bool) : O2 := fun d e μ => match d, e with
  | .int i, .int j => some (.bl (p i j), μ)
  | _, _ => none
abbrev oLe : O2 := oI fun i j => decide (i ≤ j)
abbrev oGt : O2 := oI fun i j => decide (j < i)
abbrev oGe : O2 := oI fun i j => decide (j ≤ i)
section
variable {G : Cf} {X : Cx}
theorem op_Lt : OpR X (compareOp .Lt) (r2O G oLt) := by
  refine oprI (OpR.or op_lt op_lt_str) fun x y H Q h => ?_
  obtain ⟨w, d, e, S, rd, re, A⟩ := h
  unfold oLt at A
  split at A
  · rw [rep_int] at rd re
    exact .inl ⟨_, _, rd, re, A.here S (rep_bool.mpr rfl)⟩
  · rw [rep_str] at rd re
    exact .inr ⟨_, _, rd, re, A.here S (rep_bool.mpr rfl)⟩
  · exact A.elim
theorem op_I {op : CmpOp} {p : Int → Int → Bool} (h0 : OpR X (compareOp op) (rI0 fun i j => .bl (p i j))) : OpR X (compareOp op) (r2O G (oI p)) := by
  refine oprI h0 fun x y H Q h => ?_
  obtain ⟨w, d, e, S, rd, re, A⟩ := h
  unfold oI at A
  split at A
  · rw [rep_int] at rd re
    exact ⟨_, _, rd, re, A.here S (rep_bool.mpr rfl)⟩
  · exact A.elim
theorem op_Le : OpR X (compareOp .LtE) (r2O G oLe) := op_I op_le
theorem op_Gt : OpR X (compareOp .Gt) (r2O G oGt) := op_I op_gt
theorem op_Ge : OpR X (compareOp .GtE) (r2O G oGe) := op_I op_ge
end

/-! ### equality of data -/
mutual
def toP (μ : Store) : Nat → D → Option PyData
  | _, .non => some .none
  | _, .bl b => some (.bool b)
  | _, .int i => some (.int i)
  | _, .str x => some (.str x)
  | n + 1, .tup xs => (toPs μ n xs).map .tuple
  | n + 1, .rt xs => (toPs μ n xs).map .tuple
  | n + 1, .lst xs => (toPs μ n xs).map .list
  | n + 1, .rl xs => (toPs μ n xs).map .list
  | n + 1, .loc k => match μ[k]? with
    | some (.lst xs) => (toPs μ n xs).map .list
    | _ => none
  | _, _ => none
def toPs (μ : Store) : Nat → List D → Option (List PyData)
  | _, [] => some []
  | n, x :: xs => match toP μ n x, toPs μ n xs with
    | some p, some ps => some (p :: ps)
    | _, _ => none
end
section
variable {G : Cf} {w : Wd} {H : Hp}
mutual
theorem toP_ok (S : G.Stw w H) : ∀ (n : Nat) (d : D) (v : V) (p : PyData), G.Rep w d v → toP w.μ n d = some p → Dp G.K H v p
  | n, .non, v, p, r, h => by rw [rep_non] at r; subst r; cases n <;> (simp only [toP] at h; cases h; exact .non)
  | n, .bl b, v, p, r, h => by rw [rep_bool] at r; subst r; cases n <;> (simp only [toP] at h; cases h; exact .bl b)
  | n, .int i, v, p, r, h => by rw [rep_int] at r; subst r; cases n <;> (simp only [toP] at h; cases h; exact .int i)
  | n, .str x, v, p, r, h => by rw [rep_str] at r; subst r; cases n <;> (simp only [toP] at h; cases h; exact .str x)
  | n + 1, .tup xs, v, p, r, h => by
    obtain ⟨a, vs, rfl, q, rr⟩ := getT_ok S r rfl
    simp only [toP, Option.map_eq_some_iff] at h
    obtain ⟨ps, h, rfl⟩ := h
    exact .tup (.of q) (toPs_ok S n xs vs ps rr h)
  | n + 1, .rt xs, v, p, r, h => by
    simp only [Cf.Rep, Rep] at r
    obtain ⟨a, vs, rfl, q, rr⟩ := r
    simp only [toP, Option.map_eq_some_iff] at h
    obtain ⟨ps, h, rfl⟩ := h
    exact .tup (S.sqT q) (toPs_ok S n xs vs ps rr h)
  | n + 1, .lst xs, v, p, r, h => by
    obtain ⟨a, vs, rfl, q, rr⟩ := getL_ok (xs := xs) S r rfl
    simp only [toP, Option.map_eq_some_iff] at h
    obtain ⟨ps, h, rfl⟩ := h
    exact .lst q (toPs_ok S n xs vs ps rr h)
  | n + 1, .rl xs, v, p, r, h => by
    obtain ⟨a, vs, rfl, q, rr⟩ := getL_ok (xs := xs) S r rfl
    simp only [toP, Option.map_eq_some_iff] at h
    obtain ⟨ps, h, rfl⟩ := h
    exact .lst q (toPs_ok S n xs vs ps rr h)
  | n + 1, .loc k, v, p, r, h => by
    simp only [toP] at h
    split at h
    · rename_i xs e
      obtain ⟨a, vs, rfl, q, rr⟩ := getL_ok (xs := xs) S r (by simp only [getL, getM, e])
      simp only [Option.map_eq_some_iff] at h
      obtain ⟨ps, h, rfl⟩ := h
      exact .lst q (toPs_ok S n xs vs ps rr h)
    · cases h
  | 0, .tup xs, v, p, r, h => by simp [toP] at h
  | 0, .rt xs, v, p, r, h => by simp [toP] at h
  | 0, .lst xs, v, p, r, h => by simp [toP] at h
  | 0, .rl xs, v, p, r, h => by simp [toP] at h
  | 0, .loc xs, v, p, r, h => by simp [toP] at h
  | n, .ty _, v, p, r, h => by cases n <;> simp [toP] at h
  | n, .ref _, v, p, r, h => by cases n <;> simp [toP] at h
  | n, .cls _, v, p, r, h => by cases n <;> simp [toP] at h
  | n, .dK _ _, v, p, r, h => by cases n <;> simp [toP] at h
  | n, .dT _ _, v, p, r, h => by cases n <;> simp [toP] at h
  | n, .ins _ _ _, v, p, r, h => by cases n <;> simp [toP] at h
  | n, .er _ _ _, v, p, r, h => by cases n <;> simp [toP] at h
theorem toPs_ok (S : G.Stw w H) : ∀ (n : Nat) (ds : List D) (vs : List V) (ps : List PyData), G.Reps w ds vs → toPs w.μ n ds = some ps → DpAll G.K H vs ps
  | n, [], vs, ps, r, h => by
    simp only [Cf.Reps, Reps] at r
    subst r
    simp only [toPs] at h
    cases h
    exact .nil
  | n, x :: xs, vs, ps, r, h => by
    simp only [Cf.Reps, Reps] at r
    obtain ⟨v, us, rfl, rx, rr⟩ := r
    simp only [toPs] at h
    split at h
    · rename_i p qs h1 h2
      cases h
      exact .cons (toP_ok S n x v p rx h1) (toPs_ok S n xs us qs rr h2)
    · cases h
end
end
/-- == of values of no depth; of data -/
def eqFl : D → D → Option Bool
  | .non, .non => some true
  | .int i, .int j => some (decide (i = j))
  | .str i, .str j => some (decide (i = j))
  | .bl i, .bl j => some (decide (i = j))
  | .non, .int _ => some false
  | .non, .str _ => some false
  | .non, .bl _ => some false
  | .int _, .non => some false
  | .str _, .non => some false
  | .bl _, .non => some false
  | .int _, .str _ => some false
  | .str _, .int _ => some false
  | .bl _, .str _ => some false
  | .str _, .bl _ => some false
  | _, _ => none
/-- two lists of unlike lengths, whatever they hold -/
def eqLen (μ : Store) (d e : D) : Option Bool := match getL μ d, getL μ e with
  | some xs, some ys => if xs.length ≠ ys.length then some false else none
  | _, _ => none
def eqDt (μ : Store) (d e : D) : Option Bool := match eqFl d e with
  | some b => some b
  | none => match eqLen μ d e with
    | some b => some b
    | none => match toP μ 9 d, toP μ 9 e with
      | some p, some q => if SeqAt.shaped p = true ∧ SeqAt.shaped q = true then some (PyData.eqv p q) else none
      | _, _ => none
def rLen (K : PySem.W.Frag) (b : Bool) : R2 := fun x y H Q => ∃ p q xs ys, x = .ref p ∧ y = .ref q ∧ SqL K H p xs ∧ SqL K H q ys ∧ xs.length ≠ ys.length ∧ Q (.bl b) H
def oEq : O2 := fun d e μ => (eqDt μ d e).map fun b => (.bl b, μ)
def oNe : O2 := fun d e μ => (eqDt μ d e).map fun b => (.bl (!b), μ)
section
variable {G : Cf} {X : Cx}
theorem eqFl_ok {w : Wd} {d e : D} {x y : V} {b : Bool} (rd : G.Rep w d x) (re : G.Rep w e y) (h : eqFl d e = some b) : scal x y = true ∧ decide (x = y) = b := by
  unfold eqFl at h
  split at h <;> first
    | (cases h
       simp only [Cf.Rep, Rep] at rd re
       subst rd; subst re
       refine ⟨rfl, ?_⟩
       simp)
    | cases h
theorem eqDt_ok {w : Wd} {H : Hp} {d e : D} {x y : V} {b : Bool} (hK : X.K = G.K) (S : G.Stw w H) (rd : G.Rep w d x) (re : G.Rep w e y) (h : eqDt w.μ d e = some b) :
    (scal x y = true ∧ decide (x = y) = b) ∨ (∃ p q, Dp X.K H x p ∧ Dp X.K H y q ∧ SeqAt.shaped p = true ∧ SeqAt.shaped q = true ∧ PyData.eqv p q = b) ∨
      (b = false ∧ ∃ p q xs ys, x = .ref p ∧ y = .ref q ∧ SqL X.K H p xs ∧ SqL X.K H q ys ∧ xs.length ≠ ys.length) := by
  unfold eqDt at h
  split at h
  · rename_i b' h1
    cases h
    exact .inl (eqFl_ok rd re h1)
  · split at h
    · rename_i b' hb
      cases h
      unfold eqLen at hb
      split at hb
      · rename_i xs ys hx hy
        split at hb
        · rename_i hl
          cases hb
          obtain ⟨a, vs, rfl, q, r⟩ := getL_ok S rd hx
          obtain ⟨a', vs', rfl, q', r'⟩ := getL_ok S re hy
          rw [hK]
          exact .inr (.inr ⟨rfl, a, a', vs, vs', rfl, rfl, q, q', by rw [← r.len, ← r'.len]; exact hl⟩)
        · cases hb
      · cases hb
    · split at h
      · rename_i p q h1 h2
        split at h
        · rename_i hs
          cases h
          rw [hK]
          exact .inr (.inl ⟨p, q, toP_ok S _ _ _ _ rd h1, toP_ok S _ _ _ _ re h2, hs.1, hs.2, rfl⟩)
        · cases h
      · cases h
theorem op_eqLen (hu : X.A.units + 64 < cLine) : OpR X (compareOp .Eq) (rLen X.K false) := by
  intro pins s σ H x y v u Q I rx ry h
  obtain ⟨p, q, xs, ys, rfl, rfl, h1, h2, h3, hq⟩ := h
  cases rx; cases ry
  obtain ⟨its, rv, ⟨o, n, ho, hc, _, hd⟩, _⟩ := I.list h1
  obtain ⟨its', rv', ⟨o', n', ho', hc', _, hd'⟩, _⟩ := I.list h2
  have e1 : its.length = xs.length := (Vals.length rv).symm
  have e2 : its'.length = ys.length := (Vals.length rv').symm
  exact SeqAt.RcAt.lists_lengths ⟨o, ho, hc, _, hd⟩ ⟨o', ho', hc', _, hd'⟩ (by simpa [e1, e2] using h3) (by omega) _ _ _ _ ⟨.bl _, H, I, rfl, hq⟩
theorem op_neLen (hu : X.A.units + 64 < cLine) : OpR X (compareOp .NotEq) (rLen X.K true) := by
  intro pins s σ H x y v u Q I rx ry h
  obtain ⟨p, q, xs, ys, rfl, rfl, h1, h2, h3, hq⟩ := h
  cases rx; cases ry
  obtain ⟨its, rv, ⟨o, n, ho, hc, _, hd⟩, _⟩ := I.list h1
  obtain ⟨its', rv', ⟨o', n', ho', hc', _, hd'⟩, _⟩ := I.list h2
  have e1 : its.length = xs.length := (Vals.length rv).symm
  have e2 : its'.length = ys.length := (Vals.length rv').symm
  exact SeqAt.RcNeAt.lists_lengths ⟨o, ho, hc, _, hd⟩ ⟨o', ho', hc', _, hd'⟩ (by simpa [e1, e2] using h3) (by omega) _ _ _ _ ⟨.bl _, H, I, rfl, hq⟩
theorem op_Eq (hK : X.K = G.K) (hu : X.A.units + 64 < cLine) : OpR X (compareOp .Eq) (r2O G oEq) := by
  refine oprI (OpR.or (OpR.or op_eq (op_eqD hu)) (op_eqLen hu)) fun x y H Q h => ?_
  obtain ⟨w, d, e, S, rd, re, A⟩ := h
  unfold oEq at A
  cases hb : eqDt w.μ d e with
  | none => rw [hb] at A; exact A.elim
  | some b =>
    rw [hb] at A
    have q : Q (.bl b) H := A.here S (rep_bool.mpr rfl)
    rcases eqDt_ok hK S rd re hb with ⟨h1, h2⟩ | ⟨p, q', h1, h2, h3, h4, h5⟩ | ⟨rfl, p, q', xs, ys, rfl, rfl, h1, h2, h3⟩
    · exact .inl (.inl ⟨h1, by rw [h2]; exact q⟩)
    · exact .inl (.inr ⟨p, q', h1, h2, h3, h4, by rw [h5]; exact q⟩)
    · exact .inr ⟨p, q', xs, ys, rfl, rfl, h1, h2, h3, q⟩
theorem op_Ne (hK : X.K = G.K) (hu : X.A.units + 64 < cLine) : OpR X (compareOp .NotEq) (r2O G oNe) := by
  refine oprI (OpR.or (OpR.or op_ne (op_neD hu)) (op_neLen hu)) fun x y H Q h => ?_
  obtain ⟨w, d, e, S, rd, re, A⟩ := h
  unfold oNe at A
  cases hb : eqDt w.μ d e with
  | none => rw [hb] at A; exact A.elim
  | some b =>
    rw [hb] at A
    have q : Q (.bl (!b)) H := A.here S (rep_bool.mpr rfl)
    rcases eqDt_ok hK S rd re hb with ⟨h1, h2⟩ | ⟨p, q', h1, h2, h3, h4, h5⟩ | ⟨rfl, p, q', xs, ys, rfl, rfl, h1, h2, h3⟩
    · exact .inl (.inl ⟨h1, by rw [h2]; exact q⟩)
    · exact .inl (.inr ⟨p, q', h1, h2, h3, h4, by rw [h5]; exact q⟩)
    · exact .inr ⟨p, q', xs, ys, rfl, rfl, h1, h2, h3, q⟩
end

/-! ### in, not in -/
def flatD : D → Bool
  | .non => true
  | .bl _ => true
  | .int _ => true
  | .str _ => true
  | _ => false
def eqD : D → D → Bool
  | .non, .non => true
  | .bl a, .bl b => a == b
  | .bl a, .int b => (if a then 1 else 0) == b
  | .int a, .bl b => a == (if b then 1 else 0)
  | .int a, .int b => a == b
  | .str a, .str b => a == b
  | _, _ => false
def sign? (x : Str) : Option Nat := match x.cps.toList with
  | [c] => some c
  | _ => none
theorem sign?_ok {x : Str} {c : Nat} (h : sign? x = some c) : x = ⟨#[c]⟩ := by
  unfold sign? at h
  split at h
  · rename_i c' e
    cases h
    have : x.cps = #[c] := by rw [← Array.toArray_toList (xs := x.cps), e]
    cases x; simp at this; rw [this]
  · cases h
/-- whether d is in e: a sign in a text, a flat value in a list or tuple, a key in a dict -/
def inD (μ : Store) (d e : D) : Option Bool := match e with
  | .str z => match d with
    | .str x => match sign? x with
      | some c => some (decide (c ∈ z.cps.toList))
      | none => some (!(Builtin.Str.occurrences z x 0 z.length 1).isEmpty)
    | _ => none
  | e => match getS μ e with
    | some xs => if flatD d = true ∧ xs.all flatD = true then some (xs.any fun y => eqD y d) else none
    | none => none
def oIn : O2 := fun d e μ => (inD μ d e).map fun b => (.bl b, μ)
def oNin : O2 := fun d e μ => (inD μ d e).map fun b => (.bl (!b), μ)
section
variable {G : Cf} {X : Cx}
theorem flatD_rep {w : Wd} {d : D} {v : V} (r : G.Rep w d v) (h : flatD d = true) : flatV v = true := by
  cases d <;> simp [flatD] at h <;> (simp only [Cf.Rep, Rep] at r; subst r; rfl)
theorem eqD_rep {w : Wd} {d e : D} {v u : V} (r : G.Rep w d v) (r' : G.Rep w e u) (h : flatD d = true) (h' : flatD e = true) : eqV v u = eqD d e := by
  cases d <;> simp [flatD] at h <;> cases e <;> simp [flatD] at h' <;> (simp only [Cf.Rep, Rep] at r r'; subst r; subst r'; rfl)
theorem all_rep {w : Wd} : ∀ {ds : List D} {vs : List V}, G.Reps w ds vs → ds.all flatD = true → vs.all flatV = true
  | [], vs, r, _ => by simp only [Cf.Reps, Reps] at r; subst r; rfl
  | d :: ds, vs, r, h => by
    simp only [Cf.Reps, Reps] at r
    obtain ⟨v, us, rfl, rv, rr⟩ := r
    simp only [List.all_cons, Bool.and_eq_true] at h ⊢
    exact ⟨flatD_rep rv h.1, all_rep rr h.2⟩
theorem in_rep {w : Wd} {d : D} {v : V} (r : G.Rep w d v) (hd : flatD d = true) : ∀ {ds : List D} {vs : List V}, G.Reps w ds vs → ds.all flatD = true → inV v vs = ds.any fun y => eqD y d
  | [], vs, r', _ => by simp only [Cf.Reps, Reps] at r'; subst r'; rfl
  | e :: ds, vs, r', h => by
    simp only [Cf.Reps, Reps] at r'
    obtain ⟨u, us, rfl, ru, rr⟩ := r'
    simp only [List.all_cons, Bool.and_eq_true] at h
    have ih := in_rep r hd rr h.2
    unfold inV at ih ⊢
    simp only [List.any_cons]
    rw [eqD_rep ru r h.1 hd, ih]
theorem inD_ok {w : Wd} {H : Hp} {d e : D} {x y : V} {b : Bool} (hK : X.K = G.K) (S : G.Stw w H) (rd : G.Rep w d x) (re : G.Rep w e y) (h : inD w.μ d e = some b) :
    (∃ (c : Nat) (z : Str), x = .str ⟨#[c]⟩ ∧ y = .str z ∧ decide (c ∈ z.cps.toList) = b) ∨ (∃ i j, x = .str i ∧ y = .str j ∧ (!(Builtin.Str.occurrences j i 0 j.length 1).isEmpty) = b) ∨
      ∃ p xs, y = .ref p ∧ (SqL X.K H p xs ∨ SqT X.K H p xs) ∧ flatV x = true ∧ xs.all flatV = true ∧ inV x xs = b := by
  unfold inD at h
  split at h
  · rename_i z
    rw [rep_str] at re
    split at h
    · rename_i x'
      rw [rep_str] at rd
      split at h
      · rename_i c hc
        cases h
        rw [sign?_ok hc] at rd
        exact .inl ⟨c, z, rd, re, rfl⟩
      · cases h
        exact .inr (.inl ⟨_, _, rd, re, rfl⟩)
    · cases h
  · split at h
    · rename_i xs hx
      split at h
      · rename_i hf
        cases h
        obtain ⟨a, vs, rfl, q, rr⟩ := getS_ok S re hx
        rw [hK]
        exact .inr (.inr ⟨a, vs, rfl, q, flatD_rep rd hf.1, all_rep rr hf.2, in_rep rd hf.1 rr hf.2⟩)
      · cases h
    · cases h
theorem op_In (hK : X.K = G.K) : OpR X (compareOp .In) (r2O G oIn) := by
  refine oprI (OpR.or op_in_sign (OpR.or op_in_str op_in_seq)) fun x y H Q h => ?_
  obtain ⟨w, d, e, S, rd, re, A⟩ := h
  unfold oIn at A
  cases hb : inD w.μ d e with
  | none => rw [hb] at A; exact A.elim
  | some b =>
    rw [hb] at A
    have q : Q (.bl b) H := A.here S (rep_bool.mpr rfl)
    rcases inD_ok hK S rd re hb with ⟨c, z, h1, h2, h3⟩ | ⟨i, j, h1, h2, h3⟩ | ⟨p, xs, h1, h2, h3, h4, h5⟩
    · exact .inl ⟨c, z, h1, h2, by rw [h3]; exact q⟩
    · exact .inr (.inl ⟨i, j, h1, h2, by rw [h3]; exact q⟩)
    · refine .inr (.inr ⟨p, xs, h1, h2, h3, h4, ?_⟩)
      show Q (.bl (inV x xs)) H
      rw [h5]; exact q
theorem op_Nin (hK : X.K = G.K) : OpR X (compareOp .NotIn) (r2O G oNin) := by
  refine oprI (OpR.or op_notIn_sign (OpR.or op_notIn_str op_notIn_seq)) fun x y H Q h => ?_
  obtain ⟨w, d, e, S, rd, re, A⟩ := h
  unfold oNin at A
  cases hb : inD w.μ d e with
  | none => rw [hb] at A; exact A.elim
  | some b =>
    rw [hb] at A
    have q : Q (.bl (!b)) H := A.here S (rep_bool.mpr rfl)
    rcases inD_ok hK S rd re hb with ⟨c, z, h1, h2, h3⟩ | ⟨i, j, h1, h2, h3⟩ | ⟨p, xs, h1, h2, h3, h4, h5⟩
    · exact .inl ⟨c, z, h1, h2, by rw [h3]; exact q⟩
    · exact .inr (.inl ⟨i, j, h1, h2, by rw [h3]; exact q⟩)
    · refine .inr (.inr ⟨p, xs, h1, h2, h3, h4, ?_⟩)
      show Q (.bl (!inV x xs)) H
      rw [h5]; exact q
end
end DL
/-! text DL4 -/
namespace DL
open PySem PySem.Spec PyProof.Rows L2

/-! ### items and slices -/
def oIdx : O2 := fun d e μ => match e with
  | .int i => match d with
    | .str z => if z.length ≤ cap then (atI z.cps.toList i).map fun c => (.str ⟨#[c]⟩, μ) else none
    | d => (getS μ d).bind fun xs => (atI xs i).map fun x => (x, μ)
  | _ => none
def cutD (xs : List D) (lo hi : Option Int) : List D := (xs.drop (HT.sIx xs.length 0 lo)).take (HT.sIx xs.length xs.length hi - HT.sIx xs.length 0 lo)
def oSl (m : Bool) (d : D) (lo hi : Option Int) (μ : Store) : Option (D × Store) := match d with
  | .str z => if z.length ≤ cap then some (.str (cutS z lo hi), μ) else none
  | .tup xs => some (.tup (cutD xs lo hi), μ)
  | d => (getL μ d).map fun xs => newL m (cutD xs lo hi) μ
section
variable {G : Cf} {X : Cx} {W : XK} {a b : Expr} {fa fb : EF} {pos : Pos}
theorem atI_rep {w : Wd} {xs : List D} {vs : List V} (r : G.Reps w xs vs) {i : Int} {d : D} (h : atI xs i = some d) : ∃ v, atI vs i = some v ∧ G.Rep w d v := by
  unfold atI at h ⊢
  rw [← r.len]
  cases e : ixN xs.length i with
  | none => rw [e] at h; cases h
  | some j =>
    rw [e] at h
    exact r.get j d h
theorem ix_D (hK : X.K = G.K) : IxR X (r2O G oIdx) := by
  intro value slice pins s σ H x y v u Q I rx ry h hs
  refine ix_seq value slice pins s σ H x y v u Q I rx ry ?_ hs
  obtain ⟨w, d, e, S, rd, re, A⟩ := h
  unfold oIdx at A
  split at A
  · rename_i i
    rw [rep_int] at re
    split at A
    · rename_i z
      rw [rep_str] at rd
      split at A
      · rename_i hz
        cases hc : atI z.cps.toList i with
        | none => rw [hc] at A; exact A.elim
        | some c => rw [hc] at A; exact .inr (.inr ⟨z, i, c, rd, re, sz_le hz, hc, A.here S (rep_str.mpr rfl)⟩)
      · exact A.elim
    · cases hx : getS w.μ d with
      | none => rw [hx] at A; exact A.elim
      | some xs =>
        rw [hx] at A
        simp only [Option.bind_some] at A
        cases hc : atI xs i with
        | none => rw [hc] at A; exact A.elim
        | some c =>
          rw [hc] at A
          obtain ⟨p, vs, rfl, q, rr⟩ := getS_ok S rd hx
          obtain ⟨u, hu, ru⟩ := atI_rep rr hc
          have qq : Q u H := A.here S ru
          rw [← hK] at q
          rcases q with q | q
          · exact .inl ⟨p, vs, i, u, rfl, re, q, hu, qq⟩
          · exact .inr (.inl ⟨p, vs, i, u, rfl, re, q, hu, qq⟩)
  · exact A.elim
theorem d_idx (hK : X.K = G.K) (ha : DE G X W a fa) (hb : DE G X W b fb) (hs : PlainIx b := by exact fun _ _ => rfl) : DE G X W (.Subscript a b pos) (fBin oIdx fa fb) :=
  peI (pe_ix (ix_D hK) ha hb hs) fun _ _ _ h => tE_op h
/-- a part of a slice -/
abbrev OF := Sg → Store → Res (Option Int)
def tOF (G : Cf) (W : XK) (f : OF) : L2.St → Hp → (Option Int → Hp → Prop) → Prop := fun σV H Q => ∃ σ w, G.Stw w H ∧ G.RepSt w σ σV ∧ After G (fun _ a v => a = v) (XTo G W) w (f σ w.μ) Q
abbrev DO (G : Cf) (X : Cx) (W : XK) (e : Option Expr) (f : OF) : Prop := PO X e (tOF G W f)
theorem poI {X : Cx} {e : Option Expr} {t t' : L2.St → Hp → (Option Int → Hp → Prop) → Prop} (h : PO X e t) (i : ∀ σ H Q, t' σ H Q → t σ H Q) : PO X e t' := ⟨fun pins s σ H Q I q => h.run pins s σ H Q I (i σ H Q q)⟩
def oNo : OF := fun _ μ => .ok none μ
def oSome (fa : EF) : OF := fun σ μ => (fa σ μ).bind fun x μ => match x with
  | .int i => .ok (some i) μ
  | _ => .stuck
theorem o_no : DO G X W none oNo := poI po_none fun σV H Q ⟨σ, w, S, R, A⟩ => A.now S rfl
theorem o_some (ha : DE G X W a fa) : DO G X W (some a) (oSome fa) := by
  refine poI (po_some ha) fun σV H Q h => ?_
  obtain ⟨σ, w, S, R, A⟩ := h
  refine ⟨σ, w, S, R, (After.bind (R := G.Rep) A).mono fun x H1 ⟨w1, dx, l1, S1, rx, A1⟩ => ?_⟩
  split at A1
  · rw [rep_int] at rx
    exact ⟨_, rx, A1.now S1 rfl⟩
  · exact A1.elim
def fSl (m : Bool) (fa : EF) (fl fh : OF) : EF := fun σ μ => (fa σ μ).bind fun x μ => (fl σ μ).bind fun lo μ => (fh σ μ).bind fun hi μ => ofO (oSl m x lo hi μ)
theorem cut_rep {w : Wd} {xs : List D} {vs : List V} (r : G.Reps w xs vs) (lo hi : Option Int) : G.Reps w (cutD xs lo hi) (cutV vs lo hi) := by
  unfold cutD cutV
  rw [← r.len]
  exact (r.drop _).take _
theorem sl_D (hK : X.K = G.K) (m : Bool) : SlR X (fun x lo hi H Q => ∃ w d, G.Stw w H ∧ G.Rep w d x ∧ AftO G w (oSl m d lo hi w.μ) Q) := by
  intro pins s σ H x v vl vu lo hi sl Q I rx hs pl pu h
  refine SlR.or sl_str (SlR.or sl_tupA sl_list) pins s σ H x v vl vu lo hi sl Q I rx hs pl pu ?_
  obtain ⟨w, d, S, rd, A⟩ := h
  unfold oSl at A
  split at A
  · rename_i z
    rw [rep_str] at rd
    split at A
    · rename_i hz
      exact .inl ⟨z, rd, sz_le hz, A.here S (rep_str.mpr rfl)⟩
    · exact A.elim
  · rename_i xs
    obtain ⟨a, vs, rfl, q, rr⟩ := getT_ok S rd rfl
    have hl := rr.len
    refine .inr (.inl ⟨a, vs, rfl, .of q, fun e => ?_, fun e p hp => ?_⟩)
    · have ec : cutD xs lo hi = xs := by
        unfold cutD
        rw [hl, e.1, e.2, List.drop_zero, Nat.sub_zero, ← hl, List.take_length]
      rw [ec] at A
      exact A.here S rd
    · exact newT_ok S (cut_rep rr lo hi) A p hp
  · cases hx : getL w.μ d with
    | none => rw [hx] at A; exact A.elim
    | some xs =>
      rw [hx] at A
      obtain ⟨a, vs, rfl, q, rr⟩ := getL_ok S rd hx
      rw [← hK] at q
      exact .inr (.inr ⟨a, vs, rfl, q, newL_ok S (cut_rep rr lo hi) A⟩)
theorem d_sl {lo hi : Option Expr} {fl fh : OF} {p2 : Pos} (hK : X.K = G.K) (m : Bool) (ha : DE G X W a fa) (hl : DO G X W lo fl) (hh : DO G X W hi fh) : DE G X W (.Subscript a (.Slice lo hi none p2) pos) (fSl m fa fl fh) := by
  refine peI (pe_slice (sl_D hK m) ha hl hh) fun σV H Q h => ?_
  obtain ⟨σ, w, S, R, A⟩ := h
  refine ⟨σ, w, S, R, (After.bind (R := G.Rep) A).mono fun x H1 ⟨w1, dx, l1, S1, rx, A1⟩ => ?_⟩
  refine ⟨σ, w1, S1, R.mono l1, (After.bind (R := fun _ (a v : Option Int) => a = v) A1).mono fun lo H2 ⟨w2, lo', l2, S2, e2, A2⟩ => ?_⟩
  refine ⟨σ, w2, S2, R.mono (l1.trans l2), (After.bind (R := fun _ (a v : Option Int) => a = v) A2).mono fun hi H3 ⟨w3, hi', l3, S3, e3, A3⟩ => ?_⟩
  have e2 : lo' = lo := e2
  have e3 : hi' = hi := e3
  subst e2; subst e3
  exact ⟨w3, dx, S3, Rep.mono (l2.trans l3) _ _ rx, AftO.of A3⟩
end

/-! ### calls of built-ins -/
abbrev OL := List D → Store → Option (D × Store)
def fBi (op : OL) (ff : AF) : EF := fun σ μ => (ff σ μ).bind fun xs μ => ofO (op xs μ)
section
variable {G : Cf} {X : Cx} {W : XK} {e : Expr} {es : List Expr} {ff : AF} {pos p : Pos} {x : Str}
theorem tE_bi {op : OL} {σV : L2.St} {H : Hp} {Q : VK} (h : tE G W (fBi op ff) σV H Q) : tCB (rLO G op) (tAF G W ff) σV H Q := by
  obtain ⟨σ, w, S, R, A⟩ := h
  exact ⟨σ, w, S, R, (After.bind (R := G.Reps) A).mono fun xs H1 ⟨w1, dx, l1, S1, rx, A1⟩ => ⟨w1, dx, S1, rx, AftO.of A1⟩⟩
theorem d_bi {op : OL} {id : String} (hc : CallR X (.builtin id) (rLO G op)) (hm : X.mg x = none) (hv : bootBuiltins x = some (.builtin id)) (ha : DA G X W (e :: es) ff) (hg : Gl X x := by rfl) (hn : x ≠ "__name__" := by decide) (hdb : (x == ("__debug__" : Str)) = false := by decide)
    (he : starEach (e :: es) X.env = (false, eval e X.env) :: starEach es X.env := by rfl) (hpl : (backTo pos (starEach es X.env)).any (·.1) = false := by rfl) : DE G X W (.Call (.Name x p) (e :: es) [] pos) (fBi op ff) :=
  peI (pe_callB hc hg hm hv ha hn hdb he hpl) fun _ _ _ h => tE_bi h
theorem d_bty {op : OL} {T : String} (hc : CallR X (.type T) (rLO G op)) (hm : X.mg x = none) (hv : bootBuiltins x = some (.type T)) (ha : DA G X W (e :: es) ff) (hg : Gl X x := by rfl) (hn : x ≠ "__name__" := by decide) (hdb : (x == ("__debug__" : Str)) = false := by decide)
    (he : starEach (e :: es) X.env = (false, eval e X.env) :: starEach es X.env := by rfl) (hpl : (backTo pos (starEach es X.env)).any (·.1) = false := by rfl) : DE G X W (.Call (.Name x p) (e :: es) [] pos) (fBi op ff) :=
  peI (pe_callTy hc hg hm hv ha hn hdb he hpl) fun _ _ _ h => tE_bi h
/-- len -/
def oLen : OL := fun ds μ => match ds with
  | [.str z] => if z.length ≤ cap then some (.int z.length, μ) else none
  | [d] => (getS μ d).map fun xs => (.int xs.length, μ)
  | _ => none
theorem cr_Len (hK : X.K = G.K) : CallR X (.builtin "len") (rLO G oLen) := by
  refine crI call_len fun vs H Q h => ?_
  obtain ⟨w, ds, S, r, A⟩ := h
  unfold oLen at A
  split at A
  · rename_i z
    obtain ⟨v, rfl, rv⟩ := r.one
    replace rv := rep_str.mp rv
    subst rv
    split at A
    · rename_i hz
      exact ⟨_, z.length, rfl, ⟨sz_le hz, rfl⟩, A.here S (rep_int.mpr rfl)⟩
    · exact A.elim
  · rename_i d _
    obtain ⟨v, rfl, rv⟩ := r.one
    cases hx : getS w.μ d with
    | none => rw [hx] at A; exact A.elim
    | some xs =>
      rw [hx] at A
      obtain ⟨a, us, rfl, q, rr⟩ := getS_ok S rv hx
      rw [← hK] at q
      refine ⟨_, us.length, rfl, ?_, ?_⟩
      · rcases q with q | q
        · exact .inl ⟨us, q, rfl⟩
        · exact .inr ⟨us, q, rfl⟩
      · rw [← rr.len]
        exact A.here S (rep_int.mpr rfl)
  · exact A.elim
/-- abs, int of an int, max and min of two -/
def oAbs : OL := fun ds μ => match ds with
  | [.int i] => some (.int (if i < 0 then -i else i), μ)
  | _ => none
theorem cr_Abs : CallR X (.builtin "abs") (rLO G oAbs) := by
  refine crI call_abs fun vs H Q h => ?_
  obtain ⟨w, ds, S, r, A⟩ := h
  unfold oAbs at A
  split at A
  · obtain ⟨v, rfl, rv⟩ := r.one
    replace rv := rep_int.mp rv
    exact ⟨_, by rw [rv], A.here S (rep_int.mpr rfl)⟩
  · exact A.elim
def oInt : OL := fun ds μ => match ds with
  | [.int i] => some (.int i, μ)
  | [.bl k] => some (.int (if k then 1 else 0), μ)
  | _ => none
theorem cr_Int : CallR X (.type "int") (rLO G oInt) := by
  refine crI call_int1 fun vs H Q h => ?_
  obtain ⟨w, ds, S, r, A⟩ := h
  unfold oInt at A
  split at A
  · obtain ⟨v, rfl, rv⟩ := r.one
    replace rv := rep_int.mp rv
    exact .inl ⟨_, by rw [rv], A.here S (rep_int.mpr rfl)⟩
  · obtain ⟨v, rfl, rv⟩ := r.one
    replace rv := rep_bool.mp rv
    exact .inr ⟨_, by rw [rv], A.here S (rep_int.mpr rfl)⟩
  · exact A.elim
def oMax : OL := fun ds μ => match ds with
  | [.int i, .int j] => some (.int (if j > i then j else i), μ)
  | _ => none
def oMin : OL := fun ds μ => match ds with
  | [.int i, .int j] => some (.int (if j < i then j else i), μ)
  | _ => none
theorem cr_Max (hc : X.calm = true) : CallR X (.builtin "max") (rLO G oMax) := by
  refine crI (call_max2 hc) fun vs H Q h => ?_
  obtain ⟨w, ds, S, r, A⟩ := h
  unfold oMax at A
  split at A
  · obtain ⟨v, u, rfl, rv, ru⟩ := r.two
    replace rv := rep_int.mp rv
    replace ru := rep_int.mp ru
    exact ⟨_, _, by rw [rv, ru], A.here S (rep_int.mpr rfl)⟩
  · exact A.elim
theorem cr_Min (hc : X.calm = true) : CallR X (.builtin "min") (rLO G oMin) := by
  refine crI (call_min2 hc) fun vs H Q h => ?_
  obtain ⟨w, ds, S, r, A⟩ := h
  unfold oMin at A
  split at A
  · obtain ⟨v, u, rfl, rv, ru⟩ := r.two
    replace rv := rep_int.mp rv
    replace ru := rep_int.mp ru
    exact ⟨_, _, by rw [rv, ru], A.here S (rep_int.mpr rfl)⟩
  · exact A.elim
/-- tuple(..), list(..) of a list or a tuple -/
def oTupOf : OL := fun ds μ => match ds with
  | [.tup xs] => some (.tup xs, μ)
  | [d] => (getL μ d).map fun xs => (.tup xs, μ)
  | _ => none
theorem cr_Tup (hK : X.K = G.K) : CallR X (.type "tuple") (rLO G oTupOf) := by
  refine crI call_tuple_of fun vs H Q h => ?_
  obtain ⟨w, ds, S, r, A⟩ := h
  unfold oTupOf at A
  split at A
  · obtain ⟨v, rfl, rv⟩ := r.one
    obtain ⟨a, us, rfl, q, rr⟩ := getT_ok S rv rfl
    exact ⟨a, us, rfl, .inr ⟨.of q, A.here S rv⟩⟩
  · rename_i d _
    obtain ⟨v, rfl, rv⟩ := r.one
    cases hx : getL w.μ d with
    | none => rw [hx] at A; exact A.elim
    | some xs =>
      rw [hx] at A
      obtain ⟨a, us, rfl, q, rr⟩ := getL_ok S rv hx
      rw [← hK] at q
      exact ⟨a, us, rfl, .inl ⟨q, newT_ok S rr A⟩⟩
  · exact A.elim
def oLstOf (m : Bool) : OL := fun ds μ => match ds with
  | [d] => (getS μ d).map fun xs => newL m xs μ
  | _ => none
theorem cr_Lst (hK : X.K = G.K) (m : Bool) : CallR X (.type "list") (rLO G (oLstOf m)) := by
  refine crI call_list_of fun vs H Q h => ?_
  obtain ⟨w, ds, S, r, A⟩ := h
  unfold oLstOf at A
  split at A
  · rename_i d
    obtain ⟨v, rfl, rv⟩ := r.one
    cases hx : getS w.μ d with
    | none => rw [hx] at A; exact A.elim
    | some xs =>
      rw [hx] at A
      obtain ⟨a, us, rfl, q, rr⟩ := getS_ok S rv hx
      rw [← hK] at q
      exact ⟨a, us, rfl, q, newL_ok S rr A⟩
  · exact A.elim
/-- sum of ints; all, any of truths -/
def ints? : List D → Option (List Int)
  | [] => some []
  | .int i :: r => (ints? r).map (i :: ·)
  | _ :: _ => none
def bools? : List D → Option (List Bool)
  | [] => some []
  | .bl i :: r => (bools? r).map (i :: ·)
  | _ :: _ => none
def strs? : List D → Option (List Str)
  | [] => some []
  | .str i :: r => (strs? r).map (i :: ·)
  | _ :: _ => none
theorem ints_rep {w : Wd} : ∀ {ds : List D} {vs : List V} {ns : List Int}, G.Reps w ds vs → ints? ds = some ns → vs = ns.map V.int
  | [], vs, ns, r, h => by cases h; simp only [Cf.Reps, Reps] at r; subst r; rfl
  | d :: ds, vs, ns, r, h => by
    simp only [Cf.Reps, Reps] at r
    obtain ⟨v, us, rfl, rv, rr⟩ := r
    cases d <;> simp only [ints?, reduceCtorEq] at h
    replace rv := rep_int.mp rv
    simp only [Option.map_eq_some_iff] at h
    obtain ⟨ms, h, rfl⟩ := h
    rw [rv, ints_rep rr h]; rfl
theorem bools_rep {w : Wd} : ∀ {ds : List D} {vs : List V} {ns : List Bool}, G.Reps w ds vs → bools? ds = some ns → vs = ns.map V.bl
  | [], vs, ns, r, h => by cases h; simp only [Cf.Reps, Reps] at r; subst r; rfl
  | d :: ds, vs, ns, r, h => by
    simp only [Cf.Reps, Reps] at r
    obtain ⟨v, us, rfl, rv, rr⟩ := r
    cases d <;> simp only [bools?, reduceCtorEq] at h
    replace rv := rep_bool.mp rv
    simp only [Option.map_eq_some_iff] at h
    obtain ⟨ms, h, rfl⟩ := h
    rw [rv, bools_rep rr h]; rfl
theorem strs_rep {w : Wd} : ∀ {ds : List D} {vs : List V} {ns : List Str}, G.Reps w ds vs → strs? ds = some ns → vs = ns.map V.str
  | [], vs, ns, r, h => by cases h; simp only [Cf.Reps, Reps] at r; subst r; rfl
  | d :: ds, vs, ns, r, h => by
    simp only [Cf.Reps, Reps] at r
    obtain ⟨v, us, rfl, rv, rr⟩ := r
    cases d <;> simp only [strs?, reduceCtorEq] at h
    replace rv := rep_str.mp rv
    simp only [Option.map_eq_some_iff] at h
    obtain ⟨ms, h, rfl⟩ := h
    rw [rv, strs_rep rr h]; rfl
def oSum : OL := fun ds μ => match ds with
  | [d] => (getL μ d).bind fun xs => (ints? xs).map fun ns => (.int ns.sum, μ)
  | _ => none
theorem cr_Sum (hK : X.K = G.K) (hc : X.calm = true) : CallR X (.builtin "sum") (rLO G oSum) := by
  refine crI (cr_sum hc) fun vs H Q h => ?_
  obtain ⟨w, ds, S, r, A⟩ := h
  unfold oSum at A
  split at A
  · rename_i d
    obtain ⟨v, rfl, rv⟩ := r.one
    cases hx : getL w.μ d with
    | none => rw [hx] at A; exact A.elim
    | some xs =>
      rw [hx] at A
      simp only [Option.bind_some] at A
      cases hn : ints? xs with
      | none => rw [hn] at A; exact A.elim
      | some ns =>
        rw [hn] at A
        obtain ⟨a, us, rfl, q, rr⟩ := getL_ok S rv hx
        rw [ints_rep rr hn, ← hK] at q
        exact ⟨a, ns, rfl, q, A.here S (rep_int.mpr rfl)⟩
  · exact A.elim
def oAllB (f : List Bool → Bool) : OL := fun ds μ => match ds with
  | [d] => (getL μ d).bind fun xs => (bools? xs).map fun ns => (.bl (f ns), μ)
  | _ => none
abbrev oAll : OL := oAllB fun bs => bs.all id
abbrev oAny : OL := oAllB fun bs => bs.any id
theorem cr_All (hK : X.K = G.K) (hc : X.calm = true) : CallR X (.builtin "all") (rLO G oAll) := by
  refine crI (cr_all hc) fun vs H Q h => ?_
  obtain ⟨w, ds, S, r, A⟩ := h
  unfold oAll oAllB at A
  split at A
  · rename_i d
    obtain ⟨v, rfl, rv⟩ := r.one
    cases hx : getL w.μ d with
    | none => rw [hx] at A; exact A.elim
    | some xs =>
      rw [hx] at A
      simp only [Option.bind_some] at A
      cases hn : bools? xs with
      | none => rw [hn] at A; exact A.elim
      | some ns =>
        rw [hn] at A
        obtain ⟨a, us, rfl, q, rr⟩ := getL_ok S rv hx
        rw [bools_rep rr hn, ← hK] at q
        exact ⟨a, ns, rfl, q, A.here S (rep_bool.mpr rfl)⟩
  · exact A.elim
theorem cr_Any (hK : X.K = G.K) (hc : X.calm = true) : CallR X (.builtin "any") (rLO G oAny) := by
  refine crI (cr_any hc) fun vs H Q h => ?_
  obtain ⟨w, ds, S, r, A⟩ := h
  unfold oAny oAllB at A
  split at A
  · rename_i d
    obtain ⟨v, rfl, rv⟩ := r.one
    cases hx : getL w.μ d with
    | none => rw [hx] at A; exact A.elim
    | some xs =>
      rw [hx] at A
      simp only [Option.bind_some] at A
      cases hn : bools? xs with
      | none => rw [hn] at A; exact A.elim
      | some ns =>
        rw [hn] at A
        obtain ⟨a, us, rfl, q, rr⟩ := getL_ok S rv hx
        rw [bools_rep rr hn, ← hK] at q
        exact ⟨a, ns, rfl, q, A.here S (rep_bool.mpr rfl)⟩
  · exact A.elim
end

/-! ### isinstance -/
inductive Ty where
  | b (n : String) | c (C : Nat)
  deriving DecidableEq
def Cf.tv (G : Cf) : Ty → Value
  | .b n => .type n
  | .c C => .ref (G.ca C)
def typeD (μ : Store) : D → Option Ty
  | .non => some (.b "NoneType")
  | .bl _ => some (.b "bool")
  | .int _ => some (.b "int")
  | .str _ => some (.b "str")
  | .tup _ => some (.b "tuple")
  | .rt _ => some (.b "tuple")
  | .lst _ => some (.b "list")
  | .dK _ _ => some (.b "dict")
  | .ins C _ _ => some (.c C)
  | .loc n => match μ[n]? with
    | some (.lst _) => some (.b "list")
    | some (.dK _ _) => some (.b "dict")
    | some (.dT _ _) => some (.b "dict")
    | some (.ins C _ _) => some (.c C)
    | _ => none
  | _ => none
/-- what the walk asks of an own class whose instances are asked for their class -/
structure ClsT (K : PySem.W.Frag) (C : Addr) : Prop where
  cl : Cls K C
  ha : PySem.W.findIn K (.ref C) "__class__" = some (some (.builtin "object.__class__"))
  hn : PySem.W.specialIn K (.builtin "object.__class__") "__get__" = some (some (.builtin "getset_descriptor.__get__"))
  htk : PySem.W.takesIn K (.builtin "object.__class__") = some true
  hm : PySem.W.mroIn K C (.type "object") = some true
/-- the classes that are asked for: a table and its truth -/
structure Isi (G : Cf) (t : Ty → Ty → Option Bool) : Prop where
  ok : ∀ a b r, t a b = some r → PySem.W.kitOne G.K (G.tv a) (G.tv b) = some r
  cls : ∀ C b r, t (.c C) b = some r → ClsT G.K (G.ca C)
def clsD : D → Option Ty
  | .ty n => some (.b n)
  | .cls c => some (.c c)
  | _ => none
def anyI (t : Ty → Ty → Option Bool) (a : Ty) : List D → Option Bool
  | [] => some false
  | c :: r => match clsD c with
    | some b => match t a b, anyI t a r with
      | some x, some y => some (x || y)
      | _, _ => none
    | none => none
def oIsi (t : Ty → Ty → Option Bool) : OL := fun ds μ => match ds with
  | [d, .tup cs] => (typeD μ d).bind fun a => if cs = [] then none else (anyI t a cs).map fun r => (.bl r, μ)
  | [d, c] => (typeD μ d).bind fun a => (clsD c).bind fun b => (t a b).map fun r => (.bl r, μ)
  | _ => none
section
variable {G : Cf} {X : Cx} {W : XK}
theorem typeD_ok {w : Wd} {H : Hp} {d : D} {v : V} {a : Ty} (S : G.Stw w H) (r : G.Rep w d v) (h : typeD w.μ d = some a) (hc : ∀ C, a = .c C → ClsT G.K (G.ca C)) : TyX G.K H v (G.tv a) := by
  have rdK : ∀ {p : Addr} {kvs : List (Key × V)}, Rd H p (.dK kvs) → TyX G.K H (.ref p) (.type "dict") := fun q => by
    rcases q with q | ⟨o, q⟩
    · exact .base (.dK q)
    · exact .fDict q
  have sqT : ∀ {p : Addr} {vs : List V}, SqT G.K H p vs → TyX G.K H (.ref p) (.type "tuple") := fun q => by
    rcases q with (q | ⟨o, q⟩) | ⟨o, its, n, q, c, _⟩
    · exact .base (.tup q)
    · exact .fTuple q
    · exact .kTuple q c
  have ins : ∀ {p C dx : Addr} {fs : List (Str × V)}, H p = some (.ins C dx fs) → ClsT G.K C → TyX G.K H (.ref p) (.ref C) := fun q c => .base (.ins q c.cl c.ha c.hn c.htk c.hm)
  cases d with
  | non => rw [rep_non] at r; subst r; cases h; exact .base .non
  | bl b => rw [rep_bool] at r; subst r; cases h; exact .base (.bl b)
  | int b => rw [rep_int] at r; subst r; cases h; exact .base (.int b)
  | str b => rw [rep_str] at r; subst r; cases h; exact .base (.str b)
  | tup xs =>
    obtain ⟨p, vs, rfl, q, rr⟩ := getT_ok S r rfl
    cases h
    exact sqT (.of q)
  | rt xs =>
    simp only [Cf.Rep, Rep] at r
    obtain ⟨p, vs, rfl, q, rr⟩ := r
    cases h
    exact sqT (S.sqT q)
  | lst xs =>
    obtain ⟨p, vs, rfl, q, rr⟩ := getM_ok (xs := xs) S r rfl
    cases h
    exact .base (.lst q)
  | dK ks xs =>
    simp only [Cf.Rep, Rep] at r
    obtain ⟨p, vs, rfl, q, _⟩ := r
    cases h
    exact rdK (S.rd q)
  | dT ks xs => simp [typeD] at h
  | ins C ns xs =>
    simp only [Cf.Rep, Rep] at r
    obtain ⟨p, dx, vs, rfl, q, _⟩ := r
    cases h
    exact ins (S.ex _ _ q) (hc C rfl)
  | loc n =>
    simp only [Cf.Rep, Rep] at r
    obtain ⟨hn, rfl⟩ := r
    simp only [typeD] at h
    split at h
    · rename_i xs e
      cases h
      obtain ⟨_, vs, q, rr⟩ := S.ob n _ e
      exact .base (.lst q)
    · rename_i ks xs e
      cases h
      obtain ⟨_, vs, q, rr⟩ := S.ob n _ e
      exact .base (.dK q)
    · rename_i ks xs e
      cases h
      obtain ⟨_, vs, q, rr⟩ := S.ob n _ e
      exact .base (.dT q)
    · rename_i C ns xs e
      cases h
      obtain ⟨_, dx, vs, q, rr⟩ := S.ob n _ e
      exact ins q (hc C rfl)
    · cases h
  | rl xs => simp [typeD] at h
  | er C f d => simp [typeD] at h
  | ty n => simp [typeD] at h
  | ref n => simp [typeD] at h
  | cls n => simp [typeD] at h
theorem clsD_ok {w : Wd} {d : D} {v : V} {a : Ty} (r : G.Rep w d v) (h : clsD d = some a) : ClsV v (G.tv a) := by
  cases d <;> simp [clsD] at h
  · subst h
    simp only [Cf.Rep, Rep] at r
    subst r
    exact .ty _
  · subst h
    simp only [Cf.Rep, Rep] at r
    subst r
    exact .own _
end
end DL
namespace DL
open PySem PySem.Spec PyProof.Rows L2
section
variable {G : Cf} {X : Cx} {W : XK}
theorem anyI_ok {w : Wd} {t : Ty → Ty → Option Bool} (T : Isi G t) {a : Ty} : ∀ {cs : List D} {vs : List V} {r : Bool}, G.Reps w cs vs → anyI t a cs = some r → ∃ us, Paired ClsV vs us ∧ PySem.W.kitAny G.K (G.tv a) us = some r
  | [], vs, r, h, q => by
    simp only [Cf.Reps, Reps] at h
    subst h
    cases q
    exact ⟨[], .nil, kitAny_nil⟩
  | c :: cs, vs, r, h, q => by
    simp only [Cf.Reps, Reps] at h
    obtain ⟨v, us, rfl, rv, rr⟩ := h
    simp only [anyI] at q
    split at q
    · rename_i b hb
      split at q
      · rename_i x y hx hy
        cases q
        obtain ⟨ws, h1, h2⟩ := anyI_ok T rr hy
        refine ⟨_, .cons (clsD_ok rv hb) h1, kitAny_cons (T.ok a b x hx) (fun e => ?_) (fun e => ?_)⟩
        · subst e; exact h2
        · subst e; rfl
      · cases q
    · cases q
theorem anyI_cls {t : Ty → Ty → Option Bool} (T : Isi G t) {a : Ty} : ∀ {cs : List D} {r : Bool}, cs ≠ [] → anyI t a cs = some r → ∀ C, a = .c C → ClsT G.K (G.ca C)
  | [], _, h, _ => absurd rfl h
  | c :: cs, r, _, q => by
    intro C e
    subst e
    simp only [anyI] at q
    split at q
    · split at q
      · rename_i x y hx hy
        exact T.cls C _ x hx
      · cases q
    · cases q
theorem cr_Isi (hK : X.K = G.K) {t : Ty → Ty → Option Bool} (T : Isi G t) : CallR X (.builtin "isinstance") (rLO G (oIsi t)) := by
  refine crI (CallR.or call_isi call_isiT) fun vs H Q h => ?_
  obtain ⟨w, ds, S, r, A⟩ := h
  unfold oIsi at A
  split at A
  · rename_i d cs
    obtain ⟨v, u, rfl, rv, ru⟩ := r.two
    cases ht : typeD w.μ d with
    | none => rw [ht] at A; exact A.elim
    | some a =>
      rw [ht] at A
      simp only [Option.bind_some] at A
      split at A
      · exact A.elim
      · rename_i hne
        cases hr : anyI t a cs with
        | none => rw [hr] at A; exact A.elim
        | some b =>
          rw [hr] at A
          simp only [Cf.Rep, Rep] at ru
          obtain ⟨p, us, rfl, q, rr⟩ := ru
          obtain ⟨ws, h1, h2⟩ := anyI_ok T rr hr
          rw [hK]
          exact .inr ⟨v, p, us, G.tv a, ws, b, rfl, S.ex _ _ q, h1, typeD_ok S rv ht (anyI_cls T hne hr), h2, A.here S (rep_bool.mpr rfl)⟩
  · rename_i d c _
    obtain ⟨v, u, rfl, rv, ru⟩ := r.two
    cases ht : typeD w.μ d with
    | none => rw [ht] at A; exact A.elim
    | some a =>
      rw [ht] at A
      simp only [Option.bind_some] at A
      cases hb : clsD c with
      | none => rw [hb] at A; exact A.elim
      | some b =>
        rw [hb] at A
        simp only [Option.bind_some] at A
        cases hr : t a b with
        | none => rw [hr] at A; exact A.elim
        | some x =>
          rw [hr] at A
          rw [hK]
          exact .inl ⟨v, u, G.tv a, G.tv b, x, rfl, clsD_ok ru hb, typeD_ok S rv ht (fun C e => by subst e; exact T.cls C b x hr), T.ok a b x hr, A.here S (rep_bool.mpr rfl)⟩
  · exact A.elim
end
end DL
/-! text DL5 -/
namespace DL
open PySem PySem.Spec PyProof.Rows L2

/-! ### statements -/
inductive SR where
  | next (σ : Sg) (μ : Store)
  | ret (d : D) (μ : Store)
  | brk (σ : Sg) (μ : Store)
  | cont (σ : Sg) (μ : Store)
  | exc (c : Nat) (d : Option D) (μ : Store)
  | stuck
abbrev SF := Sg → Store → SR
def AfS (G : Cf) (W : XK) (E : Ends) (w : Wd) : SR → Prop
  | .next σ' μ' => ∀ w' H' σV', w'.μ = μ' → Le w w' → G.Stw w' H' → G.RepSt w' σ' σV' → E.nx σV' H'
  | .brk σ' μ' => ∀ w' H' σV', w'.μ = μ' → Le w w' → G.Stw w' H' → G.RepSt w' σ' σV' → E.bk σV' H'
  | .cont σ' μ' => ∀ w' H' σV', w'.μ = μ' → Le w w' → G.Stw w' H' → G.RepSt w' σ' σV' → E.ct σV' H'
  | .ret d μ' => ∀ w' H' v, w'.μ = μ' → Le w w' → G.Stw w' H' → G.Rep w' d v → E.rt v H'
  | .exc c d μ' => ∀ w' H' dd, w'.μ = μ' → Le w w' → G.Stw w' H' → XVal G w' H' c d dd → W (.ref (G.ca c)) dd H'
  | .stuck => False
def tS (G : Cf) (W : XK) (f : SF) : TS := fun E σV H => ∃ σ w, G.Stw w H ∧ G.RepSt w σ σV ∧ AfS G W E w (f σ w.μ)
abbrev DS (G : Cf) (X : Cx) (W : XK) (st : Stmt) (f : SF) : Prop := PS X st (tS G W f)
abbrev DSs (G : Cf) (X : Cx) (W : XK) (st : List Stmt) (f : SF) : Prop := PSs X st (tS G W f)
theorem psI {X : Cx} {e : Stmt} {t t' : TS} (h : PS X e t) (i : ∀ D σ H, t' D σ H → t D σ H) : PS X e t' := ⟨fun pins s σ H D I q => h.run pins s σ H D I (i D σ H q)⟩
theorem pssI {X : Cx} {e : List Stmt} {t t' : TS} (h : PSs X e t) (i : ∀ D σ H, t' D σ H → t D σ H) : PSs X e t' := ⟨fun pins s σ H D I q => h.run pins s σ H D I (i D σ H q)⟩
theorem AfS.le {G : Cf} {W : XK} {E : Ends} {w w' : Wd} {r : SR} (h : AfS G W E w r) (l : Le w w') : AfS G W E w' r := by
  cases r with
  | next σ μ => exact fun w2 H' σV e l2 s r => h w2 H' σV e (l.trans l2) s r
  | brk σ μ => exact fun w2 H' σV e l2 s r => h w2 H' σV e (l.trans l2) s r
  | cont σ μ => exact fun w2 H' σV e l2 s r => h w2 H' σV e (l.trans l2) s r
  | ret d μ => exact fun w2 H' v e l2 s r => h w2 H' v e (l.trans l2) s r
  | exc c d μ => exact fun w2 H' dd e l2 s x => h w2 H' dd e (l.trans l2) s x
  | stuck => exact h
/-- an expression's answer, then a statement -/
def sBind {α : Type} (r : Res α) (σ : Sg) (k : α → Store → SR) : SR := match r with
  | .ok a μ => k a μ
  | .exc c d μ => .exc c d μ
  | .stuck => .stuck
@[simp] theorem sBind_ok {α : Type} (a : α) (μ : Store) (σ : Sg) (k : α → Store → SR) : sBind (.ok a μ) σ k = k a μ := rfl
@[simp] theorem sBind_exc {α : Type} (c : Nat) (d : Option D) (μ : Store) (σ : Sg) (k : α → Store → SR) : sBind (.exc c d μ) σ k = .exc c d μ := rfl
@[simp] theorem sBind_stuck {α : Type} (σ : Sg) (k : α → Store → SR) : sBind (.stuck : Res α) σ k = .stuck := rfl
section
variable {G : Cf} {W : XK} {α ρ : Type} {R : Wd → α → ρ → Prop} {E : Ends} {w : Wd} {r : Res α} {σ : Sg} {σV : L2.St}
theorem AfS.bind {k : α → Store → SR} (h : AfS G W E w (sBind r σ k)) (q : G.RepSt w σ σV) :
    After G R (XTo G W) w r fun v H => ∃ w1 a, Le w w1 ∧ G.Stw w1 H ∧ R w1 a v ∧ G.RepSt w1 σ σV ∧ AfS G W E w1 (k a w1.μ) := by
  cases r with
  | ok a μ =>
    intro w1 H1 v e l s rr
    subst e
    exact ⟨w1, a, l, s, rr, q.mono l, AfS.le h l⟩
  | exc c d μ => exact fun w' H' e l s dd x => h w' H' dd e l s x
  | stuck => exact h
theorem AfS.now {σ' : Sg} {H : Hp} {σV' : L2.St} (h : AfS G W E w (.next σ' w.μ)) (s : G.Stw w H) (q : G.RepSt w σ' σV') : E.nx σV' H := h w H σV' rfl (Le.refl w) s q
theorem AfS.retd {d : D} {H : Hp} {v : V} (h : AfS G W E w (.ret d w.μ)) (s : G.Stw w H) (q : G.Rep w d v) : E.rt v H := h w H v rfl (Le.refl w) s q
end
section
variable {G : Cf} {X : Cx} {W : XK} {a b c e : Expr} {es : List Expr} {fa fb fc : EF} {ff : AF} {ft : BF} {f g : SF} {pos : Pos} {st : Stmt} {rest : List Stmt}
def sNil : SF := fun σ μ => .next σ μ
def sSeq (f g : SF) : SF := fun σ μ => match f σ μ with
  | .next σ' μ' => g σ' μ'
  | r => r
theorem s_nil : DSs G X W [] sNil := pssI pss_nil fun E σV H ⟨σ, w, S, R, A⟩ => A.now S R
theorem s_cons (h1 : DS G X W st f) (h2 : DSs G X W rest g) : DSs G X W (st :: rest) (sSeq f g) := by
  refine pssI (pss_cons h1 h2) fun E σV H h => ?_
  obtain ⟨σ, w, S, R, A⟩ := h
  refine ⟨σ, w, S, R, ?_⟩
  unfold sSeq at A
  cases q : f σ w.μ with
  | next σ' μ' => rw [q] at A; exact fun w' H' σV' e l s r => ⟨σ', w', s, r, by rw [e]; exact A.le l⟩
  | brk σ' μ' => rw [q] at A; exact A
  | cont σ' μ' => rw [q] at A; exact A
  | ret d μ' => rw [q] at A; exact A
  | exc c d μ' => rw [q] at A; exact A
  | stuck => rw [q] at A; exact A
theorem s_one (h1 : DS G X W st f) : DSs G X W [st] f := pss_one h1
def sRet (fa : EF) : SF := fun σ μ => sBind (fa σ μ) σ fun d μ => .ret d μ
theorem s_ret (ha : DE G X W a fa) : DS G X W (.Return (some a) pos) (sRet fa) := by
  refine psI (ps_ret ha) fun E σV H h => ?_
  obtain ⟨σ, w, S, R, A⟩ := h
  exact ⟨σ, w, S, R, (AfS.bind (R := G.Rep) A R).mono fun v H1 ⟨w1, d, l, s, r, q, A1⟩ => A1.retd s r⟩
def sRetN : SF := fun σ μ => .ret .non μ
theorem s_retN : DS G X W (.Return none pos) sRetN := psI ps_retN fun E σV H ⟨σ, w, S, R, A⟩ => A.retd S (by simp only [Cf.Rep, Rep])
theorem s_pass : DS G X W (.Pass pos) sNil := psI ps_pass fun E σV H ⟨σ, w, S, R, A⟩ => A.now S R
def sBrk : SF := fun σ μ => .brk σ μ
def sCont : SF := fun σ μ => .cont σ μ
theorem s_brk : DS G X W (.Break pos) sBrk := psI ps_break fun E σV H ⟨σ, w, S, R, A⟩ => A w H σV rfl (Le.refl w) S R
theorem s_cont : DS G X W (.Continue pos) sCont := psI ps_continue fun E σV H ⟨σ, w, S, R, A⟩ => A w H σV rfl (Le.refl w) S R
def sExpr (fa : EF) : SF := fun σ μ => sBind (fa σ μ) σ fun _ μ => .next σ μ
theorem s_expr (ha : DE G X W a fa) (hs : swapsWith a none pos.line X.env = pure false := by rfl) : DS G X W (.Expr a pos) (sExpr fa) := by
  refine psI (ps_expr ha hs) fun E σV H h => ?_
  obtain ⟨σ, w, S, R, A⟩ := h
  exact ⟨σ, w, S, R, (AfS.bind (R := G.Rep) A R).mono fun v H1 ⟨w1, d, l, s, r, q, A1⟩ => A1.now s q⟩
def sIf (ft : BF) (f g : SF) : SF := fun σ μ => sBind (ft σ μ) σ fun k μ => if k = true then f σ μ else g σ μ
theorem s_if {x y : List Stmt} (ht : DT G X W c ft) (h1 : DSs G X W x f) (h2 : DSs G X W y g) : DS G X W (.If c x y pos) (sIf ft f g) := by
  refine psI (ps_if ht h1 h2) fun E σV H h => ?_
  obtain ⟨σ, w, S, R, A⟩ := h
  refine ⟨σ, w, S, R, (AfS.bind (R := RBl) A R).mono fun k H1 ⟨w1, k', l, s, e, q, A1⟩ => ?_⟩
  have e : k' = k := e
  subst e
  show (if k' = true then tS G W f E σV H1 else tS G W g E σV H1)
  cases k' with
  | true => rw [if_pos rfl]; rw [if_pos rfl] at A1; exact ⟨σ, w1, s, q, A1⟩
  | false => rw [if_neg Bool.false_ne_true]; rw [if_neg Bool.false_ne_true] at A1; exact ⟨σ, w1, s, q, A1⟩

/-! ### targets -/
abbrev TgF := D → Sg → Store → Option Sg
/-- own: the slots that may be stored into -/
def tGt (G : Cf) (own : List Nat) (g : TgF) : TG := fun v σV H Q => ∃ σ w d, G.Stw w H ∧ G.RepSt w σ σV ∧ G.Rep w d v ∧ ∃ σ', g d σ w.μ = some σ' ∧ ∀ σV', G.RepSt w σ' σV' → wipe σV' own = wipe σV own → Q σV' H
abbrev TgsF := List D → Sg → Store → Option Sg
def tGts (G : Cf) (own : List Nat) (g : TgsF) : TGs := fun vs σV H Q => ∃ σ w ds, G.Stw w H ∧ G.RepSt w σ σV ∧ G.Reps w ds vs ∧ ∃ σ', g ds σ w.μ = some σ' ∧ ∀ σV', G.RepSt w σ' σV' → wipe σV' own = wipe σV own → Q σV' H
abbrev DG (G : Cf) (X : Cx) (own : List Nat) (tg : Expr) (g : TgF) : Prop := PG X tg (tGt G own g)
abbrev DGs (G : Cf) (X : Cx) (own : List Nat) (tg : List Expr) (g : TgsF) : Prop := PGs X tg (tGts G own g)
def gN (i : Nat) : TgF := fun d σ _ => some (σ.set i (some d))
def gsN : TgsF := fun ds σ _ => match ds with
  | [] => some σ
  | _ => none
def gsC (g : TgF) (gs : TgsF) : TgsF := fun ds σ μ => match ds with
  | d :: r => (g d σ μ).bind fun σ' => gs r σ' μ
  | [] => none
def gT (gs : TgsF) (n : Nat) : TgF := fun d σ μ => match d with
  | .tup xs => if xs.length = n then gs xs σ μ else none
  | _ => none
theorem pgI {X : Cx} {e : Expr} {t t' : TG} (h : PG X e t) (i : ∀ v σ H Q, t' v σ H Q → t v σ H Q) : PG X e t' := ⟨fun pins s σ H v u Q I r q => h.run pins s σ H v u Q I r (i v σ H Q q)⟩
theorem pgsI {X : Cx} {e : List Expr} {t t' : TGs} (h : PGs X e t) (i : ∀ v σ H Q, t' v σ H Q → t v σ H Q) : PGs X e t' := ⟨fun pins s σ H v u Q I r q => h.run pins s σ H v u Q I r (i v σ H Q q)⟩
theorem wipe_get (σ : L2.St) : ∀ (vs : List Nat) (k : Nat), (wipe σ vs)[k]? = if k ∈ vs then (if k < σ.length then some none else none) else σ[k]?
  | [], k => by simp [wipe]
  | v :: vs, k => by
    unfold wipe
    rw [List.getElem?_set, wipe_length, wipe_get σ vs k]
    by_cases e : v = k
    · subst e; simp
    · have e' : ¬ k = v := fun z => e z.symm
      simp [e, e']
theorem wipe_set {σ : L2.St} {own : List Nat} {i : Nat} (h : i ∈ own) (o : Option V) : wipe (σ.set i o) own = wipe σ own := by
  apply List.ext_getElem?
  intro k
  rw [wipe_get, wipe_get, List.length_set]
  by_cases hk : k ∈ own
  · simp [hk]
  · have : i ≠ k := fun z => hk (z ▸ h)
    simp only [if_neg hk]
    rw [List.getElem?_set_ne this]
theorem g_name {own : List Nat} (i : Nat) {x : Str} (hN : X.N.Nodup) (ho : i ∈ own := by decide) (hi : X.N[i]? = some x := by rfl) (hx : Loc X.env.scope x := by first | exact Or.inl rfl | exact Or.inr rfl) (hf : X.fn x = true ∨ X.env.scope.names.lookup x = some .local := by first | exact .inl rfl | exact .inr rfl) : DG G X own (.Name x pos) (gN i) := by
  refine pgI (pg_name hN hi hx hf) fun v σV H Q h => ?_
  obtain ⟨σ, w, d, S, R, r, σ', e, q⟩ := h
  cases e
  exact q _ (R.set i r) (wipe_set ho _)
theorem gs_nil {own : List Nat} : DGs G X own [] gsN := by
  refine pgsI pgs_nil fun vs σV H Q h => ?_
  obtain ⟨σ, w, ds, S, R, r, σ', e, q⟩ := h
  unfold gsN at e
  split at e
  · cases e
    simp only [Cf.Reps, Reps] at r
    exact ⟨r, q _ R rfl⟩
  · cases e
theorem gs_cons {own : List Nat} {tg : Expr} {tgs : List Expr} {g : TgF} {gs : TgsF} (h1 : DG G X own tg g) (h2 : DGs G X own tgs gs) (hs : (assignEach (tg :: tgs) X.env).map (·.2) = assign tg X.env :: (assignEach tgs X.env).map (·.2) := by rfl) : DGs G X own (tg :: tgs) (gsC g gs) := by
  refine pgsI (pgs_cons h1 h2 hs) fun vs σV H Q h => ?_
  obtain ⟨σ, w, ds, S, R, r, σ', e, q⟩ := h
  unfold gsC at e
  split at e
  · rename_i d ds'
    simp only [Cf.Reps, Reps] at r
    obtain ⟨v, us, rfl, rv, rr⟩ := r
    cases h1 : g d σ w.μ with
    | none => rw [h1] at e; cases e
    | some σ1 =>
      rw [h1] at e
      refine ⟨v, us, rfl, σ, w, d, S, R, rv, σ1, h1, fun σV1 R1 e1 => ?_⟩
      exact ⟨σ1, w, ds', S, R1, rr, σ', e, fun σV2 R2 e2 => q σV2 R2 (e2.trans e1)⟩
  · cases e
theorem g_tup {own : List Nat} {tgs : List Expr} {k n : Nat} {gs : TgsF} (hc : X.calm = true) (h : DGs G X own tgs gs) (hn : (assignEach tgs X.env).length = n := by rfl) (hst : (assignEach tgs X.env).findIdx? (·.1) = none := by rfl) : DG G X own (.Tuple tgs k pos) (gT gs n) := by
  refine pgI (pg_tup hc h hn hst) fun v σV H Q h => ?_
  obtain ⟨σ, w, d, S, R, r, σ', e, q⟩ := h
  unfold gT at e
  split at e
  · rename_i xs
    split at e
    · rename_i hl
      obtain ⟨a, vs, rfl, qa, rr⟩ := getT_ok S r rfl
      exact ⟨a, vs, rfl, .of qa, by rw [← rr.len]; exact hl, σ, w, xs, S, R, rr, σ', e, q⟩
    · cases e
  · cases e
/-- target = value -/
def sAsg (g : TgF) (fa : EF) : SF := fun σ μ => sBind (fa σ μ) σ fun d μ => match g d σ μ with
  | some σ' => .next σ' μ
  | none => .stuck
theorem asg_ok {own : List Nat} {g : TgF} {E : Ends} {w : Wd} {σ : Sg} {σV : L2.St} {d : D} {v : V} {H : Hp} (S : G.Stw w H) (R : G.RepSt w σ σV) (r : G.Rep w d v)
    (A : AfS G W E w (match g d σ w.μ with | some σ' => .next σ' w.μ | none => .stuck)) : tGt G own g v σV H E.nx := by
  cases q : g d σ w.μ with
  | none => rw [q] at A; exact A.elim
  | some σ' => rw [q] at A; exact ⟨σ, w, d, S, R, r, σ', q, fun σV' R' _ => A.now S R'⟩
theorem s_asg {own : List Nat} {tg : Expr} {g : TgF} (ha : DE G X W a fa) (hg : DG G X own tg g) (hs : swapsWithSole [tg] a pos.line X.env = pure false := by rfl) (hw : swappedStores [tg] a X.env = pure none := by rfl)
    (h1 : (assignEach [tg] X.env).map (·.2) = [assign tg X.env] := by rfl) : DS G X W (.Assign [tg] a pos) (sAsg g fa) := by
  refine psI (ps_asg ha hg hs hw h1) fun E σV H h => ?_
  obtain ⟨σ, w, S, R, A⟩ := h
  exact ⟨σ, w, S, R, (AfS.bind (R := G.Rep) A R).mono fun v H1 ⟨w1, d, l, s, r, q, A1⟩ => asg_ok s q r A1⟩
/-- x, y = a, b without a tuple -/
def sPar (is : List Nat) (ff : AF) : SF := fun σ μ => sBind (ff σ μ) σ fun ds μ => if ds.length = is.length then .next ((is.zip ds).foldl (fun σ p => σ.set p.1 (some p.2)) σ) μ else .stuck
theorem s_par2 {x y : Str} {px py pt : Pos} {kt k2 : Nat} {pt2 : Pos} (i j : Nat) (hc : X.calm = true) (hN : X.N.Nodup) (ha : DA G X W [a, b] ff) (hi : X.N[i]? = some x := by rfl) (hj : X.N[j]? = some y := by rfl) (hij : i ≠ j := by decide)
    (hx : X.env.scope.names.lookup x = some .local := by rfl) (hy : X.env.scope.names.lookup y = some .local := by rfl)
    (hw : swappedStores [.Tuple [.Name x px, .Name y py] kt pt] (.Tuple [a, b] k2 pt2) X.env = pure (some [x, y]) := by rfl)
    (hs : swapsWithSole [.Tuple [.Name x px, .Name y py] kt pt] (.Tuple [a, b] k2 pt2) pos.line X.env = pure false := by rfl) :
    DS G X W (.Assign [.Tuple [.Name x px, .Name y py] kt pt] (.Tuple [a, b] k2 pt2) pos) (sPar [i, j] ff) := by
  refine psI (ps_par hc hN hi hj hij hx hy ha hw hs) fun E σV H h => ?_
  obtain ⟨σ, w, S, R, A⟩ := h
  refine ⟨σ, w, S, R, (AfS.bind (R := G.Reps) A R).mono fun vs H1 ⟨w1, ds, l, s, r, q, A1⟩ => ?_⟩
  by_cases hl : ds.length = [i, j].length
  · rw [if_pos hl] at A1
    obtain ⟨d, e, rfl⟩ : ∃ d e, ds = [d, e] := by
      match ds, hl with
      | [d, e], _ => exact ⟨d, e, rfl⟩
    obtain ⟨v, u, rfl, rv, ru⟩ := r.two
    exact ⟨v, u, rfl, A1.now s ((q.set i rv).set j ru)⟩
  · rw [if_neg hl] at A1; exact A1.elim
theorem s_par3 {x y z : Str} {px py pz pt : Pos} {kt k2 : Nat} {pt2 : Pos} (i j k : Nat) (hc : X.calm = true) (hN : X.N.Nodup) (ha : DA G X W [a, b, c] ff) (hi : X.N[i]? = some x := by rfl) (hj : X.N[j]? = some y := by rfl) (hk : X.N[k]? = some z := by rfl) (hij : i ≠ j := by decide) (hik : i ≠ k := by decide) (hjk : j ≠ k := by decide)
    (hx : X.env.scope.names.lookup x = some .local := by rfl) (hy : X.env.scope.names.lookup y = some .local := by rfl) (hz : X.env.scope.names.lookup z = some .local := by rfl)
    (hw : swappedStores [.Tuple [.Name x px, .Name y py, .Name z pz] kt pt] (.Tuple [a, b, c] k2 pt2) X.env = pure (some [x, y, z]) := by rfl)
    (hs : swapsWithSole [.Tuple [.Name x px, .Name y py, .Name z pz] kt pt] (.Tuple [a, b, c] k2 pt2) pos.line X.env = pure false := by rfl) :
    DS G X W (.Assign [.Tuple [.Name x px, .Name y py, .Name z pz] kt pt] (.Tuple [a, b, c] k2 pt2) pos) (sPar [i, j, k] ff) := by
  refine psI (ps_par3 hc hN hi hj hk hij hik hjk hx hy hz ha hw hs) fun E σV H h => ?_
  obtain ⟨σ, w, S, R, A⟩ := h
  refine ⟨σ, w, S, R, (AfS.bind (R := G.Reps) A R).mono fun vs H1 ⟨w1, ds, l, s, r, q, A1⟩ => ?_⟩
  by_cases hl : ds.length = [i, j, k].length
  · rw [if_pos hl] at A1
    obtain ⟨d, e, f, rfl⟩ : ∃ d e f, ds = [d, e, f] := by
      match ds, hl with
      | [d, e, f], _ => exact ⟨d, e, f, rfl⟩
    simp only [Cf.Reps, Reps] at r
    obtain ⟨v, _, rfl, rv, u, _, rfl, ru, t, _, rfl, rt, rfl⟩ := r
    exact ⟨v, u, t, rfl, A1.now s (((q.set i rv).set j ru).set k rt)⟩
  · rw [if_neg hl] at A1; exact A1.elim

/-! ### xs[i] = v, o.f = v -/
def setAt (o i d : D) (μ : Store) : Option Store := match o, i with
  | .loc n, .int k => match μ[n]? with
    | some (.lst xs) => (ixN xs.length k).map fun j => μ.set n (.lst (xs.set j d))
    | _ => none
  | _, _ => none
def sSet (fo fi fe : EF) : SF := fun σ μ => sBind (fe σ μ) σ fun d μ => sBind (fo σ μ) σ fun o μ => sBind (fi σ μ) σ fun i μ => match setAt o i d μ with
  | some μ' => .next σ μ'
  | none => .stuck
theorem s_set {o i : Expr} {fo fi fe : EF} {p : Pos} (he : DE G X W e fe) (ho : DE G X W o fo) (hi : DE G X W i fi)
    (ha : ∀ v, assign (.Subscript o i p) X.env v = (do
      let ov ← holding [v] (eval o X.env)
      let iv ← holding [v, ov] (eval i X.env)
      standAt p
      holding [v, ov, iv] (setItem ov iv v)
      release [v, ov, iv] []) := by intro _; rfl)
    (hs : swapsWithSole [.Subscript o i p] e pos.line X.env = pure false := by rfl) (hw : swappedStores [.Subscript o i p] e X.env = pure none := by rfl)
    (h1 : (assignEach [.Subscript o i p] X.env).map (·.2) = [assign (.Subscript o i p) X.env] := by rfl) : DS G X W (.Assign [.Subscript o i p] e pos) (sSet fo fi fe) := by
  refine psI (ps_asg he (pg_sub ho hi set_list ha) hs hw h1) fun E σV H h => ?_
  obtain ⟨σ, w, S, R, A⟩ := h
  refine ⟨σ, w, S, R, (AfS.bind (R := G.Rep) A R).mono fun v H1 ⟨w1, d, l1, S1, rv, R1, A1⟩ => ?_⟩
  refine ⟨σ, w1, S1, R1, (AfS.bind (R := G.Rep) A1 R1).mono fun ov H2 ⟨w2, od, l2, S2, ro, R2, A2⟩ => ?_⟩
  refine ⟨σ, w2, S2, R2, (AfS.bind (R := G.Rep) A2 R2).mono fun iv H3 ⟨w3, id, l3, S3, ri, R3, A3⟩ => ?_⟩
  have ro3 := Rep.mono l3.x _ _ ro
  have rv3 := Rep.mono (l2.trans l3).x _ _ rv
  cases q : setAt od id d w3.μ with
  | none => rw [q] at A3; exact A3.elim
  | some μ' =>
    rw [q] at A3
    unfold setAt at q
    split at q
    · split at q
      · rename_i xs e
        simp only [Option.map_eq_some_iff] at q
        obtain ⟨j, hj, rfl⟩ := q
        simp only [Cf.Rep, Rep] at ro3 ri
        obtain ⟨hn, rfl⟩ := ro3
        obtain ⟨_, vs, ho, rr⟩ := S3.ob _ _ e
        refine ⟨w3.m _, vs, _, j, rfl, ri, ho, by rw [← Reps.len rr]; exact hj, ?_⟩
        obtain ⟨S4, l4⟩ := S3.put (ob := .lst (xs.set j d)) (o := .lst (vs.set j v)) hn ⟨_, rfl, Reps.set rr j rv3⟩
        exact A3 _ _ _ rfl l4 S4 (R3.mono l4)
      · cases q
    · cases q
/-- the attributes with one more, or another one -/
def putD (f : Str) (d : D) : List Str → List D → List Str × List D
  | g :: ns, x :: xs => if g = f then (g :: ns, d :: xs) else let r := putD f d ns xs; (g :: r.1, x :: r.2)
  | _, _ => ([f], [d])
theorem putD_rep {w : Wd} {f : Str} {d : D} {v : V} (h : G.Rep w d v) : ∀ {ns : List Str} {xs : List D} {vs : List V}, ns.length = vs.length → G.Reps w xs vs →
    ∃ us, putF f v (ns.zip vs) = (putD f d ns xs).1.zip us ∧ (putD f d ns xs).1.length = us.length ∧ G.Reps w (putD f d ns xs).2 us
  | [], xs, vs, hl, r => by
    have : vs = [] := List.eq_nil_of_length_eq_zero hl.symm
    subst this
    refine ⟨[v], ?_, ?_, ?_⟩
    · simp [putD, putF]
    · simp [putD]
    · simp only [putD]; exact Reps.cons h Reps.nil
  | g :: ns, [], vs, hl, r => by
    simp only [Cf.Reps, Reps] at r
    subst r
    simp at hl
  | g :: ns, x :: xs, vs, hl, r => by
    simp only [Cf.Reps, Reps] at r
    obtain ⟨u, us, rfl, ru, rr⟩ := r
    by_cases e : g = f
    · subst e
      refine ⟨v :: us, ?_, ?_, ?_⟩
      · simp [putD, putF]
      · simp only [putD, if_true]; simpa using hl
      · simp only [putD, if_true]; exact Reps.cons h rr
    · obtain ⟨ts, h1, h2, h3⟩ := putD_rep h (ns := ns) (xs := xs) (vs := us) (by simpa using hl) rr
      refine ⟨u :: ts, ?_, ?_, ?_⟩
      · simp only [putD, if_neg e, List.zip_cons_cons, putF]
        rw [h1]
      · simp only [putD, if_neg e, List.length_cons]; rw [h2]
      · simp only [putD, if_neg e]; exact Reps.cons ru h3
/-- what the walk asks of a class of which an attribute is read or stored -/
structure AtrOk (K : PySem.W.Frag) (C : Addr) (f : Str) : Prop where
  cl : Cls K C
  no : NoAttr K C f
def Atr (G : Cf) (t : Nat → Str → Bool) : Prop := ∀ C f, t C f = true → AtrOk G.K (G.ca C) f
def setF (t : Nat → Str → Bool) (f : Str) (o d : D) (μ : Store) : Option Store := match o with
  | .loc n => match μ[n]? with
    | some (.ins C ns xs) => if t C f = true ∧ ns.length < 1000 then some (μ.set n (.ins C (putD f d ns xs).1 (putD f d ns xs).2)) else none
    | _ => none
  | _ => none
def sFld (t : Nat → Str → Bool) (f : Str) (fo fe : EF) : SF := fun σ μ => sBind (fe σ μ) σ fun d μ => sBind (fo σ μ) σ fun o μ => match setF t f o d μ with
  | some μ' => .next σ μ'
  | none => .stuck
theorem s_fld {o : Expr} {f : Str} {fo fe : EF} {p : Pos} {t : Nat → Str → Bool} (hK : X.K = G.K) (T : Atr G t) (he : DE G X W e fe) (ho : DE G X W o fo) (hs : swapsWith e (some (.Attribute o f p)) pos.line X.env = pure false := by rfl) : DS G X W (.Assign [.Attribute o f p] e pos) (sFld t f fo fe) := by
  refine psI (ps_fld ho he hs) fun E σV H h => ?_
  obtain ⟨σ, w, S, R, A⟩ := h
  refine ⟨σ, w, S, R, (AfS.bind (R := G.Rep) A R).mono fun v H1 ⟨w1, d, l1, S1, rv, R1, A1⟩ => ?_⟩
  refine ⟨σ, w1, S1, R1, (AfS.bind (R := G.Rep) A1 R1).mono fun ov H2 ⟨w2, od, l2, S2, ro, R2, A2⟩ => ?_⟩
  have rv2 := Rep.mono l2.x _ _ rv
  cases q : setF t f od d w2.μ with
  | none => rw [q] at A2; exact A2.elim
  | some μ' =>
    rw [q] at A2
    unfold setF at q
    split at q
    · rename_i n
      split at q
      · rename_i C ns xs e
        split at q
        · rename_i ht
          cases q
          simp only [Cf.Rep, Rep] at ro
          obtain ⟨hn, rfl⟩ := ro
          obtain ⟨_, dx, vs, ho', hl, rr⟩ := S2.ob n _ e
          have K := T C f ht.1
          rw [hK]
          obtain ⟨us, h1, h2, h3⟩ := putD_rep (f := f) rv2 hl rr
          refine ⟨w2.m n, G.ca C, dx, _, rfl, ho', K.cl, K.no, ?_, ?_⟩
          · rw [List.length_zip, hl, Nat.min_self, ← hl]; exact ht.2
          · rw [h1]
            obtain ⟨S3, l3⟩ := S2.put (ob := .ins C (putD f d ns xs).1 (putD f d ns xs).2) hn ⟨dx, us, rfl, h2, h3⟩
            exact A2 _ _ _ rfl l3 S3 (R2.mono l3)
        · cases q
      · cases q
    · cases q
/-- o.f -/
def getF (t : Nat → Str → Bool) (f : Str) (o : D) (μ : Store) : Option D := match o with
  | .loc n => match μ[n]? with
    | some (.ins C ns xs) => if t C f = true then (ns.zip xs).lookup f else none
    | _ => none
  | .ins C ns xs => if t C f = true then (ns.zip xs).lookup f else none
  | _ => none
def fFld (t : Nat → Str → Bool) (f : Str) (fo : EF) : EF := fun σ μ => (fo σ μ).bind fun o μ => match getF t f o μ with
  | some d => .ok d μ
  | none => .stuck
theorem lookup_rep {w : Wd} {f : Str} {d : D} : ∀ {ns : List Str} {xs : List D} {vs : List V}, ns.length = vs.length → G.Reps w xs vs → (ns.zip xs).lookup f = some d → ∃ v, (ns.zip vs).lookup f = some v ∧ G.Rep w d v
  | [], xs, vs, hl, r, h => by simp at h
  | g :: ns, [], vs, hl, r, h => by simp at h
  | g :: ns, x :: xs, vs, hl, r, h => by
    simp only [Cf.Reps, Reps] at r
    obtain ⟨u, us, rfl, ru, rr⟩ := r
    simp only [List.zip_cons_cons, List.lookup_cons] at h ⊢
    cases e : f == g with
    | true => rw [e] at h; simp only [Option.some.injEq] at h; subst h; exact ⟨u, rfl, ru⟩
    | false => rw [e] at h; exact lookup_rep (by simpa using hl) rr h
theorem d_fld {o : Expr} {f : Str} {fo : EF} {t : Nat → Str → Bool} (hK : X.K = G.K) (T : Atr G t) (ho : DE G X W o fo) (hb : attributeBase o f X.env (eval o X.env) = eval o X.env := by rfl) : DE G X W (.Attribute o f pos) (fFld t f fo) := by
  refine peI (pe_fld ho hb) fun σV H Q h => ?_
  obtain ⟨σ, w, S, R, A⟩ := h
  refine ⟨σ, w, S, R, (After.bind (R := G.Rep) A).mono fun x H1 ⟨w1, d, l1, S1, rx, A1⟩ => ?_⟩
  cases q : getF t f d w1.μ with
  | none => rw [q] at A1; exact A1.elim
  | some z =>
    rw [q] at A1
    unfold getF at q
    split at q
    · rename_i n
      split at q
      · rename_i C ns xs e
        split at q
        · rename_i ht
          simp only [Cf.Rep, Rep] at rx
          obtain ⟨hn, rfl⟩ := rx
          obtain ⟨_, dx, vs, ho', hl, rr⟩ := S1.ob n _ e
          have K := T C f ht
          rw [hK]
          obtain ⟨v, h1, h2⟩ := lookup_rep hl rr q
          exact ⟨w1.m n, G.ca C, dx, _, v, rfl, ho', K.cl, K.no, h1, A1.now S1 h2⟩
        · cases q
      · cases q
    · rename_i C ns xs
      split at q
      · rename_i ht
        simp only [Cf.Rep, Rep] at rx
        obtain ⟨a, dx, vs, rfl, ho', hl, rr⟩ := rx
        have K := T C f ht
        rw [hK]
        obtain ⟨v, h1, h2⟩ := lookup_rep hl rr q
        exact ⟨a, G.ca C, dx, _, v, rfl, S1.ex _ _ ho', K.cl, K.no, h1, A1.now S1 h2⟩
      · cases q
    · cases q

/-! ### methods of lists and texts -/
abbrev OM := D → List D → Store → Option (D × Store)
def isLst (d : D) (μ : Store) : Bool := (getL μ d).isSome
def rMO (G : Cf) (op : OM) : V → List V → Hp → VK → Prop := fun x xs H Q => ∃ w d ds, G.Stw w H ∧ G.Rep w d x ∧ G.Reps w ds xs ∧ AftO G w (op d ds w.μ) Q
theorem mtI {X : Cx} {id : String} {r r' : V → List V → Hp → VK → Prop} (h : MtR X id r) (i : ∀ x xs H Q, r' x xs H Q → r x xs H Q) : MtR X id r' := fun pins s σ H x xs v us Q I rx rxs q => h pins s σ H x xs v us Q I rx rxs (i x xs H Q q)
def fMt (op : OM) (fo : EF) (ff : AF) : EF := fun σ μ => (fo σ μ).bind fun o μ => if isLst o μ = true then (ff σ μ).bind fun ds μ => ofO (op o ds μ) else .stuck
theorem isLst_ok {w : Wd} {H : Hp} {d : D} {v : V} (S : G.Stw w H) (r : G.Rep w d v) (h : isLst d w.μ = true) : tyV G.K "list" v H := by
  unfold isLst at h
  cases q : getL w.μ d with
  | none => rw [q] at h; cases h
  | some xs =>
    obtain ⟨a, vs, rfl, q, _⟩ := getL_ok S r q
    exact .inl ⟨rfl, vs, q⟩
theorem d_mt {o : Expr} {fo : EF} {op : OM} {name : Str} {id : String} {apos : Pos} (hK : X.K = G.K) (hm : MtR X id (rMO G op)) (slot : Slot "list" name id) (hty : typeOf (.builtin id) = pure (.type "method_descriptor")) (ho : DE G X W o fo) (ha : DA G X W (e :: es) ff)
    (hbase : attributeBase o name X.env (eval o X.env) = eval o X.env := by rfl)
    (hfew : ((backTo pos (starEach (e :: es) X.env)).all (fun x => !x.1) && (backToKw pos (keywordEach [] X.env)).all (fun x => x.1.isSome)
      && decide ((e :: es).length + ([] : List Keyword).length + (if ([] : List Keyword).isEmpty then 0 else 1) < 30)) = true := by rfl)
    (hline : (apos.endLine == pos.line) = true := by rfl) (hs : starEach (e :: es) X.env = (false, eval e X.env) :: starEach es X.env := by rfl) (hplain : (backTo pos (starEach es X.env)).any (·.1) = false := by rfl) :
    DE G X W (.Call (.Attribute o name apos) (e :: es) [] pos) (fMt op fo ff) := by
  refine peI (pe_bm PySem.F.plainAttrs_list slot hty hm ho ha hbase hfew hline hs hplain) fun σV H Q h => ?_
  obtain ⟨σ, w, S, R, A⟩ := h
  refine ⟨σ, w, S, R, (After.bind (R := G.Rep) A).mono fun x H1 ⟨w1, d, l1, S1, rx, A1⟩ => ?_⟩
  split at A1
  · rename_i hl
    rw [hK]
    refine ⟨isLst_ok S1 rx hl, σ, w1, S1, R.mono l1, (After.bind (R := G.Reps) A1).mono fun xs H2 ⟨w2, ds, l2, S2, rs, A2⟩ => ?_⟩
    exact ⟨w2, d, ds, S2, Rep.mono l2 _ _ rx, rs, AftO.of A2⟩
  · exact A1.elim
def fMt0 (op : OM) (fo : EF) : EF := fun σ μ => (fo σ μ).bind fun o μ => if isLst o μ = true then ofO (op o [] μ) else .stuck
theorem d_mt0 {o : Expr} {fo : EF} {op : OM} {name : Str} {id : String} {apos : Pos} (hK : X.K = G.K) (hm : MtR X id (rMO G op)) (slot : Slot "list" name id) (hty : typeOf (.builtin id) = pure (.type "method_descriptor")) (ho : DE G X W o fo)
    (hbase : attributeBase o name X.env (eval o X.env) = eval o X.env := by rfl) (hline : (apos.endLine == pos.line) = true := by rfl) : DE G X W (.Call (.Attribute o name apos) [] [] pos) (fMt0 op fo) := by
  refine peI (pe_bm0 PySem.F.plainAttrs_list slot hty hm ho hbase hline) fun σV H Q h => ?_
  obtain ⟨σ, w, S, R, A⟩ := h
  refine ⟨σ, w, S, R, (After.bind (R := G.Rep) A).mono fun x H1 ⟨w1, d, l1, S1, rx, A1⟩ => ?_⟩
  split at A1
  · rename_i hl
    rw [hK]
    exact ⟨isLst_ok S1 rx hl, w1, d, [], S1, rx, Reps.nil, AftO.of A1⟩
  · exact A1.elim
/-- a mutable list becomes another one -/
theorem locL {w : Wd} {H : Hp} {n : Nat} {v : V} {xs : List D} (S : G.Stw w H) (r : G.Rep w (.loc n) v) (e : w.μ[n]? = some (.lst xs)) : v = .ref (w.m n) ∧ ∃ vs, H (w.m n) = some (.lst vs) ∧ G.Reps w xs vs ∧
    ∀ ys us d u (Q : VK), G.Reps w ys us → (∀ w', Le w w' → G.Rep w' d u) → AftO G w (some (d, w.μ.set n (.lst ys))) Q → Q u (upd H (w.m n) (.lst us)) := by
  simp only [Cf.Rep, Rep] at r
  obtain ⟨hn, rfl⟩ := r
  obtain ⟨_, vs, ho, rr⟩ := S.ob n _ e
  refine ⟨rfl, vs, ho, rr, fun ys us d u Q rys rd A => ?_⟩
  obtain ⟨S', l'⟩ := S.put (ob := .lst ys) (o := .lst us) hn ⟨us, rfl, rys⟩
  exact A _ _ _ rfl l' S' (rd _ l')
def oAppend : OM := fun o ds μ => match o, ds with
  | .loc n, [d] => match μ[n]? with
    | some (.lst xs) => if xs.length < cap then some (.non, μ.set n (.lst (xs ++ [d]))) else none
    | _ => none
  | _, _ => none
theorem mt_Append : MtR X "list.append" (rMO G oAppend) := by
  refine mtI mt_append fun x xs H Q h => ?_
  obtain ⟨w, o, ds, S, ro, rs, A⟩ := h
  unfold oAppend at A
  split at A
  · rename_i n d
    obtain ⟨v, rfl, rv⟩ := rs.one
    split at A
    · rename_i ys e
      split at A
      · rename_i hz
        obtain ⟨rfl, vs, h1, h2, k⟩ := locL S ro e
        exact ⟨_, vs, v, rfl, rfl, h1, by rw [← Reps.len h2, ← cap_eq]; exact hz, k _ _ .non .non Q (Reps.append h2 (Reps.cons rv Reps.nil)) (fun _ _ => rep_non.mpr rfl) A⟩
      · exact A.elim
    · exact A.elim
  · exact A.elim
def oPopAt : OM := fun o ds μ => match o, ds with
  | .loc n, [.int i] => match μ[n]? with
    | some (.lst xs) => if 0 ≤ i ∧ i < xs.length ∧ xs.length ≤ cap then match xs[i.toNat]? with
      | some d => some (d, μ.set n (.lst (xs.eraseIdx i.toNat)))
      | none => none
      else none
    | _ => none
  | _, _ => none
theorem Reps.erase {w : Wd} : ∀ {ds : List D} {vs : List V} (r : G.Reps w ds vs) (i : Nat), G.Reps w (ds.eraseIdx i) (vs.eraseIdx i)
  | [], vs, r, i => by simp only [Cf.Reps, DL.Reps] at r; subst r; simp; exact DL.Reps.nil
  | d :: ds, vs, r, i => by
    simp only [Cf.Reps, DL.Reps] at r
    obtain ⟨v, us, rfl, rv, rr⟩ := r
    cases i with
    | zero => exact rr
    | succ i => exact DL.Reps.cons rv (Reps.erase rr i)
theorem mt_PopAt : MtR X "list.pop" (rMO G oPopAt) := by
  refine mtI mt_popAt fun x xs H Q h => ?_
  obtain ⟨w, o, ds, S, ro, rs, A⟩ := h
  unfold oPopAt at A
  split at A
  · rename_i n i
    obtain ⟨v, rfl, rv⟩ := rs.one
    replace rv := rep_int.mp rv
    split at A
    · rename_i ys e
      split at A
      · rename_i hz
        split at A
        · rename_i d hd
          obtain ⟨rfl, vs, h1, h2, k⟩ := locL S ro e
          obtain ⟨u, hu, ru⟩ := Reps.get h2 _ _ hd
          refine ⟨_, vs, i, i.toNat, u, rfl, by rw [rv], h1, by omega, by have := cap_val; omega, ?_, hu, k _ _ d u Q (Reps.erase h2 _) (fun _ l => Rep.mono l _ _ ru) A⟩
          rw [← Reps.len h2]
          exact seqIndex_of hz.1 hz.2.1
        · exact A.elim
      · exact A.elim
    · exact A.elim
  · exact A.elim
/-- sep.join(texts) -/
def oJoin : OM := fun o ds μ => match o, ds with
  | .str a, [d] => (getS μ d).bind fun xs => (strs? xs).bind fun ys => if (ys.map (·.length)).sum + ys.length * a.length ≤ cap then some (.str (Txt.join a ys), μ) else none
  | _, _ => none
def fM1S (op : OM) (fo fe : EF) : EF := fun σ μ => (fo σ μ).bind fun o μ => match o with
  | .str a => (fe σ μ).bind fun d μ => ofO (op (.str a) [d] μ)
  | _ => .stuck
theorem d_join {o : Expr} {fo fe : EF} {apos : Pos} (hK : X.K = G.K) (ho : DE G X W o fo) (he : DE G X W e fe) (hs : starEach [e] X.env = [(false, eval e X.env)] := by rfl) (hbase : attributeBase o "join" X.env (eval o X.env) = eval o X.env := by rfl) (hline : (apos.endLine == pos.line) = true := by rfl) :
    DE G X W (.Call (.Attribute o "join" apos) [e] [] pos) (fM1S oJoin fo fe) := by
  refine peI (pe_join ho he hs hbase hline) fun σV H Q h => ?_
  obtain ⟨σ, w, S, R, A⟩ := h
  refine ⟨σ, w, S, R, (After.bind (R := G.Rep) A).mono fun x H1 ⟨w1, d, l1, S1, rx, A1⟩ => ?_⟩
  split at A1
  · rename_i a
    replace rx := rep_str.mp rx
    refine ⟨⟨a, rx⟩, σ, w1, S1, R.mono l1, (After.bind (R := G.Rep) A1).mono fun y H2 ⟨w2, d2, l2, S2, ry, A2⟩ => ?_⟩
    have A2 := AftO.of A2
    unfold oJoin at A2
    simp only at A2
    cases q : getS w2.μ d2 with
    | none => rw [q] at A2; exact A2.elim
    | some xs =>
      rw [q] at A2
      simp only [Option.bind_some] at A2
      cases q2 : strs? xs with
      | none => rw [q2] at A2; exact A2.elim
      | some ys =>
        rw [q2] at A2
        simp only [Option.bind_some] at A2
        split at A2
        · rename_i hz
          obtain ⟨p, vs, rfl, qq, rr⟩ := getS_ok S2 ry q
          rw [strs_rep rr q2, ← hK] at qq
          exact ⟨a, p, ys, rx, rfl, qq, by rw [← cap_val]; exact hz, A2.here S2 (rep_str.mpr rfl)⟩
        · exact A2.elim
  · exact A1.elim
end
end DL
/-! text DL6a -/
/-! enumerate of a tuple (the library has it of a list) -/
namespace DLE
open PySem PySem.Spec PyProof.Rows L2 AutoSeq1
theorem meets_en (l : Addr) (items : Array Value) (n : Nat) (dct : Option Addr) (sl : Array (Option Value)) :
    Meets (Builtin.«enumerate.__new__» ⟨[.type "enumerate", .ref l], []⟩) (fun _ R s => s.heap.get? l = some { cls := .type "tuple", dict := dct, data := .seq items n, slots := sl } ∧
      R (.ok (.ret (.ref (s.heap.push { cls := .type "tuple_iterator", data := .fields #[.ref l, .int 0 0] }).objs.size)))
        { s with heap := (s.heap.push { cls := .type "tuple_iterator", data := .fields #[.ref l, .int 0 0] }).push { cls := .type "enumerate", data := .fields #[.none, .bool false, .ref s.heap.objs.size, rawInt 0, .none, .none] } }) :=
  .of_wp fun prog w A R s h => by
    obtain ⟨hp, g, d, tk, os⟩ := s
    obtain ⟨hl, h⟩ := h
    have sub1 := sub_enumerate
    have isT : Heap.IsTuple (Shared.heap ⟨hp, g, d, tk, os⟩) l items := ⟨_, hl, rfl, n, rfl⟩
    wp_walk using wpAny_loadPart' hl
    refine wpAny_stack_any fun st => wpAny_pure ?_
    split
    · rename_i c _ _ _ _ _
      cases (c == Value.type "enumerate")
      · wp_walk using wpAny_loadPart' hl, wpAny_pyIter_tuple isT
        exact ⟨_, rfl, h⟩
      · wp_walk using wpAny_loadPart' hl, wpAny_pyIter_tuple isT
        exact ⟨_, rfl, h⟩
    · wp_walk using wpAny_loadPart' hl, wpAny_pyIter_tuple isT
      exact ⟨_, rfl, h⟩
section
variable {prog : Program} {w : World} {A : Around} {E : Value → Shared → Prop} {s : Shared}
theorem call_en {l : Addr} {items : Array Value} {Q : Value → Shared → Prop} (ht : s.heap.IsTuple l items)
    (h : ∀ h', IsEnum h' (s.heap.objs.size + 1) s.heap.objs.size 0 .none → h'.IsTupleIter s.heap.objs.size l 0 → (∀ b o, s.heap.get? b = some o → h'.get? b = some o) → Q (.ref (s.heap.objs.size + 1)) { s with heap := h' }) :
    wpAny (model prog w) A (call (.type "enumerate") [.ref l]) Q E s := by
  obtain ⟨⟨c, dct, dt, sl⟩, hl, hc, n, hd⟩ := ht
  obtain rfl : c = .type "tuple" := hc
  obtain rfl : dt = .seq items n := hd
  refine callType_new F.called_enumerate (by decide) (F.typeCall_enumerate_1 _) (F.newCall_enumerate_1 _) (fun obj => F.args_object_init_2 obj _) F.entry_enumerate_new (meets_en l items n dct sl) ⟨hl, ?_⟩
  have z1 : (s.heap.push { cls := .type "tuple_iterator", data := .fields #[.ref l, .int 0 0] }).objs.size = s.heap.objs.size + 1 := Heap.size_push ..
  show _ ∧ _
  rw [z1]
  have e1 : IsEnum ((s.heap.push { cls := .type "tuple_iterator", data := .fields #[.ref l, .int 0 0] }).push { cls := .type "enumerate", data := .fields #[.none, .bool false, .ref s.heap.objs.size, rawInt 0, .none, .none] }) (s.heap.objs.size + 1) s.heap.objs.size 0 .none := by
    have q := Heap.get?_push_size (s.heap.push { cls := .type "tuple_iterator", data := .fields #[.ref l, .int 0 0] }) (o := { cls := .type "enumerate", data := .fields #[.none, .bool false, .ref s.heap.objs.size, rawInt 0, .none, .none] }) rfl
    rw [z1] at q
    exact q
  exact ⟨⟨_, e1, rfl⟩, h _ e1 ⟨_, Heap.get?_push_of_some _ (Heap.get?_push_size _ rfl), rfl, rfl⟩ fun b o x => Heap.get?_push_of_some _ (Heap.get?_push_of_some _ x)⟩
end
theorem endD {prog : Program} {w : World} {A : Around} (hh : A.handled = none) (it t : Addr) (hne : t ≠ it) (items : Array Value) {n : Nat} (hn : items[n]? = none) :
    Draws prog w A it [it, t] n (fun i v => items[i]? = some v) (fun i h => i = n ∧ h.IsTupleIter it t i ∧ h.IsTuple t items) where
  live := fun _ _ st => let ⟨o, ho, _⟩ := st.2.1; ⟨o, ho⟩
  frame := fun _ _ _ st hk => ⟨st.1, st.2.1.at fun o e => hk it (by simp) o e, st.2.2.at fun o e => hk t (by simp) o e⟩
  item := fun i s Q E hi st hQ => absurd st.1 (Nat.ne_of_lt hi)
  done := fun s Q E st hE => wpAny_nextOf_tuple_end hh st.2.1 st.2.2 hn hE
/-- the tuple at a, each item in a new pair -/
def IteT (K : PySem.W.Frag) (a : Addr) : It :=
  ⟨fun i H => ∃ (xs : List V) (x : V), SqT K H a xs ∧ xs[i]? = some x, fun i H v H' => ∃ T x, v = .ref T ∧ H T = none ∧ H' = upd H T (.tup [.int (i : Nat), x]) ∧ ∀ xs, SqT K H a xs → xs[i]? = some x, fun i H => ∃ xs : List V, SqT K H a xs ∧ xs.length ≤ i⟩
theorem turn_enT {P : Program} {w : World} {K : PySem.W.Frag} {elts : List Expr} {kk : Nat} {tpos : Pos} (a e it : Addr) :
    Turn P w K (.Tuple elts kk tpos) (IteT K a) [e, it] e (fun i h => (∃ old, IsEnum h e it ((i : Nat) : Int) old) ∧ h.IsTupleIter it a i ∧ e ≠ it ∧ a ≠ it ∧ e ≠ a) where
  mem := by simp
  obj := fun i h st b hb => by
    obtain ⟨⟨old, he⟩, ⟨o, ho, hc, hd⟩, _⟩ := st
    have z : b = e ∨ b = it := by simpa using hb
    rcases z with z | z
    · rw [z]; exact ⟨_, he, fun v q => nomatch q⟩
    · rw [z]; exact ⟨o, ho, fun v q => by rw [hd] at q; cases q⟩
  keep := fun i h h' st k => let ⟨⟨old, he⟩, hi, r⟩ := st; ⟨⟨old, k e (by simp) _ he⟩, hi.at fun o q => k it (by simp) o q, r⟩
  item := by
    intro X hP hw hK hc i pins s σ H E I hf st hg
    subst hP hw hK
    obtain ⟨⟨old, he⟩, hit, hne, hai, hea⟩ := st
    obtain ⟨xs, x, hq, hx⟩ := hg
    obtain ⟨its, rv, p, hz⟩ := I.tuple hq
    obtain ⟨u, hu, ru⟩ := rv.get hx
    have hel : e < s.heap.objs.size := Heap.lt_size he
    have hil : it < s.heap.objs.size := by obtain ⟨_, q, _⟩ := hit; exact Heap.lt_size q
    have hlt : i < its.toArray.size := by
      have := (List.getElem?_eq_some_iff.mp hu).1
      simpa using this
    refine wpAny_pyNext_enum_itemD (Draws.tuple (A := X.A.in1) (I.ok.hd hc) it a hai its.toArray) he ⟨hit, p⟩ hlt hne (by simp [hne, hea]) fun y h' tk hy ho hit' hT hsz hk => ?_
    have ey : y = u := by
      have hy : its.toArray[i]? = some y := hy
      rw [show its.toArray[i]? = some u by simpa using hu] at hy
      exact (Option.some.inj hy).symm
    subst ey
    refine ⟨_, rfl, wpAny_letOwnedTupleGo_enum (s := { s with heap := h', toks := tk + 1 }) ho fun h'' he' sb => ?_⟩
    have hT2 : h''.get? s.heap.objs.size = some { cls := .type "tuple", data := .seq #[.int i tk, y] } := (sb.2 _ (Nat.ne_of_gt hel)).trans hT
    have new : ObjOk X.prog X.w (upd H s.heap.objs.size (.tup [.int (i : Nat), x])) h'' s.heap.objs.size (.tup [.int (i : Nat), x]) :=
      ⟨by show 2 ≤ sizeLine; decide, [.int i tk, y], .cons ⟨_, rfl⟩ (.cons ru .nil), ⟨_, hT2, rfl, _, rfl⟩⟩
    have I1 : Inv X pins σ (upd H s.heap.objs.size (.tup [.int (i : Nat), x])) { s with heap := h'', toks := tk + 1 } :=
      I.turnedNew (ch := [e, it]) (fun b ob hb q => (sb.2 b (fun z => hb (by simp [z]))).trans (hk b ob (fun z => hb (by simp [z])) (fun z => hb (by simp [z])) q)) hf (Nat.le_refl _) new
    refine ⟨.ref s.heap.objs.size, _, I1, rfl, ⟨_, x, rfl, I.hok.fresh (Nat.le_refl _), rfl, fun ys hy => ?_⟩, ⟨⟨y, ?_⟩, hit'.1.at fun o q => (sb.2 it (Ne.symm hne)).trans q, hne, hai, hea⟩, fun b hb => ?_⟩
    · rw [I.tuple_inj hy hq]; exact hx
    · have e1 : ((i + 1 : Nat) : Int) = (i : Int) + 1 := by omega
      rw [e1]; exact he'
    · have hb' : b < s.heap.objs.size := by
        have z : b = e ∨ b = it := by simpa using hb
        rcases z with z | z
        · rw [z]; exact hel
        · rw [z]; exact hil
      rw [upd_ne (Nat.ne_of_lt hb')]
      exact (hf b hb).1
  done := by
    intro X hP hw hK hc i pins s σ H E I hf st hg
    subst hP hw hK
    obtain ⟨⟨old, he⟩, hit, hne, hai, hea⟩ := st
    obtain ⟨xs, hq, hx⟩ := hg
    obtain ⟨its, rv, p, hz⟩ := I.tuple hq
    obtain ⟨f0, f1, f2, f3, f4, f5⟩ := hf it (by simp)
    have hl := rv.length
    exact wpAny_pyNext_enum_endD (endD (A := X.A.in1) (I.ok.hd hc) it a hai its.toArray (by simp; omega)) he ⟨rfl, hit, p⟩ fun h' eb => ⟨rfl, I.turned (t' := s.toks) (fun b o hb q => eb b o hb q) f0 f1 f3 f4 f5⟩
  self := fun A i s Q E st h => let ⟨⟨_, he⟩, _⟩ := st; wpAny_pyIter_enum he h
def iEnum2 (K : PySem.W.Frag) (ta : TE) : TI := fun σ H R => ta σ H fun v H1 => ∃ a, v = .ref a ∧ ((∃ xs, SqL K H1 a xs ∧ R (Ite K a) H1) ∨ ∃ xs, SqT K H1 a xs ∧ R (IteT K a) H1)
theorem pi_enum2 {X : Cx} {e : Expr} {ta : TE} {p pos tpos : Pos} {elts : List Expr} {kk : Nat} (hg : Gl X "enumerate") (hm : X.mg "enumerate" = none) (ha : PE X e ta) (hs : starEach [e] X.env = (false, eval e X.env) :: starEach [] X.env := by rfl) :
    PI X (.Tuple elts kk tpos) (.Call (.Name "enumerate" p) [e] [] pos) (iEnum2 X.K ta) := by
  refine ⟨fun pins s σ H R I h => ?_⟩
  refine Call_ (ld_blt I hg hm boot_enumerate (PyProof.Rows.callWith_type1 (PyProof.Rows.args_cons (thn (ha.run pins s σ H _ I h) fun v s1 ⟨x, H1, I1, r1, a, ex, q⟩ => PyProof.Rows.args_nil ?_) hs) hs rfl))
  subst ex
  obtain rfl : v = Value.ref a := r1
  rcases q with ⟨xs, hq, q⟩ | ⟨xs, hq, q⟩
  · obtain ⟨its, rv, p', hz⟩ := I1.list hq
    refine call_enumerate_list p'.isList fun h' he hit hsz hk => wpAny_pyIter_enum he ?_
    have I2 : Inv X pins σ H1 { s1 with heap := h' } := I1.kept (t' := s1.toks) hk
    refine ⟨s1.heap.objs.size + 1, [s1.heap.objs.size + 1, s1.heap.objs.size], _, _, H1, rfl, I2, turn_enum a (s1.heap.objs.size + 1) s1.heap.objs.size, ⟨⟨.none, he⟩, hit, Nat.succ_ne_self _⟩, fun b hb => ?_, q⟩
    have e' : b = s1.heap.objs.size + 1 ∨ b = s1.heap.objs.size := by simpa using hb
    have hle : s1.heap.objs.size ≤ b := by
      rcases e' with z | z
      · exact z ▸ Nat.le_succ _
      · exact Nat.le_of_eq z.symm
    exact I1.fpOk hle (I1.hok.fresh hle)
  · obtain ⟨its, rv, p', hz⟩ := I1.tuple hq
    have hal : a < s1.heap.objs.size := by obtain ⟨o, ho, _⟩ := p'; exact Heap.lt_size ho
    refine call_en p' fun h' he hit hk => wpAny_pyIter_enum he ?_
    have I2 : Inv X pins σ H1 { s1 with heap := h' } := I1.kept (t' := s1.toks) hk
    refine ⟨s1.heap.objs.size + 1, [s1.heap.objs.size + 1, s1.heap.objs.size], _, _, H1, rfl, I2, turn_enT a (s1.heap.objs.size + 1) s1.heap.objs.size, ⟨⟨.none, he⟩, hit, Nat.succ_ne_self _, Nat.ne_of_lt hal, Nat.ne_of_gt (Nat.lt_succ_of_lt hal)⟩, fun b hb => ?_, q⟩
    have e' : b = s1.heap.objs.size + 1 ∨ b = s1.heap.objs.size := by simpa using hb
    have hle : s1.heap.objs.size ≤ b := by
      rcases e' with z | z
      · exact z ▸ Nat.le_succ _
      · exact Nat.le_of_eq z.symm
    exact I1.fpOk hle (I1.hok.fresh hle)
end DLE
/-! text DL6 -/
namespace DL
open PySem PySem.Spec PyProof.Rows L2

/-! ### what is walked -/
inductive Src where
  | sq (d : D) | rng (lo : Int) (n : Nat) | st (x : Str) | en (d : D) | zp (d e : D)
def pairAt (xs ys : List D) (i : Nat) : Option D := match xs[i]?, ys[i]? with
  | some x, some y => some (.tup [x, y])
  | _, _ => none
/-- the item at a turn; some none: the end -/
def Src.at (μ : Store) (i : Nat) : Src → Option (Option D)
  | .sq d => (getS μ d).map fun xs => xs[i]?
  | .rng lo n => some (if i < n then some (.int (lo + i)) else none)
  | .st x => some (x.cps[i]?.map fun c => .str ⟨#[c]⟩)
  | .en d => (getS μ d).map fun xs => xs[i]?.map fun x => .tup [.int i, x]
  | .zp d e => match getL μ d, getL μ e with
    | some xs, some ys => some (pairAt xs ys i)
    | _, _ => match getT d, getT e with
      | some xs, some ys => some (pairAt xs ys i)
      | _, _ => none
def Src.fuel (μ : Store) : Src → Nat
  | .sq d => ((getS μ d).map (·.length)).getD 0
  | .rng _ n => n
  | .st x => x.cps.size
  | .en d => ((getS μ d).map (·.length)).getD 0
  | .zp d _ => ((getS μ d).map (·.length)).getD 0
def YldOk (G : Cf) (J : It) (w : Wd) (H : Hp) (i : Nat) : Option (Option D) → Prop
  | some (some d) => J.go i H ∧ ∀ x H', J.yld i H x H' → ∃ w', Le w w' ∧ w'.μ = w.μ ∧ G.Stw w' H' ∧ G.Rep w' d x
  | some none => J.stop i H
  | none => True
def SrcOk (G : Cf) (J : It) (w0 : Wd) (src : Src) : Prop := ∀ w H, LeX w0 w → G.Stw w H → ∀ i, YldOk G J w H i (src.at w.μ i)
abbrev IF := Sg → Store → Res Src
def tI (G : Cf) (W : XK) (f : IF) : TI := fun σV H R => ∃ σ w, G.Stw w H ∧ G.RepSt w σ σV ∧ After G (fun w src J => SrcOk G J w src) (XTo G W) w (f σ w.μ) R
abbrev DI (G : Cf) (X : Cx) (W : XK) (tg e : Expr) (f : IF) : Prop := PI X tg e (tI G W f)
theorem piI {X : Cx} {tg e : Expr} {t t' : TI} (h : PI X tg e t) (i : ∀ σ H R, t' σ H R → t σ H R) : PI X tg e t' := ⟨fun pins s σ H R I q => h.run pins s σ H R I (i σ H R q)⟩
section
variable {G : Cf} {X : Cx} {W : XK} {tg a b e : Expr} {fa fb : EF} {ff : AF} {pos p : Pos}
/-- a list, a tuple or a text -/
def iSq (K : PySem.W.Frag) (te : TE) : TI := fun σ H R => te σ H fun x H1 => (∃ a, x = .ref a ∧ (∃ xs, SqL K H1 a xs) ∧ R (Itl K a) H1) ∨ (∃ a, x = .ref a ∧ (∃ xs, SqT K H1 a xs) ∧ R (Itt K a) H1) ∨ ∃ z, x = .str z ∧ R (Its z) H1
theorem pi_sq {te : TE} (he : PE X e te) : PI X tg e (iSq X.K te) := by
  refine ⟨fun pins s σ H R I h => ?_⟩
  refine thn (he.run pins s σ H _ I h) fun v s1 ⟨x, H1, I1, r1, q1⟩ => ?_
  rcases q1 with ⟨a, e, ⟨xs, hq⟩, q⟩ | ⟨a, e, ⟨xs, hq⟩, q⟩ | ⟨z, e, q⟩
  · subst e
    cases r1
    obtain ⟨its, rv, p, hz⟩ := I1.list hq
    refine wpAny_pyIter_list p.isList ?_
    refine ⟨s1.heap.objs.size, [s1.heap.objs.size], _, _, H1, rfl, I1.kept (t' := s1.toks) fun b o e => Heap.get?_push_of_some _ e, turn_list a _, ⟨_, Heap.get?_push_size _ rfl, rfl, rfl⟩, fun b hb => ?_, q⟩
    have e : b = s1.heap.objs.size := by simpa using hb
    subst e
    exact I1.fpOk (Nat.le_refl _) (I1.hok.fresh (Nat.le_refl _))
  · subst e
    cases r1
    obtain ⟨its, rv, p, hz⟩ := I1.tuple hq
    refine wpAny_pyIter_tuple (show s1.heap.IsTuple a its.toArray from p) ?_
    refine ⟨s1.heap.objs.size, [s1.heap.objs.size], _, _, H1, rfl, I1.kept (t' := s1.toks) fun b o e => Heap.get?_push_of_some _ e, turn_tuple a _, ⟨_, Heap.get?_push_size _ rfl, rfl, rfl⟩, fun b hb => ?_, q⟩
    have e : b = s1.heap.objs.size := by simpa using hb
    subst e
    exact I1.fpOk (Nat.le_refl _) (I1.hok.fresh (Nat.le_refl _))
  · subst e
    obtain ⟨t, rfl⟩ := r1
    cases ha : z.cps.all (· < 128)
    · exact wpAny_pyIter_wide ha (pi_one (tk := s1.toks) I1 _ (turn_str _ z t "str_iterator" (.inr rfl)) ⟨_, Heap.get?_push_size _ rfl, rfl, rfl⟩ q)
    · exact wpAny_pyIter_ascii ha (pi_one (tk := s1.toks) I1 _ (turn_str _ z t "str_ascii_iterator" (.inl rfl)) ⟨_, Heap.get?_push_size _ rfl, rfl, rfl⟩ q)
def iS (fa : EF) : IF := fun σ μ => (fa σ μ).bind fun d μ => match d with
  | .str x => .ok (.st x) μ
  | d => if (getS μ d).isSome = true then .ok (.sq d) μ else .stuck
theorem getS_kind {w : Wd} {H : Hp} {d : D} {v : V} {xs : List D} (S : G.Stw w H) (r : G.Rep w d v) (h : getS w.μ d = some xs) :
    (∃ a, v = .ref a ∧ (∃ vs, SqL G.K H a vs) ∧ ∀ w' H', LeX w w' → G.Stw w' H' → ∀ ys, getS w'.μ d = some ys → ∃ vs, SqL G.K H' a vs ∧ G.Reps w' ys vs) ∨
      (∃ a, v = .ref a ∧ (∃ vs, SqT G.K H a vs) ∧ ∀ w' H', LeX w w' → G.Stw w' H' → ∀ ys, getS w'.μ d = some ys → ∃ vs, SqT G.K H' a vs ∧ G.Reps w' ys vs) := by
  cases d with
  | tup zs =>
    obtain ⟨a, vs, rfl, q, rr⟩ := getT_ok S r rfl
    refine .inr ⟨a, rfl, ⟨vs, .of q⟩, fun w' H' l S' ys hy => ?_⟩
    cases hy
    obtain ⟨a', vs', e, q', rr'⟩ := getT_ok S' (Rep.mono l _ _ r) rfl
    cases e
    exact ⟨vs', .of q', rr'⟩
  | rt zs =>
    cases h
    have r0 := r
    simp only [Cf.Rep, Rep] at r
    obtain ⟨a, vs, rfl, q, rr⟩ := r
    refine .inr ⟨a, rfl, ⟨vs, S.sqT q⟩, fun w' H' l S' ys hy => ?_⟩
    cases hy
    exact ⟨vs, S'.sqT (Same.seqT l.ex q), Reps.mono l _ _ rr⟩
  | lst zs =>
    obtain ⟨a, vs, rfl, q, rr⟩ := getL_ok S r (show getL w.μ (.lst zs) = some zs from rfl)
    refine .inl ⟨a, rfl, ⟨vs, q⟩, fun w' H' l S' ys hy => ?_⟩
    obtain ⟨a', vs', e, q', rr'⟩ := getL_ok S' (Rep.mono l _ _ r) (show getL w'.μ (.lst zs) = some ys from hy)
    cases e
    exact ⟨vs', q', rr'⟩
  | rl zs =>
    obtain ⟨a, vs, rfl, q, rr⟩ := getL_ok S r (show getL w.μ (.rl zs) = some zs from rfl)
    refine .inl ⟨a, rfl, ⟨vs, q⟩, fun w' H' l S' ys hy => ?_⟩
    obtain ⟨a', vs', e, q', rr'⟩ := getL_ok S' (Rep.mono l _ _ r) (show getL w'.μ (.rl zs) = some ys from hy)
    cases e
    exact ⟨vs', q', rr'⟩
  | loc n =>
    obtain ⟨a, vs, rfl, q, rr⟩ := getL_ok S r (show getL w.μ (.loc n) = some xs from h)
    refine .inl ⟨a, rfl, ⟨vs, q⟩, fun w' H' l S' ys hy => ?_⟩
    obtain ⟨a', vs', e, q', rr'⟩ := getL_ok S' (Rep.mono l _ _ r) (show getL w'.μ (.loc n) = some ys from hy)
    cases e
    exact ⟨vs', q', rr'⟩
  | _ => simp [getS, getL, getM] at h
theorem yat_list {a : Addr} {w : Wd} {H : Hp} {ys : List D} {vs : List V} (S : G.Stw w H) (q : SqL G.K H a vs) (rr : G.Reps w ys vs) (i : Nat) : YldOk G (Itl G.K a) w H i (some ys[i]?) := by
  cases e : ys[i]? with
  | none => exact ⟨vs, q, by rw [← rr.len]; exact List.getElem?_eq_none_iff.mp e⟩
  | some d =>
    obtain ⟨v, hv, rv⟩ := rr.get i d e
    refine ⟨⟨vs, v, q, hv⟩, fun x H' y => ?_⟩
    obtain ⟨rfl, y⟩ := y
    have := y vs q
    rw [hv] at this; cases this
    exact ⟨w, Le.refl w, rfl, S, rv⟩
theorem yat_tup {a : Addr} {w : Wd} {H : Hp} {ys : List D} {vs : List V} (S : G.Stw w H) (q : SqT G.K H a vs) (rr : G.Reps w ys vs) (i : Nat) : YldOk G (Itt G.K a) w H i (some ys[i]?) := by
  cases e : ys[i]? with
  | none => exact ⟨vs, q, by rw [← rr.len]; exact List.getElem?_eq_none_iff.mp e⟩
  | some d =>
    obtain ⟨v, hv, rv⟩ := rr.get i d e
    refine ⟨⟨vs, v, q, hv⟩, fun x H' y => ?_⟩
    obtain ⟨rfl, y⟩ := y
    have := y vs q
    rw [hv] at this; cases this
    exact ⟨w, Le.refl w, rfl, S, rv⟩
theorem i_sq (hK : X.K = G.K) (he : DE G X W e fa) : DI G X W tg e (iS fa) := by
  refine piI (pi_sq he) fun σV H R h => ?_
  obtain ⟨σ, w, S, q, A⟩ := h
  refine ⟨σ, w, S, q, (After.bind (R := G.Rep) A).mono fun x H1 ⟨w1, d, l1, S1, rx, A1⟩ => ?_⟩
  split at A1
  · rename_i z
    replace rx := rep_str.mp rx
    refine .inr (.inr ⟨z, rx, A1.now S1 fun w2 H2 l2 S2 i => ?_⟩)
    simp only [Src.at]
    cases e : z.cps[i]? with
    | none => exact Array.getElem?_eq_none_iff.mp e
    | some c =>
      refine ⟨(Array.getElem?_eq_some_iff.mp e).1, fun x H' y => ?_⟩
      obtain ⟨rfl, c', hc, rfl⟩ := y
      rw [e] at hc; cases hc
      exact ⟨w2, Le.refl w2, rfl, S2, rep_str.mpr rfl⟩
  · split at A1
    · rename_i hsm
      cases hx : getS w1.μ d with
      | none => rw [hx] at hsm; cases hsm
      | some xs =>
        rw [hK]
        rcases getS_kind S1 rx hx with ⟨a, rfl, h1, k⟩ | ⟨a, rfl, h1, k⟩
        · refine .inl ⟨a, rfl, h1, A1.now S1 fun w2 H2 l2 S2 i => ?_⟩
          simp only [Src.at]
          cases hy : getS w2.μ d with
          | none => exact trivial
          | some ys =>
            obtain ⟨vs, q, rr⟩ := k w2 H2 l2 S2 ys hy
            exact yat_list S2 q rr i
        · refine .inr (.inl ⟨a, rfl, h1, A1.now S1 fun w2 H2 l2 S2 i => ?_⟩)
          simp only [Src.at]
          cases hy : getS w2.μ d with
          | none => exact trivial
          | some ys =>
            obtain ⟨vs, q, rr⟩ := k w2 H2 l2 S2 ys hy
            exact yat_tup S2 q rr i
    · exact A1.elim
/-- range(n), range(a, b) -/
def iR1 (fa : EF) : IF := fun σ μ => (fa σ μ).bind fun d μ => match d with
  | .int j => if -(2 ^ 62) ≤ j ∧ j < 2 ^ 62 then .ok (.rng 0 j.toNat) μ else .stuck
  | _ => .stuck
def iR2 (fa fb : EF) : IF := fun σ μ => (fa σ μ).bind fun d μ => (fb σ μ).bind fun e μ => match d, e with
  | .int i, .int j => if -(2 ^ 62) ≤ i ∧ i < 2 ^ 62 ∧ -(2 ^ 62) ≤ j ∧ j < 2 ^ 62 then .ok (.rng i (j - i).toNat) μ else .stuck
  | _, _ => .stuck
theorem rng_ok {w : Wd} {lo : Int} {n : Nat} : SrcOk G (Itr lo n) w (.rng lo n) := by
  intro w2 H2 l2 S2 i
  simp only [Src.at]
  by_cases h : i < n
  · rw [if_pos h]
    refine ⟨h, fun x H' y => ?_⟩
    obtain ⟨rfl, rfl⟩ := y
    exact ⟨w2, Le.refl w2, rfl, S2, rep_int.mpr rfl⟩
  · rw [if_neg h]
    exact Nat.le_of_not_lt h
theorem i_r1 (hm : X.mg "range" = none) (ha : DE G X W a fa) (hg : Gl X "range" := by rfl) (hs : starEach [a] X.env = [(false, eval a X.env)] := by rfl) (hs2 : starEach [a] X.env = (false, eval a X.env) :: starEach [] X.env := by rfl) : DI G X W tg (.Call (.Name "range" p) [a] [] pos) (iR1 fa) := by
  refine piI (pi_range1 hg hm (pa_cons ha pa_nil hs2) hs) fun σV H R h => ?_
  obtain ⟨σ, w, S, q, A⟩ := h
  refine ⟨σ, w, S, q, (After.bind (R := G.Rep) A).mono fun x H1 ⟨w1, d, l1, S1, rx, A1⟩ => ?_⟩
  split at A1
  · rename_i j
    replace rx := rep_int.mp rx
    split at A1
    · rename_i hj
      exact ⟨j, by rw [rx], hj.1, hj.2, A1.now S1 rng_ok⟩
    · exact A1.elim
  · exact A1.elim
theorem i_r2 (hm : X.mg "range" = none) (ha : DE G X W a fa) (hb : DE G X W b fb) (hg : Gl X "range" := by rfl) (hs : starEach [a, b] X.env = [(false, eval a X.env), (false, eval b X.env)] := by rfl) (hs2 : starEach [b] X.env = [(false, eval b X.env)] := by rfl) : DI G X W tg (.Call (.Name "range" p) [a, b] [] pos) (iR2 fa fb) := by
  refine piI (pi_range2 hg hm (pa_cons ha (pa_cons hb pa_nil (by rw [hs2]; rfl)) (by rw [hs, hs2])) hs hs2) fun σV H R h => ?_
  obtain ⟨σ, w, S, q, A⟩ := h
  refine ⟨σ, w, S, q, (After.bind (R := G.Rep) A).mono fun x H1 ⟨w1, d, l1, S1, rx, A1⟩ => ?_⟩
  refine ⟨σ, w1, S1, q.mono l1, (After.bind (R := G.Rep) A1).mono fun y H2 ⟨w2, e, l2, S2, ry, A2⟩ => ?_⟩
  split at A2
  · replace rx := rep_int.mp rx
    replace ry := rep_int.mp ry
    split at A2
    · rename_i hj
      exact ⟨_, _, by rw [rx, ry], hj, A2.now S2 rng_ok⟩
    · exact A2.elim
  · exact A2.elim
/-- enumerate(a list or tuple) -/
def iEn (fa : EF) : IF := fun σ μ => (fa σ μ).bind fun d μ => if (getS μ d).isSome = true then .ok (.en d) μ else .stuck
theorem getL_kind {w : Wd} {H : Hp} {d : D} {v : V} {xs : List D} (S : G.Stw w H) (r : G.Rep w d v) (h : getL w.μ d = some xs) :
    ∃ a vs, v = .ref a ∧ SqL G.K H a vs ∧ ∀ w' H', LeX w w' → G.Stw w' H' → ∀ ys, getL w'.μ d = some ys → ∃ vs, SqL G.K H' a vs ∧ G.Reps w' ys vs := by
  obtain ⟨a, vs, rfl, q, rr⟩ := getL_ok S r h
  refine ⟨a, vs, rfl, q, fun w' H' l S' ys hy => ?_⟩
  obtain ⟨a', vs', e, q', rr'⟩ := getL_ok S' (Rep.mono l _ _ r) hy
  cases e
  exact ⟨vs', q', rr'⟩
theorem yat_en {w : Wd} {H : Hp} {ys : List D} {us : List V} {i : Nat} {J : It} (S : G.Stw w H) (rr : G.Reps w ys us) (stop : us.length ≤ i → J.stop i H) (go : ∀ v, us[i]? = some v → J.go i H)
    (yld : ∀ v x H', us[i]? = some v → J.yld i H x H' → ∃ T, x = .ref T ∧ H T = none ∧ H' = upd H T (.tup [.int (i : Nat), v])) : YldOk G J w H i (some (ys[i]?.map fun x => .tup [.int i, x])) := by
  cases e : ys[i]? with
  | none => exact stop (by rw [← rr.len]; exact List.getElem?_eq_none_iff.mp e)
  | some z =>
    obtain ⟨v, hv, rv⟩ := rr.get i z e
    refine ⟨go v hv, fun x H' y => ?_⟩
    obtain ⟨T, rfl, hT, rfl⟩ := yld v x H' hv y
    obtain ⟨S3, l3⟩ := S.grow hT (.tup [.int (i : Nat), v])
    refine ⟨_, l3, rfl, S3, ?_⟩
    simp only [Cf.Rep, Rep]
    exact ⟨T, _, rfl, upd_same, Reps.cons (rep_int.mpr rfl) (Reps.cons (Rep.mono l3 _ _ rv) Reps.nil)⟩
theorem i_en {elts : List Expr} {kk : Nat} {tpos : Pos} (hK : X.K = G.K) (hm : X.mg "enumerate" = none) (ha : DE G X W a fa) (hg : Gl X "enumerate" := by rfl) (hs : starEach [a] X.env = (false, eval a X.env) :: starEach [] X.env := by rfl) :
    DI G X W (.Tuple elts kk tpos) (.Call (.Name "enumerate" p) [a] [] pos) (iEn fa) := by
  refine piI (DLE.pi_enum2 hg hm ha hs) fun σV H R h => ?_
  obtain ⟨σ, w, S, q, A⟩ := h
  refine ⟨σ, w, S, q, (After.bind (R := G.Rep) A).mono fun x H1 ⟨w1, d, l1, S1, rx, A1⟩ => ?_⟩
  split at A1
  · rename_i hsm
    cases hx : getS w1.μ d with
    | none => rw [hx] at hsm; cases hsm
    | some xs =>
      rw [hK]
      rcases getS_kind S1 rx hx with ⟨p, rfl, ⟨vs, q1⟩, k⟩ | ⟨p, rfl, ⟨vs, q1⟩, k⟩
      · refine ⟨p, rfl, .inl ⟨vs, q1, A1.now S1 fun w2 H2 l2 S2 i => ?_⟩⟩
        simp only [Src.at]
        cases hy : getS w2.μ d with
        | none => exact trivial
        | some ys =>
          obtain ⟨us, q2, rr⟩ := k w2 H2 l2 S2 ys hy
          refine yat_en (us := us) S2 rr (fun h => ⟨us, q2, h⟩) (fun v h => ⟨us, v, q2, h⟩) fun v x H' h y => ?_
          obtain ⟨T, z, h1, h2, h3, h4⟩ := y
          have := h4 us q2
          rw [h] at this
          cases this
          exact ⟨T, h1, h2, h3⟩
      · refine ⟨p, rfl, .inr ⟨vs, q1, A1.now S1 fun w2 H2 l2 S2 i => ?_⟩⟩
        simp only [Src.at]
        cases hy : getS w2.μ d with
        | none => exact trivial
        | some ys =>
          obtain ⟨us, q2, rr⟩ := k w2 H2 l2 S2 ys hy
          refine yat_en (us := us) S2 rr (fun h => ⟨us, q2, h⟩) (fun v h => ⟨us, v, q2, h⟩) fun v x H' h y => ?_
          obtain ⟨T, z, h1, h2, h3, h4⟩ := y
          have := h4 us q2
          rw [h] at this
          cases this
          exact ⟨T, h1, h2, h3⟩
  · exact A1.elim
/-- zip(two lists), zip(two tuples) -/
def iZp (fa fb : EF) : IF := fun σ μ => (fa σ μ).bind fun d μ => (fb σ μ).bind fun e μ => if ((getL μ d).isSome && (getL μ e).isSome) = true ∨ ((getT d).isSome && (getT e).isSome) = true then .ok (.zp d e) μ else .stuck
theorem getL_no {w : Wd} {H : Hp} {d : D} {xs : List D} (h : getT d = some xs) (μ : Store) : getL μ d = none := by
  cases d <;> simp [getT] at h <;> simp [getL, getM]
theorem i_zp {elts : List Expr} {kk : Nat} {tpos : Pos} (hK : X.K = G.K) (hm : X.mg "zip" = none) (ha : DE G X W a fa) (hb : DE G X W b fb) (hg : Gl X "zip" := by rfl) (hs : starEach [a, b] X.env = (false, eval a X.env) :: starEach [b] X.env := by rfl)
    (hs2 : starEach [b] X.env = (false, eval b X.env) :: starEach [] X.env := by rfl) (hpl : (backTo pos (starEach [b] X.env)).any (·.1) = false := by rfl) : DI G X W (.Tuple elts kk tpos) (.Call (.Name "zip" p) [a, b] [] pos) (iZp fa fb) := by
  refine piI (RZ.pi_zipA hg hm (pa_cons ha (pa_cons hb pa_nil hs2) hs) hs hpl) fun σV H R h => ?_
  obtain ⟨σ, w, S, q, A⟩ := h
  refine ⟨σ, w, S, q, (After.bind (R := G.Rep) A).mono fun x H1 ⟨w1, d, l1, S1, rx, A1⟩ => ?_⟩
  refine ⟨σ, w1, S1, q.mono l1, (After.bind (R := G.Rep) A1).mono fun y H2 ⟨w2, e, l2, S2, ry, A2⟩ => ?_⟩
  have rx2 := Rep.mono l2.x _ _ rx
  split at A2
  · rename_i hsm
    rw [hK]
    rcases hsm with hsm | hsm
    · rw [Bool.and_eq_true] at hsm
      obtain ⟨xs, hx⟩ := Option.isSome_iff_exists.mp hsm.1
      obtain ⟨ys, hy⟩ := Option.isSome_iff_exists.mp hsm.2
      obtain ⟨p1, vs, rfl, q1, k1⟩ := getL_kind S2 rx2 hx
      obtain ⟨p2, us, rfl, q2, k2⟩ := getL_kind S2 ry hy
      refine ⟨p1, p2, vs, us, rfl, .inl ⟨q1, q2, A2.now S2 fun w3 H3 l3 S3 i => ?_⟩⟩
      simp only [Src.at]
      cases hx3 : getL w3.μ d with
      | none =>
        have : getT d = none := by
          cases ht : getT d with
          | none => rfl
          | some zs => rw [getL_no (w := w3) (H := H3) ht] at hx; cases hx
        simp only [this]
        exact trivial
      | some xs3 =>
        cases hy3 : getL w3.μ e with
        | none =>
          have : getT e = none := by
            cases ht : getT e with
            | none => rfl
            | some zs => rw [getL_no (w := w3) (H := H3) ht] at hy; cases hy
          simp only [this]
          cases getT d <;> exact trivial
        | some ys3 =>
          obtain ⟨vs3, q3, r3⟩ := k1 w3 H3 l3 S3 xs3 hx3
          obtain ⟨us3, q4, r4⟩ := k2 w3 H3 l3 S3 ys3 hy3
          have W := walk_zip (K := G.K) (a := p1) (b := p2) (xs := vs3) (ys := us3) rfl
          show YldOk G (Itz G.K p1 p2) w3 H3 i (some (pairAt xs3 ys3 i))
          unfold pairAt
          cases e1 : xs3[i]? with
          | none =>
            have hle : vs3.length ≤ i := by rw [← r3.len]; exact List.getElem?_eq_none_iff.mp e1
            exact ⟨vs3, us3, q3, q4, by omega⟩
          | some z =>
            cases e2 : ys3[i]? with
            | none =>
              have hle : us3.length ≤ i := by rw [← r4.len]; exact List.getElem?_eq_none_iff.mp e2
              exact ⟨vs3, us3, q3, q4, by omega⟩
            | some z2 =>
              obtain ⟨v, hv, rv⟩ := r3.get i z e1
              obtain ⟨u, hu, ru⟩ := r4.get i z2 e2
              have hl1 : i < vs3.length := (List.getElem?_eq_some_iff.mp hv).1
              have hl2 : i < us3.length := (List.getElem?_eq_some_iff.mp hu).1
              refine ⟨W.goes i H3 (by omega) ⟨q3, q4⟩, fun x H' y => ?_⟩
              obtain ⟨T, x1, y1, rfl, hT, rfl, h1, h2⟩ := W.yields i H3 x H' (by omega) ⟨q3, q4⟩ y
              have h1 : vs3[i]? = some x1 := h1
              have h2 : us3[i]? = some y1 := h2
              rw [hv] at h1; cases h1
              rw [hu] at h2; cases h2
              obtain ⟨S4, l4⟩ := S3.grow hT (.tup [v, u])
              refine ⟨_, l4, rfl, S4, ?_⟩
              simp only [Cf.Rep, Rep]
              exact ⟨T, _, rfl, upd_same, Reps.cons (Rep.mono l4 _ _ rv) (Reps.cons (Rep.mono l4 _ _ ru) Reps.nil)⟩
    · rw [Bool.and_eq_true] at hsm
      obtain ⟨xs, hx⟩ := Option.isSome_iff_exists.mp hsm.1
      obtain ⟨ys, hy⟩ := Option.isSome_iff_exists.mp hsm.2
      obtain ⟨p1, vs, rfl, q1, r1⟩ := getT_ok S2 rx2 hx
      obtain ⟨p2, us, rfl, q2, r2⟩ := getT_ok S2 ry hy
      refine ⟨p1, p2, vs, us, rfl, .inr ⟨.of q1, .of q2, A2.now S2 fun w3 H3 l3 S3 i => ?_⟩⟩
      simp only [Src.at]
      rw [getL_no (w := w3) (H := H3) hx, getL_no (w := w3) (H := H3) hy, hx, hy]
      obtain ⟨p3, vs3, e3, q3, r3⟩ := getT_ok S3 (Rep.mono l3 _ _ rx2) hx
      obtain ⟨p4, us3, e4, q4, r4⟩ := getT_ok S3 (Rep.mono l3 _ _ ry) hy
      cases e3; cases e4
      show YldOk G (RZ.ItzT G.K p1 p2) w3 H3 i (some (pairAt xs ys i))
      unfold pairAt
      cases e1 : xs[i]? with
      | none =>
        have hle : vs3.length ≤ i := by rw [← r3.len]; exact List.getElem?_eq_none_iff.mp e1
        exact ⟨vs3, us3, .of q3, .of q4, by omega⟩
      | some z =>
        cases e2 : ys[i]? with
        | none =>
          have hle : us3.length ≤ i := by rw [← r4.len]; exact List.getElem?_eq_none_iff.mp e2
          exact ⟨vs3, us3, .of q3, .of q4, by omega⟩
        | some z2 =>
          obtain ⟨v, hv, rv⟩ := r3.get i z e1
          obtain ⟨u, hu, ru⟩ := r4.get i z2 e2
          have hl1 : i < vs3.length := (List.getElem?_eq_some_iff.mp hv).1
          have hl2 : i < us3.length := (List.getElem?_eq_some_iff.mp hu).1
          refine ⟨⟨vs3, us3, v, u, .of q3, .of q4, hv, hu⟩, fun x H' y => ?_⟩
          obtain ⟨T, x1, y1, rfl, hT, rfl, h1, h2⟩ := y
          have h1 := h1 vs3 (.of q3)
          have h2 := h2 us3 (.of q4)
          rw [hv] at h1; cases h1
          rw [hu] at h2; cases h2
          obtain ⟨S4, l4⟩ := S3.grow hT (.tup [v, u])
          refine ⟨_, l4, rfl, S4, ?_⟩
          simp only [Cf.Rep, Rep]
          exact ⟨T, _, rfl, upd_same, Reps.cons (Rep.mono l4 _ _ rv) (Reps.cons (Rep.mono l4 _ _ ru) Reps.nil)⟩
  · exact A2.elim
end
end DL
/-! text DL7 -/
namespace DL
open PySem PySem.Spec PyProof.Rows L2

/-! ### for -/
def loopF (g : TgF) (body : SF) (src : Src) : Nat → Nat → Sg → Store → SR
  | 0, _, _, _ => .stuck
  | k + 1, i, σ, μ => match src.at μ i with
    | none => .stuck
    | some none => .next σ μ
    | some (some d) => match g d σ μ with
      | none => .stuck
      | some σ1 => match body σ1 μ with
        | .next σ2 μ2 => loopF g body src k (i + 1) σ2 μ2
        | .cont σ2 μ2 => loopF g body src k (i + 1) σ2 μ2
        | .brk σ2 μ2 => .next σ2 μ2
        | .ret d μ2 => .ret d μ2
        | .exc c d μ2 => .exc c d μ2
        | .stuck => .stuck
def sFor (fi : IF) (g : TgF) (body : SF) : SF := fun σ μ => sBind (fi σ μ) σ fun src μ => loopF g body src (src.fuel μ + 1) 0 σ μ
section
variable {G : Cf} {X : Cx} {W : XK} {tg a b c e : Expr} {fa fb fe : EF} {ft : BF} {fi : IF} {g : TgF} {body : SF} {pos p : Pos}
theorem s_for {own : List Nat} {bs : List Stmt} (hp : PassesOwn (model X.prog X.w) X.A X.env X.xe) (hc : X.calm = true) (hi : DI G X W tg e fi) (hg : DG G X own tg g) (hb : DSs G X W bs body) (hs : ∀ x, foldedSetIterable e X.env x = pure x := by intro _; rfl) :
    DS G X W (.For tg e bs [] pos) (sFor fi g body) := by
  refine psI (ps_for hp hc hi hg hb hs) fun E σV H h => ?_
  obtain ⟨σ, w, S, R, A⟩ := h
  refine ⟨σ, w, S, R, (AfS.bind (R := fun w src J => SrcOk G J w src) A R).mono fun J H1 ⟨w1, src, l1, S1, ok, R1, A1⟩ => ?_⟩
  refine ⟨fun i m σV H => ∃ σ w, Le w1 w ∧ G.Stw w H ∧ G.RepSt w σ σV ∧ AfS G W E w (loopF g body src m i σ w.μ), ⟨_, σ, w1, Le.refl w1, S1, R1, A1⟩, ?_⟩
  intro i m σV H h
  obtain ⟨σ, w, l, S, R, A⟩ := h
  cases m with
  | zero => exact A.elim
  | succ k =>
    have Y := ok w H l S i
    unfold loopF at A
    cases q : src.at w.μ i with
    | none => rw [q] at A; exact A.elim
    | some o =>
      rw [q] at A Y
      cases o with
      | none => exact .inl ⟨Y, A.now S R⟩
      | some d =>
        refine .inr ⟨Y.1, fun σV' H' => ∃ σ w, Le w1 w ∧ G.Stw w H' ∧ G.RepSt w σ σV' ∧ AfS G W E w (loopF g body src k (i + 1) σ w.μ), fun σV' H' h => ⟨k, Nat.lt_succ_self k, h⟩, fun x H' y => ?_⟩
        obtain ⟨w', l', em, S', rd⟩ := Y.2 x H' y
        cases q2 : g d σ w.μ with
        | none => simp only [q2] at A; exact A.elim
        | some σ1 =>
          simp only [q2] at A
          refine ⟨σ, w', d, S', R.mono l', rd, σ1, by rw [em]; exact q2, fun σV1 R1 _ => ⟨σ1, w', S', R1, ?_⟩⟩
          rw [em]
          cases q3 : body σ1 w.μ with
          | next σ2 μ2 =>
            simp only [q3] at A
            exact fun w2 H2 σV2 e2 l2 s2 r2 => ⟨σ2, w2, l.trans (l'.trans l2), s2, r2, by rw [e2]; exact A.le (l'.trans l2)⟩
          | cont σ2 μ2 =>
            simp only [q3] at A
            exact fun w2 H2 σV2 e2 l2 s2 r2 => ⟨σ2, w2, l.trans (l'.trans l2), s2, r2, by rw [e2]; exact A.le (l'.trans l2)⟩
          | brk σ2 μ2 =>
            simp only [q3] at A
            exact fun w2 H2 σV2 e2 l2 s2 r2 => A w2 H2 σV2 e2 (l'.trans l2) s2 r2
          | ret d μ2 =>
            simp only [q3] at A
            exact fun w2 H2 v e2 l2 s2 r2 => A w2 H2 v e2 (l'.trans l2) s2 r2
          | exc c d μ2 =>
            simp only [q3] at A
            exact fun w2 H2 dd e2 l2 s2 x2 => A w2 H2 dd e2 (l'.trans l2) s2 x2
          | stuck => simp only [q3] at A; exact A.elim

/-! ### while: at most so many turns -/
def loopW (ft : BF) (body : SF) : Nat → Sg → Store → SR
  | 0, _, _ => .stuck
  | k + 1, σ, μ => sBind (ft σ μ) σ fun t μ => if t = true then match body σ μ with
      | .next σ2 μ2 => loopW ft body k σ2 μ2
      | .cont σ2 μ2 => loopW ft body k σ2 μ2
      | .brk σ2 μ2 => .next σ2 μ2
      | .ret d μ2 => .ret d μ2
      | .exc c d μ2 => .exc c d μ2
      | .stuck => .stuck
    else .next σ μ
def sWhile (n : Nat) (ft : BF) (body : SF) : SF := fun σ μ => loopW ft body n σ μ
theorem s_while {bs : List Stmt} (n : Nat) (hp : PassesOwn (model X.prog X.w) X.A X.env X.xe) (ht : DT G X W c ft) (hb : DSs G X W bs body) : DS G X W (.While c bs [] pos) (sWhile n ft body) := by
  refine psI (ps_while hp ht hb) fun E σV H h => ?_
  obtain ⟨σ, w, S, R, A⟩ := h
  refine ⟨fun m σV H => ∃ σ w, G.Stw w H ∧ G.RepSt w σ σV ∧ AfS G W E w (loopW ft body m σ w.μ), ⟨n, σ, w, S, R, A⟩, ?_⟩
  intro m σV H h
  obtain ⟨σ, w, S, R, A⟩ := h
  cases m with
  | zero => exact A.elim
  | succ k =>
    unfold loopW at A
    refine ⟨σ, w, S, R, (AfS.bind (R := RBl) A R).mono fun t H1 ⟨w1, t', l1, S1, e, R1, A1⟩ => ?_⟩
    have e : t' = t := e
    subst e
    cases t' with
    | false => rw [if_neg Bool.false_ne_true] at A1; exact A1.now S1 R1
    | true =>
      rw [if_pos rfl] at A1
      refine ⟨fun σV H => ∃ σ w, G.Stw w H ∧ G.RepSt w σ σV ∧ AfS G W E w (loopW ft body k σ w.μ), fun σV' H' h => ⟨k, Nat.lt_succ_self k, h⟩, σ, w1, S1, R1, ?_⟩
      cases q3 : body σ w1.μ with
      | next σ2 μ2 =>
        simp only [q3] at A1
        exact fun w2 H2 σV2 e2 l2 s2 r2 => ⟨σ2, w2, s2, r2, by rw [e2]; exact A1.le l2⟩
      | cont σ2 μ2 =>
        simp only [q3] at A1
        exact fun w2 H2 σV2 e2 l2 s2 r2 => ⟨σ2, w2, s2, r2, by rw [e2]; exact A1.le l2⟩
      | brk σ2 μ2 => simp only [q3] at A1; exact A1
      | ret d μ2 => simp only [q3] at A1; exact A1
      | exc c d μ2 => simp only [q3] at A1; exact A1
      | stuck => simp only [q3] at A1; exact A1.elim

/-! ### a list made by a comprehension -/
def wipeD (σ : Sg) : List Nat → Sg
  | [] => σ
  | v :: vs => (wipeD σ vs).set v none
theorem wipe_rep {w : Wd} {σ : Sg} {σV : L2.St} (R : G.RepSt w σ σV) : ∀ vs : List Nat, G.RepSt w (wipeD σ vs) (wipe σV vs)
  | [] => R
  | v :: vs => (wipe_rep R vs).unset v none
/-- an exception may not leave -/
def noX {α : Type} : Res α → Res α
  | .exc _ _ _ => .stuck
  | r => r
theorem noX_after {α ρ : Type} {R : Wd → α → ρ → Prop} {Y Y' : Nat → Option D → Wd → Hp → Prop} {w : Wd} {r : Res α} {Q : ρ → Hp → Prop} (h : After G R Y w (noX r) Q) : After G R Y' w r Q := by
  cases r with
  | ok a μ => exact h
  | exc c d μ => exact h.elim
  | stuck => exact h
def loopC (g : TgF) (ft : BF) (fe : EF) (own : List Nat) (src : Src) (σ : Sg) : Nat → Nat → List D → Store → Res (List D)
  | 0, _, _, _ => .stuck
  | k + 1, i, acc, μ => match src.at μ i with
    | none => .stuck
    | some none => .ok acc μ
    | some (some d) => match g d (wipeD σ own) μ with
      | none => .stuck
      | some σ1 => (noX (ft σ1 μ)).bind fun t μ => if t = true then (noX (fe σ1 μ)).bind fun x μ => if acc.length < cap then loopC g ft fe own src σ k (i + 1) (acc ++ [x]) μ else .stuck
        else loopC g ft fe own src σ k (i + 1) acc μ
def fLc (m : Bool) (fi : IF) (g : TgF) (ft : BF) (fe : EF) (own : List Nat) : EF := fun σ μ => (fi σ μ).bind fun src μ => (loopC g ft fe own src σ (src.fuel μ + 1) 0 [] μ).bind fun xs μ => .ok (newL m xs μ).1 (newL m xs μ).2
def tTrue : BF := fun _ μ => .ok true μ
/-- the wish of a block: nothing leaves -/
abbrev W0 : XK := fun _ _ _ => False
theorem ptsI {X : Cx} {e : List Expr} {t t' : TT} (h : PTs X e t) (i : ∀ σ H Q, t' σ H Q → t σ H Q) : PTs X e t' := ⟨fun pins s σ H Q I q => h.run pins s σ H Q I (i σ H Q q)⟩
theorem wipe_wipe (σ : L2.St) (own : List Nat) : wipe (wipe σ own) own = wipe σ own := by
  apply List.ext_getElem?
  intro k
  rw [wipe_get, wipe_get, wipe_length]
  by_cases hk : k ∈ own
  · simp [hk]
  · simp only [if_neg hk]
theorem loopC_noexc (g : TgF) (ft : BF) (fe : EF) (own : List Nat) (src : Src) (σ : Sg) : ∀ (k i : Nat) (acc : List D) (μ : Store) (c : Nat) (d : Option D) (μ' : Store), loopC g ft fe own src σ k i acc μ ≠ .exc c d μ'
  | 0, _, _, _, _, _, _ => by simp [loopC]
  | k + 1, i, acc, μ, c, d, μ' => by
    unfold loopC
    cases src.at μ i with
    | none => simp
    | some o =>
      cases o with
      | none => simp
      | some x =>
        simp only
        cases g x (wipeD σ own) μ with
        | none => simp
        | some σ1 =>
          simp only
          cases ft σ1 μ with
          | ok t μ1 =>
            simp only [noX, Res.bind_ok]
            cases t with
            | false => simp only [Bool.false_eq_true, if_false]; exact loopC_noexc g ft fe own src σ k _ _ _ c d μ'
            | true =>
              simp only [if_true]
              cases fe σ1 μ1 with
              | ok y μ2 =>
                simp only [noX, Res.bind_ok]
                split
                · exact loopC_noexc g ft fe own src σ k _ _ _ c d μ'
                · simp
              | exc _ _ _ => simp [noX]
              | stuck => simp [noX]
          | exc _ _ _ => simp [noX]
          | stuck => simp [noX]
/-- the private objects forgotten down to Z0 -/
abbrev unZ (Z0 : Hp) (w : Wd) : Wd := { w with Z := Z0 }
theorem Stw.unZ {w : Wd} {H : Hp} {Z0 : Hp} (S : G.Stw w H) (h : ∀ b u, Z0 b = some u → w.Z b = some u) : G.Stw (DL.unZ Z0 w) H :=
  ⟨S.ex, fun n o e => ⟨(S.ob n o e).1, RepO.sm (S.ob n o e).2 rfl rfl rfl⟩, S.inj, fun b u e => S.zx b u (h b u e), fun b u e => S.zd b u (h b u e), fun b xs e => S.zt b xs (h b _ e)⟩
theorem LeX.unZ {w w' : Wd} {Z0 : Hp} (l : LeX w w') (e : w.Z = Z0) : Le w (DL.unZ Z0 w') := ⟨l.ex, l.len, l.mm, e.symm⟩
theorem After.stand {α ρ : Type} {R : Wd → α → ρ → Prop} {Y : Nat → Option D → Wd → Hp → Prop} {w w' : Wd} {r : Res α} {Q : ρ → Hp → Prop} (h : After G R Y w r Q) (l : Le w w') : After G R Y w' r Q := h.le l
/-- what holds between two turns of a comprehension whose list is private at L -/
def LcInv (G : Cf) (W : XK) (σV : L2.St) (Q : VK) (m : Bool) (w1 : Wd) (L : Addr) (k : List DL.D → Store → Res (List DL.D)) (H : Hp) : Prop :=
  ∃ (acc : List DL.D) (vs : List V) (w : Wd), LeX w1 w ∧ w.Z = upd w1.Z L (.lst vs) ∧ G.Stw w H ∧ G.Reps w acc vs ∧
    After G G.Rep (XTo G W) (unZ w1.Z w) ((k acc w.μ).bind fun xs μ => .ok (newL m xs μ).1 (newL m xs μ).2) Q
theorem tLc_ok {own : List Nat} {m : Bool} {σV : L2.St} {H : Hp} {Q : VK} (h : tE G W (fLc m fi g ft fe own) σV H Q) : tLc (tI G W fi) (tGt G own g) (tB G W0 ft) (tE G W0 fe) own σV H Q := by
  obtain ⟨σ, w, S, R, A⟩ := h
  refine ⟨σ, w, S, R, (After.bind (R := fun w src J => SrcOk G J w src) A).mono fun J H1 ⟨w1, src, l1, S1, ok, A1⟩ => ?_⟩
  intro L hL
  have R1 := R.mono l1.x
  have hZ : w1.Z L = none := S1.zx.free hL
  have sub : ∀ {w : Wd} {o : HO}, w.Z = upd w1.Z L o → ∀ b u, w1.Z b = some u → w.Z b = some u := fun {w o} e b u h => by
    rw [e, upd_ne (fun z => by rw [z, hZ] at h; cases h)]; exact h
  refine ⟨fun i k H => LcInv G W σV Q m w1 L (fun acc μ => loopC g ft fe own src σ k i acc μ) H, ⟨src.fuel w1.μ + 1, [], [], { w1 with Z := upd w1.Z L (.lst []) }, ⟨Same.refl _, Nat.le_refl _, fun _ _ => rfl⟩, rfl, S1.hide hL _, Reps.nil, A1⟩, ?_⟩
  intro i k H h
  obtain ⟨acc, vs, w, l, ez, S, ra, A⟩ := h
  replace A : After G G.Rep (XTo G W) (unZ w1.Z w) ((loopC g ft fe own src σ k i acc w.μ).bind fun xs μ => .ok (newL m xs μ).1 (newL m xs μ).2) Q := A
  have hZD : w.Z L = some (.lst vs) := by rw [ez, upd_same]
  have hz0 : ∀ b, b ≠ L → w1.Z b = w.Z b := fun b hb => by rw [ez, upd_ne hb]
  cases k with
  | zero => exact A.elim
  | succ k =>
    have Y := ok w H l S i
    unfold loopC at A
    cases q : src.at w.μ i with
    | none => rw [q] at A; exact A.elim
    | some o =>
      rw [q] at A Y
      cases o with
      | none =>
        refine .inl ⟨Y, ?_⟩
        simp only [Res.bind_ok] at A
        unfold newL at A
        split at A
        · have S' := S.unhideL (ob := .lst acc) hZD ⟨vs, rfl, ra⟩ (Z0 := w1.Z) hZ hz0
          refine A ⟨w.μ ++ [.lst acc], fun n => if n = w.μ.length then L else w.m n, w.F, w1.Z⟩ H (.ref L) rfl ⟨Same.refl _, by simp, fun n hn => ?_, rfl⟩ S' ?_
          · show (if n = w.μ.length then L else w.m n) = w.m n
            have hn : n < w.μ.length := hn
            rw [if_neg (by omega)]
          · simp only [Cf.Rep, Rep]
            exact ⟨by simp, by simp⟩
        · have S' := S.unhide hZD (Z0 := w1.Z) hZ hz0
          have hF : w.F L = none := (S.zd L _ hZD).1
          have le' : Le (unZ w1.Z w) { w with F := upd w.F L (.lst vs), Z := w1.Z } := ⟨fun b u h => by show upd w.F L _ b = some u; rw [upd_ne (ne_of_none h hF)]; exact h, Nat.le_refl _, fun _ _ => rfl, rfl⟩
          refine A { w with F := upd w.F L (.lst vs), Z := w1.Z } H (.ref L) rfl le' S' ?_
          simp only [Cf.Rep, Rep]
          exact ⟨L, vs, rfl, upd_same, Reps.mono (w := w) ⟨le'.ex, le'.len, le'.mm⟩ _ _ ra⟩
      | some d =>
        refine .inr ⟨Y.1, LcInv G W σV Q m w1 L (fun acc μ => loopC g ft fe own src σ k (i + 1) acc μ), fun H' h => ⟨k, Nat.lt_succ_self k, h⟩, fun x H' y => ?_⟩
        obtain ⟨w2, l2, em2, S2, rd⟩ := Y.2 x H' y
        have l12 : LeX w1 w2 := l.trans l2
        have ez2 : w2.Z = upd w1.Z L (.lst vs) := l2.z.trans ez
        have A2 : After G G.Rep (XTo G W) (unZ w1.Z w2) _ Q := A.le ⟨l2.ex, l2.len, l2.mm, rfl⟩
        have hn : (unZ w1.Z w).μ = w2.μ := em2.symm
        cases q2 : g d (wipeD σ own) w.μ with
        | none => simp only [q2] at A2; exact A2.elim
        | some σ1 =>
          simp only [q2] at A2
          refine ⟨wipeD σ own, w2, d, S2, wipe_rep (R1.mono l12) own, rd, σ1, by rw [em2]; exact q2, fun σV1 Rσ eσ => ⟨eσ.trans (wipe_wipe σV own), σ1, w2, S2, Rσ, ?_⟩⟩
          rw [← em2] at A2
          -- the test
          cases q3 : ft σ1 w2.μ with
          | exc c d μ => simp only [q3, noX, Res.bind_stuck] at A2; exact A2.elim
          | stuck => simp only [q3, noX, Res.bind_stuck] at A2; exact A2.elim
          | ok t μ3 =>
            simp only [q3, noX, Res.bind_ok] at A2
            intro w3 H3 t' e3 l3 S3 et
            have et : t = t' := et
            subst et
            have ez3 : w3.Z = upd w1.Z L (.lst vs) := l3.z.trans ez2
            have A3 := A2.le (w' := unZ w1.Z w3) ⟨l3.ex, l3.len, l3.mm, rfl⟩
            cases t with
            | false =>
              simp only [Bool.false_eq_true, if_false] at A3 ⊢
              exact ⟨acc, vs, w3, l12.trans l3, ez3, S3, Reps.mono (LeX.trans l2.x l3.x) _ _ ra, by rw [e3]; exact A3⟩
            | true =>
              simp only [if_true] at A3 ⊢
              refine ⟨σ1, w3, S3, Rσ.mono l3, ?_⟩
              rw [e3]
              cases q4 : fe σ1 μ3 with
              | exc c d μ => simp only [q4, noX, Res.bind_stuck] at A3; exact A3.elim
              | stuck => simp only [q4, noX, Res.bind_stuck] at A3; exact A3.elim
              | ok z μ4 =>
                simp only [q4, noX, Res.bind_ok] at A3
                intro w4 H4 v e4 l4 S4 rv
                have ez4 : w4.Z = upd w1.Z L (.lst vs) := l4.z.trans ez3
                have A4 := A3.le (w' := unZ w1.Z w4) ⟨l4.ex, l4.len, l4.mm, rfl⟩
                have hz4 : w4.Z L = some (.lst vs) := by rw [ez4, upd_same]
                have ra4 := Reps.mono (LeX.trans (LeX.trans l2.x l3.x) l4.x) _ _ ra
                split at A4
                · rename_i hlt
                  refine ⟨vs, S4.zx L _ hz4, by rw [← ra.len, ← cap_eq]; exact hlt, ?_⟩
                  have S5 := S4.hput hz4 (.lst (vs ++ [v]))
                  refine ⟨acc ++ [z], vs ++ [v], { w4 with Z := upd w4.Z L (.lst (vs ++ [v])) }, (l12.trans l3).trans ⟨l4.ex, l4.len, l4.mm⟩, by show upd w4.Z L _ = _; rw [ez4, upd_upd], S5, ?_, by show After G G.Rep _ (unZ w1.Z w4) _ Q; rw [e4]; exact A4⟩
                  exact Reps.append (Reps.same (w := w4) (w' := { w4 with Z := upd w4.Z L (.lst (vs ++ [v])) }) rfl rfl rfl _ _ ra4) (Reps.cons (Rep.same (w := w4) (w' := { w4 with Z := upd w4.Z L (.lst (vs ++ [v])) }) rfl rfl rfl _ _ rv) Reps.nil)
                · exact A4.elim
theorem d_lc {elt iter : Expr} {scope : Scope} {ifs : List Expr} {own : List (Str × Nat)} (m : Bool) (hc : X.calm = true) (hN : X.N.Nodup) (hi : DI G X W tg iter fi) (ok : BlkOk X.N X.env.scope scope own)
    (hg : ∀ (s : Shared) (H : Hp) (C : Addr) (cl : List (Str × Addr)) (fp : List Addr), DG G (X.blk s H scope (compEnvC scope cl C X.env) fp) (own.map (·.2)) tg g)
    (ht : ∀ (s : Shared) (H : Hp) (C : Addr) (cl : List (Str × Addr)) (fp : List Addr), PTs (X.blk s H scope (compEnvC scope cl C X.env) fp) ifs (tB G W0 ft))
    (he : ∀ (s : Shared) (H : Hp) (C : Addr) (cl : List (Str × Addr)) (fp : List Addr), DE G (X.blk s H scope (compEnvC scope cl C X.env) fp) W0 elt fe) (hs : ∀ x, foldedSetIterable iter X.env x = pure x := by intro _; rfl) :
    DE G X W (.ListComp elt [⟨tg, iter, ifs, 0⟩] scope pos) (fLc m fi g ft fe (own.map (·.2))) :=
  peI (pe_lc hc hN hi ok hg ht he hs) fun _ _ _ h => tLc_ok h
theorem s_setLc {i : Nat} {y : Str} {py spos : Pos} {elt iter : Expr} {ifs : List Expr} {scope : Scope} {own : List (Str × Nat)} (m : Bool) (hc : X.calm = true) (hN : X.N.Nodup) (hi : DI G X W tg iter fi) (ok : BlkOk X.N X.env.scope scope own)
    (hg : ∀ (s : Shared) (H : Hp) (C : Addr) (cl : List (Str × Addr)) (fp : List Addr), DG G (X.blk s H scope (compEnvC scope cl C X.env) fp) (own.map (·.2)) tg g)
    (ht : ∀ (s : Shared) (H : Hp) (C : Addr) (cl : List (Str × Addr)) (fp : List Addr), PTs (X.blk s H scope (compEnvC scope cl C X.env) fp) ifs (tB G W0 ft))
    (he : ∀ (s : Shared) (H : Hp) (C : Addr) (cl : List (Str × Addr)) (fp : List Addr), DE G (X.blk s H scope (compEnvC scope cl C X.env) fp) W0 elt fe)
    (hy : X.N[i]? = some y := by rfl) (hyl : X.env.scope.names.lookup y = some .local := by rfl)
    (hsw : swapsWith (.ListComp elt [⟨tg, iter, ifs, 0⟩] scope pos) (some (.Name y py)) spos.line X.env = pure true := by exact sw_true rfl rfl rfl (by decide +kernel)) (hs : ∀ x, foldedSetIterable iter X.env x = pure x := by intro _; rfl) :
    DS G X W (.Assign [.Name y py] (.ListComp elt [⟨tg, iter, ifs, 0⟩] scope pos) spos) (sAsg (gN i) (fLc m fi g ft fe (own.map (·.2)))) := by
  refine psI (ps_setLc hc hN hy hyl hsw hi ok hg ht he hs) fun E σV H h => ?_
  obtain ⟨σ, w, S, R, A⟩ := h
  refine tLc_ok (G := G) (m := m) ⟨σ, w, S, R, (AfS.bind (R := G.Rep) A R).mono fun v H1 ⟨w1, d, l, s, r, q, A1⟩ => ?_⟩
  show E.nx (σV.set i (some v)) H1
  exact A1.now s (q.set i r)
/-- the tests of a comprehension -/
theorem ts_nil {Y : Cx} : PTs Y [] (tB G W0 tTrue) := ptsI pts_nil fun σV H Q ⟨σ, w, S, R, A⟩ => A.now S rfl
theorem ts_one {Y : Cx} (h : DT G Y W0 c ft) : PTs Y [c] (tB G W0 ft) := pts_one h
end
end DL
/-! text DL8 -/
namespace DL
open PySem PySem.Spec PyProof.Rows L2

/-! ### what a call leaves: its own mutable objects stand for ever -/
mutual
/-- the mutable objects from n on replaced by what they hold -/
def subW (n : Nat) (look : Nat → Option D) : D → Option D
  | .loc i => if i < n then some (.loc i) else look i
  | .tup xs => (subsW n look xs).map .tup
  | .rt xs => (subsW n look xs).map .rt
  | .lst xs => (subsW n look xs).map .lst
  | .rl xs => (subsW n look xs).map .rl
  | .dK ks xs => (subsW n look xs).map (.dK ks)
  | .dT ks xs => (subsW n look xs).map (.dT ks)
  | .ins C ns xs => (subsW n look xs).map (.ins C ns)
  | .er C f d => (subW n look d).map (.er C f)
  | d => some d
def subsW (n : Nat) (look : Nat → Option D) : List D → Option (List D)
  | [] => some []
  | x :: xs => match subW n look x, subsW n look xs with
    | some y, some ys => some (y :: ys)
    | _, _ => none
end
def subD (n : Nat) (μ : Store) : Nat → D → Option D
  | 0 => subW n fun _ => none
  | k + 1 => subW n fun i => match μ[i]? with
    | some (.lst xs) => (subsW n (lookD n μ k) xs).map .lst
    | some (.dK ks xs) => (subsW n (lookD n μ k) xs).map (.dK ks)
    | some (.dT ks xs) => (subsW n (lookD n μ k) xs).map (.dT ks)
    | some (.ins C ns xs) => (subsW n (lookD n μ k) xs).map (.ins C ns)
    | none => none
where
  lookD (n : Nat) (μ : Store) : Nat → Nat → Option D
  | 0, _ => none
  | k + 1, i => match μ[i]? with
    | some (.lst xs) => (subsW n (lookD n μ k) xs).map .lst
    | some (.dK ks xs) => (subsW n (lookD n μ k) xs).map (.dK ks)
    | some (.dT ks xs) => (subsW n (lookD n μ k) xs).map (.dT ks)
    | some (.ins C ns xs) => (subsW n (lookD n μ k) xs).map (.ins C ns)
    | none => none
abbrev lookD := subD.lookD
/-- depth to which mutable objects are looked through -/
abbrev sealN : Nat := 4
def sealD (n : Nat) (μ : Store) (d : D) : Option D := subW n (lookD n μ sealN) d
def sealO (n : Nat) (μ : Store) : Ob → Option Ob
  | .lst xs => (subsW n (lookD n μ sealN) xs).map .lst
  | .dK ks xs => (subsW n (lookD n μ sealN) xs).map (.dK ks)
  | .dT ks xs => (subsW n (lookD n μ sealN) xs).map (.dT ks)
  | .ins C ns xs => (subsW n (lookD n μ sealN) xs).map (.ins C ns)
def sealS (n : Nat) (μ : Store) : List Ob → Option (List Ob)
  | [] => some []
  | o :: r => match sealO n μ o, sealS n μ r with
    | some p, some q => some (p :: q)
    | _, _ => none
def sealR (n : Nat) (r : Res D) : Res D := match r with
  | .ok d μ => match sealD n μ d, sealS n μ (μ.take n) with
    | some d', some μ' => .ok d' μ'
    | _, _ => .stuck
  | .exc c none μ => match sealS n μ (μ.take n) with
    | some μ' => .exc c none μ'
    | none => .stuck
  | .exc c (some d) μ => match sealD n μ d, sealS n μ (μ.take n) with
    | some d', some μ' => .exc c (some d') μ'
    | _, _ => .stuck
  | .stuck => .stuck
section
variable {K : PySem.W.Frag} {ca : Nat → Addr} {w w2 : Wd} {n : Nat}
/-- w2 is w with the mutable objects from n on standing for ever -/
structure Froze (K : PySem.W.Frag) (ca : Nat → Addr) (n : Nat) (w w2 : Wd) (H : Hp) : Prop where
  lo : ∀ i, i < n → w2.m i = w.m i
  len : n ≤ w2.μ.length
  F : Same w.F w2.F
  hi : ∀ i o, n ≤ i → w.μ[i]? = some o → ∃ ho, H (w.m i) = some ho ∧ w2.F (w.m i) = some ho ∧ RepO K ca w o (some ho)
theorem RepO.some {o : Ob} {h : Option HO} (r : RepO K ca w o h) : ∃ ho, h = some ho ∧ RepO K ca w o (some ho) := by
  cases o with
  | lst xs => obtain ⟨vs, rfl, q⟩ := r; exact ⟨_, rfl, vs, rfl, q⟩
  | dK ks xs => obtain ⟨vs, rfl, q⟩ := r; exact ⟨_, rfl, vs, rfl, q⟩
  | dT ks xs => obtain ⟨vs, rfl, q⟩ := r; exact ⟨_, rfl, vs, rfl, q⟩
  | ins C ns xs => obtain ⟨dx, vs, rfl, q⟩ := r; exact ⟨_, rfl, dx, vs, rfl, q⟩
mutual
theorem subW_ok {look : Nat → Option D} (le : ∀ i, i < n → w2.m i = w.m i) (ll : n ≤ w2.μ.length) (hF : Same w.F w2.F) (hl : ∀ i d v, n ≤ i → look i = some d → Rep K ca w (.loc i) v → Rep K ca w2 d v) : ∀ (d e : D) (v : V), Rep K ca w d v → subW n look d = some e → Rep K ca w2 e v
  | .loc i, e, v, r, h => by
    simp only [subW] at h
    split at h
    · rename_i hi
      cases h
      simp only [Rep] at r ⊢
      exact ⟨Nat.lt_of_lt_of_le hi ll, by rw [le i hi]; exact r.2⟩
    · rename_i hi
      exact hl i e v (Nat.le_of_not_lt hi) h r
  | .tup xs, e, v, r, h => by
    simp only [subW, Option.map_eq_some_iff] at h
    obtain ⟨ys, h, rfl⟩ := h
    simp only [Rep] at r ⊢
    obtain ⟨a, vs, rfl, q, rr⟩ := r
    exact ⟨a, vs, rfl, hF _ _ q, subsW_ok le ll hF hl xs ys vs rr h⟩
  | .rt xs, e, v, r, h => by
    simp only [subW, Option.map_eq_some_iff] at h
    obtain ⟨ys, h, rfl⟩ := h
    simp only [Rep] at r ⊢
    obtain ⟨a, vs, rfl, q, rr⟩ := r
    exact ⟨a, vs, rfl, Same.seqT hF q, subsW_ok le ll hF hl xs ys vs rr h⟩
  | .lst xs, e, v, r, h => by
    simp only [subW, Option.map_eq_some_iff] at h
    obtain ⟨ys, h, rfl⟩ := h
    simp only [Rep] at r ⊢
    obtain ⟨a, vs, rfl, q, rr⟩ := r
    exact ⟨a, vs, rfl, hF _ _ q, subsW_ok le ll hF hl xs ys vs rr h⟩
  | .rl xs, e, v, r, h => by
    simp only [subW, Option.map_eq_some_iff] at h
    obtain ⟨ys, h, rfl⟩ := h
    simp only [Rep] at r ⊢
    obtain ⟨a, vs, rfl, q, rr⟩ := r
    exact ⟨a, vs, rfl, hF.seq q, subsW_ok le ll hF hl xs ys vs rr h⟩
  | .dK ks xs, e, v, r, h => by
    simp only [subW, Option.map_eq_some_iff] at h
    obtain ⟨ys, h, rfl⟩ := h
    simp only [Rep] at r ⊢
    obtain ⟨a, vs, rfl, q, z, rr⟩ := r
    exact ⟨a, vs, rfl, Same.rd hF q, z, subsW_ok le ll hF hl xs ys vs rr h⟩
  | .dT ks xs, e, v, r, h => by
    simp only [subW, Option.map_eq_some_iff] at h
    obtain ⟨ys, h, rfl⟩ := h
    simp only [Rep] at r ⊢
    obtain ⟨a, vs, rfl, q, z, rr⟩ := r
    exact ⟨a, vs, rfl, Same.rd hF q, z, subsW_ok le ll hF hl xs ys vs rr h⟩
  | .ins C ns xs, e, v, r, h => by
    simp only [subW, Option.map_eq_some_iff] at h
    obtain ⟨ys, h, rfl⟩ := h
    simp only [Rep] at r ⊢
    obtain ⟨a, dx, vs, rfl, q, z, rr⟩ := r
    exact ⟨a, dx, vs, rfl, hF _ _ q, z, subsW_ok le ll hF hl xs ys vs rr h⟩
  | .er C f d, e, v, r, h => by
    simp only [subW, Option.map_eq_some_iff] at h
    obtain ⟨y, h, rfl⟩ := h
    simp only [Rep] at r ⊢
    obtain ⟨a, dx, u, rfl, q, z, rr⟩ := r
    exact ⟨a, dx, u, rfl, hF _ _ q, hF _ _ z, subW_ok le ll hF hl d y u rr h⟩
  | .non, e, v, r, h => by simp only [subW, Option.some.injEq] at h; subst h; simp only [Rep] at r ⊢; exact r
  | .bl _, e, v, r, h => by simp only [subW, Option.some.injEq] at h; subst h; simp only [Rep] at r ⊢; exact r
  | .int _, e, v, r, h => by simp only [subW, Option.some.injEq] at h; subst h; simp only [Rep] at r ⊢; exact r
  | .str _, e, v, r, h => by simp only [subW, Option.some.injEq] at h; subst h; simp only [Rep] at r ⊢; exact r
  | .ty _, e, v, r, h => by simp only [subW, Option.some.injEq] at h; subst h; simp only [Rep] at r ⊢; exact r
  | .ref _, e, v, r, h => by simp only [subW, Option.some.injEq] at h; subst h; simp only [Rep] at r ⊢; exact r
  | .cls _, e, v, r, h => by simp only [subW, Option.some.injEq] at h; subst h; simp only [Rep] at r ⊢; exact r
theorem subsW_ok {look : Nat → Option D} (le : ∀ i, i < n → w2.m i = w.m i) (ll : n ≤ w2.μ.length) (hF : Same w.F w2.F) (hl : ∀ i d v, n ≤ i → look i = some d → Rep K ca w (.loc i) v → Rep K ca w2 d v) : ∀ (ds es : List D) (vs : List V), Reps K ca w ds vs → subsW n look ds = some es → Reps K ca w2 es vs
  | [], es, vs, r, h => by simp only [subsW, Option.some.injEq] at h; subst h; simp only [Reps] at r ⊢; exact r
  | x :: xs, es, vs, r, h => by
    simp only [subsW] at h
    split at h
    · rename_i y ys h1 h2
      cases h
      simp only [Reps] at r ⊢
      obtain ⟨v, us, rfl, rv, rr⟩ := r
      exact ⟨v, us, rfl, subW_ok le ll hF hl x y v rv h1, subsW_ok le ll hF hl xs ys us rr h2⟩
    · cases h
end
theorem lookD_ok {H : Hp} (Z : Froze K ca n w w2 H) : ∀ (k i : Nat) (d : D) (v : V), n ≤ i → lookD n w.μ k i = some d → Rep K ca w (.loc i) v → Rep K ca w2 d v
  | 0, i, d, v, hi, h, r => by simp [lookD, subD.lookD] at h
  | k + 1, i, d, v, hi, h, r => by
    simp only [Rep] at r
    obtain ⟨hlt, rfl⟩ := r
    simp only [lookD, subD.lookD] at h
    split at h
    · rename_i xs e
      simp only [Option.map_eq_some_iff] at h
      obtain ⟨ys, h, rfl⟩ := h
      obtain ⟨ho, h1, h2, vs, e1, rr⟩ := Z.hi i _ hi e
      cases e1
      simp only [Rep]
      exact ⟨_, vs, rfl, h2, subsW_ok Z.lo Z.len Z.F (lookD_ok Z k) xs ys vs rr h⟩
    · rename_i ks xs e
      simp only [Option.map_eq_some_iff] at h
      obtain ⟨ys, h, rfl⟩ := h
      obtain ⟨ho, h1, h2, vs, e1, z, rr⟩ := Z.hi i _ hi e
      cases e1
      simp only [Rep]
      exact ⟨_, vs, rfl, .inl h2, z, subsW_ok Z.lo Z.len Z.F (lookD_ok Z k) xs ys vs rr h⟩
    · rename_i ks xs e
      simp only [Option.map_eq_some_iff] at h
      obtain ⟨ys, h, rfl⟩ := h
      obtain ⟨ho, h1, h2, vs, e1, z, rr⟩ := Z.hi i _ hi e
      cases e1
      simp only [Rep]
      exact ⟨_, vs, rfl, .inl h2, z, subsW_ok Z.lo Z.len Z.F (lookD_ok Z k) xs ys vs rr h⟩
    · rename_i C ns xs e
      simp only [Option.map_eq_some_iff] at h
      obtain ⟨ys, h, rfl⟩ := h
      obtain ⟨ho, h1, h2, dx, vs, e1, z, rr⟩ := Z.hi i _ hi e
      cases e1
      simp only [Rep]
      exact ⟨_, dx, vs, rfl, h2, z, subsW_ok Z.lo Z.len Z.F (lookD_ok Z k) xs ys vs rr h⟩
    · cases h
theorem sealD_ok {H : Hp} (Z : Froze K ca n w w2 H) {d e : D} {v : V} (r : Rep K ca w d v) (h : sealD n w.μ d = some e) : Rep K ca w2 e v := subW_ok Z.lo Z.len Z.F (lookD_ok Z _) d e v r h
theorem sealO_ok {H : Hp} (Z : Froze K ca n w w2 H) {o p : Ob} {h : Option HO} (r : RepO K ca w o h) (e : sealO n w.μ o = some p) : RepO K ca w2 p h := by
  cases o with
  | lst xs =>
    simp only [sealO, Option.map_eq_some_iff] at e
    obtain ⟨ys, e, rfl⟩ := e
    obtain ⟨vs, rfl, q⟩ := r
    exact ⟨vs, rfl, subsW_ok Z.lo Z.len Z.F (lookD_ok Z _) xs ys vs q e⟩
  | dK ks xs =>
    simp only [sealO, Option.map_eq_some_iff] at e
    obtain ⟨ys, e, rfl⟩ := e
    obtain ⟨vs, rfl, z, q⟩ := r
    exact ⟨vs, rfl, z, subsW_ok Z.lo Z.len Z.F (lookD_ok Z _) xs ys vs q e⟩
  | dT ks xs =>
    simp only [sealO, Option.map_eq_some_iff] at e
    obtain ⟨ys, e, rfl⟩ := e
    obtain ⟨vs, rfl, z, q⟩ := r
    exact ⟨vs, rfl, z, subsW_ok Z.lo Z.len Z.F (lookD_ok Z _) xs ys vs q e⟩
  | ins C ns xs =>
    simp only [sealO, Option.map_eq_some_iff] at e
    obtain ⟨ys, e, rfl⟩ := e
    obtain ⟨dx, vs, rfl, z, q⟩ := r
    exact ⟨dx, vs, rfl, z, subsW_ok Z.lo Z.len Z.F (lookD_ok Z _) xs ys vs q e⟩
theorem sealS_get {n : Nat} {μ : Store} : ∀ {l l' : List Ob}, sealS n μ l = some l' → l'.length = l.length ∧ ∀ (i : Nat) (p : Ob), l'[i]? = some p → ∃ o, l[i]? = some o ∧ sealO n μ o = some p
  | [], l', h => by simp only [sealS, Option.some.injEq] at h; subst h; exact ⟨rfl, fun i p e => by simp at e⟩
  | o :: r, l', h => by
    simp only [sealS] at h
    split at h
    · rename_i p q h1 h2
      cases h
      obtain ⟨a, b⟩ := sealS_get h2
      refine ⟨by simp [a], fun i x e => ?_⟩
      cases i with
      | zero => simp at e; subst e; exact ⟨o, by simp, h1⟩
      | succ i => simpa using b i x (by simpa using e)
    · cases h
open Classical in
theorem seal_world {H : Hp} {w0 : Wd} (S : Stw K ca w H) (l : Le w0 w) {μ' : Store} (h : sealS w0.μ.length w.μ (w.μ.take w0.μ.length) = some μ') :
    ∃ w2 : Wd, w2.μ = μ' ∧ Le w0 w2 ∧ Stw K ca w2 H ∧ Froze K ca w0.μ.length w w2 H := by
  obtain ⟨hlen, hget⟩ := sealS_get h
  have hl : μ'.length = w0.μ.length := by rw [hlen, List.length_take]; have := l.len; omega
  let F2 : Hp := fun a => if ∃ i, w0.μ.length ≤ i ∧ i < w.μ.length ∧ w.m i = a then H a else w.F a
  have hF : Same w.F F2 := fun a o e => by
    show (if ∃ i, w0.μ.length ≤ i ∧ i < w.μ.length ∧ w.m i = a then H a else w.F a) = some o
    split
    · exact S.ex a o e
    · exact e
  have Z : Froze K ca w0.μ.length w ⟨μ', w.m, F2, w.Z⟩ H := by
    refine ⟨fun _ _ => rfl, by show w0.μ.length ≤ μ'.length; omega, hF, fun i o hi e => ?_⟩
    have hlt := (List.getElem?_eq_some_iff.mp e).1
    obtain ⟨ho, h1, h2⟩ := (S.ob i o e).2.some
    refine ⟨ho, h1, ?_, h2⟩
    show (if ∃ j, w0.μ.length ≤ j ∧ j < w.μ.length ∧ w.m j = w.m i then H (w.m i) else w.F (w.m i)) = some ho
    rw [if_pos ⟨i, hi, hlt, rfl⟩, h1]
  refine ⟨⟨μ', w.m, F2, w.Z⟩, rfl, ⟨l.ex.trans hF, by show w0.μ.length ≤ μ'.length; omega, l.mm, l.z⟩, ⟨fun a o e => ?_, fun i p e => ?_, fun i j hi hj e => ?_, S.zx, fun a o e => ?_, S.zt⟩, Z⟩
  · have e : (if ∃ i, w0.μ.length ≤ i ∧ i < w.μ.length ∧ w.m i = a then H a else w.F a) = some o := e
    split at e
    · exact e
    · exact S.ex a o e
  · obtain ⟨o, h1, h2⟩ := hget i p e
    have hi : i < w0.μ.length := by
      have := (List.getElem?_eq_some_iff.mp e).1
      have e2 : i < μ'.length := this
      omega
    rw [List.getElem?_take, if_pos hi] at h1
    obtain ⟨q1, q2⟩ := S.ob i o h1
    have hiw := (List.getElem?_eq_some_iff.mp h1).1
    refine ⟨?_, sealO_ok Z q2 h2⟩
    show (if ∃ j, w0.μ.length ≤ j ∧ j < w.μ.length ∧ w.m j = w.m i then H (w.m i) else w.F (w.m i)) = none
    rw [if_neg (fun ⟨j, a, b, c⟩ => by have := S.inj j i b hiw c; omega)]
    exact q1
  · have hi : i < μ'.length := hi
    have hj : j < μ'.length := hj
    have := l.len
    exact S.inj i j (by omega) (by omega) e
  · obtain ⟨z1, z2⟩ := S.zd a o e
    refine ⟨?_, fun i hi => ?_⟩
    · show (if ∃ j, w0.μ.length ≤ j ∧ j < w.μ.length ∧ w.m j = a then H a else w.F a) = none
      rw [if_neg (fun ⟨j, x, y, c⟩ => z2 j y c)]
      exact z1
    · have hi : i < μ'.length := hi
      have := l.len
      exact z2 i (by omega)
end
section
variable {G : Cf} {w : Wd} {r : Res D} {Q : VK} {W : XK}
theorem seal_after (h : After G G.Rep (XTo G W) w (sealR w.μ.length r) Q) : After G G.Rep (XTo G W) w r Q := by
  cases r with
  | stuck => exact h
  | ok d μ =>
    intro w' H' v e l S rv
    subst e
    simp only [sealR] at h
    split at h
    · rename_i d' μ' h1 h2
      obtain ⟨w2, e2, l2, S2, Z⟩ := seal_world S l h2
      exact h w2 H' v e2 l2 S2 (sealD_ok Z rv h1)
    · exact h.elim
  | exc c d μ =>
    intro w' H' e l S dd xv
    subst e
    cases d with
    | none =>
      simp only [sealR] at h
      split at h
      · rename_i μ' h2
        obtain ⟨w2, e2, l2, S2, Z⟩ := seal_world S l h2
        exact h w2 H' e2 l2 S2 dd trivial
      · exact h.elim
    | some d =>
      simp only [sealR] at h
      split at h
      · rename_i d' μ' h1 h2
        obtain ⟨w2, e2, l2, S2, Z⟩ := seal_world S l h2
        obtain ⟨p, v, f, rfl, hf, hp, rv⟩ := xv
        exact h w2 H' e2 l2 S2 _ ⟨p, v, f, rfl, hf, hp, sealD_ok Z rv h1⟩
      · exact h.elim
end
end DL
/-! text DLG -/
/-! The library's rules of defs and calls, told once more for a context in which no repr is under way (A.guards = some []). -/
namespace L2
open PySem PySem.Spec PyProof.Rows
structure FnOg (P : Program) (w : World) (K : PySem.W.Frag) (mg : Str → Option Value) (base : Heap) (CX : CXT) (k : Nat) (f : Addr) (fd : FuncData) (ps : List Str) (sp : Sp) : Prop where
  len : ∀ vs H Q E, sp vs H Q E → vs.length = ps.length
  run : ∀ (A : Around) (outer : List Env) (s : Shared) (H : Hp) (args : Args) (ua : List Value) (vs : List V) (Q : VK) (E : XK), A.guards = some [] → Room k A → Env0 P w K mg base A outer s H →
    BindsTo s fd args (ps.zip ua) → Vals vs ua → sp vs H Q E → codeAny (model P w) A (.call (.ref f) args) (CR CX outer P w H s Q E) s
theorem FnOk.og {P : Program} {w : World} {K : PySem.W.Frag} {mg : Str → Option Value} {base : Heap} {CX : CXT} {k : Nat} {f : Addr} {fd : FuncData} {ps : List Str} {sp : Sp} (F : FnOk P w K mg base CX k f fd ps sp) : FnOg P w K mg base CX k f fd ps sp :=
  ⟨F.len, fun A o s H a ua vs Q E _ => F.run A o s H a ua vs Q E⟩
theorem deeper_gd {A : Around} {env : Env} (h : A.guards = some []) : (A.deeper env).guards = some [] := h
theorem make_gd {A : Around} {C : Addr} {us : List Value} {kw : List (Str × Value)} (h : A.guards = some []) : (A.under (.builtin "type.__call__" ⟨.ref C :: us, kw⟩)).guards = some [] := by
  simp [Around.under, h, Code.guards, Code.isGuard, pushGuards]
  rw [if_neg (by decide +kernel)]

theorem fn_og {CX : CXT} {P : Program} {w : World} {K : PySem.W.Frag} {mg : Str → Option Value} {base : Heap} {k : Nat} {f : Addr} {name qual : Str} {params : Arguments} {body : List Stmt} {scope : Scope} {dV kV doc pm cdv ct oc : Value} {an od : Option Addr}
    {osl : Array (Option Value)} {N ps : List Str} {sp : Sp} (lk : K.lookup f = some ⟨oc, od, .func (PySem.W.fnOf name qual params body scope dV kV doc pm an cdv ct), osl⟩) (hcd : PySem.W.codeIn K cdv qual = true) (S : FnScope N ps scope)
    (len : ∀ vs H Q E, sp vs H Q E → vs.length = ps.length)
    (hbody : ∀ (A : Around) (outer : List Env) (s : Shared) (H : Hp) (vs : List V) (Q : VK) (E : XK), A.guards = some [] → Room k (A.deeper (envOfC qual scope s.heap.objs.size f cdv)) → sp vs H Q E →
      ∃ t, PSs (cxOf CX P w K mg base N qual scope f cdv A outer s H E) body t ∧ t { nx := fun _ H' => Q .non H', rt := Q } (start N vs) H) :
    FnOg P w K mg base CX (k + 1) f (PySem.W.fnOf name qual params body scope dV kV doc pm an cdv ct) ps sp := by
  refine ⟨len, fun A outer s H args ua vs Q E gd rm e0 hb r hsp => ?_⟩
  have hl0 := len _ _ _ _ hsp
  have kx : K.In s.heap := e0.mod.kin.keeps fun b o e => (e0.bs b o e).1
  have lm : s.heap.NoLimit := e0.mod.nolimit.keeps fun b o e => (e0.bs b o e).1
  have hki : ∀ y ∈ ps.zip ua, scope.names.lookup y.1 = some .local ∨ (scope.names.lookup y.1 = some .cell ∧ ((cellsFrom (s.heap.objs.size + 1) scope.names []).lookup y.1).isSome = true) := fun ⟨n, v⟩ hy => by
    rcases S.par n (List.of_mem_zip hy).1 with q | q
    · exact .inl q
    · exact .inr ⟨q, PySem.W.cellsFrom_some _ _ _ (.inl q)⟩
  refine codeAny_call_function rm.depth (kx _ _ lk) rfl S.co S.gen rfl (PySem.W.codeRec_of kx hcd) (hb _ _ _ _ ?_)
  refine wpAny_newFunctionEnv_cells S.kind hki fun env he s1 x => ?_
  subst he
  refine ⟨lm.keeps x.toInCall.keep, codeAny_func ?_⟩
  obtain ⟨t, ht, qh⟩ := hbody A outer s H vs Q E gd (rm.deeper _) hsp
  have I : Inv (cxOf CX P w K mg base N qual scope f cdv A outer s H E) [] (start N vs) H s1 := inv_start S rm.hd e0 hl0 r x
  refine wpAny_mono (ht.run [] s1 (start N vs) H _ I qh) (fun fl s' hs => ?_) fun e s' hs => hs
  have fin : ∀ {σ' : St} {H' : Hp} {v : V} {u : Value}, Inv (cxOf CX P w K mg base N qual scope f cdv A outer s H E) [] σ' H' s' → RelV v u → Q v H' → CE outer P w H s Q u s' :=
    fun {σ' H' v u} J rv q => ⟨v, H', J.os, J.bare, J.base, J.hok, rv, q⟩
  cases fl with
  | ret u =>
    obtain ⟨v, σ', H', J, rv, q⟩ := hs
    exact fin J rv q
  | next =>
    obtain ⟨σ', H', J, q⟩ := hs
    exact fin (v := V.non) (u := Value.none) J rfl q
  | brk =>
    obtain ⟨_, _, _, q⟩ := hs
    exact False.elim q
  | cont =>
    obtain ⟨_, _, _, q⟩ := hs
    exact False.elim q
theorem Fun.okG {P : Program} {w : World} {K : PySem.W.Frag} {mg : Str → Option Value} {base : Heap} {x qual : Str} {st : Stmt} {f : Addr} {fd : FuncData} {N ps : List Str} {k : Nat} {sp : Sp} (F : Fun K x qual st f fd) (S : FnScope N ps (defScope st))
    (len : ∀ vs H Q E, sp vs H Q E → vs.length = ps.length)
    (hbody : ∀ (cdv : Value) (A : Around) (outer : List Env) (s : Shared) (H : Hp) (vs : List V) (Q : VK) (E : XK), A.guards = some [] → Room k (A.deeper (envOfC qual (defScope st) s.heap.objs.size f cdv)) → sp vs H Q E →
      ∃ t, PSs (cxOf (L2.CX P w) P w K mg base N qual (defScope st) f cdv A outer s H E) (defBody st) t ∧ t { nx := fun _ H' => Q .non H', rt := Q } (start N vs) H) : FnOg P w K mg base (L2.CX P w) (k + 1) f fd ps sp := by
  obtain ⟨oc, od, kV, doc, pm, an, cdv, ct, osl, rfl, lk, cr⟩ := F.ex
  exact fn_og lk cr S len fun A outer s H vs Q E gd rm hsp => hbody cdv A outer s H vs Q E gd rm hsp
section
variable {X : Cx} {CX : CXT} {k : Nat} {f C : Addr} {fd : FuncData} {ps : List Str} {sp : Sp} {dvs : List V} {ds : List Value} {E : XK} {x m : Str} {p pos apos : Pos} {e o : Expr} {es : List Expr} {ta : TE} {t : TA}
theorem run_fn_g {pn : List (Addr × Obj)} {σ : St} {H : Hp} {s : Shared} {Q : VK} {ua : List Value} {vs : List V} (F : FnOg X.prog X.w X.K X.mg X.base CX k f fd ps sp) (gd : X.A.guards = some []) (rm : Room k X.A) (hb : Binds X.K fd ps ds) (hd : Vals dvs ds) (px : Passes CX X E)
    (I : Inv X pn σ H s) (r : Vals vs ua) (h : sp (vs ++ dvs) H Q E) : wpAny (model X.prog X.w) X.A (call (.ref f) ua) (EP X pn σ Q) X.xe s := by
  have rr : Vals (vs ++ dvs) (ua ++ ds) := r.append hd
  have hl : (ua ++ ds).length = ps.length := by rw [← rr.length]; exact F.len _ _ _ _ h
  refine wpAny_call (codeAny_mono (F.run X.A X.stack s H ⟨ua, []⟩ (ua ++ ds) (vs ++ dvs) Q E gd rm I.env0 (hb s ua I.kIn hl) rr h) fun r s' qh => ?_)
  cases r with
  | error e => exact px pn σ H s e s' I qh
  | ok fl =>
    cases fl with
    | ret u => exact I.after qh
    | next => exact False.elim qh
    | brk => exact False.elim qh
    | cont => exact False.elim qh
theorem pe_call_g (F : FnOg X.prog X.w X.K X.mg X.base CX k f fd ps sp) (gd : X.A.guards = some []) (rm : Room k X.A) (hg : Gl X x) (hm : X.mg x = some (.ref f)) (hk : PySem.W.keepIn X.K (.ref f) = true) (hb : Binds X.K fd ps ds) (hd : Vals dvs ds) (px : Passes CX X E)
    (ha : PA X (e :: es) t) (hd0 : (x == ("__debug__" : Str)) = false := by decide) (he : starEach (e :: es) X.env = (false, eval e X.env) :: starEach es X.env := by rfl) (hp0 : (backTo pos (starEach es X.env)).any (·.1) = false := by rfl) :
    PE X (.Call (.Name x p) (e :: es) [] pos) (tCall sp dvs E t) := by
  refine ⟨fun pn s σ H Q I h => ?_⟩
  refine wpAny_Call_Name_kw (ld_glob I hg hm ?_ hd0)
  refine PySem.W.callWith_K (h₀ := X.base) I.ok.mod.kin hk (thn (ha.run pos pn s σ H _ I h) fun ua s1 ⟨vs, H1, J1, r, q⟩ => ⟨J1.kIn, ?_⟩) he hp0
  exact run_fn_g F gd rm hb hd px J1 r q
theorem pe_call0_g (F : FnOg X.prog X.w X.K X.mg X.base CX k f fd ps sp) (gd : X.A.guards = some []) (rm : Room k X.A) (hg : Gl X x) (hm : X.mg x = some (.ref f)) (hk : PySem.W.keepIn X.K (.ref f) = true) (hb : Binds X.K fd ps ds) (hd : Vals dvs ds) (px : Passes CX X E)
    (hd0 : (x == ("__debug__" : Str)) = false := by decide) : PE X (.Call (.Name x p) [] [] pos) (tCall sp dvs E tNil) := by
  refine ⟨fun pn s σ H Q I h => ?_⟩
  refine wpAny_Call_Name_kw (ld_glob I hg hm ?_ hd0)
  exact PySem.W.callWith_K0 I.kIn hk (run_fn_g (ua := []) F gd rm hb hd px I .nil h)
theorem pe_meth_g {pl : Sem Bool} (he : PE X o ta) (c : Cls X.K C) (hm : Meth X.K C m f) (F : FnOg X.prog X.w X.K X.mg X.base CX k f fd ps sp) (gd : X.A.guards = some []) (rm : Room k X.A) (hb : Binds X.K fd ps ds) (hd : Vals dvs ds) (px : Passes CX X E) (ha : PA X (e :: es) t)
    (hs0 : starEach (e :: es) X.env = (false, eval e X.env) :: starEach es X.env := by rfl) (hp0 : (backTo pos (starEach es X.env)).any (·.1) = false := by rfl)
    (ht : eval (.Call (.Attribute o m apos) (e :: es) [] pos) X.env = (do
      let ov ← eval o X.env
      standAt apos.atName
      let (f, first) ← holding [ov] (getMethod ov m pl)
      callWith pos f first (backTo pos (starEach (e :: es) X.env)) (backToKw pos (keywordEach [] X.env))) := by rfl) :
    PE X (.Call (.Attribute o m apos) (e :: es) [] pos) (tMeth C m sp dvs E ta t) := by
  refine ⟨fun pn s σ H Q I h => ?_⟩
  refine PySem.W.methodCall_KW (pl := pl) (thn (he.run pn s σ H _ I h) fun u s1 ⟨x, H1, J1, rx, a, dx, fs, ex, ea, l, q⟩ => ?_) ht
  subst ex
  obtain rfl : u = Value.ref a := rx
  refine getmeth_ok J1 ea c hm l ?_
  refine PySem.W.callWith_K (first := [.ref a]) (h₀ := X.base) I.ok.mod.kin hm.kp (thn (ha.run pos pn s1 σ H1 _ J1 q) fun ua t2 ⟨vs, H2, J2, r, qq⟩ => ⟨J2.kIn, ?_⟩) hs0 hp0
  exact run_fn_g (ua := .ref a :: ua) (vs := .ref a :: vs) F gd rm hb hd px J2 (.cons rfl r) qq
theorem pe_meth0_g {pl : Sem Bool} (he : PE X o ta) (c : Cls X.K C) (hm : Meth X.K C m f) (F : FnOg X.prog X.w X.K X.mg X.base CX k f fd ps sp) (gd : X.A.guards = some []) (rm : Room k X.A) (hb : Binds X.K fd ps ds) (hd : Vals dvs ds) (px : Passes CX X E)
    (ht : eval (.Call (.Attribute o m apos) [] [] pos) X.env = (do
      let ov ← eval o X.env
      standAt apos.atName
      let (f, first) ← holding [ov] (getMethod ov m pl)
      callWith pos f first (backTo pos (starEach [] X.env)) (backToKw pos (keywordEach [] X.env))) := by rfl) :
    PE X (.Call (.Attribute o m apos) [] [] pos) (tMeth C m sp dvs E ta tNil) := by
  refine ⟨fun pn s σ H Q I h => ?_⟩
  refine PySem.W.methodCall_KW (pl := pl) (thn (he.run pn s σ H _ I h) fun u s1 ⟨x, H1, J1, rx, a, dx, fs, ex, ea, l, q⟩ => ?_) ht
  subst ex
  obtain rfl : u = Value.ref a := rx
  refine getmeth_ok J1 ea c hm l ?_
  exact PySem.W.callWith_K0 (first := [.ref a]) J1.kIn hm.kp (run_fn_g (ua := [.ref a]) (vs := [.ref a]) F gd rm hb hd px J1 (.cons rfl .nil) q)
theorem run_make_g {pn : List (Addr × Obj)} {σ : St} {H : Hp} {s : Shared} {Q : VK} {ua : List Value} {vs : List V} (M : Mk X.K C f) (F : FnOg X.prog X.w X.K X.mg X.base CX k f fd ps sp) (gd : X.A.guards = some []) (rm : Room (k + 1) X.A) (hb : Binds X.K fd ps ds) (hd : Vals dvs ds)
    (px : Passes CX X E) (I : Inv X pn σ H s) (r : Vals vs ua)
    (h : ∀ x dx, H x = none → H dx = none → dx ≠ x → sp (.ref x :: (vs ++ dvs)) (upd (upd H dx (.own x)) x (.ins C dx [])) (fun v H2 => v = .non ∧ Q (.ref x) H2) E) :
    wpAny (model X.prog X.w) X.A (call (.ref C) ua) (EP X pn σ Q) X.xe s := by
  have qh := h (s.heap.objs.size + 1) s.heap.objs.size (I.hok.fresh (Nat.le_succ _)) (I.hok.fresh (Nat.le_refl _)) (Nat.ne_of_lt (Nat.lt_succ_self _))
  have J2 := Inv.made (C := C) I
  have rr : Vals (V.ref (s.heap.objs.size + 1) :: (vs ++ dvs)) (Value.ref (s.heap.objs.size + 1) :: (ua ++ ds)) := .cons rfl (r.append hd)
  have hl : (Value.ref (s.heap.objs.size + 1) :: ua ++ ds).length = ps.length := by
    have e := rr.length
    rw [F.len _ _ _ _ qh] at e
    exact e.symm
  refine wpAny_call (make_map (f := f) I.kIn M.makes M.init (beq_iff_eq.mp M.fn) (codeAny_mono (F.run _ X.stack _ _ ⟨Value.ref (s.heap.objs.size + 1) :: ua, []⟩ (Value.ref (s.heap.objs.size + 1) :: (ua ++ ds)) _ _ E (make_gd gd) (rm.make C ua [])
    (J2.env0.make C ua []) (hb _ (Value.ref (s.heap.objs.size + 1) :: ua) J2.kIn hl) rr qh) fun r s' qz => ?_))
  cases r with
  | error e => exact px pn σ _ _ e s' J2 qz
  | ok fl =>
    cases fl with
    | ret u =>
      obtain ⟨v, H', I3, rv, ev, q3⟩ := J2.after qz
      subst ev
      exact ⟨rv, ⟨V.ref (s.heap.objs.size + 1), H', I3, rfl, q3⟩⟩
    | next => exact False.elim qz
    | brk => exact False.elim qz
    | cont => exact False.elim qz
theorem pe_make_g (M : Mk X.K C f) (F : FnOg X.prog X.w X.K X.mg X.base CX k f fd ps sp) (gd : X.A.guards = some []) (rm : Room (k + 1) X.A) (hg : Gl X x) (hm : X.mg x = some (.ref C)) (hb : Binds X.K fd ps ds) (hd : Vals dvs ds) (px : Passes CX X E)
    (ha : PA X (e :: es) t) (hd0 : (x == ("__debug__" : Str)) = false := by decide) (he : starEach (e :: es) X.env = (false, eval e X.env) :: starEach es X.env := by rfl) (hp0 : (backTo pos (starEach es X.env)).any (·.1) = false := by rfl) :
    PE X (.Call (.Name x p) (e :: es) [] pos) (tMake C sp dvs E t) := by
  refine ⟨fun pn s σ H Q I h => ?_⟩
  refine wpAny_Call_Name_kw (ld_glob I hg hm ?_ hd0)
  refine PySem.W.callWith_K (h₀ := X.base) I.ok.mod.kin M.kp (thn (ha.run pos pn s σ H _ I h) fun ua s1 ⟨vs, H1, J1, r, q⟩ => ⟨J1.kIn, ?_⟩) he hp0
  exact run_make_g M F gd rm hb hd px J1 r q
end
section
variable {X : Cx} {CX : CXT} {k n : Nat} {f C : Addr} {fd : FuncData} {ps ks : List Str} {sp : Sp} {E : XK} {x : Str} {p pos : Pos} {e : Expr} {es : List Expr} {kws : List Keyword} {t tk : TA} {g : List Value → List Value → List Value} {gV : List V → List V → List V}
theorem run_fnN_g {pn : List (Addr × Obj)} {σ : St} {H : Hp} {s : Shared} {Q : VK} {ua wa : List Value} {vs za : List V} (F : FnOg X.prog X.w X.K X.mg X.base CX k f fd ps sp) (gd : X.A.guards = some []) (rm : Room k X.A) (hb : KBn X.K fd ps n ks g gV) (px : Passes CX X E)
    (I : Inv X pn σ H s) (r : Vals vs ua) (rz : Vals za wa) (l1 : vs.length = n) (l2 : za.length = ks.length) (h : sp (gV vs za) H Q E) : wpAny (model X.prog X.w) X.A (call (.ref f) ua (ks.zip wa)) (EP X pn σ Q) X.xe s := by
  have rr := hb.rel r rz
  refine wpAny_call (codeAny_mono (F.run X.A X.stack s H ⟨ua, ks.zip wa⟩ (g ua wa) (gV vs za) Q E gd rm I.env0 (hb.to s ua wa I.kIn (r.length.symm.trans l1) (rz.length.symm.trans l2)) rr h) fun r s' qh => ?_)
  cases r with
  | error e => exact px pn σ H s e s' I qh
  | ok fl =>
    cases fl with
    | ret u => exact I.after qh
    | next => exact False.elim qh
    | brk => exact False.elim qh
    | cont => exact False.elim qh
theorem pe_callN_g (F : FnOg X.prog X.w X.K X.mg X.base CX k f fd ps sp) (gd : X.A.guards = some []) (rm : Room k X.A) (hg : Gl X x) (hm : X.mg x = some (.ref f)) (hk : PySem.W.keepIn X.K (.ref f) = true) (hb : KBn X.K fd ps n ks g gV) (px : Passes CX X E)
    (ha : PA X (e :: es) t) (hkw : PK X kws tk) (ha0 : (backToKw pos (keywordEach kws X.env)).all (·.1.isSome) = true := by rfl) (hk0 : (backToKw pos (keywordEach kws X.env)).filterMap (·.1) = ks := by rfl)
    (hd0 : (x == ("__debug__" : Str)) = false := by decide) (he : starEach (e :: es) X.env = (false, eval e X.env) :: starEach es X.env := by rfl)
    (hp0 : ((backTo pos (starEach (e :: es) X.env)).any (·.1) || (backToKw pos (keywordEach kws X.env)).any (·.1.isNone)) = false := by rfl) :
    PE X (.Call (.Name x p) (e :: es) kws pos) (tCallN n ks.length sp gV E t tk) := by
  refine ⟨fun pn s σ H Q I h => ?_⟩
  refine wpAny_Call_Name_kw (ld_glob I hg hm ?_ hd0)
  refine PySem.W.callWith_KW (h₀ := X.base) I.ok.mod.kin hk ha0 (thn (ha.run pos pn s σ H _ I h) fun ua s1 ⟨vs, H1, J1, r, q⟩ => ?_) hp0 he
  refine thn (hkw.run pos pn s1 σ H1 _ J1 q) fun wa t2 ⟨za, H2, J2, rz, l1, l2, qq⟩ => ⟨J2.kIn, ?_⟩
  rw [hk0]
  exact run_fnN_g F gd rm hb px J2 r rz l1 l2 qq
theorem run_makeK_g {pn : List (Addr × Obj)} {σ : St} {H : Hp} {s : Shared} {Q : VK} {ua wa : List Value} {vs za : List V} (M : Mk X.K C f) (F : FnOg X.prog X.w X.K X.mg X.base CX k f fd ps sp) (gd : X.A.guards = some []) (rm : Room (k + 1) X.A) (hb : KBn X.K fd ps (n + 1) ks g gV) (px : Passes CX X E)
    (I : Inv X pn σ H s) (r : Vals vs ua) (rz : Vals za wa) (l1 : vs.length = n) (l2 : za.length = ks.length)
    (h : ∀ x dx, H x = none → H dx = none → dx ≠ x → sp (gV (.ref x :: vs) za) (upd (upd H dx (.own x)) x (.ins C dx [])) (fun v H2 => v = .non ∧ Q (.ref x) H2) E) :
    wpAny (model X.prog X.w) X.A (call (.ref C) ua (ks.zip wa)) (EP X pn σ Q) X.xe s := by
  have qh := h (s.heap.objs.size + 1) s.heap.objs.size (I.hok.fresh (Nat.le_succ _)) (I.hok.fresh (Nat.le_refl _)) (Nat.ne_of_lt (Nat.lt_succ_self _))
  have J2 := Inv.made (C := C) I
  have r1 : Vals (V.ref (s.heap.objs.size + 1) :: vs) (Value.ref (s.heap.objs.size + 1) :: ua) := .cons rfl r
  have rr := hb.rel r1 rz
  have n1 : (Value.ref (s.heap.objs.size + 1) :: ua).length = n + 1 := by
    rw [List.length_cons, ← r.length, l1]
  refine wpAny_call (make_map (f := f) I.kIn M.makes M.init (beq_iff_eq.mp M.fn) (codeAny_mono (F.run _ X.stack _ _ ⟨Value.ref (s.heap.objs.size + 1) :: ua, ks.zip wa⟩ (g (Value.ref (s.heap.objs.size + 1) :: ua) wa) _ _ E (make_gd gd) (rm.make C ua (ks.zip wa))
    (J2.env0.make C ua (ks.zip wa)) (hb.to _ (Value.ref (s.heap.objs.size + 1) :: ua) wa J2.kIn n1 (rz.length.symm.trans l2)) rr qh) fun r s' qz => ?_))
  cases r with
  | error e => exact px pn σ _ _ e s' J2 qz
  | ok fl =>
    cases fl with
    | ret u =>
      obtain ⟨v, H', I3, rv, ev, q3⟩ := J2.after qz
      subst ev
      exact ⟨rv, ⟨V.ref (s.heap.objs.size + 1), H', I3, rfl, q3⟩⟩
    | next => exact False.elim qz
    | brk => exact False.elim qz
    | cont => exact False.elim qz
theorem pe_makeK0_g (M : Mk X.K C f) (F : FnOg X.prog X.w X.K X.mg X.base CX k f fd ps sp) (gd : X.A.guards = some []) (rm : Room (k + 1) X.A) (hg : Gl X x) (hm : X.mg x = some (.ref C)) (hb : KBn X.K fd ps 1 ks g gV) (px : Passes CX X E) (hkw : PK X kws tk)
    (ha0 : (backToKw pos (keywordEach kws X.env)).all (·.1.isSome) = true := by rfl) (hk0 : (backToKw pos (keywordEach kws X.env)).filterMap (·.1) = ks := by rfl) (hd0 : (x == ("__debug__" : Str)) = false := by decide)
    (hp0 : ((backTo pos (starEach [] X.env)).any (·.1) || (backToKw pos (keywordEach kws X.env)).any (·.1.isNone)) = false := by rfl) :
    PE X (.Call (.Name x p) [] kws pos) (tMakeK C 0 ks.length sp gV E tNil tk) := by
  refine ⟨fun pn s σ H Q I h => ?_⟩
  refine wpAny_Call_Name_kw (ld_glob I hg hm ?_ hd0)
  refine PySem.W.callWith_KW0 (h₀ := X.base) I.ok.mod.kin M.kp ha0 ?_ hp0
  refine thn (hkw.run pos pn s σ H _ I h) fun wa t2 ⟨za, H2, J2, rz, l1, l2, qq⟩ => ⟨J2.kIn, ?_⟩
  rw [hk0]
  exact run_makeK_g (ua := []) (vs := []) M F gd rm hb px J2 .nil rz rfl l2 qq
end
end L2
namespace LamX
open PySem PySem.Spec PyProof.Rows L2
theorem law_callG {P : Program} {w : World} {K : PySem.W.Frag} {mg mb : Str → Option Value} {CX : CXT} {k : Nat} {fa a : Addr} {cs : List (Addr × Addr)} {fd : FuncData} {x : Str} {sp : Sp} {s0 : Shared} {vs : List Value} {ns : List Int}
    (KX : K.In s0.heap) (hns : s0.heap.Ns mainGlobals mg) (hb : s0.heap.Ns builtinsNs mb) (hbb : ∀ x : Str, x ≠ "__name__" → mb x = bootBuiltins x) (hlim : s0.heap.NoLimit) (hg : s0.gens = #[])
    (hT : ∀ p ∈ cs, s0.heap.get? p.2 = some { cls := .none, data := .fields #[] }) (nT : ∀ p ∈ cs, K.lookup p.2 = none) (C : ∀ p ∈ cs, PySem.W.CodeHd s0.heap p.1 p.2)
    (bmh : ∃ (bm : Addr) (ob : Obj), mg "__builtins__" = some (.ref bm) ∧ bm ≠ builtinsNs ∧ s0.heap.get? bm = some ob ∧ ob.cls = .type "module" ∧ ob.dict = some builtinsNs ∧ ob.data = .plain)
    (ha : s0.heap.get? a = some { cls := .type "list", data := .seq vs.toArray }) (hi : IntsAre vs ns) (hl : ns.length ≤ sizeLine) (rm : Room k callerA)
    (F : ∀ base : Heap, K.In base → base.Ns mainGlobals mg → (∀ p ∈ cs, TabB base mg p.1 p.2) → FnOg P w K mg base CX k fa fd [x] sp) (hbind : ∀ (s : Shared) (u : Value), BindsTo s fd ⟨[u], []⟩ [(x, u)])
    (hsp : ∀ H : Hp, (∀ p ∈ cs, H p.2 = some (.tbl #[])) → SqL K H a (ns.map V.int) → sp [.ref a] H (fun v _ => v = .bl true) fun _ _ _ => False)
    (hCX : ∀ H e s', CX [] H s0 (fun _ _ _ => False) e s' → False) :
    codeAny (model P w) callerA (.call (.ref fa) ⟨[.ref a], []⟩) (fun r s' => r = .ok (.ret (.bool true)) ∧ OldK s0.heap s'.heap ∧ s'.os = s0.os ∧ AllBare s'.gens) s0 := by
  have rvl := vals_ints hi
  have lv := hi.length
  have isTab : ∀ b : Addr, b ∈ cs.map (·.2) → s0.heap.get? b = some { cls := .none, data := .fields #[] } := fun b hb => by
    obtain ⟨p, hp, e⟩ := List.mem_map.mp hb
    rw [← e]
    exact hT p hp
  have naT : a ∉ cs.map (·.2) := fun z => by
    have q := isTab a z
    rw [ha] at q
    have z' : Data.seq vs.toArray _ = Data.fields #[] := congrArg Obj.data (Option.some.inj q)
    cases z'
  have tabIn : ∀ p ∈ cs, p.2 ∈ cs.map (·.2) := fun p hp => List.mem_map.mpr ⟨p, hp, rfl⟩
  -- from an abstract heap in which nothing but the script and the tables may be tracked
  have main : ∀ H : Hp, (∀ p ∈ cs, H p.2 = some (.tbl #[])) → (∀ b, H b = none ∨ b ∈ cs.map (·.2) ∨ ∃ o xs, H b = some (.frz o (.lst xs))) → SqL K H a (ns.map V.int) → HOk P w H s0.heap → (∀ b, H b ≠ none → b = a ∨ b ∈ cs.map (·.2)) → (H a ≠ none → K.lookup a = none) →
      codeAny (model P w) callerA (.call (.ref fa) ⟨[.ref a], []⟩) (fun r s' => r = .ok (.ret (.bool true)) ∧ OldK s0.heap s'.heap ∧ s'.os = s0.os ∧ AllBare s'.gens) s0 := by
    intro H hTab hKinds hSq okH hOnly hK
    have baseOf : ∀ {b : Addr} {o : Obj}, s0.heap.get? b = some o → H b = none → (hidT s0.heap H).get? b = some o := fun e n => hidT_get e n
    have noDat : ∀ {b : Addr} {o : Obj}, s0.heap.get? b = some o → (∀ vs n, o.data ≠ .seq vs n) → o.data ≠ .fields #[] → H b = none := fun {b o} e h1 h2 => by
      cases q : H b with
      | none => rfl
      | some u =>
        rcases hOnly b (by rw [q]; simp) with e' | e'
        · rw [e', ha] at e
          cases e
          exact (h1 _ _ rfl).elim
        · rw [isTab b e'] at e
          cases e
          exact (h2 rfl).elim
    have noDct : ∀ {b : Addr} {o : Obj} {es : Array DictEntry} {ep : Nat}, s0.heap.get? b = some o → o.data = .dict es ep → H b = none := fun {b o es ep} e d => by
      refine noDat e (fun vs n z => ?_) fun z => ?_
      · rw [d] at z
        cases z
      · rw [d] at z
        cases z
    have nsKeep : ∀ {b : Addr} {m : Str → Option Value}, s0.heap.Ns b m → (hidT s0.heap H).Ns b m := fun {b m} ⟨o, es, ep, e, d, r⟩ => ⟨o, es, ep, baseOf e (noDct e d), d, r⟩
    have kb : K.In (hidT s0.heap H) := fun b o e => baseOf (KX b o e) (by
      cases q : H b with
      | none => rfl
      | some u =>
        rcases hOnly b (by rw [q]; simp) with e' | e'
        · rw [e'] at e q
          rw [hK (by rw [q]; simp)] at e
          cases e
        · obtain ⟨p, hp, ep⟩ := List.mem_map.mp e'
          rw [← ep, nT p hp] at e
          cases e)
    have modb : L2.Mod K mg (hidT s0.heap H) := ⟨kb, nsKeep hns, ⟨mb, nsKeep hb, hbb⟩, let ⟨mc, h1, h2⟩ := hlim; ⟨mc, nsKeep h1, h2⟩⟩
    have tabs : ∀ p ∈ cs, TabB (hidT s0.heap H) mg p.1 p.2 := fun p hp => by
      have hTp := hT p hp
      refine ⟨?_, ?_, fun z => ?_⟩
      · obtain ⟨o, ua, file, tf, flags, tg, inF, text, tt, e1, r1, rr, r3, r4, r5, r6, r7, r8, hne⟩ := C p hp
        refine ⟨o, ua, file, tf, flags, tg, inF, text, tt, baseOf e1 (noDat e1 (fun vs n z => ?_) fun z => ?_), r1, rr, r3, r4, r5, r6, r7, r8, hne⟩
        · rw [rr] at z
          cases z
        · rw [rr] at z
          cases z
          simp at r3
      · obtain ⟨bm, ob, b1, b2, b3, b4, b5, b6⟩ := bmh
        have ng : bm ≠ mainGlobals := fun q => by
          obtain ⟨o, es, ep, e, hd, _⟩ := hns
          rw [q, e] at b3
          cases b3
          rw [hd] at b6
          cases b6
        have np : bm ≠ p.2 := fun q => by
          rw [q, hTp] at b3
          cases b3
          cases b6
        refine ⟨bm, ob, b1, b2, ng, np, baseOf b3 (noDat b3 (fun vs n z => ?_) fun z => ?_), b4, b5, b6⟩
        · rw [b6] at z
          cases z
        · rw [b6] at z
          cases z
      · obtain ⟨o, es, ep, e, hd, _⟩ := hns
        rw [z, hTp] at e
        cases e
        cases hd
    have e0 : Env0 P w K mg (hidT s0.heap H) callerA [] s0 H := ⟨rfl, modb, fun b o e => of_hidT e, Nat.le_of_eq (hidT_size _ _), trivial, fun b hb => absurd (show b ∈ ([] : List Addr) from hb) (by simp), okH, .of_eq hg⟩
    refine codeAny_mono ((F _ kb (nsKeep hns) tabs).run callerA [] s0 H ⟨[.ref a], []⟩ [.ref a] [.ref a] _ _ rfl rm e0 (hbind s0 (.ref a)) (.cons rfl .nil) (hsp H hTab hSq)) fun r s' h => ?_
    cases r with
    | error e => exact (hCX H e s' h).elim
    | ok fl =>
      cases fl with
      | next => exact False.elim h
      | brk => exact False.elim h
      | cont => exact False.elim h
      | ret u =>
        obtain ⟨v, H', os, bare, un, okH2, r', q⟩ := h
        have q' : v = .bl true := q
        subst q'
        obtain rfl : u = Value.bool true := r'
        have keepAll : ∀ b o, b ∉ cs.map (·.2) → s0.heap.get? b = some o → s'.heap.get? b = some o := fun b o nb e => by
          cases q : H b with
          | none => exact un.keep b o e q (by intro z; exact absurd (show b ∈ ([] : List Addr) from z) (by simp)) (by simp)
          | some u =>
            rcases hKinds b with z | z | ⟨ob, xs, z⟩
            · rw [q] at z; cases z
            · exact absurd z nb
            · have z2 := un.frzs b ob _ z
              obtain ⟨e1, _⟩ := okH b _ z
              obtain ⟨e2, _⟩ := okH2 b _ z2
              rw [e] at e1; cases e1
              exact e2
        have grows : ∀ p ∈ cs, ∃ more : Array Value, s'.heap.get? p.2 = some { cls := .none, data := .fields more } := fun p hp => by
          obtain ⟨more, z⟩ := un.tbls p.2 #[] (hTab p hp)
          exact ⟨_, okH2 p.2 _ z⟩
        refine ⟨rfl, ⟨fun b o e => ?_, fun b o e => ?_⟩, os, bare⟩
        · by_cases hb : b ∈ cs.map (·.2)
          · obtain ⟨p, hp, ep⟩ := List.mem_map.mp hb
            obtain ⟨more, hm⟩ := grows p hp
            rw [← ep] at e ⊢
            rw [hT p hp] at e
            cases e
            exact .inr (.inl ⟨((C p hp).tab (hT p hp)).isCodeTable, rfl, #[], more, rfl, by rw [Array.empty_append]; exact hm⟩)
          · exact .inl (keepAll b o hb e)
        · by_cases hb : b ∈ cs.map (·.2)
          · obtain ⟨p, hp, ep⟩ := List.mem_map.mp hb
            obtain ⟨more, hm⟩ := grows p hp
            rw [← ep]
            exact ⟨_, hm⟩
          · exact ⟨o, keepAll b o hb e⟩
  cases hk : K.lookup a with
  | some o =>
    have e := KX a o hk
    rw [ha] at e
    cases e
    refine main (fun b => if b ∈ cs.map (·.2) then some (.tbl #[]) else none) (fun p hp => if_pos (tabIn p hp)) (fun b => ?_) (.inr ⟨_, vs.toArray, _, hk, rfl, rfl, rfl, by rw [List.size_toArray, lv]; exact hl, by simpa using rvl⟩) (fun b u z => ?_) (fun b z => ?_) fun z => absurd (show (if a ∈ cs.map (·.2) then some (HO.tbl #[]) else none) = none from if_neg naT) z
    · by_cases hb : b ∈ cs.map (·.2)
      · exact .inr (.inl hb)
      · exact .inl (if_neg hb)
    · by_cases hb : b ∈ cs.map (·.2)
      · have z' := (if_pos hb).symm.trans z
        cases z'
        exact isTab b hb
      · have z' := (if_neg hb).symm.trans z
        cases z'
    · by_cases hb : b ∈ cs.map (·.2)
      · exact .inr hb
      · exact absurd (if_neg hb) z
  | none =>
    refine main (fun b => if b = a then some (.frz { cls := .type "list", data := .seq vs.toArray } (.lst (ns.map V.int))) else if b ∈ cs.map (·.2) then some (.tbl #[]) else none) (fun p hp => (if_neg (show ¬ p.2 = a from fun z => naT (by rw [← z]; exact tabIn p hp))).trans (if_pos (tabIn p hp))) (fun b => ?_)
      (.inl (.inr ⟨{ cls := .type "list", data := .seq vs.toArray }, if_pos rfl⟩)) (fun b u z => ?_) (fun b z => ?_) fun _ => hk
    · by_cases hb : b = a
      · exact .inr (.inr ⟨_, _, if_pos hb⟩)
      · by_cases hb2 : b ∈ cs.map (·.2)
        · exact .inr (.inl hb2)
        · exact .inl ((if_neg hb).trans (if_neg hb2))
    · by_cases hb : b = a
      · have z' := (if_pos hb).symm.trans z
        cases z'
        rw [hb]
        exact ⟨ha, by rw [List.length_map]; exact hl, vs, _, rvl, ha⟩
      · have z1 := (if_neg hb).symm.trans z
        by_cases hb2 : b ∈ cs.map (·.2)
        · have z' := (if_pos hb2).symm.trans z1
          cases z'
          exact isTab b hb2
        · have z' := (if_neg hb2).symm.trans z1
          cases z'
    · by_cases hb : b = a
      · exact .inl hb
      · by_cases hb2 : b ∈ cs.map (·.2)
        · exact .inr hb2
        · exact absurd ((if_neg hb).trans (if_neg hb2)) z
def LawAtG (l : PySem.W.OpenLaw) (w : World) (K : PySem.W.Frag) (CX : CXT) (k n : Nat) (x : Str) (mg : Str → Option Value) (fa : Addr) (h : Heap) : Prop :=
  ∃ (fd : FuncData) (cs : List (Addr × Addr)) (sp : Sp), (∀ p ∈ cs, h.get? p.2 = some { cls := .none, data := .fields #[] }) ∧ (∀ p ∈ cs, K.lookup p.2 = none) ∧ (∀ p ∈ cs, PySem.W.CodeHd h p.1 p.2) ∧ (∀ (s : Shared) (u : Value), BindsTo s fd ⟨[u], []⟩ [(x, u)]) ∧
    (∀ (H : Hp) (a : Addr) (ns : List Int), ns.length ≤ n → (∀ z ∈ ns, Builtin.Int.intBits z ≤ 1048576) → (∀ p ∈ cs, H p.2 = some (.tbl #[])) → SqL K H a (ns.map V.int) → sp [.ref a] H (fun v _ => v = .bl true) fun _ _ _ => False) ∧
    ∀ base : Heap, K.In base → base.Ns mainGlobals mg → (∀ p ∈ cs, TabB base mg p.1 p.2) → FnOg l.prog w K mg base CX k fa fd [x] sp
theorem walk_ofG {l : PySem.W.OpenLaw} {n k : Nat} {q : Program} {loose : List Str} {XP : (Str → Option Value) → Heap → Prop} {YP : World → Heap → Prop} {d : DefRec} {CX : World → CXT} {x : Str}
    (hn : l.most = some n) (hn2 : n ≤ sizeLine) (hdf : d.params.defaults = []) (rm : Room k callerA)
    (F : ∀ (w : World) (mg : Str → Option Value) (fa : Addr) (h : Heap), YP w h → h.Ns mainGlobals mg → mg d.name = some (.ref fa) → ∃ K : PySem.W.Frag, K.In h ∧ LawAtG l w K (CX w) k n x mg fa h)
    (hCX : ∀ (w : World) (H : Hp) (s : Shared) (e : Value) (s' : Shared), CX w [] H s (fun _ _ _ => False) e s' → False) :
    PySem.W.WalkO q loose XP YP l.row.toRowW d [] (fun f vs => PySem.call f vs) := by
  refine Att.attach_callB hn hdf fun w s₀ s₁ mg mb fa o pm cd doc a vs ns G Y ho hd hcd hmg hobj hints hlen hbits hg => ?_
  obtain ⟨K, KX, fd, cs, sp, hT, nT, C, hb, hsp, hF⟩ := F w mg fa _ Y G.T.g hmg
  exact law_callG KX G.T.g G.T.b G.T.builtins G.T.nolimit hg hT nT C G.T.bmain hobj hints (Nat.le_trans hlen hn2) rm hF hb (fun H hH hS => hsp H a ns hlen hbits hH hS) fun H e s' => hCX w H s₁ e s'
end LamX
/-! text DL9 -/
namespace DL
open PySem PySem.Spec PyProof.Rows L2

/-! ### the context -/
structure GX (G : Cf) (X : Cx) (W : XK) (k : Nat) : Prop where
  K : X.K = G.K
  calm : X.calm = true
  room : Room k X.A
  nd : X.N.Nodup
  tk : Takes X (fun c d _ H => W c d H)
  po : PassesOwn (model X.prog X.w) X.A X.env X.xe
  gd : X.A.guards = some []
section
variable {G : Cf} {X : Cx} {W : XK} {k : Nat}
theorem GX.blk (g : GX G X W k) (s : Shared) (H : Hp) (scope : Scope) (env : Env) (fp : List Addr) : GX G (X.blk s H scope env fp) W0 k := ⟨g.K, g.calm, g.room, g.nd, takes0, PassesOwn.never, g.gd⟩
theorem GX.passes (g : GX G X W k) : Passes (L2.CX X.prog X.w) X W := passes_call g.tk fun _ _ _ _ h => h
theorem GX.lo (g : GX G X W k) {j : Nat} (h : j ≤ k) : GX G X W j := ⟨g.K, g.calm, g.room.mono h, g.nd, g.tk, g.po, g.gd⟩
theorem GX.hu (g : GX G X W k) : X.A.units + 64 < cLine := g.room.units
end

/-! ### defs -/
abbrev FF := List D → Store → Res D
def XF (G : Cf) (E : XK) : Nat → Option D → Wd → Hp → Prop := XTo G E
/-- the promise of a def: what it means for data -/
def spD (G : Cf) (n : Nat) (g : FF) : Sp := fun vs H Q E => vs.length = n ∧ ∃ ds w, G.Stw w H ∧ G.Reps w ds vs ∧ After G G.Rep (XTo G E) w (g ds w.μ) Q
/-- the slots at the entry -/
def startD (n : Nat) (ds : List D) : Sg := ds.map some ++ List.replicate (n - ds.length) none
/-- a body's meaning -/
def runB (n : Nat) (body : SF) : FF := fun ds μ => match body (startD n ds) μ with
  | .next _ μ' => .ok .non μ'
  | .ret d μ' => .ok d μ'
  | .exc c d μ' => .exc c d μ'
  | _ => .stuck
/-- .. its own mutable objects standing for ever behind it -/
def runS (n : Nat) (body : SF) : FF := fun ds μ => sealR μ.length (runB n body ds μ)
section
variable {G : Cf} {P : Program} {wd : World} {mg : Str → Option Value} {base : Heap}
theorem start_rep {w : Wd} {ds : List D} {vs : List V} {N : List Str} (r : G.Reps w ds vs) : G.RepSt w (startD N.length ds) (L2.start N vs) := by
  refine ⟨by simp [startD, L2.start, r.len], fun i d h => ?_⟩
  unfold startD at h
  by_cases hi : i < (ds.map some).length
  · rw [List.getElem?_append_left hi] at h
    simp only [List.getElem?_map] at h
    cases e : ds[i]? with
    | none => rw [e] at h; cases h
    | some x =>
      rw [e] at h
      cases h
      obtain ⟨v, hv, rv⟩ := r.get i d e
      refine ⟨v, ?_, rv⟩
      unfold L2.start
      have hl : i < (vs.map some).length := by rw [List.length_map, ← r.len]; simpa using hi
      rw [List.getElem?_append_left hl, List.getElem?_map, hv]
      rfl
  · rw [List.getElem?_append_right (by omega), List.getElem?_replicate] at h
    split at h <;> cases h
/-- the rule for a def -/
theorem fn_ok {x qual : Str} {st : Stmt} {f : Addr} {fd : FuncData} {N ps : List Str} {k : Nat} {body : SF} {g : FF} (F : Fun G.K x qual st f fd) (S : FnScope N ps (defScope st))
    (hg : ∀ {W : XK} {w : Wd} {ds : List D} {Q : VK}, ds.length = ps.length → After G G.Rep (XTo G W) w (g ds w.μ) Q → After G G.Rep (XTo G W) w (runB N.length body ds w.μ) Q)
    (hb : ∀ (cdv : Value) (A : Around) (outer : List Env) (s : Shared) (H : Hp) (E : XK), GX G (cxOf (L2.CX P wd) P wd G.K mg base N qual (defScope st) f cdv A outer s H E) E k →
      DSs G (cxOf (L2.CX P wd) P wd G.K mg base N qual (defScope st) f cdv A outer s H E) E (defBody st) body) : FnOg P wd G.K mg base (L2.CX P wd) (k + 1) f fd ps (spD G ps.length g) := by
  refine F.okG S (fun vs H Q E h => h.1) (fun cdv A outer s H vs Q E gd hr h => ?_)
  obtain ⟨hl, ds, w, Sw, r, A1⟩ := h
  have tk : Takes (cxOf (L2.CX P wd) P wd G.K mg base N qual (defScope st) f cdv A outer s H E) (fun c d _ H => E c d H) := takes_of rfl rfl rfl rfl
  have po : PassesOwn (model P wd) (cxOf (L2.CX P wd) P wd G.K mg base N qual (defScope st) f cdv A outer s H E).A (cxOf (L2.CX P wd) P wd G.K mg base N qual (defScope st) f cdv A outer s H E).env (cxOf (L2.CX P wd) P wd G.K mg base N qual (defScope st) f cdv A outer s H E).xe := passes_of (X := cxOf (L2.CX P wd) P wd G.K mg base N qual (defScope st) f cdv A outer s H E) rfl
  refine ⟨_, hb cdv A outer s H E ⟨rfl, rfl, hr, S.nd, tk, po, gd⟩, startD N.length ds, w, Sw, start_rep r, ?_⟩
  have A2 := hg (r.len.trans hl) A1
  unfold runB at A2
  cases q : body (startD N.length ds) w.μ with
  | next σ' μ' => rw [q] at A2; exact fun w' H' σV' e l s r => A2 w' H' .non e l s (by simp only [Cf.Rep, Rep])
  | ret d μ' => rw [q] at A2; exact A2
  | exc c d μ' => rw [q] at A2; exact fun w' H' dd e l s x => A2 w' H' e l s dd x
  | brk σ' μ' => rw [q] at A2; exact A2.elim
  | cont σ' μ' => rw [q] at A2; exact A2.elim
  | stuck => rw [q] at A2; exact A2.elim
/-- the meaning is the body's own, or sealed -/
theorem hg_run {N ps : List Str} {body : SF} {W : XK} {w : Wd} {ds : List D} {Q : VK} (_ : ds.length = ps.length) (h : After G G.Rep (XTo G W) w (runB N.length body ds w.μ) Q) : After G G.Rep (XTo G W) w (runB N.length body ds w.μ) Q := h
theorem hg_seal {N ps : List Str} {body : SF} {W : XK} {w : Wd} {ds : List D} {Q : VK} (_ : ds.length = ps.length) (h : After G G.Rep (XTo G W) w (runS N.length body ds w.μ) Q) : After G G.Rep (XTo G W) w (runB N.length body ds w.μ) Q := seal_after h
end
/-- a def of the text, where it stands, and what it means -/
structure FnG (G : Cf) (P : Program) (wd : World) (mg : Str → Option Value) (base : Heap) (x qual : Str) (st : Stmt) (k : Nat) (ps : List Str) (g : FF) : Prop where
  ex : ∃ f fd, Fun G.K x qual st f fd ∧ mg x = some (.ref f) ∧ Binds G.K fd ps [] ∧ FnOg P wd G.K mg base (L2.CX P wd) k f fd ps (spD G ps.length g)
/-- a method (or __init__) of a class -/
structure MeG (G : Cf) (P : Program) (wd : World) (mg : Str → Option Value) (base : Heap) (C : Nat) (m qual : Str) (st : Stmt) (k : Nat) (ps : List Str) (g : FF) : Prop where
  ex : ∃ f fd, Fun G.K m qual st f fd ∧ Meth G.K (G.ca C) m f ∧ Cls G.K (G.ca C) ∧ Binds G.K fd ps [] ∧ FnOg P wd G.K mg base (L2.CX P wd) k f fd ps (spD G ps.length g)
structure MkG (G : Cf) (P : Program) (wd : World) (mg : Str → Option Value) (base : Heap) (x : Str) (C : Nat) (qual : Str) (st : Stmt) (k : Nat) (ps : List Str) (g : FF) : Prop where
  ex : ∃ f fd, Fun G.K "__init__" qual st f fd ∧ Mk G.K (G.ca C) f ∧ mg x = some (.ref (G.ca C)) ∧ Binds G.K fd ps [] ∧ FnOg P wd G.K mg base (L2.CX P wd) k f fd ps (spD G ps.length g)
/-- the values in the parameters' order -/
def pick {α : Type} (is : List Nat) (l : List α) : List α := is.filterMap fun i => l[i]?
theorem pick_rep {G : Cf} {w : Wd} {ds : List D} {vs : List V} (r : G.Reps w ds vs) : ∀ is : List Nat, G.Reps w (pick is ds) (pick is vs)
  | [] => Reps.nil
  | i :: is => by
    unfold pick
    simp only [List.filterMap_cons]
    cases e : ds[i]? with
    | none =>
      have : vs[i]? = none := List.getElem?_eq_none_iff.mpr (by rw [← r.len]; exact List.getElem?_eq_none_iff.mp e)
      rw [this]
      exact pick_rep r is
    | some d =>
      obtain ⟨v, hv, rv⟩ := r.get i d e
      rw [hv]
      exact Reps.cons rv (pick_rep r is)
theorem pick_vals {vs : List V} {us : List Value} (r : Vals vs us) : ∀ is : List Nat, Vals (pick is vs) (pick is us)
  | [] => .nil
  | i :: is => by
    unfold pick
    simp only [List.filterMap_cons]
    cases e : vs[i]? with
    | none =>
      have : us[i]? = none := r.none_of e
      rw [this]
      exact pick_vals r is
    | some d =>
      obtain ⟨v, hv, rv⟩ := r.get e
      rw [hv]
      exact .cons rv (pick_vals r is)
/-- how a def's arguments bind, n positional ones and the keywords ks -/
def KwB (x qual : Str) (st : Stmt) (ps : List Str) (n : Nat) (ks : List Str) (is : List Nat) : Prop := ∀ (kV doc pm : Value) (an : Option Addr) (cdv ct : Value) (us ws : List Value), us.length = n → ws.length = ks.length →
  bindArgs (PySem.W.fnOf x qual (defArgs st) (defBody st) (defScope st) .none kV doc pm an cdv ct) ⟨us, ks.zip ws⟩ = pure (ps.zip (pick is (us ++ ws)))
theorem kbn_of {K : PySem.W.Frag} {x qual : Str} {st : Stmt} {f : Addr} {fd : FuncData} {ps ks : List Str} {n : Nat} {is : List Nat} (F : Fun K x qual st f fd) (h : KwB x qual st ps n ks is) : KBn K fd ps n ks (fun us ws => pick is (us ++ ws)) (fun vs zs => pick is (vs ++ zs)) := by
  obtain ⟨oc, od, kV, doc, pm, an, cdv, ct, osl, rfl, lk, hcd⟩ := F.ex
  exact ⟨fun s us ws _ h1 h2 => .of_eq (h kV doc pm an cdv ct us ws h1 h2), fun r1 r2 => pick_vals (r1.append r2) is⟩
section
variable {G : Cf} {X : Cx} {W : XK} {k j : Nat} {x qual : Str} {st : Stmt} {ps ks : List Str} {g : FF} {e o : Expr} {es : List Expr} {ff fk : AF} {fo : EF} {pos p apos : Pos} {kws : List Keyword} {is : List Nat} {n : Nat} {C : Nat} {m : Str}

def fCall (n : Nat) (g : FF) (ff : AF) : EF := fun σ μ => (ff σ μ).bind fun ds μ => if ds.length = n then g ds μ else .stuck
theorem d_call (c : GX G X W k) (F : FnG G X.prog X.w X.mg X.base x qual st j ps g) (hj : j ≤ k) (ha : DA G X W (e :: es) ff) (hg : Gl X x := by rfl) (hdb : (x == ("__debug__" : Str)) = false := by decide)
    (he : starEach (e :: es) X.env = (false, eval e X.env) :: starEach es X.env := by rfl) (hpl : (backTo pos (starEach es X.env)).any (·.1) = false := by rfl) : DE G X W (.Call (.Name x p) (e :: es) [] pos) (fCall ps.length g ff) := by
  obtain ⟨f, fd, F0, hm, hb, Fo⟩ := F.ex
  have hK := c.K
  refine peI (pe_call_g (E := W) (ds := []) (dvs := []) (by rw [hK]; exact Fo) c.gd (c.room.mono hj) hg hm (by rw [hK]; exact F0.kp) (by rw [hK]; exact hb) .nil c.passes ha hdb he hpl) fun σV H Q h => ?_
  obtain ⟨σ, w, S, R, A⟩ := h
  refine ⟨σ, w, S, R, (After.bind (R := G.Reps) A).mono fun vs H1 ⟨w1, ds, l1, S1, rs, A1⟩ => ?_⟩
  split at A1
  · rename_i hl
    rw [List.append_nil]
    exact ⟨by rw [← Reps.len rs]; exact hl, ds, w1, S1, rs, A1⟩
  · exact A1.elim
def fCall0 (g : FF) : EF := fun _ μ => g [] μ
theorem d_call0 (c : GX G X W k) (F : FnG G X.prog X.w X.mg X.base x qual st j [] g) (hj : j ≤ k) (hg : Gl X x := by rfl) (hdb : (x == ("__debug__" : Str)) = false := by decide) : DE G X W (.Call (.Name x p) [] [] pos) (fCall0 g) := by
  obtain ⟨f, fd, F0, hm, hb, Fo⟩ := F.ex
  have hK := c.K
  refine peI (pe_call0_g (E := W) (ds := []) (dvs := []) (by rw [hK]; exact Fo) c.gd (c.room.mono hj) hg hm (by rw [hK]; exact F0.kp) (by rw [hK]; exact hb) .nil c.passes hdb) fun σV H Q h => ?_
  obtain ⟨σ, w, S, R, A⟩ := h
  exact ⟨rfl, [], w, S, Reps.nil, A⟩
/-- the keywords' values -/
abbrev DK (G : Cf) (X : Cx) (W : XK) (kws : List Keyword) (f : AF) : Prop := PK X kws (tAF G W f)
theorem pkI {X : Cx} {e : List Keyword} {t t' : TA} (h : PK X e t) (i : ∀ σ H Q, t' σ H Q → t σ H Q) : PK X e t' := ⟨fun pos pins s σ H Q I q => h.run pos pins s σ H Q I (i σ H Q q)⟩
theorem k_nil : DK G X W [] aNil := pkI pk_nil fun σV H Q ⟨σ, w, S, R, A⟩ => A.now S Reps.nil
theorem k_cons {nm : Option Str} {fa : EF} {kpos : Pos} (ha : DE G X W e fa) (hr : DK G X W kws ff) : DK G X W (⟨nm, e, kpos⟩ :: kws) (aCons fa ff) := by
  refine pkI (pk_cons ha hr) fun σV H Q h => ?_
  obtain ⟨σ, w, S, R, A⟩ := h
  refine ⟨σ, w, S, R, (After.bind (R := G.Rep) A).mono fun x H1 ⟨w1, dx, l1, S1, rx, A1⟩ => ?_⟩
  refine ⟨σ, w1, S1, R.mono l1, (After.bind (R := G.Reps) A1).mono fun xs H2 ⟨w2, dxs, l2, S2, rxs, A2⟩ => ?_⟩
  exact A2.now S2 (Reps.cons (Rep.mono l2 _ _ rx) rxs)
def fCallK (n m : Nat) (is : List Nat) (len : Nat) (g : FF) (ff fk : AF) : EF := fun σ μ => (ff σ μ).bind fun ds μ => (fk σ μ).bind fun es μ => if ds.length = n ∧ es.length = m ∧ (pick is (ds ++ es)).length = len then g (pick is (ds ++ es)) μ else .stuck
/-- f(e, .., k = v, ..) -/
theorem d_callK (c : GX G X W k) (F : FnG G X.prog X.w X.mg X.base x qual st j ps g) (hj : j ≤ k) (n : Nat) (is : List Nat) (kb : KwB x qual st ps n ks is) (ha : DA G X W (e :: es) ff) (hkw : DK G X W kws fk) (hg : Gl X x := by rfl)
    (hall : (backToKw pos (keywordEach kws X.env)).all (·.1.isSome) = true := by rfl) (hks : (backToKw pos (keywordEach kws X.env)).filterMap (·.1) = ks := by rfl) (hdb : (x == ("__debug__" : Str)) = false := by decide)
    (he : starEach (e :: es) X.env = (false, eval e X.env) :: starEach es X.env := by rfl) (hpl : ((backTo pos (starEach (e :: es) X.env)).any (·.1) || (backToKw pos (keywordEach kws X.env)).any (·.1.isNone)) = false := by rfl) :
    DE G X W (.Call (.Name x p) (e :: es) kws pos) (fCallK n ks.length is ps.length g ff fk) := by
  obtain ⟨f, fd, F0, hm, hb, Fo⟩ := F.ex
  have hK := c.K
  refine peI (pe_callN_g (E := W) (by rw [hK]; exact Fo) c.gd (c.room.mono hj) hg hm (by rw [hK]; exact F0.kp) (by rw [hK]; exact kbn_of F0 kb) c.passes ha hkw hall hks hdb he hpl) fun σV H Q h => ?_
  obtain ⟨σ, w, S, R, A⟩ := h
  refine ⟨σ, w, S, R, (After.bind (R := G.Reps) A).mono fun vs H1 ⟨w1, ds, l1, S1, rs, A1⟩ => ?_⟩
  refine ⟨σ, w1, S1, R.mono l1, (After.bind (R := G.Reps) A1).mono fun us H2 ⟨w2, es', l2, S2, ru, A2⟩ => ?_⟩
  split at A2
  · rename_i hl
    have rr := Reps.append (Reps.mono l2.x _ _ rs) ru
    have rp := pick_rep (G := G) rr is
    exact ⟨by rw [← Reps.len rs]; exact hl.1, by rw [← Reps.len ru]; exact hl.2.1, by rw [← Reps.len rp]; exact hl.2.2, _, w2, S2, rp, A2⟩
  · exact A2.elim
/-- f(k = v, ..) -/
theorem d_callKO (c : GX G X W k) (F : FnG G X.prog X.w X.mg X.base x qual st j ps g) (hj : j ≤ k) (is : List Nat) (kb : KwB x qual st ps 0 ks is) (hkw : DK G X W kws fk) (hg : Gl X x := by rfl)
    (hall : (backToKw pos (keywordEach kws X.env)).all (·.1.isSome) = true := by rfl) (hks : (backToKw pos (keywordEach kws X.env)).filterMap (·.1) = ks := by rfl) (hdb : (x == ("__debug__" : Str)) = false := by decide)
    (hpl : ((backTo pos (starEach [] X.env)).any (·.1) || (backToKw pos (keywordEach kws X.env)).any (·.1.isNone)) = false := by rfl) :
    DE G X W (.Call (.Name x p) [] kws pos) (fCallK 0 ks.length is ps.length g aNil fk) := by
  obtain ⟨f, fd, F0, hm, hb, Fo⟩ := F.ex
  have hK := c.K
  refine ⟨fun pins s σV H Q I h => ?_⟩
  obtain ⟨σ, w, S, R, A⟩ := h
  refine wpAny_Call_Name_kw (ld_glob I hg hm ?_ hdb)
  refine PySem.W.callWith_KW0 (h₀ := X.base) I.ok.mod.kin (by rw [hK]; exact F0.kp) hall ?_ hpl
  have A1 : After G G.Rep (XTo G W) w ((fk σ w.μ).bind fun es μ => if ([] : List D).length = 0 ∧ es.length = ks.length ∧ (pick is ([] ++ es)).length = ps.length then g (pick is ([] ++ es)) μ else .stuck) Q := A
  have hq : tAF G W fk σV H _ := ⟨σ, w, S, R, After.bind (R := G.Reps) A1⟩
  refine thn (hkw.run pos pins s σV H _ I hq) fun ws s2 ⟨zs, H2, I2, rz, w2, es', l2, S2, ru, A2⟩ => ⟨I2.kIn, ?_⟩
  rw [hks]
  split at A2
  · rename_i hl
    have rp := pick_rep (G := G) ru is
    have hlz : zs.length = ks.length := by rw [← Reps.len ru]; exact hl.2.1
    exact run_fnN_g (sp := spD G ps.length g) (E := W) (gV := fun vs zs => pick is (vs ++ zs)) (g := fun us ws => pick is (us ++ ws)) (n := 0) (ua := []) (vs := []) (by rw [hK]; exact Fo) c.gd (c.room.mono hj) (by rw [hK]; exact kbn_of F0 kb) c.passes I2 .nil rz rfl hlz ⟨by show (pick is ([] ++ zs)).length = _; rw [List.nil_append, ← Reps.len rp]; exact hl.2.2, _, w2, S2, rp, A2⟩
  · exact A2.elim

/-! ### methods of own classes -/
def isIns (C : Nat) (m : Str) (o : D) (μ : Store) : Bool := match o with
  | .loc n => match μ[n]? with
    | some (.ins C' ns _) => decide (C' = C) && !(ns.contains m)
    | _ => false
  | .ins C' ns _ => decide (C' = C) && !(ns.contains m)
  | _ => false
theorem no_lookup {m : Str} : ∀ {ns : List Str} {vs : List V}, ns.contains m = false → (ns.zip vs).lookup m = none
  | [], vs, _ => by simp
  | n :: ns, [], _ => by simp
  | n :: ns, v :: vs, h => by
    simp only [List.contains_cons, Bool.or_eq_false_iff] at h
    simp only [List.zip_cons_cons, List.lookup_cons, h.1]
    exact no_lookup h.2
theorem isIns_ok {w : Wd} {H : Hp} {d : D} {v : V} (S : G.Stw w H) (r : G.Rep w d v) (h : isIns C m d w.μ = true) : ∃ a dx fs, v = .ref a ∧ H a = some (.ins (G.ca C) dx fs) ∧ fs.lookup m = none := by
  unfold isIns at h
  split at h
  · rename_i n
    split at h
    · rename_i C' ns xs e
      simp only [Bool.and_eq_true, decide_eq_true_eq, Bool.not_eq_true'] at h
      obtain ⟨rfl, h⟩ := h
      simp only [Cf.Rep, Rep] at r
      obtain ⟨hn, rfl⟩ := r
      obtain ⟨_, dx, vs, ho, hl, rr⟩ := S.ob n _ e
      exact ⟨_, dx, _, rfl, ho, no_lookup h⟩
    · cases h
  · rename_i C' ns xs
    simp only [Bool.and_eq_true, decide_eq_true_eq, Bool.not_eq_true'] at h
    obtain ⟨rfl, h⟩ := h
    simp only [Cf.Rep, Rep] at r
    obtain ⟨a, dx, vs, rfl, ho, hl, rr⟩ := r
    exact ⟨a, dx, _, rfl, S.ex _ _ ho, no_lookup h⟩
  · cases h
def fMeth (C : Nat) (m : Str) (n : Nat) (g : FF) (fo : EF) (ff : AF) : EF := fun σ μ => (fo σ μ).bind fun o μ => if isIns C m o μ = true then (ff σ μ).bind fun ds μ => if (o :: ds).length = n then g (o :: ds) μ else .stuck else .stuck
theorem d_meth {pl : Sem Bool} (c : GX G X W k) (F : MeG G X.prog X.w X.mg X.base C m qual st j ps g) (hj : j ≤ k) (ho : DE G X W o fo) (ha : DA G X W (e :: es) ff)
    (hst : starEach (e :: es) X.env = (false, eval e X.env) :: starEach es X.env := by rfl) (hpl : (backTo pos (starEach es X.env)).any (·.1) = false := by rfl)
    (ht : eval (.Call (.Attribute o m apos) (e :: es) [] pos) X.env = (do
      let ov ← eval o X.env
      standAt apos.atName
      let (f, first) ← holding [ov] (getMethod ov m pl)
      callWith pos f first (backTo pos (starEach (e :: es) X.env)) (backToKw pos (keywordEach [] X.env))) := by rfl) : DE G X W (.Call (.Attribute o m apos) (e :: es) [] pos) (fMeth C m ps.length g fo ff) := by
  obtain ⟨f, fd, F0, hM, hC, hb, Fo⟩ := F.ex
  have hK := c.K
  refine peI (pe_meth_g (E := W) (ds := []) (dvs := []) (C := G.ca C) (pl := pl) ho (by rw [hK]; exact hC) (by rw [hK]; exact hM) (by rw [hK]; exact Fo) c.gd (c.room.mono hj) (by rw [hK]; exact hb) .nil c.passes ha hst hpl ht) fun σV H Q h => ?_
  obtain ⟨σ, w, S, R, A⟩ := h
  refine ⟨σ, w, S, R, (After.bind (R := G.Rep) A).mono fun v H1 ⟨w1, od, l1, S1, ro, A1⟩ => ?_⟩
  split at A1
  · rename_i hi
    obtain ⟨a, dx, fs, rfl, ha, hn⟩ := isIns_ok S1 ro hi
    refine ⟨a, dx, fs, rfl, ha, hn, σ, w1, S1, R.mono l1, (After.bind (R := G.Reps) A1).mono fun vs H2 ⟨w2, ds, l2, S2, rs, A2⟩ => ?_⟩
    split at A2
    · rename_i hl
      have rr := Reps.cons (Rep.mono l2.x _ _ ro) rs
      rw [List.append_nil]
      exact ⟨by rw [← Reps.len rr]; exact hl, _, w2, S2, rr, A2⟩
    · exact A2.elim
  · exact A1.elim
theorem d_meth0 {pl : Sem Bool} (c : GX G X W k) (F : MeG G X.prog X.w X.mg X.base C m qual st j ps g) (hj : j ≤ k) (ho : DE G X W o fo)
    (ht : eval (.Call (.Attribute o m apos) [] [] pos) X.env = (do
      let ov ← eval o X.env
      standAt apos.atName
      let (f, first) ← holding [ov] (getMethod ov m pl)
      callWith pos f first (backTo pos (starEach [] X.env)) (backToKw pos (keywordEach [] X.env))) := by rfl) : DE G X W (.Call (.Attribute o m apos) [] [] pos) (fMeth C m ps.length g fo aNil) := by
  obtain ⟨f, fd, F0, hM, hC, hb, Fo⟩ := F.ex
  have hK := c.K
  refine peI (pe_meth0_g (E := W) (ds := []) (dvs := []) (C := G.ca C) (pl := pl) ho (by rw [hK]; exact hC) (by rw [hK]; exact hM) (by rw [hK]; exact Fo) c.gd (c.room.mono hj) (by rw [hK]; exact hb) .nil c.passes ht) fun σV H Q h => ?_
  obtain ⟨σ, w, S, R, A⟩ := h
  refine ⟨σ, w, S, R, (After.bind (R := G.Rep) A).mono fun v H1 ⟨w1, od, l1, S1, ro, A1⟩ => ?_⟩
  split at A1
  · rename_i hi
    obtain ⟨a, dx, fs, rfl, ha, hn⟩ := isIns_ok S1 ro hi
    refine ⟨a, dx, fs, rfl, ha, hn, ?_⟩
    simp only [aNil, Res.bind_ok] at A1
    split at A1
    · rename_i hl
      have rr := Reps.cons ro (Reps.nil (K := G.K) (ca := G.ca) (w := w1))
      exact ⟨by rw [← hl]; rfl, _, w1, S1, rr, A1⟩
    · exact A1.elim
  · exact A1.elim
/-- o.m(k = v, ..) -/
def fMethK (C : Nat) (m : Str) (nk : Nat) (is : List Nat) (len : Nat) (g : FF) (fo : EF) (fk : AF) : EF := fun σ μ => (fo σ μ).bind fun o μ => if isIns C m o μ = true then (fk σ μ).bind fun ds μ => if ds.length = nk ∧ (pick is (o :: ds)).length = len then g (pick is (o :: ds)) μ else .stuck else .stuck
theorem d_methKO {pl : Sem Bool} (c : GX G X W k) (F : MeG G X.prog X.w X.mg X.base C m qual st j ps g) (hj : j ≤ k) (is : List Nat) (kb : KwB m qual st ps 1 ks is) (ho : DE G X W o fo) (hkw : DK G X W kws fk)
    (hall : (backToKw pos (keywordEach kws X.env)).all (·.1.isSome) = true := by rfl) (hks : (backToKw pos (keywordEach kws X.env)).filterMap (·.1) = ks := by rfl)
    (hpl : ((backTo pos (starEach [] X.env)).any (·.1) || (backToKw pos (keywordEach kws X.env)).any (·.1.isNone)) = false := by rfl)
    (ht : eval (.Call (.Attribute o m apos) [] kws pos) X.env = (do
      let ov ← eval o X.env
      standAt apos.atName
      let (f, first) ← holding [ov] (getMethod ov m pl)
      callWith pos f first (backTo pos (starEach [] X.env)) (backToKw pos (keywordEach kws X.env))) := by rfl) : DE G X W (.Call (.Attribute o m apos) [] kws pos) (fMethK C m ks.length is ps.length g fo fk) := by
  obtain ⟨f, fd, F0, hM, hC, hb, Fo⟩ := F.ex
  have hK := c.K
  refine ⟨fun pins s σV H Q I h => ?_⟩
  obtain ⟨σ, w, S, R, A⟩ := h
  have hq : tE G W fo σV H _ := ⟨σ, w, S, R, After.bind (R := G.Rep) A⟩
  refine PySem.W.methodCall_KW (pl := pl) (thn (ho.run pins s σV H _ I hq) fun u s1 ⟨v, H1, I1, rx, w1, od, l1, S1, ro, A1⟩ => ?_) ht
  split at A1
  · rename_i hi
    obtain ⟨a, dx, fs, rfl, ha, hn⟩ := isIns_ok S1 ro hi
    obtain rfl : u = Value.ref a := rx
    refine getmeth_ok I1 ha (by rw [hK]; exact hC) (by rw [hK]; exact hM) hn ?_
    refine PySem.W.callWith_KW0 (h₀ := X.base) I1.ok.mod.kin (by rw [hK]; exact hM.kp) hall ?_ hpl
    have hq : tAF G W fk σV H1 _ := ⟨σ, w1, S1, R.mono l1, After.bind (R := G.Reps) A1⟩
    refine thn (hkw.run pos pins s1 σV H1 _ I1 hq) fun ws s2 ⟨zs, H2, I2, rz, w2, es', l2, S2, ru, A2⟩ => ⟨I2.kIn, ?_⟩
    rw [hks]
    split at A2
    · rename_i hl
      have rr := Reps.cons (Rep.mono l2.x _ _ ro) ru
      have rp := pick_rep (G := G) rr is
      have hlz : zs.length = ks.length := by rw [← Reps.len ru]; exact hl.1
      exact run_fnN_g (sp := spD G ps.length g) (E := W) (gV := fun vs zs => pick is (vs ++ zs)) (g := fun us ws => pick is (us ++ ws)) (n := 1) (ua := [.ref a]) (vs := [.ref a]) (by rw [hK]; exact Fo) c.gd (c.room.mono hj) (by rw [hK]; exact kbn_of F0 kb) c.passes I2 (.cons rfl .nil) rz rfl hlz ⟨by show (pick is ([V.ref a] ++ zs)).length = _; rw [List.singleton_append, ← Reps.len rp]; exact hl.2, _, w2, S2, rp, A2⟩
    · exact A2.elim
  · exact A1.elim

/-! ### new instances -/
/-- what __init__ leaves; the instance for ever as it is, or one that may change -/
def mkR (m : Bool) (n : Nat) (r : Res D) : Res D := if m = true then r.bind (fun x μ => match x with | .non => .ok (.loc n) μ | _ => .stuck) else sealR n (r.bind fun x μ => match x with | .non => .ok (.loc n) μ | _ => .stuck)
def fMake (m : Bool) (C : Nat) (n : Nat) (g : FF) (ff : AF) : EF := fun σ μ => (ff σ μ).bind fun ds μ => if (D.loc μ.length :: ds).length = n then mkR m μ.length (g (.loc μ.length :: ds) (μ ++ [.ins C [] []])) else .stuck
theorem Stw.other {w : Wd} {H : Hp} (S : G.Stw w H) {p : Addr} (hp : H p = none) (o : HO) : G.Stw w (upd H p o) := by
  refine ⟨fun b u h => ?_, fun n ob h => ?_, S.inj, fun b u h => ?_, S.zd, S.zt⟩
  · rw [upd_ne (ne_of_none h (S.fresh hp))]; exact S.ex b u h
  · obtain ⟨h1, h2⟩ := S.ob n ob h
    rw [upd_ne (S.mne hp (S.ob_lt h))]
    exact ⟨h1, h2⟩
  · rw [upd_ne (ne_of_none (S.zx b u h) hp)]; exact S.zx b u h
theorem mk_after {m : Bool} {n : Nat} {w w1 : Wd} {r : Res D} {Q : VK} {x : V} {W : XK} (hn : w.μ.length = n) (l : Le w w1) (rx : G.Rep w1 (.loc n) x) (A : After G G.Rep (XTo G W) w (mkR m n r) Q) :
    After G G.Rep (XTo G W) w1 r fun v H2 => v = .non ∧ Q x H2 := by
  have A' : After G G.Rep (XTo G W) w (r.bind fun x μ => match x with | .non => .ok (.loc n) μ | _ => .stuck) Q := by
    unfold mkR at A
    split at A
    · exact A
    · rw [← hn] at A ⊢
      exact seal_after A
  have A2 := A'.le l
  refine (After.bind (R := G.Rep) A2).mono fun v H1 ⟨w2, d, l2, S2, rd, A3⟩ => ?_
  split at A3
  · exact ⟨rep_non.mp rd, A3.now S2 (Rep.mono l2.x _ _ rx)⟩
  · exact A3.elim
theorem make_sp {m : Bool} {w : Wd} {H : Hp} {ds : List D} {vs : List V} {Q : VK} {n : Nat} (S : G.Stw w H) (rs : G.Reps w ds vs) (hl : (D.loc w.μ.length :: ds).length = n) (A : After G G.Rep (XTo G W) w (mkR m w.μ.length (g (.loc w.μ.length :: ds) (w.μ ++ [.ins C [] []]))) Q) :
    ∀ x dx, H x = none → H dx = none → dx ≠ x → spD G n g (.ref x :: vs) (upd (upd H dx (.own x)) x (.ins (G.ca C) dx [])) (fun v H2 => v = .non ∧ Q (.ref x) H2) W := by
  intro x dx hx hdx ne
  have S1 := Stw.other S hdx (.own x)
  have hx1 : (upd H dx (.own x)) x = none := by rw [upd_ne (Ne.symm ne)]; exact hx
  obtain ⟨S2, l2⟩ := DL.Stw.push S1 hx1 (ob := .ins C [] []) (o := .ins (G.ca C) dx []) ⟨dx, [], rfl, rfl, Reps.nil⟩
  have rx : G.Rep ⟨w.μ ++ [.ins C [] []], fun n => if n = w.μ.length then x else w.m n, w.F, w.Z⟩ (.loc w.μ.length) (.ref x) := by
    simp only [Cf.Rep, Rep]
    exact ⟨by simp, by simp⟩
  refine ⟨by rw [← hl]; simp [Reps.len rs], .loc w.μ.length :: ds, _, S2, Reps.cons rx (Reps.mono l2.x _ _ rs), ?_⟩
  exact mk_after rfl l2 rx A
theorem d_make (m : Bool) (c : GX G X W k) (F : MkG G X.prog X.w X.mg X.base x C qual st j ps g) (hj : j + 1 ≤ k) (ha : DA G X W (e :: es) ff) (hg : Gl X x := by rfl) (hdb : (x == ("__debug__" : Str)) = false := by decide)
    (he : starEach (e :: es) X.env = (false, eval e X.env) :: starEach es X.env := by rfl) (hpl : (backTo pos (starEach es X.env)).any (·.1) = false := by rfl) : DE G X W (.Call (.Name x p) (e :: es) [] pos) (fMake m C ps.length g ff) := by
  obtain ⟨f, fd, F0, hM, hm, hb, Fo⟩ := F.ex
  have hK := c.K
  refine peI (pe_make_g (E := W) (ds := []) (dvs := []) (by rw [hK]; exact hM) (by rw [hK]; exact Fo) c.gd (c.room.mono hj) hg hm (by rw [hK]; exact hb) .nil c.passes ha hdb he hpl) fun σV H Q h => ?_
  obtain ⟨σ, w, S, R, A⟩ := h
  refine ⟨σ, w, S, R, (After.bind (R := G.Reps) A).mono fun vs H1 ⟨w1, ds, l1, S1, rs, A1⟩ => ?_⟩
  split at A1
  · rename_i hl
    rw [List.append_nil]
    exact make_sp S1 rs hl A1
  · exact A1.elim
/-- C(k = v, ..) -/
def fMakeK (m : Bool) (C : Nat) (nk : Nat) (is : List Nat) (n : Nat) (g : FF) (fk : AF) : EF := fun σ μ => (fk σ μ).bind fun ds μ => if ds.length = nk ∧ (pick is (D.loc μ.length :: ds)).length = n then mkR m μ.length (g (pick is (.loc μ.length :: ds)) (μ ++ [.ins C [] []])) else .stuck
theorem make_spK {m : Bool} {w : Wd} {H : Hp} {ds : List D} {vs : List V} {Q : VK} {n : Nat} (S : G.Stw w H) (rs : G.Reps w ds vs) (hl : (pick is (D.loc w.μ.length :: ds)).length = n) (A : After G G.Rep (XTo G W) w (mkR m w.μ.length (g (pick is (.loc w.μ.length :: ds)) (w.μ ++ [.ins C [] []]))) Q) :
    ∀ x dx, H x = none → H dx = none → dx ≠ x → spD G n g (pick is (.ref x :: vs)) (upd (upd H dx (.own x)) x (.ins (G.ca C) dx [])) (fun v H2 => v = .non ∧ Q (.ref x) H2) W := by
  intro x dx hx hdx ne
  have S1 := Stw.other S hdx (.own x)
  have hx1 : (upd H dx (.own x)) x = none := by rw [upd_ne (Ne.symm ne)]; exact hx
  obtain ⟨S2, l2⟩ := DL.Stw.push S1 hx1 (ob := .ins C [] []) (o := .ins (G.ca C) dx []) ⟨dx, [], rfl, rfl, Reps.nil⟩
  have rx : G.Rep ⟨w.μ ++ [.ins C [] []], fun n => if n = w.μ.length then x else w.m n, w.F, w.Z⟩ (.loc w.μ.length) (.ref x) := by
    simp only [Cf.Rep, Rep]
    exact ⟨by simp, by simp⟩
  have rp := pick_rep (G := G) (Reps.cons rx (Reps.mono l2.x _ _ rs)) is
  refine ⟨by rw [← hl, Reps.len rp], pick is (.loc w.μ.length :: ds), _, S2, rp, ?_⟩
  exact mk_after rfl l2 rx A
theorem d_makeKO (m : Bool) (c : GX G X W k) (F : MkG G X.prog X.w X.mg X.base x C qual st j ps g) (hj : j + 1 ≤ k) (is : List Nat) (kb : KwB "__init__" qual st ps 1 ks is) (hkw : DK G X W kws fk) (hg : Gl X x := by rfl)
    (hall : (backToKw pos (keywordEach kws X.env)).all (·.1.isSome) = true := by rfl) (hks : (backToKw pos (keywordEach kws X.env)).filterMap (·.1) = ks := by rfl) (hdb : (x == ("__debug__" : Str)) = false := by decide)
    (hpl : ((backTo pos (starEach [] X.env)).any (·.1) || (backToKw pos (keywordEach kws X.env)).any (·.1.isNone)) = false := by rfl) :
    DE G X W (.Call (.Name x p) [] kws pos) (fMakeK m C ks.length is ps.length g fk) := by
  obtain ⟨f, fd, F0, hM, hm, hb, Fo⟩ := F.ex
  have hK := c.K
  refine peI (pe_makeK0_g (E := W) (by rw [hK]; exact hM) (by rw [hK]; exact Fo) c.gd (c.room.mono hj) hg hm (by rw [hK]; exact kbn_of F0 kb) c.passes hkw hall hks hdb hpl) fun σV H Q h => ?_
  obtain ⟨σ, w, S, R, A⟩ := h
  show tAF G W fk σV H _
  refine ⟨σ, w, S, R, (After.bind (R := G.Reps) A).mono fun zs H1 ⟨w1, ds, l1, S1, rs, A1⟩ => ?_⟩
  split at A1
  · rename_i hl
    exact ⟨rfl, by rw [← Reps.len rs]; exact hl.1, make_spK S1 rs hl.2 A1⟩
  · exact A1.elim
end
end DL
/-! text DL10 -/
namespace DLX
open PySem PySem.W PySem.Calls PyProof.Rows PySem.HandSPX Builtin Builtin.ObjectAttr
/-- the classes behind an own error: its parent E, a plain child of Exception -/
abbrev tailE (CE : Addr) : List Value := [.ref CE, .type "Exception", .type "BaseException", .type "object"]
theorem tailE_has (CE : Addr) (T : String) : (tailE CE).contains (.type T) = [Value.type "Exception", .type "BaseException", .type "object"].contains (.type T) := by
  rw [show tailE CE = Value.ref CE :: [Value.type "Exception", .type "BaseException", .type "object"] from rfl, List.contains_cons]
  rfl
theorem pass_E (self : Value) (C CE : Addr) : refuseLoop self "__setattr__" (.ref C :: tailE CE) = pure () := by
  rw [refuseLoop_ref, show tailE CE = Value.ref CE :: [Value.type "Exception", .type "BaseException", .type "object"] from rfl, refuseLoop_ref]
  exact F.store_Exception.passes self
section
variable {prog : Program} {w : World} {A : Around} {R : Result → Shared → Prop} {hp : Heap} {g : Array GenState} {d : Drawn} {t : Nat} {os : OsState}
/-- the first attribute of a new error -/
theorem attr_new {K : Frag} {name : Str} {tk : Tok} {v : Value} {x C CE : Addr} {fv : Array Value} {cd : ClassData} (X : K.In hp) (hx : hp.get? x = some { cls := .ref C, data := .fields fv }) (hcd : clsIn K C = some cd) (hm : cd.mro = .ref C :: tailE CE) (hh : cd.hasDict = true)
    (ha : findIn K (.ref C) name = some none)
    (hq : ∀ h' tk' dx, (∀ b o, b ≠ x → hp.get? b = some o → h'.get? b = some o) → hp.objs.size ≤ dx → dx ≠ x → h'.get? x = some { cls := .ref C, dict := some dx, data := .fields fv } →
      h'.Ns1 dx (fun y => if y = name then some v else none) → R (.ok (.ret .none)) ⟨h', g, d, tk', os⟩) :
    codeAny (model prog w) A (.call (.builtin "object.__setattr__") ⟨[.ref x, .str name tk, v], []⟩) R ⟨hp, g, d, t, os⟩ := by
  have SF := F.store_object
  have J : InstAt hp x { cls := .ref C, data := .fields fv } C none := ⟨hx, rfl, rfl, trivial⟩
  have apart : x ≠ hp.objs.size := Nat.ne_of_lt (Heap.lt_size hx)
  have isObj : Looks (model prog w) hp (isInstance (.ref x) (.type "object")) true := by
    refine J.type.andThen (looks_mroIn X ?_)
    unfold mroIn
    rw [hcd, Option.bind_some, hm]
    rfl
  have theMro : Looks (model prog w) hp (mroOf (.ref C)) (.ref C :: tailE CE) := by
    rw [← hm]
    exact (looks_clsIn X hcd).andThen .now
  have theCls : Looks (model prog w) hp (classData C) cd := looks_clsIn X hcd
  have noTaker : Looks (model prog w) hp (storeTaker? none) none := .now
  refine codeAny_call_builtin SF.slot.plain SF.entry (@check_slot (model prog w) _ _ ⟨hp, g, d, t, os⟩ "object.__setattr__" "object" "__setattr__" (.ref x) [.str name tk, v] [] _ SF.kind SF.split isObj (SF.args (.ref x) (.str name tk) v) ?_)
  rw [osa_eq, refuse_eq]
  refine wpAny_bind (wpAny_bind (J.type.at (wpAny_bind (theMro.at ?_))))
  rw [pass_E]
  refine wpAny_pure (wpAny_bind (J.type.at (wpAny_bind ((looks_findIn X ha).at (wpAny_bind (noTaker.at ?_))))))
  show wpAny _ _ (storeInOwnDict (.ref x) (.ref C) (.str name tk) name v false) _ _ _
  obtain ⟨nm, bs, mro, ns, qn, hd, sn, sb, ab, col, del⟩ := cd
  dsimp only at hh
  subst hh
  unfold storeInOwnDict ownDictForStores
  repeat (first | with_reducible refine store_in_new ?_ ?_ | with_reducible refine wpAny_loadPart_at hx ?_ | with_reducible refine theCls.at ?_ | wp_step)
  · exact ⟨_, #[], _, (Heap.get?_update_ne _ _ _ _ apart.symm).trans (Heap.get?_push_at rfl rfl), rfl, fun e he => absurd he (by simp), fun _ => rfl⟩
  · intro h' tk' hn' hs
    have hx1 : (hp.push { cls := .type "dict", data := .dict #[] }).get? x = some { cls := .ref C, data := .fields fv } := Heap.get?_push_of_some _ hx
    refine hq h' tk' hp.objs.size (fun b o hb ho => ?_) (Nat.le_refl _) apart.symm ((hs.2 x apart).trans (Heap.get?_update_self _ hx1 rfl)) hn'
    exact (hs.2 b (Nat.ne_of_lt (Heap.lt_size ho))).trans ((Heap.get?_update_ne _ _ _ _ hb).trans (Heap.get?_push_of_some _ ho))
end
end DLX

namespace DL
open PySem PySem.Spec PyProof.Rows L2
/-- what the written part says of an own error class at C, child of the one at CE -/
structure ErrC (K : PySem.W.Frag) (C CE : Addr) : Prop where
  cls : ∃ nm q N bs sn sub ab col dd k0 k1 k2 k3 k5, K.lookup C = some (excClassObj nm q C N bs (DLX.tailE CE) true sn sub ab col dd k0 k1 k2 k3 k5 "Exception.__new__")
  sa : PySem.W.findIn K (.ref C) "__setattr__" = some (some (.builtin "object.__setattr__"))
  exC : PySem.W.subIn K (.ref C) (.type "BaseException") = some true
  tyC : PySem.W.typeIn K (.ref C) = some (.type "type")
  kC : PySem.W.keepIn K (.ref C) = true
  vE : PySem.W.findCls K (.ref CE) (.type "type") "__init__" = some (.val (.builtin "Exception.__init__"))
  gE : PySem.W.specialIn K (.ref CE) "__getattribute__" = some (some (.builtin "type.__getattribute__"))
  rE : PySem.W.readsIn K CE (.type "type") = true
section
variable {X : Cx} {pins : List (Addr × Obj)} {σ : L2.St} {H : Hp} {s : Shared} {a C CE dx : Addr} {f : Str} {y : V} {u : Value} {fs : List (Str × V)} {E : Value → Shared → Prop} {A : Around}
theorem err_store {Q : Unit → Shared → Prop} (T : ErrC X.K C CE) (I : Inv X pins σ H s) (e : H a = some (exo a C none)) (hno : PySem.W.findIn X.K (.ref C) f = some none) (ry : RelV y u)
    (h : ∀ dx s', H dx = none → dx ≠ a → Inv X pins σ (upd (upd H dx (exd dx [(f, y)])) a (exo a C (some dx))) s' → Q () s') : wpAny (model X.prog X.w) A (setAttr (.ref a) f u) Q E s := by
  obtain ⟨nm, q, N, bs, sn, sub, ab, col, dd, k0, k1, k2, k3, k5, hC⟩ := T.cls
  have hcl : PySem.W.clsIn X.K C = some { name := nm, bases := bs, mro := .ref C :: DLX.tailE CE, ns := N, qualname := q, hasDict := true, slotNames := sn, subclasses := sub, abstract := ab, collection := col, hasDel := false } := by
    unfold PySem.W.clsIn
    rw [hC] <;> rfl
  obtain ⟨t1, ho⟩ := exo_at I.hok e
  obtain ⟨hp, g, d, t, os⟩ := s
  refine PySem.W.set_plain I.kIn (ox := { cls := .ref C, dict := none, data := .fields #[.ref t1, .none, .none, .none, .bool false, .none] }) (od := none) ⟨ho, rfl, rfl, trivial⟩ T.sa ?_
  refine DLX.attr_new I.kIn ho hcl rfl rfl hno fun h' tk' dx keep fresh ne hx hn => ?_
  have hfr : H dx = none := I.hok.fresh fresh
  have old : ∀ {b : Addr} {o : Obj}, hp.get? b = some o → b ≠ dx := fun {b o} z => Nat.ne_of_lt (Nat.lt_of_lt_of_le (Heap.lt_size z) fresh)
  have nota : ∀ {b : Addr}, H b = none → b ≠ a := fun {b} n z => by rw [z, e] at n; cases n
  refine h dx _ hfr ne (I.un (t' := tk') ?_ fun b o z => ?_)
  · refine ⟨fun b o z n _ _ => keep b o (nota n) z, fun b o z n _ _ => ⟨o.slots, keep b o (nota n) z⟩, fun b o z n _ => ?_, fun b o z _ => ?_, fun b xs z => ?_, fun b o v z => ?_, fun b ps z => ⟨#[], ?_⟩⟩
    · rw [upd_ne (nota n), upd_ne (old z)]; exact n
    · by_cases hb : b = a
      · exact ⟨_, by rw [hb]; exact hx⟩
      · exact ⟨o, keep b o hb z⟩
    · rw [upd_ne (at_ne e z exo_tup), upd_ne (ne_of_none z hfr)]; exact z
    · rw [upd_ne (at_ne e z exo_frz), upd_ne (ne_of_none z hfr)]; exact z
    · rw [upd_ne (at_ne e z exo_tbl), upd_ne (ne_of_none z hfr), z]; simp
  · by_cases hb : b = a
    · subst hb
      rw [upd_same] at z
      cases z
      exact exo_ok hx
    · rw [upd_ne hb] at z
      by_cases hd : b = dx
      · subst hd
        rw [upd_same] at z
        cases z
        exact exd_ok hn (relO_put (fs := []) ry fun g => True.intro)
      · rw [upd_ne hd] at z
        refine (I.hok b o z).stay (fun c v hc k => keep c v ?_ k) (fun c hc => ?_) (fun c xs hc => ?_)
        · rcases hc with hc | hc
          · rw [hc]; exact hb
          · exact at_ne e hc exo_own
        · rw [upd_ne (at_ne e hc exo_own), upd_ne (ne_of_none hc hfr)]; exact hc
        · rw [upd_ne (at_ne e hc exo_tup), upd_ne (ne_of_none hc hfr)]; exact hc
/-- Exception.__init__(e, ..) -/
theorem err_init {us : List Value} {Q : Value → Shared → Prop} (T : ErrC X.K C CE) (I : Inv X pins σ H s) (e : H a = some (exo a C none)) (hl : us.length ≤ sizeLine) (h : ∀ s', Inv X pins σ H s' → Q .none s') :
    wpAny (model X.prog X.w) A (call (.builtin "Exception.__init__") (.ref a :: us)) Q E s := by
  obtain ⟨nm, q, N, bs, sn, sub, ab, col, dd, k0, k1, k2, k3, k5, hC⟩ := T.cls
  obtain ⟨t1, ho⟩ := exo_at I.hok e
  obtain ⟨hp, g, d, t, os⟩ := s
  refine wpAny_call (PySem.HandSPX.init_base F.excBase_Exception (DLX.tailE_has CE) (I.kIn _ _ hC) ho hl fun h' t2 k hx => ?_)
  have J := I.write (t' := t) (x := a) (e := a) (o := exo a C none) (by rw [e]; exact True.intro) (.inl rfl) k ⟨_, hx⟩ (exo_ok hx)
  have eu : upd H a (exo a C none) = H := by
    funext b
    by_cases hb : b = a
    · rw [hb, upd_same, e]
    · rw [upd_ne hb]
  rw [eu] at J
  exact h _ J
/-- EarlierError.__init__(self, 'text') -/
def tEIn (K : PySem.W.Frag) (CE : Addr) (ta : TA) : TE := fun σ H Q => ta σ H fun vs H1 => ∃ (a C : Addr) (ws : List V), vs = .ref a :: ws ∧ ws.length ≤ 1000 ∧ ErrC K C CE ∧ H1 a = some (exo a C none) ∧ Q .non H1
theorem pe_einit {pl : Sem Bool} {x : Str} {e : Expr} {es : List Expr} {ta : TA} {p1 p2 pos : Pos} (hg : Gl X x) (hm : X.mg x = some (.ref CE)) (hd : (x == ("__debug__" : Str)) = false) (ha : PA X (e :: es) ta)
    (hc : eval (.Call (.Attribute (.Name x p1) "__init__" p2) (e :: es) [] pos) X.env = (do
      let ov ← eval (.Name x p1) X.env
      standAt p2.atName
      let (f, first) ← holding [ov] (getMethod ov "__init__" pl)
      callWith pos f first (backTo pos (starEach (e :: es) X.env)) (backToKw pos (keywordEach [] X.env))) := by rfl)
    (he : starEach (e :: es) X.env = (false, eval e X.env) :: starEach es X.env := by rfl) (hpl : (backTo pos (starEach es X.env)).any (·.1) = false := by rfl)
    (T : ∃ C, ErrC X.K C CE) : PE X (.Call (.Attribute (.Name x p1) "__init__" p2) (e :: es) [] pos) (tEIn X.K CE ta) := by
  obtain ⟨C0, T0⟩ := T
  refine ⟨fun pins s σ H Q I h => ?_⟩
  refine PySem.W.methodCall_KW (ld_glob I hg hm ?_ hd) hc
  refine PySem.W.method_cls I.kIn T0.gE (PySem.W.cls_value I.kIn T0.rE T0.vE (by decide +kernel) ?_)
  show wpAny _ _ (callWith pos (Value.builtin "Exception.__init__") [] (backTo pos (starEach (e :: es) X.env)) []) _ _ _
  refine PyProof.Rows.callWith_method1 (thn (ha.run pos pins _ σ H _ (I.tok _) h) fun us s1 ⟨vs, H1, I1, r1, a, C, ws, ev, hl, T, ea, q⟩ => ?_) he hpl
  subst ev
  cases r1 with
  | @cons _ u0 _ ur ra rw' =>
    obtain rfl : u0 = Value.ref a := ra
    have hlen : ur.length ≤ sizeLine := by rw [← Paired.length rw', sizeLine_eq]; omega
    exact err_init T I1 ea hlen fun s' J => ⟨.non, H1, J, rfl, q⟩
/-- self.f = e on a new error -/
def tESt (K : PySem.W.Frag) (CE : Addr) (f : Str) (to te : TE) : TS := fun D σ H => te σ H fun y H1 => to σ H1 fun x H2 => ∃ a C : Addr, x = .ref a ∧ ErrC K C CE ∧ PySem.W.findIn K (.ref C) f = some none ∧
  H2 a = some (exo a C none) ∧ ∀ dx, H2 dx = none → dx ≠ a → D.nx σ (upd (upd H2 dx (exd dx [(f, y)])) a (exo a C (some dx)))
theorem ps_est {o e : Expr} {to te : TE} {p' pos : Pos} (ho : PE X o to) (he : PE X e te) (hs : swapsWith e (some (.Attribute o f p')) pos.line X.env = pure false := by rfl) : PS X (.Assign [.Attribute o f p'] e pos) (tESt X.K CE f to te) := by
  refine ⟨fun pins s σ H D I h => ?_⟩
  refine plainObj_wpAny_Assign_Attribute (thn (he.run pins s σ H _ I h) fun v s1 ⟨y, H1, I1, r1, q1⟩ => thn (ho.run pins s1 σ H1 _ I1 q1) fun u s2 ⟨x, H2, I2, r2, a, C, ex, T, hno, ea, q⟩ => ?_) hs
  subst ex
  obtain rfl : u = Value.ref a := r2
  exact err_store T I2 ea hno r1 fun dx s' n ne J => ⟨σ, _, J, q dx n ne⟩
end
/-- the promise of such an __init__ -/
def spErr (C : Addr) (f : Str) : Sp := fun vs H Q _ => ∃ (a : Addr) (v : V), vs = [.ref a, v] ∧ H a = some (exo a C none) ∧ ∀ dx, H dx = none → dx ≠ a → Q .non (upd (upd H dx (exd dx [(f, v)])) a (exo a C (some dx)))
section
variable {P : Program} {wd : World} {K : PySem.W.Frag} {mg : Str → Option Value} {base : Heap}
/-- def __init__(self, given): Parent.__init__(self, 'text'); self.given = given -/
theorem err_fn {st : Stmt} {f C CE : Addr} {fd : FuncData} {E attr : Str} {qual : Str} {txt : Str} {p1 p2 p3 p4 p5 p6 p7 p8 p9 p10 : Pos} {kk : Nat} (F : Fun K "__init__" qual st f fd) (S : FnScope ["self", attr] ["self", attr] (defScope st))
    (hb : defBody st = [.Expr (.Call (.Attribute (.Name E p1) "__init__" p2) [.Name "self" p3, .Constant (.str txt) kk p4] [] p5) p6, .Assign [.Attribute (.Name "self" p7) attr p8] (.Name attr p9) p10])
    (hgl : (defScope st).names.lookup E = some .globalImplicit) (hself : (defScope st).names.lookup ("self" : Str) = some .local) (hat : (defScope st).names.lookup attr = some .local) (hE : (E == ("__debug__" : Str)) = false) (hA : (attr == ("__debug__" : Str)) = false) (hA2 : (attr == ("__classdict__" : Str)) = false)
    (T : ErrC K C CE) (hno : PySem.W.findIn K (.ref C) attr = some none) (hm : mg E = some (.ref CE)) {pl : Env → Sem Bool}
    (hc : ∀ env : Env, eval (.Call (.Attribute (.Name E p1) "__init__" p2) [.Name "self" p3, .Constant (.str txt) kk p4] [] p5) env = (do
      let ov ← eval (.Name E p1) env
      standAt p2.atName
      let (f, first) ← holding [ov] (getMethod ov "__init__" (pl env))
      callWith p5 f first (backTo p5 (starEach [.Name "self" p3, .Constant (.str txt) kk p4] env)) (backToKw p5 (keywordEach [] env))) := by intro env; rfl) : FnOg P wd K mg base (L2.CX P wd) 1 f fd ["self", attr] (spErr C attr) := by
  refine F.okG S (fun vs H Q E h => ?_) (fun cdv A outer s H vs Q E gd hr h => ?_)
  · obtain ⟨a, v, rfl, _⟩ := h
    rfl
  · obtain ⟨a, v, rfl, ha, k⟩ := h
    rw [hb]
    refine ⟨_, pss_cons (ps_expr (pe_einit (CE := CE) hgl hm hE (pa_cons (pe_var (i := 0) rfl (.inl hself)) (pa_cons pe_str pa_nil)) (hc _) (T := ⟨C, T⟩))) (pss_one (ps_est (CE := CE) (pe_var (i := 0) rfl (.inl hself)) (pe_var (i := 1) rfl (.inl hat) hA hA2))), ?_⟩
    refine ⟨.ref a, rfl, a, C, [.str txt], rfl, Nat.le_of_ble_eq_true rfl, T, ha, v, rfl, .ref a, rfl, a, C, rfl, T, hno, ha, k⟩
end
section
variable {X : Cx} {C CE fI : Addr} {attr : Str} {fd : FuncData} {x : Str} {p pos : Pos} {e : Expr}
/-- C(e): a new error with its attribute -/
def tMkE (C : Addr) (attr : Str) (ta : TA) : L2.St → Hp → XK → Prop := fun σ H Q => ta σ H fun vs H1 => ∃ v, vs = [v] ∧ ∀ d, H1 d = none → Q (.ref C) (some d) (upd H1 d (.xd [(attr, v)]))
theorem pmk_err {ta : TA} (T : ErrC X.K C CE) (iC : PySem.W.findIn X.K (.ref C) "__init__" = some (some (.ref fI))) (tI : PySem.W.typeIn X.K (.ref fI) = some (.type "function"))
    (F1 : FnOg X.prog X.w X.K X.mg X.base (L2.CX X.prog X.w) 1 fI fd ["self", attr] (spErr C attr)) (gd : X.A.guards = some []) (hr : Room 2 X.A) (hb : Binds X.K fd ["self", attr] []) (hg : Gl X x) (hm : X.mg x = some (.ref C)) (ha : PA X [e] ta)
    (hdb : (x == ("__debug__" : Str)) = false := by decide) (he : starEach [e] X.env = (false, eval e X.env) :: starEach [] X.env := by rfl) (hpl : (backTo pos (starEach [] X.env)).any (·.1) = false := by rfl) :
    PMk X (.Call (.Name x p) [e] [] pos) (tMkE C attr ta) := by
  intro pins s σ H Q I h
  obtain ⟨nm, q, N, bs, sn, sub, ab, col, dd, k0, k1, k2, k3, k5, hC⟩ := T.cls
  refine wpAny_Call_Name_kw (ld_glob I hg hm ?_ hdb)
  refine PySem.W.callWith_K (h₀ := X.base) I.ok.mod.kin T.kC (thn (ha.run pos pins s σ H _ I h) fun us s1 ⟨vs, H1, I1, r1, v, ev, q1⟩ => ⟨I1.kIn, ?_⟩) he hpl
  subst ev
  show wpAny _ _ (call (.ref C) us) _ _ _
  obtain ⟨hp, g, dr, tk, os⟩ := s1
  have hsz : hp.objs.size ≤ hp.objs.size + 1 := Nat.le_succ _
  have hn : H1 (hp.objs.size + 1) = none := I1.hok.fresh hsz
  have keep : ∀ b o, hp.get? b = some o → ((hp.push (PySem.W.kdv_tup us)).push (PySem.HandSPX.excO C hp.objs.size)).get? b = some o := fun b o z => Heap.get?_push_of_some _ (Heap.get?_push_of_some _ z)
  have hget : ((hp.push (PySem.W.kdv_tup us)).push (PySem.HandSPX.excO C hp.objs.size)).get? (hp.objs.size + 1) = some (PySem.HandSPX.excO C hp.objs.size) := by heap_get
  have I2 : Inv X pins σ (upd H1 (hp.objs.size + 1) (exo (hp.objs.size + 1) C none)) ⟨(hp.push (PySem.W.kdv_tup us)).push (PySem.HandSPX.excO C hp.objs.size), g, dr, tk, os⟩ := I1.laid (t' := tk) keep hsz (exo_ok hget)
  have r2 : Vals [V.ref (hp.objs.size + 1), v] (Value.ref (hp.objs.size + 1) :: us) := .cons rfl r1
  have hus : us.length ≤ sizeLine := by rw [← Paired.length r1, sizeLine_eq]; exact Nat.le_of_ble_eq_true rfl
  have hul : us.length = 1 := (Paired.length r1).symm
  refine wpAny_call (PySem.HandSPX.call_own F.excBase_Exception (DLX.tailE_has CE) (I1.kIn _ _ hC) (PySem.W.looks_findIn I1.kIn iC) (fun self => PySem.W.bind_fn I1.kIn self tI) hus
    (codeAny_mono (F1.run _ X.stack _ _ ⟨Value.ref (hp.objs.size + 1) :: us, []⟩ (Value.ref (hp.objs.size + 1) :: us) _
      (fun z H2 => z = .non ∧ ∃ d : Addr, H1 d = none ∧ d ≠ hp.objs.size + 1 ∧ H2 = upd (upd (upd H1 (hp.objs.size + 1) (exo (hp.objs.size + 1) C none)) d (exd d [(attr, v)])) (hp.objs.size + 1) (exo (hp.objs.size + 1) C (some d)))
      (fun _ _ _ => False) (make_gd gd) (hr.make C us []) (I2.env0.make C us []) (by have := hb _ (Value.ref (hp.objs.size + 1) :: us) I2.kIn (by simp [hul]); simpa using this) r2 ?_) fun r s' hq' => ?_))
  · refine ⟨_, v, rfl, upd_same, fun dx hdx ne => ⟨rfl, dx, ?_, ne, rfl⟩⟩
    rw [upd_ne ne] at hdx
    exact hdx
  · cases r with
    | error er =>
      obtain ⟨_, _, _, _, _, _, _, _, _, _, _, _, z⟩ := hq'
      exact z.elim
    | ok fl =>
      cases fl with
      | ret u =>
        obtain ⟨z, H2, os2, bare2, un2, hok2, rv, ez, d, hd1, ne, eH⟩ := hq'
        subst ez
        obtain ⟨h2, g2, d2, t2, os'⟩ := s'
        have e1 : H2 (hp.objs.size + 1) = some (exo (hp.objs.size + 1) C (some d)) := by rw [eH, upd_same]
        have e2 : H2 d = some (exd d [(attr, v)]) := by rw [eH, upd_ne ne, upd_same]
        have e3 : upd (del H2 (hp.objs.size + 1)) d (.xd [(attr, v)]) = upd H1 d (.xd [(attr, v)]) := by
          funext b
          by_cases hbd : b = d
          · subst hbd; rw [upd_same, upd_same]
          · rw [upd_ne hbd, upd_ne hbd]
            by_cases hba : b = hp.objs.size + 1
            · subst hba; rw [del_same, hn]
            · rw [del_ne hba, eH, upd_ne hba, upd_ne hbd, upd_ne hba]
        exact ⟨rv, mk_end (raises_own T.exC T.tyC) I1 hsz keep un2 hok2 os2 bare2 e1 e2 hd1 (by rw [e3]; exact q1 d hd1)⟩
      | next => exact False.elim hq'
      | brk => exact False.elim hq'
      | cont => exact False.elim hq'
end

/-! ### raise -/
/-- an own error class of the text: its number, its parent's place, its __init__ -/
structure ErG (G : Cf) (P : Program) (wd : World) (mg : Str → Option Value) (base : Heap) (x : Str) (c : Nat) (attr : Str) : Prop where
  ex : ∃ CE fI fd, ErrC G.K (G.ca c) CE ∧ mg x = some (.ref (G.ca c)) ∧ PySem.W.findIn G.K (.ref (G.ca c)) "__init__" = some (some (.ref fI)) ∧ PySem.W.typeIn G.K (.ref fI) = some (.type "function") ∧ Binds G.K fd ["self", attr] [] ∧
    FnOg P wd G.K mg base (L2.CX P wd) 1 fI fd ["self", attr] (spErr (G.ca c) attr)
  xa : G.xa c = some attr
  xf : XfC G.K (G.ca c)
  no : PySem.W.findIn G.K (.ref (G.ca c)) attr = some none
def sRaise (c : Nat) (fa : EF) : SF := fun σ μ => sBind (fa σ μ) σ fun d μ => .exc c (some d) μ
section
variable {G : Cf} {X : Cx} {W : XK} {k c : Nat} {x attr : Str} {e : Expr} {fe : EF} {p pos pos2 : Pos}
theorem s_raise (g : GX G X W k) (T : ErG G X.prog X.w X.mg X.base x c attr) (hk : 2 ≤ k) (he : DE G X W e fe) (hg : Gl X x := by rfl) (hdb : (x == ("__debug__" : Str)) = false := by decide)
    (hst : starEach [e] X.env = (false, eval e X.env) :: starEach [] X.env := by rfl) (hpl : (backTo pos (starEach [] X.env)).any (·.1) = false := by rfl) : DS G X W (.Raise (some (.Call (.Name x p) [e] [] pos)) none pos2) (sRaise c fe) := by
  obtain ⟨CE, fI, fd, T1, hm, iC, tI, hb, F1⟩ := T.ex
  have hK := g.K
  refine psI (ps_raise g.calm g.tk (pmk_err (by rw [hK]; exact T1) (by rw [hK]; exact iC) (by rw [hK]; exact tI) (by rw [hK]; exact F1) g.gd (g.room.mono hk) (by rw [hK]; exact hb) hg hm (pa_cons he pa_nil hst) hdb hst hpl)) fun E σV H h => ?_
  obtain ⟨σ, w, S, R, A⟩ := h
  refine ⟨σ, w, S, R, (AfS.bind (R := G.Rep) A R).mono fun v H1 ⟨w1, d, l1, S1, rv, R1, A1⟩ => ⟨v, rfl, fun dd hdd => ?_⟩⟩
  exact A1 w1 _ (some dd) rfl (Le.refl w1) (Stw.other S1 hdd _) ⟨dd, v, attr, rfl, T.xa, upd_same, rv⟩
end
end DL
/-! text DL11 -/
namespace L2
open PySem PySem.Spec PyProof.Rows
/-- an except clause: its class, the slot of its name, its suite's reading -/
structure Hd1 where
  c : Value
  i : Option Nat
  ts : Addr → Value → Option Addr → TS
def offS (σ : St) : Option Nat → St
  | none => σ
  | some i => σ.set i none
def onS (σ : St) (a : Addr) : Option Nat → St
  | none => σ
  | some i => σ.set i (some (.ref a))
def offD (D : Ends) (o : Option Nat) : Ends := { nx := fun σ' H' => D.nx (offS σ' o) H', rt := D.rt, bk := fun σ' H' => D.bk (offS σ' o) H', ct := fun σ' H' => D.ct (offS σ' o) H' }
def wHds (K : PySem.W.Frag) (Wout : WX) (D : Ends) : List Hd1 → WX
  | [] => Wout
  | h :: r => fun cls d σ H => ∃ b, PySem.W.exmOne K cls h.c = some b ∧ (b = true → ∀ a, H a = none → h.ts a cls d (offD D h.i) (onS σ a h.i) H) ∧ (b = false → wHds K Wout D r cls d σ H)
inductive HdsAs (X : Cx) : List ExceptHandler → List Hd1 → Prop
  | nil : HdsAs X [] []
  | plain {x : Str} {c : Value} {ts : Addr → Value → Option Addr → TS} {b0 : Stmt} {suite : List Stmt} {np pos' : Pos} {hds : List ExceptHandler} {l : List Hd1} (hc : Names X x c)
      (hsu : ∀ (a : Addr) (oe : Obj) (cls : Value) (d : Option Addr) (pn : List (Addr × Obj)), Zc cls d oe → (∃ vs, oe.data = .fields vs) → PSs (X.suite a ((a, oe) :: pn)) (b0 :: suite) (ts a cls d)) (r : HdsAs X hds l) :
      HdsAs X (.ExceptHandler (some (.Name x np)) none (b0 :: suite) pos' :: hds) (⟨c, none, ts⟩ :: l)
  | named {x n : Str} {i : Nat} {c : Value} {ts : Addr → Value → Option Addr → TS} {b0 : Stmt} {suite : List Stmt} {np pos' : Pos} {hds : List ExceptHandler} {l : List Hd1} (hc : Names X x c) (hi : X.N[i]? = some n) (hln : X.env.kindOf n = some .local)
      (hsu : ∀ (a : Addr) (oe : Obj) (cls : Value) (d : Option Addr) (pn : List (Addr × Obj)), Zc cls d oe → (∃ vs, oe.data = .fields vs) → PSs (X.suite a ((a, oe) :: pn)) (b0 :: suite) (ts a cls d)) (r : HdsAs X hds l) :
      HdsAs X (.ExceptHandler (some (.Name x np)) (some n) (b0 :: suite) pos' :: hds) (⟨c, some i, ts⟩ :: l)
section
variable {X : Cx} {body : List Stmt} {h0 : ExceptHandler} {hds : List ExceptHandler} {l : List Hd1} {pos : Pos} {tb : WX → TS} {Wout : WX}
theorem ps_try_hds (hs : X.stack = X.env :: X.outer) (hf : X.env.frame = some X.env.locals) (hN : X.N.Nodup) (tk : Takes X Wout)
    (hb : ∀ (W : WX) (pn : List (Addr × Obj)) (xe : Value → Shared → Prop), Takes (X.tr pn xe) W → PassesOwn (model X.prog X.w) X.A X.env xe → PSs (X.tr pn xe) body (tb W))
    (hh : HdsAs X (h0 :: hds) l) : PS X (.Try body (h0 :: hds) [] [] pos) (fun D σ H => tb (wHds X.K Wout D l) D σ H) := by
  refine ⟨fun pins s σ H D I h => ?_⟩
  have ok := I.ok
  have hfr : X.A.frames = some (X.env :: X.outer) := by rw [ok.frames, hs]
  refine wpAny_Try_except ?_
  refine wpAny_mono ((hb (wHds X.K Wout D l) (X.pn ++ pins) (fun e s1 => wpAny (model X.prog X.w) X.A (noteFrame e X.env) (fun _ s2 => wpAny (model X.prog X.w) X.A (setFlight e none) (fun _ s3 =>
    wpAny (model X.prog X.w) X.A (handleBy e X.env (h0 :: hds)) (SP X pins D) X.xe s3) X.xe s2) X.xe s1) (fun u s' xx => ?_) PassesOwn.looking).run [] s σ H D (I.toTry _) h) (fun f s1 hsp => ?_) (fun e s1 he => he)
  · obtain ⟨a, B, sI, pins', σ', H', cls, d, rfl, J', nb, up, sky, na, os, ag, w⟩ := xx
    have J : Inv X pins σ' H' sI := J'.ofTry ok
    have sky' : Sky B (X.env :: X.outer) a (Zc cls d) X.env.locals s'.heap := by rw [← hs]; exact sky
    show wpAny _ X.A (noteFrame (.ref a) X.env) _ _ _
    refine Sky.land Zc.steady hfr hf sky' fun h3 fl3 up3 => ?_
    have J3 : Inv X pins σ' H' { s' with heap := h3 } := J.landed nb fl3.1 (up.trans up3) os ag
    obtain ⟨oe3, vs3, he3, hz3, hd3⟩ := fl3.there
    have notFr : ∀ {h : Heap} {o : Obj} {vs : Array Value}, h.FunFrames B (X.env :: X.outer) → h.get? a = some o → o.data = .fields vs → a ∉ frs (X.env :: X.outer) := fun {h o vs} ff e dd hm => by
      obtain ⟨_, o', e', hnf⟩ := ff.mem hm
      rw [e] at e'; cases e'
      exact hnf _ dd
    have nfr := notFr fl3.2.2.1 he3 hd3
    have nL : a ≠ X.env.locals := fun z => nfr (List.mem_filterMap.mpr ⟨X.env, List.mem_cons_self, by rw [hf, z]⟩)
    have nF : a ∉ X.fs := fun hm => by
      obtain ⟨e, he, q⟩ := List.mem_filterMap.mp hm
      exact nfr (List.mem_filterMap.mpr ⟨e, List.mem_cons_of_mem _ he, q⟩)
    have S3 := J3.suite he3 hd3 na nL nF
    have LT : PySem.W.Looks (model X.prog X.w) h3 (typeOf (.ref a)) cls := fun A Q E s k q => wpAny_typeOf_ref (k _ _ he3) (by rw [hz3.1]; exact q)
    have LM : ∀ {c : Value} {b : Bool}, PySem.W.exmOne X.K cls c = some b → _ := fun {c b} hb1 => PySem.W.exm_one (M := model X.prog X.w) (J3.kIn) LT hb1
    have test : ∀ {x : Str} {c : Value} {np : Pos} (hc : Names X x c) {Q : Value → Shared → Prop} {E : Value → Shared → Prop}, Q c { s' with heap := h3 } → wpAny (model X.prog X.w) (X.A.mark (some (.ref a))) (eval (.Name x np) X.env) Q E { s' with heap := h3 } := fun {x c np} hc {Q E} q => by
      obtain ⟨hg, hdbg, hm | ⟨hm, hv, hnn⟩⟩ := hc
      · exact ld_glob (X := X.suite a ((a, oe3) :: (X.pn ++ pins))) S3 hg hm q hdbg
      · exact ld_blt (X := X.suite a ((a, oe3) :: (X.pn ++ pins))) S3 hg hm hv q hnn hdbg
    have go : ∀ {hds' : List ExceptHandler} {l' : List Hd1}, HdsAs X hds' l' → wHds X.K Wout D l' cls d σ' H' →
        wpAny (model X.prog X.w) X.A (handleBy (.ref a) X.env hds') (SP X pins D) X.xe { s' with heap := h3 } := by
      intro hds' l' hk
      induction hk with
      | nil =>
        intro w
        refine wpAny_handleBy_nil ?_
        obtain ⟨k1, k2, k3, oe, vs, T, oT, ts', he, hz, hd, h1, hr⟩ := id fl3
        unfold PySem.passOn
        refine wpAny_bind (wpAny_field he hd h1 ?_)
        rw [if_neg (by simp)]
        have fin : wpAny (model X.prog X.w) X.A (setFlight (.ref a) X.env.frame) (fun _ s4 => wpAny (model X.prog X.w) X.A (throw (.ref a) : Sem Flow) (SP X pins D) X.xe s4) X.xe { s' with heap := h3 } := by
          rw [hf]
          refine HandSPX.setFlight_upZ fl3 fun h4 hh4 up4 => wpAny_throw (tk _ _ ?_)
          exact ⟨a, B, sI, pins, σ', H', cls, d, rfl, J, nb, (up.trans up3).trans up4, .inr (.inr (by rw [hs]; exact hh4)), na, os, ag, w⟩
        first
          | exact wpAny_bind (wpAny_pure (wpAny_bind fin))
          | exact wpAny_bind fin
      | @plain x c ts b0 suite np pos' hds2 l2 hc hsu r ih =>
        intro w
        obtain ⟨b, hb1, hyes, hno⟩ := w
        refine wpAny_handleBy_cons (codeAny_handlers_test ?_) (by intro q; cases q)
        refine test hc ((LM hb1).here ?_)
        cases b with
        | true =>
          refine codeAny_handlers_suite ?_
          refine HandSPX.lands_againZ fl3 fun h4 fl4 up4 => ?_
          have J4 : Inv X pins σ' H' { s' with heap := h4 } := J.landed nb fl4.1 ((up.trans up3).trans up4) os ag
          obtain ⟨oe4, vs4, he4, hz4, hd4⟩ := fl4.there
          have S4 := J4.suite he4 hd4 na nL nF
          refine wpAny_mono ((hsu a oe4 cls d (X.pn ++ pins) hz4 ⟨_, hd4⟩).run [] _ _ H' _ S4 (hyes rfl a na)) (fun f s6 hsp => ?_) (fun _ _ z => False.elim z)
          cases f with
          | ret u =>
            obtain ⟨v6, σ6, H6, S6, r6, q6⟩ := hsp
            exact ⟨_, _, _, S6.unsuite ok, r6, q6⟩
          | _ =>
            obtain ⟨σ6, H6, S6, q6⟩ := hsp
            exact ⟨_, _, S6.unsuite ok, q6⟩
        | false => exact ih (hno rfl)
      | @named x n i c ts b0 suite np pos' hds2 l2 hc hi hln hsu r ih =>
        intro w
        obtain ⟨b, hb1, hyes, hno⟩ := w
        refine wpAny_handleBy_cons (codeAny_handlers_test ?_) (by intro q; cases q)
        refine test hc ((LM hb1).here ?_)
        cases b with
        | true =>
          refine codeAny_handlers_suite_as ?_
          refine HandSPX.lands_againZ fl3 fun h4 fl4 up4 => ?_
          have J4 : Inv X pins σ' H' { s' with heap := h4 } := J.landed nb fl4.1 ((up.trans up3).trans up4) os ag
          obtain ⟨oe4, vs4, he4, hz4, hd4⟩ := fl4.there
          have S4 := J4.suite he4 hd4 na nL nF
          refine store_ok (X := X.suite a ((a, oe4) :: (X.pn ++ pins))) (v := .ref a) S4 hN hi (.inl hln) rfl (fun s5 S5 => ?_) (.inr hln)
          refine wpAny_mono ((hsu a oe4 cls d (X.pn ++ pins) hz4 ⟨_, hd4⟩).run [] s5 _ H' _ S5 (hyes rfl a na)) (fun f s6 hsp => ?_) (fun _ _ z => False.elim z)
          have end_ : ∀ {σ6 : St} {H6 : Hp} {Q : Shared → Prop}, Inv (X.suite a ((a, oe4) :: (X.pn ++ pins))) [] σ6 H6 s6 → (∀ s7, Inv X pins (σ6.set i none) H6 s7 → Q s7) →
              wpAny (model X.prog X.w) X.A (do bindName X.env n .none; unbindBehindTheSuite X.env n pos') (fun _ s7 => Q s7) X.xe s6 := fun {σ6 H6 Q} S6 hq => gone_ok (S6.unsuite ok) hN hi hln hq
          cases f with
          | ret u =>
            obtain ⟨v6, σ6, H6, S6, r6, q6⟩ := hsp
            exact end_ S6 fun s7 J7 => ⟨_, _, _, J7, r6, q6⟩
          | _ =>
            obtain ⟨σ6, H6, S6, q6⟩ := hsp
            exact end_ S6 fun s7 J7 => ⟨_, _, J7, q6⟩
        | false => exact ih (hno rfl)
    exact go hh w
  · cases f with
    | next =>
      obtain ⟨σ', H', J', q⟩ := hsp
      exact wpAny_execs_nil ⟨σ', H', J'.ofTry ok, q⟩
    | ret u =>
      obtain ⟨v, σ', H', J', r, q⟩ := hsp
      exact ⟨v, σ', H', J'.ofTry ok, r, q⟩
    | _ =>
      obtain ⟨σ', H', J', q⟩ := hsp
      exact ⟨σ', H', J'.ofTry ok, q⟩
end
end L2
namespace DL
open PySem PySem.Spec PyProof.Rows L2
/-! ### try / except .. as n: return .. -/
abbrev HF := Nat → Option D → Store → SR
structure HdD where
  yes : List Nat
  no : List Nat
  hf : HF
def handle : List HdD → Nat → Option D → Store → SR
  | [], c, d, μ => .exc c d μ
  | h :: r, c, d, μ => if h.yes.contains c = true then (match h.hf c d μ with | .ret x μ' => .ret x μ' | _ => .stuck) else if h.no.contains c = true then handle r c d μ else .stuck
def sTry (fb : SF) (hs : List HdD) : SF := fun σ μ => match fb σ μ with
  | .exc c d μ' => handle hs c d μ'
  | r => r
section
variable {G : Cf} {X : Cx} {W : XK} {k : Nat}
/-- what a suite finds: slot i holds the exception, of the class numbered c, its dict at dd, its attribute's value dv -/
structure Fct (G : Cf) (i : Option Nat) (a : Addr) (cls : Value) (dd : Option Addr) (σV : L2.St) (H : Hp) (w : Wd) (c : Nat) (dv : Option D) : Prop where
  cl : cls = .ref (G.ca c)
  S : G.Stw w H
  xv : XVal G w H c dv dd
  sl : ∀ j, i = some j → σV[j]? = some (some (.ref a))
def tHd (G : Cf) (i : Option Nat) (hf : HF) (a : Addr) (cls : Value) (dd : Option Addr) : TS := fun E σV H => ∃ w c dv, Fct G i a cls dd σV H w c dv ∧ match hf c dv w.μ with
  | .ret x μ' => ∀ w' H' v, w'.μ = μ' → Le w w' → G.Stw w' H' → G.Rep w' x v → E.rt v H'
  | _ => False
def ExmAll (K : PySem.W.Frag) (ca : Nat → Addr) (v : Value) (b : Bool) (cs : List Nat) : Prop := ∀ c, c ∈ cs → PySem.W.exmOne K (.ref (ca c)) v = some b
inductive HdsG (G : Cf) (X : Cx) : List ExceptHandler → List HdD → Prop
  | nil : HdsG G X [] []
  | plain {x : Str} {v : Value} {yes no : List Nat} {hf : HF} {b0 : Stmt} {suite : List Stmt} {np pos' : Pos} {hds : List ExceptHandler} {l : List HdD} (hc : Names X x v) (hy : ExmAll G.K G.ca v true yes) (hn : ExmAll G.K G.ca v false no)
      (hsu : ∀ (a : Addr) (oe : Obj) (cls : Value) (d : Option Addr) (pn : List (Addr × Obj)), Zc cls d oe → (∃ vs, oe.data = .fields vs) → PSs (X.suite a ((a, oe) :: pn)) (b0 :: suite) (tHd G none hf a cls d)) (r : HdsG G X hds l) :
      HdsG G X (.ExceptHandler (some (.Name x np)) none (b0 :: suite) pos' :: hds) (⟨yes, no, hf⟩ :: l)
  | named {x n : Str} {v : Value} {yes no : List Nat} {hf : HF} {b0 : Stmt} {suite : List Stmt} {np pos' : Pos} {hds : List ExceptHandler} {l : List HdD} (i : Nat) (hc : Names X x v) (hy : ExmAll G.K G.ca v true yes) (hn : ExmAll G.K G.ca v false no)
      (hi : X.N[i]? = some n) (hln : X.env.kindOf n = some .local)
      (hsu : ∀ (a : Addr) (oe : Obj) (cls : Value) (d : Option Addr) (pn : List (Addr × Obj)), Zc cls d oe → (∃ vs, oe.data = .fields vs) → PSs (X.suite a ((a, oe) :: pn)) (b0 :: suite) (tHd G (some i) hf a cls d)) (r : HdsG G X hds l) :
      HdsG G X (.ExceptHandler (some (.Name x np)) (some n) (b0 :: suite) pos' :: hds) (⟨yes, no, hf⟩ :: l)
theorem handle_ok (hK : X.K = G.K) {hds : List ExceptHandler} {l : List HdD} (h : HdsG G X hds l) : ∃ l' : List Hd1, HdsAs X hds l' ∧ ∀ (E : Ends) (c : Nat) (dv : Option D) (dd : Option Addr) (w : Wd) (σV : L2.St) (H : Hp),
    σV.length = X.N.length → G.Stw w H → XVal G w H c dv dd → AfS G W E w (handle l c dv w.μ) → wHds X.K (fun c d _ H => W c d H) E l' (.ref (G.ca c)) dd σV H := by
  have body : ∀ {v : Value} {yes no : List Nat} {hf : HF} {l0 : List HdD} {l1 : List Hd1} {i : Option Nat} (hy : ExmAll G.K G.ca v true yes) (hn : ExmAll G.K G.ca v false no) (hi : ∀ j, i = some j → j < X.N.length)
      (ih : ∀ (E : Ends) (c : Nat) (dv : Option D) (dd : Option Addr) (w : Wd) (σV : L2.St) (H : Hp), σV.length = X.N.length → G.Stw w H → XVal G w H c dv dd → AfS G W E w (handle l0 c dv w.μ) → wHds X.K (fun c d _ H => W c d H) E l1 (.ref (G.ca c)) dd σV H),
      ∀ (E : Ends) (c : Nat) (dv : Option D) (dd : Option Addr) (w : Wd) (σV : L2.St) (H : Hp), σV.length = X.N.length → G.Stw w H → XVal G w H c dv dd → AfS G W E w (handle (⟨yes, no, hf⟩ :: l0) c dv w.μ) →
        wHds X.K (fun c d _ H => W c d H) E (⟨v, i, tHd G i hf⟩ :: l1) (.ref (G.ca c)) dd σV H := by
    intro v yes no hf l0 l1 i hy hn hi ih E c dv dd w σV H hl S xv A
    simp only [handle] at A
    by_cases h1 : yes.contains c = true
    · rw [if_pos h1] at A
      refine ⟨true, by rw [hK]; exact hy c (List.contains_iff_mem.mp h1), fun _ a ha => ?_, fun z => by cases z⟩
      refine ⟨w, c, dv, ⟨rfl, S, xv, fun j hj => ?_⟩, ?_⟩
      · subst hj
        show (σV.set j (some (V.ref a)))[j]? = _
        rw [List.getElem?_set_self (by rw [hl]; exact hi j rfl)]
      · cases hr : hf c dv w.μ with
        | ret x μ' =>
          rw [hr] at A
          intro w' H' u e l S' r
          have := A w' H' u e l S' r
          cases i <;> exact this
        | _ => rw [hr] at A; exact A.elim
    · rw [if_neg h1] at A
      by_cases h2 : no.contains c = true
      · rw [if_pos h2] at A
        exact ⟨false, by rw [hK]; exact hn c (List.contains_iff_mem.mp h2), (fun z => by cases z), fun _ => ih E c dv dd w σV H hl S xv A⟩
      · rw [if_neg h2] at A
        exact A.elim
  induction h with
  | nil =>
    refine ⟨[], .nil, fun E c dv dd w σV H hl S xv A => ?_⟩
    exact A w H dd rfl (Le.refl w) S xv
  | plain hc hy hn hsu r ih =>
    obtain ⟨l1, h1, q⟩ := ih
    exact ⟨_, .plain hc hsu h1, body hy hn (fun j z => by cases z) q⟩
  | named i hc hy hn hi hln hsu r ih =>
    obtain ⟨l1, h1, q⟩ := ih
    refine ⟨_, .named hc hi hln hsu h1, body hy hn (fun j z => ?_) q⟩
    cases z
    exact (List.getElem?_eq_some_iff.mp hi).1
theorem s_try {body : List Stmt} {h0 : ExceptHandler} {hds : List ExceptHandler} {l : List HdD} {fb : SF} {pos : Pos} (g : GX G X W k) (hb : ∀ (W' : XK) (pn : List (Addr × Obj)) (xe : Value → Shared → Prop), GX G (X.tr pn xe) W' k → DSs G (X.tr pn xe) W' body fb)
    (hh : HdsG G X (h0 :: hds) l) (hs : X.stack = X.env :: X.outer := by rfl) (hf : X.env.frame = some X.env.locals := by rfl) : DS G X W (.Try body (h0 :: hds) [] [] pos) (sTry fb l) := by
  obtain ⟨l', h1, q⟩ := handle_ok (W := W) g.K hh
  refine psI (ps_try_hds (Wout := fun c d _ H => W c d H) (tb := fun W1 => tS G (fun c d H => ∀ σ : L2.St, σ.length = X.N.length → W1 c d σ H) fb) hs hf g.nd g.tk (fun W1 pn xe tk po => hb _ pn xe ⟨g.K, g.calm, g.room, g.nd, ?_, po, g.gd⟩) h1) fun E σV H h => ?_
  · intro u s' xx
    obtain ⟨a, B, sI, pins, σ, H, cls, d, e, I, nb, up, sky, na, os, ag, w⟩ := xx
    exact tk u s' ⟨a, B, sI, pins, σ, H, cls, d, e, I, nb, up, sky, na, os, ag, w σ I.len⟩
  · obtain ⟨σ, w, S, R, A⟩ := h
    refine ⟨σ, w, S, R, ?_⟩
    unfold sTry at A
    cases hr : fb σ w.μ with
    | exc c d μ' =>
      rw [hr] at A
      intro w' H' dd e l S' xv σ6 hl
      subst e
      exact q E c d dd w' σ6 H' hl S' xv (A.le l)
    | _ => rw [hr] at A; exact A
/-! ### the suites -/
abbrev IF1 := Nat → Option D → Option D
def tHV (G : Cf) (i : Option Nat) (f : IF1) (a : Addr) (cls : Value) (dd : Option Addr) : TE := fun σV H Q => ∃ w c dv d, Fct G i a cls dd σV H w c dv ∧ f c dv = some d ∧ ∀ v, G.Rep w d v → Q v H
def tHVs (G : Cf) (i : Option Nat) (f : Nat → Option D → Option (List D)) (a : Addr) (cls : Value) (dd : Option Addr) : TA := fun σV H Q => ∃ w c dv d, Fct G i a cls dd σV H w c dv ∧ f c dv = some d ∧ ∀ v, G.Reps w d v → Q v H
def tHE (G : Cf) (i : Option Nat) (f : Nat → Option D → Store → Option (D × Store)) (a : Addr) (cls : Value) (dd : Option Addr) : TE := fun σV H Q => ∃ w c dv, Fct G i a cls dd σV H w c dv ∧ AftO G w (f c dv w.μ) Q
def hC (d : D) : IF1 := fun _ _ => some d
def hAt (xa : Nat → Option Str) (n : Str) : IF1 := fun c dv => if xa c = some n then dv else none
def hNil : Nat → Option D → Option (List D) := fun _ _ => some []
def hCons (f : IF1) (g : Nat → Option D → Option (List D)) : Nat → Option D → Option (List D) := fun c dv => match f c dv, g c dv with
  | some d, some ds => some (d :: ds)
  | _, _ => none
def hV (f : IF1) : Nat → Option D → Store → Option (D × Store) := fun c dv μ => match f c dv with
  | some d => some (d, μ)
  | none => none
def hLst (m : Bool) (f : Nat → Option D → Option (List D)) : Nat → Option D → Store → Option (D × Store) := fun c dv μ => match f c dv with
  | some ds => if ds.length ≤ 1000 then some (newL m ds μ) else none
  | none => none
def hRet (f : Nat → Option D → Store → Option (D × Store)) : HF := fun c dv μ => match f c dv μ with
  | some (d, μ') => .ret d μ'
  | none => .stuck
variable {a : Addr} {oe : Obj} {cls : Value} {d : Option Addr} {pn : List (Addr × Obj)} {i : Option Nat} {e : Expr} {es : List Expr} {f : IF1} {ff : Nat → Option D → Option (List D)} {pos : Pos}
theorem h_c {v : V} {dc : D} (h : ∀ {Y : Cx}, PE Y e (tC v)) (r : ∀ w, G.Rep w dc v) : PE (X.suite a pn) e (tHV G i (hC dc) a cls d) :=
  peI h fun σV H Q ⟨w, c, dv, d, F, e, q⟩ => by cases e; exact q _ (r w)
theorem h_str {x : Str} {j : Nat} : PE (X.suite a pn) (.Constant (.str x) j pos) (tHV G i (hC (.str x)) a cls d) := h_c (v := .str x) pe_str fun w => by simp only [Cf.Rep, Rep]
theorem h_int {x : Int} {j : Nat} : PE (X.suite a pn) (.Constant (.int x) j pos) (tHV G i (hC (.int x)) a cls d) := h_c (v := .int x) pe_int fun w => by simp only [Cf.Rep, Rep]
theorem h_bl {x : Bool} {j : Nat} : PE (X.suite a pn) (.Constant (.bool x) j pos) (tHV G i (hC (.bl x)) a cls d) := h_c (v := .bl x) pe_bl fun w => by simp only [Cf.Rep, Rep]
theorem h_non {j : Nat} : PE (X.suite a pn) (.Constant .none j pos) (tHV G i (hC .non) a cls d) := h_c (v := .non) pe_non fun w => by simp only [Cf.Rep, Rep]
/-- an own error's attribute can be read -/
structure XaT (G : Cf) (n : Str) : Prop where
  h : ∀ c, G.xa c = some n → XfC G.K (G.ca c) ∧ PySem.W.findIn G.K (.ref (G.ca c)) n = some none
theorem h_at {j : Nat} {x n : Str} {p : Pos} (hK : X.K = G.K) (T : XaT G n) (hz : Zc cls d oe) (hf : ∃ vs, oe.data = .fields vs) (hN : X.N[j]? = some x) (hv : Vis X.env.scope x) (hd : (x == ("__debug__" : Str)) = false := by decide) (hcd : (x == ("__classdict__" : Str)) = false := by decide) :
    PE (X.suite a ((a, oe) :: pn)) (.Attribute (.Name x p) n pos) (tHV G (some j) (hAt G.xa n) a cls d) := by
  refine ⟨fun pins s σ H Q I h => ?_⟩
  obtain ⟨w, c, dv, d1, F, e1, q⟩ := h
  unfold hAt at e1
  split at e1
  · rename_i hx
    subst e1
    obtain ⟨T1, T2⟩ := T.h c hx
    obtain ⟨p, v, f, e2, e3, e4, e5⟩ := F.xv
    have e6 : f = n := Option.some.inj (e3.symm.trans hx)
    subst e6
    refine (pe_xf (C := G.ca c) (by rw [hK]; exact T1) (by rw [hK]; exact T2) hz hf (pe_var (X := X.suite a ((a, oe) :: pn)) (i := j) hN hv hd hcd)).run pins s σ H Q I ?_
    exact ⟨.ref a, F.sl j rfl, rfl, F.cl, p, _, v, e2, e4, by simp [List.lookup], q v e5⟩
  · cases e1
theorem hs_nil : PA (X.suite a pn) [] (tHVs G i hNil a cls d) := paI pa_nil fun σV H Q ⟨w, c, dv, d, F, e, q⟩ => by cases e; exact q _ Reps.nil
theorem hs_cons (h : PE (X.suite a pn) e (tHV G i f a cls d)) (r : PA (X.suite a pn) es (tHVs G i ff a cls d)) (hs : starEach (e :: es) X.env = (false, eval e X.env) :: starEach es X.env := by rfl) : PA (X.suite a pn) (e :: es) (tHVs G i (hCons f ff) a cls d) := by
  refine paI (pa_cons h r hs) fun σV H Q ⟨w, c, dv, dl, F, e, q⟩ => ?_
  unfold hCons at e
  split at e
  · rename_i d1 ds1 h1 h2
    cases e
    exact ⟨w, c, dv, d1, F, h1, fun v rv => ⟨w, c, dv, ds1, F, h2, fun vs rvs => q _ (Reps.cons rv rvs)⟩⟩
  · cases e
theorem h_v (h : PE (X.suite a pn) e (tHV G i f a cls d)) : PE (X.suite a pn) e (tHE G i (hV f) a cls d) := by
  refine peI h fun σV H Q ⟨w, c, dv, F, A⟩ => ?_
  unfold hV at A
  cases hfc : f c dv with
  | none => rw [hfc] at A; exact A.elim
  | some d1 => rw [hfc] at A; exact ⟨w, c, dv, d1, F, hfc, fun v rv => A.here F.S rv⟩
theorem h_lst (m : Bool) (h : PA (X.suite a pn) es (tHVs G i ff a cls d)) : PE (X.suite a pn) (.List es pos) (tHE G i (hLst m ff) a cls d) := by
  refine peI (pe_lst h) fun σV H Q ⟨w, c, dv, F, A⟩ => ?_
  unfold hLst at A
  cases hfc : ff c dv with
  | none => rw [hfc] at A; exact A.elim
  | some ds =>
    rw [hfc] at A
    by_cases hl : ds.length ≤ 1000
    · simp only [if_pos hl] at A
      refine ⟨w, c, dv, ds, F, hfc, fun vs rv => ⟨?_, newL_ok F.S rv A⟩⟩
      exact sz_le (by rw [← Reps.len rv]; exact cap_small hl)
    · simp only [if_neg hl] at A
      exact A.elim
theorem h_ret {fe : Nat → Option D → Store → Option (D × Store)} (h : PE (X.suite a pn) e (tHE G i fe a cls d)) : PSs (X.suite a pn) [.Return (some e) pos] (tHd G i (hRet fe) a cls d) := by
  refine pssI (pss_one (ps_ret h)) fun E σV H ⟨w, c, dv, F, A⟩ => ?_
  refine ⟨w, c, dv, F, ?_⟩
  unfold hRet at A
  cases hfe : fe c dv w.μ with
  | none => rw [hfe] at A; exact A.elim
  | some r =>
    obtain ⟨x, μ'⟩ := r
    rw [hfe] at A
    intro w' H' v e l S r
    exact A w' H' v e l S r
end
end DL
/-! text DL12 -/
/-! a set of the ints and texts of a list or tuple -/
namespace DLS
open PySem PySem.Spec PyProof.Rows L2
def has (l : List Key) (k : Key) : Bool := l.any fun j => decide (j = k)
theorem has_cons (a : Key) (l : List Key) (k : Key) : has (a :: l) k = (decide (a = k) || has l k) := by simp [has]
/-- the different keys of a list, the last one first -/
def seen (xs : List Key) : List Key := xs.foldl (fun acc k => if has acc k = true then acc else k :: acc) []
theorem seen_snoc (xs : List Key) (k : Key) : seen (xs ++ [k]) = if has (seen xs) k = true then seen xs else k :: seen xs := by
  unfold seen
  rw [List.foldl_append]
  rfl
theorem seen_len (xs : List Key) : (seen xs).length ≤ xs.length := by
  suffices h : ∀ (ys acc : List Key), (ys.foldl (fun acc k => if has acc k = true then acc else k :: acc) acc).length ≤ acc.length + ys.length from by simpa [seen] using h xs []
  intro ys
  induction ys with
  | nil => intro acc; simp
  | cons y r ih =>
    intro acc
    rw [List.foldl_cons]
    refine Nat.le_trans (ih _) ?_
    split <;> simp only [List.length_cons] <;> omega
structure KeysAre (us : List Value) (xs : List Key) : Prop where
  len : us.length = xs.length
  nth : ∀ (i : Nat) (v : Value), us[i]? = some v → ∃ k, xs[i]? = some k ∧ RelV (kV k) v
section
variable {prog : Program} {w : World} {A : Around} {R : Result → Shared → Prop} {I : Addr} {fp wr : List Addr} {G : Array GenState → Array GenState → Prop} {n : Nat} {P : Nat → Value → Prop} {St : Nat → Shared → Prop}
theorem sameSet {h : Heap} {a : Addr} {S S' : Key → Bool} {m m' : Nat} (x : h.SetOf (mixKind prog w) a S m) (e : ∀ k, S k = S' k) (em : m = m') : h.SetOf (mixKind prog w) a S' m' := by
  rw [← (funext e : S = S'), ← em]; exact x
theorem freshSet {h : Heap} {a : Addr} {ld : Bool} (e : h.get? a = some { cls := .type "set", dict := none, data := .set #[] 0 (.fresh 0 0 ld) }) : h.SetOf (mixKind prog w) a (fun _ => false) 0 :=
  ⟨_, #[], 0, _, e, ⟨rfl, rfl, rfl⟩, rfl, (fun e he => by simp at he), (fun k => by simp), (by decide), (by cases ld <;> rfl), rfl⟩
theorem SetOf.keep {h h' : Heap} {a : Addr} {S : Key → Bool} {m : Nat} (x : h.SetOf (mixKind prog w) a S m) (k : ∀ o, h.get? a = some o → h'.get? a = some o) : h'.SetOf (mixKind prog w) a S m := setOf_at x k
theorem loopKeys (W : WalksS prog w A.in1 I fp wr G n P St) (S : Addr) (nf : S ∉ fp) (xs : List Key) (hl : xs.length = n) (hb : n < 4000)
    (hv : ∀ i v, P i v → ∃ k, xs[i]? = some k ∧ RelV (kV k) v) :
    ∀ (k i : Nat) (s : Shared), n - i = k → i ≤ n → St i s → s.heap.SetOf (mixKind prog w) S (fun z => has (seen (xs.take i)) z) (seen (xs.take i)).length →
      (∀ s1, Moved (S :: wr) G s s1 → s1.heap.SetOf (mixKind prog w) S (fun z => has (seen xs) z) (seen xs).length → R (.ok (.ret .none)) s1) →
      codeAny (model prog w) A (.builtin "set.update.loop" ⟨[.ref S, .ref I], []⟩) R s := by
  have nw : S ∉ wr := fun z => nf (W.sub _ z)
  intro k
  induction k with
  | zero =>
    intro i s hk hi st hS hR
    obtain rfl : i = n := by omega
    refine codeAny_builtin F.entry_set_update_loop ?_
    rw [Around.under_plainId F.plain_set_update_loop _]
    refine wpAny_bind (W.done s _ _ st fun s1 mv => ?_)
    refine wpAny_pure (hR s1 (mv.mono fun b h => List.mem_cons_of_mem _ h) ?_)
    rw [List.take_of_length_le (by omega)] at hS
    exact SetOf.keep hS fun o e => mv.heap S o nw e
  | succ k ih =>
    intro i s hk hi st hS hR
    have lt : i < n := by omega
    refine codeAny_builtin F.entry_set_update_loop ?_
    rw [Around.under_plainId F.plain_set_update_loop _]
    refine wpAny_bind (W.item i s _ _ lt st fun v s1 pv st1 mv => ?_)
    obtain ⟨key, hk1, rv⟩ := hv i v pv
    have e1 : xs.take (i + 1) = xs.take i ++ [key] := by rw [List.take_succ, hk1]; rfl
    have hS1 := SetOf.keep hS fun o e => mv.heap S o nw e
    refine wpAny_bind (wpAny_holding ?_)
    unfold setAdd
    refine wpAny_holding (wpAny_bind ((mixKind prog w).pyHash (k := key) (kV_is rv) ?_))
    have room : (seen (xs.take i)).length + 1 < scanBound := by
      have := seen_len (xs.take i)
      rw [List.length_take] at this
      unfold scanBound
      omega
    refine wpAny_setAddHashed_of (s := { s1 with toks := s1.toks + 1 }) (kV_is rv) (key_scan rv) hS1 room fun h2 sb hS2 => ?_
    have hS3 : h2.SetOf (mixKind prog w) S (fun z => has (seen (xs.take (i + 1))) z) (seen (xs.take (i + 1))).length := by
      rw [e1, seen_snoc]
      refine sameSet hS2 (fun z => ?_) ?_
      · by_cases c : has (seen (xs.take i)) key = true
        · rw [if_pos c]
          by_cases ez : z = key
          · subst ez; simp [c]
          · simp [ez]
        · rw [if_neg c, has_cons]
          by_cases ez : z = key
          · subst ez; simp
          · simp [ez, Ne.symm ez]
      · by_cases c : has (seen (xs.take i)) key = true
        · rw [if_pos c, if_pos c]
        · rw [if_neg c, if_neg c]; rfl
    refine wpAny_pure ⟨plainId_quiet F.plain_set_update_loop _, ih (i + 1) _ (by omega) lt (W.frame _ s1 _ _ st1 (Nat.le_succ _) fun b hb o e => ?_) hS3 fun s4 m4 hS4 => ?_⟩
    · rw [sb.2 b fun z => nf (z ▸ hb)]; exact e
    · refine hR s4 (Moved.trans W.gtrans ((mv.mono fun b h => List.mem_cons_of_mem _ h).then_heap (Nat.le_succ _) fun b o hb e => ?_) m4) hS4
      rw [sb.2 b fun z => hb (z ▸ List.mem_cons_self)]; exact e
end
section
variable {prog : Program} {w : World} {A : Around} {E : Value → Shared → Prop} {s : Shared}
set_option maxHeartbeats 3200000 in
theorem set_of_list {l : Addr} {items : Array Value} {xs : List Key} {Q : Value → Shared → Prop}
    (hh : A.handled = none) (hl : s.heap.IsList l items) (hi : KeysAre items.toList xs) (hn1 : xs.length < 4000)
    (h : ∀ (h' : Heap) (tk : Nat), h'.SetOf (mixKind prog w) s.heap.objs.size (fun k' => has (seen xs) k') (seen xs).length →
      (∀ b o, b < s.heap.objs.size → s.heap.get? b = some o → h'.get? b = some o) → Q (.ref s.heap.objs.size) { s with heap := h', toks := tk }) :
    wpAny (model prog w) A (call (.type "set") [.ref l]) Q E s := by
  obtain ⟨c, tl, fmro⟩ := PySem.F.called_set.mro
  have fmade := PySem.F.called_set.made
  have fsub := PySem.F.called_set.sub
  refine wpAny_call (codeAny_of_tree ?_)
  show wpAny _ _ (callAny (.type "set") _) _ _ _
  refine wpAny_pure ⟨Code.quiet_builtin _ (by decide +kernel), codeAny_builtin PySem.F.entry_type_call ?_⟩
  rw [Around.under_plain (weight_type_call_type "set" [.ref l] []) rfl]
  have h1 := PySem.F.called_set.notType
  have h2 := PySem.F.called_set.canCreate
  have fct := PySem.F.typeCall_set_1 (.ref l)
  repeat (any_goals (first | assumption | wp_step))

  refine codeAny_mono (code_set_new_1 (.ref l) (E := E) (Q₁ := fun obj s1 => ∃ ld : Bool, obj = .ref s.heap.objs.size ∧ s1 = { s with heap := s.heap.push { cls := .type "set", dict := none, data := .set #[] 0 (.fresh 0 0 ld) } }) fun ld => ⟨ld, rfl, rfl⟩) fun r s1 hr => ?_
  cases r with
  | error e => exact hr
  | ok fl =>
    cases fl with
    | ret obj =>
      obtain ⟨ld, rfl, rfl⟩ := hr
      have gS : (s.heap.push { cls := .type "set", dict := none, data := .set #[] 0 (.fresh 0 0 ld) }).get? s.heap.objs.size = some { cls := .type "set", dict := none, data := .set #[] 0 (.fresh 0 0 ld) } := Heap.get?_push_size _ rfl
      have gT : Shared.TypeIs { s with heap := s.heap.push { cls := .type "set", dict := none, data := .set #[] 0 (.fresh 0 0 ld) } } (.ref s.heap.objs.size) "set" := ⟨_, gS, rfl⟩
      have fli := PySem.F.called_set.init.lookup
      have fbi := PySem.F.called_set.init.bind (.ref s.heap.objs.size)
      repeat (any_goals (first | assumption | wp_step))

      refine codeAny_mono (codeAny_call_builtin (R := wants (fun r s2 => r = .none ∧ ∃ h' tk, s2 = { s with heap := h', toks := tk } ∧
          h'.SetOf (mixKind prog w) s.heap.objs.size (fun k' => has (seen xs) k') (seen xs).length ∧
          (∀ b o, b < s.heap.objs.size → s.heap.get? b = some o → h'.get? b = some o)) E) PySem.F.called_set.init.plain PySem.F.entry_set_init (check_set_init_1 gT ?_)) fun r2 s2 qr => ?_
      · obtain ⟨ol, ol1, hcc, nl, hdd⟩ := hl
        obtain ⟨oc, od, dt, sl⟩ := ol
        simp only at hcc hdd
        subst hcc; subst hdd
        have gol : (s.heap.push { cls := .type "set", dict := none, data := .set #[] 0 (.fresh 0 0 ld) }).get? l = some { cls := .type "list", dict := od, data := .seq items nl, slots := sl } := Heap.get?_push_of_some _ ol1
        have hsls := PySem.F.sub_list_set
        have hslf := PySem.F.sub_list_frozenset
        have nd : (Value.type "list" == Value.type "dict") = false := by decide
        have gl1 : (s.heap.push { cls := .type "set", dict := none, data := .set #[] 0 (.fresh 0 0 ld) }).IsList l items := ⟨_, gol, rfl, nl, rfl⟩
        unfold Builtin.«set.__init__»
        unfold noKeywords Builtin.Frozenset.updateFrom
        generalize ePI : pyIter = PI
        wp_walk
        subst ePI

        refine wpAny_pyIter_list gl1 ?_
        refine wpAny_bind (wpAny_runValue ?_)
        have glS : l < s.heap.objs.size := Heap.lt_size ol1
        have gh3 : A.in1.in1.in1.handled = none := by simp [hh]
        have gne : l ≠ (s.heap.push { cls := .type "set", dict := none, data := .set #[] 0 (.fresh 0 0 ld) }).objs.size := by
          rw [Heap.size_push]; exact Nat.ne_of_lt (Nat.lt_succ_of_lt glS)
        have gSf : s.heap.objs.size ∉ [(s.heap.push { cls := .type "set", dict := none, data := .set #[] 0 (.fresh 0 0 ld) }).objs.size, l] := by
          rw [Heap.size_push]; simp only [List.mem_cons, List.mem_singleton, List.not_mem_nil, or_false, not_or]
          exact ⟨Nat.ne_of_lt (Nat.lt_succ_self _), Nat.ne_of_gt glS⟩
        have gsz : xs.length = items.size := by rw [← hi.len, Array.length_toList]
        have gval : ∀ (i : Nat) (v : Value), items[i]? = some v → ∃ k, xs[i]? = some k ∧ RelV (kV k) v := fun i v hv => hi.nth i v (by rw [Array.getElem?_toList]; exact hv)
        refine loopKeys ((Walks.list gh3 _ l gne items).toS) s.heap.objs.size
          gSf xs gsz (by omega) gval (items.size - 0) 0 _ (by omega) (Nat.zero_le _)
          ⟨⟨_, Heap.get?_push_size _ rfl, rfl, rfl⟩, (gl1.push _)⟩ ?cS ?hR
        case cS =>
          have gget : ((s.heap.push { cls := .type "set", dict := none, data := .set #[] 0 (.fresh 0 0 ld) }).push { cls := .type "list_iterator", data := .fields #[.ref l, .int 0 0] }).get? s.heap.objs.size
              = some { cls := .type "set", dict := none, data := .set #[] 0 (.fresh 0 0 ld) } := Heap.get?_push_of_some _ gS
          exact sameSet (freshSet gget) (fun _ => rfl) rfl
        case hR =>
          intro s' mv bS
          obtain ⟨h', g', d', tk', os'⟩ := s'
          have eg : g' = s.gens := mv.gens
          have ed : d' = s.drawn := mv.drawn
          have eo : os' = s.os := mv.os
          subst eg; subst ed; subst eo
          show wpAny _ _ _ _ _ _
          refine wpAny_pure ?_
          show wpAny _ _ (ret Value.none) _ _ _
          refine wpAny_pure ⟨rfl, h', tk', rfl, bS, fun b o hb e => ?_⟩
          have hb1 : b ≠ s.heap.objs.size := Nat.ne_of_lt hb
          have hb2 : b ≠ (s.heap.push { cls := .type "set", dict := none, data := .set #[] 0 (.fresh 0 0 ld) }).objs.size := by
            rw [Heap.size_push]; exact Nat.ne_of_lt (Nat.lt_succ_of_lt hb)
          exact mv.heap b o (by simp only [List.mem_cons, List.mem_singleton, List.not_mem_nil, or_false, not_or]; exact ⟨hb1, hb2⟩) (Heap.get?_push_of_some _ (Heap.get?_push_of_some _ e))

      · cases r2 with
        | error e => exact qr
        | ok fl₂ =>
          cases fl₂ with
          | ret r =>
            obtain ⟨rfl, h', tk, rfl, bS, hk'⟩ := qr
            repeat (any_goals (first | assumption | wp_step))
            exact h _ _ bS hk'
          | _ => exact qr.elim
    | _ => exact hr.elim


set_option maxHeartbeats 3200000 in
theorem set_of_tuple {l : Addr} {items : Array Value} {xs : List Key} {Q : Value → Shared → Prop}
    (hh : A.handled = none) (hl : s.heap.IsTuple l items) (hi : KeysAre items.toList xs) (hn1 : xs.length < 4000)
    (h : ∀ (h' : Heap) (tk : Nat), h'.SetOf (mixKind prog w) s.heap.objs.size (fun k' => has (seen xs) k') (seen xs).length →
      (∀ b o, b < s.heap.objs.size → s.heap.get? b = some o → h'.get? b = some o) → Q (.ref s.heap.objs.size) { s with heap := h', toks := tk }) :
    wpAny (model prog w) A (call (.type "set") [.ref l]) Q E s := by
  obtain ⟨c, tl, fmro⟩ := PySem.F.called_set.mro
  have fmade := PySem.F.called_set.made
  have fsub := PySem.F.called_set.sub
  refine wpAny_call (codeAny_of_tree ?_)
  show wpAny _ _ (callAny (.type "set") _) _ _ _
  refine wpAny_pure ⟨Code.quiet_builtin _ (by decide +kernel), codeAny_builtin PySem.F.entry_type_call ?_⟩
  rw [Around.under_plain (weight_type_call_type "set" [.ref l] []) rfl]
  have h1 := PySem.F.called_set.notType
  have h2 := PySem.F.called_set.canCreate
  have fct := PySem.F.typeCall_set_1 (.ref l)
  repeat (any_goals (first | assumption | wp_step))

  refine codeAny_mono (code_set_new_1 (.ref l) (E := E) (Q₁ := fun obj s1 => ∃ ld : Bool, obj = .ref s.heap.objs.size ∧ s1 = { s with heap := s.heap.push { cls := .type "set", dict := none, data := .set #[] 0 (.fresh 0 0 ld) } }) fun ld => ⟨ld, rfl, rfl⟩) fun r s1 hr => ?_
  cases r with
  | error e => exact hr
  | ok fl =>
    cases fl with
    | ret obj =>
      obtain ⟨ld, rfl, rfl⟩ := hr
      have gS : (s.heap.push { cls := .type "set", dict := none, data := .set #[] 0 (.fresh 0 0 ld) }).get? s.heap.objs.size = some { cls := .type "set", dict := none, data := .set #[] 0 (.fresh 0 0 ld) } := Heap.get?_push_size _ rfl
      have gT : Shared.TypeIs { s with heap := s.heap.push { cls := .type "set", dict := none, data := .set #[] 0 (.fresh 0 0 ld) } } (.ref s.heap.objs.size) "set" := ⟨_, gS, rfl⟩
      have fli := PySem.F.called_set.init.lookup
      have fbi := PySem.F.called_set.init.bind (.ref s.heap.objs.size)
      repeat (any_goals (first | assumption | wp_step))

      refine codeAny_mono (codeAny_call_builtin (R := wants (fun r s2 => r = .none ∧ ∃ h' tk, s2 = { s with heap := h', toks := tk } ∧
          h'.SetOf (mixKind prog w) s.heap.objs.size (fun k' => has (seen xs) k') (seen xs).length ∧
          (∀ b o, b < s.heap.objs.size → s.heap.get? b = some o → h'.get? b = some o)) E) PySem.F.called_set.init.plain PySem.F.entry_set_init (check_set_init_1 gT ?_)) fun r2 s2 qr => ?_
      · obtain ⟨ol, ol1, hcc, nl, hdd⟩ := hl
        obtain ⟨oc, od, dt, sl⟩ := ol
        simp only at hcc hdd
        subst hcc; subst hdd
        have gol : (s.heap.push { cls := .type "set", dict := none, data := .set #[] 0 (.fresh 0 0 ld) }).get? l = some { cls := .type "tuple", dict := od, data := .seq items nl, slots := sl } := Heap.get?_push_of_some _ ol1
        have hsls := PySem.F.sub_tuple_set
        have hslf := PySem.F.sub_tuple_frozenset
        have nd : (Value.type "tuple" == Value.type "dict") = false := by decide
        have gl1 : (s.heap.push { cls := .type "set", dict := none, data := .set #[] 0 (.fresh 0 0 ld) }).IsTuple l items := ⟨_, gol, rfl, nl, rfl⟩
        unfold Builtin.«set.__init__»
        unfold noKeywords Builtin.Frozenset.updateFrom
        generalize ePI : pyIter = PI
        wp_walk
        subst ePI

        refine wpAny_pyIter_tuple gl1 ?_
        refine wpAny_bind (wpAny_runValue ?_)
        have glS : l < s.heap.objs.size := Heap.lt_size ol1
        have gh3 : A.in1.in1.in1.handled = none := by simp [hh]
        have gne : l ≠ (s.heap.push { cls := .type "set", dict := none, data := .set #[] 0 (.fresh 0 0 ld) }).objs.size := by
          rw [Heap.size_push]; exact Nat.ne_of_lt (Nat.lt_succ_of_lt glS)
        have gSf : s.heap.objs.size ∉ [(s.heap.push { cls := .type "set", dict := none, data := .set #[] 0 (.fresh 0 0 ld) }).objs.size, l] := by
          rw [Heap.size_push]; simp only [List.mem_cons, List.mem_singleton, List.not_mem_nil, or_false, not_or]
          exact ⟨Nat.ne_of_lt (Nat.lt_succ_self _), Nat.ne_of_gt glS⟩
        have gsz : xs.length = items.size := by rw [← hi.len, Array.length_toList]
        have gval : ∀ (i : Nat) (v : Value), items[i]? = some v → ∃ k, xs[i]? = some k ∧ RelV (kV k) v := fun i v hv => hi.nth i v (by rw [Array.getElem?_toList]; exact hv)
        refine loopKeys ((Walks.tuple gh3 _ l gne items).toS) s.heap.objs.size
          gSf xs gsz (by omega) gval (items.size - 0) 0 _ (by omega) (Nat.zero_le _)
          ⟨⟨_, Heap.get?_push_size _ rfl, rfl, rfl⟩, (gl1.push _)⟩ ?cS ?hR
        case cS =>
          have gget : ((s.heap.push { cls := .type "set", dict := none, data := .set #[] 0 (.fresh 0 0 ld) }).push { cls := .type "tuple_iterator", data := .fields #[.ref l, .int 0 0] }).get? s.heap.objs.size
              = some { cls := .type "set", dict := none, data := .set #[] 0 (.fresh 0 0 ld) } := Heap.get?_push_of_some _ gS
          exact sameSet (freshSet gget) (fun _ => rfl) rfl
        case hR =>
          intro s' mv bS
          obtain ⟨h', g', d', tk', os'⟩ := s'
          have eg : g' = s.gens := mv.gens
          have ed : d' = s.drawn := mv.drawn
          have eo : os' = s.os := mv.os
          subst eg; subst ed; subst eo
          show wpAny _ _ _ _ _ _
          refine wpAny_pure ?_
          show wpAny _ _ (ret Value.none) _ _ _
          refine wpAny_pure ⟨rfl, h', tk', rfl, bS, fun b o hb e => ?_⟩
          have hb1 : b ≠ s.heap.objs.size := Nat.ne_of_lt hb
          have hb2 : b ≠ (s.heap.push { cls := .type "set", dict := none, data := .set #[] 0 (.fresh 0 0 ld) }).objs.size := by
            rw [Heap.size_push]; exact Nat.ne_of_lt (Nat.lt_succ_of_lt hb)
          exact mv.heap b o (by simp only [List.mem_cons, List.mem_singleton, List.not_mem_nil, or_false, not_or]; exact ⟨hb1, hb2⟩) (Heap.get?_push_of_some _ (Heap.get?_push_of_some _ e))

      · cases r2 with
        | error e => exact qr
        | ok fl₂ =>
          cases fl₂ with
          | ret r =>
            obtain ⟨rfl, h', tk, rfl, bS, hk'⟩ := qr
            repeat (any_goals (first | assumption | wp_step))
            exact h _ _ bS hk'
          | _ => exact qr.elim
    | _ => exact hr.elim

end
section
variable {X : Cx}
/-- set(xs), xs a list or tuple of ints and texts -/
def rSetK (K : PySem.W.Frag) (P : Program) (w : World) : List V → Hp → VK → Prop := fun xs H Q => ∃ (l : Addr) (ks : List Key), xs = [.ref l] ∧ (SqL K H l (ks.map kV) ∨ SqT K H l (ks.map kV)) ∧ ks.length < 4000 ∧
  ∀ p, H p = none → Q (.ref p) (upd H p (SetK P w p (fun z => has (seen ks) z) (seen ks).length))
theorem keysAre_of {ks : List Key} {us : List Value} (r : Vals (ks.map kV) us) : KeysAre us ks := by
  refine ⟨by rw [← r.length, List.length_map], fun i v hv => ?_⟩
  have hi : i < ks.length := by
    have := (List.getElem?_eq_some_iff.mp hv).1
    rw [← r.length, List.length_map] at this
    exact this
  obtain ⟨u, hu, ru⟩ := r.get (i := i) (x := kV ks[i]) (by simp [hi])
  rw [hv] at hu
  cases hu
  exact ⟨ks[i], List.getElem?_eq_getElem hi, ru⟩
theorem cr_setOf (hc : X.calm = true) : CallR X (.type "set") (rSetK X.K X.prog X.w) := by
  intro pins s σ H xs us Q I r h
  obtain ⟨l, ks, rfl, hq, hl, q⟩ := h
  cases r with
  | @cons _ u0 _ ur r0 rt =>
  obtain rfl : u0 = Value.ref l := r0
  cases rt
  have fin : ∀ (h' : Heap) (tk : Nat), h'.SetOf (mixKind X.prog X.w) s.heap.objs.size (fun z => has (seen ks) z) (seen ks).length → (∀ b o, b < s.heap.objs.size → s.heap.get? b = some o → h'.get? b = some o) →
      EP X pins σ Q (.ref s.heap.objs.size) { s with heap := h', toks := tk } := fun h' tk hS hk =>
    ⟨.ref s.heap.objs.size, _, I.laid (t' := tk) (fun b o e => hk b o (Heap.lt_size e) e) (Nat.le_refl _) (setK_new hS), rfl, q _ (I.hok.fresh (Nat.le_refl _))⟩
  rcases hq with hq | hq
  · obtain ⟨its, r, pl, hz⟩ := I.list hq
    exact set_of_list (I.ok.hd hc) pl.isList (by simpa using keysAre_of r) hl fin
  · obtain ⟨its, r, pl, hz⟩ := I.tuple hq
    exact set_of_tuple (I.ok.hd hc) pl (by simpa using keysAre_of r) hl fin
/-- len(s) -/
def rLenK (P : Program) (w : World) : List V → Hp → VK → Prop := fun xs H Q => ∃ (l : Addr) (S : Key → Bool) (n : Nat), xs = [.ref l] ∧ H l = some (SetK P w l S n) ∧ Q (.int n) H
theorem cr_lenK : CallR X (.builtin "len") (rLenK X.prog X.w) := by
  intro pins s σ H xs us Q I r h
  obtain ⟨l, S, n, rfl, ha, q⟩ := h
  cases r with
  | @cons _ u0 _ ur r0 rt =>
  obtain rfl : u0 = Value.ref l := r0
  cases rt
  obtain ⟨o, es, ep, t, ho, hex, hd, _, _, hb, hf, hn⟩ := setK_get I ha
  refine call_len_set ho hex hd hf (by unfold scanBound at hb; omega) ⟨.int n, H, I.tok _, ⟨_, by rw [hn]⟩, q⟩
end
end DLS
namespace DL
open PySem PySem.Spec PyProof.Rows L2
def keyD : D → Option Key
  | .int i => some (.inl i)
  | .str x => some (.inr x)
  | _ => none
def keysD (xs : List D) : Option (List Key) := xs.mapM keyD
/-- len(set(e)) -/
def fLenSet (fe : EF) : EF := fun σ μ => (fe σ μ).bind fun d μ => match (getS μ d).bind keysD with
  | some ks => if ks.length < 4000 then .ok (.int (DLS.seen ks).length) μ else .stuck
  | none => .stuck
section
variable {G : Cf} {X : Cx} {W : XK} {e : Expr} {fe : EF} {p p2 q pos : Pos}
theorem keysD_ok {w : Wd} : ∀ {xs : List D} {ks : List Key} {vs : List V}, keysD xs = some ks → G.Reps w xs vs → vs = ks.map kV
  | [], ks, vs, h, r => by
    simp [keysD] at h
    subst h
    simpa [Cf.Reps, Reps] using r
  | x :: xs, ks, vs, h, r => by
    unfold keysD at h
    rw [List.mapM_cons] at h
    cases hx : keyD x with
    | none => rw [hx] at h; cases h
    | some k =>
      rw [hx] at h
      cases hr : xs.mapM keyD with
      | none => rw [hr] at h; cases h
      | some kr =>
        rw [hr] at h
        cases h
        simp only [Cf.Reps, Reps] at r
        obtain ⟨v, us, rfl, rv, rr⟩ := r
        rw [List.map_cons, ← keysD_ok (xs := xs) hr rr]
        congr 1
        cases x with
        | int i => cases hx; simpa [Rep, kV] using rv
        | str i => cases hx; simpa [Rep, kV] using rv
        | _ => cases hx
theorem d_lenSet (hc : X.calm = true) (hK : X.K = G.K) (hm : X.mg "len" = none) (hm2 : X.mg "set" = none) (he : DE G X W e fe) (hg : Gl X "len" := by rfl) (hg2 : Gl X "set" := by rfl)
    (ha : starEach [e] X.env = (false, eval e X.env) :: starEach [] X.env := by rfl) (ha2 : starEach [.Call (.Name "set" p2) [e] [] q] X.env = (false, eval (.Call (.Name "set" p2) [e] [] q) X.env) :: starEach [] X.env := by rfl) :
    DE G X W (.Call (.Name "len" p) [.Call (.Name "set" p2) [e] [] q] [] pos) (fLenSet fe) := by
  refine peI (pe_callB DLS.cr_lenK hg hm boot_len (pa_cons (pe_callTy (DLS.cr_setOf hc) hg2 hm2 boot_set (pa_cons he pa_nil ha) (by decide) (by decide) ha rfl) pa_nil ha2) (by decide) (by decide) ha2 rfl) fun σV H Q h => ?_
  obtain ⟨σ, w, S, R, A⟩ := h
  refine ⟨σ, w, S, R, (After.bind (R := G.Rep) A).mono fun v H1 ⟨w1, d, l1, S1, rd, A1⟩ => ?_⟩
  cases hs : getS w1.μ d with
  | none => rw [hs] at A1; exact A1.elim
  | some xs =>
    rw [hs, Option.bind_some] at A1
    cases hk : keysD xs with
    | none => rw [hk] at A1; exact A1.elim
    | some ks =>
      rw [hk] at A1
      by_cases hl : ks.length < 4000
      · simp only [if_pos hl] at A1
        obtain ⟨a, vs, rfl, sq, rs⟩ := getS_ok S1 rd hs
        obtain rfl := keysD_ok hk rs
        refine ⟨a, ks, rfl, by rw [hK]; exact sq, hl, fun pa hp => ?_⟩
        refine ⟨pa, _, _, rfl, upd_same, ?_⟩
        exact A1.now (Stw.other S1 hp _) (rep_int.mpr rfl)
      · simp only [if_neg hl] at A1
        exact A1.elim
end
end DL
/-! text DL13 -/
/-! repr of data -/
namespace DL
open PySem PySem.Spec PyProof.Rows L2
/-- data without any mutable thing or dict -/
def flatP : D → Option PyData
  | .non => some .none
  | .bl b => some (.bool b)
  | .int i => some (.int i)
  | .str x => some (.str x)
  | _ => none
def txtK : Key → Option PyData
  | .inr x => some (.str x)
  | _ => none
def dictP (ks : List Key) (xs : List D) : Option PyData := match ks.mapM txtK, xs.mapM flatP with
  | some a, some b => if a.length = b.length then some (.dict (a.zip b)) else none
  | _, _ => none
mutual
/-- data of tuples, and of dicts of nothing but texts and flat values -/
def toQ (μ : Store) : Nat → D → Option PyData
  | _, .non => some .none
  | _, .bl b => some (.bool b)
  | _, .int i => some (.int i)
  | _, .str x => some (.str x)
  | n + 1, .tup xs => (toQs μ n xs).map .tuple
  | _, .dK ks xs => dictP ks xs
  | _, .loc k => match μ[k]? with
    | some (.dK ks xs) => dictP ks xs
    | _ => none
  | _, _ => none
def toQs (μ : Store) : Nat → List D → Option (List PyData)
  | _, [] => some []
  | n, x :: xs => match toQ μ n x, toQs μ n xs with
    | some p, some ps => some (p :: ps)
    | _, _ => none
end
/-- what can be shown -/
def okP (p : PyData) : Bool := p.showable && decide (p.depth ≤ 60) && decide (p.shown.length ≤ cap)
def noD : PyData → Bool
  | .dict _ => false
  | _ => true
def reprD (μ : Store) (d : D) : Option Str := match flatP d with
  | some p => if okP p = true then some p.shown else none
  | none => match toP μ 12 d with
    | some p => if okP p = true ∧ p.hasDict = false then some p.shown else none
    | none => match toQ μ 12 d with
      | some p => if okP p = true then some p.shown else none
      | none => none
def oRepr : OL := fun ds μ => match ds with
  | [d] => (reprD μ d).map fun z => (.str z, μ)
  | _ => none
section
variable {G : Cf} {X : Cx} {w : Wd} {H : Hp} {s : Shared} {pins : List (Addr × Obj)} {σ : L2.St}
theorem flatP_reads {h : Heap} {d : D} {v : V} {u : Value} {p : PyData} (r : G.Rep w d v) (ru : RelV v u) (e : flatP d = some p) : Reads h u p [] := by
  cases d with
  | non => cases e; rw [rep_non] at r; subst r; cases ru; exact .none
  | bl b => cases e; rw [rep_bool] at r; subst r; cases ru; exact .bool b
  | int i => cases e; rw [rep_int] at r; subst r; obtain ⟨t, rfl⟩ := ru; exact .int i t
  | str x => cases e; rw [rep_str] at r; subst r; obtain ⟨t, rfl⟩ := ru; exact .str x t
  | _ => cases e
theorem flatPs_reads {h : Heap} : ∀ {xs : List D} {vs : List V} {us : List Value} {ps : List PyData}, G.Reps w xs vs → Vals vs us → xs.mapM flatP = some ps → ReadsAll h us ps []
  | [], vs, us, ps, r, ru, e => by
    simp at e; subst e
    simp only [Cf.Reps, Reps] at r; subst r
    cases ru
    exact .nil
  | x :: xs, vs, us, ps, r, ru, e => by
    simp only [Cf.Reps, Reps] at r
    obtain ⟨v, vr, rfl, rv, rr⟩ := r
    rw [List.mapM_cons] at e
    cases hx : flatP x with
    | none => rw [hx] at e; cases e
    | some p =>
      rw [hx] at e
      cases hr : xs.mapM flatP with
      | none => rw [hr] at e; cases e
      | some pr =>
        rw [hr] at e
        cases e
        cases ru with
        | cons a b => exact ReadsAll.cons (as := []) (bs := []) (flatP_reads rv a hx) (flatPs_reads rr b hr)
theorem keys_reads {h : Heap} : ∀ {es : List DictEntry} {kvs : List (Key × Value)} {ps : List PyData}, Pairs (mixKind X.prog X.w) es kvs → (kvs.map (·.1)).mapM txtK = some ps → ReadsAll h (es.map (·.key)) ps []
  | _, _, ps, .nil, e => by
    simp at e; subst e; exact .nil
  | _, _, ps, .cons (e := en) (kv := kv) (es := es) (kvs := kvs) hk hv hr, e => by
    rw [List.map_cons, List.mapM_cons] at e
    cases hx : txtK kv.1 with
    | none => rw [hx] at e; cases e
    | some p =>
      rw [hx] at e
      cases hr' : (kvs.map (·.1)).mapM txtK with
      | none => rw [hr'] at e; cases e
      | some pr =>
        rw [hr'] at e
        cases e
        rw [List.map_cons]
        refine ReadsAll.cons (as := []) (bs := []) ?_ (keys_reads hr hr')
        rcases keyIs_shape hk with ⟨i, t, e1, e2⟩ | ⟨x, t, e1, e2⟩
        · rw [e1] at hx; cases hx
        · rw [e1] at hx; cases hx; rw [e2]; exact .str x t
theorem vals_of_pairs : ∀ {es : List DictEntry} {kvs : List (Key × Value)}, Pairs (mixKind X.prog X.w) es kvs → es.map (·.val) = kvs.map (·.2)
  | _, _, .nil => rfl
  | _, _, .cons hk hv hr => by rw [List.map_cons, List.map_cons, hv, vals_of_pairs hr]
theorem dict_reads (I : Inv X pins σ H s) {a : Addr} {ks : List Key} {xs : List D} {vs : List V} {p : PyData} (hd : Rd H a (.dK (ks.zip vs))) (hl : ks.length = vs.length) (r : G.Reps w xs vs) (e : dictP ks xs = some p) : ∃ as, Reads s.heap (.ref a) p as ∧ sysModules ∉ as := by
  obtain ⟨hz, hsys, us, rk, o, es, ep, ho, hex, hdat, hkeys, hp, hn⟩ := dk_rd I.hok hd
  unfold dictP at e
  cases h1 : ks.mapM txtK with
  | none => rw [h1] at e; cases e
  | some pa =>
    cases h2 : xs.mapM flatP with
    | none => rw [h1, h2] at e; cases e
    | some pb =>
      rw [h1, h2] at e
      dsimp only at e
      split at e
      · rename_i hlen
        cases e
        have ek : us.map (·.1) = ks := by
          rw [← rk.keys, List.map_fst_zip (by omega)]
        have rv : Vals vs (us.map (·.2)) := by
          have hp2 : ∀ {kvs : List (Key × V)} {vs' : List (Key × Value)}, KV kvs vs' → Vals (kvs.map (·.2)) (vs'.map (·.2)) := by
            intro kvs vs' q
            unfold KV at q
            induction q with
            | nil => exact .nil
            | cons a b ih => exact .cons a.2 ih
          have := hp2 rk
          rwa [List.map_snd_zip (by omega)] at this
        refine ⟨a :: [] ++ [], .dict ho hex.1 hdat ?_ ?_, ?_⟩
        · rw [List.map_fst_zip (by omega)]
          exact keys_reads hp (by rw [ek]; exact h1)
        · rw [List.map_snd_zip (by omega), vals_of_pairs hp]
          exact flatPs_reads r rv h2
        · have : a ≠ sysModules := beq_eq_false_iff_ne.mp hsys
          simp [Ne.symm this]
      · cases e
mutual
theorem toQ_reads (S : G.Stw w H) (I : Inv X pins σ H s) : ∀ (n : Nat) (d : D) (v : V) (u : Value) (p : PyData), G.Rep w d v → RelV v u → toQ w.μ n d = some p → ∃ as, Reads s.heap u p as ∧ sysModules ∉ as
  | n, .non, v, u, p, r, ru, e => ⟨[], flatP_reads r ru (by cases n <;> simpa [toQ, flatP] using e), by simp⟩
  | n, .bl b, v, u, p, r, ru, e => ⟨[], flatP_reads r ru (by cases n <;> simpa [toQ, flatP] using e), by simp⟩
  | n, .int i, v, u, p, r, ru, e => ⟨[], flatP_reads r ru (by cases n <;> simpa [toQ, flatP] using e), by simp⟩
  | n, .str x, v, u, p, r, ru, e => ⟨[], flatP_reads r ru (by cases n <;> simpa [toQ, flatP] using e), by simp⟩
  | n + 1, .tup xs, v, u, p, r, ru, e => by
    simp only [toQ, Option.map_eq_some_iff] at e
    obtain ⟨ps, e, rfl⟩ := e
    obtain ⟨a, vs, rfl, q, rr⟩ := getT_ok S r rfl
    obtain rfl : u = Value.ref a := ru
    obtain ⟨its, rv, ⟨o, ho, hc, m, hd⟩, _⟩ := I.tuple (.of q)
    obtain ⟨as, h1, h2⟩ := toQs_reads S I n xs vs its ps rr rv e
    exact ⟨as, .tuple ho hc hd (by simpa using h1), h2⟩
  | n, .dK ks xs, v, u, p, r, ru, e => by
    have e : dictP ks xs = some p := by cases n <;> simpa [toQ] using e
    simp only [Cf.Rep, Rep] at r
    obtain ⟨a, vs, rfl, hd, hl, rr⟩ := r
    obtain rfl : u = Value.ref a := ru
    exact dict_reads I (Same.rd S.ex hd) hl rr e
  | n, .loc k, v, u, p, r, ru, e => by
    simp only [Cf.Rep, Rep] at r
    obtain ⟨hk, rfl⟩ := r
    obtain rfl : u = Value.ref (w.m k) := ru
    have e : (match w.μ[k]? with | some (.dK ks xs) => dictP ks xs | _ => none) = some p := by cases n <;> simpa [toQ] using e
    split at e
    · rename_i ks xs ho
      obtain ⟨_, vs, h1, h2, h3⟩ := S.ob k _ ho
      exact dict_reads I (.of h1) h2 h3 e
    · cases e
  | 0, .tup xs, v, u, p, r, ru, e => by simp [toQ] at e
  | n, .ty x, v, u, p, r, ru, e => by cases n <;> simp [toQ] at e
  | n, .rt x, v, u, p, r, ru, e => by cases n <;> simp [toQ] at e
  | n, .lst x, v, u, p, r, ru, e => by cases n <;> simp [toQ] at e
  | n, .rl x, v, u, p, r, ru, e => by cases n <;> simp [toQ] at e
  | n, .dT x y, v, u, p, r, ru, e => by cases n <;> simp [toQ] at e
  | n, .ins x y z, v, u, p, r, ru, e => by cases n <;> simp [toQ] at e
  | n, .ref x, v, u, p, r, ru, e => by cases n <;> simp [toQ] at e
  | n, .cls x, v, u, p, r, ru, e => by cases n <;> simp [toQ] at e
theorem toQs_reads (S : G.Stw w H) (I : Inv X pins σ H s) : ∀ (n : Nat) (xs : List D) (vs : List V) (us : List Value) (ps : List PyData), G.Reps w xs vs → Vals vs us → toQs w.μ n xs = some ps → ∃ as, ReadsAll s.heap us ps as ∧ sysModules ∉ as
  | n, [], vs, us, ps, r, ru, e => by
    simp only [toQs] at e; cases e
    simp only [Cf.Reps, Reps] at r; subst r
    cases ru
    exact ⟨[], .nil, by simp⟩
  | n, x :: xs, vs, us, ps, r, ru, e => by
    simp only [Cf.Reps, Reps] at r
    obtain ⟨v, vr, rfl, rv, rr⟩ := r
    simp only [toQs] at e
    split at e
    · rename_i p qs h1 h2
      cases e
      cases ru with
      | cons a b =>
        obtain ⟨as, q1, q2⟩ := toQ_reads S I n x v _ p rv a h1
        obtain ⟨bs, q3, q4⟩ := toQs_reads S I n xs vr _ qs rr b h2
        exact ⟨as ++ bs, .cons q1 q3, by simp [q2, q4]⟩
    · cases e
end
theorem repr_any {A : Around} {E : Value → Shared → Prop} {Q : Value → Shared → Prop} {u : Value} {p : PyData} {as : List Addr} (r : Reads s.heap u p as) (hok : okP p = true) (hsm : p.hasDict = true → sysModules ∉ as) (hg : A.guards = some []) (hu : A.units + 64 < cLine)
    (hQ : ∀ h' t tk, (∀ b o, s.heap.get? b = some o → h'.get? b = some o) → Q (.str p.shown t) { s with heap := h', toks := tk }) : wpAny (model X.prog X.w) A (call (.builtin "repr") [u]) Q E s := by
  unfold okP at hok
  simp only [Bool.and_eq_true, decide_eq_true_eq] at hok
  obtain ⟨⟨h1, h2⟩, h3⟩ := hok
  have h3' : p.shown.length ≤ sizeLine := sz_le h3
  cases r with
  | none => exact PySem.P.repr_of_none (by have := hQ s.heap s.toks (s.toks + 1) fun _ _ e => e; simpa only [PyData.shown] using this)
  | bool b => exact PySem.P.repr_of_bool (by have := hQ s.heap s.toks (s.toks + 1) fun _ _ e => e; simpa only [PyData.shown] using this)
  | int i t => exact PySem.P.repr_of_int (by simpa [PyData.showable] using h1) (by have := hQ s.heap s.toks (s.toks + 1) fun _ _ e => e; simpa only [PyData.shown] using this)
  | str x t => exact PySem.P.repr_of_str (by have := hQ s.heap s.toks (s.toks + 1) fun _ _ e => e; simpa only [PyData.shown] using this) (by simpa only [PyData.shown] using h3')
  | list a b c d => exact repr_of_reads' (.list a b c d) h1 hsm hg (by omega) (fun _ _ e => e) hQ h3'
  | tuple a b c d => exact repr_of_reads' (.tuple a b c d) h1 hsm hg (by omega) (fun _ _ e => e) hQ h3'
  | dict a b c d e => exact repr_of_reads' (.dict a b c d e) h1 hsm hg (by omega) (fun _ _ e => e) hQ h3'
theorem cr_Repr (hK : X.K = G.K) (hg : X.A.guards = some []) (hu : X.A.units + 64 < cLine) : CallR X (.builtin "repr") (rLO G oRepr) := by
  intro pins s σ H xs us Q I r h
  obtain ⟨w, ds, S, rs, A⟩ := h
  unfold oRepr at A
  split at A
  · rename_i d
    obtain ⟨v, rfl, rv⟩ := rs.one
    cases r with
    | @cons _ u _ ur ru rt =>
    cases rt
    cases hr : reprD w.μ d with
    | none => rw [hr] at A; exact A.elim
    | some z =>
      rw [hr] at A
      have fin : ∀ h' t tk, (∀ b o, s.heap.get? b = some o → h'.get? b = some o) → EP X pins σ Q (.str z t) { s with heap := h', toks := tk } := fun h' t tk k =>
        ⟨.str z, H, I.kept (t' := tk) k, ⟨t, rfl⟩, A.here S (rep_str.mpr rfl)⟩
      unfold reprD at hr
      split at hr
      · rename_i p hp
        split at hr
        · rename_i hok
          cases hr
          exact repr_any (flatP_reads rv ru hp) hok (fun _ => by simp) hg hu fin
        · cases hr
      · split at hr
        · rename_i p hp
          split at hr
          · rename_i hok
            cases hr
            have dp := toP_ok S 12 d v p rv hp
            rw [← hK] at dp
            obtain ⟨as, q⟩ := Dp.reads I p v u dp ru
            exact repr_any q hok.1 (PyData.noDict_hsm hok.2) hg hu fin
          · cases hr
        · split at hr
          · rename_i p hp
            split at hr
            · rename_i hok
              cases hr
              obtain ⟨as, q1, q2⟩ := toQ_reads S I 12 d v u p rv ru hp
              exact repr_any q1 hok (fun _ => q2) hg hu fin
            · cases hr
          · cases hr
  · exact A.elim
end
end DL
/-! text DL14 -/
/-! dicts: a written one asked for a text, displays, comprehensions -/
namespace DL
open PySem PySem.Spec PyProof.Rows L2
/-! ### a written dict -/
/-- a dict of the text at a, with the text keys ks -/
structure WDk (K : PySem.W.Frag) (w : World) (a : Addr) (ks : List Str) : Prop where
  ex : ∃ es n, KDict K w a es n ∧ ∀ z, (findBy Value.isStrOf es z).isSome = decide (z ∈ ks)
theorem keys_find {P : Params} {l : List DictEntry} {ks : List Str} (h : l.map He.keyOf = He.keysIn P ks) (z : Str) : ((l.find? fun e => Value.isStrOf z e.key).map (·.val)).isSome = decide (z ∈ ks) := by
  induction l generalizing ks with
  | nil =>
    cases ks with
    | nil => rfl
    | cons k ks => cases h
  | cons e l ih =>
    cases ks with
    | nil => cases h
    | cons k ks =>
      have h1 : He.keyOf e :: l.map He.keyOf = some (k, PyData.keyHash P k) :: He.keysIn P ks := h
      injection h1 with h2 h3
      unfold He.keyOf at h2
      split at h2
      · rename_i x t q
        have e5 : x = k := (Prod.mk.inj (Option.some.inj h2)).1
        rw [List.find?_cons, q]
        by_cases c : z = x
        · subst c
          have : Value.isStrOf z (.str z t) = true := by simp [Value.isStrOf]
          rw [this]
          simp [e5]
        · have : Value.isStrOf z (.str x t) = false := by
            cases hh : Value.isStrOf z (.str x t) with
            | false => rfl
            | true => exact absurd (by obtain ⟨t', e'⟩ := Value.isStrOf_shape hh; cases e'; rfl) c
          rw [this, ih h3]
          subst e5
          simp [c]
      · cases h2
theorem wdk_of {K : PySem.W.Frag} {w : World} {a : Addr} {ks : List Str} (h : He.dicW K a = some (He.keysIn w.params ks)) : WDk K w a ks := by
  obtain ⟨es, n, D⟩ := He.dicW_ok h
  refine ⟨es, n, D, fun z => ?_⟩
  have q : es.toList.map He.keyOf = He.keysIn w.params ks := by
    unfold He.dicW at h
    rw [D.at_] at h
    dsimp only at h
    split at h
    · exact Option.some.inj h
    · cases h
  have e := keys_find q z
  unfold findBy
  rw [← Array.find?_toList]
  exact e
def oInW (c : Nat) (ks : List Str) : O2 := fun d e μ => match d, e with
  | .str z, .cls b => if b = c then some (.bl (decide (z ∈ ks)), μ) else none
  | _, _ => none
def oNinW (c : Nat) (ks : List Str) : O2 := fun d e μ => match d, e with
  | .str z, .cls b => if b = c then some (.bl (!decide (z ∈ ks)), μ) else none
  | _, _ => none
section
variable {G : Cf} {X : Cx} {W : XK} {c : Nat} {ks : List Str}
theorem rep_ref {w : Wd} {v : V} {b : Addr} : G.Rep w (.ref b) v ↔ v = .ref b := by simp only [Cf.Rep, Rep]
theorem op_InW (hK : X.K = G.K) (T : WDk G.K X.w (G.ca c) ks) : OpR X (compareOp .In) (r2O G (oInW c ks)) := by
  intro pins s σ H x y v u Q I rx ry h
  obtain ⟨w, d, e, S, rd, re, A⟩ := h
  unfold oInW at A
  split at A
  · rename_i z b
    split at A
    · rename_i hb
      subst hb
      obtain ⟨es, n, D, hf⟩ := T.ex
      rw [rep_str] at rd; subst rd
      obtain rfl : y = V.ref (G.ca b) := by simpa only [Cf.Rep, Rep] using re
      obtain ⟨t, rfl⟩ := rx
      obtain rfl : u = Value.ref (G.ca b) := ry
      refine wpAny_in_of (PySem.strKind_is X.prog X.w z t) D.low (PySem.W.mapOf_K (prog := X.prog) I.kIn (by rw [hK]; exact D.at_) D.lit) ?_
      exact ⟨.bl (decide (z ∈ ks)), H, I.tok _, by rw [hf z]; rfl, A.here S (rep_bool.mpr rfl)⟩
    · exact A.elim
  · exact A.elim
theorem op_NinW (hK : X.K = G.K) (T : WDk G.K X.w (G.ca c) ks) : OpR X (compareOp .NotIn) (r2O G (oNinW c ks)) := by
  intro pins s σ H x y v u Q I rx ry h
  obtain ⟨w, d, e, S, rd, re, A⟩ := h
  unfold oNinW at A
  split at A
  · rename_i z b
    split at A
    · rename_i hb
      subst hb
      obtain ⟨es, n, D, hf⟩ := T.ex
      rw [rep_str] at rd; subst rd
      obtain rfl : y = V.ref (G.ca b) := by simpa only [Cf.Rep, Rep] using re
      obtain ⟨t, rfl⟩ := rx
      obtain rfl : u = Value.ref (G.ca b) := ry
      refine wpAny_notIn_of (PySem.strKind_is X.prog X.w z t) D.low (PySem.W.mapOf_K (prog := X.prog) I.kIn (by rw [hK]; exact D.at_) D.lit) ?_
      exact ⟨.bl (!decide (z ∈ ks)), H, I.tok _, by rw [hf z]; rfl, A.here S (rep_bool.mpr rfl)⟩
    · exact A.elim
  · exact A.elim
/-! ### keys and values side by side -/
def putA {α : Type} (ks : List Key) (xs : List α) (k : Key) (x : α) : List Key × List α := ((putP (ks.zip xs) k x).map (·.1), (putP (ks.zip xs) k x).map (·.2))
where putP (l : List (Key × α)) (k : Key) (x : α) : List (Key × α) := if (l.any fun p => decide (p.1 = k)) = true then l.map (fun p => if p.1 = k then (p.1, x) else p) else l ++ [(k, x)]
def newDk (m : Bool) (ks : List Key) (xs : List D) (μ : Store) : D × Store := if m = true then (.loc μ.length, μ ++ [.dK ks xs]) else (.dK ks xs, μ)
end
end DL
/-! text DL15 -/
/-! dict comprehensions and displays -/
namespace DL
open PySem PySem.Spec PyProof.Rows L2
def putP {α : Type} (l : List (Key × α)) (k : Key) (x : α) : List (Key × α) := if (l.any fun p => decide (p.1 = k)) = true then l.map (fun p => if p.1 = k then (p.1, x) else p) else l ++ [(k, x)]
section
variable {G : Cf} {X : Cx} {W : XK} {fi : IF} {g : TgF} {ft : BF} {fk fv : EF} {tg : Expr} {pos : Pos}
/-- keys and values as the heap has them -/
def KR (G : Cf) (w : Wd) (acc : List (Key × D)) (kvs : List (Key × V)) : Prop := kvs.map (·.1) = acc.map (·.1) ∧ G.Reps w (acc.map (·.2)) (kvs.map (·.2))
theorem KR.nil {w : Wd} : KR G w [] [] := ⟨rfl, Reps.nil⟩
theorem KR.len {w : Wd} {acc : List (Key × D)} {kvs : List (Key × V)} (r : KR G w acc kvs) : acc.length = kvs.length := by
  have := congrArg List.length r.1
  rw [List.length_map, List.length_map] at this
  exact this.symm
theorem KR.uncons {w : Wd} {p : Key × D} {acc : List (Key × D)} {q : Key × V} {kvs : List (Key × V)} (r : KR G w (p :: acc) (q :: kvs)) : q.1 = p.1 ∧ G.Rep w p.2 q.2 ∧ KR G w acc kvs := by
  obtain ⟨e, r⟩ := r
  simp only [List.map_cons, List.cons.injEq] at e
  simp only [List.map_cons, Cf.Reps, Reps] at r
  obtain ⟨v, vs, e2, r1, r2⟩ := r
  cases e2
  exact ⟨e.1, r1, e.2, r2⟩
theorem KR.cons {w : Wd} {p : Key × D} {acc : List (Key × D)} {q : Key × V} {kvs : List (Key × V)} (e : q.1 = p.1) (r1 : G.Rep w p.2 q.2) (r : KR G w acc kvs) : KR G w (p :: acc) (q :: kvs) :=
  ⟨by rw [List.map_cons, List.map_cons, e, r.1], by rw [List.map_cons, List.map_cons]; exact Reps.cons r1 r.2⟩
theorem KR.ind {w : Wd} {motive : List (Key × D) → List (Key × V) → Prop} (n : motive [] []) (c : ∀ p acc q kvs, q.1 = p.1 → G.Rep w p.2 q.2 → KR G w acc kvs → motive acc kvs → motive (p :: acc) (q :: kvs)) : ∀ {acc : List (Key × D)} {kvs : List (Key × V)}, KR G w acc kvs → motive acc kvs
  | [], [], _ => n
  | [], _ :: _, r => by have := r.len; simp at this
  | _ :: _, [], r => by have := r.len; simp at this
  | p :: acc, q :: kvs, r => c p acc q kvs r.uncons.1 r.uncons.2.1 r.uncons.2.2 (KR.ind n c r.uncons.2.2)
theorem KR.append {w : Wd} {a b : List (Key × D)} {x y : List (Key × V)} (r : KR G w a x) (s : KR G w b y) : KR G w (a ++ b) (x ++ y) :=
  KR.ind (motive := fun a x => KR G w (a ++ b) (x ++ y)) s (fun _ _ _ _ e r1 _ ih => KR.cons e r1 ih) r
theorem KR.put {w : Wd} {acc : List (Key × D)} {kvs : List (Key × V)} (r : KR G w acc kvs) (k : Key) {d : D} {v : V} (rv : G.Rep w d v) : KR G w (putP acc k d) (putK kvs k v) := by
  have ea : (kvs.any fun kv => decide (kv.1 = k)) = (acc.any fun p => decide (p.1 = k)) :=
    KR.ind (motive := fun acc kvs => (kvs.any fun kv => decide (kv.1 = k)) = (acc.any fun p => decide (p.1 = k))) rfl (fun p acc q kvs e _ _ ih => by rw [List.any_cons, List.any_cons, ih, e]) r
  unfold putP putK
  rw [ea]
  split
  · refine KR.ind (motive := fun acc kvs => KR G w (acc.map fun p => if p.1 = k then (p.1, d) else p) (kvs.map fun kv => if kv.1 = k then (kv.1, v) else kv)) KR.nil (fun p acc q kvs e r1 _ ih => ?_) r
    rw [List.map_cons, List.map_cons]
    by_cases c : p.1 = k
    · rw [if_pos c, if_pos (e.trans c)]
      exact KR.cons e rv ih
    · rw [if_neg c, if_neg (fun z => c (e.symm.trans z))]
      exact KR.cons e r1 ih
  · exact r.append (KR.cons rfl rv KR.nil)
theorem KR.mono {w w' : Wd} (l : LeX w w') {acc : List (Key × D)} {kvs : List (Key × V)} (r : KR G w acc kvs) : KR G w' acc kvs := ⟨r.1, Reps.mono l _ _ r.2⟩
theorem KR.same {w w' : Wd} (e1 : w'.F = w.F) (e2 : w'.m = w.m) (e3 : w'.μ = w.μ) {acc : List (Key × D)} {kvs : List (Key × V)} (r : KR G w acc kvs) : KR G w' acc kvs := ⟨r.1, Reps.mono (w := w) ⟨by rw [e1]; exact Same.refl _, by rw [e3]; exact Nat.le_refl _, fun _ _ => by rw [e2]⟩ _ _ r.2⟩
theorem zip_fst_snd {α β : Type} : ∀ l : List (α × β), (l.map (·.1)).zip (l.map (·.2)) = l
  | [] => rfl
  | (a, b) :: r => by rw [List.map_cons, List.map_cons, List.zip_cons_cons, zip_fst_snd r]
theorem KR.zip {w : Wd} {acc : List (Key × D)} {kvs : List (Key × V)} (r : KR G w acc kvs) : kvs = (acc.map (·.1)).zip (kvs.map (·.2)) := by
  rw [← r.1, zip_fst_snd]
def loopD (g : TgF) (ft : BF) (fk fv : EF) (own : List Nat) (src : Src) (σ : Sg) : Nat → Nat → List (Key × D) → Store → Res (List (Key × D))
  | 0, _, _, _ => .stuck
  | k + 1, i, acc, μ => match src.at μ i with
    | none => .stuck
    | some none => .ok acc μ
    | some (some d) => match g d (wipeD σ own) μ with
      | none => .stuck
      | some σ1 => (noX (ft σ1 μ)).bind fun t μ => if t = true then (noX (fk σ1 μ)).bind fun y μ => (noX (fv σ1 μ)).bind fun z μ => (match keyD y with
          | some key => if acc.length < cap then loopD g ft fk fv own src σ k (i + 1) (putP acc key z) μ else .stuck
          | none => .stuck)
        else loopD g ft fk fv own src σ k (i + 1) acc μ
def fDc (m : Bool) (fi : IF) (g : TgF) (ft : BF) (fk fv : EF) (own : List Nat) : EF := fun σ μ => (fi σ μ).bind fun src μ => (loopD g ft fk fv own src σ (src.fuel μ + 1) 0 [] μ).bind fun xs μ => .ok (newDk m (xs.map (·.1)) (xs.map (·.2)) μ).1 (newDk m (xs.map (·.1)) (xs.map (·.2)) μ).2
def DcInv (G : Cf) (W : XK) (Q : VK) (m : Bool) (w1 : Wd) (L : Addr) (k : List (Key × D) → Store → Res (List (Key × D))) (H : Hp) : Prop :=
  ∃ (acc : List (Key × D)) (kvs : List (Key × V)) (w : Wd), LeX w1 w ∧ w.Z = upd w1.Z L (.dK kvs) ∧ G.Stw w H ∧ KR G w acc kvs ∧
    After G G.Rep (XTo G W) (unZ w1.Z w) ((k acc w.μ).bind fun xs μ => .ok (newDk m (xs.map (·.1)) (xs.map (·.2)) μ).1 (newDk m (xs.map (·.1)) (xs.map (·.2)) μ).2) Q
theorem keyD_ok {w : Wd} {d : D} {v : V} {k : Key} (r : G.Rep w d v) (h : keyD d = some k) : v = kV k := by
  cases d with
  | int i => cases h; rw [rep_int] at r; rw [r]; rfl
  | str i => cases h; rw [rep_str] at r; rw [r]; rfl
  | _ => cases h
/-- the private dict stands for all to see -/
theorem dk_show {m : Bool} {w w1 : Wd} {H : Hp} {L : Addr} {acc : List (Key × D)} {kvs : List (Key × V)} {Q : VK} (S : G.Stw w H) (hL : w1.Z L = none) (ez : w.Z = upd w1.Z L (.dK kvs)) (r : KR G w acc kvs)
    (A : After G G.Rep (XTo G W) (unZ w1.Z w) (.ok (newDk m (acc.map (·.1)) (acc.map (·.2)) w.μ).1 (newDk m (acc.map (·.1)) (acc.map (·.2)) w.μ).2) Q) : Q (.ref L) H := by
  have hZD : w.Z L = some (.dK kvs) := by rw [ez, upd_same]
  have hz0 : ∀ b, b ≠ L → w1.Z b = w.Z b := fun b hb => by rw [ez, upd_ne hb]
  have hl : (acc.map (·.1)).length = (kvs.map (·.2)).length := by rw [List.length_map, List.length_map, r.len]
  unfold newDk at A
  split at A
  · have S' := S.unhideL (ob := .dK (acc.map (·.1)) (acc.map (·.2))) hZD ⟨kvs.map (·.2), by rw [← r.zip], hl, r.2⟩ (Z0 := w1.Z) hL hz0
    refine A ⟨w.μ ++ [.dK (acc.map (·.1)) (acc.map (·.2))], fun n => if n = w.μ.length then L else w.m n, w.F, w1.Z⟩ H (.ref L) rfl ⟨Same.refl _, by simp, fun n hn => ?_, rfl⟩ S' ?_
    · show (if n = w.μ.length then L else w.m n) = w.m n
      have hn : n < w.μ.length := hn
      rw [if_neg (by omega)]
    · simp only [Cf.Rep, Rep]
      exact ⟨by simp, by simp⟩
  · have S' := S.unhide hZD (Z0 := w1.Z) hL hz0
    have hF : w.F L = none := (S.zd L _ hZD).1
    have le' : Le (unZ w1.Z w) { w with F := upd w.F L (.dK kvs), Z := w1.Z } := ⟨fun b u h => by show upd w.F L _ b = some u; rw [upd_ne (ne_of_none h hF)]; exact h, Nat.le_refl _, fun _ _ => rfl, rfl⟩
    refine A { w with F := upd w.F L (.dK kvs), Z := w1.Z } H (.ref L) rfl le' S' ?_
    simp only [Cf.Rep, Rep]
    exact ⟨L, kvs.map (·.2), rfl, .inl (by rw [← r.zip]; exact upd_same), hl, Reps.mono (w := w) ⟨le'.ex, le'.len, le'.mm⟩ _ _ r.2⟩
theorem tDc_ok {own : List Nat} {m : Bool} {σV : L2.St} {H : Hp} {Q : VK} (h : tE G W (fDc m fi g ft fk fv own) σV H Q) : tDc (tI G W fi) (tGt G own g) (tB G W0 ft) (tE G W0 fk) (tE G W0 fv) own σV H Q := by
  obtain ⟨σ, w, S, R, A⟩ := h
  refine ⟨σ, w, S, R, (After.bind (R := fun w src J => SrcOk G J w src) A).mono fun J H1 ⟨w1, src, l1, S1, ok, A1⟩ => ?_⟩
  intro L hL
  have R1 := R.mono l1.x
  have hZ : w1.Z L = none := S1.zx.free hL
  refine ⟨fun i k H => DcInv G W Q m w1 L (fun acc μ => loopD g ft fk fv own src σ k i acc μ) H, ⟨src.fuel w1.μ + 1, [], [], { w1 with Z := upd w1.Z L (.dK []) }, ⟨Same.refl _, Nat.le_refl _, fun _ _ => rfl⟩, rfl, S1.hide hL _, KR.nil, A1⟩, ?_⟩
  intro i k H h
  obtain ⟨acc, vs, w, l, ez, S, ra, A⟩ := h
  replace A : After G G.Rep (XTo G W) (unZ w1.Z w) ((loopD g ft fk fv own src σ k i acc w.μ).bind fun xs μ => .ok (newDk m (xs.map (·.1)) (xs.map (·.2)) μ).1 (newDk m (xs.map (·.1)) (xs.map (·.2)) μ).2) Q := A
  cases k with
  | zero => exact A.elim
  | succ k =>
    have Y := ok w H l S i
    unfold loopD at A
    cases q : src.at w.μ i with
    | none => rw [q] at A; exact A.elim
    | some o =>
      rw [q] at A Y
      cases o with
      | none =>
        refine .inl ⟨Y, ?_⟩
        simp only [Res.bind_ok] at A
        exact dk_show S hZ ez ra A
      | some d =>
        refine .inr ⟨Y.1, DcInv G W Q m w1 L (fun acc μ => loopD g ft fk fv own src σ k (i + 1) acc μ), fun H' h => ⟨k, Nat.lt_succ_self k, h⟩, fun x H' y => ?_⟩
        obtain ⟨w2, l2, em2, S2, rd⟩ := Y.2 x H' y
        have l12 : LeX w1 w2 := l.trans l2
        have ez2 : w2.Z = upd w1.Z L (.dK vs) := l2.z.trans ez
        have A2 : After G G.Rep (XTo G W) (unZ w1.Z w2) _ Q := A.le ⟨l2.ex, l2.len, l2.mm, rfl⟩
        cases q2 : g d (wipeD σ own) w.μ with
        | none => simp only [q2] at A2; exact A2.elim
        | some σ1 =>
          simp only [q2] at A2
          refine ⟨wipeD σ own, w2, d, S2, wipe_rep (R1.mono l12) own, rd, σ1, by rw [em2]; exact q2, fun σV1 Rσ eσ => ⟨eσ.trans (wipe_wipe σV own), σ1, w2, S2, Rσ, ?_⟩⟩
          rw [← em2] at A2
          cases q3 : ft σ1 w2.μ with
          | exc c d μ => simp only [q3, noX, Res.bind_stuck] at A2; exact A2.elim
          | stuck => simp only [q3, noX, Res.bind_stuck] at A2; exact A2.elim
          | ok t μ3 =>
            simp only [q3, noX, Res.bind_ok] at A2
            intro w3 H3 t' e3 l3 S3 et
            have et : t = t' := et
            subst et
            have ez3 : w3.Z = upd w1.Z L (.dK vs) := l3.z.trans ez2
            have A3 := A2.le (w' := unZ w1.Z w3) ⟨l3.ex, l3.len, l3.mm, rfl⟩
            have ra3 := KR.mono (LeX.trans l2.x l3.x) ra
            cases t with
            | false =>
              simp only [Bool.false_eq_true, if_false] at A3 ⊢
              exact ⟨acc, vs, w3, l12.trans l3, ez3, S3, ra3, by rw [e3]; exact A3⟩
            | true =>
              simp only [if_true] at A3 ⊢
              refine ⟨σ1, w3, S3, Rσ.mono l3, ?_⟩
              rw [e3]
              cases q4 : fk σ1 μ3 with
              | exc c d μ => simp only [q4, noX, Res.bind_stuck] at A3; exact A3.elim
              | stuck => simp only [q4, noX, Res.bind_stuck] at A3; exact A3.elim
              | ok y μ4 =>
                simp only [q4, noX, Res.bind_ok] at A3
                intro w4 H4 v e4 l4 S4 rv
                have ez4 : w4.Z = upd w1.Z L (.dK vs) := l4.z.trans ez3
                have A4 := A3.le (w' := unZ w1.Z w4) ⟨l4.ex, l4.len, l4.mm, rfl⟩
                have ra4 := KR.mono l4.x ra3
                refine ⟨σ1, w4, S4, (Rσ.mono l3).mono l4.x, ?_⟩
                rw [e4]
                cases q5 : fv σ1 μ4 with
                | exc c d μ => simp only [q5, noX, Res.bind_stuck] at A4; exact A4.elim
                | stuck => simp only [q5, noX, Res.bind_stuck] at A4; exact A4.elim
                | ok z μ5 =>
                  simp only [q5, noX, Res.bind_ok] at A4
                  intro w5 H5 v5 e5 l5 S5 rv5
                  have ez5 : w5.Z = upd w1.Z L (.dK vs) := l5.z.trans ez4
                  have A5 := A4.le (w' := unZ w1.Z w5) ⟨l5.ex, l5.len, l5.mm, rfl⟩
                  have ra5 := KR.mono l5.x ra4
                  have hz5 : w5.Z L = some (.dK vs) := by rw [ez5, upd_same]
                  cases hk : keyD y with
                  | none => simp only [hk] at A5; exact A5.elim
                  | some key =>
                    simp only [hk] at A5
                    split at A5
                    · rename_i hlt
                      refine ⟨vs, key, keyD_ok rv hk, S5.zx L _ hz5, by rw [← ra.len, ← cap_eq]; exact hlt, ?_⟩
                      have S6 := S5.hput hz5 (.dK (putK vs key v5))
                      refine ⟨putP acc key z, putK vs key v5, { w5 with Z := upd w5.Z L (.dK (putK vs key v5)) }, ((l12.trans l3).trans l4.x).trans ⟨l5.ex, l5.len, l5.mm⟩, by show upd w5.Z L _ = _; rw [ez5, upd_upd], S6, ?_, by show After G G.Rep _ (unZ w1.Z w5) _ Q; rw [e5]; exact A5⟩
                      exact KR.same (w := w5) (w' := { w5 with Z := upd w5.Z L (.dK (putK vs key v5)) }) rfl rfl rfl (ra5.put key rv5)
                    · exact A5.elim
theorem d_dc {kx vx iter : Expr} {scope : Scope} {ifs : List Expr} {own : List (Str × Nat)} (m : Bool) (hc : X.calm = true) (hN : X.N.Nodup) (hi : DI G X W tg iter fi) (ok : BlkOk X.N X.env.scope scope own)
    (hg : ∀ (s : Shared) (H : Hp) (C : Addr) (cl : List (Str × Addr)) (fp : List Addr), DG G (X.blk s H scope (compEnvC scope cl C X.env) fp) (own.map (·.2)) tg g)
    (ht : ∀ (s : Shared) (H : Hp) (C : Addr) (cl : List (Str × Addr)) (fp : List Addr), PTs (X.blk s H scope (compEnvC scope cl C X.env) fp) ifs (tB G W0 ft))
    (hk : ∀ (s : Shared) (H : Hp) (C : Addr) (cl : List (Str × Addr)) (fp : List Addr), DE G (X.blk s H scope (compEnvC scope cl C X.env) fp) W0 kx fk)
    (hv : ∀ (s : Shared) (H : Hp) (C : Addr) (cl : List (Str × Addr)) (fp : List Addr), DE G (X.blk s H scope (compEnvC scope cl C X.env) fp) W0 vx fv) (hs : ∀ x, foldedSetIterable iter X.env x = pure x := by intro _; rfl) :
    DE G X W (.DictComp kx vx [⟨tg, iter, ifs, 0⟩] scope pos) (fDc m fi g ft fk fv (own.map (·.2))) :=
  peI (pe_dc hc hN hi ok hg ht hk hv hs) fun _ _ _ h => tDc_ok h
/-! ### displays -/
/-- {} -/
def fD0 (m : Bool) : EF := fun _ μ => .ok (newDk m [] [] μ).1 (newDk m [] [] μ).2
theorem d_d0 (m : Bool) : DE G X W (.Dict [] [] pos) (fD0 m) := by
  refine peI pe_dnewK fun σV H Q h => ?_
  obtain ⟨σ, w, S, R, A⟩ := h
  intro p hp
  exact dk_show (acc := []) (W := W) (S.hide hp (.dK [])) (w1 := w) (S.zx.free hp) rfl KR.nil (A.le ⟨Same.refl _, Nat.le_refl _, fun _ _ => rfl, rfl⟩)
/-- the pairs of a display; no exception may leave them -/
abbrev PF := Sg → Store → Res (List (D × D))
def pNil : PF := fun _ μ => .ok [] μ
def pCons (fk fv : EF) (ff : PF) : PF := fun σ μ => (noX (fk σ μ)).bind fun x μ => (noX (fv σ μ)).bind fun y μ => (ff σ μ).bind fun ps μ => .ok ((x, y) :: ps) μ
def VVR (G : Cf) (w : Wd) (ds : List (D × D)) (ps : List (V × V)) : Prop := G.Reps w (ds.map (·.1)) (ps.map (·.1)) ∧ G.Reps w (ds.map (·.2)) (ps.map (·.2))
/-- the pairs' trees and what they mean -/
structure PD (G : Cf) (X : Cx) (W : XK) (pos : Pos) (keys : List (Option Expr)) (values : List Expr) (ff : PF) : Prop where
  ex : ∃ trs, PPs X pos keys values trs ∧ ∀ (σV : L2.St) (H : Hp) (Q : List (V × V) → Hp → Prop) (σ : Sg) (w : Wd), G.Stw w H → G.RepSt w σ σV →
    After G (VVR G) (fun _ _ _ _ => False) w (ff σ w.μ) Q → tPairs trs σV H Q
  noexc : ∀ σ μ c d μ', ff σ μ ≠ .exc c d μ'
theorem pd_nil : PD G X W pos [] [] pNil := ⟨⟨[], pps_nil, fun σV H Q σ w S R A => A w H [] rfl (Le.refl w) S ⟨Reps.nil, Reps.nil⟩⟩, fun _ _ _ _ _ => by simp [pNil]⟩
theorem pd_cons {k v : Expr} {ks : List (Option Expr)} {vs : List Expr} {ff : PF} (hk : DE G X W k fk) (hv : DE G X W v fv) (hr : PD G X W pos ks vs ff) : PD G X W pos (some k :: ks) (v :: vs) (pCons fk fv ff) := by
  obtain ⟨⟨trs, h1, h2⟩, h3⟩ := hr
  refine ⟨⟨(tE G W fk, tE G W fv) :: trs, pps_cons hk hv h1, fun σV H Q σ w S R A => ?_⟩, fun σ μ c d μ' => ?_⟩
  · unfold pCons at A
    refine ⟨σ, w, S, R, ?_⟩
    refine noX_after (Y := fun _ _ _ _ => False) ((After.bind (R := G.Rep) A).mono fun x H1 ⟨w1, d, l1, S1, rd, A1⟩ => ?_)
    refine ⟨σ, w1, S1, R.mono l1, ?_⟩
    refine noX_after (Y := fun _ _ _ _ => False) ((After.bind (R := G.Rep) A1).mono fun y H2 ⟨w2, e, l2, S2, re, A2⟩ => ?_)
    refine h2 σV H2 _ σ w2 S2 ((R.mono l1).mono l2.x) ((After.bind (R := VVR G) A2).mono fun ps H3 ⟨w3, ds, l3, S3, rs, A3⟩ => ?_)
    exact A3 w3 H3 _ rfl (Le.refl w3) S3 ⟨by rw [List.map_cons, List.map_cons]; exact Reps.cons (Rep.mono (LeX.trans l2.x l3.x) _ _ rd) rs.1, by rw [List.map_cons, List.map_cons]; exact Reps.cons (Rep.mono l3.x _ _ re) rs.2⟩
  · unfold pCons
    cases fk σ μ with
    | ok x μ1 =>
      simp only [noX, Res.bind_ok]
      cases fv σ μ1 with
      | ok y μ2 =>
        simp only [noX, Res.bind_ok]
        cases q : ff σ μ2 with
        | ok z μ3 => simp
        | exc c' d' μ3 => exact absurd q (h3 _ _ _ _ _)
        | stuck => simp
      | exc _ _ _ => simp [noX]
      | stuck => simp [noX]
    | exc _ _ _ => simp [noX]
    | stuck => simp [noX]
def mergeP (acc : List (Key × D)) (ps : List (Key × D)) : List (Key × D) := ps.foldl (fun acc p => putP acc p.1 p.2) acc
def keyPs : List (D × D) → Option (List (Key × D))
  | [] => some []
  | (x, y) :: r => match keyD x, keyPs r with
    | some k, some ps => some ((k, y) :: ps)
    | _, _ => none
theorem KR.merge {w : Wd} {ps : List (Key × D)} {qs : List (Key × V)} (r : KR G w ps qs) : ∀ {acc : List (Key × D)} {kvs : List (Key × V)}, KR G w acc kvs → KR G w (mergeP acc ps) (mergeK kvs qs) :=
  KR.ind (motive := fun ps qs => ∀ {acc : List (Key × D)} {kvs : List (Key × V)}, KR G w acc kvs → KR G w (mergeP acc ps) (mergeK kvs qs)) (fun r => r) (fun p ps q qs e r1 _ ih acc kvs r0 => by
    have := ih (r0.put p.1 r1)
    rw [← e] at this
    show KR G w (mergeP (putP acc p.1 p.2) ps) (mergeK (putK kvs q.1 q.2) qs)
    rw [← e]
    exact this) r
theorem keyPs_ok {w : Wd} : ∀ {ds : List (D × D)} {ps : List (V × V)} {ks : List (Key × D)}, keyPs ds = some ks → VVR G w ds ps → ∃ kvs : List (Key × V), ps = kvs.map (fun kv => (kV kv.1, kv.2)) ∧ KR G w ks kvs
  | [], ps, ks, h, r => by
    cases h
    have r1 := r.1
    simp only [List.map_nil, Cf.Reps, Reps, List.map_eq_nil_iff] at r1
    exact ⟨[], r1, KR.nil⟩
  | (x, y) :: ds, ps, ks, h, r => by
    simp only [keyPs] at h
    split at h
    · rename_i k ps' h1 h2
      cases h
      obtain ⟨r1, r2⟩ := r
      cases ps with
      | nil => simp [Cf.Reps, Reps] at r1
      | cons p ps =>
        simp only [List.map_cons, Cf.Reps, Reps] at r1 r2
        obtain ⟨v1, u1, e1, a1, b1⟩ := r1
        obtain ⟨v2, u2, e2, a2, b2⟩ := r2
        cases e1; cases e2
        obtain ⟨kvs, e3, r3⟩ := keyPs_ok h2 ⟨b1, b2⟩
        refine ⟨(k, p.2) :: kvs, ?_, KR.cons rfl a2 r3⟩
        rw [List.map_cons, ← e3, ← keyD_ok a1 h1]
    · cases h
/-- {k: v, ..} -/
def fDict (m : Bool) (ff : PF) : EF := fun σ μ => (ff σ μ).bind fun ds μ => match keyPs ds with
  | some ks => if ks.length ≤ 15 then .ok (newDk m ((mergeP [] ks).map (·.1)) ((mergeP [] ks).map (·.2)) μ).1 (newDk m ((mergeP [] ks).map (·.1)) ((mergeP [] ks).map (·.2)) μ).2 else .stuck
  | none => .stuck
theorem d_dict {keys : List (Option Expr)} {values : List Expr} {ff : PF} (m : Bool) (h : PD G X W pos keys values ff) (hall : keys.all (·.isSome) = true := by rfl) (hl : keys.length = values.length := by rfl) (h0 : keys ≠ [] := by exact List.cons_ne_nil _ _)
    (h15 : keys.length ≤ 15 := by decide) : DE G X W (.Dict keys values pos) (fDict m ff) := by
  obtain ⟨⟨trs, h1, h2⟩, hne⟩ := h
  refine peI (pe_disp h1 hall hl h0 h15) fun σV H Q h => ?_
  obtain ⟨σ, w, S, R, A⟩ := h
  intro p hp
  have hZ : w.Z p = none := S.zx.free hp
  refine h2 σV _ _ σ { w with Z := upd w.Z p (.dK []) } (S.hide hp _) (RepSt.mono (w := w) (w' := { w with Z := upd w.Z p (.dK []) }) ⟨Same.refl _, Nat.le_refl _, fun _ _ => rfl⟩ R) ?_
  show After G (VVR G) _ { w with Z := upd w.Z p (.dK []) } (ff σ w.μ) _
  unfold fDict at A
  cases q : ff σ w.μ with
  | exc c d μ => exact absurd q (hne _ _ _ _ _)
  | stuck => rw [q] at A; exact A.elim
  | ok ds μ' =>
    rw [q] at A
    intro w' H' ps e l S' r
    have ez : w'.Z = upd w.Z p (.dK []) := l.z
    have hz : w'.Z p = some (.dK []) := by rw [ez, upd_same]
    simp only [Res.bind_ok] at A
    cases hk : keyPs ds with
    | none => rw [hk] at A; exact A.elim
    | some ks =>
      rw [hk] at A
      dsimp only at A
      split at A
      · rename_i hlen
        obtain ⟨kvs, e1, r1⟩ := keyPs_ok hk r
        refine ⟨S'.zx p _ hz, kvs, e1, by rw [← r1.len]; exact hlen, ?_⟩
        have S6 := S'.hput hz (.dK (mergeK [] kvs))
        refine dk_show (w := { w' with Z := upd w'.Z p (.dK (mergeK [] kvs)) }) (w1 := w) (W := W) (m := m) (acc := mergeP [] ks) S6 hZ (by show upd w'.Z p _ = _; rw [ez, upd_upd]) (KR.same (w := w') (w' := { w' with Z := upd w'.Z p (.dK (mergeK [] kvs)) }) rfl rfl rfl (r1.merge KR.nil)) ?_
        have A2 := A.le (w' := unZ w.Z w') ⟨l.ex, l.len, l.mm, rfl⟩
        rw [← e] at A2
        exact A2
      · exact A.elim
end
end DL
/-! text DL16 -/
/-! types and classes as values, a written tuple, xs[::-1], truth -/
namespace DLR
open PySem PySem.Spec PyProof.Rows L2 HT
section
variable {prog : Program} {w : World} {A : Around} {E : Value → Shared → Prop} {s : Shared}
theorem adj_rev (n : Nat) : Builtin.Slice.sliceAdjust none none (-1) (n : Int) = ((n : Int) - 1, -1) := by
  unfold Builtin.Slice.sliceAdjust
  simp
theorem places_rev (n : Nat) : Builtin.Slice.slicePlaces ((n : Int) - 1) (-1) (-1) = n := by
  unfold Builtin.Slice.slicePlaces
  have h1 : ¬ ((-1 : Int) > 0) := by decide
  simp only [h1, if_false, Int.neg_neg, Int.ediv_one]
  split <;> omega
theorem app_rev {sl : Addr} {vs : Value} {n : Nat} {Q : Int × Int × Nat → Shared → Prop} (hs : s.heap.IsSliceOf sl .none .none vs) (ps : IsPart vs (some (-1))) (h : Q ((n : Int) - 1, -1, n) s) :
    wpAny (model prog w) A (Builtin.Slice.sliceApplied (.ref sl) (pure (n : Int))) Q E s := by
  obtain ⟨os, ho, hc, hd⟩ := id hs
  unfold Builtin.Slice.sliceApplied Builtin.Slice.sliceFields
  refine wpAny_bind (wpAny_bind (wpAny_field ho hd (x := .none) rfl (wpAny_bind (wpAny_field ho hd (x := .none) rfl (wpAny_bind (wpAny_field ho hd (x := vs) rfl (wpAny_pure ?_)))))))
  refine wpAny_bind (slicePart_ ps ?_)
  show wpAny _ _ (if ((-1 : Int) == 0) = true then _ else _) _ _ s
  rw [if_neg (by decide)]
  refine wpAny_bind (slicePart_none (wpAny_bind (slicePart_none (wpAny_bind (wpAny_pure ?_)))))
  show wpAny _ _ (match Builtin.Slice.sliceAdjust none none (-1) (n : Int) with | (lo, hi) => pure (lo, (-1 : Int), Builtin.Slice.slicePlaces lo hi (-1))) _ _ s
  rw [adj_rev]
  show wpAny _ _ (pure ((n : Int) - 1, (-1 : Int), Builtin.Slice.slicePlaces ((n : Int) - 1) (-1) (-1))) _ _ s
  rw [places_rev]
  exact wpAny_pure h
theorem pick_rev (xs : Array Value) : ((List.range xs.size).filterMap fun (k : Nat) => xs[(((xs.size : Int) - 1) + (k : Int) * (-1)).toNat]?).toArray = xs.toList.reverse.toArray := by
  congr 1
  obtain ⟨l⟩ := xs
  simp only [List.size_toArray, List.getElem?_toArray]
  apply List.ext_getElem?
  intro k
  have key : ∀ m, m ≤ l.length → ((List.range m).filterMap fun (k : Nat) => l[(((l.length : Int) - 1) + (k : Int) * (-1)).toNat]?) = l.reverse.take m := by
    intro m
    induction m with
    | zero => intro _; simp
    | succ m ih =>
      intro hm
      rw [List.range_succ, List.filterMap_append, ih (by omega), List.take_succ]
      congr 1
      have e1 : (((l.length : Int) - 1) + (m : Int) * (-1)).toNat = l.length - 1 - m := by omega
      rw [List.getElem?_reverse (by omega)]
      simp only [List.filterMap_cons, List.filterMap_nil]
      rw [show ((l.length : Int) - 1 + ((m : Nat) : Int) * (-1)).toNat = l.length - 1 - m from e1]
      cases l[l.length - 1 - m]? <;> rfl
  rw [key l.length (Nat.le_refl _), List.take_of_length_le (by simp)]
theorem get_rev {t sl : Addr} {items : Array Value} {vs : Value} {Q : Value → Shared → Prop} (ht : IsTup s.heap t items) (hs : s.heap.IsSliceOf sl .none .none vs) (ps : IsPart vs (some (-1)))
    (h : Q (.ref s.heap.objs.size) { s with heap := s.heap.push { cls := .type "tuple", data := .seq items.toList.reverse.toArray } }) (hz : items.size ≤ sizeLine) : wpAny (model prog w) A (getItem (.ref t) (.ref sl)) Q E s := by
  have hk : sizeOk (.seq items.toList.reverse.toArray) := by
    show items.toList.reverse.toArray.size ≤ sizeLine
    rw [List.size_toArray, List.length_reverse, Array.length_toList]
    exact hz
  obtain ⟨os, ho, hc, hd⟩ := id hs
  have isS : s.TypeIs (.ref sl) "slice" := ⟨os, ho, hc⟩
  unfold getItem
  try with_reducible refine wpAny_holding ?_
  first | refine wpAny_bind (wpAny_pure ?_) | skip
  refine wpAny_bind (wpAny_sequenceKey ht.typeIs (by decide) ?_)
  refine wpAny_bind (wpAny_callSpecial?_slot (name := Str.ofString "__getitem__") ht.typeIs PyProof.Rows.slot_tuple_getitem
    (wpAny_call_entry PyProof.Rows.slot_tuple_getitem ht.typeIs entry_tuple_getitem ?_ (args_tuple_getitem _ _)))
  show wpAny _ _ (Builtin.Tuple.tupleItemsOf (.ref t) >>= _) _ _ s
  refine wpAny_bind (tupleItemsOf_ ht ?_)
  refine wpAny_bind (wpAny_typeOf isS ?_)
  rw [if_pos (by decide)]
  refine wpAny_bind (app_rev hs ps ?_)
  have hno : ¬ ((((items.size : Int) - 1) == 0 && (-1 : Int) == 1 && items.size == items.size) = true) := by simp
  show wpAny _ _ (if (((items.size : Int) - 1) == 0 && (-1 : Int) == 1 && items.size == items.size) = true then _ else _) _ _ s
  rw [if_neg hno, pick_rev]
  first
    | exact wpAny_bind (m := Builtin.Tuple.tupleExact _) (wpAny_newObj_type (wpAny_pure ⟨_, rfl, wpAny_pure h⟩) hk)
    | exact wpAny_bind (m := Builtin.Tuple.tupleExact _) (wpAny_newObj_type (wpAny_bind (wpAny_pure (wpAny_pure ⟨_, rfl, wpAny_pure h⟩))) hk)
    | exact wpAny_bind (wpAny_bind (m := Builtin.Tuple.tupleExact _) (wpAny_newObj_type (wpAny_pure (wpAny_pure ⟨_, rfl, wpAny_pure h⟩)) hk))
    | exact wpAny_bind (wpAny_bind (m := Builtin.Tuple.tupleExact _) (wpAny_newObj_type (wpAny_pure ⟨_, rfl, wpAny_pure h⟩) hk))
end
/-- xs[::-1] of a tuple -/
def tRevT (K : PySem.W.Frag) (te : TE) : TE := fun σ H Q => te σ H fun x H1 => ∃ a xs, x = .ref a ∧ ((SqL K H1 a xs ∧ ∀ p, H1 p = none → Q (.ref p) (upd H1 p (.lst xs.reverse))) ∨ (SqT K H1 a xs ∧ ∀ p, H1 p = none → Q (.ref p) (upd H1 p (.tup xs.reverse))))
theorem pe_rev {X : Cx} {e : Expr} {te : TE} {k : Nat} {p1 p2 p3 pos : Pos} (he : PE X e te) : PE X (.Subscript e (.Slice none none (some (.UnaryOp .USub (.Constant (.int 1) k p1) p2)) p3) pos) (tRevT X.K te) := by
  refine ⟨fun pins s σ H Q I h => ?_⟩
  refine Subscript_ (thn (he.run pins s σ H _ I h) fun v s1 ⟨x, H1, I1, r1, a, xs, ex, q⟩ => ?_)
  subst ex
  obtain rfl : v = Value.ref a := r1
  have part : PO X (some (.UnaryOp .USub (.Constant (.int 1) k p1) p2)) (tPart (tUn (rU fun i => .int (-i)) (tC (.int 1)))) := po_some (pe_un un_neg pe_int)
  have none' : ∀ {t : Shared} {G : Hp}, Inv X pins σ G t → _ := fun {t G} J => po_none.run pins t σ G (fun o H2 => o = none ∧ H2 = G) J ⟨rfl, rfl⟩
  refine wpAny_Slice (thn (none' I1) fun vl s2 ⟨l, H2, I2, pl, el, e2⟩ => ?_)
  subst el e2
  refine thn (none' I2) fun vu s3 ⟨u, H3, I3, pu, eu, e3⟩ => ?_
  subst eu e3
  refine thn (part.run pins s3 σ H3 (fun o H4 => o = some (-1) ∧ H4 = H3) I3 ⟨1, rfl, -1, rfl, rfl, rfl⟩) fun vs s4 ⟨o, H4, I4, ps, eo, e4⟩ => ?_
  subst eo e4
  have I5 : Inv X pins σ H4 { s4 with heap := s4.heap.push { cls := .type "slice", data := .fields #[vl, vu, vs] } } := I4.kept (t' := s4.toks) fun b ob q => Heap.get?_push_of_some _ q
  rcases q with ⟨hx, q⟩ | ⟨hx, q⟩
  · obtain ⟨its, r, ht, hz⟩ := I5.list hx
    have hlen := r.length
    show wpAny _ X.A (subscriptTail e (.Slice none none (some (.UnaryOp .USub (.Constant (.int 1) k p1) p2)) p3) (.ref a) (.ref s4.heap.objs.size)) _ X.xe _
    refine tail_any (ops := [.ref a, .ref s4.heap.objs.size]) ht.isList.typeIs (PySem.slot_list_getitem.lookup) ?_ (by with_unfolding_all rfl)
    refine wpAny_getItem_list_slice ht.isList (Heap.IsSliceOf.new _ vl vu vs) pl pu ps (by decide) ?_ (by rw [List.size_toArray]; omega)
    rw [PySem.W.krv_pick]
    exact ⟨.ref _, _, I5.laid (t' := s4.toks) (o := .lst xs.reverse) (fun b ob q => Heap.get?_push_of_some _ q) (Nat.le_refl _) ⟨by rw [List.length_reverse]; exact hz, _, 0, r.reverse, Heap.get?_push_size _ rfl⟩, rfl, q _ (I5.hok.fresh (Nat.le_refl _))⟩
  · obtain ⟨its, r, ht, hz⟩ := I5.tuple hx
    have hlen := r.length
    cases pl
    cases pu
    show wpAny _ X.A (subscriptTail e (.Slice none none (some (.UnaryOp .USub (.Constant (.int 1) k p1) p2)) p3) (.ref a) (.ref s4.heap.objs.size)) _ X.xe _
    refine tail_any (ops := [.ref a, .ref s4.heap.objs.size]) ht.typeIs (PyProof.Rows.slot_tuple_getitem.lookup) ?_ (by with_unfolding_all rfl)
    refine get_rev ht (Heap.IsSliceOf.new _ _ _ vs) ps ?_ (by rw [List.size_toArray]; omega)
    exact ⟨.ref _, _, I5.laid (t' := s4.toks) (o := .tup xs.reverse) (fun b ob q => Heap.get?_push_of_some _ q) (Nat.le_refl _) ⟨by rw [List.length_reverse]; exact hz, _, r.reverse, IsTup.new _ _⟩, rfl, q _ (I5.hok.fresh (Nat.le_refl _))⟩
end DLR
namespace DL
open PySem PySem.Spec PyProof.Rows L2
section
variable {G : Cf} {X : Cx} {W : XK} {e a : Expr} {fa : EF} {pos : Pos} {x : Str}
/-- a built-in type as a value -/
theorem d_ty {T : String} (hm : X.mg x = none) (hv : bootBuiltins x = some (.type T)) (hg : Gl X x := by rfl) (hn : x ≠ "__name__" := by decide) (hd : (x == ("__debug__" : Str)) = false := by decide) : DE G X W (.Name x pos) (fC (.ty T)) :=
  d_c (v := .ty T) (pe_bltn hg hm hv rfl hn hd) fun w => by simp only [Cf.Rep, Rep]
/-- a class of the text as a value -/
theorem d_cls {c : Nat} (hm : X.mg x = some (.ref (G.ca c))) (hg : Gl X x := by rfl) (hd : (x == ("__debug__" : Str)) = false := by decide) : DE G X W (.Name x pos) (fC (.cls c)) :=
  d_c (v := .ref (G.ca c)) (pe_glob hg hm rfl hd) fun w => by simp only [Cf.Rep, Rep]
/-- a global's own address -/
theorem d_gref {b : Addr} (hm : X.mg x = some (.ref b)) (hg : Gl X x := by rfl) (hd : (x == ("__debug__" : Str)) = false := by decide) : DE G X W (.Name x pos) (fC (.ref b)) :=
  d_c (v := .ref b) (pe_glob hg hm rfl hd) fun w => by simp only [Cf.Rep, Rep]
/-- flat values stand anywhere -/
def flatV : D → Option V
  | .non => some .non
  | .bl b => some (.bl b)
  | .int i => some (.int i)
  | .str z => some (.str z)
  | _ => none
theorem flat_rep {w : Wd} : ∀ {xs : List D} {vs : List V}, xs.mapM flatV = some vs → G.Reps w xs vs
  | [], vs, h => by simp at h; subst h; exact Reps.nil
  | x :: xs, vs, h => by
    rw [List.mapM_cons] at h
    cases hx : flatV x with
    | none => rw [hx] at h; cases h
    | some v =>
      rw [hx] at h
      cases hr : xs.mapM flatV with
      | none => rw [hr] at h; cases h
      | some r =>
        rw [hr] at h
        cases h
        refine Reps.cons ?_ (flat_rep hr)
        cases x with
        | non => cases hx; exact rep_non.mpr rfl
        | bl b => cases hx; exact rep_bool.mpr rfl
        | int i => cases hx; exact rep_int.mpr rfl
        | str z => cases hx; exact rep_str.mpr rfl
        | _ => cases hx
/-- a tuple of the text, at b -/
structure WTu (K : PySem.W.Frag) (b : Addr) (vs : List V) : Prop where
  ex : ∃ (o : Obj) (its : Array Value) (n : Nat), K.lookup b = some o ∧ o.cls = .type "tuple" ∧ o.data = .seq its n ∧ its.size ≤ sizeLine ∧ Vals vs its.toList
theorem d_gtup {b : Addr} {xs : List D} {vs : List V} (hm : X.mg x = some (.ref b)) (T : WTu G.K b vs) (hx : xs.mapM flatV = some vs) (hg : Gl X x := by rfl) (hd : (x == ("__debug__" : Str)) = false := by decide) : DE G X W (.Name x pos) (fC (.rt xs)) :=
  d_c (v := .ref b) (pe_glob hg hm rfl hd) fun w => by
    simp only [Cf.Rep, Rep]
    exact ⟨b, vs, rfl, .inr T.ex, flat_rep hx⟩
/-- xs[::-1] -/
def oRev (m : Bool) (d : D) (μ : Store) : Option (D × Store) := match getT d with
  | some xs => some (.tup xs.reverse, μ)
  | none => match getL μ d with
    | some xs => some (newL m xs.reverse μ)
    | none => none
def fRev (m : Bool) (fa : EF) : EF := fun σ μ => (fa σ μ).bind fun d μ => ofO (oRev m d μ)
theorem rep_rev {w : Wd} : ∀ {xs : List D} {vs : List V}, G.Reps w xs vs → G.Reps w xs.reverse vs.reverse
  | [], vs, r => by simp only [Cf.Reps, Reps] at r; subst r; exact Reps.nil
  | x :: xs, vs, r => by
    simp only [Cf.Reps, Reps] at r
    obtain ⟨v, us, rfl, r1, r2⟩ := r
    rw [List.reverse_cons, List.reverse_cons]
    exact Reps.append (rep_rev r2) (Reps.cons r1 Reps.nil)
theorem d_rev {k : Nat} {p1 p2 p3 : Pos} (hK : X.K = G.K) (m : Bool) (ha : DE G X W a fa) : DE G X W (.Subscript a (.Slice none none (some (.UnaryOp .USub (.Constant (.int 1) k p1) p2)) p3) pos) (fRev m fa) := by
  refine peI (DLR.pe_rev ha) fun σV H Q h => ?_
  obtain ⟨σ, w, S, R, A⟩ := h
  refine ⟨σ, w, S, R, (After.bind (R := G.Rep) A).mono fun x H1 ⟨w1, d, l1, S1, rd, A1⟩ => ?_⟩
  replace A1 := AftO.of A1
  unfold oRev at A1
  cases ht : getT d with
  | some xs =>
    rw [ht] at A1
    obtain ⟨p, vs, rfl, q, rr⟩ := getT_ok S1 rd ht
    exact ⟨p, vs, rfl, .inr ⟨.inl (.inl q), fun p2 hp => newT_ok S1 (rep_rev rr) A1 p2 hp⟩⟩
  | none =>
    rw [ht] at A1
    cases hl : getL w1.μ d with
    | none => rw [hl] at A1; exact A1.elim
    | some xs =>
      rw [hl] at A1
      obtain ⟨p, vs, rfl, q, rr⟩ := getL_ok S1 rd hl
      rw [hK]
      exact ⟨p, vs, rfl, .inl ⟨q, newL_ok S1 (rep_rev rr) A1⟩⟩
/-- a test that is a value's truth -/
theorem d_tru (hK : X.K = G.K) (ha : DE G X W a fa) (he : ∀ whole, isTrue a X.env whole = (do let v ← whole; standAt a.pos; holding [v] (truthy v)) := by intro _; rfl) : DT G X W a (fTru fa) := by
  refine ptI (pt_truth ha he) fun σV H Q h => ?_
  obtain ⟨σ, w, S, R, A⟩ := h
  refine ⟨σ, w, S, R, (After.bind (R := G.Rep) A).mono fun x H1 ⟨w1, d, l1, S1, rd, A1⟩ => ?_⟩
  cases ht : truD d w1.μ with
  | none => rw [ht] at A1; exact A1.elim
  | some k =>
    rw [ht] at A1
    refine ⟨k, ?_, A1.now S1 rfl⟩
    rw [hK]
    unfold truD at ht
    split at ht
    · cases ht; rw [rep_non] at rd; subst rd; rfl
    · cases ht; rw [rep_bool] at rd; subst rd; rfl
    · cases ht; rw [rep_int] at rd; subst rd; rfl
    · rw [rep_str] at rd; subst rd
      split at ht
      · rename_i hl; cases ht; exact ⟨sz_le hl, rfl⟩
      · cases ht
    · rename_i xs
      cases ht
      obtain ⟨p, vs, rfl, q, rr⟩ := getT_ok S1 rd rfl
      refine .inr (.inl ⟨vs, .inl (.inl q), ?_⟩)
      have := rr.len
      cases xs <;> cases vs <;> simp_all
    · rename_i xs
      cases ht
      obtain ⟨p, vs, rfl, q, rr⟩ := getL_ok S1 rd (show getL w1.μ (.lst xs) = some xs from rfl)
      refine .inl ⟨vs, q, ?_⟩
      have := rr.len
      cases xs <;> cases vs <;> simp_all
    · rename_i n
      split at ht
      · rename_i xs ho
        cases ht
        obtain ⟨p, vs, rfl, q, rr⟩ := getL_ok S1 rd (show getL w1.μ (.loc n) = some xs by simp [getL, getM, ho])
        refine .inl ⟨vs, q, ?_⟩
        have := rr.len
        cases xs <;> cases vs <;> simp_all
      · cases ht
    · cases ht
end
/-! ### which clause takes which error -/
def ExT (G : Cf) (t : Nat → Nat → Option Bool) : Prop := ∀ c d b, t c d = some b → PySem.W.exmOne G.K (.ref (G.ca c)) (.ref (G.ca d)) = some b
theorem exm_of {G : Cf} {t : Nat → Nat → Option Bool} {d : Nat} {b : Bool} {cs : List Nat} (T : ExT G t) (h : (cs.all fun c => t c d == some b) = true) : ExmAll G.K G.ca (.ref (G.ca d)) b cs := fun c hc =>
  T c d b (by have := List.all_eq_true.mp h c hc; simpa using this)
end DL
/-! text DL17 -/
/-! the facts of a text, checked by evaluation -/
namespace DL
open PySem PySem.Spec PyProof.Rows L2 He
/-- a def without defaults -/
theorem fun_of {K : PySem.W.Frag} {st : Stmt} {x qual : Str} {f : Addr} (h : ∃ fd, FunD K x qual (defArgs st) (defBody st) (defScope st) [] [] f fd) : ∃ fd, Fun K x qual st f fd := by
  obtain ⟨fd, ⟨oc, od, dV, kV, doc, pm, an, cdv, ct, osl, rfl, lk, cr, dfl, _⟩, kp⟩ := h
  rcases dfl with ⟨_, rfl⟩ | ⟨e, _⟩
  · exact ⟨_, ⟨oc, od, kV, doc, pm, an, cdv, ct, osl, rfl, lk, cr⟩, kp⟩
  · exact absurd rfl e
/-! ### own errors -/
def errB (K : PySem.W.Frag) (C CE : Addr) (f : Str) : Bool := (match K.lookup C with
  | some ⟨.type t, _, .cls cd, sl⟩ => (match sl.toList with
    | [_, _, _, _, some (.builtin n), _] => decide (t = "type") && (decide (n = "Exception.__new__") && (!cd.hasDel && (cd.hasDict && decide (cd.mro = .ref C :: DLX.tailE CE))))
    | _ => false)
  | _ => false) && (eqO (PySem.W.findIn K (.ref C) "__setattr__") (some (some (.builtin "object.__setattr__"))) && (decide (PySem.W.subIn K (.ref C) (.type "BaseException") = some true) &&
    (decide (PySem.W.typeIn K (.ref C) = some (.type "type")) && (PySem.W.keepIn K (.ref C) && ((match PySem.W.findCls K (.ref CE) (.type "type") "__init__" with
    | some (.val (.builtin n)) => decide (n = "Exception.__init__")
    | _ => false) &&
    (eqO (PySem.W.specialIn K (.ref CE) "__getattribute__") (some (some (.builtin "type.__getattribute__"))) && (PySem.W.readsIn K CE (.type "type") &&
    (eqO (PySem.W.findIn K (.ref C) "__init__") (some (some (.ref (ma K C "__init__")))) && (decide (PySem.W.typeIn K (.ref (ma K C "__init__")) = some (.type "function")) && (xfB K C && eqO (PySem.W.findIn K (.ref C) f) (some none)))))))))))
structure ErrF (K : PySem.W.Frag) (C CE : Addr) (f : Str) : Prop where
  e : ErrC K C CE
  ei : PySem.W.findIn K (.ref C) "__init__" = some (some (.ref (ma K C "__init__")))
  et : PySem.W.typeIn K (.ref (ma K C "__init__")) = some (.type "function")
  ex : XfC K C
  en : PySem.W.findIn K (.ref C) f = some none
theorem errB_ok {K : PySem.W.Frag} {C CE : Addr} {f : Str} (h : errB K C CE f = true) : ErrF K C CE f := by
  obtain ⟨h0, h⟩ := ba h
  obtain ⟨h1, h⟩ := ba h
  obtain ⟨h2, h⟩ := ba h
  obtain ⟨h3, h⟩ := ba h
  obtain ⟨h4, h⟩ := ba h
  obtain ⟨h5, h⟩ := ba h
  obtain ⟨h6, h⟩ := ba h
  obtain ⟨h7, h⟩ := ba h
  obtain ⟨h8, h⟩ := ba h
  obtain ⟨h9, h⟩ := ba h
  obtain ⟨h10, h11⟩ := ba h
  refine ⟨⟨?_, eqO_ok h1, of_decide_eq_true h2, of_decide_eq_true h3, h4, ?_, eqO_ok h6, h7⟩, eqO_ok h8, of_decide_eq_true h9, xfB_ok h10, eqO_ok h11⟩
  split at h0
  · rename_i t dd cd sl hl
    split at h0
    · rename_i k0 k1 k2 k3 n k5 hs
      obtain ⟨g1, h0⟩ := ba h0
      obtain ⟨g2, h0⟩ := ba h0
      obtain ⟨g3, h0⟩ := ba h0
      obtain ⟨g4, g5⟩ := ba h0
      replace g1 := of_decide_eq_true g1
      replace g2 := of_decide_eq_true g2
      replace g5 := of_decide_eq_true g5
      obtain ⟨nm, bs, mro, ns, qn, hd, sn, sub, ab, col, del⟩ := cd
      dsimp only at g3 g4 g5
      subst g1 g2 g5
      cases hd with
      | false => cases g4
      | true =>
        cases del with
        | true => cases g3
        | false =>
          have e : sl = #[k0, k1, k2, k3, some (.builtin "Exception.__new__"), k5] := by
            obtain ⟨l⟩ := sl
            simp only at hs
            rw [hs]
          subst e
          exact ⟨nm, qn, ns, bs, sn, sub, ab, col, dd, k0, k1, k2, k3, k5, hl⟩
    · cases h0
  · cases h0
  · split at h5
    · rename_i n q
      rw [q, of_decide_eq_true h5]
    · cases h5
/-! ### tables -/
def tabT (L : List Ty) (r : Ty → Ty → Bool) (a b : Ty) : Option Bool := if a ∈ L ∧ b ∈ L then some (r a b) else none
def clsTB (K : PySem.W.Frag) (C : Addr) : Bool := PySem.W.plainGet K C Str.empty && (PySem.W.hasDictIn K C && (PySem.W.plainOver K C && (eqO (PySem.W.findIn K (.ref C) "__setattr__") (some (some (.builtin "object.__setattr__"))) &&
  (eqO (PySem.W.findIn K (.ref C) "__class__") (some (some (.builtin "object.__class__"))) && (eqO (PySem.W.specialIn K (.builtin "object.__class__") "__get__") (some (some (.builtin "getset_descriptor.__get__"))) &&
  (decide (PySem.W.takesIn K (.builtin "object.__class__") = some true) && decide (PySem.W.mroIn K C (.type "object") = some true)))))))
theorem clsTB_ok {K : PySem.W.Frag} {C : Addr} (h : clsTB K C = true) : ClsT K C := by
  obtain ⟨h1, h⟩ := ba h
  obtain ⟨h2, h⟩ := ba h
  obtain ⟨h3, h⟩ := ba h
  obtain ⟨h4, h⟩ := ba h
  obtain ⟨h5, h⟩ := ba h
  obtain ⟨h6, h⟩ := ba h
  obtain ⟨h7, h8⟩ := ba h
  exact ⟨⟨h1, h2, h3, eqO_ok h4⟩, eqO_ok h5, eqO_ok h6, of_decide_eq_true h7, of_decide_eq_true h8⟩
def isiB (G : Cf) (L : List Ty) (r : Ty → Ty → Bool) : Bool := L.all fun a => (match a with
  | .c C => clsTB G.K (G.ca C)
  | _ => true) && L.all fun b => decide (PySem.W.kitOne G.K (G.tv a) (G.tv b) = some (r a b))
theorem isi_of {G : Cf} {L : List Ty} {r : Ty → Ty → Bool} (h : isiB G L r = true) : Isi G (tabT L r) := by
  have key : ∀ a b x, tabT L r a b = some x → a ∈ L ∧ b ∈ L ∧ x = r a b := fun a b x e => by
    unfold tabT at e
    split at e
    · rename_i q; exact ⟨q.1, q.2, (Option.some.inj e).symm⟩
    · cases e
  refine ⟨fun a b x e => ?_, fun C b x e => ?_⟩
  · obtain ⟨h1, h2, rfl⟩ := key a b x e
    exact of_decide_eq_true (List.all_eq_true.mp (ba (List.all_eq_true.mp h a h1)).2 b h2)
  · obtain ⟨h1, h2, rfl⟩ := key _ b x e
    exact clsTB_ok (ba (List.all_eq_true.mp h _ h1)).1
def tabE (L : List Nat) (r : Nat → Nat → Bool) (a b : Nat) : Option Bool := if a ∈ L ∧ b ∈ L then some (r a b) else none
def extB (G : Cf) (L : List Nat) (r : Nat → Nat → Bool) : Bool := L.all fun a => L.all fun b => decide (PySem.W.exmOne G.K (.ref (G.ca a)) (.ref (G.ca b)) = some (r a b))
theorem ext_of {G : Cf} {L : List Nat} {r : Nat → Nat → Bool} (h : extB G L r = true) : ExT G (tabE L r) := fun a b x e => by
  unfold tabE at e
  split at e
  · rename_i q
    cases e
    exact of_decide_eq_true (List.all_eq_true.mp (List.all_eq_true.mp h a q.1) b q.2)
  · cases e
def atrB (G : Cf) (L : List (Nat × Str)) : Bool := L.all fun q => PySem.W.plainGet G.K (G.ca q.1) Str.empty && (PySem.W.hasDictIn G.K (G.ca q.1) && (PySem.W.plainOver G.K (G.ca q.1) &&
  (eqO (PySem.W.findIn G.K (.ref (G.ca q.1)) "__setattr__") (some (some (.builtin "object.__setattr__"))) && eqO (PySem.W.findIn G.K (.ref (G.ca q.1)) q.2) (some none))))
theorem atr_of {G : Cf} {L : List (Nat × Str)} (h : atrB G L = true) : Atr G (fun c f => L.any fun q => decide (q.1 = c ∧ q.2 = f)) := fun C f e => by
  obtain ⟨q, hq, e⟩ := List.any_eq_true.mp e
  obtain ⟨rfl, rfl⟩ := of_decide_eq_true e
  obtain ⟨h1, h⟩ := ba (List.all_eq_true.mp h q hq)
  obtain ⟨h2, h⟩ := ba h
  obtain ⟨h3, h⟩ := ba h
  obtain ⟨h4, h5⟩ := ba h
  exact ⟨⟨h1, h2, h3, eqO_ok h4⟩, eqO_ok h5⟩
def xatB (G : Cf) (n : Nat) (f : Str) : Bool := (List.range n).all fun c => !decide (G.xa c = some f) || (xfB G.K (G.ca c) && eqO (PySem.W.findIn G.K (.ref (G.ca c)) f) (some none))
theorem xat_of {G : Cf} {n : Nat} {f : Str} (h : xatB G n f = true) (hn : ∀ c, n ≤ c → G.xa c = none) : XaT G f := ⟨fun c e => by
  have hc : c < n := by
    rcases Nat.lt_or_ge c n with z | z
    · exact z
    · rw [hn c z] at e; cases e
  have q := List.all_eq_true.mp h c (List.mem_range.mpr hc)
  rw [e] at q
  obtain ⟨h1, h2⟩ := ba (by simpa using q)
  exact ⟨xfB_ok h1, eqO_ok h2⟩⟩
def tuB (K : PySem.W.Frag) (a : Addr) (vs : List V) : Bool := match K.lookup a with
  | some ⟨.type c, _, .seq its _, _⟩ => decide (c = "tuple") && (decide (its.size ≤ sizeLine) && relAll vs its.toList)
  | _ => false
theorem tuB_ok {K : PySem.W.Frag} {a : Addr} {vs : List V} (h : tuB K a vs = true) : WTu K a vs := by
  unfold tuB at h
  split at h
  · rename_i c od its n sl q
    obtain ⟨h1, h2⟩ := ba h
    obtain ⟨h3, h4⟩ := ba h2
    exact ⟨_, its, n, q, congrArg Value.type (of_decide_eq_true h1), rfl, of_decide_eq_true h3, relAll_ok h4⟩
  · cases h
theorem cls_of {K : PySem.W.Frag} {x : Str} (c : (Fa.cls x).ok K = true) : Cls K (ga K x) := cls_ok c
theorem glo_of {K : PySem.W.Frag} {h : Heap} {mg : Str → Option Value} (X : K.In h) (G : h.Ns mainGlobals mg) {x : Str} (c : (Fa.glo x).ok K = true) : mg x = some (.ref (ga K x)) := glo_ok X G c
end DL
/-! text DL18 -/
/-! from a def's meaning to the law's row -/
namespace DL
open PySem PySem.Spec PyProof.Rows L2
theorem sp_law {K : PySem.W.Frag} {ca : Nat → Addr} {xa : Nat → Option Str} {g : FF} {H : Hp} {a : Addr} {ns : List Int} {μ : Store} (hS : SqL K H a (ns.map V.int)) (h : g [.rl (ns.map .int)] [] = .ok (.bl true) μ) :
    spD ⟨K, ca, xa⟩ 1 g [.ref a] H (fun v _ => v = .bl true) fun _ _ _ => False := by
  refine ⟨rfl, [.rl (ns.map .int)], ⟨[], fun _ => 0, H, fun _ => none⟩, ⟨Same.refl _, fun n o e => by simp at e, fun i j hi => absurd hi (by simp), fun b u e => by simp at e, fun b u e => by simp at e, fun b xs e => by simp at e⟩, ?_, ?_⟩
  · refine Reps.cons ?_ Reps.nil
    simp only [Rep]
    refine ⟨a, ns.map V.int, rfl, hS, ?_⟩
    have key : ∀ l : List Int, Reps K ca ⟨[], fun _ => 0, H, fun _ => none⟩ (l.map D.int) (l.map V.int) := fun l => by
      induction l with
      | nil => exact Reps.nil
      | cons x r ih => exact Reps.cons (by simp only [Rep]) ih
    exact key ns
  · rw [h]
    intro w' H' v e l S r
    simpa only [Cf.Rep, Rep] using r
theorem law_at {l : PySem.W.OpenLaw} {w : World} {K : PySem.W.Frag} {ca : Nat → Addr} {xa : Nat → Option Str} {mg : Str → Option Value} {fa : Addr} {h : Heap} {k : Nat} {st : Stmt} {g : FF}
    (F : ∀ base : Heap, FnG ⟨K, ca, xa⟩ l.prog w mg base "law" "law" st k ["script"] g) (hf : mg "law" = some (.ref fa))
    (hb : ∀ (kV doc pm : Value) (an : Option Addr) (cdv ct u : Value), bindArgs (PySem.W.fnOf "law" "law" (defArgs st) (defBody st) (defScope st) .none kV doc pm an cdv ct) ⟨[u], []⟩ = pure [(("script" : Str), u)])
    (hlaw : ∀ ns : List Int, ns.length ≤ 63 → (∀ z ∈ ns, Builtin.Int.intBits z ≤ 1048576) → ∃ μ, g [.rl (ns.map .int)] [] = .ok (.bl true) μ) :
    LamX.LawAtG l w K (L2.CX l.prog w) k 63 "script" mg fa h := by
  obtain ⟨f, fd, F0, hm, _, _⟩ := (F h).ex
  obtain ⟨oc, od, kV, doc, pm, an, cdv, ct, osl, efd, lk, hcd⟩ := F0.ex
  have ef : f = fa := by
    have := hm.symm.trans hf
    simpa using this
  subst ef
  refine ⟨fd, [], spD ⟨K, ca, xa⟩ 1 g, fun p hp => absurd hp (by simp), fun p hp => absurd hp (by simp), fun p hp => absurd hp (by simp), fun s u => ?_, fun H a ns hl hz _ hS => ?_, fun base _ _ _ => ?_⟩
  · rw [efd]
    exact .of_eq (hb kV doc pm an cdv ct u)
  · obtain ⟨μ, e⟩ := hlaw ns hl hz
    exact sp_law hS e
  · obtain ⟨f2, fd2, F2, hm2, _, Fo⟩ := (F base).ex
    obtain ⟨oc2, od2, kV2, doc2, pm2, an2, cdv2, ct2, osl2, efd2, lk2, _⟩ := F2.ex
    have e2 : f2 = f := by
      have := hm2.symm.trans hf
      simpa using this
    subst e2
    have e3 : fd2 = fd := by
      have h1 : K.lookup f2 = some _ := lk2
      have h2 : K.lookup f2 = some _ := lk
      rw [h1] at h2
      have h3 := congrArg Obj.data (Option.some.inj h2)
      exact Data.func.inj h3
    subst e3
    exact Fo
end DL
/-! text DL19 -/
/-! what the terms come to: equations for simp -/
namespace DL
open PySem PySem.Spec PyProof.Rows L2
section
variable {σ : Sg} {μ : Store} {d e : D} {fa fb fc : EF} {ff : AF}
@[simp] theorem ev_sb {α : Type} {a : α} {k : α → Store → SR} : sBind (.ok a μ) σ k = k a μ := rfl
@[simp] theorem ev_sbx {α : Type} {c : Nat} {x : Option D} {k : α → Store → SR} : sBind (.exc c x μ : Res α) σ k = .exc c x μ := rfl
@[simp] theorem ev_of {α : Type} {a : α} : ofO (some (a, μ)) = .ok a μ := rfl
theorem ev_C : fC d σ μ = .ok d μ := rfl
theorem ev_nil : aNil σ μ = .ok [] μ := rfl
theorem ev_cons : aCons fa ff σ μ = (fa σ μ).bind fun x μ => (ff σ μ).bind fun xs μ => .ok (x :: xs) μ := rfl
theorem ev_bin {op : O2} : fBin op fa fb σ μ = (fa σ μ).bind fun x μ => (fb σ μ).bind fun y μ => ofO (op x y μ) := rfl
theorem ev_un {op : D → Store → Option (D × Store)} : fUn op fa σ μ = (fa σ μ).bind fun x μ => ofO (op x μ) := rfl
theorem ev_bi {op : OL} : fBi op ff σ μ = (ff σ μ).bind fun xs μ => ofO (op xs μ) := rfl
theorem ev_tb : fTb fa σ μ = (fa σ μ).bind asB := rfl
@[simp] theorem ev_asB {b : Bool} : asB (.bl b) μ = .ok b μ := rfl
theorem ev_and : fAnd fa fb σ μ = (fTb fa σ μ).bind fun k μ => if k = true then fb σ μ else .ok (.bl false) μ := rfl
theorem ev_or : fOr fa fb σ μ = (fTb fa σ μ).bind fun k μ => if k = true then .ok (.bl true) μ else fb σ μ := rfl
theorem ev_not : fNot fa σ μ = (fTb fa σ μ).bind fun k μ => .ok (.bl (!k)) μ := rfl
theorem ev_andB {ft fu : BF} : fAndB ft fu σ μ = (ft σ μ).bind fun k μ => if k = true then fu σ μ else .ok false μ := rfl
theorem ev_orB {ft fu : BF} : fOrB ft fu σ μ = (ft σ μ).bind fun k μ => if k = true then .ok true μ else fu σ μ := rfl
theorem ev_notB {ft : BF} : fNotB ft σ μ = (ft σ μ).bind fun k μ => .ok (!k) μ := rfl
theorem ev_if {ft : BF} : fIf ft fa fb σ μ = (ft σ μ).bind fun k μ => if k = true then fa σ μ else fb σ μ := rfl
theorem ev_call {n : Nat} {g : FF} : fCall n g ff σ μ = (ff σ μ).bind fun ds μ => if ds.length = n then g ds μ else .stuck := rfl
theorem ev_tup : fTup ff σ μ = (ff σ μ).bind fun xs μ => if xs.length ≤ cap then .ok (.tup xs) μ else .stuck := rfl
theorem ev_lstF : fLst false ff σ μ = (ff σ μ).bind fun xs μ => if xs.length ≤ cap then .ok (.lst xs) μ else .stuck := rfl
theorem ev_lstT : fLst true ff σ μ = (ff σ μ).bind fun xs μ => if xs.length ≤ cap then .ok (.loc μ.length) (μ ++ [.lst xs]) else .stuck := rfl
theorem ev_chain {f g : O2} : fChain f g fa fb fc σ μ = (fa σ μ).bind fun x μ => (fb σ μ).bind fun y μ => (ofO (f x y μ)).bind fun z μ => (asB z μ).bind fun k μ => if k = true then (fc σ μ).bind fun u μ => ofO (g y u μ) else .ok (.bl false) μ := rfl
theorem ev_seq {f g : SF} : sSeq f g σ μ = (match f σ μ with | .next σ' μ' => g σ' μ' | r => r) := rfl
theorem ev_snil : sNil σ μ = .next σ μ := rfl
theorem ev_ret : sRet fa σ μ = sBind (fa σ μ) σ fun d μ => .ret d μ := rfl
theorem ev_expr : sExpr fa σ μ = sBind (fa σ μ) σ fun _ μ => .next σ μ := rfl
theorem ev_sif {ft : BF} {f g : SF} : sIf ft f g σ μ = sBind (ft σ μ) σ fun k μ => if k = true then f σ μ else g σ μ := rfl
theorem ev_asg {g : TgF} : sAsg g fa σ μ = sBind (fa σ μ) σ fun d μ => (match g d σ μ with | some σ' => .next σ' μ | none => .stuck) := rfl
@[simp] theorem ev_gN {i : Nat} : gN i d σ μ = some (σ.set i (some d)) := rfl
theorem ev_true : tTrue σ μ = .ok true μ := rfl
@[simp] theorem ev_V0 {x0 : Option D} : fV 0 (some d :: σ) μ = .ok d μ := rfl
@[simp] theorem ev_V1 {x0 : Option D} : fV 1 (x0 :: some d :: σ) μ = .ok d μ := rfl
@[simp] theorem ev_V2 {x0 x1 : Option D} : fV 2 (x0 :: x1 :: some d :: σ) μ = .ok d μ := rfl
@[simp] theorem ev_V3 {x0 x1 x2 : Option D} : fV 3 (x0 :: x1 :: x2 :: some d :: σ) μ = .ok d μ := rfl
@[simp] theorem ev_V4 {x0 x1 x2 x3 : Option D} : fV 4 (x0 :: x1 :: x2 :: x3 :: some d :: σ) μ = .ok d μ := rfl
@[simp] theorem ev_V5 {x0 x1 x2 x3 x4 : Option D} : fV 5 (x0 :: x1 :: x2 :: x3 :: x4 :: some d :: σ) μ = .ok d μ := rfl
@[simp] theorem ev_V6 {x0 x1 x2 x3 x4 x5 : Option D} : fV 6 (x0 :: x1 :: x2 :: x3 :: x4 :: x5 :: some d :: σ) μ = .ok d μ := rfl
@[simp] theorem ev_V7 {x0 x1 x2 x3 x4 x5 x6 : Option D} : fV 7 (x0 :: x1 :: x2 :: x3 :: x4 :: x5 :: x6 :: some d :: σ) μ = .ok d μ := rfl
@[simp] theorem ev_V8 {x0 x1 x2 x3 x4 x5 x6 x7 : Option D} : fV 8 (x0 :: x1 :: x2 :: x3 :: x4 :: x5 :: x6 :: x7 :: some d :: σ) μ = .ok d μ := rfl
@[simp] theorem ev_V9 {x0 x1 x2 x3 x4 x5 x6 x7 x8 : Option D} : fV 9 (x0 :: x1 :: x2 :: x3 :: x4 :: x5 :: x6 :: x7 :: x8 :: some d :: σ) μ = .ok d μ := rfl
@[simp] theorem ev_V10 {x0 x1 x2 x3 x4 x5 x6 x7 x8 x9 : Option D} : fV 10 (x0 :: x1 :: x2 :: x3 :: x4 :: x5 :: x6 :: x7 :: x8 :: x9 :: some d :: σ) μ = .ok d μ := rfl
@[simp] theorem ev_V11 {x0 x1 x2 x3 x4 x5 x6 x7 x8 x9 x10 : Option D} : fV 11 (x0 :: x1 :: x2 :: x3 :: x4 :: x5 :: x6 :: x7 :: x8 :: x9 :: x10 :: some d :: σ) μ = .ok d μ := rfl
@[simp] theorem ev_V12 {x0 x1 x2 x3 x4 x5 x6 x7 x8 x9 x10 x11 : Option D} : fV 12 (x0 :: x1 :: x2 :: x3 :: x4 :: x5 :: x6 :: x7 :: x8 :: x9 :: x10 :: x11 :: some d :: σ) μ = .ok d μ := rfl
@[simp] theorem ev_V13 {x0 x1 x2 x3 x4 x5 x6 x7 x8 x9 x10 x11 x12 : Option D} : fV 13 (x0 :: x1 :: x2 :: x3 :: x4 :: x5 :: x6 :: x7 :: x8 :: x9 :: x10 :: x11 :: x12 :: some d :: σ) μ = .ok d μ := rfl
@[simp] theorem ev_V14 {x0 x1 x2 x3 x4 x5 x6 x7 x8 x9 x10 x11 x12 x13 : Option D} : fV 14 (x0 :: x1 :: x2 :: x3 :: x4 :: x5 :: x6 :: x7 :: x8 :: x9 :: x10 :: x11 :: x12 :: x13 :: some d :: σ) μ = .ok d μ := rfl
@[simp] theorem ev_V15 {x0 x1 x2 x3 x4 x5 x6 x7 x8 x9 x10 x11 x12 x13 x14 : Option D} : fV 15 (x0 :: x1 :: x2 :: x3 :: x4 :: x5 :: x6 :: x7 :: x8 :: x9 :: x10 :: x11 :: x12 :: x13 :: x14 :: some d :: σ) μ = .ok d μ := rfl
def truR (d : D) (μ : Store) : Res Bool := match truD d μ with
  | some k => .ok k μ
  | none => .stuck
theorem ev_tru : fTru fa σ μ = (fa σ μ).bind truR := rfl
@[simp] theorem ev_truB {b : Bool} : truR (.bl b) μ = .ok b μ := rfl
@[simp] theorem ev_truI {i : Int} : truR (.int i) μ = .ok (i != 0) μ := rfl
def setR (o i d : D) (σ : Sg) (μ : Store) : SR := match setAt o i d μ with
  | some μ' => .next σ μ'
  | none => .stuck
theorem ev_set {fo fi fe : EF} : sSet fo fi fe σ μ = sBind (fe σ μ) σ fun d μ => sBind (fo σ μ) σ fun o μ => sBind (fi σ μ) σ fun i μ => setR o i d σ μ := rfl
/-! sequence: a statement that goes on -/
theorem seq_next {f g : SF} {σ' : Sg} {μ' : Store} (h : f σ μ = .next σ' μ') : sSeq f g σ μ = g σ' μ' := by rw [ev_seq, h]
theorem seq_ret {f g : SF} {μ' : Store} (h : f σ μ = .ret d μ') : sSeq f g σ μ = .ret d μ' := by rw [ev_seq, h]
@[simp] theorem ev_absI {i : Int} : oAbs [.int i] μ = some (.int (if i < 0 then -i else i), μ) := rfl
theorem ev_cap {α : Type} {n : Nat} {a b : α} (h : n ≤ 1000) : (if n ≤ cap then a else b) = a := if_pos (cap_small h)
/-! ops on ints -/
@[simp] theorem ev_addI {m : Bool} {i j : Int} : oAdd m (.int i) (.int j) μ = some (.int (i + j), μ) := rfl
@[simp] theorem ev_subI {i j : Int} : oSub (.int i) (.int j) μ = some (.int (i - j), μ) := rfl
theorem log2_small {i : Int} (h : i.natAbs < 2 ^ 499999) : i.natAbs.log2 < 499999 := by
  by_cases h0 : i.natAbs = 0
  · rw [h0]; decide
  · exact (Nat.log2_lt h0).mpr h
@[simp] theorem ev_mulI {m : Bool} {i j : Int} (hi : i.natAbs < 2 ^ 64) (hj : j.natAbs < 2 ^ 64) : oMul m (.int i) (.int j) μ = some (.int (i * j), μ) := by
  have big : ∀ {k : Int}, k.natAbs < 2 ^ 64 → k.natAbs.log2 < 64 := fun {k} h => by
    by_cases h0 : k.natAbs = 0
    · rw [h0]; decide
    · exact (Nat.log2_lt h0).mpr h
  have h1 := big hi
  have h2 := big hj
  show (if i.natAbs.log2 + j.natAbs.log2 < 1000000 then some (D.int (i * j), μ) else none) = _
  rw [if_pos (by omega)]
@[simp] theorem ev_modI {i j : Int} (h : 0 < j) : oMod (.int i) (.int j) μ = some (.int (i % j), μ) := by
  show (if 0 < j then some (D.int (i % j), μ) else none) = _
  rw [if_pos h]
theorem ev_fdvI {i j : Int} (h : 0 < j) (h2 : j < 2 ^ 64) : oFdv (.int i) (.int j) μ = some (.int (i / j), μ) := by
  have : j.natAbs.log2 < 64 := (Nat.log2_lt (by omega)).mpr (by omega)
  show (if 0 < j ∧ j.natAbs.log2 < 9000 then some (D.int (i / j), μ) else none) = _
  rw [if_pos ⟨h, by omega⟩]
@[simp] theorem ev_powI {i : Int} {j : Int} (h0 : 0 ≤ j) (h1 : j ≤ 1000000) (h : i.natAbs < 2 ^ 64) : oPow (.int i) (.int j) μ = some (.int (i ^ j.toNat), μ) := by
  show (if 0 ≤ j ∧ j ≤ 1000000 ∧ i.natAbs < 2 ^ 64 then some (D.int (i ^ j.toNat), μ) else none) = _
  rw [if_pos ⟨h0, h1, h⟩]
@[simp] theorem ev_eqI {i j : Int} : oEq (.int i) (.int j) μ = some (.bl (i == j), μ) := rfl
@[simp] theorem ev_neI {i j : Int} : oNe (.int i) (.int j) μ = some (.bl (!(i == j)), μ) := rfl
@[simp] theorem ev_eqS {x y : Str} : oEq (.str x) (.str y) μ = some (.bl (x == y), μ) := rfl
@[simp] theorem ev_neS {x y : Str} : oNe (.str x) (.str y) μ = some (.bl (!(x == y)), μ) := rfl
@[simp] theorem ev_ltI {i j : Int} : oLt (.int i) (.int j) μ = some (.bl (decide (i < j)), μ) := rfl
@[simp] theorem ev_leI {i j : Int} : oLe (.int i) (.int j) μ = some (.bl (decide (i ≤ j)), μ) := rfl
@[simp] theorem ev_gtI {i j : Int} : oGt (.int i) (.int j) μ = some (.bl (decide (j < i)), μ) := rfl
@[simp] theorem ev_geI {i j : Int} : oGe (.int i) (.int j) μ = some (.bl (decide (j ≤ i)), μ) := rfl
@[simp] theorem ev_intI {i : Int} : oInt [.int i] μ = some (.int i, μ) := rfl
@[simp] theorem ev_intB {b : Bool} : oInt [.bl b] μ = some (.int (if b = true then 1 else 0), μ) := rfl
end
end DL
/-! text DL20 -/
/-! sealing what needs none -/
namespace DL
open PySem PySem.Spec PyProof.Rows L2
mutual
/-- every mutable object that is named has a number below n -/
def clo (n : Nat) : D → Bool
  | .loc i => decide (i < n)
  | .tup xs => clos n xs
  | .rt xs => clos n xs
  | .lst xs => clos n xs
  | .rl xs => clos n xs
  | .dK _ xs => clos n xs
  | .dT _ xs => clos n xs
  | .ins _ _ xs => clos n xs
  | .er _ _ d => clo n d
  | _ => true
def clos (n : Nat) : List D → Bool
  | [] => true
  | x :: xs => clo n x && clos n xs
end
def cloO (n : Nat) : Ob → Bool
  | .lst xs => clos n xs
  | .dK _ xs => clos n xs
  | .dT _ xs => clos n xs
  | .ins _ _ xs => clos n xs
mutual
theorem sub_clo {n : Nat} {look : Nat → Option D} : ∀ d : D, clo n d = true → subW n look d = some d
  | .loc i, h => by simp only [clo, decide_eq_true_eq] at h; simp only [subW, if_pos h]
  | .tup xs, h => by simp only [clo] at h; simp only [subW, subs_clo xs h, Option.map_some]
  | .rt xs, h => by simp only [clo] at h; simp only [subW, subs_clo xs h, Option.map_some]
  | .lst xs, h => by simp only [clo] at h; simp only [subW, subs_clo xs h, Option.map_some]
  | .rl xs, h => by simp only [clo] at h; simp only [subW, subs_clo xs h, Option.map_some]
  | .dK _ xs, h => by simp only [clo] at h; simp only [subW, subs_clo xs h, Option.map_some]
  | .dT _ xs, h => by simp only [clo] at h; simp only [subW, subs_clo xs h, Option.map_some]
  | .ins _ _ xs, h => by simp only [clo] at h; simp only [subW, subs_clo xs h, Option.map_some]
  | .er _ _ d, h => by simp only [clo] at h; simp only [subW, sub_clo d h, Option.map_some]
  | .non, _ => by simp only [subW]
  | .bl _, _ => by simp only [subW]
  | .int _, _ => by simp only [subW]
  | .str _, _ => by simp only [subW]
  | .ty _, _ => by simp only [subW]
  | .ref _, _ => by simp only [subW]
  | .cls _, _ => by simp only [subW]
theorem subs_clo {n : Nat} {look : Nat → Option D} : ∀ xs : List D, clos n xs = true → subsW n look xs = some xs
  | [], _ => by simp only [subsW]
  | x :: xs, h => by
    simp only [clos, Bool.and_eq_true] at h
    simp only [subsW, sub_clo x h.1, subs_clo xs h.2]
end
theorem seal_clo {n : Nat} {μ : Store} : ∀ {l : List Ob}, (∀ o ∈ l, cloO n o = true) → sealS n μ l = some l
  | [], _ => rfl
  | o :: r, h => by
    have h1 : sealO n μ o = some o := by
      have := h o List.mem_cons_self
      cases o <;> simp only [cloO] at this <;> simp only [sealO, subs_clo _ this, Option.map_some]
    simp only [sealS, h1, seal_clo fun o ho => h o (List.mem_cons_of_mem _ ho)]
/-- nothing to seal -/
theorem seal_ok {n : Nat} {d : D} {μ : Store} (hd : clo n d = true) (hμ : ∀ o ∈ μ.take n, cloO n o = true) : sealR n (.ok d μ) = .ok d (μ.take n) := by
  simp only [sealR, sealD, sub_clo d hd, seal_clo hμ]
theorem seal_ok' {n : Nat} {d : D} {μ : Store} (hd : clo n d = true) (hl : μ.length = n) (hμ : ∀ o ∈ μ, cloO n o = true) : sealR n (.ok d μ) = .ok d μ := by
  rw [seal_ok hd (by rw [List.take_of_length_le (by omega)]; exact hμ), List.take_of_length_le (by omega)]
theorem seal_exc {n c : Nat} {d : D} {μ : Store} (hd : clo n d = true) (hl : μ.length = n) (hμ : ∀ o ∈ μ, cloO n o = true) : sealR n (.exc c (some d) μ) = .exc c (some d) μ := by
  have : μ.take n = μ := List.take_of_length_le (by omega)
  simp only [sealR, sealD, sub_clo d hd, this, seal_clo hμ]
/-- the last object of all is what is told: it becomes a standing list -/
theorem seal_last {n : Nat} {xs : List D} {μ : Store} {ν : Store} (hl : μ.length = n) (hx : clos n xs = true) (hμ : ∀ o ∈ μ, cloO n o = true) : sealR n (.ok (.loc n) (μ ++ .lst xs :: ν)) = .ok (.lst xs) μ := by
  have e1 : (μ ++ .lst xs :: ν)[n]? = some (.lst xs) := by rw [List.getElem?_append_right (by omega), hl]; simp
  have e2 : (μ ++ .lst xs :: ν).take n = μ := by rw [← hl, List.take_left']; rfl
  simp only [sealR, sealD, subW, Nat.lt_irrefl, if_false, e2, seal_clo hμ]
  simp only [lookD, subD.lookD, e1, subs_clo xs hx, Option.map_some]
theorem clos_append {n : Nat} : ∀ (xs ys : List D), clos n (xs ++ ys) = (clos n xs && clos n ys)
  | [], ys => by simp [clos]
  | x :: xs, ys => by rw [List.cons_append]; simp only [clos, clos_append xs ys, Bool.and_assoc]
theorem clos_all {n : Nat} : ∀ {xs : List D}, (∀ x ∈ xs, clo n x = true) → clos n xs = true
  | [], _ => by simp only [clos]
  | x :: xs, h => by
    simp only [clos, h x List.mem_cons_self, clos_all fun y hy => h y (List.mem_cons_of_mem _ hy), Bool.and_self]
end DL
/-! text DL21 -/
/-! loops and comprehensions by invariants -/
namespace DL
open PySem PySem.Spec PyProof.Rows L2
/-- the items of a source, while Q holds of the store -/
def SrcIs (src : Src) (its : List D) (Q : Store → Prop) : Prop := ∀ μ, Q μ → ∀ i, src.at μ i = some its[i]?
theorem src_rng {lo : Int} {n : Nat} {Q : Store → Prop} : SrcIs (.rng lo n) ((List.range n).map fun (i : Nat) => .int (lo + i)) Q := fun μ _ i => by
  simp only [Src.at]
  by_cases h : i < n
  · rw [if_pos h, List.getElem?_map, List.getElem?_range h]; rfl
  · rw [if_neg h, List.getElem?_map, List.getElem?_eq_none (by simpa using h)]; rfl
theorem src_st {x : Str} {Q : Store → Prop} : SrcIs (.st x) (x.cps.toList.map fun c => .str ⟨#[c]⟩) Q := fun μ _ i => by
  simp only [Src.at]
  rw [List.getElem?_map, Array.getElem?_toList]
theorem src_sq {d : D} {xs : List D} {Q : Store → Prop} (h : ∀ μ, Q μ → getS μ d = some xs) : SrcIs (.sq d) xs Q := fun μ q i => by
  simp only [Src.at, h μ q, Option.map_some]
def enI : Nat → List D → List D
  | _, [] => []
  | i, x :: xs => .tup [.int i, x] :: enI (i + 1) xs
theorem enI_get : ∀ (xs : List D) (k i : Nat), (enI k xs)[i]? = xs[i]?.map fun x => .tup [.int (k + i : Nat), x]
  | [], k, i => by simp [enI]
  | x :: xs, k, 0 => by simp [enI]
  | x :: xs, k, i + 1 => by
    simp only [enI, List.getElem?_cons_succ, enI_get xs (k + 1) i]
    congr 1
    funext y
    congr 3
    omega
theorem src_en {d : D} {xs : List D} {Q : Store → Prop} (h : ∀ μ, Q μ → getS μ d = some xs) : SrcIs (.en d) (enI 0 xs) Q := fun μ q i => by
  simp only [Src.at, h μ q, Option.map_some, enI_get, Nat.zero_add]
section
variable {σ : Sg} {src : Src} {its : List D} {Q : Store → Prop} {g : TgF}
theorem loopC_inv {ft : BF} {fe : EF} {own : List Nat} (hs : SrcIs src its Q) (P : Nat → List D → Store → Prop) (hQ : ∀ i acc μ, P i acc μ → Q μ) (hz : its.length ≤ cap)
    (step : ∀ i d acc μ, its[i]? = some d → acc.length ≤ i → P i acc μ → ∃ σ1 t μ1, g d (wipeD σ own) μ = some σ1 ∧ ft σ1 μ = .ok t μ1 ∧ (t = false → P (i + 1) acc μ1) ∧ (t = true → ∃ x μ2, fe σ1 μ1 = .ok x μ2 ∧ P (i + 1) (acc ++ [x]) μ2)) :
    ∀ (k i : Nat) (acc : List D) (μ : Store), its.length ≤ k + i → i ≤ its.length → acc.length ≤ i → P i acc μ → ∃ xs μ', loopC g ft fe own src σ (k + 1) i acc μ = .ok xs μ' ∧ P its.length xs μ' := by
  intro k
  induction k with
  | zero =>
    intro i acc μ h1 h2 h3 p
    have e : i = its.length := by omega
    subst e
    refine ⟨acc, μ, ?_, p⟩
    unfold loopC
    rw [hs μ (hQ _ _ _ p), List.getElem?_eq_none (Nat.le_refl _)]
  | succ k ih =>
    intro i acc μ h1 h2 h3 p
    unfold loopC
    rw [hs μ (hQ _ _ _ p)]
    by_cases hi : i < its.length
    · obtain ⟨σ1, t, μ1, e1, e2, e3, e4⟩ := step i its[i] acc μ (by simp [hi]) h3 p
      rw [List.getElem?_eq_getElem hi]
      simp only [e1, e2, noX, Res.bind_ok]
      cases t with
      | false =>
        simp only [Bool.false_eq_true, if_false]
        exact ih (i + 1) acc μ1 (by omega) hi (by omega) (e3 rfl)
      | true =>
        obtain ⟨x, μ2, e5, p2⟩ := e4 rfl
        simp only [if_true, e5, noX, Res.bind_ok]
        rw [if_pos (by omega)]
        exact ih (i + 1) (acc ++ [x]) μ2 (by omega) hi (by simp; omega) p2
    · have e : i = its.length := by omega
      subst e
      exact ⟨acc, μ, by rw [List.getElem?_eq_none (Nat.le_refl _)], p⟩
theorem loopF_inv {body : SF} (hs : SrcIs src its Q) (P : Nat → Sg → Store → Prop) (hQ : ∀ i σ μ, P i σ μ → Q μ)
    (step : ∀ i d σ μ, its[i]? = some d → P i σ μ → ∃ σ1 σ2 μ2, g d σ μ = some σ1 ∧ body σ1 μ = .next σ2 μ2 ∧ P (i + 1) σ2 μ2) :
    ∀ (k i : Nat) (σ : Sg) (μ : Store), its.length ≤ k + i → i ≤ its.length → P i σ μ → ∃ σ' μ', loopF g body src (k + 1) i σ μ = .next σ' μ' ∧ P its.length σ' μ' := by
  intro k
  induction k with
  | zero =>
    intro i σ μ h1 h2 p
    have e : i = its.length := by omega
    subst e
    refine ⟨σ, μ, ?_, p⟩
    unfold loopF
    rw [hs μ (hQ _ _ _ p), List.getElem?_eq_none (Nat.le_refl _)]
  | succ k ih =>
    intro i σ μ h1 h2 p
    unfold loopF
    rw [hs μ (hQ _ _ _ p)]
    by_cases hi : i < its.length
    · obtain ⟨σ1, σ2, μ2, e1, e2, p2⟩ := step i its[i] σ μ (by simp [hi]) p
      rw [List.getElem?_eq_getElem hi]
      simp only [e1, e2]
      exact ih (i + 1) σ2 μ2 (by omega) hi p2
    · have e : i = its.length := by omega
      subst e
      exact ⟨σ, μ, by rw [List.getElem?_eq_none (Nat.le_refl _)], p⟩
theorem fuel_of {μ : Store} (hs : SrcIs src its Q) (q : Q μ) : src.fuel μ = its.length ∨ True := .inr trivial
/-- a comprehension, its source known -/
theorem lc_inv {fi : IF} {ft : BF} {fe : EF} {own : List Nat} {μ μ0 : Store} (hi : fi σ μ = .ok src μ0) (hs : SrcIs src its Q) (P : Nat → List D → Store → Prop) (hQ : ∀ i acc μ, P i acc μ → Q μ) (hz : its.length ≤ cap) (hf : its.length ≤ src.fuel μ0)
    (step : ∀ i d acc μ, its[i]? = some d → acc.length ≤ i → P i acc μ → ∃ σ1 t μ1, g d (wipeD σ own) μ = some σ1 ∧ ft σ1 μ = .ok t μ1 ∧ (t = false → P (i + 1) acc μ1) ∧ (t = true → ∃ x μ2, fe σ1 μ1 = .ok x μ2 ∧ P (i + 1) (acc ++ [x]) μ2)) (h0 : P 0 [] μ0) :
    ∃ xs μ', fLc false fi g ft fe own σ μ = .ok (.lst xs) μ' ∧ P its.length xs μ' := by
  obtain ⟨xs, μ', e, p⟩ := loopC_inv hs P hQ hz step (src.fuel μ0) 0 [] μ0 (by omega) (Nat.zero_le _) (Nat.le_refl _) h0
  refine ⟨xs, μ', ?_, p⟩
  simp only [fLc, hi, Res.bind_ok, e, newL, Bool.false_eq_true, if_false]
theorem for_inv {fi : IF} {body : SF} {μ μ0 : Store} (hi : fi σ μ = .ok src μ0) (hs : SrcIs src its Q) (P : Nat → Sg → Store → Prop) (hQ : ∀ i σ μ, P i σ μ → Q μ) (hf : its.length ≤ src.fuel μ0)
    (step : ∀ i d σ μ, its[i]? = some d → P i σ μ → ∃ σ1 σ2 μ2, g d σ μ = some σ1 ∧ body σ1 μ = .next σ2 μ2 ∧ P (i + 1) σ2 μ2) (h0 : P 0 σ μ0) :
    ∃ σ' μ', sFor fi g body σ μ = .next σ' μ' ∧ P its.length σ' μ' := by
  obtain ⟨σ', μ', e, p⟩ := loopF_inv hs P hQ step (src.fuel μ0) 0 σ μ0 (by omega) (Nat.zero_le _) h0
  exact ⟨σ', μ', by simp only [sFor, hi, ev_sb, e], p⟩
end
end DL
/-! text DL22 -/
/-! what holds behind a term: one wish for its answer, one for what it raises -/
namespace DL
open PySem PySem.Spec PyProof.Rows L2
abbrev XP := Nat → Option D → Store → Prop
/-- a mark whose type bears what simp is to keep out of -/
class U0 : Type where
  mk' ::
instance instU0 : U0 := ⟨⟩
@[reducible] def Mk0 {α : Sort u} (_ : α) : Type := U0
abbrev NoX : XP := fun _ _ _ => False
@[irreducible] def Wp {α : Type} (r : Res α) (Q : α → Store → Prop) (E : XP) [Mk0 Q] [Mk0 E] : Prop := match r with
  | .ok a μ => Q a μ
  | .exc c d μ => E c d μ
  | .stuck => False
@[irreducible] def WpS (r : SR) (N : Sg → Store → Prop) (R : D → Store → Prop) (E : XP) [Mk0 N] [Mk0 R] [Mk0 E] : Prop := match r with
  | .next σ μ => N σ μ
  | .ret d μ => R d μ
  | .exc c d μ => E c d μ
  | _ => False
/-- two ways -/
@[irreducible] def Br (b : Bool) (P Q : Prop) [Mk0 P] [Mk0 Q] : Prop := (b = true → P) ∧ (b = false → Q)
/-- this, and then that -/
@[irreducible] def An (p q : Prop) [Mk0 q] : Prop := p ∧ q
theorem An_eq {p q : Prop} : (An p q : Prop) = (p ∧ q) := by with_unfolding_all rfl
theorem An.mk {p q : Prop} (h1 : p) (h2 : q) : An p q := by rw [An_eq]; exact ⟨h1, h2⟩
@[simp] theorem An_true {q : Prop} : (An True q : Prop) = q := by rw [An_eq, true_and]
theorem An_of {p q : Prop} (h : p) : (An p q : Prop) = q := by rw [An_eq, eq_true h, true_and]
theorem An_no {p q : Prop} (h : ¬ p) : (An p q : Prop) = False := by rw [An_eq, eq_false h, false_and]
/-- a claim that simp is to leave as it is -/
@[irreducible] def Th (p : Prop) [Mk0 p] : Prop := p
theorem Th_eq {p : Prop} : (Th p : Prop) = p := by with_unfolding_all rfl
theorem Th.mk {p : Prop} (h : p) : Th p := by rw [Th_eq]; exact h
theorem Th.get {p : Prop} (h : Th p) : p := by rw [Th_eq] at h; exact h
section
variable {α β : Type} {Q Q' : α → Store → Prop} {E E' : XP} {r r' : Res α} {μ : Store} {σ : Sg} {P P' : Prop} {b b' : Bool} {N N' : Sg → Store → Prop} {R R' : D → Store → Prop} {t t' : SR}
@[simp] theorem Br_true : (Br true P P' : Prop) = P := by simp [Br]
@[simp] theorem Br_false : (Br false P P' : Prop) = P' := by simp [Br]
theorem Br_eq : (Br b P P' : Prop) = ((b = true → P) ∧ (b = false → P')) := by with_unfolding_all rfl
theorem Br.same {A : Prop} (h : A) : Br b A A := by rw [Br_eq]; exact ⟨fun _ => h, fun _ => h⟩
theorem Br.of (h1 : b = true → P) (h2 : b = false → P') : Br b P P' := by rw [Br_eq]; exact ⟨h1, h2⟩
theorem Br.get (h : Br b P P') : (b = true → P) ∧ (b = false → P') := by rw [Br_eq] at h; exact h
@[simp] theorem Wp_ok {a : α} : (Wp (.ok a μ) Q E : Prop) = Q a μ := by with_unfolding_all rfl
@[simp] theorem Wp_exc {c : Nat} {d : Option D} : (Wp (.exc c d μ : Res α) Q E : Prop) = E c d μ := by with_unfolding_all rfl
@[simp] theorem WpS_next : (WpS (.next σ μ) N R E : Prop) = N σ μ := by with_unfolding_all rfl
@[simp] theorem WpS_ret {d : D} : (WpS (.ret d μ) N R E : Prop) = R d μ := by with_unfolding_all rfl
@[simp] theorem WpS_exc {c : Nat} {d : Option D} : (WpS (.exc c d μ) N R E : Prop) = E c d μ := by with_unfolding_all rfl
theorem Wp_stuck : (Wp (.stuck : Res α) Q E : Prop) = False := by with_unfolding_all rfl
theorem WpS_stuck : (WpS .stuck N R E : Prop) = False := by with_unfolding_all rfl
theorem WpS_brk : (WpS (.brk σ μ) N R E : Prop) = False := by with_unfolding_all rfl
theorem wps_no {t : SR} (h : WpS t N R E) (e : t = .stuck ∨ (∃ σ μ, t = .brk σ μ) ∨ ∃ σ μ, t = .cont σ μ) : False := by
  rcases e with rfl | ⟨_, _, rfl⟩ | ⟨_, _, rfl⟩
  · with_unfolding_all exact h
  · with_unfolding_all exact h
  · with_unfolding_all exact h
theorem WpS_cont : (WpS (.cont σ μ) N R E : Prop) = False := by with_unfolding_all rfl
@[simp ↓] theorem Wp_bind {s : Res β} {k : β → Store → Res α} : (Wp (s.bind k) Q E : Prop) = Wp s (fun a μ => Wp (k a μ) Q E) E := by cases s <;> with_unfolding_all rfl
theorem Wp_ext (h : ∀ a μ, Q a μ = Q' a μ) : (Wp r Q E : Prop) = Wp r Q' E := by have : Q = Q' := funext fun a => funext fun μ => h a μ; subst this; with_unfolding_all rfl
theorem Wp.mono (h : Wp r Q E) (q : ∀ a μ, Q a μ → Q' a μ) (x : ∀ c d μ, E c d μ → E' c d μ) : Wp r Q' E' := by
  cases r with
  | ok a μ => rw [Wp_ok] at h ⊢; exact q _ _ h
  | exc c d μ => rw [Wp_exc] at h ⊢; exact x _ _ _ h
  | stuck => rw [Wp_stuck] at h; exact h.elim
theorem Wp.imp (h : Wp r Q NoX) (q : ∀ a μ, Q a μ → Q' a μ) : Wp r Q' E := h.mono q fun _ _ _ h => h.elim
theorem WpS.mono (h : WpS t N R E) (n : ∀ σ μ, N σ μ → N' σ μ) (r : ∀ d μ, R d μ → R' d μ) (x : ∀ c d μ, E c d μ → E' c d μ) : WpS t N' R' E' := by
  cases t with
  | next σ μ => rw [WpS_next] at h ⊢; exact n _ _ h
  | ret d μ => rw [WpS_ret] at h ⊢; exact r _ _ h
  | exc c d μ => rw [WpS_exc] at h ⊢; exact x _ _ _ h
  | brk => rw [WpS_brk] at h; exact h.elim
  | cont => rw [WpS_cont] at h; exact h.elim
  | stuck => rw [WpS_stuck] at h; exact h.elim
theorem WpS.cut (h : WpS t (fun σ μ => Th (N' σ μ)) R E) (n : ∀ σ μ, N' σ μ → N σ μ) : WpS t N R E := h.mono (fun σ μ h => n σ μ h.get) (fun _ _ h => h) fun _ _ _ h => h
theorem Wp.cut (h : Wp r (fun a μ => Th (Q' a μ)) E) (q : ∀ a μ, Q' a μ → Q a μ) : Wp r Q E := h.mono (fun a μ h => q a μ h.get) fun _ _ _ h => h
theorem Wp.ok (h : Wp r Q NoX) : ∃ a μ, r = .ok a μ ∧ Q a μ := by
  cases r with
  | ok a μ => rw [Wp_ok] at h; exact ⟨a, μ, rfl, h⟩
  | exc c d μ => rw [Wp_exc] at h; exact h.elim
  | stuck => rw [Wp_stuck] at h; exact h.elim
theorem Wp.is {s : Res α} (h : Wp r (fun a μ => s = .ok a μ) (fun c d μ => s = .exc c d μ)) : r = s := by
  cases r with
  | ok a μ => rw [Wp_ok] at h; exact h.symm
  | exc c d μ => rw [Wp_exc] at h; exact h.symm
  | stuck => rw [Wp_stuck] at h; exact h.elim
theorem Wp.eq {a : α} {μ1 : Store} (h : Wp r (fun x μ' => x = a ∧ μ' = μ1) NoX) : r = .ok a μ1 := by
  obtain ⟨x, μ', e, rfl, rfl⟩ := h.ok
  exact e
theorem Wp.of {a : α} (h : r = .ok a μ) (q : Q a μ) : Wp r Q E := by rw [h, Wp_ok]; exact q
end
section
variable {σ : Sg} {μ μ0 : Store} {d e : D} {fa fb fc fo fi fe : EF} {ff fk : AF} {ft fu : BF} {Q : D → Store → Prop} {QB : Bool → Store → Prop} {QL : List D → Store → Prop} {E : XP} {N : Sg → Store → Prop} {R : D → Store → Prop} {f g : SF}
/-! expressions -/
@[simp ↓] theorem wp_C : (Wp (fC d σ μ) Q E : Prop) = Q d μ := by with_unfolding_all rfl
@[simp ↓] theorem wp_bin {op : O2} : (Wp (fBin op fa fb σ μ) Q E : Prop) = Wp (fa σ μ) (fun x μ => Wp (fb σ μ) (fun y μ => Wp (ofO (op x y μ)) Q E) E) E := by rw [ev_bin, Wp_bind]; refine Wp_ext fun x μ => ?_; rw [Wp_bind]
@[simp ↓] theorem wp_un {op : D → Store → Option (D × Store)} : (Wp (fUn op fa σ μ) Q E : Prop) = Wp (fa σ μ) (fun x μ => Wp (ofO (op x μ)) Q E) E := by rw [ev_un, Wp_bind]
@[simp ↓] theorem wp_bi {op : OL} : (Wp (fBi op ff σ μ) Q E : Prop) = Wp (ff σ μ) (fun xs μ => Wp (ofO (op xs μ)) Q E) E := by rw [ev_bi, Wp_bind]
@[simp ↓] theorem wp_nil : (Wp (aNil σ μ) QL E : Prop) = QL [] μ := by with_unfolding_all rfl
@[simp ↓] theorem wp_cons : (Wp (aCons fa ff σ μ) QL E : Prop) = Wp (fa σ μ) (fun x μ => Wp (ff σ μ) (fun xs μ => QL (x :: xs) μ) E) E := by rw [ev_cons, Wp_bind]; refine Wp_ext fun x μ => ?_; rw [Wp_bind]; with_unfolding_all rfl
@[simp ↓] theorem wp_tb : (Wp (fTb fa σ μ) QB E : Prop) = Wp (fa σ μ) (fun x μ => Wp (asB x μ) QB E) E := by rw [ev_tb, Wp_bind]
@[simp ↓] theorem wp_tru : (Wp (fTru fa σ μ) QB E : Prop) = Wp (fa σ μ) (fun x μ => Wp (truR x μ) QB E) E := by rw [ev_tru, Wp_bind]
@[simp ↓] theorem wp_true : (Wp (tTrue σ μ) QB E : Prop) = QB true μ := by with_unfolding_all rfl
theorem wp_br {α : Type} {b : Bool} {x y : Res α} {Q : α → Store → Prop} : (Wp (if b = true then x else y) Q E : Prop) = Br b (Wp x Q E) (Wp y Q E) := by cases b <;> simp [Br]
theorem wps_br {b : Bool} {x y : SR} : (WpS (if b = true then x else y) N R E : Prop) = Br b (WpS x N R E) (WpS y N R E) := by cases b <;> simp [Br]
@[simp ↓] theorem wp_and : (Wp (fAnd fa fb σ μ) Q E : Prop) = Wp (fTb fa σ μ) (fun k μ => Br k (Wp (fb σ μ) Q E) (Q (.bl false) μ)) E := by rw [ev_and, Wp_bind]; refine Wp_ext fun x μ => ?_; rw [wp_br]; with_unfolding_all rfl
@[simp ↓] theorem wp_or : (Wp (fOr fa fb σ μ) Q E : Prop) = Wp (fTb fa σ μ) (fun k μ => Br k (Q (.bl true) μ) (Wp (fb σ μ) Q E)) E := by rw [ev_or, Wp_bind]; refine Wp_ext fun x μ => ?_; rw [wp_br]; with_unfolding_all rfl
@[simp ↓] theorem wp_not : (Wp (fNot fa σ μ) Q E : Prop) = Wp (fTb fa σ μ) (fun k μ => Q (.bl (!k)) μ) E := by rw [ev_not, Wp_bind]; with_unfolding_all rfl
@[simp ↓] theorem wp_andB : (Wp (fAndB ft fu σ μ) QB E : Prop) = Wp (ft σ μ) (fun k μ => Br k (Wp (fu σ μ) QB E) (QB false μ)) E := by rw [ev_andB, Wp_bind]; refine Wp_ext fun x μ => ?_; rw [wp_br]; with_unfolding_all rfl
@[simp ↓] theorem wp_orB : (Wp (fOrB ft fu σ μ) QB E : Prop) = Wp (ft σ μ) (fun k μ => Br k (QB true μ) (Wp (fu σ μ) QB E)) E := by rw [ev_orB, Wp_bind]; refine Wp_ext fun x μ => ?_; rw [wp_br]; with_unfolding_all rfl
@[simp ↓] theorem wp_notB : (Wp (fNotB ft σ μ) QB E : Prop) = Wp (ft σ μ) (fun k μ => QB (!k) μ) E := by rw [ev_notB, Wp_bind]; with_unfolding_all rfl
@[simp ↓] theorem wp_if : (Wp (fIf ft fa fb σ μ) Q E : Prop) = Wp (ft σ μ) (fun k μ => Br k (Wp (fa σ μ) Q E) (Wp (fb σ μ) Q E)) E := by rw [ev_if, Wp_bind]; refine Wp_ext fun x μ => ?_; rw [wp_br]
@[simp ↓] theorem wp_chain {op oq : O2} : (Wp (fChain op oq fa fb fc σ μ) Q E : Prop) = Wp (fa σ μ) (fun x μ => Wp (fb σ μ) (fun y μ => Wp (ofO (op x y μ)) (fun z μ => Wp (asB z μ) (fun k μ => Br k (Wp (fc σ μ) (fun u μ => Wp (ofO (oq y u μ)) Q E) E) (Q (.bl false) μ)) E) E) E) E := by
  rw [ev_chain, Wp_bind]; refine Wp_ext fun x μ => ?_; rw [Wp_bind]; refine Wp_ext fun y μ => ?_; rw [Wp_bind]; refine Wp_ext fun z μ => ?_; rw [Wp_bind]; refine Wp_ext fun k μ => ?_; rw [wp_br]
  cases k
  · rw [Br_false, Br_false]; with_unfolding_all rfl
  · rw [Br_true, Br_true, Wp_bind]
theorem wp_len {α : Type} {m n : Nat} {x : Res α} {Q : α → Store → Prop} (h : m = n) : (Wp (if m = n then x else .stuck) Q E : Prop) = Wp x Q E := by rw [if_pos h]
@[simp ↓] theorem wp_call {n : Nat} {g : FF} : (Wp (fCall n g ff σ μ) Q E : Prop) = Wp (ff σ μ) (fun ds μ => An (ds.length = n) (Wp (g ds μ) Q E)) E := by
  rw [ev_call, Wp_bind]
  refine Wp_ext fun ds μ => ?_
  by_cases h : ds.length = n
  · rw [if_pos h, An_of h]
  · rw [if_neg h, An_no h]; with_unfolding_all rfl
@[simp ↓] theorem wp_call0 {g : FF} : (Wp (fCall0 g σ μ) Q E : Prop) = Wp (g [] μ) Q E := by with_unfolding_all rfl
@[simp ↓] theorem wp_callK {n m len : Nat} {is : List Nat} {g : FF} : (Wp (fCallK n m is len g ff fk σ μ) Q E : Prop) = Wp (ff σ μ) (fun ds μ => Wp (fk σ μ) (fun es μ => An (ds.length = n ∧ es.length = m ∧ (pick is (ds ++ es)).length = len) (Wp (g (pick is (ds ++ es)) μ) Q E)) E) E := by
  rw [show fCallK n m is len g ff fk σ μ = (ff σ μ).bind fun ds μ => (fk σ μ).bind fun es μ => if ds.length = n ∧ es.length = m ∧ (pick is (ds ++ es)).length = len then g (pick is (ds ++ es)) μ else .stuck from rfl]
  rw [Wp_bind]
  refine Wp_ext fun ds μ => ?_
  rw [Wp_bind]
  refine Wp_ext fun es μ => ?_
  by_cases h : ds.length = n ∧ es.length = m ∧ (pick is (ds ++ es)).length = len
  · rw [if_pos h, An_of h]
  · rw [if_neg h, An_no h]; with_unfolding_all rfl
@[simp ↓] theorem wp_meth {C n : Nat} {m : Str} {g : FF} : (Wp (fMeth C m n g fo ff σ μ) Q E : Prop) = Wp (fo σ μ) (fun o μ => An (isIns C m o μ = true) (Wp (ff σ μ) (fun ds μ => An ((o :: ds).length = n) (Wp (g (o :: ds) μ) Q E)) E)) E := by
  rw [show fMeth C m n g fo ff σ μ = (fo σ μ).bind fun o μ => if isIns C m o μ = true then (ff σ μ).bind fun ds μ => if (o :: ds).length = n then g (o :: ds) μ else .stuck else .stuck from rfl]
  rw [Wp_bind]
  refine Wp_ext fun o μ => ?_
  by_cases h : isIns C m o μ = true
  · rw [if_pos h, Wp_bind, An_of h]
    refine Wp_ext fun ds μ => ?_
    by_cases h : (o :: ds).length = n
    · rw [if_pos h, An_of h]
    · rw [if_neg h, An_no h]; with_unfolding_all rfl
  · rw [if_neg h, An_no h]; with_unfolding_all rfl
@[simp ↓] theorem wp_methK {C nk len : Nat} {is : List Nat} {m : Str} {g : FF} : (Wp (fMethK C m nk is len g fo fk σ μ) Q E : Prop) = Wp (fo σ μ) (fun o μ => An (isIns C m o μ = true) (Wp (fk σ μ) (fun ds μ => An (ds.length = nk ∧ (pick is (o :: ds)).length = len) (Wp (g (pick is (o :: ds)) μ) Q E)) E)) E := by
  rw [show fMethK C m nk is len g fo fk σ μ = (fo σ μ).bind fun o μ => if isIns C m o μ = true then (fk σ μ).bind fun ds μ => if ds.length = nk ∧ (pick is (o :: ds)).length = len then g (pick is (o :: ds)) μ else .stuck else .stuck from rfl]
  rw [Wp_bind]
  refine Wp_ext fun o μ => ?_
  by_cases h : isIns C m o μ = true
  · rw [if_pos h, Wp_bind, An_of h]
    refine Wp_ext fun ds μ => ?_
    by_cases h : ds.length = nk ∧ (pick is (o :: ds)).length = len
    · rw [if_pos h, An_of h]
    · rw [if_neg h, An_no h]; with_unfolding_all rfl
  · rw [if_neg h, An_no h]; with_unfolding_all rfl
theorem wp_cap {α : Type} {n : Nat} {x : Res α} {Q : α → Store → Prop} : (Wp (if n ≤ cap then x else .stuck) Q E : Prop) = An (n ≤ cap) (Wp x Q E) := by
  by_cases h : n ≤ cap
  · rw [if_pos h, An_of h]
  · rw [if_neg h, An_no h]; with_unfolding_all rfl
@[simp ↓] theorem wp_tup : (Wp (fTup ff σ μ) Q E : Prop) = Wp (ff σ μ) (fun xs μ => An (xs.length ≤ cap) (Q (.tup xs) μ)) E := by rw [ev_tup, Wp_bind]; refine Wp_ext fun x μ => ?_; rw [wp_cap]; with_unfolding_all rfl
@[simp ↓] theorem wp_lstF : (Wp (fLst false ff σ μ) Q E : Prop) = Wp (ff σ μ) (fun xs μ => An (xs.length ≤ cap) (Q (.lst xs) μ)) E := by rw [ev_lstF, Wp_bind]; refine Wp_ext fun x μ => ?_; rw [wp_cap]; with_unfolding_all rfl
@[simp ↓] theorem wp_lstT : (Wp (fLst true ff σ μ) Q E : Prop) = Wp (ff σ μ) (fun xs μ => An (xs.length ≤ cap) (Q (.loc μ.length) (μ ++ [.lst xs]))) E := by rw [ev_lstT, Wp_bind]; refine Wp_ext fun x μ => ?_; rw [wp_cap]; with_unfolding_all rfl
@[simp] theorem cap_1000 {n : Nat} (h : n ≤ 1000) : (n ≤ cap) = True := eq_true (cap_small h)
/-! fields -/
@[irreducible] def Fg (o : Option D) (Q : D → Prop) [Mk0 Q] : Prop := match o with
  | some d => Q d
  | none => False
@[simp] theorem Fg_some {Q : D → Prop} : (Fg (some d) Q : Prop) = Q d := by with_unfolding_all rfl
@[simp ↓] theorem wp_fld {t : Nat → Str → Bool} {x : Str} : (Wp (fFld t x fo σ μ) Q E : Prop) = Wp (fo σ μ) (fun o μ => Fg (getF t x o μ) fun d => Q d μ) E := by
  rw [show fFld t x fo σ μ = (fo σ μ).bind fun o μ => match getF t x o μ with | some d => .ok d μ | none => .stuck from rfl]
  rw [Wp_bind]
  refine Wp_ext fun o μ => ?_
  cases getF t x o μ <;> with_unfolding_all rfl
/-- a text, an int -/
@[irreducible] def IsS (d : D) (Q : Str → Prop) [Mk0 Q] : Prop := match d with
  | .str a => Q a
  | _ => False
@[simp] theorem IsS_str {a : Str} {Q : Str → Prop} : IsS (.str a) Q = Q a := by with_unfolding_all rfl
@[irreducible] def IsI (d : D) (Q : Int → Prop) [Mk0 Q] : Prop := match d with
  | .int a => Q a
  | _ => False
@[simp] theorem IsI_int {a : Int} {Q : Int → Prop} : IsI (.int a) Q = Q a := by with_unfolding_all rfl
/-! slices, list methods, texts -/
@[simp ↓] theorem wp_oNo {QO : Option Int → Store → Prop} : (Wp (oNo σ μ) QO E : Prop) = QO none μ := by with_unfolding_all rfl
@[simp ↓] theorem wp_oSome {QO : Option Int → Store → Prop} : (Wp (oSome fa σ μ) QO E : Prop) = Wp (fa σ μ) (fun d μ => IsI d fun i => QO (some i) μ) E := by
  rw [show oSome fa σ μ = (fa σ μ).bind fun x μ => match x with | .int i => .ok (some i) μ | _ => .stuck from rfl, Wp_bind]
  refine Wp_ext fun d μ => ?_
  cases d <;> with_unfolding_all rfl
@[simp ↓] theorem wp_sl {m : Bool} {fl fh : OF} : (Wp (fSl m fa fl fh σ μ) Q E : Prop) = Wp (fa σ μ) (fun x μ => Wp (fl σ μ) (fun lo μ => Wp (fh σ μ) (fun hi μ => Wp (ofO (oSl m x lo hi μ)) Q E) E) E) E := by
  rw [show fSl m fa fl fh σ μ = (fa σ μ).bind fun x μ => (fl σ μ).bind fun lo μ => (fh σ μ).bind fun hi μ => ofO (oSl m x lo hi μ) from rfl]
  rw [Wp_bind]; refine Wp_ext fun x μ => ?_; rw [Wp_bind]; refine Wp_ext fun y μ => ?_; rw [Wp_bind]
@[simp ↓] theorem wp_rev {m : Bool} : (Wp (fRev m fa σ μ) Q E : Prop) = Wp (fa σ μ) (fun x μ => Wp (ofO (oRev m x μ)) Q E) E := by
  rw [show fRev m fa σ μ = (fa σ μ).bind fun d μ => ofO (oRev m d μ) from rfl, Wp_bind]
@[simp ↓] theorem wp_mt {op : OM} : (Wp (fMt op fo ff σ μ) Q E : Prop) = Wp (fo σ μ) (fun o μ => An (isLst o μ = true) (Wp (ff σ μ) (fun ds μ => Wp (ofO (op o ds μ)) Q E) E)) E := by
  rw [show fMt op fo ff σ μ = (fo σ μ).bind fun o μ => if isLst o μ = true then (ff σ μ).bind fun ds μ => ofO (op o ds μ) else .stuck from rfl]
  rw [Wp_bind]
  refine Wp_ext fun o μ => ?_
  by_cases h : isLst o μ = true
  · rw [if_pos h, Wp_bind, An_of h]
  · rw [if_neg h, An_no h]; with_unfolding_all rfl
@[simp ↓] theorem wp_m1s {op : OM} : (Wp (fM1S op fo fe σ μ) Q E : Prop) = Wp (fo σ μ) (fun o μ => IsS o fun a => Wp (fe σ μ) (fun d μ => Wp (ofO (op (.str a) [d] μ)) Q E) E) E := by
  rw [show fM1S op fo fe σ μ = (fo σ μ).bind fun o μ => match o with | .str a => (fe σ μ).bind fun d μ => ofO (op (.str a) [d] μ) | _ => .stuck from rfl]
  rw [Wp_bind]
  refine Wp_ext fun o μ => ?_
  cases o with
  | str a => simp only [Wp_bind, IsS_str]
  | _ => with_unfolding_all rfl
@[simp ↓] theorem wp_mkF {C n : Nat} {g : FF} : (Wp (fMake false C n g ff σ μ) Q E : Prop) = Wp (ff σ μ) (fun ds μ => An ((D.loc μ.length :: ds).length = n) (Wp (mkR false μ.length (g (.loc μ.length :: ds) (μ ++ [.ins C [] []]))) Q E)) E := by
  rw [show fMake false C n g ff σ μ = (ff σ μ).bind fun ds μ => if (D.loc μ.length :: ds).length = n then mkR false μ.length (g (.loc μ.length :: ds) (μ ++ [.ins C [] []])) else .stuck from rfl, Wp_bind]
  refine Wp_ext fun ds μ => ?_
  by_cases h : (D.loc μ.length :: ds).length = n
  · rw [if_pos h, An_of h]
  · rw [if_neg h, An_no h]; with_unfolding_all rfl
@[simp ↓] theorem wp_mkFK {C nk n : Nat} {is : List Nat} {g : FF} : (Wp (fMakeK false C nk is n g fk σ μ) Q E : Prop) = Wp (fk σ μ) (fun ds μ => An (ds.length = nk ∧ (pick is (D.loc μ.length :: ds)).length = n) (Wp (mkR false μ.length (g (pick is (.loc μ.length :: ds)) (μ ++ [.ins C [] []]))) Q E)) E := by
  rw [show fMakeK false C nk is n g fk σ μ = (fk σ μ).bind fun ds μ => if ds.length = nk ∧ (pick is (D.loc μ.length :: ds)).length = n then mkR false μ.length (g (pick is (.loc μ.length :: ds)) (μ ++ [.ins C [] []])) else .stuck from rfl, Wp_bind]
  refine Wp_ext fun ds μ => ?_
  by_cases h : ds.length = nk ∧ (pick is (D.loc μ.length :: ds)).length = n
  · rw [if_pos h, An_of h]
  · rw [if_neg h, An_no h]; with_unfolding_all rfl
/-! statements -/
@[simp ↓] theorem wps_seq : (WpS (sSeq f g σ μ) N R E : Prop) = WpS (f σ μ) (fun σ μ => WpS (g σ μ) N R E) R E := by
  rw [ev_seq]; cases f σ μ <;> with_unfolding_all rfl
theorem wps_bind {α : Type} {r : Res α} {k : α → Store → SR} : (WpS (sBind r σ k) N R E : Prop) = Wp r (fun a μ => WpS (k a μ) N R E) E := by cases r <;> with_unfolding_all rfl
@[simp ↓] theorem wps_nil : (WpS (sNil σ μ) N R E : Prop) = N σ μ := by with_unfolding_all rfl
@[simp ↓] theorem wps_retS : (WpS (sRet fa σ μ) N R E : Prop) = Wp (fa σ μ) R E := by rw [ev_ret, wps_bind]; with_unfolding_all rfl
@[simp ↓] theorem wps_retN : (WpS (sRetN σ μ) N R E : Prop) = R .non μ := by with_unfolding_all rfl
@[simp ↓] theorem wps_expr : (WpS (sExpr fa σ μ) N R E : Prop) = Wp (fa σ μ) (fun _ μ => N σ μ) E := by rw [ev_expr, wps_bind]; with_unfolding_all rfl
@[simp ↓] theorem wps_if : (WpS (sIf ft f g σ μ) N R E : Prop) = Wp (ft σ μ) (fun k μ => Br k (WpS (f σ μ) N R E) (WpS (g σ μ) N R E)) E := by rw [ev_sif, wps_bind]; refine Wp_ext fun x μ => ?_; rw [wps_br]
/-- a target takes a value -/
@[irreducible] def Tk (o : Option Sg) (N : Sg → Prop) [Mk0 N] : Prop := match o with
  | some σ => N σ
  | none => False
theorem Tk_none {N : Sg → Prop} : (Tk none N : Prop) = False := by with_unfolding_all rfl
@[simp] theorem Tk_some {N : Sg → Prop} : (Tk (some σ) N : Prop) = N σ := by with_unfolding_all rfl
@[simp] theorem tk_N {i : Nat} {K : Sg → Prop} : (Tk (gN i d σ μ) K : Prop) = K (σ.set i (some d)) := by with_unfolding_all rfl
@[simp] theorem tk_T {gs : TgsF} {n : Nat} {xs : List D} {K : Sg → Prop} : (Tk (gT gs n (.tup xs) σ μ) K : Prop) = An (xs.length = n) (Tk (gs xs σ μ) K) := by
  rw [show gT gs n (.tup xs) σ μ = if xs.length = n then gs xs σ μ else none from rfl]
  by_cases h : xs.length = n
  · rw [if_pos h, An_of h]
  · rw [if_neg h, An_no h]; with_unfolding_all rfl
@[simp] theorem tk_sC {t : TgF} {gs : TgsF} {ds : List D} {K : Sg → Prop} : (Tk (gsC t gs (d :: ds) σ μ) K : Prop) = Tk (t d σ μ) fun σ => Tk (gs ds σ μ) K := by
  rw [show gsC t gs (d :: ds) σ μ = (t d σ μ).bind fun σ' => gs ds σ' μ from rfl]
  cases t d σ μ <;> with_unfolding_all rfl
@[simp] theorem tk_sN {K : Sg → Prop} : (Tk (gsN [] σ μ) K : Prop) = K σ := by with_unfolding_all rfl
@[simp ↓] theorem wps_asg {t : TgF} : (WpS (sAsg t fa σ μ) N R E : Prop) = Wp (fa σ μ) (fun d μ => Tk (t d σ μ) fun σ => N σ μ) E := by
  rw [ev_asg, wps_bind]
  refine Wp_ext fun d μ => ?_
  cases t d σ μ <;> with_unfolding_all rfl
@[simp ↓] theorem wps_par {is : List Nat} : (WpS (sPar is ff σ μ) N R E : Prop) = Wp (ff σ μ) (fun ds μ => An (ds.length = is.length) (N ((is.zip ds).foldl (fun σ p => σ.set p.1 (some p.2)) σ) μ)) E := by
  rw [show sPar is ff σ μ = sBind (ff σ μ) σ fun ds μ => if ds.length = is.length then .next ((is.zip ds).foldl (fun σ p => σ.set p.1 (some p.2)) σ) μ else .stuck from rfl]
  rw [wps_bind]
  refine Wp_ext fun ds μ => ?_
  by_cases h : ds.length = is.length
  · rw [if_pos h, An_of h]; with_unfolding_all rfl
  · rw [if_neg h, An_no h]; with_unfolding_all rfl
/-- a store that is told -/
@[irreducible] def St (o : Option Store) (N : Store → Prop) [Mk0 N] : Prop := match o with
  | some μ => N μ
  | none => False
@[simp] theorem St_some {N : Store → Prop} : (St (some μ) N : Prop) = N μ := by with_unfolding_all rfl
@[simp ↓] theorem wps_set : (WpS (sSet fo fi fe σ μ) N R E : Prop) = Wp (fe σ μ) (fun d μ => Wp (fo σ μ) (fun o μ => Wp (fi σ μ) (fun i μ => St (setAt o i d μ) fun μ => N σ μ) E) E) E := by
  rw [show sSet fo fi fe σ μ = sBind (fe σ μ) σ fun d μ => sBind (fo σ μ) σ fun o μ => sBind (fi σ μ) σ fun i μ => match setAt o i d μ with | some μ' => .next σ μ' | none => .stuck from rfl]
  rw [wps_bind]; refine Wp_ext fun d μ => ?_; rw [wps_bind]; refine Wp_ext fun o μ => ?_; rw [wps_bind]; refine Wp_ext fun i μ => ?_
  cases setAt o i d μ <;> with_unfolding_all rfl
@[simp ↓] theorem wps_fld {t : Nat → Str → Bool} {x : Str} : (WpS (sFld t x fo fe σ μ) N R E : Prop) = Wp (fe σ μ) (fun d μ => Wp (fo σ μ) (fun o μ => St (setF t x o d μ) fun μ => N σ μ) E) E := by
  rw [show sFld t x fo fe σ μ = sBind (fe σ μ) σ fun d μ => sBind (fo σ μ) σ fun o μ => match setF t x o d μ with | some μ' => .next σ μ' | none => .stuck from rfl]
  rw [wps_bind]; refine Wp_ext fun d μ => ?_; rw [wps_bind]; refine Wp_ext fun o μ => ?_
  cases setF t x o d μ <;> with_unfolding_all rfl
@[simp ↓] theorem wps_raise {c : Nat} : (WpS (sRaise c fa σ μ) N R E : Prop) = Wp (fa σ μ) (fun d μ => E c (some d) μ) E := by
  rw [show sRaise c fa σ μ = sBind (fa σ μ) σ fun d μ => .exc c (some d) μ from rfl, wps_bind]; with_unfolding_all rfl
/-- a try with suites that return -/
@[simp ↓] theorem wps_try {hs : List HdD} : (WpS (sTry f hs σ μ) N R E : Prop) = WpS (f σ μ) N R (fun c d μ => WpS (handle hs c d μ) N R E) := by
  rw [show sTry f hs σ μ = match f σ μ with | .exc c d μ' => handle hs c d μ' | r => r from rfl]
  cases f σ μ <;> with_unfolding_all rfl
@[simp] theorem newL_1 {xs : List D} : (newL false xs μ).1 = .lst xs := rfl
@[simp] theorem newL_2 {xs : List D} : (newL false xs μ).2 = μ := rfl
@[simp] theorem startD_eq {n : Nat} {ds : List D} : startD n ds = ds.map some ++ List.replicate (n - ds.length) none := rfl
/-! defs -/
theorem wp_runB {n : Nat} {body : SF} {ds : List D} : (Wp (runB n body ds μ) Q E : Prop) = WpS (body (startD n ds) μ) (fun _ μ => Q .non μ) Q E := by
  unfold runB
  cases body (startD n ds) μ <;> with_unfolding_all rfl
/-- a def whose own objects are sealed: what is told is closed and no object was made -/
theorem wp_runS {n : Nat} {body : SF} {ds : List D} (h : WpS (body (startD n ds) μ) (fun _ μ' => μ'.length = μ.length ∧ (∀ o ∈ μ', cloO μ.length o = true) ∧ Q .non μ')
    (fun d μ' => (μ'.length = μ.length ∧ clo μ.length d = true ∧ (∀ o ∈ μ', cloO μ.length o = true) ∧ Q d μ')) (fun c d μ' => ∃ x, d = some x ∧ μ'.length = μ.length ∧ clo μ.length x = true ∧ (∀ o ∈ μ', cloO μ.length o = true) ∧ E c d μ')) : Wp (runS n body ds μ) Q E := by
  unfold runS runB
  cases q : body (startD n ds) μ with
  | next σ μ' =>
    rw [q, WpS_next] at h
    obtain ⟨h1, h2, h3⟩ := h
    exact Wp.of (seal_ok' rfl h1 h2) h3
  | ret d μ' =>
    rw [q, WpS_ret] at h
    obtain ⟨h1, h2, h3, h4⟩ := h
    exact Wp.of (seal_ok' h2 h1 h3) h4
  | exc c d μ' =>
    rw [q, WpS_exc] at h
    obtain ⟨x, rfl, h1, h2, h3, h4⟩ := h
    show Wp (sealR μ.length (.exc c (some x) μ')) Q E
    rw [seal_exc h2 h1 h3, Wp_exc]
    exact h4
  | brk => rw [q, WpS_brk] at h; exact h.elim
  | cont => rw [q, WpS_cont] at h; exact h.elim
  | stuck => rw [q, WpS_stuck] at h; exact h.elim
end
/-! loops -/
theorem tk_mono {o : Option Sg} {K K' : Sg → Prop} (h : Tk o K) (q : ∀ σ, K σ → K' σ) : Tk o K' := by
  cases o with
  | none => rw [Tk_none] at h; exact h.elim
  | some σ => rw [Tk_some] at h ⊢; exact q _ h
section
variable {σ : Sg} {src : Src} {its : List D} {g : TgF} {fi : IF} {body : SF} {μ μ0 : Store} {N : Sg → Store → Prop} {R : D → Store → Prop} {E : XP} {ft : BF} {fe : EF} {own : List Nat} {Q : D → Store → Prop} {fk fv : EF}
theorem loopF_wp (P : Nat → Sg → Store → Prop) (hs : ∀ i σ μ, i ≤ its.length → P i σ μ → src.at μ i = some its[i]?)
    (step : ∀ i d σ μ, its[i]? = some d → P i σ μ → Tk (g d σ μ) fun σ1 => WpS (body σ1 μ) (P (i + 1)) R E) (he : ∀ σ μ, P its.length σ μ → N σ μ) :
    ∀ (k i : Nat) (σ : Sg) (μ : Store), its.length ≤ k + i → i ≤ its.length → P i σ μ → WpS (loopF g body src (k + 1) i σ μ) N R E := by
  intro k
  induction k with
  | zero =>
    intro i σ μ h1 h2 p
    have e : i = its.length := by omega
    subst e
    unfold loopF
    rw [hs _ _ _ (Nat.le_refl _) p, List.getElem?_eq_none (Nat.le_refl _)]
    rw [WpS_next]; exact he _ _ p
  | succ k ih =>
    intro i σ μ h1 h2 p
    unfold loopF
    rw [hs _ _ _ h2 p]
    by_cases hi : i < its.length
    · have st := step i its[i] σ μ (by simp [hi]) p
      rw [List.getElem?_eq_getElem hi]
      simp only
      cases q : g its[i] σ μ with
      | none => rw [q, Tk_none] at st; exact st.elim
      | some σ1 =>
        rw [q] at st
        simp only [Tk_some] at st
        simp only
        cases q2 : body σ1 μ with
        | next σ2 μ2 => rw [q2, WpS_next] at st; exact ih (i + 1) σ2 μ2 (by omega) hi st
        | ret d μ2 => rw [q2, WpS_ret] at st; simp only [WpS_ret]; exact st
        | exc c d μ2 => rw [q2, WpS_exc] at st; simp only [WpS_exc]; exact st
        | brk => rw [q2, WpS_brk] at st; exact st.elim
        | cont => rw [q2, WpS_cont] at st; exact st.elim
        | stuck => rw [q2, WpS_stuck] at st; exact st.elim
    · have e : i = its.length := by omega
      subst e
      rw [List.getElem?_eq_none (Nat.le_refl _)]
      rw [WpS_next]; exact he _ _ p
/-- the source of a loop: its items, while the store is one of these -/
structure Its (fi : IF) (σ : Sg) (μ : Store) (src : Src) (its : List D) : Prop where
  go : fi σ μ = .ok src μ
  fu : its.length ≤ src.fuel μ
  im : ∀ μ i, src.at μ i = some its[i]?
/-- the same, for a store that stands -/
structure ItsW (fi : IF) (σ : Sg) (μ : Store) (src : Src) (its : List D) : Prop where
  go : fi σ μ = .ok src μ
  fu : its.length ≤ src.fuel μ
  im : ∀ i, src.at μ i = some its[i]?
theorem Its.w (I : Its fi σ μ src its) : ItsW fi σ μ src its := ⟨I.go, I.fu, I.im μ⟩
theorem wp_for (I : Its fi σ μ src its) (P : Nat → Sg → Store → Prop) (h0 : P 0 σ μ) (step : ∀ i d σ μ, its[i]? = some d → P i σ μ → Tk (g d σ μ) fun σ1 => WpS (body σ1 μ) (fun σ μ => Th (P (i + 1) σ μ)) R E) (he : ∀ σ μ, P its.length σ μ → N σ μ) :
    WpS (sFor fi g body σ μ) N R E := by
  rw [show sFor fi g body σ μ = sBind (fi σ μ) σ fun src μ => loopF g body src (src.fuel μ + 1) 0 σ μ from rfl, I.go, sBind_ok]
  exact loopF_wp P (fun _ _ _ _ _ => I.im _ _) (fun i d σ μ h p => tk_mono (step i d σ μ h p) fun σ1 h => h.mono (fun _ _ h => h.get) (fun _ _ h => h) fun _ _ _ h => h) he (src.fuel μ) 0 σ μ (by have := I.fu; omega) (Nat.zero_le _) h0
theorem loopC_wp (P : Nat → List D → Store → Prop) (hs : ∀ i acc μ, i ≤ its.length → P i acc μ → src.at μ i = some its[i]?) (hz : its.length ≤ cap)
    (step : ∀ i d acc μ, its[i]? = some d → acc.length ≤ i → P i acc μ → Tk (g d (wipeD σ own) μ) fun σ1 => Wp (ft σ1 μ) (fun t μ => Br t (Wp (fe σ1 μ) (fun x μ => P (i + 1) (acc ++ [x]) μ) NoX) (P (i + 1) acc μ)) NoX) {QL : List D → Store → Prop} (he : ∀ acc μ, P its.length acc μ → QL acc μ) :
    ∀ (k i : Nat) (acc : List D) (μ : Store), its.length ≤ k + i → i ≤ its.length → acc.length ≤ i → P i acc μ → Wp (loopC g ft fe own src σ (k + 1) i acc μ) QL E := by
  intro k
  induction k with
  | zero =>
    intro i acc μ h1 h2 h3 p
    have e : i = its.length := by omega
    subst e
    unfold loopC
    rw [hs _ _ _ (Nat.le_refl _) p, List.getElem?_eq_none (Nat.le_refl _)]
    rw [Wp_ok]; exact he _ _ p
  | succ k ih =>
    intro i acc μ h1 h2 h3 p
    unfold loopC
    rw [hs _ _ _ h2 p]
    by_cases hi : i < its.length
    · have st := step i its[i] acc μ (by simp [hi]) h3 p
      rw [List.getElem?_eq_getElem hi]
      simp only
      cases q : g its[i] (wipeD σ own) μ with
      | none => rw [q, Tk_none] at st; exact st.elim
      | some σ1 =>
        rw [q] at st
        simp only [Tk_some] at st
        obtain ⟨t, μ1, e1, st⟩ := st.ok
        simp only [e1, noX, Res.bind_ok]
        cases t with
        | false =>
          simp only [Br_false] at st
          simp only [Bool.false_eq_true, if_false]
          exact ih (i + 1) acc μ1 (by omega) hi (by omega) st
        | true =>
          simp only [Br_true] at st
          obtain ⟨x, μ2, e2, st⟩ := st.ok
          simp only [if_true, e2, noX, Res.bind_ok]
          rw [if_pos (by omega)]
          exact ih (i + 1) (acc ++ [x]) μ2 (by omega) hi (by simp; omega) st
    · have e : i = its.length := by omega
      subst e
      rw [List.getElem?_eq_none (Nat.le_refl _)]
      rw [Wp_ok]; exact he _ _ p
theorem wp_lc {m : Bool} (I : Its fi σ μ src its) (hz : its.length ≤ cap) (P : Nat → List D → Store → Prop) (h0 : P 0 [] μ)
    (step : ∀ i d acc μ, its[i]? = some d → acc.length ≤ i → P i acc μ → Tk (g d (wipeD σ own) μ) fun σ1 => Wp (ft σ1 μ) (fun t μ => Br t (Wp (fe σ1 μ) (fun x μ => Th (P (i + 1) (acc ++ [x]) μ)) NoX) (Th (P (i + 1) acc μ))) NoX) (he : ∀ acc μ, P its.length acc μ → Q (newL m acc μ).1 (newL m acc μ).2) :
    Wp (fLc m fi g ft fe own σ μ) Q E := by
  rw [show fLc m fi g ft fe own σ μ = (fi σ μ).bind fun src μ => (loopC g ft fe own src σ (src.fuel μ + 1) 0 [] μ).bind fun xs μ => .ok (newL m xs μ).1 (newL m xs μ).2 from rfl, I.go, Res.bind_ok, Wp_bind]
  refine (loopC_wp (E := E) P (fun _ _ _ _ _ => I.im _ _) hz (fun i d acc μ h1 h2 p => tk_mono (step i d acc μ h1 h2 p) fun σ1 h => h.mono (fun t μ h => Br.of (fun z => (h.get.1 z).mono (fun _ _ h => h.get) fun _ _ _ h => h) fun z => (h.get.2 z).get) fun _ _ _ h => h) he (src.fuel μ) 0 [] μ (by have := I.fu; omega) (Nat.zero_le _) (Nat.le_refl _) h0).mono (fun a μ h => ?_) fun _ _ _ h => h
  rw [Wp_ok]; exact h
/-- a comprehension that changes nothing -/
theorem lc_pure {α : Type} {xs : List α} {enc : α → D} (p : α → Bool) (h : α → D) (I : ItsW fi σ μ src (xs.map enc)) (hz : xs.length ≤ cap)
    (step : ∀ x ∈ xs, Tk (g (enc x) (wipeD σ own) μ) fun σ1 => ft σ1 μ = .ok (p x) μ ∧ (p x = true → fe σ1 μ = .ok (h x) μ)) : fLc false fi g ft fe own σ μ = .ok (.lst ((xs.filter p).map h)) μ := by
  have key : ∀ (k i : Nat) (acc : List D), xs.length ≤ k + i → i ≤ xs.length → acc = ((xs.take i).filter p).map h → loopC g ft fe own src σ (k + 1) i acc μ = .ok ((xs.filter p).map h) μ := by
    intro k
    induction k with
    | zero =>
      intro i acc h1 h2 e
      unfold loopC
      rw [I.im, List.getElem?_eq_none (by simpa using h1), e, List.take_of_length_le (by omega)]
    | succ k ih =>
      intro i acc h1 h2 e
      unfold loopC
      rw [I.im]
      by_cases hi : i < xs.length
      · have hx : xs[i] ∈ xs := List.getElem_mem hi
        have st := step xs[i] hx
        rw [show (xs.map enc)[i]? = some (enc xs[i]) by simp [hi]]
        simp only
        cases q : g (enc xs[i]) (wipeD σ own) μ with
        | none => rw [q, Tk_none] at st; exact st.elim
        | some σ1 =>
          rw [q, Tk_some] at st
          obtain ⟨s1, s2⟩ := st
          have ta : xs.take (i + 1) = xs.take i ++ [xs[i]] := by rw [List.take_add_one, List.getElem?_eq_getElem hi]; with_unfolding_all rfl
          simp only [s1, noX, Res.bind_ok]
          cases hp : p xs[i] with
          | false =>
            simp only [Bool.false_eq_true, if_false]
            exact ih (i + 1) acc (by omega) hi (by rw [e, ta, List.filter_append]; simp [hp])
          | true =>
            simp only [if_true, s2 hp, noX, Res.bind_ok]
            have hl : acc.length ≤ i := by rw [e, List.length_map]; exact Nat.le_trans (List.length_filter_le _ _) (by rw [List.length_take]; omega)
            rw [if_pos (by omega)]
            exact ih (i + 1) _ (by omega) hi (by rw [e, ta, List.filter_append]; simp [hp])
      · have e2 : i = xs.length := by omega
        subst e2
        rw [List.getElem?_eq_none (by simp), e, List.take_of_length_le (Nat.le_refl _)]
  rw [show fLc false fi g ft fe own σ μ = (fi σ μ).bind fun src μ => (loopC g ft fe own src σ (src.fuel μ + 1) 0 [] μ).bind fun xs μ => .ok (newL false xs μ).1 (newL false xs μ).2 from rfl, I.go, Res.bind_ok,
    key (src.fuel μ) 0 [] (by have := I.fu; simp at this; omega) (Nat.zero_le _) (by simp)]
  rfl
/-- the same by wishes -/
theorem lc_filter {α : Type} {xs : List α} {enc : α → D} (p : α → Bool) (h : α → D) (I : ItsW fi σ μ src (xs.map enc)) (hz : xs.length ≤ cap)
    (step : ∀ x ∈ xs, Tk (g (enc x) (wipeD σ own) μ) fun σ1 => Wp (ft σ1 μ) (fun t μ' => (t = p x ∧ μ' = μ) ∧ (p x = true → Wp (fe σ1 μ) (fun y μ' => y = h x ∧ μ' = μ) NoX)) NoX) : fLc false fi g ft fe own σ μ = .ok (.lst ((xs.filter p).map h)) μ :=
  lc_pure p h I hz fun x hx => by
    have := step x hx
    cases q : g (enc x) (wipeD σ own) μ with
    | none => rw [q, Tk_none] at this; exact this.elim
    | some σ1 =>
      rw [q, Tk_some] at this
      rw [Tk_some]
      obtain ⟨t, μ', e, ⟨rfl, rfl⟩, k⟩ := this.ok
      refine ⟨e, fun hp => ?_⟩
      obtain ⟨y, μ', e, rfl, rfl⟩ := (k hp).ok
      exact e
theorem lc_map {α : Type} {xs : List α} {enc : α → D} (h : α → D) (I : ItsW fi σ μ src (xs.map enc)) (hz : xs.length ≤ cap)
    (step : ∀ x ∈ xs, Tk (g (enc x) (wipeD σ own) μ) fun σ1 => Wp (fe σ1 μ) (fun y μ' => y = h x ∧ μ' = μ) NoX) : fLc false fi g tTrue fe own σ μ = .ok (.lst (xs.map h)) μ := by
  have := lc_pure (fe := fe) (own := own) (g := g) (fun _ => true) h I hz (ft := tTrue) fun x hx => by
    have := step x hx
    cases q : g (enc x) (wipeD σ own) μ with
    | none => rw [q, Tk_none] at this; exact this.elim
    | some σ1 =>
      rw [q, Tk_some] at this
      rw [Tk_some]
      obtain ⟨y, μ', e, rfl, rfl⟩ := this.ok
      exact ⟨rfl, fun _ => e⟩
  rw [this, List.filter_eq_self.mpr fun _ _ => rfl]
theorem putP_new {l : List (Key × D)} {k : Key} {d : D} (h : k ∉ l.map (·.1)) : putP l k d = l ++ [(k, d)] := by
  unfold putP
  rw [if_neg]
  intro z
  obtain ⟨p, hp, e⟩ := List.any_eq_true.mp z
  exact h (List.mem_map.mpr ⟨p, hp, by simpa using e⟩)
/-- a dict by a comprehension that changes nothing, the keys all different -/
theorem dc_nodup {α : Type} {xs : List α} {enc : α → D} (kf : α → Key) (h : α → D) (I : ItsW fi σ μ src (xs.map enc)) (hz : xs.length ≤ cap) (hn : (xs.map kf).Nodup)
    (step : ∀ x ∈ xs, Tk (g (enc x) (wipeD σ own) μ) fun σ1 => Wp (fk σ1 μ) (fun y μ' => (keyD y = some (kf x) ∧ μ' = μ) ∧ Wp (fv σ1 μ) (fun z μ' => z = h x ∧ μ' = μ) NoX) NoX) : fDc false fi g tTrue fk fv own σ μ = .ok (.dK (xs.map kf) (xs.map h)) μ := by
  have key : ∀ (k i : Nat) (acc : List (Key × D)), xs.length ≤ k + i → i ≤ xs.length → acc = (xs.take i).map (fun x => (kf x, h x)) → loopD g tTrue fk fv own src σ (k + 1) i acc μ = .ok (xs.map fun x => (kf x, h x)) μ := by
    intro k
    induction k with
    | zero =>
      intro i acc h1 h2 e
      unfold loopD
      rw [I.im, List.getElem?_eq_none (by simpa using h1), e, List.take_of_length_le (by omega)]
    | succ k ih =>
      intro i acc h1 h2 e
      unfold loopD
      rw [I.im]
      by_cases hi : i < xs.length
      · have hx : xs[i] ∈ xs := List.getElem_mem hi
        have st := step xs[i] hx
        rw [show (xs.map enc)[i]? = some (enc xs[i]) by simp [hi]]
        simp only
        cases q : g (enc xs[i]) (wipeD σ own) μ with
        | none => rw [q, Tk_none] at st; exact st.elim
        | some σ1 =>
          rw [q, Tk_some] at st
          obtain ⟨y, μ1, e1, ⟨hy, rfl⟩, st⟩ := st.ok
          obtain ⟨z, μ2, e2, rfl, rfl⟩ := st.ok
          have ta : xs.take (i + 1) = xs.take i ++ [xs[i]] := by rw [List.take_add_one, List.getElem?_eq_getElem hi]; rfl
          have hl : acc.length = i := by rw [e, List.length_map, List.length_take]; omega
          have fresh : kf xs[i] ∉ acc.map (·.1) := by
            rw [e, List.map_map]
            intro z
            obtain ⟨w, hw, ew⟩ := List.mem_map.mp z
            have hn' : (xs.map kf).Pairwise (· ≠ ·) := hn
            obtain ⟨j, hj, rfl⟩ := List.mem_iff_getElem.mp hw
            rw [List.length_take] at hj
            rw [List.getElem_take] at ew
            have := List.pairwise_iff_getElem.mp hn' j i (by rw [List.length_map]; omega) (by rw [List.length_map]; omega) (by omega)
            simp only [List.getElem_map] at this
            exact this ew
          simp only [ev_true, noX, Res.bind_ok, if_true, e1, e2, hy]
          rw [if_pos (by omega), putP_new fresh]
          exact ih (i + 1) _ (by omega) hi (by rw [e, ta, List.map_append]; rfl)
      · have e2 : i = xs.length := by omega
        subst e2
        rw [List.getElem?_eq_none (by simp), e, List.take_of_length_le (Nat.le_refl _)]
  rw [show fDc false fi g tTrue fk fv own σ μ = (fi σ μ).bind fun src μ => (loopD g tTrue fk fv own src σ (src.fuel μ + 1) 0 [] μ).bind fun xs μ => .ok (newDk false (xs.map (·.1)) (xs.map (·.2)) μ).1 (newDk false (xs.map (·.1)) (xs.map (·.2)) μ).2 from rfl, I.go, Res.bind_ok,
    key (src.fuel μ) 0 [] (by have := I.fu; simp at this; omega) (Nat.zero_le _) (by simp)]
  simp only [Res.bind_ok, newDk, Bool.false_eq_true, if_false, List.map_map]
  rfl
/-! a source that is reckoned first -/
def iK (src : Src) : IF := fun _ μ => .ok src μ
theorem lc_src {m : Bool} : (Wp (fLc m fi g ft fe own σ μ) Q E : Prop) = Wp (fi σ μ) (fun src μ => Wp (fLc m (iK src) g ft fe own σ μ) Q E) E := by
  rw [show fLc m fi g ft fe own σ μ = (fi σ μ).bind fun src μ => (loopC g ft fe own src σ (src.fuel μ + 1) 0 [] μ).bind fun xs μ => .ok (newL m xs μ).1 (newL m xs μ).2 from rfl, Wp_bind]
  rfl
theorem for_src : (WpS (sFor fi g body σ μ) N R E : Prop) = Wp (fi σ μ) (fun src μ => WpS (sFor (iK src) g body σ μ) N R E) E := by
  rw [show sFor fi g body σ μ = sBind (fi σ μ) σ fun src μ => loopF g body src (src.fuel μ + 1) 0 σ μ from rfl, wps_bind]
  rfl
section
variable {QS : Src → Store → Prop} {fa fb : EF}
@[simp ↓] theorem wp_iR1 : (Wp (iR1 fa σ μ) QS E : Prop) = Wp (fa σ μ) (fun d μ => IsI d fun j => An (-(2 ^ 62) ≤ j ∧ j < 2 ^ 62) (QS (.rng 0 j.toNat) μ)) E := by
  rw [show iR1 fa σ μ = (fa σ μ).bind fun d μ => match d with | .int j => if -(2 ^ 62) ≤ j ∧ j < 2 ^ 62 then .ok (.rng 0 j.toNat) μ else .stuck | _ => .stuck from rfl, Wp_bind]
  refine Wp_ext fun d μ => ?_
  cases d with
  | int j =>
    rw [IsI_int]
    by_cases h : -(2 ^ 62) ≤ j ∧ j < 2 ^ 62
    · show (Wp (if -(2 ^ 62) ≤ j ∧ j < 2 ^ 62 then _ else _) QS E : Prop) = _
      rw [if_pos h, An_of h]; with_unfolding_all rfl
    · show (Wp (if -(2 ^ 62) ≤ j ∧ j < 2 ^ 62 then _ else _) QS E : Prop) = _
      rw [if_neg h, An_no h]; with_unfolding_all rfl
  | _ => with_unfolding_all rfl
@[simp ↓] theorem wp_iK {src : Src} : (Wp (iK src σ μ) QS E : Prop) = QS src μ := by with_unfolding_all rfl
end
theorem its_K_rng {n : Nat} : Its (iK (.rng 0 n)) σ μ (.rng 0 n) ((List.range n).map fun (i : Nat) => D.int i) := by
  refine ⟨rfl, by simp [Src.fuel], fun μ i => ?_⟩
  have := src_rng (lo := 0) (n := n) (Q := fun _ => True) μ trivial i
  simpa using this
/-! sources -/
theorem its_rng {fa : EF} {n : Nat} (h : fa σ μ = .ok (.int n) μ) (hn : n ≤ 1000000) : Its (iR1 fa) σ μ (.rng 0 n) ((List.range n).map fun (i : Nat) => D.int i) := by
  refine ⟨?_, by simp [Src.fuel], fun μ i => ?_⟩
  · show (fa σ μ).bind _ = _
    rw [h, Res.bind_ok]
    simp only
    rw [if_pos (by omega)]
    rfl
  · have := src_rng (lo := 0) (n := n) (Q := fun _ => True) μ trivial i
    simpa using this
theorem its_rng2 {fa fb : EF} {a n : Nat} (h : fa σ μ = .ok (.int a) μ) (h2 : fb σ μ = .ok (.int n) μ) (hn : n ≤ 1000000) (ha : a ≤ 1000000) : Its (iR2 fa fb) σ μ (.rng a (n - a)) ((List.range (n - a)).map fun (i : Nat) => D.int ((a : Int) + i)) := by
  refine ⟨?_, by simp [Src.fuel], fun μ i => ?_⟩
  · show (fa σ μ).bind _ = _
    rw [h, Res.bind_ok, h2, Res.bind_ok]
    simp only
    rw [if_pos (by omega), show ((n : Int) - a).toNat = n - a by omega]
  · exact src_rng (lo := a) (n := n - a) (Q := fun _ => True) μ trivial i
def imm : D → Option (List D)
  | .tup xs => some xs
  | .rt xs => some xs
  | .lst xs => some xs
  | .rl xs => some xs
  | _ => none
theorem imm_getS {d : D} {xs : List D} (h : imm d = some xs) (μ : Store) : getS μ d = some xs := by
  cases d <;> simp only [imm, Option.some.injEq, reduceCtorEq] at h <;> (subst h; rfl)
theorem its_sq {fa : EF} {d : D} {xs : List D} (h : fa σ μ = .ok d μ) (hd : imm d = some xs) : Its (iS fa) σ μ (.sq d) xs := by
  refine ⟨?_, by simp [Src.fuel, imm_getS hd], fun μ i => ?_⟩
  · show (fa σ μ).bind _ = _
    rw [h, Res.bind_ok]
    cases d <;> simp only [imm, Option.some.injEq, reduceCtorEq] at hd <;> simp [getS, getL, getM]
  · simp [Src.at, imm_getS hd]
theorem its_st {fa : EF} {x : Str} (h : fa σ μ = .ok (.str x) μ) : Its (iS fa) σ μ (.st x) (x.cps.toList.map fun c => D.str ⟨#[c]⟩) := by
  refine ⟨?_, by simp [Src.fuel], fun μ i => src_st (Q := fun _ => True) μ trivial i⟩
  show (fa σ μ).bind _ = _
  rw [h]; with_unfolding_all rfl
theorem its_loc {fa : EF} {n : Nat} {xs : List D} (h : fa σ μ = .ok (.loc n) μ) (hd : μ[n]? = some (.lst xs)) : ItsW (iS fa) σ μ (.sq (.loc n)) xs := by
  have e : getS μ (.loc n) = some xs := by simp [getS, getL, getM, hd]
  refine ⟨?_, by simp [Src.fuel, e], fun i => ?_⟩
  · show (fa σ μ).bind _ = _
    rw [h, Res.bind_ok]
    simp [e]
  · simp [Src.at, e]
theorem its_any {fa : EF} {d : D} {xs : List D} (h : fa σ μ = .ok d μ) (hd : getS μ d = some xs) : ItsW (iS fa) σ μ (.sq d) xs := by
  refine ⟨?_, by simp [Src.fuel, hd], fun i => ?_⟩
  · show (fa σ μ).bind _ = _
    rw [h, Res.bind_ok]
    cases d <;> first | (simp [hd]; done) | (simp [getS, getL, getM] at hd)
  · simp [Src.at, hd]
theorem its_enW {fa : EF} {d : D} {xs : List D} (h : fa σ μ = .ok d μ) (hd : getS μ d = some xs) : ItsW (iEn fa) σ μ (.en d) (xs.zipIdx.map fun p => D.tup [.int p.2, p.1]) := by
  have eq : ∀ (xs : List D) (k : Nat), enI k xs = (xs.zipIdx k).map fun p => D.tup [.int p.2, p.1] := fun xs => by
    induction xs with
    | nil => intro k; simp [enI]
    | cons x xs ih => intro k; simp [enI, ih (k + 1)]
  refine ⟨?_, by simp [Src.fuel, hd], fun i => ?_⟩
  · show (fa σ μ).bind _ = _
    rw [h, Res.bind_ok, hd]; rfl
  · rw [← eq]
    exact src_en (Q := fun ν => ν = μ) (fun ν e => by rw [e]; exact hd) μ rfl i
theorem enI_eq : ∀ (xs : List D) (k : Nat), enI k xs = (xs.zipIdx k).map fun p => D.tup [.int p.2, p.1]
  | [], k => by simp [enI]
  | x :: xs, k => by simp [enI, enI_eq xs (k + 1)]
theorem its_en {fa : EF} {d : D} {xs : List D} (h : fa σ μ = .ok d μ) (hd : imm d = some xs) : Its (iEn fa) σ μ (.en d) (xs.zipIdx.map fun p => D.tup [.int p.2, p.1]) := by
  refine ⟨?_, by simp [Src.fuel, imm_getS hd], fun μ i => ?_⟩
  · show (fa σ μ).bind _ = _
    rw [h, Res.bind_ok, imm_getS hd]; with_unfolding_all rfl
  · rw [← enI_eq]
    exact src_en (Q := fun _ => True) (fun μ _ => imm_getS hd μ) μ trivial i
theorem its_zp {fa fb : EF} {d e : D} {xs ys : List D} (h : fa σ μ = .ok d μ) (h2 : fb σ μ = .ok e μ) (hd : (d = .tup xs ∧ e = .tup ys) ∨ ((d = .lst xs ∨ d = .rl xs) ∧ (e = .lst ys ∨ e = .rl ys))) : Its (iZp fa fb) σ μ (.zp d e) ((xs.zip ys).map fun p => D.tup [p.1, p.2]) := by
  have e0 : ∀ i, pairAt xs ys i = ((xs.zip ys).map fun p => D.tup [p.1, p.2])[i]? := fun i => by
    unfold pairAt
    rw [List.getElem?_map]
    cases h1 : xs[i]? <;> cases h2 : ys[i]? <;> simp [List.getElem?_zip_eq_some, h1, h2, List.zip, List.getElem?_zipWith]
  refine ⟨?_, ?_, fun μ i => ?_⟩
  · show (fa σ μ).bind _ = _
    rw [h, Res.bind_ok, h2, Res.bind_ok]
    rcases hd with ⟨rfl, rfl⟩ | ⟨rfl | rfl, rfl | rfl⟩ <;> with_unfolding_all rfl
  · rcases hd with ⟨rfl, rfl⟩ | ⟨rfl | rfl, rfl | rfl⟩ <;> simp [Src.fuel, getS, getL, getM] <;> omega
  · rw [← e0]
    rcases hd with ⟨rfl, rfl⟩ | ⟨rfl | rfl, rfl | rfl⟩ <;> with_unfolding_all rfl
end
end DL
/-! text DL23 -/
/-! what operations come to on lists of texts, of ints, of truths -/
namespace DL
open PySem PySem.Spec PyProof.Rows L2 TL
section
variable {μ : Store} {d e : D}
@[simp] theorem strs_map : ∀ ks : List Str, strs? (ks.map D.str) = some ks
  | [] => rfl
  | k :: r => by simp only [List.map_cons, strs?, strs_map r, Option.map_some]
@[simp] theorem ints_map : ∀ ks : List Int, ints? (ks.map D.int) = some ks
  | [] => rfl
  | k :: r => by simp only [List.map_cons, ints?, ints_map r, Option.map_some]
@[simp] theorem bools_map : ∀ ks : List Bool, bools? (ks.map D.bl) = some ks
  | [] => rfl
  | k :: r => by simp only [List.map_cons, bools?, bools_map r, Option.map_some]
theorem bools_fun {α : Type} (f : α → Bool) (xs : List α) : bools? (xs.map fun x => .bl (f x)) = some (xs.map f) := by
  rw [show (xs.map fun x => D.bl (f x)) = (xs.map f).map D.bl by simp]; exact bools_map _
theorem ints_fun {α : Type} (f : α → Int) (xs : List α) : ints? (xs.map fun x => .int (f x)) = some (xs.map f) := by
  rw [show (xs.map fun x => D.int (f x)) = (xs.map f).map D.int by simp]; exact ints_map _
theorem strs_fun {α : Type} (f : α → Str) (xs : List α) : strs? (xs.map fun x => .str (f x)) = some (xs.map f) := by
  rw [show (xs.map fun x => D.str (f x)) = (xs.map f).map D.str by simp]; exact strs_map _
@[simp] theorem ev_all {α : Type} (f : α → Bool) (xs : List α) : oAllB (fun bs => bs.all id) [.lst (xs.map fun x => .bl (f x))] μ = some (.bl (xs.all f), μ) := by
  simp only [oAllB, getL, getM, Option.bind_some, bools_fun, Option.map_some]
  congr 3
  induction xs <;> simp_all
@[simp] theorem ev_any {α : Type} (f : α → Bool) (xs : List α) : oAllB (fun bs => bs.any id) [.lst (xs.map fun x => .bl (f x))] μ = some (.bl (xs.any f), μ) := by
  simp only [oAllB, getL, getM, Option.bind_some, bools_fun, Option.map_some]
  congr 3
  induction xs <;> simp_all
@[simp] theorem ev_sum {α : Type} (f : α → Int) (xs : List α) : oSum [.lst (xs.map fun x => .int (f x))] μ = some (.int (xs.map f).sum, μ) := by
  simp only [oSum, getL, getM, Option.bind_some, ints_fun, Option.map_some]
theorem ev_sumL {ns : List Int} : oSum [.lst (ns.map D.int)] μ = some (.int ns.sum, μ) := by
  simp only [oSum, getL, getM, Option.bind_some, ints_map, Option.map_some]
theorem ev_sumR {ns : List Int} : oSum [.rl (ns.map D.int)] μ = some (.int ns.sum, μ) := by
  simp only [oSum, getL, Option.bind_some, ints_map, Option.map_some]
@[simp] theorem ev_inW {c : Nat} {ks : List Str} {x : Str} : oInW c ks (.str x) (.cls c) μ = some (.bl (decide (x ∈ ks)), μ) := by simp [oInW]
@[simp] theorem ev_ninW {c : Nat} {ks : List Str} {x : Str} : oNinW c ks (.str x) (.cls c) μ = some (.bl (!decide (x ∈ ks)), μ) := by simp [oNinW]
@[simp] theorem nat_eqd {a b : Nat} : ((a : Int) == (b : Int)) = decide (a = b) := by rw [Bool.eq_iff_iff, beq_iff_eq, decide_eq_true_iff, Int.natCast_inj]
@[simp] theorem ev_eqB {a b : Bool} : oEq (.bl a) (.bl b) μ = some (.bl (a == b), μ) := by simp [oEq, eqDt, eqFl, BEq.beq]
@[simp] theorem ev_neB {a b : Bool} : oNe (.bl a) (.bl b) μ = some (.bl (!(a == b)), μ) := by simp [oNe, eqDt, eqFl, BEq.beq]
/-! isinstance -/
@[simp] theorem ev_isi1 {t : Ty → Ty → Option Bool} {n : String} : oIsi t [d, .ty n] μ = (typeD μ d).bind fun a => (t a (.b n)).map fun r => (.bl r, μ) := rfl
@[simp] theorem ev_isiC {t : Ty → Ty → Option Bool} {c : Nat} : oIsi t [d, .cls c] μ = (typeD μ d).bind fun a => (t a (.c c)).map fun r => (.bl r, μ) := rfl
@[simp] theorem ev_isi2 {t : Ty → Ty → Option Bool} {m n : String} : oIsi t [d, .tup [.ty m, .ty n]] μ = (typeD μ d).bind fun a => (match t a (.b m), (match t a (.b n), some false with | some x, some y => some (x || y) | _, _ => none) with | some x, some y => some (x || y) | _, _ => none).map fun r => (.bl r, μ) := by
  show (typeD μ d).bind _ = _
  congr 1
@[simp] theorem ty_non : typeD μ .non = some (.b "NoneType") := rfl
@[simp] theorem ty_bl {b : Bool} : typeD μ (.bl b) = some (.b "bool") := rfl
@[simp] theorem ty_int {i : Int} : typeD μ (.int i) = some (.b "int") := rfl
@[simp] theorem ty_str {i : Str} : typeD μ (.str i) = some (.b "str") := rfl
@[simp] theorem ty_tup {xs : List D} : typeD μ (.tup xs) = some (.b "tuple") := rfl
@[simp] theorem ty_rt {xs : List D} : typeD μ (.rt xs) = some (.b "tuple") := rfl
@[simp] theorem ty_lst {xs : List D} : typeD μ (.lst xs) = some (.b "list") := rfl
@[simp] theorem ty_dK {ks : List Key} {xs : List D} : typeD μ (.dK ks xs) = some (.b "dict") := rfl
@[simp] theorem ty_ins {C : Nat} {ns : List Str} {xs : List D} : typeD μ (.ins C ns xs) = some (.c C) := rfl
theorem ty_loc {n : Nat} {xs : List D} (h : μ[n]? = some (.lst xs)) : typeD μ (.loc n) = some (.b "list") := by simp [typeD, h]
theorem ty_locI {n C : Nat} {ns : List Str} {xs : List D} (h : μ[n]? = some (.ins C ns xs)) : typeD μ (.loc n) = some (.c C) := by simp [typeD, h]
/-! length -/
@[simp] theorem ev_lenL {xs : List D} : oLen [.lst xs] μ = some (.int xs.length, μ) := rfl
@[simp] theorem ev_lenT {xs : List D} : oLen [.tup xs] μ = some (.int xs.length, μ) := rfl
@[simp] theorem ev_lenRL {xs : List D} : oLen [.rl xs] μ = some (.int xs.length, μ) := rfl
@[simp] theorem ev_lenRT {xs : List D} : oLen [.rt xs] μ = some (.int xs.length, μ) := rfl
theorem ev_lenS {x : Str} (h : x.length ≤ 1000) : oLen [.str x] μ = some (.int x.length, μ) := by
  show (if x.length ≤ cap then _ else _) = _
  rw [if_pos (cap_small h)]
theorem ev_lenLoc {n : Nat} {xs : List D} (h : μ[n]? = some (.lst xs)) : oLen [.loc n] μ = some (.int xs.length, μ) := by
  simp [oLen, getS, getL, getM, h]
/-! list, tuple -/
@[simp] theorem ev_tupL {xs : List D} : oTupOf [.lst xs] μ = some (.tup xs, μ) := rfl
@[simp] theorem ev_tupT {xs : List D} : oTupOf [.tup xs] μ = some (.tup xs, μ) := rfl
theorem ev_tupLoc {n : Nat} {xs : List D} (h : μ[n]? = some (.lst xs)) : oTupOf [.loc n] μ = some (.tup xs, μ) := by
  simp [oTupOf, getL, getM, h]
@[simp] theorem ev_lstL {xs : List D} : oLstOf false [.lst xs] μ = some (.lst xs, μ) := rfl
@[simp] theorem ev_lstT' {xs : List D} : oLstOf false [.tup xs] μ = some (.lst xs, μ) := rfl
theorem ev_lstLoc {n : Nat} {xs : List D} (h : μ[n]? = some (.lst xs)) : oLstOf false [.loc n] μ = some (.lst xs, μ) := by
  simp [oLstOf, getS, getL, getM, h, newL]
@[simp] theorem ev_lstLm {xs : List D} : oLstOf true [.lst xs] μ = some (.loc μ.length, μ ++ [.lst xs]) := rfl
@[simp] theorem ev_lstTm {xs : List D} : oLstOf true [.tup xs] μ = some (.loc μ.length, μ ++ [.lst xs]) := rfl
/-! items -/
theorem atI_pos {α : Type} {xs : List α} {i : Int} (h0 : 0 ≤ i) (h1 : i < xs.length) : atI xs i = xs[i.toNat]? := by
  simp only [atI, ixN, if_pos h0, if_pos h1, Option.bind_some]
theorem atI_neg {α : Type} {xs : List α} {i : Int} (h0 : i < 0) (h1 : -(xs.length : Int) ≤ i) : atI xs i = xs[(i + xs.length).toNat]? := by
  simp only [atI, ixN, if_neg (show ¬ 0 ≤ i by omega), if_pos h1, Option.bind_some]
theorem atI_zero {α : Type} (x : α) (xs : List α) : atI (x :: xs) 0 = some x := by
  rw [atI_pos (by decide) (by simp only [List.length_cons]; omega)]; rfl
theorem ev_idx {xs : List D} {i : Int} {x : D} (hd : getS μ d = some xs) (h : atI xs i = some x) : oIdx d (.int i) μ = some (x, μ) := by
  cases d <;> simp_all [oIdx, getS, getL, getM]
theorem wp_idx {xs : List D} {i : Int} {Q : D → Store → Prop} {E : XP} (hd : getS μ d = some xs) (h0 : 0 ≤ i) (h1 : i < xs.length) (q : ∀ x, xs[i.toNat]? = some x → Q x μ) : Wp (ofO (oIdx d (.int i) μ)) Q E := by
  have hx : i.toNat < xs.length := by omega
  rw [ev_idx hd (x := xs[i.toNat]) (by rw [atI_pos h0 h1, List.getElem?_eq_getElem hx]), ofO_some, Wp_ok]
  exact q _ (List.getElem?_eq_getElem hx)
/-- an item of a menu -/
theorem wp_menu {xs : List D} {i : Int} {Q : D → Store → Prop} {E : XP} (hd : imm d = some xs) (h0 : 0 ≤ i) (h1 : i < xs.length) (q : ∀ x ∈ xs, Q x μ) : Wp (ofO (oIdx d (.int i) μ)) Q E :=
  wp_idx (imm_getS hd μ) h0 h1 fun x hx => q x (List.mem_of_getElem? hx)
theorem ev_idxS {z : Str} {i : Int} {c : Nat} (hz : z.length ≤ 1000) (h : atI z.cps.toList i = some c) : oIdx (.str z) (.int i) μ = some (.str ⟨#[c]⟩, μ) := by
  show (if z.length ≤ cap then _ else _) = _
  rw [if_pos (cap_small hz), h]; rfl
/-- a sign of a text -/
theorem wp_sign {z : Str} {i : Int} {Q : D → Store → Prop} {E : XP} (hz : z.length ≤ 1000) (h0 : 0 ≤ i) (h1 : i < z.length) (q : ∀ c ∈ z.cps.toList, Q (.str ⟨#[c]⟩) μ) : Wp (ofO (oIdx (.str z) (.int i) μ)) Q E := by
  have hl : z.cps.toList.length = z.length := by simp [Str.length]
  have hx : i.toNat < z.cps.toList.length := by omega
  rw [ev_idxS hz (c := z.cps.toList[i.toNat]) (by rw [atI_pos h0 (by omega), List.getElem?_eq_getElem hx]), ofO_some, Wp_ok]
  exact q _ (List.getElem_mem hx)
/-! slices -/
@[simp] theorem ev_slT {m : Bool} {xs : List D} {lo hi : Option Int} : oSl m (.tup xs) lo hi μ = some (.tup (cutD xs lo hi), μ) := rfl
@[simp] theorem ev_slL {xs : List D} {lo hi : Option Int} : oSl false (.lst xs) lo hi μ = some (.lst (cutD xs lo hi), μ) := rfl
@[simp] theorem ev_slRL {xs : List D} {lo hi : Option Int} : oSl false (.rl xs) lo hi μ = some (.lst (cutD xs lo hi), μ) := rfl
theorem ev_slLoc {n : Nat} {xs : List D} {lo hi : Option Int} (h : μ[n]? = some (.lst xs)) : oSl false (.loc n) lo hi μ = some (.lst (cutD xs lo hi), μ) := by
  simp [oSl, getL, getM, h, newL]
theorem ev_slS {m : Bool} {z : Str} {lo hi : Option Int} (hz : z.length ≤ 1000) : oSl m (.str z) lo hi μ = some (.str (cutS z lo hi), μ) := by
  show (if z.length ≤ cap then _ else _) = _
  rw [if_pos (cap_small hz)]
theorem cut_take {xs : List D} {k : Int} (h : 0 ≤ k) : cutD xs none (some k) = xs.take k.toNat := by
  simp only [cutD, HT.sIx, if_neg (show ¬ k < 0 by omega), List.drop_zero, Nat.sub_zero]
  rw [Nat.min_def]; split
  · rfl
  · rw [List.take_of_length_le (Nat.le_refl _), List.take_of_length_le (by omega)]
theorem cut_drop {xs : List D} {k : Int} (h : 0 ≤ k) : cutD xs (some k) none = xs.drop k.toNat := by
  simp only [cutD, HT.sIx, if_neg (show ¬ k < 0 by omega)]
  rw [List.take_of_length_le (by rw [List.length_drop]; omega), Nat.min_def]; split
  · rfl
  · rw [List.drop_eq_nil_of_le (Nat.le_refl _), List.drop_eq_nil_of_le (by omega)]
theorem cut_last {xs : List D} : cutD xs none (some (-1)) = xs.dropLast := by
  simp only [cutD, HT.sIx, if_pos (show (-1 : Int) < 0 by decide), List.drop_zero, Nat.sub_zero, List.dropLast_eq_take]
  congr 1; omega
theorem cut_all {xs : List D} : cutD xs none none = xs := by simp [cutD, HT.sIx]
theorem tl_cut_take {z : Str} {k : Int} (h : 0 ≤ k) : tl (cutS z none (some k)) = (tl z).take k.toNat := by
  simp only [cutS, HT.sIx, if_neg (show ¬ k < 0 by omega), List.drop_zero, Nat.sub_zero, Nat.min_def]
  split
  · rfl
  · rename_i hk
    have hl : z.cps.toList.length = z.length := by simp [Str.length]
    show List.take z.length z.cps.toList = List.take k.toNat z.cps.toList
    rw [List.take_of_length_le (by omega), List.take_of_length_le (by omega)]
theorem tl_cut_last {z : Str} : tl (cutS z none (some (-1))) = (tl z).dropLast := by
  have hl : z.cps.toList.length = z.length := by simp [Str.length]
  simp only [cutS, HT.sIx, if_pos (show (-1 : Int) < 0 by decide), List.drop_zero, Nat.sub_zero, List.dropLast_eq_take]
  show List.take _ z.cps.toList = List.take _ z.cps.toList
  rw [show (tl z).length = z.length from hl]
  congr 1; omega
/-! glueing -/
theorem ev_addL {xs ys : List D} (h : xs.length + ys.length ≤ 1000) : oAdd false (.lst xs) (.lst ys) μ = some (.lst (xs ++ ys), μ) := by
  show (if _ ≤ cap then some (newL false (xs ++ ys) μ) else none) = _
  rw [if_pos (cap_small h)]; rfl
theorem ev_addT {m : Bool} {xs ys : List D} (h : xs.length + ys.length ≤ 1000) : oAdd m (.tup xs) (.tup ys) μ = some (.tup (xs ++ ys), μ) := by
  show (if _ ≤ cap then some (D.tup (xs ++ ys), μ) else none) = _
  rw [if_pos (cap_small h)]
theorem ev_addS {m : Bool} {x y : Str} (h : x.length + y.length ≤ 1000) : oAdd m (.str x) (.str y) μ = some (.str (x ++ y), μ) := by
  show (if _ ≤ cap then some (D.str (x ++ y), μ) else none) = _
  rw [if_pos (cap_small h)]
theorem ev_mulL {xs : List D} {k : Int} (h : xs.length * k.toNat ≤ 1000) (h1 : -(2 ^ 63) ≤ k) (h2 : k < 2 ^ 63) : oMul false (.lst xs) (.int k) μ = some (.lst (List.replicate k.toNat xs).flatten, μ) := by
  show (if _ then some (newL false _ μ) else none) = _
  rw [if_pos ⟨h1, h2, cap_small h⟩]; rfl
theorem ev_mulI2 {m : Bool} {i j : Int} (hi : i.natAbs < 2 ^ 4000) (hj : j.natAbs < 2 ^ 4000) : oMul m (.int i) (.int j) μ = some (.int (i * j), μ) := by
  have big : ∀ {k : Int}, k.natAbs < 2 ^ 4000 → k.natAbs.log2 < 4000 := fun {k} h => by
    by_cases h0 : k.natAbs = 0
    · rw [h0]; decide
    · exact (Nat.log2_lt h0).mpr h
  have h1 := big hi
  have h2 := big hj
  show (if i.natAbs.log2 + j.natAbs.log2 < 1000000 then some (D.int (i * j), μ) else none) = _
  rw [if_pos (by omega)]
theorem ev_fdvI2 {i j : Int} (h : 0 < j) (h2 : j ≤ 10 ^ 40) : oFdv (.int i) (.int j) μ = some (.int (i / j), μ) := by
  have : j.natAbs.log2 < 200 := (Nat.log2_lt (by omega)).mpr (by
    have : (10 : Int) ^ 40 < 2 ^ 200 := by decide
    have h3 : (2 : Int) ^ 200 = ((2 ^ 200 : Nat) : Int) := by decide
    omega)
  show (if 0 < j ∧ j.natAbs.log2 < 9000 then some (D.int (i / j), μ) else none) = _
  rw [if_pos ⟨h, by omega⟩]
@[simp] theorem ev_negI {i : Int} : oNeg (.int i) μ = some (.int (-i), μ) := rfl
theorem ev_append {n : Nat} {xs : List D} (h : μ[n]? = some (.lst xs)) (hl : xs.length < 1000) : oAppend (.loc n) [d] μ = some (.non, μ.set n (.lst (xs ++ [d]))) := by
  simp only [oAppend, h]
  rw [if_pos (Nat.lt_of_lt_of_le hl (cap_small (Nat.le_refl _)))]
theorem getS_loc {n : Nat} {xs : List D} (h : μ[n]? = some (.lst xs)) : getS μ (.loc n) = some xs := by simp [getS, getL, getM, h]
theorem isLst_loc {n : Nat} {xs : List D} (h : μ[n]? = some (.lst xs)) : isLst (.loc n) μ = true := by simp [isLst, getL, getM, h]
/-! joined texts -/
theorem tl_join0 : ∀ ks : List Str, tl (Txt.join (Str.ofString "") ks) = (ks.map tl).flatten := fun ks => by
  rw [join_eq, tl_join]
  have e : tl (Str.ofString "") = [] := by decide
  rw [e]
  induction ks with
  | nil => rfl
  | cons k r ih => cases r with
    | nil => simp [joinL]
    | cons q r => simp only [List.map_cons, joinL, List.nil_append, List.flatten_cons] at ih ⊢; rw [ih]
theorem ev_join0 {ks : List Str} (h : (ks.map (·.length)).sum ≤ 1000) (hd : getS μ d = some (ks.map D.str)) : oJoin (.str (Str.ofString "")) [d] μ = some (.str (Txt.join (Str.ofString "") ks), μ) := by
  simp only [oJoin, hd, Option.bind_some, strs_map]
  rw [if_pos]
  have : (Str.ofString "").length = 0 := by decide
  rw [this, Nat.mul_zero, Nat.add_zero]
  exact cap_small h
/-! in -/
theorem all_flat_str (ks : List Str) : (ks.map D.str).all flatD = true := by induction ks <;> simp_all [flatD]
theorem all_flat_int (ks : List Int) : (ks.map D.int).all flatD = true := by induction ks <;> simp_all [flatD]
theorem any_str (x : Str) (ks : List Str) : (ks.map D.str).any (fun y => eqD y (.str x)) = decide (x ∈ ks) := by
  induction ks with
  | nil => rfl
  | cons k r ih =>
    simp only [List.map_cons, List.any_cons, ih, eqD, List.mem_cons, Bool.decide_or]
    congr 1
    rw [Bool.eq_iff_iff, beq_iff_eq, decide_eq_true_iff, eq_comm]
theorem any_int (x : Int) (ks : List Int) : (ks.map D.int).any (fun y => eqD y (.int x)) = decide (x ∈ ks) := by
  induction ks with
  | nil => rfl
  | cons k r ih =>
    simp only [List.map_cons, List.any_cons, ih, eqD, List.mem_cons, Bool.decide_or]
    congr 1
    rw [Bool.eq_iff_iff, beq_iff_eq, decide_eq_true_iff, eq_comm]
theorem inD_str {x : Str} {ks : List Str} (h : getS μ e = some (ks.map D.str)) : inD μ (.str x) e = some (decide (x ∈ ks)) := by
  have : inD μ (.str x) e = (match getS μ e with
    | some xs => if flatD (.str x) = true ∧ xs.all flatD = true then some (xs.any fun y => eqD y (.str x)) else none
    | none => none) := by
    cases e <;> first | rfl | (simp [getS, getL, getM] at h)
  rw [this, h]
  simp only [flatD, all_flat_str, and_self, if_true, any_str]
theorem inD_int {x : Int} {ks : List Int} (h : getS μ e = some (ks.map D.int)) : inD μ (.int x) e = some (decide (x ∈ ks)) := by
  have : inD μ (.int x) e = (match getS μ e with
    | some xs => if flatD (.int x) = true ∧ xs.all flatD = true then some (xs.any fun y => eqD y (.int x)) else none
    | none => none) := by
    cases e <;> first | rfl | (simp [getS, getL, getM] at h)
  rw [this, h]
  simp only [flatD, all_flat_int, and_self, if_true, any_int]
theorem ev_inS {x : Str} {ks : List Str} (h : getS μ e = some (ks.map D.str)) : oIn (.str x) e μ = some (.bl (decide (x ∈ ks)), μ) := by simp [oIn, inD_str h]
theorem ev_ninS {x : Str} {ks : List Str} (h : getS μ e = some (ks.map D.str)) : oNin (.str x) e μ = some (.bl (!decide (x ∈ ks)), μ) := by simp [oNin, inD_str h]
theorem ev_inI {x : Int} {ks : List Int} (h : getS μ e = some (ks.map D.int)) : oIn (.int x) e μ = some (.bl (decide (x ∈ ks)), μ) := by simp [oIn, inD_int h]
theorem ev_ninI {x : Int} {ks : List Int} (h : getS μ e = some (ks.map D.int)) : oNin (.int x) e μ = some (.bl (!decide (x ∈ ks)), μ) := by simp [oNin, inD_int h]
/-- a sign in a text -/
theorem ev_inC {c : Nat} {z : Str} : oIn (.str ⟨#[c]⟩) (.str z) μ = some (.bl (decide (c ∈ tl z)), μ) := by simp [oIn, inD, sign?]
theorem ev_ninC {c : Nat} {z : Str} : oNin (.str ⟨#[c]⟩) (.str z) μ = some (.bl (!decide (c ∈ tl z)), μ) := by simp [oNin, inD, sign?]
end
/-! ### data without mutable things -/
mutual
/-- lists and tuples of flat values, at most so deep -/
def pl : Nat → D → Bool
  | _, .non => true
  | _, .bl _ => true
  | _, .int _ => true
  | _, .str _ => true
  | n + 1, .tup xs => pls n xs
  | n + 1, .rt xs => pls n xs
  | n + 1, .lst xs => pls n xs
  | n + 1, .rl xs => pls n xs
  | _, _ => false
def pls : Nat → List D → Bool
  | _, [] => true
  | n, x :: xs => pl n x && pls n xs
end
mutual
def pd : D → PyData
  | .bl b => .bool b
  | .int i => .int i
  | .str x => .str x
  | .tup xs => .tuple (pds xs)
  | .rt xs => .tuple (pds xs)
  | .lst xs => .list (pds xs)
  | .rl xs => .list (pds xs)
  | _ => .none
def pds : List D → List PyData
  | [] => []
  | x :: xs => pd x :: pds xs
end
theorem pds_map : ∀ xs : List D, pds xs = xs.map pd
  | [] => by simp only [pds, List.map_nil]
  | x :: xs => by simp only [pds, List.map_cons, pds_map xs]
mutual
theorem toP_pl {μ : Store} : ∀ (n : Nat) (d : D), pl n d = true → toP μ n d = some (pd d)
  | 0, d, h => by cases d <;> simp only [pl, Bool.false_eq_true] at h <;> simp only [toP, pd]
  | n + 1, d, h => by
    cases d <;> simp only [pl, Bool.false_eq_true] at h <;> simp only [toP, pd] <;> rw [toPs_pl n _ h] <;> rfl
theorem toPs_pl {μ : Store} : ∀ (n : Nat) (xs : List D), pls n xs = true → toPs μ n xs = some (pds xs)
  | n, [], _ => by simp only [toPs, pds]
  | n, x :: xs, h => by
    simp only [pls, Bool.and_eq_true] at h
    simp only [toPs, pds, toP_pl n x h.1, toPs_pl n xs h.2]
end
theorem toP_locL {μ : Store} {n k : Nat} {xs : List D} (h : μ[k]? = some (.lst xs)) (hx : pls n xs = true) : toP μ (n + 1) (.loc k) = some (.list (pds xs)) := by
  simp only [toP, h, toPs_pl n xs hx, Option.map_some]
mutual
/-- texts of real signs -/
def tx : D → Bool
  | .str x => x.cps.all (· < 0x110000)
  | .tup xs => txs xs
  | .rt xs => txs xs
  | .lst xs => txs xs
  | .rl xs => txs xs
  | _ => true
def txs : List D → Bool
  | [] => true
  | x :: xs => tx x && txs xs
end
mutual
theorem can_pl : ∀ (n : Nat) (d : D), pl n d = true → tx d = true → (pd d).canLay0 = true ∧ (pd d).depth ≤ n
  | 0, d, h, t => by cases d <;> simp only [pl, Bool.false_eq_true] at h <;> simp only [tx] at t <;> simp_all [pd, PyData.canLay0, PyData.strOk, PyData.depth]
  | n + 1, d, h, t => by
    cases d <;> simp only [pl, Bool.false_eq_true] at h <;> simp only [tx] at t <;> simp only [pd, PyData.canLay0, PyData.depth] <;> first
      | (obtain ⟨h1, h2⟩ := can_pls n _ h t; exact ⟨h1, by omega⟩)
      | (simp_all [PyData.strOk])
theorem can_pls : ∀ (n : Nat) (xs : List D), pls n xs = true → txs xs = true → PyData.canLayAll0 (pds xs) = true ∧ PyData.depthAll (pds xs) ≤ n
  | n, [], _, _ => by simp [pds, PyData.canLayAll0, PyData.depthAll]
  | n, x :: xs, h, t => by
    simp only [pls, Bool.and_eq_true] at h
    simp only [txs, Bool.and_eq_true] at t
    obtain ⟨h1, h2⟩ := can_pl n x h.1 t.1
    obtain ⟨h3, h4⟩ := can_pls n xs h.2 t.2
    simp only [pds, PyData.canLayAll0, PyData.depthAll, h1, h3, Bool.and_self, true_and]
    omega
end
theorem eqDt_pl {μ : Store} {d e : D} (h1 : pl 9 d = true) (h2 : pl 9 e = true) (t1 : tx d = true) (t2 : tx e = true) (hf : eqFl d e = none) : eqDt μ d e = some (PyData.eqv (pd d) (pd e)) := by
  obtain ⟨a1, a2⟩ := can_pl 9 d h1 t1
  obtain ⟨b1, b2⟩ := can_pl 9 e h2 t2
  simp only [eqDt, hf]
  cases q : eqLen μ d e with
  | some b =>
    simp only
    unfold eqLen at q
    split at q
    · rename_i xs ys hx hy
      split at q
      · rename_i hl
        cases q
        have ll : ∀ {d : D} {xs : List D}, DL.pl 9 d = true → getL μ d = some xs → pd d = .list (pds xs) := fun {d xs} h hx => by
          cases d <;> simp only [DL.pl, Bool.false_eq_true] at h <;> simp [getL, getM] at hx <;> (subst hx; simp only [pd])
        rw [ll h1 hx, ll h2 hy, PyData.eqv]
        have ne : ∀ a b : List PyData, a.length ≠ b.length → PyData.eqvAll a b = false := fun a => by
          induction a with
          | nil => intro b h; cases b with
            | nil => simp at h
            | cons => simp [PyData.eqvAll]
          | cons x a ih => intro b h; cases b with
            | nil => simp [PyData.eqvAll]
            | cons y b => simp only [PyData.eqvAll, ih b (by simpa using h), Bool.and_false]
        rw [ne _ _ (by rw [pds_map, pds_map, List.length_map, List.length_map]; exact hl)]
      · cases q
    · cases q
  | none =>
    simp only [toP_pl 9 _ h1, toP_pl 9 _ h2]
    rw [if_pos]
    simp only [SeqAt.shaped, a1, b1, Bool.true_and, decide_eq_true_eq]
    omega
/-- a way of writing values by which equal means the same -/
structure EqE {α : Type} [DecidableEq α] (enc : α → D) (n : Nat) : Prop where
  pl : ∀ a, pl n (enc a) = true
  tx : ∀ a, tx (enc a) = true
  eq : ∀ a b, PyData.eqv (pd (enc a)) (pd (enc b)) = decide (a = b)
theorem eqv_all {α : Type} [DecidableEq α] {enc : α → D} {n : Nat} (h : EqE enc n) : ∀ a b : List α, PyData.eqvAll (pds (a.map enc)) (pds (b.map enc)) = decide (a = b)
  | [], [] => by simp [pds, PyData.eqvAll]
  | [], _ :: _ => by simp [pds, PyData.eqvAll]
  | _ :: _, [] => by simp [pds, PyData.eqvAll]
  | x :: xs, y :: ys => by simp only [List.map_cons, pds, PyData.eqvAll, h.eq, eqv_all h xs ys, List.cons.injEq, Bool.decide_and]
theorem pls_enc {α : Type} [DecidableEq α] {enc : α → D} {n : Nat} (h : EqE enc n) : ∀ a : List α, pls n (a.map enc) = true
  | [] => by simp [pls]
  | x :: xs => by simp only [List.map_cons, pls, h.pl, pls_enc h xs, Bool.and_self]
theorem txs_enc {α : Type} [DecidableEq α] {enc : α → D} {n : Nat} (h : EqE enc n) : ∀ a : List α, txs (a.map enc) = true
  | [] => by simp [txs]
  | x :: xs => by simp only [List.map_cons, txs, h.tx, txs_enc h xs, Bool.and_self]
theorem beqd {α : Type} [DecidableEq α] (a b : α) : (a == b) = decide (a = b) := rfl
theorem eqE_int : EqE D.int 0 := ⟨fun _ => rfl, fun _ => rfl, fun a b => by simp only [pd, PyData.eqv]; exact beqd a b⟩
theorem eqE_lst {α : Type} [DecidableEq α] {enc : α → D} {n : Nat} (h : EqE enc n) : EqE (fun a : List α => .lst (a.map enc)) (n + 1) :=
  ⟨fun a => pls_enc h a, fun a => txs_enc h a, fun a b => by simp only [pd, PyData.eqv, eqv_all h]⟩
theorem eqE_tup {α : Type} [DecidableEq α] {enc : α → D} {n : Nat} (h : EqE enc n) : EqE (fun a : List α => .tup (a.map enc)) (n + 1) :=
  ⟨fun a => pls_enc h a, fun a => txs_enc h a, fun a b => by simp only [pd, PyData.eqv, eqv_all h]⟩
theorem EqE.mono {α : Type} [DecidableEq α] {enc : α → D} {n m : Nat} (h : EqE enc n) (hp : ∀ a, DL.pl m (enc a) = true) : EqE enc m := ⟨hp, h.tx, h.eq⟩
/-- == of two tuples of ints, of two lists of ints -/
theorem ev_eqTI {μ : Store} {a b : List Int} : oEq (.tup (a.map D.int)) (.tup (b.map D.int)) μ = some (.bl (decide (a = b)), μ) := by
  simp only [oEq, eqDt_pl (d := .tup (a.map D.int)) (e := .tup (b.map D.int)) (h1 := by
    have := pls_enc eqE_int a; exact mono9 this) (h2 := by have := pls_enc eqE_int b; exact mono9 this) (t1 := txs_enc eqE_int a) (t2 := txs_enc eqE_int b) rfl, (eqE_tup eqE_int).eq, Option.map_some]
where
  mono9 {xs : List D} (h : pls 0 xs = true) : pl 9 (.tup xs) = true := by
    simp only [pl]
    induction xs with
    | nil => rfl
    | cons x r ih =>
      simp only [pls, Bool.and_eq_true] at h ⊢
      refine ⟨?_, ih h.2⟩
      have := h.1
      cases x <;> simp only [pl, Bool.false_eq_true] at this ⊢
theorem ev_eqLI {μ : Store} {a b : List Int} : oEq (.lst (a.map D.int)) (.lst (b.map D.int)) μ = some (.bl (decide (a = b)), μ) := by
  simp only [oEq, eqDt_pl (d := .lst (a.map D.int)) (e := .lst (b.map D.int)) (h1 := by
    have := pls_enc eqE_int a; exact ev_eqTI.mono9 this) (h2 := by have := pls_enc eqE_int b; exact ev_eqTI.mono9 this) (t1 := txs_enc eqE_int a) (t2 := txs_enc eqE_int b) rfl, (eqE_lst eqE_int).eq, Option.map_some]
/-- == of two lists of texts of real signs -/
theorem eqv_strs : ∀ a b : List Str, PyData.eqvAll (pds (a.map D.str)) (pds (b.map D.str)) = decide (a = b)
  | [], [] => by simp [pds, PyData.eqvAll]
  | [], _ :: _ => by simp [pds, PyData.eqvAll]
  | _ :: _, [] => by simp [pds, PyData.eqvAll]
  | x :: xs, y :: ys => by simp only [List.map_cons, pds, pd, PyData.eqvAll, PyData.eqv, eqv_strs xs ys, List.cons.injEq, Bool.decide_and]; rfl
theorem pls_str : ∀ (n : Nat) (a : List Str), pls n (a.map D.str) = true
  | _, [] => by simp [pls]
  | n, x :: xs => by cases n <;> simp only [List.map_cons, pls, pl, pls_str _ xs, Bool.and_self]
theorem pls_int : ∀ (n : Nat) (a : List Int), pls n (a.map D.int) = true
  | _, [] => by simp [pls]
  | n, x :: xs => by cases n <;> simp only [List.map_cons, pls, pl, pls_int _ xs, Bool.and_self]
theorem txs_str {a : List Str} (h : ∀ x ∈ a, x.cps.all (· < 0x110000) = true) : txs (a.map D.str) = true := by
  induction a with
  | nil => simp [txs]
  | cons x r ih => simp only [List.map_cons, txs, tx, h x List.mem_cons_self, ih fun y hy => h y (List.mem_cons_of_mem _ hy), Bool.and_self]
theorem txs_int : ∀ a : List Int, txs (a.map D.int) = true
  | [] => by simp [txs]
  | x :: xs => by simp only [List.map_cons, txs, tx, txs_int xs, Bool.and_self]
theorem ev_eqLS {μ : Store} {a b : List Str} (ha : ∀ x ∈ a, x.cps.all (· < 0x110000) = true) (hb : ∀ x ∈ b, x.cps.all (· < 0x110000) = true) : oEq (.lst (a.map D.str)) (.lst (b.map D.str)) μ = some (.bl (decide (a = b)), μ) := by
  rw [oEq, eqDt_pl (d := .lst (a.map D.str)) (e := .lst (b.map D.str)) (h1 := pls_str 8 a) (h2 := pls_str 8 b) (t1 := txs_str ha) (t2 := txs_str hb) rfl]
  simp only [pd, PyData.eqv, eqv_strs, Option.map_some]
theorem ev_eqTS {μ : Store} {a b : List Str} (ha : ∀ x ∈ a, x.cps.all (· < 0x110000) = true) (hb : ∀ x ∈ b, x.cps.all (· < 0x110000) = true) : oEq (.tup (a.map D.str)) (.tup (b.map D.str)) μ = some (.bl (decide (a = b)), μ) := by
  rw [oEq, eqDt_pl (d := .tup (a.map D.str)) (e := .tup (b.map D.str)) (h1 := pls_str 8 a) (h2 := pls_str 8 b) (t1 := txs_str ha) (t2 := txs_str hb) rfl]
  simp only [pd, PyData.eqv, eqv_strs, Option.map_some]
theorem ev_ne {μ : Store} {d e : D} {b : Bool} (h : oEq d e μ = some (.bl b, μ)) : oNe d e μ = some (.bl (!b), μ) := by
  simp only [oEq, Option.map_eq_some_iff] at h
  obtain ⟨k, h1, h2⟩ := h
  simp only [Prod.mk.injEq, D.bl.injEq, and_true] at h2
  rw [oNe, h1, ← h2]; rfl
/-- a list against an empty one -/
theorem ev_nilL {μ : Store} {d : D} {xs : List D} (hd : getL μ d = some xs) (hf : eqFl d (.lst []) = none) : oEq d (.lst []) μ = some (.bl xs.isEmpty, μ) := by
  have e : eqDt μ d (.lst []) = some xs.isEmpty := by
    simp only [eqDt, hf]
    cases xs with
    | nil =>
      have q : eqLen μ d (.lst []) = none := by rw [eqLen, hd, show getL μ (.lst []) = some [] from rfl]; rfl
      have q2 : toP μ 9 d = some (.list []) := by
        cases d with
        | lst ys => simp [getL, getM] at hd; subst hd; simp [toP, toPs]
        | rl ys => simp [getL] at hd; subst hd; simp [toP, toPs]
        | loc n =>
          simp only [getL, getM] at hd
          split at hd
          · rename_i ys h; cases hd; simp [toP, h, toPs]
          · cases hd
        | _ => simp [getL, getM] at hd
      simp only [q, q2, show toP μ 9 (.lst []) = some (.list []) by simp only [toP, toPs, Option.map_some]]
      rw [if_pos ⟨by decide, by decide⟩]
      simp [PyData.eqv, PyData.eqvAll]
    | cons x xs =>
      have q : eqLen μ d (.lst []) = some false := by rw [eqLen, hd, show getL μ (.lst []) = some [] from rfl]; rfl
      simp only [q]
      rfl
  rw [oEq, e]; rfl
theorem ev_eqNil {μ : Store} {d : D} {xs : List D} (hd : d = .lst xs) : oEq d (.lst []) μ = some (.bl xs.isEmpty, μ) := by
  subst hd
  exact ev_nilL rfl rfl
theorem ev_eqNilLoc {μ : Store} {n : Nat} {xs : List D} (h : μ[n]? = some (.lst xs)) : oEq (.loc n) (.lst []) μ = some (.bl xs.isEmpty, μ) := ev_nilL (by simp [getL, getM, h]) rfl
/-! ### repr -/
/-- a bound of what repr tells -/
def szI (i : Int) : Nat := if i.natAbs < 10 ^ 60 then 61 else 10 ^ 9
mutual
def szD : D → Nat
  | .non => 4
  | .bl _ => 5
  | .int i => szI i
  | .str x => 10 * x.length + 2
  | .tup xs => szDs xs + 3
  | .rt xs => szDs xs + 3
  | .lst xs => szDs xs + 3
  | .rl xs => szDs xs + 3
  | _ => 10 ^ 9
def szDs : List D → Nat
  | [] => 0
  | x :: xs => szD x + 2 + szDs xs
end
theorem text_sz {x : Str} (h : x.cps.all (· < 0x110000) = true) : (PyData.shown (.str x)).length ≤ 10 * x.length + 2 := by
  rw [PyData.shown_str]
  have := StrLaws.reprText_len x (fun c hc => by
    have : c < 0x110000 := by simpa using (Array.all_eq_true'.mp h) c (by simpa using hc)
    have e : (16 : Nat) ^ 8 = 4294967296 := by decide
    omega)
  exact this
theorem int_sz (i : Int) (h : szI i < 10 ^ 9) : (PyData.shown (.int i)).length ≤ szI i ∧ i.natAbs.log2 < 1920 := by
  unfold szI at h ⊢
  by_cases hi : i.natAbs < 10 ^ 60
  · rw [if_pos hi]
    refine ⟨?_, ?_⟩
    · rw [PyData.shown_int]
      have := int_text_length_le10 (k := 60) (by decide) hi
      rw [PySem.ofString_length]
      exact this
    · by_cases h0 : i.natAbs = 0
      · rw [h0]; decide
      · exact Nat.lt_trans ((Nat.log2_lt h0).mpr (Nat.lt_trans hi (show (10 : Nat) ^ 60 < 2 ^ 200 by decide))) (by decide)
  · rw [if_neg hi] at h; omega
mutual
theorem shown_pl : ∀ (n : Nat) (d : D), pl n d = true → tx d = true → szD d < 10 ^ 9 → (pd d).shown.length ≤ szD d ∧ (pd d).showable = true ∧ (pd d).hasDict = false
  | n, .non, _, _, _ => by simp only [pd, szD, PyData.showable, PyData.hasDict, and_self, and_true]; exact (by decide : (PyData.shown .none).length ≤ 4)
  | n, .bl b, _, _, _ => by simp only [pd, szD, PyData.showable, PyData.hasDict, and_self, and_true]; cases b <;> decide
  | n, .int i, _, _, z => by
    simp only [szD] at z ⊢
    obtain ⟨h1, h2⟩ := int_sz i z
    simp only [pd, PyData.showable, PyData.hasDict, and_true]
    exact ⟨h1, by simpa using h2⟩
  | n, .str x, _, t, _ => by
    simp only [tx] at t
    simp only [pd, szD, PyData.showable, PyData.hasDict, and_true]
    exact text_sz t
  | n + 1, .tup xs, p, t, z => by
    simp only [pl] at p; simp only [tx] at t; simp only [szD] at z ⊢
    obtain ⟨h1, h2, h3⟩ := shown_pls n xs p t (by omega)
    simp only [pd, PyData.showable, PyData.hasDict, h2, h3, and_true]
    have := tupleText_len_le (PyData.shownAll (pds xs))
    simp only [PyData.shown]
    omega
  | n + 1, .rt xs, p, t, z => by
    simp only [pl] at p; simp only [tx] at t; simp only [szD] at z ⊢
    obtain ⟨h1, h2, h3⟩ := shown_pls n xs p t (by omega)
    simp only [pd, PyData.showable, PyData.hasDict, h2, h3, and_true]
    have := tupleText_len_le (PyData.shownAll (pds xs))
    simp only [PyData.shown]
    omega
  | n + 1, .lst xs, p, t, z => by
    simp only [pl] at p; simp only [tx] at t; simp only [szD] at z ⊢
    obtain ⟨h1, h2, h3⟩ := shown_pls n xs p t (by omega)
    simp only [pd, PyData.showable, PyData.hasDict, h2, h3, and_true]
    have := listText_len_le (PyData.shownAll (pds xs))
    simp only [PyData.shown]
    omega
  | n + 1, .rl xs, p, t, z => by
    simp only [pl] at p; simp only [tx] at t; simp only [szD] at z ⊢
    obtain ⟨h1, h2, h3⟩ := shown_pls n xs p t (by omega)
    simp only [pd, PyData.showable, PyData.hasDict, h2, h3, and_true]
    have := listText_len_le (PyData.shownAll (pds xs))
    simp only [PyData.shown]
    omega
theorem shown_pls : ∀ (n : Nat) (xs : List D), pls n xs = true → txs xs = true → szDs xs < 10 ^ 9 → ((PyData.shownAll (pds xs)).map (·.length)).sum + 2 * (PyData.shownAll (pds xs)).length ≤ szDs xs ∧ PyData.showableAll (pds xs) = true ∧ PyData.hasDictAll (pds xs) = false
  | n, [], _, _, _ => by simp [pds, PyData.shownAll, szDs, PyData.showableAll, PyData.hasDictAll]
  | n, x :: xs, p, t, z => by
    simp only [pls, Bool.and_eq_true] at p
    simp only [txs, Bool.and_eq_true] at t
    simp only [szDs] at z ⊢
    obtain ⟨a1, a2, a3⟩ := shown_pl n x p.1 t.1 (by omega)
    obtain ⟨b1, b2, b3⟩ := shown_pls n xs p.2 t.2 (by omega)
    simp only [pds, PyData.shownAll, PyData.showableAll, PyData.hasDictAll, a2, a3, b2, b3, List.map_cons, List.sum_cons, List.length_cons, Bool.and_self, Bool.or_self, and_self, and_true]
    omega
end
theorem okP_of {p : PyData} {n : Nat} (h1 : p.showable = true) (h2 : p.depth ≤ 60) (h3 : p.shown.length ≤ n) (h4 : n ≤ 16777216) : okP p = true := by
  simp only [okP, h1, Bool.true_and, Bool.and_eq_true, decide_eq_true_eq]
  exact ⟨h2, by rw [cap_val]; omega⟩
theorem flatP_pd {d : D} {p : PyData} (h : flatP d = some p) : p = pd d := by cases d <;> simp_all [flatP, pd]
theorem repr_pl {μ : Store} {d : D} (p : pl 12 d = true) (t : tx d = true) (z : szD d ≤ 1000000) : oRepr [d] μ = some (.str (pd d).shown, μ) := by
  obtain ⟨h1, h2, h3⟩ := shown_pl 12 d p t (by omega)
  obtain ⟨_, h4⟩ := can_pl 12 d p t
  have ok : okP (pd d) = true := okP_of h2 (by omega) h1 (by omega)
  simp only [oRepr, reprD]
  cases q : flatP d with
  | some p' =>
    rw [flatP_pd q]
    simp only [ok, if_true, Option.map_some]
  | none => simp only [toP_pl 12 d p, ok, h3, and_self, if_true, Option.map_some]
theorem repr_loc {μ : Store} {n : Nat} {xs : List D} (h : μ[n]? = some (.lst xs)) (p : pls 11 xs = true) (t : txs xs = true) (z : szDs xs ≤ 1000000) : oRepr [.loc n] μ = some (.str (pd (.lst xs)).shown, μ) := by
  have p' : pl 12 (.lst xs) = true := p
  obtain ⟨h1, h2, h3⟩ := shown_pl 12 (.lst xs) p' t (by simp only [szD]; omega)
  obtain ⟨_, h4⟩ := can_pl 12 (.lst xs) p' t
  have ok : okP (pd (.lst xs)) = true := okP_of h2 (by omega) h1 (by simp only [szD]; omega)
  simp only [oRepr, reprD, flatP, toP_locL h p, show PyData.list (pds xs) = pd (.lst xs) by simp only [pd], ok, h3, and_self, if_true, Option.map_some]
/-! ### own objects, sealing -/
theorem tl_len (x : Str) : (tl x).length = x.length := by simp [Str.length]
/-- a list of different things within another one is not longer -/
theorem nodup_le {α : Type} [DecidableEq α] : ∀ {l m : List α}, l.Nodup → (∀ x ∈ l, x ∈ m) → l.length ≤ m.length
  | [], _, _, _ => Nat.zero_le _
  | a :: l, m, h, q => by
    have ha := List.nodup_cons.mp h
    have h1 : a ∈ m := q a List.mem_cons_self
    have := nodup_le (m := m.erase a) ha.2 fun x hx => by
      have hne : x ≠ a := fun e => ha.1 (e ▸ hx)
      exact (List.mem_erase_of_ne hne).mpr (q x (List.mem_cons_of_mem _ hx))
    rw [List.length_erase_of_mem h1] at this
    have : 0 < m.length := List.length_pos_of_mem h1
    simp only [List.length_cons]; omega
theorem nodup_map {α β : Type} {f : α → β} (hf : ∀ a b, f a = f b → a = b) : ∀ {l : List α}, l.Nodup → (l.map f).Nodup
  | [], _ => List.nodup_nil
  | a :: l, h => by
    have ha := List.nodup_cons.mp h
    rw [List.map_cons, List.nodup_cons]
    exact ⟨fun z => by obtain ⟨b, hb, e⟩ := List.mem_map.mp z; exact ha.1 (hf _ _ e ▸ hb), nodup_map hf ha.2⟩
/-! stores: one box that changes, one own list at the end -/
section
variable {μ : Store} {n : Nat} {o o' l l' : Ob}
theorem own_get (hn : n < μ.length) : ((μ ++ [l]).set n o)[μ.length]? = some l := by
  rw [List.getElem?_set_ne (by omega), List.getElem?_append_right (Nat.le_refl _)]; simp
theorem own_set (hn : n < μ.length) : ((μ ++ [l]).set n o).set μ.length l' = (μ ++ [l']).set n o := by
  rw [List.set_comm _ _ (by omega)]
  congr 1
  rw [List.set_append_right _ _ (Nat.le_refl _)]; simp
theorem own_out (hn : n < μ.length) : (μ ++ [l]).set n o = μ.set n o ++ [l] := List.set_append_left _ _ hn
end
theorem wp_runS_last {n : Nat} {body : SF} {ds : List D} {μ : Store} {Q : D → Store → Prop} {E : XP}
    (h : WpS (body (startD n ds) μ) (fun _ _ => False) (fun d μ' => Th (∃ μ1 xs ν, d = .loc μ.length ∧ μ' = μ1 ++ .lst xs :: ν ∧ μ1.length = μ.length ∧ clos μ.length xs = true ∧ (∀ o ∈ μ1, cloO μ.length o = true) ∧ Q (.lst xs) μ1)) NoX) : Wp (runS n body ds μ) Q E := by
  unfold runS runB
  cases q : body (startD n ds) μ with
  | ret d μ' =>
    rw [q, WpS_ret, Th_eq] at h
    obtain ⟨μ1, xs, ν, rfl, rfl, h1, h2, h3, h4⟩ := h
    exact Wp.of (seal_last h1 h2 h3) h4
  | next => rw [q, WpS_next] at h; exact h.elim
  | exc => rw [q, WpS_exc] at h; exact h.elim
  | brk => rw [q, WpS_brk] at h; exact h.elim
  | cont => rw [q, WpS_cont] at h; exact h.elim
  | stuck => rw [q, WpS_stuck] at h; exact h.elim
mutual
theorem subW_congr {n : Nat} {f g : Nat → Option D} (h : ∀ i, n ≤ i → f i = g i) : ∀ d : D, subW n f d = subW n g d
  | .loc i => by
    simp only [subW]
    split
    · rfl
    · exact h i (by omega)
  | .tup xs => by simp only [subW, subsW_congr h xs]
  | .rt xs => by simp only [subW, subsW_congr h xs]
  | .lst xs => by simp only [subW, subsW_congr h xs]
  | .rl xs => by simp only [subW, subsW_congr h xs]
  | .dK _ xs => by simp only [subW, subsW_congr h xs]
  | .dT _ xs => by simp only [subW, subsW_congr h xs]
  | .ins _ _ xs => by simp only [subW, subsW_congr h xs]
  | .er _ _ d => by simp only [subW, subW_congr h d]
  | .non => by simp only [subW]
  | .bl _ => by simp only [subW]
  | .int _ => by simp only [subW]
  | .str _ => by simp only [subW]
  | .ty _ => by simp only [subW]
  | .ref _ => by simp only [subW]
  | .cls _ => by simp only [subW]
theorem subsW_congr {n : Nat} {f g : Nat → Option D} (h : ∀ i, n ≤ i → f i = g i) : ∀ xs : List D, subsW n f xs = subsW n g xs
  | [] => by simp only [subsW]
  | x :: xs => by simp only [subsW, subW_congr h x, subsW_congr h xs]
end
/-- what stands for an own list -/
def own1 (n : Nat) (xs : List D) (i : Nat) : Option D := if i = n then some (.lst xs) else none
theorem look_one {n : Nat} {xs : List D} {μ1 : Store} (h1 : μ1.length = n) (h2 : clos n xs = true) (i : Nat) (hi : n ≤ i) : lookD n (μ1 ++ [.lst xs]) sealN i = own1 n xs i := by
  show lookD n (μ1 ++ [.lst xs]) (3 + 1) i = _
  simp only [lookD, subD.lookD, own1]
  by_cases e : i = n
  · subst e
    have : (μ1 ++ [Ob.lst xs])[i]? = some (.lst xs) := by rw [List.getElem?_append_right (by omega), h1]; simp
    simp only [this, subs_clo xs h2, Option.map_some, if_true]
  · have : (μ1 ++ [Ob.lst xs])[i]? = none := List.getElem?_eq_none (by simp; omega)
    simp only [this, if_neg e]
/-- a def with one own list, told within what it tells -/
theorem wp_runS_one {n : Nat} {body : SF} {ds : List D} {μ : Store} {Q : D → Store → Prop} {E : XP}
    (h : WpS (body (startD n ds) μ) (fun _ _ => False) (fun d μ' => Th (∃ μ1 xs d', μ' = μ1 ++ [.lst xs] ∧ μ1.length = μ.length ∧ clos μ.length xs = true ∧ (∀ o ∈ μ1, cloO μ.length o = true) ∧ subW μ.length (own1 μ.length xs) d = some d' ∧ Q d' μ1)) NoX) : Wp (runS n body ds μ) Q E := by
  unfold runS runB
  cases q : body (startD n ds) μ with
  | ret d μ' =>
    rw [q, WpS_ret, Th_eq] at h
    obtain ⟨μ1, xs, d', rfl, h1, h2, h3, h4, h5⟩ := h
    refine Wp.of (a := d') (μ := μ1) ?_ h5
    have e2 : (μ1 ++ [Ob.lst xs]).take μ.length = μ1 := by rw [← h1, List.take_left']; rfl
    simp only [sealR, sealD, subW_congr (look_one h1 h2) d, h4, e2, seal_clo h3]
  | next => rw [q, WpS_next] at h; exact h.elim
  | exc => rw [q, WpS_exc] at h; exact h.elim
  | brk => rw [q, WpS_brk] at h; exact h.elim
  | cont => rw [q, WpS_cont] at h; exact h.elim
  | stuck => rw [q, WpS_stuck] at h; exact h.elim
theorem clos_strs (n : Nat) : ∀ ks : List Str, clos n (ks.map D.str) = true
  | [] => by simp [clos]
  | k :: r => by simp only [List.map_cons, clos, clo, clos_strs n r, Bool.and_self]

/-! ### len(set(..)) -/
theorem seen_nodup (xs : List Key) : (DLS.seen xs).length = xs.length ↔ xs.Nodup := by
  have has_iff : ∀ (l : List Key) (k : Key), DLS.has l k = true ↔ k ∈ l := fun l k => by simp [DLS.has]
  suffices h : ∀ (ys acc : List Key), (ys.foldl (fun acc k => if DLS.has acc k = true then acc else k :: acc) acc).length ≤ acc.length + ys.length ∧
      ((ys.foldl (fun acc k => if DLS.has acc k = true then acc else k :: acc) acc).length = acc.length + ys.length ↔ ys.Nodup ∧ ∀ y ∈ ys, y ∉ acc) from by
    have := (h xs []).2
    simpa [DLS.seen] using this
  intro ys
  induction ys with
  | nil => intro acc; simp
  | cons y r ih =>
    intro acc
    rw [List.foldl_cons]
    by_cases hy : y ∈ acc
    · rw [if_pos ((has_iff acc y).mpr hy)]
      obtain ⟨h1, h2⟩ := ih acc
      refine ⟨by simp only [List.length_cons]; omega, ⟨fun e => ?_, fun e => absurd hy (e.2 y List.mem_cons_self)⟩⟩
      simp only [List.length_cons] at e; omega
    · rw [if_neg (by rw [has_iff]; exact hy)]
      obtain ⟨h1, h2⟩ := ih (y :: acc)
      simp only [List.length_cons] at h1 h2 ⊢
      refine ⟨by omega, ?_⟩
      rw [show acc.length + (r.length + 1) = acc.length + 1 + r.length by omega, h2, List.nodup_cons]
      constructor
      · rintro ⟨n1, n2⟩
        refine ⟨⟨fun hr => n2 y hr List.mem_cons_self, n1⟩, fun z hz => ?_⟩
        rcases List.mem_cons.mp hz with rfl | hz
        · exact hy
        · exact fun z1 => n2 z hz (List.mem_cons_of_mem _ z1)
      · rintro ⟨⟨n1, n2⟩, n3⟩
        refine ⟨n2, fun z hz z1 => ?_⟩
        rcases List.mem_cons.mp z1 with rfl | z1
        · exact n1 hz
        · exact n3 z (List.mem_cons_of_mem _ hz) z1
theorem keysD_str : ∀ ks : List Str, keysD (ks.map D.str) = some (ks.map .inr)
  | [] => rfl
  | k :: r => by
    have := keysD_str r
    simp only [keysD] at this ⊢
    rw [List.map_cons, List.mapM_cons, this]; rfl
theorem keysD_int : ∀ ks : List Int, keysD (ks.map D.int) = some (ks.map .inl)
  | [] => rfl
  | k :: r => by
    have := keysD_int r
    simp only [keysD] at this ⊢
    rw [List.map_cons, List.mapM_cons, this]; rfl
@[simp ↓] theorem wp_lenSet {σ : Sg} {μ : Store} {fe : EF} {Q : D → Store → Prop} {E : XP} : (Wp (fLenSet fe σ μ) Q E : Prop) = Wp (fe σ μ) (fun d μ => Wp (match (getS μ d).bind keysD with | some ks => if ks.length < 4000 then .ok (.int (DLS.seen ks).length) μ else .stuck | none => .stuck) Q E) E := by
  rw [show fLenSet fe σ μ = (fe σ μ).bind fun d μ => match (getS μ d).bind keysD with | some ks => if ks.length < 4000 then .ok (.int (DLS.seen ks).length) μ else .stuck | none => .stuck from rfl, Wp_bind]
/-- len(set(e)) = len(e), e a list of texts -/
theorem ev_lenSetS {μ : Store} {d : D} {ks : List Str} (h : getS μ d = some (ks.map D.str)) (hl : ks.length ≤ 1000) : (match (getS μ d).bind keysD with | some ks => if ks.length < 4000 then Res.ok (D.int (DLS.seen ks).length) μ else .stuck | none => .stuck) = .ok (.int (DLS.seen (ks.map Sum.inr)).length) μ := by
  rw [h, Option.bind_some, keysD_str]
  simp only [List.length_map]
  rw [if_pos (by omega)]
theorem seen_str {ks : List Str} : ((DLS.seen (ks.map Sum.inr)).length : Int) = (ks.length : Int) ↔ ks.Nodup := by
  have := seen_nodup (ks.map Sum.inr)
  rw [List.length_map] at this
  rw [Int.natCast_inj, this]
  constructor
  · intro h
    exact List.Pairwise.of_map _ (fun a b h e => h (by rw [e])) h
  · intro h
    exact List.Pairwise.map _ (fun a b h e => h (by injection e)) h

/-! ### a new instance -/
theorem seal_ins {n C : Nat} {ns : List Str} {xs : List D} {μ : Store} (hl : μ.length = n) (hx : clos n xs = true) (hμ : ∀ o ∈ μ, cloO n o = true) : sealR n (.ok (.loc n) (μ ++ [.ins C ns xs])) = .ok (.ins C ns xs) μ := by
  have e1 : (μ ++ [Ob.ins C ns xs])[n]? = some (.ins C ns xs) := by rw [List.getElem?_append_right (by omega), hl]; simp
  have e2 : (μ ++ [Ob.ins C ns xs]).take n = μ := by rw [← hl, List.take_left']; rfl
  simp only [sealR, sealD, subW, Nat.lt_irrefl, if_false, e2, seal_clo hμ]
  simp only [lookD, subD.lookD, e1, subs_clo xs hx, Option.map_some]
theorem mk_ok {n C : Nat} {ns : List Str} {xs : List D} {μ : Store} {r : Res D} (hr : r = .ok .non (μ ++ [.ins C ns xs])) (hl : μ.length = n) (hx : clos n xs = true) (hμ : ∀ o ∈ μ, cloO n o = true) : mkR false n r = .ok (.ins C ns xs) μ := by
  subst hr
  exact seal_ins hl hx hμ
theorem mk_exc {n c : Nat} {o : Ob} {d : D} {μ : Store} {r : Res D} (hr : r = .exc c (some d) (μ ++ [o])) (hl : μ.length = n) (hx : clo n d = true) (hμ : ∀ o ∈ μ, cloO n o = true) : mkR false n r = .exc c (some d) μ := by
  subst hr
  show sealR n (.exc c (some d) (μ ++ [o])) = _
  have e2 : (μ ++ [o]).take n = μ := by rw [← hl, List.take_left']; rfl
  simp only [sealR, sealD, sub_clo d hx, e2, seal_clo hμ]
theorem setF_own {t : Nat → Str → Bool} {C : Nat} {f : Str} {μ : Store} {ns : List Str} {xs : List D} {d : D} (h : t C f = true) (hn : ns.length < 1000) : setF t f (.loc μ.length) d (μ ++ [.ins C ns xs]) = some (μ ++ [.ins C (putD f d ns xs).1 (putD f d ns xs).2]) := by
  have e1 : (μ ++ [Ob.ins C ns xs])[μ.length]? = some (.ins C ns xs) := by rw [List.getElem?_append_right (Nat.le_refl _)]; simp
  simp only [setF, e1, h, hn, and_self, if_true]
  rw [List.set_append_right _ _ (Nat.le_refl _)]; simp
theorem getF_own {t : Nat → Str → Bool} {C : Nat} {f : Str} {μ : Store} {ns : List Str} {xs : List D} (h : t C f = true) : getF t f (.loc μ.length) (μ ++ [.ins C ns xs]) = (ns.zip xs).lookup f := by
  have e1 : (μ ++ [Ob.ins C ns xs])[μ.length]? = some (.ins C ns xs) := by rw [List.getElem?_append_right (Nat.le_refl _)]; simp
  simp only [getF, e1, h, if_true]
theorem getF_ins {t : Nat → Str → Bool} {C : Nat} {f : Str} {μ : Store} {ns : List Str} {xs : List D} (h : t C f = true) : getF t f (.ins C ns xs) μ = (ns.zip xs).lookup f := by
  simp only [getF, h, if_true]
end DL
/-! text DL24 -/
/-! repr of tuples that hold dicts of texts and flat values -/
namespace DL
open PySem PySem.Spec PyProof.Rows L2 TL
def fl : D → Bool
  | .non => true
  | .bl _ => true
  | .int _ => true
  | .str _ => true
  | _ => false
def keyS : Key → Bool
  | .inr _ => true
  | _ => false
def kP : Key → PyData
  | .inr x => .str x
  | .inl i => .int i
mutual
def ql : Nat → D → Bool
  | _, .non => true
  | _, .bl _ => true
  | _, .int _ => true
  | _, .str _ => true
  | n + 1, .tup xs => qls n xs
  | _, .dK ks xs => ks.all keyS && xs.all fl && decide (ks.length = xs.length)
  | _, _ => false
def qls : Nat → List D → Bool
  | _, [] => true
  | n, x :: xs => ql n x && qls n xs
end
mutual
def qd : D → PyData
  | .bl b => .bool b
  | .int i => .int i
  | .str x => .str x
  | .tup xs => .tuple (qds xs)
  | .dK ks xs => .dict ((ks.map kP).zip (qds xs))
  | _ => .none
def qds : List D → List PyData
  | [] => []
  | x :: xs => qd x :: qds xs
end
theorem flatP_fl {d : D} (h : fl d = true) : flatP d = some (qd d) := by cases d <;> simp [fl] at h <;> simp [flatP, qd]
theorem mapM_fl : ∀ {xs : List D}, xs.all fl = true → xs.mapM flatP = some (qds xs)
  | [], _ => by simp [qds]
  | x :: xs, h => by
    simp only [List.all_cons, Bool.and_eq_true] at h
    rw [List.mapM_cons, flatP_fl h.1, mapM_fl h.2]
    simp [qds]
theorem mapM_key : ∀ {ks : List Key}, ks.all keyS = true → ks.mapM txtK = some (ks.map kP)
  | [], _ => by simp
  | k :: ks, h => by
    simp only [List.all_cons, Bool.and_eq_true] at h
    rw [List.mapM_cons, mapM_key h.2]
    cases k with
    | inl i => simp [keyS] at h
    | inr x => simp [txtK, kP]
theorem qds_len : ∀ xs : List D, (qds xs).length = xs.length
  | [] => by simp [qds]
  | x :: xs => by simp [qds, qds_len xs]
mutual
theorem toQ_ql {μ : Store} : ∀ (n : Nat) (d : D), ql n d = true → toQ μ n d = some (qd d)
  | n, .non, _ => by cases n <;> simp [toQ, qd]
  | n, .bl _, _ => by cases n <;> simp [toQ, qd]
  | n, .int _, _ => by cases n <;> simp [toQ, qd]
  | n, .str _, _ => by cases n <;> simp [toQ, qd]
  | 0, .tup _, h => by simp [ql] at h
  | n + 1, .tup xs, h => by simp only [ql] at h; simp only [toQ, qd, toQs_ql n xs h, Option.map_some]
  | n, .dK ks xs, h => by
    have h : (ks.all keyS && xs.all fl && decide (ks.length = xs.length)) = true := by cases n <;> exact h
    simp only [Bool.and_eq_true, decide_eq_true_eq] at h
    have e : toQ μ n (.dK ks xs) = dictP ks xs := by cases n <;> simp only [toQ]
    rw [e]
    simp only [dictP, mapM_key h.1.1, mapM_fl h.1.2, qd]
    rw [if_pos (by rw [List.length_map, qds_len]; exact h.2)]
  | 0, .rt _, h => by simp [ql] at h
  | 0, .lst _, h => by simp [ql] at h
  | 0, .rl _, h => by simp [ql] at h
  | n + 1, .rt _, h => by simp [ql] at h
  | n + 1, .lst _, h => by simp [ql] at h
  | n + 1, .rl _, h => by simp [ql] at h
  | n, .ty _, h => by cases n <;> simp [ql] at h
  | n, .dT _ _, h => by cases n <;> simp [ql] at h
  | n, .ins _ _ _, h => by cases n <;> simp [ql] at h
  | n, .er _ _ _, h => by cases n <;> simp [ql] at h
  | n, .loc _, h => by cases n <;> simp [ql] at h
  | n, .ref _, h => by cases n <;> simp [ql] at h
  | n, .cls _, h => by cases n <;> simp [ql] at h
theorem toQs_ql {μ : Store} : ∀ (n : Nat) (xs : List D), qls n xs = true → toQs μ n xs = some (qds xs)
  | n, [], _ => by simp only [toQs, qds]
  | n, x :: xs, h => by
    simp only [qls, Bool.and_eq_true] at h
    simp only [toQs, qds, toQ_ql n x h.1, toQs_ql n xs h.2]
end
def kSz : Key → Nat
  | .inr x => 10 * x.length + 2
  | .inl _ => 0
def kTx : Key → Bool
  | .inr x => x.cps.all (· < 0x110000)
  | .inl _ => true
mutual
def szQ : D → Nat
  | .non => 4
  | .bl _ => 5
  | .int i => szI i
  | .str x => 10 * x.length + 2
  | .tup xs => szQs xs + 3
  | .dK ks xs => (ks.map kSz).sum + szQs xs + 4 * ks.length + 3
  | _ => 10 ^ 9
def szQs : List D → Nat
  | [] => 0
  | x :: xs => szQ x + 2 + szQs xs
end
mutual
def tq : D → Bool
  | .str x => x.cps.all (· < 0x110000)
  | .tup xs => tqs xs
  | .dK ks xs => ks.all kTx && tqs xs
  | _ => true
def tqs : List D → Bool
  | [] => true
  | x :: xs => tq x && tqs xs
end
theorem kv_len : ∀ (ks : List Key) (ps : List PyData), ks.all kTx = true → ks.all keyS = true → ks.length = ps.length →
    ((PyData.shownKv ((ks.map kP).zip ps)).map (·.length)).sum + 2 * (PyData.shownKv ((ks.map kP).zip ps)).length ≤ (ks.map kSz).sum + ((PyData.shownAll ps).map (·.length)).sum + 4 * ks.length
  | [], [], _, _, _ => by simp [PyData.shownKv]
  | [], _ :: _, _, _, h => by simp at h
  | _ :: _, [], _, _, h => by simp at h
  | k :: ks, p :: ps, t, s, h => by
    simp only [List.all_cons, Bool.and_eq_true] at t s
    have ih := kv_len ks ps t.2 s.2 (by simpa using h)
    cases k with
    | inl i => simp [keyS] at s
    | inr x =>
      have hx := text_sz (x := x) t.1
      simp only [List.map_cons, List.zip_cons_cons, PyData.shownKv, List.sum_cons, List.length_cons, kSz, kP, PyData.shownAll] at ih ⊢
      have e : ((PyData.str x).shown ++ (": " : Str) ++ p.shown).length = (PyData.str x).shown.length + 2 + p.shown.length := by
        rw [strLen_append, strLen_append]; rfl
      omega
theorem zip_show : ∀ (ks : List Key) (ps : List PyData), PyData.showableAll ps = true → PyData.showableKv ((ks.map kP).zip ps) = true ∨ ¬ ks.all keyS = true
  | [], _, _ => by simp [PyData.showableKv]
  | _ :: _, [], _ => by simp [PyData.showableKv]
  | k :: ks, p :: ps, h => by
    simp only [PyData.showableAll, Bool.and_eq_true] at h
    cases k with
    | inl i => right; simp [keyS]
    | inr x =>
      rcases zip_show ks ps h.2 with h2 | h2
      · left; simp [List.zip_cons_cons, PyData.showableKv, kP, PyData.showable, h.1, h2]
      · right; simp only [List.all_cons, Bool.and_eq_true, not_and]; intro _; exact h2
theorem dep_zip : ∀ (ks : List Key) (ps : List PyData), PyData.depthKv ((ks.map kP).zip ps) ≤ PyData.depthAll ps
  | [], _ => by simp [PyData.depthKv]
  | _ :: _, [] => by simp [PyData.depthKv]
  | k :: ks, p :: ps => by
    have := dep_zip ks ps
    cases k <;> simp [List.zip_cons_cons, PyData.depthKv, kP, PyData.depth, PyData.depthAll] <;> omega
theorem fl_all {xs : List D} (h : xs.all fl = true) : ∀ n, qls n xs = true := by
  intro n
  induction xs with
  | nil => simp [qls]
  | cons x xs ih =>
    simp only [List.all_cons, Bool.and_eq_true] at h
    simp only [qls, ih h.2, Bool.and_true]
    have := h.1
    cases x <;> simp [fl] at this <;> cases n <;> simp [ql]
theorem fl_dep {xs : List D} (h : xs.all fl = true) : PyData.depthAll (qds xs) = 0 := by
  induction xs with
  | nil => simp [qds, PyData.depthAll]
  | cons x xs ih =>
    simp only [List.all_cons, Bool.and_eq_true] at h
    have := h.1
    simp only [qds, PyData.depthAll, ih h.2]
    cases x <;> simp [fl] at this <;> simp [qd, PyData.depth]
mutual
theorem shown_ql : ∀ (n : Nat) (d : D), ql n d = true → tq d = true → szQ d < 10 ^ 9 → (qd d).shown.length ≤ szQ d ∧ (qd d).showable = true ∧ (qd d).depth ≤ n + 1
  | n, .non, _, _, _ => by simp only [qd, szQ, PyData.showable, PyData.depth, true_and]; exact ⟨(by decide : (PyData.shown .none).length ≤ 4), by omega⟩
  | n, .bl b, _, _, _ => by simp only [qd, szQ, PyData.showable, PyData.depth, true_and]; exact ⟨by cases b <;> decide, by omega⟩
  | n, .int i, _, _, z => by
    simp only [szQ] at z ⊢
    obtain ⟨h1, h2⟩ := int_sz i z
    simp only [qd, PyData.showable, PyData.depth]
    exact ⟨h1, by simpa using h2, by omega⟩
  | n, .str x, _, t, _ => by
    simp only [tq] at t
    simp only [qd, szQ, PyData.showable, PyData.depth, true_and]
    exact ⟨text_sz t, by omega⟩
  | 0, .tup _, h, _, _ => by simp [ql] at h
  | n + 1, .tup xs, p, t, z => by
    simp only [ql] at p; simp only [tq] at t; simp only [szQ] at z ⊢
    obtain ⟨h1, h2, h3⟩ := shown_qls n xs p t (by omega)
    simp only [qd, PyData.showable, PyData.depth, h2, true_and]
    have := tupleText_len_le (PyData.shownAll (qds xs))
    simp only [PyData.shown]
    omega
  | n, .dK ks xs, p, t, z => by
    have p : (ks.all keyS && xs.all fl && decide (ks.length = xs.length)) = true := by cases n <;> exact p
    simp only [Bool.and_eq_true, decide_eq_true_eq] at p
    simp only [tq, Bool.and_eq_true] at t
    simp only [szQ] at z ⊢
    obtain ⟨h1, h2, h3⟩ := shown_qls 0 xs (fl_all p.1.2 0) t.2 (by omega)
    have k1 := kv_len ks (qds xs) t.1 p.1.1 (by rw [qds_len]; exact p.2)
    have k2 := dictText_len_le (PyData.shownKv ((ks.map kP).zip (qds xs)))
    simp only [qd, PyData.showable, PyData.shown, PyData.depth]
    refine ⟨by omega, (zip_show ks (qds xs) h2).resolve_right (fun z => z p.1.1), ?_⟩
    have := dep_zip ks (qds xs)
    have := fl_dep p.1.2
    omega
  | 0, .rt _, h, _, _ => by simp [ql] at h
  | 0, .lst _, h, _, _ => by simp [ql] at h
  | 0, .rl _, h, _, _ => by simp [ql] at h
  | n + 1, .rt _, h, _, _ => by simp [ql] at h
  | n + 1, .lst _, h, _, _ => by simp [ql] at h
  | n + 1, .rl _, h, _, _ => by simp [ql] at h
  | n, .ty _, h, _, _ => by cases n <;> simp [ql] at h
  | n, .dT _ _, h, _, _ => by cases n <;> simp [ql] at h
  | n, .ins _ _ _, h, _, _ => by cases n <;> simp [ql] at h
  | n, .er _ _ _, h, _, _ => by cases n <;> simp [ql] at h
  | n, .loc _, h, _, _ => by cases n <;> simp [ql] at h
  | n, .ref _, h, _, _ => by cases n <;> simp [ql] at h
  | n, .cls _, h, _, _ => by cases n <;> simp [ql] at h
theorem shown_qls : ∀ (n : Nat) (xs : List D), qls n xs = true → tqs xs = true → szQs xs < 10 ^ 9 → ((PyData.shownAll (qds xs)).map (·.length)).sum + 2 * (PyData.shownAll (qds xs)).length ≤ szQs xs ∧ PyData.showableAll (qds xs) = true ∧ PyData.depthAll (qds xs) ≤ n + 1
  | n, [], _, _, _ => by simp [qds, PyData.shownAll, szQs, PyData.showableAll, PyData.depthAll]
  | n, x :: xs, p, t, z => by
    simp only [qls, Bool.and_eq_true] at p
    simp only [tqs, Bool.and_eq_true] at t
    simp only [szQs] at z ⊢
    obtain ⟨a1, a2, a3⟩ := shown_ql n x p.1 t.1 (by omega)
    obtain ⟨b1, b2, b3⟩ := shown_qls n xs p.2 t.2 (by omega)
    simp only [qds, PyData.shownAll, PyData.showableAll, PyData.depthAll, a2, b2, List.map_cons, List.sum_cons, List.length_cons, Bool.and_self, and_self, and_true, true_and]
    omega
end
mutual
theorem toP_ql {μ : Store} : ∀ (n : Nat) (d : D), ql n d = true → toP μ n d = none ∨ (toP μ n d = some (qd d) ∧ (qd d).hasDict = false)
  | n, .non, _ => by right; cases n <;> simp [toP, qd, PyData.hasDict]
  | n, .bl _, _ => by right; cases n <;> simp [toP, qd, PyData.hasDict]
  | n, .int _, _ => by right; cases n <;> simp [toP, qd, PyData.hasDict]
  | n, .str _, _ => by right; cases n <;> simp [toP, qd, PyData.hasDict]
  | 0, .tup _, h => by simp [ql] at h
  | n + 1, .tup xs, h => by
    simp only [ql] at h
    rcases toPs_ql (μ := μ) n xs h with e | ⟨e, e2⟩
    · left; simp only [toP, e, Option.map_none]
    · right; simp only [toP, e, Option.map_some, qd, PyData.hasDict, e2, and_self]
  | n, .dK ks xs, _ => by left; cases n <;> simp [toP]
  | 0, .rt _, h => by simp [ql] at h
  | 0, .lst _, h => by simp [ql] at h
  | 0, .rl _, h => by simp [ql] at h
  | n + 1, .rt _, h => by simp [ql] at h
  | n + 1, .lst _, h => by simp [ql] at h
  | n + 1, .rl _, h => by simp [ql] at h
  | n, .ty _, h => by cases n <;> simp [ql] at h
  | n, .dT _ _, h => by cases n <;> simp [ql] at h
  | n, .ins _ _ _, h => by cases n <;> simp [ql] at h
  | n, .er _ _ _, h => by cases n <;> simp [ql] at h
  | n, .loc _, h => by cases n <;> simp [ql] at h
  | n, .ref _, h => by cases n <;> simp [ql] at h
  | n, .cls _, h => by cases n <;> simp [ql] at h
theorem toPs_ql {μ : Store} : ∀ (n : Nat) (xs : List D), qls n xs = true → toPs μ n xs = none ∨ (toPs μ n xs = some (qds xs) ∧ PyData.hasDictAll (qds xs) = false)
  | n, [], _ => by right; simp [toPs, qds, PyData.hasDictAll]
  | n, x :: xs, h => by
    simp only [qls, Bool.and_eq_true] at h
    rcases toP_ql (μ := μ) n x h.1 with e | ⟨e, e2⟩
    · left; simp only [toPs, e]
    · rcases toPs_ql (μ := μ) n xs h.2 with e3 | ⟨e3, e4⟩
      · left; simp only [toPs, e, e3]
      · right; simp only [toPs, e, e3, qds, PyData.hasDictAll, e2, e4, Bool.or_self, and_self]
end
/-- what has one text, whatever the store -/
def HasR (d : D) : Prop := ∃ z, ∀ μ, oRepr [d] μ = some (.str z, μ)
theorem HasR.pl {d : D} (p : pl 12 d = true) (t : tx d = true) (z : szD d ≤ 1000000) : HasR d := ⟨_, fun _ => repr_pl p t z⟩
theorem HasR.ql {d : D} (p : ql 12 d = true) (t : tq d = true) (z : szQ d ≤ 1000000) : HasR d := by
  obtain ⟨h1, h2, h3⟩ := shown_ql 12 d p t (by omega)
  have ok : okP (qd d) = true := okP_of h2 (by omega) h1 (by omega)
  refine ⟨(qd d).shown, fun μ => ?_⟩
  simp only [oRepr, reprD]
  cases q : flatP d with
  | some p' =>
    have e : p' = qd d := by cases d <;> simp_all [flatP, qd]
    simp only [e, ok, if_true, Option.map_some]
  | none =>
    rcases toP_ql (μ := μ) 12 d p with e | ⟨e, e2⟩
    · simp only [e, toQ_ql 12 d p, ok, if_true, Option.map_some]
    · simp only [e, ok, e2, and_self, if_true, Option.map_some]
/-- a def whose own objects are all let go -/
theorem wp_runS_pre {n : Nat} {body : SF} {ds : List D} {μ : Store} {Q : D → Store → Prop} {E : XP} (hμ : ∀ o ∈ μ, cloO μ.length o = true)
    (h : WpS (body (startD n ds) μ) (fun _ _ => False) (fun d μ' => Th (∃ ν, μ' = μ ++ ν ∧ clo μ.length d = true ∧ Q d μ)) NoX) : Wp (runS n body ds μ) Q E := by
  unfold runS runB
  cases q : body (startD n ds) μ with
  | ret d μ' =>
    rw [q, WpS_ret, Th_eq] at h
    obtain ⟨ν, rfl, h1, h2⟩ := h
    have e : (μ ++ ν).take μ.length = μ := List.take_left' rfl
    exact Wp.of (a := d) (μ := μ) (by show sealR μ.length (.ok d (μ ++ ν)) = _; rw [seal_ok h1 (by rw [e]; exact hμ), e]) h2
  | next => rw [q, WpS_next] at h; exact h.elim
  | exc => rw [q, WpS_exc] at h; exact h.elim
  | brk => rw [q, WpS_brk] at h; exact h.elim
  | cont => rw [q, WpS_cont] at h; exact h.elim
  | stuck => rw [q, WpS_stuck] at h; exact h.elim
theorem set_pre {μ ν : Store} {m : Nat} {l : Ob} (h : μ.length ≤ m) : (μ ++ ν).set m l = μ ++ ν.set (m - μ.length) l := List.set_append_right _ _ h
/-- a loop over a list that stands while the loop changes other things -/
theorem wp_forP {fi : IF} {σ : Sg} {μ : Store} {src : Src} {its : List D} {g : TgF} {body : SF} {N : Sg → Store → Prop} {R : D → Store → Prop} {E : XP} (go : fi σ μ = .ok src μ) (fu : its.length ≤ src.fuel μ) (P : Nat → Sg → Store → Prop) (hs : ∀ i σ μ, P i σ μ → src.at μ i = some its[i]?)
    (h0 : P 0 σ μ) (step : ∀ i d σ μ, its[i]? = some d → P i σ μ → Tk (g d σ μ) fun σ1 => WpS (body σ1 μ) (fun σ μ => Th (P (i + 1) σ μ)) R E) (he : ∀ σ μ, P its.length σ μ → N σ μ) : WpS (sFor fi g body σ μ) N R E := by
  rw [show sFor fi g body σ μ = sBind (fi σ μ) σ fun src μ => loopF g body src (src.fuel μ + 1) 0 σ μ from rfl, go, sBind_ok]
  exact loopF_wp P (fun i σ μ _ p => hs i σ μ p) (fun i d σ μ h p => tk_mono (step i d σ μ h p) fun σ1 h => h.mono (fun _ _ h => h.get) (fun _ _ h => h) fun _ _ _ h => h) he (src.fuel μ) 0 σ μ (by omega) (Nat.zero_le _) h0
theorem en_loc {μ : Store} {n i : Nat} {xs : List D} (h : μ[n]? = some (.lst xs)) : (Src.en (.loc n)).at μ i = some ((xs.zipIdx.map fun p => D.tup [.int p.2, p.1])[i]?) := by
  have e : getS μ (.loc n) = some xs := getS_loc h
  simp only [Src.at, e, Option.map_some, List.getElem?_map, List.getElem?_zipIdx, Nat.zero_add, Option.map_map]
  rfl
theorem sq_loc {μ : Store} {n i : Nat} {xs : List D} (h : μ[n]? = some (.lst xs)) : (Src.sq (.loc n)).at μ i = some (xs[i]?) := by
  simp only [Src.at, getS_loc h, Option.map_some]
end DL
/-! text DL25 -/
namespace DL
open PySem PySem.Spec PyProof.Rows L2

/-! ### more methods of lists -/
section
variable {G : Cf} {X : Cx}
/-- what a method does to the list a mutable object holds -/
def onL (μ : Store) (o : D) (k : Nat → List D → Option (D × Store)) : Option (D × Store) := match o with
  | .loc n => match μ[n]? with
    | some (.lst xs) => k n xs
    | _ => none
  | _ => none
def oPop : OM := fun o ds μ => match ds with
  | [] => onL μ o fun n xs => match xs[xs.length - 1]? with
    | some d => some (d, μ.set n (.lst xs.dropLast))
    | none => none
  | _ => none
def oInsert : OM := fun o ds μ => match ds with
  | [.int i, d] => onL μ o fun n xs => if xs.length < cap ∧ 0 ≤ i ∧ i < 2 ^ 63 then some (.non, μ.set n (.lst (xs.take i.toNat ++ [d] ++ xs.drop i.toNat))) else none
  | _ => none
def oExtend : OM := fun o ds μ => match ds with
  | [e] => onL μ o fun n xs => match getM μ e with
    | some ys => if xs.length + ys.length ≤ cap then some (.non, μ.set n (.lst (xs ++ ys))) else none
    | none => none
  | _ => none
def oReverse : OM := fun o ds μ => match ds with
  | [] => onL μ o fun n xs => some (.non, μ.set n (.lst xs.reverse))
  | _ => none
def oClear : OM := fun o ds μ => match ds with
  | [] => onL μ o fun n _ => some (.non, μ.set n (.lst []))
  | _ => none
theorem onL_ok {w : Wd} {H : Hp} {o : D} {v : V} {k : Nat → List D → Option (D × Store)} {Q : VK} (S : G.Stw w H) (r : G.Rep w o v) (A : AftO G w (onL w.μ o k) Q) : ∃ n xs vs, v = .ref (w.m n) ∧ H (w.m n) = some (.lst vs) ∧ G.Reps w xs vs ∧ AftO G w (k n xs) Q ∧
    ∀ ys us d u, G.Reps w ys us → (∀ w', Le w w' → G.Rep w' d u) → AftO G w (some (d, w.μ.set n (.lst ys))) Q → Q u (upd H (w.m n) (.lst us)) := by
  unfold onL at A
  split at A
  · rename_i n
    split at A
    · rename_i xs e
      obtain ⟨rfl, vs, h1, h2, kk⟩ := locL S r e
      exact ⟨n, xs, vs, rfl, h1, h2, A, fun ys us d u ry rd B => kk ys us d u Q ry rd B⟩
    · exact A.elim
  · exact A.elim
theorem Reps.dropLast {w : Wd} {ds : List D} {vs : List V} (r : G.Reps w ds vs) : G.Reps w ds.dropLast vs.dropLast := by
  rw [List.dropLast_eq_take, List.dropLast_eq_take, ← r.len]
  exact r.take _
theorem Reps.rev {w : Wd} : ∀ {ds : List D} {vs : List V}, G.Reps w ds vs → G.Reps w ds.reverse vs.reverse
  | [], vs, r => by simp only [Cf.Reps, DL.Reps] at r; subst r; exact DL.Reps.nil
  | d :: ds, vs, r => by
    simp only [Cf.Reps, DL.Reps] at r
    obtain ⟨v, us, rfl, rv, rr⟩ := r
    simp only [List.reverse_cons]
    exact DL.Reps.append (Reps.rev rr) (DL.Reps.cons rv DL.Reps.nil)
theorem mt_Pop : MtR X "list.pop" (rMO G oPop) := by
  refine mtI mt_pop fun x xs H Q h => ?_
  obtain ⟨w, o, ds, S, ro, rs, A⟩ := h
  unfold oPop at A
  split at A
  · have hx : xs = [] := by simpa [Cf.Reps, DL.Reps] using rs
    obtain ⟨n, ys, vs, rfl, h1, h2, A, k⟩ := onL_ok S ro A
    split at A
    · rename_i d hd
      obtain ⟨u, hu, ru⟩ := Reps.get h2 _ _ hd
      exact ⟨_, vs, u, rfl, hx, h1, by rw [← Reps.len h2]; exact hu, k _ _ d u (Reps.dropLast h2) (fun _ l => Rep.mono l _ _ ru) A⟩
    · exact A.elim
  · exact A.elim
theorem mt_Insert : MtR X "list.insert" (rMO G oInsert) := by
  refine mtI mt_insert fun x xs H Q h => ?_
  obtain ⟨w, o, ds, S, ro, rs, A⟩ := h
  unfold oInsert at A
  split at A
  · rename_i i d
    obtain ⟨u1, u2, rfl, r1, r2⟩ := rs.two
    replace r1 := rep_int.mp r1
    obtain ⟨n, ys, vs, rfl, h1, h2, A, k⟩ := onL_ok S ro A
    split at A
    · rename_i hz
      exact ⟨_, vs, i, u2, rfl, by rw [r1], h1, by rw [← Reps.len h2, ← cap_eq]; exact hz.1, hz.2.1, hz.2.2, k _ _ .non .non (Reps.append (Reps.append (h2.take _) (Reps.cons r2 Reps.nil)) (h2.drop _)) (fun _ _ => rep_non.mpr rfl) A⟩
    · exact A.elim
  · exact A.elim
theorem mt_Extend : MtR X "list.extend" (rMO G oExtend) := by
  refine mtI mt_extend fun x xs H Q h => ?_
  obtain ⟨w, o, ds, S, ro, rs, A⟩ := h
  unfold oExtend at A
  split at A
  · rename_i e
    obtain ⟨v, rfl, rv⟩ := rs.one
    obtain ⟨n, ys, vs, rfl, h1, h2, A, k⟩ := onL_ok S ro A
    split at A
    · rename_i zs hz
      obtain ⟨b, us, rfl, q, rr⟩ := getM_ok S rv hz
      split at A
      · rename_i hl
        exact ⟨_, b, vs, us, rfl, rfl, h1, q, by rw [← Reps.len h2, ← Reps.len rr, ← cap_eq]; exact hl, k _ _ .non .non (Reps.append h2 rr) (fun _ _ => rep_non.mpr rfl) A⟩
      · exact A.elim
    · exact A.elim
  · exact A.elim
theorem mt_Reverse : MtR X "list.reverse" (rMO G oReverse) := by
  refine mtI mt_reverse fun x xs H Q h => ?_
  obtain ⟨w, o, ds, S, ro, rs, A⟩ := h
  unfold oReverse at A
  split at A
  · have hx : xs = [] := by simpa [Cf.Reps, DL.Reps] using rs
    obtain ⟨n, ys, vs, rfl, h1, h2, A, k⟩ := onL_ok S ro A
    exact ⟨_, vs, rfl, hx, h1, k _ _ .non .non (Reps.rev h2) (fun _ _ => rep_non.mpr rfl) A⟩
  · exact A.elim
theorem mt_Clear : MtR X "list.clear" (rMO G oClear) := by
  refine mtI mt_clear fun x xs H Q h => ?_
  obtain ⟨w, o, ds, S, ro, rs, A⟩ := h
  unfold oClear at A
  split at A
  · have hx : xs = [] := by simpa [Cf.Reps, DL.Reps] using rs
    obtain ⟨n, ys, vs, rfl, h1, h2, A, k⟩ := onL_ok S ro A
    exact ⟨_, vs, rfl, hx, h1, k _ _ .non .non Reps.nil (fun _ _ => rep_non.mpr rfl) A⟩
  · exact A.elim
end
end DL
/-! text DL26 -/
namespace DL
open PySem PySem.Spec PyProof.Rows L2 He

/-! ### a new error as a value -/
def tMkEV (C : Addr) (attr : Str) (ta : TA) : TE := fun σ H Q => ta σ H fun vs H1 => ∃ v, vs = [v] ∧ ∀ a d, H1 a = none → H1 d = none → d ≠ a → Q (.ref a) (upd (upd H1 d (exd d [(attr, v)])) a (exo a C (some d)))
section
variable {X : Cx} {C CE fI : Addr} {attr : Str} {fd : FuncData} {x : Str} {p pos : Pos} {e : Expr} {E : XK}
theorem pe_errV {ta : TA} (T : ErrC X.K C CE) (iC : PySem.W.findIn X.K (.ref C) "__init__" = some (some (.ref fI))) (tI : PySem.W.typeIn X.K (.ref fI) = some (.type "function"))
    (F1 : FnOg X.prog X.w X.K X.mg X.base (L2.CX X.prog X.w) 1 fI fd ["self", attr] (spErr C attr)) (gd : X.A.guards = some []) (hr : Room 2 X.A) (hb : Binds X.K fd ["self", attr] []) (hg : Gl X x) (hm : X.mg x = some (.ref C)) (ha : PA X [e] ta)
    (hdb : (x == ("__debug__" : Str)) = false := by decide) (he : starEach [e] X.env = (false, eval e X.env) :: starEach [] X.env := by rfl) (hpl : (backTo pos (starEach [] X.env)).any (·.1) = false := by rfl) :
    PE X (.Call (.Name x p) [e] [] pos) (tMkEV C attr ta) := by
  refine ⟨fun pins s σ H Q I h => ?_⟩
  obtain ⟨nm, q, N, bs, sn, sub, ab, col, dd, k0, k1, k2, k3, k5, hC⟩ := T.cls
  refine wpAny_Call_Name_kw (ld_glob I hg hm ?_ hdb)
  refine PySem.W.callWith_K (h₀ := X.base) I.ok.mod.kin T.kC (thn (ha.run pos pins s σ H _ I h) fun us s1 ⟨vs, H1, I1, r1, v, ev, q1⟩ => ⟨I1.kIn, ?_⟩) he hpl
  subst ev
  show wpAny _ _ (call (.ref C) us) _ _ _
  obtain ⟨hp, g, dr, tk, os⟩ := s1
  have hsz : hp.objs.size ≤ hp.objs.size + 1 := Nat.le_succ _
  have hn : H1 (hp.objs.size + 1) = none := I1.hok.fresh hsz
  have keep : ∀ b o, hp.get? b = some o → ((hp.push (PySem.W.kdv_tup us)).push (PySem.HandSPX.excO C hp.objs.size)).get? b = some o := fun b o z => Heap.get?_push_of_some _ (Heap.get?_push_of_some _ z)
  have hget : ((hp.push (PySem.W.kdv_tup us)).push (PySem.HandSPX.excO C hp.objs.size)).get? (hp.objs.size + 1) = some (PySem.HandSPX.excO C hp.objs.size) := by heap_get
  have I2 : Inv X pins σ (upd H1 (hp.objs.size + 1) (exo (hp.objs.size + 1) C none)) ⟨(hp.push (PySem.W.kdv_tup us)).push (PySem.HandSPX.excO C hp.objs.size), g, dr, tk, os⟩ := I1.laid (t' := tk) keep hsz (exo_ok hget)
  have r2 : Vals [V.ref (hp.objs.size + 1), v] (Value.ref (hp.objs.size + 1) :: us) := .cons rfl r1
  have hus : us.length ≤ sizeLine := by rw [← Paired.length r1, sizeLine_eq]; exact Nat.le_of_ble_eq_true rfl
  have hul : us.length = 1 := (Paired.length r1).symm
  refine wpAny_call (PySem.HandSPX.call_own F.excBase_Exception (DLX.tailE_has CE) (I1.kIn _ _ hC) (PySem.W.looks_findIn I1.kIn iC) (fun self => PySem.W.bind_fn I1.kIn self tI) hus
    (codeAny_mono (F1.run _ X.stack _ _ ⟨Value.ref (hp.objs.size + 1) :: us, []⟩ (Value.ref (hp.objs.size + 1) :: us) _
      (fun z H2 => z = .non ∧ ∃ d : Addr, H1 d = none ∧ d ≠ hp.objs.size + 1 ∧ H2 = upd (upd (upd H1 (hp.objs.size + 1) (exo (hp.objs.size + 1) C none)) d (exd d [(attr, v)])) (hp.objs.size + 1) (exo (hp.objs.size + 1) C (some d)))
      (fun _ _ _ => False) (make_gd gd) (hr.make C us []) (I2.env0.make C us []) (by have := hb _ (Value.ref (hp.objs.size + 1) :: us) I2.kIn (by simp [hul]); simpa using this) r2 ?_) fun r s' hq' => ?_))
  · refine ⟨_, v, rfl, upd_same, fun dx hdx ne => ⟨rfl, dx, ?_, ne, rfl⟩⟩
    rw [upd_ne ne] at hdx
    exact hdx
  · cases r with
    | error er =>
      obtain ⟨_, _, _, _, _, _, _, _, _, _, _, _, z⟩ := hq'
      exact z.elim
    | ok fl =>
      cases fl with
      | ret u =>
        obtain ⟨z, H2, I3, rv, ez, d, hd1, ne, eH⟩ := I2.after hq'
        subst ez
        have e3 : H2 = upd (upd H1 d (exd d [(attr, v)])) (hp.objs.size + 1) (exo (hp.objs.size + 1) C (some d)) := by
          rw [eH]
          funext b
          by_cases hba : b = hp.objs.size + 1
          · subst hba; rw [upd_same, upd_same]
          · rw [upd_ne hba, upd_ne hba]
            by_cases hbd : b = d
            · subst hbd; rw [upd_same, upd_same]
            · rw [upd_ne hbd, upd_ne hbd, upd_ne hba]
        exact ⟨rv, ⟨.ref (hp.objs.size + 1), H2, I3, rfl, by rw [e3]; exact q1 _ d hn hd1 ne⟩⟩
      | next => exact False.elim hq'
      | brk => exact False.elim hq'
      | cont => exact False.elim hq'
end
def fMkE (c : Nat) (attr : Str) (fa : EF) : EF := fun σ μ => (fa σ μ).bind fun d μ => .ok (.er c attr d) μ
section
variable {G : Cf} {X : Cx} {W : XK} {k c : Nat} {x attr : Str} {e : Expr} {fe : EF} {p pos : Pos}
theorem d_mkE (g : GX G X W k) (T : ErG G X.prog X.w X.mg X.base x c attr) (hk : 2 ≤ k) (he : DE G X W e fe) (hg : Gl X x := by rfl) (hdb : (x == ("__debug__" : Str)) = false := by decide)
    (hst : starEach [e] X.env = (false, eval e X.env) :: starEach [] X.env := by rfl) (hpl : (backTo pos (starEach [] X.env)).any (·.1) = false := by rfl) : DE G X W (.Call (.Name x p) [e] [] pos) (fMkE c attr fe) := by
  obtain ⟨CE, fI, fd, T1, hm, iC, tI, hb, F1⟩ := T.ex
  have hK := g.K
  refine peI (pe_errV (by rw [hK]; exact T1) (by rw [hK]; exact iC) (by rw [hK]; exact tI) (by rw [hK]; exact F1) g.gd (g.room.mono hk) (by rw [hK]; exact hb) hg hm (pa_cons he pa_nil hst) hdb hst hpl) fun σV H Q h => ?_
  obtain ⟨σ, w, S, R, A⟩ := h
  refine ⟨σ, w, S, R, (After.bind (R := G.Rep) A).mono fun v H1 ⟨w1, d, l1, S1, rv, A1⟩ => ⟨v, rfl, fun a dx ha hd ne => ?_⟩⟩
  obtain ⟨S2, l2⟩ := Stw.grow S1 hd (exd dx [(attr, v)])
  have ha2 : upd H1 dx (exd dx [(attr, v)]) a = none := by rw [upd_ne (Ne.symm ne)]; exact ha
  obtain ⟨S3, l3⟩ := Stw.grow S2 ha2 (exo a (G.ca c) (some dx))
  have l3 : Le w1 { w1 with F := upd (upd w1.F dx (exd dx [(attr, v)])) a (exo a (G.ca c) (some dx)) } := l2.trans l3
  refine A1 { w1 with F := upd (upd w1.F dx (exd dx [(attr, v)])) a (exo a (G.ca c) (some dx)) } _ _ rfl l3 S3 ?_
  simp only [Cf.Rep, Rep]
  refine ⟨a, dx, v, rfl, by rw [upd_same], ?_, Rep.mono l3.x _ _ rv⟩
  show upd (upd w1.F dx _) a _ dx = _
  rw [upd_ne ne, upd_same]
end
/-! ### isinstance of an error -/
structure ErT (K : PySem.W.Frag) (D : Addr) : Prop where
  ga : PySem.W.findIn K (.ref D) "__getattribute__" = some (some (.builtin "BaseException.__getattribute__"))
  gt : PySem.W.findIn K (.ref D) "__getattr__" = some none
  sub : PySem.W.subIn K (.ref D) (.type "BaseException") = some true
  dct : PySem.W.hasDictIn K D = true
  ha : PySem.W.findIn K (.ref D) "__class__" = some (some (.builtin "object.__class__"))
  hn : PySem.W.specialIn K (.builtin "object.__class__") "__get__" = some (some (.builtin "getset_descriptor.__get__"))
  tk : PySem.W.takesIn K (.builtin "object.__class__") = some true
  hm : PySem.W.mroIn K D (.type "object") = some true
def oIsiE (te : Nat → Ty → Option Bool) (t : Ty → Ty → Option Bool) : OL := fun ds μ => match ds with
  | [.er C _ _, c] => (clsD c).bind fun b => (te C b).map fun r => (.bl r, μ)
  | ds => oIsi t ds μ
structure IsE (G : Cf) (te : Nat → Ty → Option Bool) : Prop where
  ok : ∀ C b r, te C b = some r → ErT G.K (G.ca C) ∧ PySem.W.kitOne G.K (.ref (G.ca C)) (G.tv b) = some r
section
variable {G : Cf} {X : Cx}
def rIsX (K : PySem.W.Frag) : List V → Hp → VK → Prop := fun xs H Q => ∃ (a C dx : Addr) (fs : List (Str × V)) (c : V) (u : Value) (b : Bool), xs = [.ref a, c] ∧ ClsV c u ∧ ErT K C ∧ H a = some (exo a C (some dx)) ∧ H dx = some (exd dx fs) ∧ PySem.W.kitOne K (.ref C) u = some b ∧ Q (.bl b) H
theorem call_isX : CallR X (.builtin "isinstance") (rIsX X.K) := by
  intro pins s σ H xs us Q I r h
  obtain ⟨a, C, dx, fs, c, u, b, rfl, k, T, ea, ed, e, q⟩ := h
  obtain ⟨u1, u2, rfl, r1, r2⟩ := vals2 r
  have e2 := k.eq r2
  subst e2
  cases (show u1 = Value.ref a from r1)
  obtain ⟨t1, ho⟩ := exo_at I.hok ea
  obtain ⟨mA, hn, _⟩ := exd_at I.hok ed
  obtain ⟨od, hd⟩ : ∃ od, s.heap.get? dx = some od := by
    obtain ⟨o, es, n, h1, _⟩ := hn
    exact ⟨o, h1⟩
  have J : PySem.W.InstAt s.heap a { cls := .ref C, dict := some dx, data := .fields #[.ref t1, .none, .none, .none, .bool false, .none] } C (some od) := ⟨ho, rfl, rfl, hd⟩
  obtain ⟨cd, hc, _⟩ := PySem.W.any_some T.dct
  exact PySem.W.kia_one (PySem.W.kitx_exc (by rw [hc]; rfl) T.ga T.gt T.sub T.ha T.hn T.tk T.hm) I.kIn J e (fun z => nomatch z) fun tk => ⟨.bl b, H, I.tok tk, rfl, q⟩
theorem cr_IsiE (hK : X.K = G.K) {te : Nat → Ty → Option Bool} {t : Ty → Ty → Option Bool} (T : Isi G t) (T' : IsE G te) : CallR X (.builtin "isinstance") (rLO G (oIsiE te t)) := by
  refine crI (CallR.or (cr_Isi hK T) call_isX) fun vs H Q h => ?_
  obtain ⟨w, ds, S, r, A⟩ := h
  unfold oIsiE at A
  split at A
  · rename_i C f d c
    obtain ⟨v, u, rfl, rv, ru⟩ := r.two
    cases hc : clsD c with
    | none => rw [hc] at A; exact A.elim
    | some b =>
      rw [hc] at A
      cases ht : te C b with
      | none => simp only [ht, Option.bind_some, Option.map_none] at A; exact A.elim
      | some x =>
        simp only [ht, Option.bind_some, Option.map_some] at A
        obtain ⟨E, k⟩ := T'.ok C b x ht
        simp only [Cf.Rep, Rep] at rv
        obtain ⟨a, dx, y, rfl, h1, h2, h3⟩ := rv
        rw [hK]
        exact .inr ⟨a, _, dx, _, u, _, x, rfl, clsD_ok ru hc, E, S.ex _ _ h1, S.ex _ _ h2, k, A.here S (rep_bool.mpr rfl)⟩
  · exact .inl ⟨w, ds, S, r, A⟩
end
def erTB (K : PySem.W.Frag) (C : Addr) : Bool := eqO (PySem.W.findIn K (.ref C) "__getattribute__") (some (some (.builtin "BaseException.__getattribute__"))) && (eqO (PySem.W.findIn K (.ref C) "__getattr__") (some none) &&
  (decide (PySem.W.subIn K (.ref C) (.type "BaseException") = some true) && (PySem.W.hasDictIn K C && (eqO (PySem.W.findIn K (.ref C) "__class__") (some (some (.builtin "object.__class__"))) &&
  (eqO (PySem.W.specialIn K (.builtin "object.__class__") "__get__") (some (some (.builtin "getset_descriptor.__get__"))) && (decide (PySem.W.takesIn K (.builtin "object.__class__") = some true) && decide (PySem.W.mroIn K C (.type "object") = some true)))))))
theorem erTB_ok {K : PySem.W.Frag} {C : Addr} (h : erTB K C = true) : ErT K C := by
  obtain ⟨h1, h⟩ := He.ba h
  obtain ⟨h2, h⟩ := He.ba h
  obtain ⟨h3, h⟩ := He.ba h
  obtain ⟨h4, h⟩ := He.ba h
  obtain ⟨h5, h⟩ := He.ba h
  obtain ⟨h6, h⟩ := He.ba h
  obtain ⟨h7, h8⟩ := He.ba h
  exact ⟨He.eqO_ok h1, He.eqO_ok h2, of_decide_eq_true h3, h4, He.eqO_ok h5, He.eqO_ok h6, of_decide_eq_true h7, of_decide_eq_true h8⟩
def tabX (L : List Nat) (M : List Ty) (r : Nat → Ty → Bool) (a : Nat) (b : Ty) : Option Bool := if a ∈ L ∧ b ∈ M then some (r a b) else none
def isEB (G : Cf) (L : List Nat) (M : List Ty) (r : Nat → Ty → Bool) : Bool := L.all fun a => erTB G.K (G.ca a) && M.all fun b => decide (PySem.W.kitOne G.K (.ref (G.ca a)) (G.tv b) = some (r a b))
theorem isE_of {G : Cf} {L : List Nat} {M : List Ty} {r : Nat → Ty → Bool} (h : isEB G L M r = true) : IsE G (tabX L M r) := ⟨fun a b x e => by
  unfold tabX at e
  split at e
  · rename_i q
    cases e
    obtain ⟨h1, h2⟩ := He.ba (List.all_eq_true.mp h a q.1)
    exact ⟨erTB_ok h1, of_decide_eq_true (List.all_eq_true.mp h2 b q.2)⟩
  · cases e⟩
end DL
/-! text DL27 -/
namespace PySem.W
open PySem PySem.Spec PyProof.Rows
section
variable {prog : Program} {w : World} {A : Around} {E : Value → Shared → Prop} {s : Shared} {K : Frag} {x C : Addr} {ox : Obj} {od : Option Obj} {f : Addr} {b tb : Value}
/-- != of an instance whose class has an own ==, and no != of its own -/
theorem neEntry_own (hu : A.units < cLine) (X : K.In s.heap) (I : InstAt s.heap x ox C od) (hs : findIn K (.ref C) "__eq__" = some (some (.ref f))) (hf : isFn K (.ref f) = true) {Q : Fin → Shared → Prop}
    (hcall : wpAny (model prog w) A (call (.ref f) [.ref x, b]) (fun v s' => ∃ r, v = .bool r ∧ Q (.done (.ret (.bool (!r)))) s') E s) :
    wpAny (model prog w) A (Builtin.«object.__ne__» ⟨[.ref x, b], []⟩) Q E s := by
  unfold Builtin.«object.__ne__»
  repeat (first
    | with_reducible refine wpAny_cRoomFor hu ?_
    | (refine wpAny_bind (m := callSpecialIfBound? (.ref x) (Str.ofString "__eq__") [b])
        (ifBound_K X I hs hf (wpAny_mono hcall (fun v s' hr => by
          obtain ⟨r, rfl, hq⟩ := hr
          repeat (first | exact hq | exact wpAny_pure hq | exact wpAny_truthy_bool hq | (refine wpAny_bind (m := truthy (.bool _)) (wpAny_truthy_bool ?_)) | wp_step)) fun _ _ e => e)))
    | wp_step)
theorem ifBound_ne {args : List Value} {Q : Option Value → Shared → Prop} {M : Model} (X : K.In s.heap) (I : InstAt s.heap x ox C od) (hs : findIn K (.ref C) "__ne__" = some (some (.builtin "object.__ne__")))
    (h : wpAny M A (call (.builtin "object.__ne__") (.ref x :: args)) (fun v => Q (some v)) E s) : wpAny M A (callSpecialIfBound? (.ref x) "__ne__" args) Q E s := by
  simp only [callSpecialIfBound?, bindSpecialIfBound?]
  refine wpAny_holding (wpAny_bind (wpAny_bind (wpAny_bind (I.type.here ((looks_findIn X hs).here ?_)))))
  refine wpAny_bind (wpAny_askSetting (wpAny_ite ?_))
  have fin : wpAny M A (call (.builtin "object.__ne__") ([.ref x] ++ args) >>= fun v => pure (some v)) Q E s := wpAny_bind (wpAny_mono h (fun v s' h' => wpAny_pure h') fun _ _ h' => h')
  split
  · exact wpAny_bind (wpAny_of_eq (F.cmp_object.ne.bind _) (wpAny_pure (by exact fin)))
  · exact wpAny_tryCatch (wpAny_bind (wpAny_of_eq (F.cmp_object.ne.bind _) (wpAny_pure (by exact fin))))
theorem ne_own {Q : Value → Shared → Prop} (hu : A.units + 1 < cLine) (X : K.In s.heap) (I : InstAt s.heap x ox C od) (hm : mroIn K C (.type "object") = some true) (hb : Looks (model prog w) s.heap (typeOf b) tb) (hn : notFirst K C tb = true)
    (hs : findIn K (.ref C) "__eq__" = some (some (.ref f))) (hf : isFn K (.ref f) = true) (hne : findIn K (.ref C) "__ne__" = some (some (.builtin "object.__ne__")))
    (h : wpAny (model prog w) A.in1 (call (.ref f) [.ref x, b]) (fun v s' => ∃ r, v = .bool r ∧ Q (.bool (!r)) s') E s) : wpAny (model prog w) A (richCompare .NotEq (.ref x) b) Q E s := by
  have one : wpAny (model prog w) A (tryCompare (.ref x) (cmpInfo .NotEq).2.1 b) (fun r s' => ∃ v, r = some v ∧ Q v s') E s := by
    unfold tryCompare
    refine wpAny_bind (ifBound_ne X I hne (wpAny_call (codeAny_call_builtin F.cmp_object.ne.plain F.cmpEntry_ne (check_slot F.cmpKind_ne F.cmpSplit_ne (I.type.andThen (looks_mroIn X hm)) (F.cmpArgs_ne _ _)
      (neEntry_own (A := A.in1) (by show A.units + 1 < cLine; exact hu) X I hs hf (wpAny_mono h (fun v s' hv => ?_) fun _ _ e => e))))))
    obtain ⟨r, rfl, hq⟩ := hv
    first | exact ⟨r, rfl, wpAny_pure ⟨_, rfl, hq⟩⟩ | exact ⟨r, rfl, wpAny_pure (wpAny_pure ⟨_, rfl, hq⟩)⟩ | exact ⟨r, rfl, ⟨_, rfl, hq⟩⟩
  unfold richCompare
  simp only [oneThing_ref]
  refine wpAny_holding (wpAny_bind (wpAny_cRoomFor (by omega) ?_))
  refine wpAny_bind (I.type.here (wpAny_bind (hb.here ?_)))
  split
  · rename_i q
    have e : subIn K tb (.ref C) = some false := by
      rcases Bool.or_eq_true_iff.mp hn with e | e
      · rw [beq_iff_eq.mp e] at q; simp at q
      · exact beq_iff_eq.mp e
    refine wpAny_bind ((looks_subIn X e).here ?_)
    simp only [Bool.false_eq_true, if_false]
    refine wpAny_bind (wpAny_mono one (fun r s' z => ?_) fun _ _ e => e)
    obtain ⟨v, rfl, hq⟩ := z
    exact wpAny_pure hq
  · refine wpAny_bind (wpAny_pure ?_)
    simp only [Bool.false_eq_true, if_false]
    refine wpAny_bind (wpAny_mono one (fun r s' z => ?_) fun _ _ e => e)
    obtain ⟨v, rfl, hq⟩ := z
    exact wpAny_pure hq
theorem sub_base {T : String} (h : (match fastBuiltinMro T with | some l => !l.contains (.ref C) | none => false) = true) : subIn K (.type T) (.ref C) = some false := by
  show (fastBuiltinMro T).map (·.contains (.ref C)) = some false
  cases e : fastBuiltinMro T with
  | none => rw [e] at h; cases h
  | some l =>
    rw [e] at h
    simp only [Bool.not_eq_true'] at h
    simp only [Option.map_some, h]
end
end PySem.W
namespace DL
open PySem PySem.Spec PyProof.Rows L2 He
section
variable {X : Cx} {n : Nat} {f : Addr} {fd : FuncData} {ps : List Str} {sp : Sp} {E : XK} {A : Around}
/-- the own def is called from within a builtin -/
theorem call_in (F : FnOg X.prog X.w X.K X.mg X.base (L2.CX X.prog X.w) n f fd ps sp) (gd : A.guards = some []) (sb : Sub X n A) (hb : Binds X.K fd ps []) (hx : Passes (L2.CX X.prog X.w) X E) {pins : List (Addr × Obj)} {σ : L2.St} {H : Hp} {s : Shared} {us : List Value} {vs : List V} {Q : VK}
    (I : Inv X pins σ H s) (r : Vals vs us) (h : sp vs H Q E) : wpAny (model X.prog X.w) A (call (.ref f) us) (EP X pins σ Q) X.xe s := by
  have e0 : Env0 X.prog X.w X.K X.mg X.base A X.stack s H := by
    have e := I.env0
    exact ⟨by rw [sb.fr]; exact e.frames, e.mod, e.bs, e.bsz, e.funs, e.frf, e.hok, e.bare⟩
  have hl := F.len _ _ _ _ h
  have hl' : (us ++ []).length = ps.length := by rw [List.append_nil, ← Paired.length r]; exact hl
  refine wpAny_call (codeAny_mono (F.run A X.stack s H ⟨us, []⟩ us vs Q E gd sb.room e0 (by
    have := hb s us I.kIn hl'
    simpa using this) r h) fun r s' hq => ?_)
  cases r with
  | error e => exact hx pins σ H s e s' I hq
  | ok fl =>
    cases fl with
    | ret w => exact I.after hq
    | next => exact False.elim hq
    | brk => exact False.elim hq
    | cont => exact False.elim hq
end
/-- what the written part says of a class with an own == -/
structure EqT (K : PySem.W.Frag) (C : Addr) : Prop where
  hm : PySem.W.mroIn K C (.type "object") = some true
  ne : PySem.W.findIn K (.ref C) "__ne__" = some (some (.builtin "object.__ne__"))
  b0 : PySem.W.subIn K (.type "NoneType") (.ref C) = some false
  b1 : PySem.W.subIn K (.type "bool") (.ref C) = some false
  b2 : PySem.W.subIn K (.type "int") (.ref C) = some false
  b3 : PySem.W.subIn K (.type "str") (.ref C) = some false
  b4 : PySem.W.subIn K (.type "tuple") (.ref C) = some false
  b5 : PySem.W.subIn K (.type "list") (.ref C) = some false
  b6 : PySem.W.subIn K (.type "dict") (.ref C) = some false
  cl : ClsT K C
/-- right values of such a == -/
def eqR (C : Nat) (xs : List Nat) (d : D) (μ : Store) : Bool := match d with
  | .er C' _ _ => xs.contains C'
  | d => match typeD μ d with
    | some (.b n) => ["NoneType", "bool", "int", "str", "tuple", "list", "dict"].contains n
    | some (.c C') => C' == C
    | none => false
structure EqX (G : Cf) (C : Nat) (xs : List Nat) : Prop where
  ok : ∀ c, c ∈ xs → PySem.W.subIn G.K (.ref (G.ca c)) (.ref (G.ca C)) = some false
def asBl : Res D → Option (Bool × Store)
  | .ok (.bl b) μ => some (b, μ)
  | _ => none
def oEqO (C : Nat) (xs : List Nat) (g : FF) : O2 := fun d e μ => if isIns C "__eq__" d μ = true then (if eqR C xs e μ = true then (asBl (g [d, e] μ)).map fun r => (.bl r.1, r.2) else none) else oEq d e μ
def oNeO (C : Nat) (xs : List Nat) (g : FF) : O2 := fun d e μ => if isIns C "__eq__" d μ = true then (if eqR C xs e μ = true then (asBl (g [d, e] μ)).map fun r => (.bl (!r.1), r.2) else none) else oNe d e μ
section
variable {G : Cf} {X : Cx} {W : XK} {k j C : Nat} {qual : Str} {st : Stmt} {ps : List Str} {g : FF} {xs : List Nat}
theorem eqR_ok {w : Wd} {H : Hp} {e : D} {y : V} {u : Value} {pins : List (Addr × Obj)} {σV : L2.St} {s : Shared} (hK : X.K = G.K) (T : EqT G.K (G.ca C)) (TX : EqX G C xs) (I : Inv X pins σV H s) (S : G.Stw w H) (r : G.Rep w e y) (ru : RelV y u) (h : eqR C xs e w.μ = true) :
    ∃ tb, PySem.W.Looks (model X.prog X.w) s.heap (typeOf u) tb ∧ PySem.W.notFirst G.K (G.ca C) tb = true := by
  have fromT : ∀ {a : Ty}, typeD w.μ e = some a → (∀ C', a = .c C' → C' = C) → PySem.W.Looks (model X.prog X.w) s.heap (typeOf u) (G.tv a) := fun {a} ht hc => by
    obtain ⟨P, Z, p, _⟩ := kit_of I ru (by rw [hK]; exact typeD_ok S r ht (fun C' e' => by rw [hc C' e']; exact T.cl))
    exact Z.ty _ _ I.kIn p
  have base : ∀ {n : String}, typeD w.μ e = some (.b n) → ["NoneType", "bool", "int", "str", "tuple", "list", "dict"].contains n = true → ∃ tb, PySem.W.Looks (model X.prog X.w) s.heap (typeOf u) tb ∧ PySem.W.notFirst G.K (G.ca C) tb = true := fun {n} ht hn => by
    refine ⟨_, fromT ht (fun _ e => by cases e), ?_⟩
    have : PySem.W.subIn G.K (.type n) (.ref (G.ca C)) = some false := by
      simp only [List.contains_cons, List.contains_nil, Bool.or_false, Bool.or_eq_true, beq_iff_eq] at hn
      rcases hn with rfl | rfl | rfl | rfl | rfl | rfl | rfl
      · exact T.b0
      · exact T.b1
      · exact T.b2
      · exact T.b3
      · exact T.b4
      · exact T.b5
      · exact T.b6
    show (_ || PySem.W.subIn G.K (.type n) (.ref (G.ca C)) == some false) = true
    rw [this]; simp
  unfold eqR at h
  split at h
  · rename_i C' f d
    simp only [Cf.Rep, Rep] at r
    obtain ⟨a, dx, z, rfl, h1, h2, h3⟩ := r
    cases (show u = Value.ref a from ru)
    obtain ⟨t1, ho⟩ := exo_at I.hok (S.ex _ _ h1)
    refine ⟨.ref (G.ca C'), ?_, ?_⟩
    · intro A Q E s' k q
      exact wpAny_typeOf_ref (k _ _ ho) q
    · have := TX.ok C' (List.contains_iff_mem.mp h)
      show (_ || PySem.W.subIn G.K (.ref (G.ca C')) (.ref (G.ca C)) == some false) = true
      rw [this]; simp
  · split at h
    · rename_i n ht
      exact base ht h
    · rename_i C' ht
      have e : C' = C := by simpa using h
      subst e
      refine ⟨_, fromT ht (fun C' e => by cases e; rfl), ?_⟩
      show (_ == _ || _) = true
      rw [show G.tv (.c C') = Value.ref (G.ca C') from rfl]; simp
    · cases h
theorem op_EqO (c : GX G X W k) (F : MeG G X.prog X.w X.mg X.base C "__eq__" qual st j ps g) (hj : j ≤ k) (hp : ps.length = 2) (T : EqT G.K (G.ca C)) (TX : EqX G C xs) : OpR X (compareOp .Eq) (r2O G (oEqO C xs g)) := by
  intro pins s σ H x y v u Q I rx ry h
  obtain ⟨w, d, e, S, rd, re, A⟩ := h
  unfold oEqO at A
  split at A
  · rename_i hi
    split at A
    · rename_i hr
      obtain ⟨f, fd, F0, hM, hC, hb, Fo⟩ := F.ex
      have hK := c.K
      obtain ⟨a, dx, fs, rfl, ha, hn⟩ := isIns_ok S rd hi
      cases (show v = Value.ref a from rx)
      obtain ⟨mA, O, _⟩ := ins_get I.hok ha
      obtain ⟨od, J, _⟩ := O.look
      obtain ⟨tb, hl, hnf⟩ := eqR_ok hK T TX I S re ry hr
      obtain ⟨m, hF⟩ := I.fr
      have rm := c.room.mono hj
      refine PySem.W.cmp_K (op := .Eq) (tb := tb) rm.units0 hF I.ok.mod.kin J hl (by rw [hK]; exact hnf) (by rw [hK]; exact hM.at_) (by rw [hK]; exact hM.fn) ?_
      cases hg : asBl (g [d, e] w.μ) with
      | none => rw [hg] at A; exact A.elim
      | some q =>
        obtain ⟨b, μ'⟩ := q
        rw [hg] at A
        have eg : g [d, e] w.μ = .ok (.bl b) μ' := by
          unfold asBl at hg
          split at hg
          · rename_i h1; cases hg; exact h1
          · cases hg
        have hsp : spD G ps.length g [V.ref a, y] H (fun z H' => z = .bl b ∧ Q z H') W := by
          refine ⟨by rw [hp]; rfl, [d, e], w, S, Reps.cons rd (Reps.cons re Reps.nil), ?_⟩
          rw [eg]
          intro w' H' z e' l' S' r'
          rw [rep_bool] at r'
          subst r'
          exact ⟨rfl, A w' H' _ e' l' S' (rep_bool.mpr rfl)⟩
        have rv : Vals [V.ref a, y] [Value.ref a, u] := .cons rfl (.cons ry .nil)
        refine wpAny_mono (call_in (A := X.A) (E := W) (sp := spD G ps.length g) (by rw [hK]; exact Fo) c.gd ⟨rm, rfl⟩ (by rw [hK]; exact hb) c.passes I rv hsp) (fun r s' ⟨z, H', I', rz, ez, q⟩ => ?_) fun _ _ z => z
        · subst ez
          cases rz
          exact ⟨.bl b, H', I', rfl, q⟩
    · exact A.elim
  · exact op_Eq c.K c.hu pins s σ H x y v u Q I rx ry ⟨w, d, e, S, rd, re, A⟩
theorem op_NeO (c : GX G X W k) (F : MeG G X.prog X.w X.mg X.base C "__eq__" qual st j ps g) (hj : j + 1 ≤ k) (hp : ps.length = 2) (T : EqT G.K (G.ca C)) (TX : EqX G C xs) : OpR X (compareOp .NotEq) (r2O G (oNeO C xs g)) := by
  intro pins s σ H x y v u Q I rx ry h
  obtain ⟨w, d, e, S, rd, re, A⟩ := h
  unfold oNeO at A
  split at A
  · rename_i hi
    split at A
    · rename_i hr
      obtain ⟨f, fd, F0, hM, hC, hb, Fo⟩ := F.ex
      have hK := c.K
      obtain ⟨a, dx, fs, rfl, ha, hn⟩ := isIns_ok S rd hi
      cases (show v = Value.ref a from rx)
      obtain ⟨mA, O, _⟩ := ins_get I.hok ha
      obtain ⟨od, J, _⟩ := O.look
      obtain ⟨tb, hl, hnf⟩ := eqR_ok hK T TX I S re ry hr
      have rm := c.room.mono hj
      refine PySem.W.ne_own (tb := tb) (by have := c.hu; omega) I.kIn J (by rw [hK]; exact T.hm) hl (by rw [hK]; exact hnf) (by rw [hK]; exact hM.at_) (by rw [hK]; exact hM.fn) (by rw [hK]; exact T.ne) ?_
      cases hg : asBl (g [d, e] w.μ) with
      | none => rw [hg] at A; exact A.elim
      | some q =>
        obtain ⟨b, μ'⟩ := q
        rw [hg] at A
        have eg : g [d, e] w.μ = .ok (.bl b) μ' := by
          unfold asBl at hg
          split at hg
          · rename_i h1; cases hg; exact h1
          · cases hg
        have hsp : spD G ps.length g [V.ref a, y] H (fun z H' => z = .bl b ∧ Q (.bl (!b)) H') W := by
          refine ⟨by rw [hp]; rfl, [d, e], w, S, Reps.cons rd (Reps.cons re Reps.nil), ?_⟩
          rw [eg]
          intro w' H' z e' l' S' r'
          rw [rep_bool] at r'
          subst r'
          exact ⟨rfl, A w' H' _ e' l' S' (rep_bool.mpr rfl)⟩
        have rv : Vals [V.ref a, y] [Value.ref a, u] := .cons rfl (.cons ry .nil)
        refine wpAny_mono (call_in (A := X.A.in1) (E := W) (sp := spD G ps.length g) (by rw [hK]; exact Fo) c.gd (Sub.in1 ⟨rm, rfl⟩) (by rw [hK]; exact hb) c.passes I rv hsp) (fun r s' ⟨z, H', I', rz, ez, q⟩ => ?_) fun _ _ z => z
        · subst ez
          cases rz
          exact ⟨b, rfl, .bl (!b), H', I', rfl, q⟩
    · exact A.elim
  · exact op_Ne c.K c.hu pins s σ H x y v u Q I rx ry ⟨w, d, e, S, rd, re, A⟩
end
end DL
/-! text DL28 -/
namespace DL
open PySem PySem.Spec PyProof.Rows L2

/-! ### dicts: d[k], k in d, d[k] = v -/
def valD {κ : Type} [DecidableEq κ] (kvs : List (κ × D)) (k : κ) : Option D := (kvs.find? fun p => decide (p.1 = k)).map (·.2)
def getPK (μ : Store) : D → Option (List Key × List D)
  | .dK ks xs => some (ks, xs)
  | .loc n => match μ[n]? with
    | some (.dK ks xs) => some (ks, xs)
    | _ => none
  | _ => none
def getPT (μ : Store) : D → Option (List (List Key) × List D)
  | .dT ks xs => some (ks, xs)
  | .loc n => match μ[n]? with
    | some (.dT ks xs) => some (ks, xs)
    | _ => none
  | _ => none
def dgetT (μ : Store) (d : D) (es : List D) : Option (Option D) := match es.mapM keyD, getPT μ d with
  | some k, some (ks, xs) => some (valD (ks.zip xs) k)
  | _, _ => none
def dgetK (μ : Store) (d i : D) : Option (Option D) := match keyD i, getPK μ d with
  | some k, some (ks, xs) => some (valD (ks.zip xs) k)
  | _, _ => none
/-- what the dict d has at the key i -/
def dget (μ : Store) (d i : D) : Option (Option D) := match i with
  | .tup es => dgetT μ d es
  | i => dgetK μ d i
section
variable {G : Cf} {w : Wd} {H : Hp}
theorem val_rep {κ : Type} [DecidableEq κ] {k : κ} : ∀ {ks : List κ} {xs : List D} {vs : List V}, ks.length = vs.length → G.Reps w xs vs →
    (match valD (ks.zip xs) k with
    | none => valV (ks.zip vs) k = none
    | some e => ∃ u, valV (ks.zip vs) k = some u ∧ G.Rep w e u)
  | [], xs, vs, _, _ => by simp [valD, valV]
  | c :: ks, xs, [], h, _ => by simp at h
  | c :: ks, [], v :: vs, h, r => by simp [Cf.Reps, Reps] at r
  | c :: ks, x :: xs, v :: vs, h, r => by
    simp only [Cf.Reps, Reps] at r
    obtain ⟨u, us, e, rx, rr⟩ := r
    cases e
    have ih := val_rep (k := k) (ks := ks) (by simpa using h) rr
    unfold valD valV at ih ⊢
    simp only [List.zip_cons_cons, List.find?_cons]
    by_cases hc : c = k
    · simp only [hc, decide_true, Option.map_some]
      exact ⟨v, rfl, rx⟩
    · simp only [hc, decide_false]
      exact ih
theorem getPK_ok {d : D} {v : V} {ks : List Key} {xs : List D} (S : G.Stw w H) (r : G.Rep w d v) (h : getPK w.μ d = some (ks, xs)) : ∃ a vs, v = .ref a ∧ Rd H a (.dK (ks.zip vs)) ∧ ks.length = vs.length ∧ G.Reps w xs vs := by
  unfold getPK at h
  split at h
  · cases h
    simp only [Cf.Rep, Rep] at r
    obtain ⟨a, vs, rfl, q, z, rr⟩ := r
    exact ⟨a, vs, rfl, Same.rd S.ex q, z, rr⟩
  · split at h
    · rename_i e
      cases h
      simp only [Cf.Rep, Rep] at r
      obtain ⟨hn, rfl⟩ := r
      obtain ⟨_, vs, q, z, rr⟩ := S.ob _ _ e
      exact ⟨_, vs, rfl, .of q, z, rr⟩
    · cases h
  · cases h
theorem getPT_ok {d : D} {v : V} {ks : List (List Key)} {xs : List D} (S : G.Stw w H) (r : G.Rep w d v) (h : getPT w.μ d = some (ks, xs)) : ∃ a vs, v = .ref a ∧ Rd H a (.dT (ks.zip vs)) ∧ ks.length = vs.length ∧ G.Reps w xs vs := by
  unfold getPT at h
  split at h
  · cases h
    simp only [Cf.Rep, Rep] at r
    obtain ⟨a, vs, rfl, q, z, rr⟩ := r
    exact ⟨a, vs, rfl, Same.rd S.ex q, z, rr⟩
  · split at h
    · rename_i e
      cases h
      simp only [Cf.Rep, Rep] at r
      obtain ⟨hn, rfl⟩ := r
      obtain ⟨_, vs, q, z, rr⟩ := S.ob _ _ e
      exact ⟨_, vs, rfl, .of q, z, rr⟩
    · cases h
  · cases h
theorem keyDs_ok : ∀ {es : List D} {vs : List V} {ks : List Key}, G.Reps w es vs → es.mapM keyD = some ks → vs = ks.map kV
  | [], vs, ks, r, h => by
    simp at h; subst h
    simpa [Cf.Reps, Reps] using r
  | e :: es, vs, ks, r, h => by
    simp only [Cf.Reps, Reps] at r
    obtain ⟨v, us, rfl, rv, rr⟩ := r
    rw [List.mapM_cons] at h
    cases hk : keyD e with
    | none => rw [hk] at h; cases h
    | some k =>
      rw [hk] at h
      cases hr : es.mapM keyD with
      | none => rw [hr] at h; cases h
      | some kr =>
        rw [hr] at h
        cases h
        rw [List.map_cons, ← keyDs_ok rr hr, keyD_ok rv hk]
def DgR (G : Cf) (w : Wd) (o : Option D) (r : Option V) : Prop := match o with
  | none => r = none
  | some e => ∃ u, r = some u ∧ G.Rep w e u
theorem dgetK_ok {d i : D} {v y : V} {o : Option D} (S : G.Stw w H) (rd : G.Rep w d v) (ri : G.Rep w i y) (h : dgetK w.μ d i = some o) : ∃ a r, v = .ref a ∧ DGet H a y r ∧ DgR G w o r := by
  unfold dgetK at h
  cases hk : keyD i with
  | none => rw [hk] at h; cases h
  | some k =>
    cases hd : getPK w.μ d with
    | none => rw [hk, hd] at h; cases h
    | some q =>
      obtain ⟨ks, xs⟩ := q
      rw [hk, hd] at h
      cases h
      obtain ⟨a, vs, rfl, q, z, rr⟩ := getPK_ok S rd hd
      exact ⟨a, valV (ks.zip vs) k, rfl, .inl ⟨_, k, q, keyD_ok ri hk, rfl⟩, val_rep z rr⟩
theorem dget_ok {d i : D} {v y : V} {o : Option D} (S : G.Stw w H) (rd : G.Rep w d v) (ri : G.Rep w i y) (h : dget w.μ d i = some o) : ∃ a r, v = .ref a ∧ DGet H a y r ∧ DgR G w o r := by
  cases i with
  | tup es =>
    have h : dgetT w.μ d es = some o := h
    unfold dgetT at h
    cases hk : es.mapM keyD with
    | none => rw [hk] at h; cases h
    | some k =>
      cases hd : getPT w.μ d with
      | none => rw [hk, hd] at h; cases h
      | some q =>
        obtain ⟨ks, xs⟩ := q
        rw [hk, hd] at h
        cases h
        obtain ⟨a, vs, rfl, q, z, rr⟩ := getPT_ok S rd hd
        obtain ⟨b, us, rfl, qb, rb⟩ := getT_ok S ri rfl
        have e := keyDs_ok rb hk
        subst e
        exact ⟨a, valV (ks.zip vs) k, rfl, .inr ⟨_, k, b, q, rfl, qb, rfl⟩, val_rep z rr⟩
  | _ => exact dgetK_ok S rd ri h
end
def oInD : O2 := fun d e μ => match dget μ e d with
  | some o => some (.bl o.isSome, μ)
  | none => oIn d e μ
def oNinD : O2 := fun d e μ => match dget μ e d with
  | some o => some (.bl (!o.isSome), μ)
  | none => oNin d e μ
def fDg (fo fi : EF) : EF := fun σ μ => (fo σ μ).bind fun d μ => (fi σ μ).bind fun i μ => match dget μ d i with
  | some (some e) => .ok e μ
  | _ => .stuck
section
variable {G : Cf} {X : Cx} {W : XK} {o i e : Expr} {fo fi fe : EF} {pos p : Pos}
theorem op_InD (hK : X.K = G.K) (hu : X.A.units + 64 < cLine) : OpR X (compareOp .In) (r2O G oInD) := by
  intro pins s σ H x y v u Q I rx ry h
  obtain ⟨w, d, e, S, rd, re, A⟩ := h
  unfold oInD at A
  split at A
  · rename_i o ho
    obtain ⟨a, r, rfl, g, hm⟩ := dget_ok S re rd ho
    cases (show u = Value.ref a from ry)
    have er : r.isSome = o.isSome := by
      cases o with
      | none => rw [show r = none from hm] <;> rfl
      | some e => obtain ⟨u, rfl, _⟩ := hm; rfl
    exact d_in (by omega) I g rx fun s3 I3 => ⟨.bl r.isSome, H, I3, rfl, A.here S (rep_bool.mpr (by rw [er]))⟩
  · exact op_In hK pins s σ H x y v u Q I rx ry ⟨w, d, e, S, rd, re, A⟩
theorem op_NinD (hK : X.K = G.K) (hu : X.A.units + 64 < cLine) : OpR X (compareOp .NotIn) (r2O G oNinD) := by
  intro pins s σ H x y v u Q I rx ry h
  obtain ⟨w, d, e, S, rd, re, A⟩ := h
  unfold oNinD at A
  split at A
  · rename_i o ho
    obtain ⟨a, r, rfl, g, hm⟩ := dget_ok S re rd ho
    cases (show u = Value.ref a from ry)
    have er : r.isSome = o.isSome := by
      cases o with
      | none => rw [show r = none from hm] <;> rfl
      | some e => obtain ⟨u, rfl, _⟩ := hm; rfl
    exact d_notIn (by omega) I g rx fun s3 I3 => ⟨.bl (!r.isSome), H, I3, rfl, A.here S (rep_bool.mpr (by rw [er]))⟩
  · exact op_Nin hK pins s σ H x y v u Q I rx ry ⟨w, d, e, S, rd, re, A⟩
theorem d_dg (hu : X.A.units + 64 < cLine) (ho : DE G X W o fo) (hi : DE G X W i fi) (hs : NoSl i := by exact fun _ _ => rfl) : DE G X W (.Subscript o i pos) (fDg fo fi) := by
  refine peI (pe_dget (by omega) ho hi hs) fun σV H Q h => ?_
  obtain ⟨σ, w, S, R, A⟩ := h
  refine ⟨σ, w, S, R, (After.bind (R := G.Rep) A).mono fun v H1 ⟨w1, d, l1, S1, rv, A1⟩ => ?_⟩
  refine ⟨σ, w1, S1, R.mono l1, (After.bind (R := G.Rep) A1).mono fun y H2 ⟨w2, j, l2, S2, ry, A2⟩ => ?_⟩
  split at A2
  · rename_i e he
    obtain ⟨a, r, rfl, g, u, rfl, ru⟩ := dget_ok S2 (Rep.mono l2 _ _ rv) ry he
    exact ⟨a, u, rfl, g, A2.now S2 ru⟩
  · exact A2.elim
/-- d[k] = v of a mutable dict -/
def putD2 (ks : List Key) (xs : List D) (k : Key) (x : D) : List Key × List D := ((putP (ks.zip xs) k x).map (·.1), (putP (ks.zip xs) k x).map (·.2))
def setDk (o i d : D) (μ : Store) : Option Store := match o, keyD i with
  | .loc n, some k => match μ[n]? with
    | some (.dK ks xs) => if ks.length = xs.length ∧ ks.length < cap then some (μ.set n (.dK (putD2 ks xs k d).1 (putD2 ks xs k d).2)) else none
    | _ => none
  | _, _ => none
def sSetD (fo fi fe : EF) : SF := fun σ μ => sBind (fe σ μ) σ fun d μ => sBind (fo σ μ) σ fun o μ => sBind (fi σ μ) σ fun i μ => match setDk o i d μ with
  | some μ' => .next σ μ'
  | none => .stuck
theorem s_setD (hu : X.A.units + 64 < cLine) (he : DE G X W e fe) (ho : DE G X W o fo) (hi : DE G X W i fi) (hs : swapsWith e (some (.Subscript o i p)) pos.line X.env = pure false := by rfl) :
    DS G X W (.Assign [.Subscript o i p] e pos) (sSetD fo fi fe) := by
  refine psI (ps_dput (by omega) ho hi he hs) fun E σV H h => ?_
  obtain ⟨σ, w, S, R, A⟩ := h
  refine ⟨σ, w, S, R, (AfS.bind (R := G.Rep) A R).mono fun v H1 ⟨w1, d, l1, S1, rv, R1, A1⟩ => ?_⟩
  refine ⟨σ, w1, S1, R1, (AfS.bind (R := G.Rep) A1 R1).mono fun ov H2 ⟨w2, od, l2, S2, ro, R2, A2⟩ => ?_⟩
  refine ⟨σ, w2, S2, R2, (AfS.bind (R := G.Rep) A2 R2).mono fun iv H3 ⟨w3, jd, l3, S3, ri, R3, A3⟩ => ?_⟩
  have ro3 := Rep.mono l3.x _ _ ro
  have rv3 := Rep.mono (l2.trans l3).x _ _ rv
  cases q : setDk od jd d w3.μ with
  | none => rw [q] at A3; exact A3.elim
  | some μ' =>
    rw [q] at A3
    unfold setDk at q
    split at q
    · rename_i n k hk _q3
      split at q
      · rename_i ks xs e
        split at q
        · rename_i hz
          cases q
          simp only [Cf.Rep, Rep] at ro3
          obtain ⟨hn, rfl⟩ := ro3
          obtain ⟨_, vs, ho, hl, rr⟩ := S3.ob _ _ e
          have kr : KR G w3 (ks.zip xs) (ks.zip vs) := by
            refine ⟨by rw [List.map_fst_zip (by omega), List.map_fst_zip (by omega)], ?_⟩
            rw [List.map_snd_zip (by omega), List.map_snd_zip (by omega)]
            exact rr
          have kp := kr.put k rv3
          have ev : putK (ks.zip vs) k v = (putD2 ks xs k d).1.zip ((putK (ks.zip vs) k v).map (·.2)) := kp.zip
          have r2 : G.Reps w3 (putD2 ks xs k d).2 ((putK (ks.zip vs) k v).map (·.2)) := kp.2
          have lz : (putD2 ks xs k d).1.length = ((putK (ks.zip vs) k v).map (·.2)).length := by
            rw [← Reps.len r2]; simp [putD2]
          have ro4 : RepO G.K G.ca w3 (.dK (putD2 ks xs k d).1 (putD2 ks xs k d).2) (some (.dK (putK (ks.zip vs) k v))) := ⟨_, congrArg (fun z => some (HO.dK z)) ev, lz, r2⟩
          obtain ⟨S4, l4⟩ := S3.put (ob := .dK (putD2 ks xs k d).1 (putD2 ks xs k d).2) (o := .dK (putK (ks.zip vs) k v)) hn ro4
          refine ⟨w3.m n, _, rfl, .inl ⟨ks.zip vs, k, ho, keyD_ok ri hk, ?_, rfl⟩, A3 _ _ _ rfl l4 S4 (R3.mono l4)⟩
          rw [List.length_zip, ← cap_eq]
          omega
        · cases q
      · cases q
    · cases q
/-! ### methods of texts -/
def fSt (op : OM) (fo : EF) (ff : AF) : EF := fun σ μ => (fo σ μ).bind fun o μ => match o with
  | .str a => (ff σ μ).bind fun ds μ => ofO (op (.str a) ds μ)
  | _ => .stuck
theorem d_st0 {op : OM} {name : Str} {id : String} {apos : Pos} (hm : MtR X id (rMO G op)) (slot : Slot "str" name id) (hty : typeOf (.builtin id) = pure (.type "method_descriptor")) (ho : DE G X W o fo)
    (hbase : attributeBase o name X.env (eval o X.env) = eval o X.env := by rfl) (hline : (apos.endLine == pos.line) = true := by rfl) : DE G X W (.Call (.Attribute o name apos) [] [] pos) (fSt op fo aNil) := by
  refine peI (pe_bm0 PySem.F.plainAttrs_str slot hty hm ho hbase hline) fun σV H Q h => ?_
  obtain ⟨σ, w, S, R, A⟩ := h
  refine ⟨σ, w, S, R, (After.bind (R := G.Rep) A).mono fun x H1 ⟨w1, d, l1, S1, rx, A1⟩ => ?_⟩
  split at A1
  · rename_i a
    have ex := rep_str.mp rx
    subst ex
    exact ⟨rfl, w1, .str a, [], S1, rx, Reps.nil, AftO.of A1⟩
  · exact A1.elim
theorem d_st {op : OM} {name : Str} {id : String} {apos : Pos} {es : List Expr} {ff : AF} (hm : MtR X id (rMO G op)) (slot : Slot "str" name id) (hty : typeOf (.builtin id) = pure (.type "method_descriptor")) (ho : DE G X W o fo) (ha : DA G X W (e :: es) ff)
    (hbase : attributeBase o name X.env (eval o X.env) = eval o X.env := by rfl)
    (hfew : ((backTo pos (starEach (e :: es) X.env)).all (fun x => !x.1) && (backToKw pos (keywordEach [] X.env)).all (fun x => x.1.isSome)
      && decide ((e :: es).length + ([] : List Keyword).length + (if ([] : List Keyword).isEmpty then 0 else 1) < 30)) = true := by rfl)
    (hline : (apos.endLine == pos.line) = true := by rfl) (hs : starEach (e :: es) X.env = (false, eval e X.env) :: starEach es X.env := by rfl) (hplain : (backTo pos (starEach es X.env)).any (·.1) = false := by rfl) :
    DE G X W (.Call (.Attribute o name apos) (e :: es) [] pos) (fSt op fo ff) := by
  refine peI (pe_bm PySem.F.plainAttrs_str slot hty hm ho ha hbase hfew hline hs hplain) fun σV H Q h => ?_
  obtain ⟨σ, w, S, R, A⟩ := h
  refine ⟨σ, w, S, R, (After.bind (R := G.Rep) A).mono fun x H1 ⟨w1, d, l1, S1, rx, A1⟩ => ?_⟩
  split at A1
  · rename_i a
    have ex := rep_str.mp rx
    subst ex
    refine ⟨rfl, σ, w1, S1, R.mono l1, (After.bind (R := G.Reps) A1).mono fun xs H2 ⟨w2, ds, l2, S2, rs, A2⟩ => ?_⟩
    exact ⟨w2, .str a, ds, S2, Rep.mono l2 _ _ rx, rs, AftO.of A2⟩
  · exact A1.elim
def oUpper : OM := fun o ds μ => match o, ds with
  | .str a, [] => if a.length ≤ 1000 then some (.str (Txt.upper a), μ) else none
  | _, _ => none
theorem mt_Upper : MtR X "str.upper" (rMO G oUpper) := by
  refine mtI mt_upper fun x xs H Q h => ?_
  obtain ⟨w, o, ds, S, ro, rs, A⟩ := h
  unfold oUpper at A
  split at A
  · have ex := rep_str.mp ro
    have hx : xs = [] := by simpa [Cf.Reps, Reps] using rs
    split at A
    · rename_i a hz
      exact ⟨a, ex, hx, by omega, A.here S (rep_str.mpr rfl)⟩
    · exact A.elim
  · exact A.elim
/-- str(i), str(text) -/
def oStr : OL := fun ds μ => match ds with
  | [.int i] => if i.natAbs.log2 < 1920 then some (.str (toString i), μ) else none
  | [.str a] => some (.str a, μ)
  | _ => none
theorem cr_Str : CallR X (.type "str") (rLO G oStr) := by
  refine crI (CallR.or call_str_int SkE.call_str_str) fun vs H Q h => ?_
  obtain ⟨w, ds, S, r, A⟩ := h
  unfold oStr at A
  split at A
  · obtain ⟨v, rfl, rv⟩ := r.one
    have := rep_int.mp rv
    subst this
    split at A
    · rename_i i hz
      exact .inl ⟨i, rfl, hz, A.here S (rep_str.mpr rfl)⟩
    · exact A.elim
  · obtain ⟨v, rfl, rv⟩ := r.one
    have := rep_str.mp rv
    subst this
    exact .inr ⟨_, rfl, A.here S (rep_str.mpr rfl)⟩
  · exact A.elim
end
end DL
/-! text DL29 -/
namespace DL
open PySem PySem.Spec PyProof.Rows L2
/-! ### isinstance(e, C) in a suite that holds e -/
def rIsS (K : PySem.W.Frag) (a : Addr) (cls : Value) (dd : Option Addr) : List V → Hp → VK → Prop := fun xs H Q => ∃ (C p : Addr) (fs : List (Str × V)) (c : V) (u : Value) (b : Bool), cls = .ref C ∧ dd = some p ∧ H p = some (.xd fs) ∧ xs = [.ref a, c] ∧ ClsV c u ∧ ErT K C ∧
  PySem.W.kitOne K (.ref C) u = some b ∧ Q (.bl b) H
section
variable {G : Cf} {X : Cx} {a : Addr} {oe : Obj} {cls : Value} {d : Option Addr} {pn : List (Addr × Obj)}
theorem call_isS (hz : Zc cls d oe) (hf : ∃ vs, oe.data = .fields vs) : CallR (X.suite a ((a, oe) :: pn)) (.builtin "isinstance") (rIsS X.K a cls d) := by
  intro pins s σ H xs us Q I r h
  obtain ⟨C, p, fs, c, u, b, rfl, rfl, ed, rfl, k, T, e, q⟩ := h
  obtain ⟨u1, u2, rfl, r1, r2⟩ := vals2 r
  have e2 := k.eq r2
  subst e2
  cases (show u1 = Value.ref a from r1)
  obtain ⟨hget, _⟩ := I.pin (a, oe) (List.mem_append.mpr (.inl List.mem_cons_self))
  obtain ⟨vs, hv⟩ := hf
  have hx : ObjOk X.prog X.w H s.heap p (.xd fs) := I.hok p _ ed
  obtain ⟨mA, ⟨od, es, ep, hd, _⟩, _⟩ := hx
  have J : PySem.W.InstAt s.heap a oe C (some od) := by
    obtain ⟨oc, odx, oda, osl⟩ := oe
    obtain ⟨h1, h2⟩ := hz
    dsimp only at h1 h2 hv
    subst h1 h2 hv
    exact ⟨hget, rfl, rfl, hd⟩
  obtain ⟨cd, hc, _⟩ := PySem.W.any_some T.dct
  exact PySem.W.kia_one (PySem.W.kitx_exc (by rw [hc]; rfl) T.ga T.gt T.sub T.ha T.hn T.tk T.hm) I.kIn J e (fun z => nomatch z) fun tk => ⟨.bl b, H, I.tok tk, rfl, q⟩
def hIsi (te : Nat → Ty → Option Bool) (b : Ty) : IF1 := fun c dv => match dv with
  | some _ => (te c b).map .bl
  | none => none
theorem h_isi {te : Nat → Ty → Option Bool} {j C : Nat} {x y z : Str} {px py pz pos : Pos} (hK : X.K = G.K) (T : IsE G te) (hm : X.mg z = none) (hz0 : z = "isinstance") (hc : X.mg y = some (.ref (G.ca C))) (hz : Zc cls d oe) (hf : ∃ vs, oe.data = .fields vs)
    (hN : X.N[j]? = some x) (hv : Vis X.env.scope x) (hg : Gl X z := by rfl) (hgy : Gl X y := by rfl) (hd : (x == ("__debug__" : Str)) = false := by decide) (hcd : (x == ("__classdict__" : Str)) = false := by decide) (hdy : (y == ("__debug__" : Str)) = false := by decide)
    (h1 : starEach [.Name x px, .Name y py] X.env = (false, eval (.Name x px) X.env) :: starEach [.Name y py] X.env := by rfl) (h2 : starEach [.Name y py] X.env = (false, eval (.Name y py) X.env) :: starEach [] X.env := by rfl)
    (hpl : (backTo pos (starEach [.Name y py] X.env)).any (·.1) = false := by rfl) :
    PE (X.suite a ((a, oe) :: pn)) (.Call (.Name z pz) [.Name x px, .Name y py] [] pos) (tHV G (some j) (hIsi te (.c C)) a cls d) := by
  subst hz0
  refine peI (pe_callB (X := X.suite a ((a, oe) :: pn)) (id := "isinstance") (call_isS hz hf) hg hm rfl (pa_cons (pe_var (X := X.suite a ((a, oe) :: pn)) (i := j) hN hv hd hcd) (pa_cons (pe_glob (X := X.suite a ((a, oe) :: pn)) (v := .ref (G.ca C)) hgy hc rfl hdy) pa_nil h2) h1) (by decide) (by decide) h1 hpl) fun σV H Q ⟨w, c, dv, d1, F, e1, q⟩ => ?_
  unfold hIsi at e1
  cases dv with
  | none => cases e1
  | some dv' =>
    simp only [Option.map_eq_some_iff] at e1
    obtain ⟨b, hb, rfl⟩ := e1
    obtain ⟨E, k⟩ := T.ok c _ b hb
    obtain ⟨p, v, f, e2, e3, e4, e5⟩ := F.xv
    refine ⟨.ref a, F.sl j rfl, ?_⟩
    rw [hK]
    exact ⟨G.ca c, p, _, .ref (G.ca C), .ref (G.ca C), b, F.cl, e2, e4, rfl, .own _, E, k, q _ (rep_bool.mpr rfl)⟩
end
open He in
def eqTB (K : PySem.W.Frag) (C : Addr) : Bool := decide (PySem.W.mroIn K C (.type "object") = some true) && (eqO (PySem.W.findIn K (.ref C) "__ne__") (some (some (.builtin "object.__ne__"))) &&
  (["NoneType", "bool", "int", "str", "tuple", "list", "dict"].all (fun t => decide (PySem.W.subIn K (.type t) (.ref C) = some false)) && clsTB K C))
open He in
theorem eqTB_ok {K : PySem.W.Frag} {C : Addr} (h : eqTB K C = true) : EqT K C := by
  obtain ⟨h1, h⟩ := ba h
  obtain ⟨h2, h⟩ := ba h
  obtain ⟨h3, h4⟩ := ba h
  have q := fun t ht => of_decide_eq_true (List.all_eq_true.mp h3 t ht)
  exact ⟨of_decide_eq_true h1, eqO_ok h2, q _ (by simp), q _ (by simp), q _ (by simp), q _ (by simp), q _ (by simp), q _ (by simp), q _ (by simp), clsTB_ok h4⟩
def eqXB (G : Cf) (C : Nat) (xs : List Nat) : Bool := xs.all fun c => decide (PySem.W.subIn G.K (.ref (G.ca c)) (.ref (G.ca C)) = some false)
theorem eqXB_ok {G : Cf} {C : Nat} {xs : List Nat} (h : eqXB G C xs = true) : EqX G C xs := ⟨fun c hc => of_decide_eq_true (List.all_eq_true.mp h c hc)⟩
end DL
/-! text DL30 -/
/-! repr of lists that hold dicts -/
namespace DL
open PySem PySem.Spec PyProof.Rows L2
section
variable {prog : Program} {w : World} {h : Heap}
/-- v reads as d, and what repr tells of it when it is within others -/
def Sh (prog : Program) (w : World) (h : Heap) (v : Value) (d : PyData) : Prop := (∃ as, Reads h v d as) ∧ (d.showable = true → d.shown.length ≤ sizeLine → ∃ bs, ReadAtMost h d.depth bs ∧ ReprK prog w bs h d.depth v d.shown)
def ShA (prog : Program) (w : World) (h : Heap) (vs : List Value) (ds : List PyData) : Prop := (∃ as, ReadsAll h vs ds as) ∧ (PyData.showableAll ds = true → (∀ t ∈ PyData.shownAll ds, t.length ≤ sizeLine) →
  ∃ bs, ReadAtMost h (PyData.depthAll ds) bs ∧ ReprAllK prog w bs h (PyData.depthAll ds) vs (PyData.shownAll ds))
theorem Sh.of {v : Value} {d : PyData} {as : List Addr} (r : Reads h v d as) (ns : sysModules ∉ as) : Sh prog w h v d := ⟨⟨as, r⟩, fun h1 h2 => ReprK.of_reads r h1 (fun _ => ns) h2⟩
theorem ShA.nil : ShA prog w h [] [] := ⟨⟨[], .nil⟩, fun _ _ => ⟨[], (fun _ z => nomatch z), (by simp only [PyData.shownAll]; exact .nil)⟩⟩
theorem ShA.cons {v : Value} {vs : List Value} {d : PyData} {ds : List PyData} (a : Sh prog w h v d) (b : ShA prog w h vs ds) : ShA prog w h (v :: vs) (d :: ds) := by
  obtain ⟨⟨as, ra⟩, ka⟩ := a
  obtain ⟨⟨bs, rb⟩, kb⟩ := b
  refine ⟨⟨_, .cons ra rb⟩, fun h1 h2 => ?_⟩
  have h1' : d.showable = true ∧ PyData.showableAll ds = true := by simpa [PyData.showableAll] using h1
  have h2' : ∀ t, t = d.shown ∨ t ∈ PyData.shownAll ds → t.length ≤ sizeLine := fun t ht => h2 t (by simp only [PyData.shownAll]; exact List.mem_cons.mpr ht)
  obtain ⟨c1, m1, k1⟩ := ka h1'.1 (h2' _ (.inl rfl))
  obtain ⟨c2, m2, k2⟩ := kb h1'.2 fun t ht => h2' t (.inr ht)
  refine ⟨c1 ++ c2, ?_, ?_⟩
  · simp only [PyData.depthAll]
    exact (m1.mono (Nat.le_max_left _ _)).append (m2.mono (Nat.le_max_right _ _))
  · simp only [PyData.depthAll, PyData.shownAll]
    exact .cons ((k1.more fun b hb => List.mem_append.mpr (.inl hb)).level_le (Nat.le_max_left _ _)) (k2.more_le (fun b hb => List.mem_append.mpr (.inr hb)) (Nat.le_max_right _ _))
/-- what a list of such things shows -/
theorem ShA.listAt {a : Addr} {o : Obj} {vs : Array Value} {n : Nat} {xs : List PyData} (h1 : h.get? a = some o) (h2 : o.cls = .type "list") (h3 : o.data = .seq vs n) (k : ShA prog w h vs.toList xs) (hs : (PyData.list xs).showable = true) (hz : (PyData.list xs).shown.length ≤ sizeLine) :
    ∃ bs, ReadAtMost h (PyData.depthAll xs) bs ∧ a ∉ bs ∧ ReprAllK prog w bs h (PyData.depthAll xs) vs.toList (PyData.shownAll xs) ∧ (listText (PyData.shownAll xs)).length ≤ sizeLine := by
  obtain ⟨⟨as, r⟩, k⟩ := k
  have hz' : (listText (PyData.shownAll xs)).length ≤ sizeLine := by simpa only [PyData.shown] using hz
  obtain ⟨bs, m, q⟩ := k (by simpa [PyData.showable] using hs) fun t ht => Nat.le_trans (listText_mem_le ht) hz'
  exact ⟨bs, m, not_mem_of_deeper (.list h1 h2 h3 r) (by simp only [PyData.depth]; omega) m, q, hz'⟩
theorem Sh.list {a : Addr} {o : Obj} {vs : Array Value} {n : Nat} {xs : List PyData} (h1 : h.get? a = some o) (h2 : o.cls = .type "list") (h3 : o.data = .seq vs n) (k : ShA prog w h vs.toList xs) : Sh prog w h (.ref a) (.list xs) := by
  obtain ⟨as, r⟩ := k.1
  refine ⟨⟨_, .list h1 h2 h3 r⟩, fun hs hz => ?_⟩
  obtain ⟨bs, m, na, q, hz'⟩ := k.listAt h1 h2 h3 hs hz
  refine ⟨a :: bs, ReadAtMost.cons (.list h1 h2 h3 r) (by simp only [PyData.depth]; omega) m, ?_⟩
  simp only [PyData.depth, PyData.shown]
  obtain ⟨l⟩ := vs
  cases l with
  | nil =>
    have r : ReadsAll h [] xs _ := r
    cases r
    simp only [PyData.shownAll, listText_nil]
    exact ReprK.listEmpty h1 h2 h3
  | cons x l => exact ReprK.list h1 h2 h3 na (by simpa using q.length_eq) fun i y e => q.item i y (by simpa using e)
theorem ShA.tupAt {a : Addr} {o : Obj} {vs : Array Value} {n : Nat} {xs : List PyData} (h1 : h.get? a = some o) (h2 : o.cls = .type "tuple") (h3 : o.data = .seq vs n) (k : ShA prog w h vs.toList xs) (hs : (PyData.tuple xs).showable = true) (hz : (PyData.tuple xs).shown.length ≤ sizeLine) :
    ∃ bs, ReadAtMost h (PyData.depthAll xs) bs ∧ a ∉ bs ∧ ReprAllK prog w bs h (PyData.depthAll xs) vs.toList (PyData.shownAll xs) ∧ (tupleText (PyData.shownAll xs)).length ≤ sizeLine := by
  obtain ⟨⟨as, r⟩, k⟩ := k
  have hz' : (tupleText (PyData.shownAll xs)).length ≤ sizeLine := by simpa only [PyData.shown] using hz
  obtain ⟨bs, m, q⟩ := k (by simpa [PyData.showable] using hs) fun t ht => Nat.le_trans (tupleText_mem_le ht) hz'
  exact ⟨bs, m, not_mem_of_deeper (.tuple h1 h2 h3 r) (by simp only [PyData.depth]; omega) m, q, hz'⟩
theorem Sh.tup {a : Addr} {o : Obj} {vs : Array Value} {n : Nat} {xs : List PyData} (h1 : h.get? a = some o) (h2 : o.cls = .type "tuple") (h3 : o.data = .seq vs n) (k : ShA prog w h vs.toList xs) : Sh prog w h (.ref a) (.tuple xs) := by
  obtain ⟨as, r⟩ := k.1
  refine ⟨⟨_, .tuple h1 h2 h3 r⟩, fun hs hz => ?_⟩
  obtain ⟨bs, m, na, q, hz'⟩ := k.tupAt h1 h2 h3 hs hz
  refine ⟨a :: bs, ReadAtMost.cons (.tuple h1 h2 h3 r) (by simp only [PyData.depth]; omega) m, ?_⟩
  simp only [PyData.depth, PyData.shown]
  exact ReprK.tuple h1 h2 h3 na q
end
mutual
/-- data of lists, tuples, and dicts of nothing but texts and flat values -/
def toW (μ : Store) : Nat → D → Option PyData
  | _, .non => some .none
  | _, .bl b => some (.bool b)
  | _, .int i => some (.int i)
  | _, .str x => some (.str x)
  | n + 1, .tup xs => (toWs μ n xs).map .tuple
  | n + 1, .lst xs => (toWs μ n xs).map .list
  | _, .dK ks xs => dictP ks xs
  | n, .loc k => match μ[k]? with
    | some (.dK ks xs) => dictP ks xs
    | some (.lst xs) => match n with
      | 0 => none
      | n + 1 => (toWs μ n xs).map .list
    | _ => none
  | _, _ => none
def toWs (μ : Store) : Nat → List D → Option (List PyData)
  | _, [] => some []
  | n, x :: xs => match toW μ n x, toWs μ n xs with
    | some p, some ps => some (p :: ps)
    | _, _ => none
end
section
variable {G : Cf} {X : Cx} {w : Wd} {H : Hp} {s : Shared} {pins : List (Addr × Obj)} {σ : L2.St}
abbrev ShX (X : Cx) (s : Shared) := Sh X.prog X.w s.heap
abbrev ShAX (X : Cx) (s : Shared) := ShA X.prog X.w s.heap
theorem sh_flat {d : D} {v : V} {u : Value} {p : PyData} (r : G.Rep w d v) (ru : RelV v u) (e : flatP d = some p) : ShX X s u p := Sh.of (flatP_reads r ru e) (by simp)
mutual
theorem toW_sh (S : G.Stw w H) (I : Inv X pins σ H s) : ∀ (n : Nat) (d : D) (v : V) (u : Value) (p : PyData), G.Rep w d v → RelV v u → toW w.μ n d = some p → ShX X s u p
  | n, .non, v, u, p, r, ru, e => sh_flat r ru (by cases n <;> simpa [toW, flatP] using e)
  | n, .bl b, v, u, p, r, ru, e => sh_flat r ru (by cases n <;> simpa [toW, flatP] using e)
  | n, .int i, v, u, p, r, ru, e => sh_flat r ru (by cases n <;> simpa [toW, flatP] using e)
  | n, .str x, v, u, p, r, ru, e => sh_flat r ru (by cases n <;> simpa [toW, flatP] using e)
  | n + 1, .tup xs, v, u, p, r, ru, e => by
    simp only [toW, Option.map_eq_some_iff] at e
    obtain ⟨ps, e, rfl⟩ := e
    obtain ⟨a, vs, rfl, q, rr⟩ := getT_ok S r rfl
    obtain rfl : u = Value.ref a := ru
    obtain ⟨its, rv, ⟨o, ho, hc, m, hd⟩, _⟩ := I.tuple (.of q)
    exact Sh.tup ho hc hd (by simpa using toWs_sh S I n xs vs its ps rr rv e)
  | n + 1, .lst xs, v, u, p, r, ru, e => by
    simp only [toW, Option.map_eq_some_iff] at e
    obtain ⟨ps, e, rfl⟩ := e
    obtain ⟨a, vs, rfl, q, rr⟩ := getM_ok (xs := xs) S r rfl
    obtain rfl : u = Value.ref a := ru
    obtain ⟨its, rv, ⟨o, m, ho, hc, _, hd⟩, _⟩ := I.list (.of q)
    exact Sh.list ho hc hd (by simpa using toWs_sh S I n xs vs its ps rr rv e)
  | n, .dK ks xs, v, u, p, r, ru, e => by
    have e : dictP ks xs = some p := by cases n <;> simpa [toW] using e
    simp only [Cf.Rep, Rep] at r
    obtain ⟨a, vs, rfl, hd, hl, rr⟩ := r
    obtain rfl : u = Value.ref a := ru
    obtain ⟨as, q1, q2⟩ := dict_reads I (Same.rd S.ex hd) hl rr e
    exact Sh.of q1 q2
  | 0, .loc k, v, u, p, r, ru, e => by
    simp only [toW] at e
    split at e
    · rename_i ks xs ho
      simp only [Cf.Rep, Rep] at r
      obtain ⟨hk, rfl⟩ := r
      obtain rfl : u = Value.ref (w.m k) := ru
      obtain ⟨_, vs, h1, h2, h3⟩ := S.ob k _ ho
      obtain ⟨as, q1, q2⟩ := dict_reads I (.of h1) h2 h3 e
      exact Sh.of q1 q2
    · cases e
    · cases e
  | n + 1, .loc k, v, u, p, r, ru, e => by
    simp only [toW] at e
    split at e
    · rename_i ks xs ho
      simp only [Cf.Rep, Rep] at r
      obtain ⟨hk, rfl⟩ := r
      obtain rfl : u = Value.ref (w.m k) := ru
      obtain ⟨_, vs, h1, h2, h3⟩ := S.ob k _ ho
      obtain ⟨as, q1, q2⟩ := dict_reads I (.of h1) h2 h3 e
      exact Sh.of q1 q2
    · rename_i xs ho
      simp only [Option.map_eq_some_iff] at e
      obtain ⟨ps, e, rfl⟩ := e
      obtain ⟨a, vs, rfl, q, rr⟩ := getM_ok (xs := xs) S r (by simp only [getM, ho])
      obtain rfl : u = Value.ref a := ru
      obtain ⟨its, rv, ⟨o, m, ho', hc, _, hd⟩, _⟩ := I.list (.of q)
      exact Sh.list ho' hc hd (by simpa using toWs_sh S I n xs vs its ps rr rv e)
    · cases e
  | 0, .tup xs, v, u, p, r, ru, e => by simp [toW] at e
  | 0, .lst xs, v, u, p, r, ru, e => by simp [toW] at e
  | n, .ty x, v, u, p, r, ru, e => by cases n <;> simp [toW] at e
  | n, .rt x, v, u, p, r, ru, e => by cases n <;> simp [toW] at e
  | n, .rl x, v, u, p, r, ru, e => by cases n <;> simp [toW] at e
  | n, .dT x y, v, u, p, r, ru, e => by cases n <;> simp [toW] at e
  | n, .ins x y z, v, u, p, r, ru, e => by cases n <;> simp [toW] at e
  | n, .er x y z, v, u, p, r, ru, e => by cases n <;> simp [toW] at e
  | n, .ref x, v, u, p, r, ru, e => by cases n <;> simp [toW] at e
  | n, .cls x, v, u, p, r, ru, e => by cases n <;> simp [toW] at e
theorem toWs_sh (S : G.Stw w H) (I : Inv X pins σ H s) : ∀ (n : Nat) (xs : List D) (vs : List V) (us : List Value) (ps : List PyData), G.Reps w xs vs → Vals vs us → toWs w.μ n xs = some ps → ShAX X s us ps
  | n, [], vs, us, ps, r, ru, e => by
    simp only [toWs] at e; cases e
    simp only [Cf.Reps, Reps] at r; subst r
    cases ru
    exact ShA.nil
  | n, x :: xs, vs, us, ps, r, ru, e => by
    simp only [Cf.Reps, Reps] at r
    obtain ⟨v, vr, rfl, rv, rr⟩ := r
    simp only [toWs] at e
    split at e
    · rename_i p qs h1 h2
      cases e
      cases ru with
      | cons a b => exact ShA.cons (toW_sh S I n x v _ p rv a h1) (toWs_sh S I n xs vr _ qs rr b h2)
    · cases e
end
/-- the items of a list or a tuple -/
def topW (μ : Store) (d : D) : Option (Bool × List PyData) := match d with
  | .tup xs => (toWs μ 11 xs).map fun ps => (false, ps)
  | d => match getM μ d with
    | some xs => (toWs μ 11 xs).map fun ps => (true, ps)
    | none => none
def topP (q : Bool × List PyData) : PyData := if q.1 = true then .list q.2 else .tuple q.2
def reprD2 (μ : Store) (d : D) : Option Str := match reprD μ d with
  | some z => some z
  | none => match topW μ d with
    | some q => if okP (topP q) = true then some (topP q).shown else none
    | none => none
def oRepr2 : OL := fun ds μ => match ds with
  | [d] => (reprD2 μ d).map fun z => (.str z, μ)
  | _ => none
theorem cr_Repr2 (hK : X.K = G.K) (hg : X.A.guards = some []) (hu : X.A.units + 64 < cLine) : CallR X (.builtin "repr") (rLO G oRepr2) := by
  intro pins s σ H xs us Q I r h
  obtain ⟨w, ds, S, rs, A⟩ := h
  unfold oRepr2 at A
  split at A
  · rename_i d
    unfold reprD2 at A
    cases hr : reprD w.μ d with
    | some z =>
      rw [hr] at A
      refine cr_Repr hK hg hu pins s σ H xs us Q I r ⟨w, [d], S, rs, ?_⟩
      show AftO G w ((reprD w.μ d).map fun z => (.str z, w.μ)) Q
      rw [hr]
      exact A
    | none =>
      rw [hr] at A
      dsimp only at A
      obtain ⟨v, rfl, rv⟩ := rs.one
      cases r with
      | @cons _ u _ ur ru rt =>
      cases rt
      cases ht : topW w.μ d with
      | none => rw [ht] at A; exact A.elim
      | some q =>
        rw [ht] at A
        dsimp only at A
        split at A
        · rename_i hok
          have hok' := hok
          unfold okP at hok
          simp only [Bool.and_eq_true, decide_eq_true_eq] at hok
          obtain ⟨⟨h1, h2⟩, h3⟩ := hok
          have h3' : (topP q).shown.length ≤ sizeLine := sz_le h3
          have fin : ∀ h' t tk, (∀ b o, s.heap.get? b = some o → h'.get? b = some o) → EP X pins σ Q (.str (topP q).shown t) { s with heap := h', toks := tk } := fun h' t tk k =>
            ⟨.str (topP q).shown, H, I.kept (t' := tk) k, ⟨t, rfl⟩, A.here S (rep_str.mpr rfl)⟩
          have hl : ∀ {xs : List D} {ps : List PyData}, getM w.μ d = some xs → toWs w.μ 11 xs = some ps → q = (true, ps) → wpAny (model X.prog X.w) X.A (call (.builtin "repr") [u]) (EP X pins σ Q) X.xe s := fun {xs ps} hx hp eq => by
            subst eq
            obtain ⟨a, vs, rfl, qh, rr⟩ := getM_ok S rv hx
            obtain rfl : u = Value.ref a := ru
            obtain ⟨its, rvs, ⟨o, m, ho, hc, _, hd⟩, _⟩ := I.list (.of qh)
            have k : ShAX X s its.toArray.toList ps := by simpa using toWs_sh S I 11 xs vs its ps rr rvs hp
            obtain ⟨bs, mm, na, kk, hz⟩ := k.listAt ho hc hd h1 h3'
            have hdp : (PyData.list ps).depth = PyData.depthAll ps + 1 := by simp only [PyData.depth]
            have hu2 : X.A.units + 1 + (PyData.depthAll ps + 1) < cLine := by
              have : (PyData.list ps).depth ≤ 60 := h2
              omega
            refine call_repr_slot (by omega) (T := "list") ⟨o, ho, hc⟩ F.slot_list_repr.toG ?_
            have fin' : ∀ h' t tk, (∀ b o, s.heap.get? b = some o → h'.get? b = some o) → EP X pins σ Q (.str (listText (PyData.shownAll ps)) t) { s with heap := h', toks := tk } := fun h' t tk k => by
              have := fin h' t tk k
              simpa only [topP, if_true, PyData.shown] using this
            cases hi : its with
            | nil =>
              subst hi
              obtain ⟨⟨as, rd⟩, _⟩ := k
              have rd : ReadsAll s.heap [] ps as := rd
              cases rd
              simp only [PyData.shownAll, listText_nil] at fin'
              exact call_list_repr_empty ⟨o, ho, hc⟩ ho hd ⟨_, _, rfl, fin' s.heap _ _ fun _ _ e => e⟩
            | cons x l =>
              subst hi
              exact call_list_reprK (A := X.A.in1) ho hc hd na (by simpa using kk.length_eq) (fun i y e => kk.item i y (by simpa using e)) hg (fun b _ => Clear.nil b) hu2 (fun _ _ e => e) (fun h' t tk k => ⟨_, _, rfl, fin' h' t tk k⟩) hz
          unfold topW at ht
          split at ht
          · rename_i xs
            simp only [Option.map_eq_some_iff] at ht
            obtain ⟨ps, hp, rfl⟩ := ht
            obtain ⟨a, vs, rfl, qh, rr⟩ := getT_ok S rv rfl
            obtain rfl : u = Value.ref a := ru
            obtain ⟨its, rvs, ⟨o, ho, hc, m, hd⟩, _⟩ := I.tuple (.of qh)
            have k : ShAX X s its.toArray.toList ps := by simpa using toWs_sh S I 11 xs vs its ps rr rvs hp
            obtain ⟨bs, mm, na, kk, hz⟩ := k.tupAt ho hc hd h1 h3'
            have hdp : (PyData.tuple ps).depth = PyData.depthAll ps + 1 := by simp only [PyData.depth]
            have hu2 : X.A.units + 1 + (PyData.depthAll ps + 1) < cLine := by
              have : (PyData.tuple ps).depth ≤ 60 := h2
              omega
            refine call_repr_slot (by omega) (T := "tuple") ⟨o, ho, hc⟩ F.slot_tuple_repr ?_
            have fin' : ∀ h' t tk, (∀ b o, s.heap.get? b = some o → h'.get? b = some o) → EP X pins σ Q (.str (tupleText (PyData.shownAll ps)) t) { s with heap := h', toks := tk } := fun h' t tk k => by
              have := fin h' t tk k
              simpa only [topP, Bool.false_eq_true, if_false, PyData.shown] using this
            exact call_tuple_reprK (A := X.A.in1) ho hc hd na kk hg (fun b _ => Clear.nil b) hu2 (fun _ _ e => e) (fun h' t tk k => ⟨_, _, rfl, fin' h' t tk k⟩) hz
          · split at ht
            · rename_i xs hx
              simp only [Option.map_eq_some_iff] at ht
              obtain ⟨ps, hp, eq⟩ := ht
              exact hl hx hp eq.symm
            · cases ht
        · exact A.elim
  · exact A.elim
end
end DL
/-! text DL31 -/
/-! what has a repr -/
namespace DL
open PySem PySem.Spec PyProof.Rows L2 TL
/-- repr tells a text of it, at this store -/
def Rp (μ : Store) (d : D) : Prop := ∃ z, oRepr2 [d] μ = some (.str z, μ)
/-- it can be shown within others: so deep, so long -/
def Ws (μ : Store) (n k s : Nat) (d : D) : Prop := ∃ p, toW μ n d = some p ∧ p.showable = true ∧ p.depth ≤ k ∧ p.shown.length ≤ s
section
variable {μ : Store} {n k s : Nat} {d : D} {xs : List D}
theorem Ws.mono {s' k' : Nat} (h : Ws μ n k s d) (l : s ≤ s') (l2 : k ≤ k') : Ws μ n k' s' d := by
  obtain ⟨p, h1, h2, h3, h4⟩ := h
  exact ⟨p, h1, h2, by omega, by omega⟩
theorem Ws.non (h : 4 ≤ s) : Ws μ n k s .non := ⟨.none, by cases n <;> simp only [toW], rfl, by simp [PyData.depth], Nat.le_trans (by decide : (PyData.shown .none).length ≤ 4) h⟩
theorem Ws.bl {b : Bool} (h : 5 ≤ s) : Ws μ n k s (.bl b) := ⟨.bool b, by cases n <;> simp only [toW], rfl, by simp [PyData.depth], Nat.le_trans (by cases b <;> decide : (PyData.shown (.bool b)).length ≤ 5) h⟩
theorem Ws.int {i : Int} (h0 : i.natAbs < 10 ^ 60) (h : 61 ≤ s) : Ws μ n k s (.int i) := by
  have e : szI i = 61 := by rw [szI, if_pos h0]
  obtain ⟨h1, h2⟩ := int_sz i (by rw [e]; decide)
  exact ⟨.int i, by cases n <;> simp only [toW], by simpa [PyData.showable] using h2, by simp [PyData.depth], by omega⟩
theorem Ws.str {x : Str} (h0 : x.cps.all (· < 0x110000) = true) (h : 10 * x.length + 2 ≤ s) : Ws μ n k s (.str x) :=
  ⟨.str x, by cases n <;> simp only [toW], rfl, by simp [PyData.depth], Nat.le_trans (text_sz h0) h⟩
theorem Ws.all : ∀ {xs : List D}, (∀ x ∈ xs, Ws μ n k s x) → ∃ ps, toWs μ n xs = some ps ∧ PyData.showableAll ps = true ∧ PyData.depthAll ps ≤ k ∧ ((PyData.shownAll ps).map (·.length)).sum ≤ xs.length * s ∧ (PyData.shownAll ps).length = xs.length
  | [], _ => ⟨[], by cases n <;> simp only [toWs], rfl, by simp [PyData.depthAll], by simp [PyData.shownAll], rfl⟩
  | x :: xs, h => by
    obtain ⟨p, a1, a2, a3, a4⟩ := h x List.mem_cons_self
    obtain ⟨ps, b1, b2, b3, b4, b5⟩ := Ws.all fun y hy => h y (List.mem_cons_of_mem _ hy)
    refine ⟨p :: ps, by simp only [toWs, a1, b1], by simp [PyData.showableAll, a2, b2], by simp only [PyData.depthAll]; omega, ?_, by simp [PyData.shownAll, b5]⟩
    simp only [PyData.shownAll, List.map_cons, List.sum_cons, List.length_cons, Nat.add_mul, Nat.one_mul]
    omega
theorem list_len {ps : List PyData} {m s : Nat} (h1 : ((PyData.shownAll ps).map (·.length)).sum ≤ m * s) (h2 : (PyData.shownAll ps).length = m) : (PyData.list ps).shown.length ≤ m * (s + 2) + 4 := by
  have := listText_len_le (PyData.shownAll ps)
  simp only [PyData.shown]
  rw [Nat.mul_add]
  omega
theorem tup_len {ps : List PyData} {m s : Nat} (h1 : ((PyData.shownAll ps).map (·.length)).sum ≤ m * s) (h2 : (PyData.shownAll ps).length = m) : (PyData.tuple ps).shown.length ≤ m * (s + 2) + 4 := by
  have := tupleText_len_le (PyData.shownAll ps)
  simp only [PyData.shown]
  rw [Nat.mul_add]
  omega
theorem Ws.tup (h : ∀ x ∈ xs, Ws μ n k s x) : Ws μ (n + 1) (k + 1) (xs.length * (s + 2) + 4) (.tup xs) := by
  obtain ⟨ps, b1, b2, b3, b4, b5⟩ := Ws.all h
  exact ⟨.tuple ps, by simp only [toW, b1, Option.map_some], by simpa [PyData.showable] using b2, by simp only [PyData.depth]; omega, tup_len b4 b5⟩
theorem Ws.lst (h : ∀ x ∈ xs, Ws μ n k s x) : Ws μ (n + 1) (k + 1) (xs.length * (s + 2) + 4) (.lst xs) := by
  obtain ⟨ps, b1, b2, b3, b4, b5⟩ := Ws.all h
  exact ⟨.list ps, by simp only [toW, b1, Option.map_some], by simpa [PyData.showable] using b2, by simp only [PyData.depth]; omega, list_len b4 b5⟩
theorem Ws.loc {m : Nat} (e : μ[m]? = some (.lst xs)) (h : ∀ x ∈ xs, Ws μ n k s x) : Ws μ (n + 1) (k + 1) (xs.length * (s + 2) + 4) (.loc m) := by
  obtain ⟨ps, b1, b2, b3, b4, b5⟩ := Ws.all h
  exact ⟨.list ps, by simp only [toW, e, b1, Option.map_some], by simpa [PyData.showable] using b2, by simp only [PyData.depth]; omega, list_len b4 b5⟩
/-- a dict of texts and flat values -/
theorem dict_ok {ks : List Key} (h1 : ks.all keyS = true) (h2 : ks.all kTx = true) (h3 : xs.all fl = true) (h4 : tqs xs = true) (h5 : ks.length = xs.length) (h6 : szQs xs ≤ 10000) (h7 : (ks.map kSz).sum + 4 * ks.length ≤ 10000) : ∃ p, dictP ks xs = some p ∧ p.showable = true ∧ p.depth ≤ 1 ∧ p.shown.length ≤ 20010 := by
  have hp : ql 1 (.dK ks xs) = true := by simp [ql, h1, h3, h5]
  have e : toQ [] 1 (.dK ks xs) = some (qd (.dK ks xs)) := toQ_ql 1 _ hp
  obtain ⟨a1, a2, a3⟩ := shown_qls 0 xs (fl_all h3 0) h4 (by omega)
  have k1 := kv_len ks (qds xs) h2 h1 (by rw [qds_len]; exact h5)
  have k2 := dictText_len_le (PyData.shownKv ((ks.map kP).zip (qds xs)))
  have := dep_zip ks (qds xs)
  have := fl_dep h3
  refine ⟨_, e, ?_, ?_, ?_⟩
  · simp only [qd, PyData.showable]
    exact (zip_show ks (qds xs) a2).resolve_right fun z => z h1
  · simp only [qd, PyData.depth]; omega
  · simp only [qd, PyData.shown]; omega
theorem Ws.dict {m : Nat} {ks : List Key} (e : μ[m]? = some (.dK ks xs)) (h1 : ks.all keyS = true) (h2 : ks.all kTx = true) (h3 : xs.all fl = true) (h4 : tqs xs = true) (h5 : ks.length = xs.length) (h6 : szQs xs ≤ 10000) (h7 : (ks.map kSz).sum + 4 * ks.length ≤ 10000) (hk : 1 ≤ k) (hs : 20010 ≤ s) : Ws μ n k s (.loc m) := by
  obtain ⟨p, a1, a2, a3, a4⟩ := dict_ok h1 h2 h3 h4 h5 h6 h7
  exact ⟨p, by cases n <;> simp only [toW, e, a1], a2, by omega, by omega⟩
/-! what stands alone -/
theorem Rp.of {z : Str} (h : reprD2 μ d = some z) : Rp μ d := ⟨z, by simp only [oRepr2, h, Option.map_some]⟩
theorem Rp.flat {p : PyData} (h : flatP d = some p) (w : Ws μ 0 60 16777216 d) : Rp μ d := by
  obtain ⟨q, h1, h2, h3, h4⟩ := w
  have e : q = p := by
    cases d <;> simp [flatP] at h <;> simp [toW] at h1 <;> rw [← h, ← h1]
  subst e
  exact Rp.of (z := q.shown) (by simp only [reprD2, reprD, h, okP_of h2 h3 h4 (Nat.le_refl _), if_true])
theorem Rp.top {q : Bool × List PyData} (h : topW μ d = some q) (ok : okP (topP q) = true) : Rp μ d := by
  cases e : reprD μ d with
  | some z => exact Rp.of (z := z) (by simp only [reprD2, e])
  | none => exact Rp.of (z := (topP q).shown) (by simp only [reprD2, e, h, ok, if_true])
theorem Rp.tup (h : ∀ x ∈ xs, Ws μ 11 k s x) (hk : k ≤ 50) (hs : xs.length * (s + 2) + 4 ≤ 16777216) : Rp μ (.tup xs) := by
  obtain ⟨ps, b1, b2, b3, b4, b5⟩ := Ws.all h
  exact Rp.top (q := (false, ps)) (by simp only [topW, b1, Option.map_some]) (okP_of (n := xs.length * (s + 2) + 4) (by simpa [topP, PyData.showable] using b2) (by simp [topP, PyData.depth]; omega) (tup_len b4 b5) hs)
theorem Rp.lstM (e : getM μ d = some xs) (hd : ∀ ys, d ≠ .tup ys) (h : ∀ x ∈ xs, Ws μ 11 k s x) (hk : k ≤ 50) (hs : xs.length * (s + 2) + 4 ≤ 16777216) : Rp μ d := by
  obtain ⟨ps, b1, b2, b3, b4, b5⟩ := Ws.all h
  refine Rp.top (q := (true, ps)) ?_ (okP_of (n := xs.length * (s + 2) + 4) (by simpa [topP, PyData.showable] using b2) (by simp [topP, PyData.depth]; omega) (list_len b4 b5) hs)
  cases d with
  | tup ys => exact absurd rfl (hd ys)
  | _ => simp only [topW, e, b1, Option.map_some]
theorem Rp.loc {m : Nat} (e : μ[m]? = some (.lst xs)) (h : ∀ x ∈ xs, Ws μ 11 k s x) (hk : k ≤ 50) (hs : xs.length * (s + 2) + 4 ≤ 16777216) : Rp μ (.loc m) :=
  Rp.lstM (by simp [getM, e]) (by simp) h hk hs
theorem Rp.dict {m : Nat} {ks : List Key} (e : μ[m]? = some (.dK ks xs)) (h1 : ks.all keyS = true) (h2 : ks.all kTx = true) (h3 : xs.all fl = true) (h4 : tqs xs = true) (h5 : ks.length = xs.length) (h6 : szQs xs ≤ 10000) (h7 : (ks.map kSz).sum + 4 * ks.length ≤ 10000) : Rp μ (.loc m) := by
  obtain ⟨p, a1, a2, a3, a4⟩ := dict_ok h1 h2 h3 h4 h5 h6 h7
  exact Rp.of (z := p.shown) (by simp only [reprD2, reprD, flatP, toP, toQ, e, a1, okP_of a2 (by omega) a4 (by omega), if_true])
end
end DL
/-! text DL32 -/
/-! wishes for the later operations -/
namespace DL
open PySem PySem.Spec PyProof.Rows L2
section
variable {σ : Sg} {μ : Store} {d e : D} {fa fb fo fi fe : EF} {ff : AF} {ft : BF} {Q : D → Store → Prop} {E : XP} {N : Sg → Store → Prop} {R : D → Store → Prop} {f : SF}
@[simp ↓] theorem wp_mt0 {op : OM} : (Wp (fMt0 op fo σ μ) Q E : Prop) = Wp (fo σ μ) (fun o μ => An (isLst o μ = true) (Wp (ofO (op o [] μ)) Q E)) E := by
  rw [show fMt0 op fo σ μ = (fo σ μ).bind fun o μ => if isLst o μ = true then ofO (op o [] μ) else .stuck from rfl]
  rw [Wp_bind]
  refine Wp_ext fun o μ => ?_
  by_cases h : isLst o μ = true
  · rw [if_pos h, An_of h]
  · rw [if_neg h, An_no h]; with_unfolding_all rfl
/-- what a dict has -/
@[irreducible] def Dg (o : Option (Option D)) (Q : D → Prop) [Mk0 Q] : Prop := match o with
  | some (some d) => Q d
  | _ => False
@[simp] theorem Dg_some {Q : D → Prop} : (Dg (some (some d)) Q : Prop) = Q d := by with_unfolding_all rfl
@[simp ↓] theorem wp_dg : (Wp (fDg fo fi σ μ) Q E : Prop) = Wp (fo σ μ) (fun d μ => Wp (fi σ μ) (fun i μ => Dg (dget μ d i) fun x => Q x μ) E) E := by
  rw [show fDg fo fi σ μ = (fo σ μ).bind fun d μ => (fi σ μ).bind fun i μ => match dget μ d i with | some (some e) => .ok e μ | _ => .stuck from rfl]
  rw [Wp_bind]
  refine Wp_ext fun o μ => ?_
  rw [Wp_bind]
  refine Wp_ext fun i μ => ?_
  rcases dget μ o i with _ | _ | x <;> with_unfolding_all rfl
@[simp ↓] theorem wp_st {op : OM} : (Wp (fSt op fo ff σ μ) Q E : Prop) = Wp (fo σ μ) (fun o μ => IsS o fun a => Wp (ff σ μ) (fun ds μ => Wp (ofO (op (.str a) ds μ)) Q E) E) E := by
  rw [show fSt op fo ff σ μ = (fo σ μ).bind fun o μ => match o with | .str a => (ff σ μ).bind fun ds μ => ofO (op (.str a) ds μ) | _ => .stuck from rfl]
  rw [Wp_bind]
  refine Wp_ext fun o μ => ?_
  cases o with
  | str a => simp only [Wp_bind, IsS_str]
  | _ => with_unfolding_all rfl
@[simp ↓] theorem wps_setD : (WpS (sSetD fo fi fe σ μ) N R E : Prop) = Wp (fe σ μ) (fun d μ => Wp (fo σ μ) (fun o μ => Wp (fi σ μ) (fun i μ => St (setDk o i d μ) fun μ => N σ μ) E) E) E := by
  rw [show sSetD fo fi fe σ μ = sBind (fe σ μ) σ fun d μ => sBind (fo σ μ) σ fun o μ => sBind (fi σ μ) σ fun i μ => match setDk o i d μ with | some μ' => .next σ μ' | none => .stuck from rfl]
  rw [wps_bind]; refine Wp_ext fun d μ => ?_; rw [wps_bind]; refine Wp_ext fun o μ => ?_; rw [wps_bind]; refine Wp_ext fun i μ => ?_
  cases setDk o i d μ <;> with_unfolding_all rfl
@[simp ↓] theorem wp_mkE {c : Nat} {attr : Str} : (Wp (fMkE c attr fa σ μ) Q E : Prop) = Wp (fa σ μ) (fun d μ => Q (.er c attr d) μ) E := by
  rw [show fMkE c attr fa σ μ = (fa σ μ).bind fun d μ => .ok (.er c attr d) μ from rfl, Wp_bind]
  refine Wp_ext fun d μ => ?_
  rw [Wp_ok]
@[simp ↓] theorem wp_d0F : (Wp (fD0 false σ μ) Q E : Prop) = Q (.dK [] []) μ := by with_unfolding_all rfl
@[simp ↓] theorem wp_d0T : (Wp (fD0 true σ μ) Q E : Prop) = Q (.loc μ.length) (μ ++ [.dK [] []]) := by with_unfolding_all rfl
/-- a mutable dict of one pair -/
theorem ev_dict1 {x : Str} {d : D} {fk fv : EF} (h1 : fk σ μ = .ok (.str x) μ) (h2 : fv σ μ = .ok d μ) : fDict true (pCons fk fv pNil) σ μ = .ok (.loc μ.length) (μ ++ [.dK [.inr x] [d]]) := by
  simp [fDict, pCons, pNil, h1, h2, noX, keyPs, keyD, mergeP, putP, newDk, Res.bind]
/-- a loop that ends before it is run out -/
theorem wp_while {n : Nat} (P : Nat → Sg → Store → Prop) (h0 : P n σ μ)
    (step : ∀ k σ μ, P k σ μ → Wp (ft σ μ) (fun t μ1 => Br t (∃ j, k = j + 1 ∧ WpS (f σ μ1) (fun σ μ => Th (P j σ μ)) R E) (N σ μ1)) E) : WpS (sWhile (n + 1) ft f σ μ) N R E := by
  unfold sWhile
  induction n generalizing σ μ with
  | zero =>
    have s := step 0 σ μ h0
    unfold loopW
    rw [wps_bind]
    refine s.mono (fun t μ1 h => ?_) (fun _ _ _ h => h)
    cases t with
    | true => simp only [Br_true] at h; obtain ⟨j, hj, _⟩ := h; omega
    | false =>
      simp only [Br_false] at h
      rw [if_neg (by simp), WpS_next]
      exact h
  | succ n ih =>
    have s := step (n + 1) σ μ h0
    unfold loopW
    rw [wps_bind]
    refine s.mono (fun t μ1 h => ?_) (fun _ _ _ h => h)
    cases t with
    | true =>
      simp only [Br_true] at h
      obtain ⟨j, hj, h⟩ := h
      obtain rfl : n = j := by omega
      rw [if_pos rfl]
      cases e : f σ μ1 with
      | next σ2 μ2 => rw [e, WpS_next] at h; exact ih h.get
      | ret => rw [e, WpS_ret] at h; simp only [WpS_ret]; exact h
      | exc => rw [e, WpS_exc] at h; simp only [WpS_exc]; exact h
      | brk => rw [e, WpS_brk] at h; exact h.elim
      | cont => rw [e, WpS_cont] at h; exact h.elim
      | stuck => rw [e, WpS_stuck] at h; exact h.elim
    | false =>
      simp only [Br_false] at h
      rw [if_neg (by simp), WpS_next]
      exact h
/-! lists that change -/
theorem ev_pop {n : Nat} {xs : List D} {x : D} (h : μ[n]? = some (.lst (xs ++ [x]))) : oPop (.loc n) [] μ = some (x, μ.set n (.lst xs)) := by
  simp [oPop, onL, h]
theorem ev_popAt {n : Nat} {xs : List D} {i : Int} {x : D} (h : μ[n]? = some (.lst xs)) (h0 : 0 ≤ i) (h1 : i < xs.length) (hx : xs[i.toNat]? = some x) (hc : xs.length ≤ 1000) : oPopAt (.loc n) [.int i] μ = some (x, μ.set n (.lst (xs.eraseIdx i.toNat))) := by
  simp only [oPopAt, h, h0, h1, cap_small hc, hx, and_self, if_true]
theorem ev_insert0 {n : Nat} {xs : List D} (h : μ[n]? = some (.lst xs)) (hc : xs.length < 1000) : oInsert (.loc n) [.int 0, d] μ = some (.non, μ.set n (.lst (d :: xs))) := by
  have : xs.length < cap := by rw [cap_val]; omega
  simp [oInsert, onL, h, this]
theorem ev_setDnew {n : Nat} {ks : List Key} {xs : List D} {x : Str} (h : μ[n]? = some (.dK ks xs)) (hl : ks.length = xs.length) (hc : ks.length < 1000) (hk : (Sum.inr x : Key) ∉ ks) : setDk (.loc n) (.str x) d μ = some (μ.set n (.dK (ks ++ [.inr x]) (xs ++ [d]))) := by
  have hc : ks.length < cap := by rw [cap_val]; omega
  have e1 : (ks.zip xs).map (·.1) = ks := by rw [List.map_fst_zip]; omega
  have e2 : (ks.zip xs).map (·.2) = xs := by rw [List.map_snd_zip]; omega
  have e := putP_new (l := ks.zip xs) (k := .inr x) (d := d) (by rw [e1]; exact hk)
  have k1 : keyD (.str x) = some (.inr x) := rfl
  simp only [setDk, k1, h, hl, hc, putD2, e, List.map_append, e1, e2, List.map_cons, List.map_nil]
  rw [if_pos ⟨trivial, by rw [← hl]; exact hc⟩]
end
end DL
/-! text DL33 -/
/-! targets that take lists, too -/
namespace DL
open PySem PySem.Spec PyProof.Rows L2
def gL (gs : TgsF) (n : Nat) : TgF := fun d σ μ => match d with
  | .tup xs => if xs.length = n then gs xs σ μ else none
  | d => match getM μ d with
    | some xs => if xs.length = n then gs xs σ μ else none
    | none => none
section
variable {G : Cf} {X : Cx} {pos : Pos}
theorem g_seq {own : List Nat} {tgs : List Expr} {k n : Nat} {gs : TgsF} (hK : X.K = G.K) (hc : X.calm = true) (h : DGs G X own tgs gs) (hn : (assignEach tgs X.env).length = n := by rfl) (hst : (assignEach tgs X.env).findIdx? (·.1) = none := by rfl) : DG G X own (.Tuple tgs k pos) (gL gs n) := by
  refine ⟨fun pins s σV H v u Q I r h0 => ?_⟩
  obtain ⟨σ, w, d, S, R, rd, σ', e, q⟩ := h0
  unfold gL at e
  split at e
  · rename_i xs
    split at e
    · rename_i hl
      obtain ⟨a, vs, rfl, qa, rr⟩ := getT_ok S rd rfl
      exact (pg_tup hc h hn hst).run pins s σV H _ u Q I r ⟨a, vs, rfl, .of qa, by rw [← rr.len]; exact hl, σ, w, xs, S, R, rr, σ', e, q⟩
    · cases e
  · split at e
    · rename_i xs hx
      split at e
      · rename_i hl
        obtain ⟨a, vs, rfl, qa, rr⟩ := getM_ok S rd hx
        exact (pg_unl hc h hn hst).run pins s σV H _ u Q I r ⟨a, vs, rfl, .of qa, by rw [← rr.len]; exact hl, σ, w, xs, S, R, rr, σ', e, q⟩
      · cases e
    · cases e
end
section
variable {σ : Sg} {μ : Store}
theorem tk_Lx {gs : TgsF} {n : Nat} {xs : List D} {d : D} {K : Sg → Prop} (h : gL gs n d σ μ = if xs.length = n then gs xs σ μ else none) : (Tk (gL gs n d σ μ) K : Prop) = An (xs.length = n) (Tk (gs xs σ μ) K) := by
  rw [h]
  by_cases h : xs.length = n
  · rw [if_pos h, An_of h]
  · rw [if_neg h, An_no h]; with_unfolding_all rfl
@[simp] theorem tk_LT {gs : TgsF} {n : Nat} {xs : List D} {K : Sg → Prop} : (Tk (gL gs n (.tup xs) σ μ) K : Prop) = An (xs.length = n) (Tk (gs xs σ μ) K) := tk_Lx rfl
@[simp] theorem tk_LL {gs : TgsF} {n : Nat} {xs : List D} {K : Sg → Prop} : (Tk (gL gs n (.lst xs) σ μ) K : Prop) = An (xs.length = n) (Tk (gs xs σ μ) K) := tk_Lx rfl
theorem tk_Lm {gs : TgsF} {n m : Nat} {xs : List D} {K : Sg → Prop} (h : μ[m]? = some (.lst xs)) : (Tk (gL gs n (.loc m) σ μ) K : Prop) = An (xs.length = n) (Tk (gs xs σ μ) K) := tk_Lx (by simp [gL, getM, h])
end
end DL
/-! text DL34 -/
/-! sorted of a list or a tuple of data -/
namespace PySem.W
open PySem PySem.Calls PyProof.Rows
section
variable {prog : Program} {w : World} {A : Around} {E : Value → Shared → Prop} {s : Shared}
theorem cond_seq {T : String} (hT : T = "list" ∨ T = "tuple") : (Value.type T == Value.type "list" || Value.type T == Value.type "tuple") = true := by
  rcases hT with rfl | rfl <;> rfl
/-- the items of a list or a tuple, gathered -/
theorem gather_seq {p : Addr} {ob : Obj} {k : Nat} {T : String} {zs : List Value} {P : List Value → Shared → Prop} (hT : T = "list" ∨ T = "tuple") (h1 : s.heap.get? p = some ob) (h2 : ob.cls = .type T) (h3 : ob.data = .seq zs.toArray k) (hz : zs.length ≤ sizeLine)
    (q : P zs { s with heap := (s.heap.push (seqObj "list" #[] 0)).update s.heap.objs.size (Obj.mapSeq (· ++ zs.toArray)) }) : wpAny (model prog w) A (collect (.ref p)) P E s := by
  have g1 : (s.heap.push (seqObj "list" #[] 0)).get? p = some ob := Heap.get?_push_of_some _ h1
  unfold collect
  refine wpAny_bind (wpAny_runValue (codeAny_builtin entry_proto_collect' (show wpAny _ _ (do again (.builtin "list.__iadd__" ⟨[← newList [], .ref p], []⟩)) _ _ s from wpAny_bind (wpAny_newList (wpAny_pure ⟨Code.quiet_builtin _ (by decide +kernel), codeAny_builtin entry_list_iadd' ?_⟩)))))
  show wpAny _ _ (Builtin.List.listExtendWith (.ref s.heap.objs.size) (.ref p) (.ref s.heap.objs.size)) _ _ { s with heap := s.heap.push (seqObj "list" #[] 0) }
  unfold Builtin.List.listExtendWith
  refine wpAny_bind (wpAny_typeOf (T := T) ⟨ob, g1, h2⟩ ?_)
  rw [if_pos (by first | exact cond_seq hT | simpa using cond_seq hT | (rcases hT with rfl | rfl <;> simp) | (rcases hT with rfl | rfl <;> decide +kernel))]
  refine wpAny_bind (listItems_at g1 h3 (wpAny_bind (listItems_at (xs := #[]) (n := 0) (Heap.get?_push_size _ rfl) rfl ?_)))
  rw [if_neg (by simp)]
  refine wpAny_bind (listUpdate_at (xs := #[]) (n := 0) (Heap.get?_push_size _ rfl) rfl (wpAny_pure ?_) (Nat.zero_le _) (by show (#[] ++ zs.toArray).size ≤ sizeLine + 1; simp only [Array.size_append, List.size_toArray, List.length_nil]; omega))
  show wpAny (model prog w) A (do
      let o ← load s.heap.objs.size; match o.data with
      | .seq xs _ => pure xs.toList
      | _ => unsupported "internal:collect") P E { s with heap := (s.heap.push (seqObj "list" #[] 0)).update s.heap.objs.size (Obj.mapSeq (· ++ zs.toArray)) }
  refine wpAny_bind (wpAny_load (get?_update_seq (Heap.get?_push_size _ rfl) _) ?_)
  show wpAny _ _ (pure ((#[] : Array Value) ++ zs.toArray).toList) P E _
  rw [show ((#[] : Array Value) ++ zs.toArray).toList = zs by simp]
  exact wpAny_pure q
/-- sorted(xs), xs a list or a tuple of data -/
theorem sorted_seq {p : Addr} {ob : Obj} {k : Nat} {T : String} {zs : List Value} {β : Type} {bs : List β} {enc : β → PyData} {R : Value → β → Prop} {P : Value → Shared → Prop} (hT : T = "list" ∨ T = "tuple") (h1 : s.heap.get? p = some ob) (h2 : ob.cls = .type T) (h3 : ob.data = .seq zs.toArray k)
    (e : EachIs R zs bs) (er : EachIs (fun v b => ∃ as, Reads s.heap v (enc b) as) zs bs) (hal : AllAlike (bs.map enc)) (hk : Sortable (bs.map enc)) (hL : bs.length ≤ sizeLine)
    (hu : ∀ b, b ∈ bs → A.units + 2 + (enc b).depth < cLine) (q : ∀ out, out.length = bs.length → EachIs R out (bs.mergeSort (dataLe false enc)) → P (.ref (s.heap.objs.size + 1)) { s with heap := sortedAll s.heap zs (List.toArray out) }) :
    wpAny (model prog w) A (call (.builtin "sorted") [.ref p]) P E s := by
  have hz : zs.length ≤ sizeLine := by rw [e.length]; exact hL
  have er' : EachIs (fun v b => ∃ as, Reads (sortingHeap (copyHeap s.heap zs) (s.heap.objs.size + 1) zs) v (enc b) as) zs bs := er.mono fun _ _ ⟨as, r⟩ => ⟨as, PyProof.Rows.Reads.keeps (fun _ _ => sorting_copy_old) r⟩
  have S := SortsAt.data (prog := prog) (w := w) (A := A.in1.in1) (s := { s with heap := sortingHeap (copyHeap s.heap zs) (s.heap.objs.size + 1) zs }) (each_map (R := fun v d => ∃ as, Reads (sortingHeap (copyHeap s.heap zs) (s.heap.objs.size + 1) zs) v d as) enc er') hal hk (bound_map hu)
  have q' := q _ (by rw [sortVals_length false rfl]; exact e.length) (sortVals_data false e er' hal)
  have hn : ((s.heap.push (seqObj "list" #[] 0)).update s.heap.objs.size (Obj.mapSeq (· ++ zs.toArray))).objs.size = s.heap.objs.size + 1 := by rw [Heap.size_update, size_push']
  refine call_function_entry_kw kind_sorted plain_sorted entry_sorted (args_sorted1 _) ?_
  unfold Builtin.«sorted»
  refine wpAny_bind (m := checkCount "sorted" 1 1 _) (wpAny_pure (wpAny_bind (gather_seq hT h1 h2 h3 hz (wpAny_bind (wpAny_newList ?_ hz)))))
  show wpAny _ _ _ _ _ { s with heap := copyHeap s.heap zs }
  rw [hn]
  refine wpAny_bind (wpAny_holding (wpAny_call_entry_kw slot_list_sort ⟨_, copyHeap_at s.heap zs, rfl⟩ entry_list_sort (list_sort_vals (s := { s with heap := copyHeap s.heap zs }) (copyHeap_at s.heap zs) S hz ⟨_, rfl, wpAny_pure ⟨_, rfl, q'⟩⟩) (args_list_sort _)))
end
end PySem.W
namespace DL
open PySem PySem.Spec PyProof.Rows L2
def pdOf (μ : Store) (d : D) : PyData := (toP μ 12 d).getD .none
def alikeB (ps : List PyData) : Bool := ps.all fun p => ps.all fun q => PySem.W.alike p q
def tup1 : PyData → Bool
  | .tuple (_ :: _) => true
  | _ => false
def noTup : PyData → Bool
  | .none => false
  | .tuple _ => false
  | _ => true
def sortB (ps : List PyData) : Bool := ps.all tup1 || ps.all noTup
/-- what sorted can take -/
def canSort (μ : Store) (xs : List D) : Bool := (xs.all fun x => (toP μ 12 x).isSome) && (alikeB (xs.map (pdOf μ)) && (sortB (xs.map (pdOf μ)) && (decide (xs.length ≤ cap) && (xs.map (pdOf μ)).all fun p => decide (p.depth ≤ 60))))
def srt (μ : Store) (xs : List D) : List D := xs.mergeSort (PySem.W.dataLe false (pdOf μ))
def oSorted (m : Bool) : OL := fun ds μ => match ds with
  | [d] => match getS μ d with
    | some xs => if canSort μ xs = true then some (newL m (srt μ xs) μ) else none
    | none => none
  | _ => none
section
variable {G : Cf} {X : Cx} {w : Wd} {H : Hp}
theorem each_of : ∀ {xs : List D} {vs : List V} {us : List Value}, G.Reps w xs vs → Vals vs us → PySem.W.EachIs (fun (u : Value) (d : D) => ∃ v, G.Rep w d v ∧ RelV v u) us xs
  | [], vs, us, r, ru => by
    simp only [Cf.Reps, Reps] at r; subst r
    cases ru
    exact .nil
  | x :: xs, vs, us, r, ru => by
    simp only [Cf.Reps, Reps] at r
    obtain ⟨v, vr, rfl, rv, rr⟩ := r
    cases ru with
    | cons a b => exact .cons ⟨v, rv, a⟩ (each_of rr b)
theorem each_to : ∀ {xs : List D} {us : List Value}, PySem.W.EachIs (fun (u : Value) (d : D) => ∃ v, G.Rep w d v ∧ RelV v u) us xs → ∃ vs, G.Reps w xs vs ∧ Vals vs us
  | _, _, .nil => ⟨[], by simp only [Cf.Reps, Reps], .nil⟩
  | _, _, .cons ⟨v, rv, ru⟩ t => by
    obtain ⟨vs, rr, rs⟩ := each_to t
    exact ⟨v :: vs, by simp only [Cf.Reps, Reps]; exact ⟨v, vs, rfl, rv, rr⟩, .cons ru rs⟩
theorem each_mem' {α β : Type} {R R' : α → β → Prop} : ∀ {as : List α} {bs : List β}, PySem.W.EachIs R as bs → (∀ a b, b ∈ bs → R a b → R' a b) → PySem.W.EachIs R' as bs
  | _, _, .nil, _ => .nil
  | _, _, .cons h t, k => .cons (k _ _ List.mem_cons_self h) (each_mem' t fun a b hb => k a b (List.mem_cons_of_mem _ hb))
theorem cr_Sorted (hK : X.K = G.K) (hu : X.A.units + 64 < cLine) (m : Bool) : CallR X (.builtin "sorted") (rLO G (oSorted m)) := by
  intro pins s σ H vs us Q I r h
  obtain ⟨w, ds, S, rs, A⟩ := h
  unfold oSorted at A
  split at A
  · rename_i d
    cases hx : getS w.μ d with
    | none => rw [hx] at A; exact A.elim
    | some xs =>
      rw [hx] at A
      dsimp only at A
      split at A
      · rename_i hs
        obtain ⟨v, rfl, rv⟩ := rs.one
        obtain ⟨a, ys, rfl, q, rr⟩ := getS_ok S rv hx
        rw [← hK] at q
        rw [Vals.ref1 r]
        simp only [canSort, Bool.and_eq_true, decide_eq_true_eq] at hs
        obtain ⟨h1, h2, h3, h4, h5⟩ := hs
        rw [List.all_eq_true] at h1 h5
        have hal : PySem.W.AllAlike (xs.map (pdOf w.μ)) := fun p hp q hq => by
          have := List.all_eq_true.mp (List.all_eq_true.mp h2 p hp) q hq
          exact this
        have hk : PySem.W.Sortable (xs.map (pdOf w.μ)) := by
          simp only [sortB, Bool.or_eq_true, List.all_eq_true] at h3
          rcases h3 with h3 | h3
          · refine .inl fun p hp => ?_
            have := h3 p hp
            unfold tup1 at this
            split at this
            · exact ⟨_, _, rfl⟩
            · cases this
          · refine .inr fun p hp => ?_
            have := h3 p hp
            unfold noTup at this
            split at this
            · cases this
            · cases this
            · rename_i n1 n2
              exact ⟨fun e => n1 e, fun ys e => n2 ys e⟩
        have hsz : xs.length ≤ sizeLine := by rw [cap_val] at h4; rw [sizeLine_eq]; exact h4
        have fin : ∀ (its : List Value), Vals ys its → ∀ (ob : Obj) (k : Nat) (T : String), (T = "list" ∨ T = "tuple") → s.heap.get? a = some ob → ob.cls = .type T → ob.data = .seq its.toArray k →
            wpAny (model X.prog X.w) X.A (call (.builtin "sorted") [.ref a]) (EP X pins σ Q) X.xe s := fun its rt ob k T hT g1 g2 g3 => by
          have e := each_of rr rt
          refine PySem.W.sorted_seq hT g1 g2 g3 e (each_mem' e fun u b hb ⟨v, rv, ru⟩ => ?_) hal hk hsz (fun b hb => ?_) fun out hlen hout => ?_
          · obtain ⟨p, hp⟩ := Option.isSome_iff_exists.mp (h1 b hb)
            have d1 := toP_ok S 12 b v p rv hp
            rw [← hK] at d1
            have e2 : pdOf w.μ b = p := by simp only [pdOf, hp, Option.getD_some]
            rw [e2]
            exact Dp.reads I p v u d1 ru
          · have := of_decide_eq_true (h5 (pdOf w.μ b) (List.mem_map.mpr ⟨b, hb, rfl⟩))
            omega
          · obtain ⟨zs, z1, z2⟩ := each_to hout
            obtain ⟨ep, he'⟩ := PyProof.Rows.sortedAll_at s.heap its (List.toArray out)
            have hlz : zs.length ≤ sizeLine := by rw [z2.length, hlen]; exact hsz
            have A' := newL_ok (m := m) S (show G.Reps w (srt w.μ xs) zs from z1) A
            exact ⟨.ref _, upd H (s.heap.objs.size + 1) (.lst zs), I.laid (t' := s.toks) (fun _ _ => PyProof.Rows.sortedAll_old) (Nat.le_succ _) ⟨hlz, out, ep, z2, by simpa using he'⟩, rfl, A' _ (I.hok.fresh (Nat.le_succ _))⟩
        rcases q with q | q
        · obtain ⟨its, rt, ⟨ob, k, g1, g2, _, g3⟩, _⟩ := I.list q
          exact fin its rt ob k "list" (.inl rfl) g1 g2 g3
        · obtain ⟨its, rt, ⟨ob, g1, g2, k, g3⟩, _⟩ := I.tuple q
          exact fin its rt ob k "tuple" (.inr rfl) g1 g2 g3
      · exact A.elim
  · exact A.elim
end
end DL
/-! text DL35 -/
namespace DL
open PySem PySem.Spec PyProof.Rows L2
/-! ### starred items of a display -/
def aStar (fa : EF) (ff : AF) : AF := fun σ μ => (fa σ μ).bind fun x μ => match getS μ x with
  | some xs => (ff σ μ).bind fun ys μ => .ok (xs ++ ys) μ
  | none => .stuck
section
variable {G : Cf} {X : Cx} {W : XK} {a : Expr} {es : List Expr} {fa : EF} {ff : AF} {p : Pos}
theorem a_star (hK : X.K = G.K) (ha : DE G X W a fa) (hr : DA G X W es ff) (hs : starEach (.Starred a p :: es) X.env = (true, eval a X.env) :: starEach es X.env := by rfl) : DA G X W (.Starred a p :: es) (aStar fa ff) := by
  refine paI (StX.pa_star ha hr hs) fun σV H Q h => ?_
  obtain ⟨σ, w, S, R, A⟩ := h
  refine ⟨σ, w, S, R, (After.bind (R := G.Rep) A).mono fun x H1 ⟨w1, dx, l1, S1, rx, A1⟩ => ?_⟩
  cases hx : getS w1.μ dx with
  | none => rw [hx] at A1; exact A1.elim
  | some xs =>
    rw [hx] at A1
    obtain ⟨b, vs, rfl, q, rr⟩ := getS_ok S1 rx hx
    rw [← hK] at q
    refine ⟨b, vs, rfl, q.symm, σ, w1, S1, R.mono l1, (After.bind (R := G.Reps) A1).mono fun ys H2 ⟨w2, dys, l2, S2, rys, A2⟩ => ?_⟩
    exact A2.now S2 (Reps.append (Reps.mono l2 _ _ rr) rys)
end
/-! ### comprehensions with two clauses -/
def loop2 (g : TgF) (ft : BF) (fi1 : IF) (g1 : TgF) (ft1 : BF) (fe : EF) (own own1 : List Nat) (src : Src) (σ : Sg) : Nat → Nat → List D → Store → Res (List D)
  | 0, _, _, _ => .stuck
  | k + 1, i, acc, μ => match src.at μ i with
    | none => .stuck
    | some none => .ok acc μ
    | some (some d) => match g d (wipeD σ own) μ with
      | none => .stuck
      | some σ1 => (noX (ft σ1 μ)).bind fun t μ => if t = true then (noX (fi1 σ1 μ)).bind fun src1 μ => (loopC g1 ft1 fe own1 src1 σ1 (src1.fuel μ + 1) 0 acc μ).bind fun acc μ => loop2 g ft fi1 g1 ft1 fe own own1 src σ k (i + 1) acc μ
        else loop2 g ft fi1 g1 ft1 fe own own1 src σ k (i + 1) acc μ
def fLc2 (m : Bool) (fi : IF) (g : TgF) (ft : BF) (fi1 : IF) (g1 : TgF) (ft1 : BF) (fe : EF) (own own1 : List Nat) : EF := fun σ μ => (fi σ μ).bind fun src μ => (loop2 g ft fi1 g1 ft1 fe own own1 src σ (src.fuel μ + 1) 0 [] μ).bind fun xs μ => .ok (newL m xs μ).1 (newL m xs μ).2
section
variable {G : Cf} {X : Cx} {W : XK} {fi fi1 : IF} {g g1 : TgF} {ft ft1 : BF} {fe : EF} {tg tg1 : Expr} {pos : Pos}
/-- the same within the second clause -/
def LcIn (G : Cf) (W : XK) (Q : VK) (m : Bool) (w1 w4 : Wd) (L : Addr) (k : List DL.D → Store → Res (List DL.D)) (H : Hp) : Prop :=
  ∃ (acc : List DL.D) (vs : List V) (w : Wd), LeX w4 w ∧ LeX w1 w ∧ w.Z = upd w1.Z L (.lst vs) ∧ G.Stw w H ∧ G.Reps w acc vs ∧
    After G G.Rep (XTo G W) (unZ w1.Z w) ((k acc w.μ).bind fun xs μ => .ok (newL m xs μ).1 (newL m xs μ).2) Q
theorem tLc2_ok {own own1 : List Nat} {m : Bool} {σV : L2.St} {H : Hp} {Q : VK} (h : tE G W (fLc2 m fi g ft fi1 g1 ft1 fe own own1) σV H Q) : tLc2 (tI G W fi) (tGt G own g) (tB G W0 ft) (tI G W0 fi1) (tGt G own1 g1) (tB G W0 ft1) (tE G W0 fe) own own1 σV H Q := by
  obtain ⟨σ, w, S, R, A⟩ := h
  refine ⟨σ, w, S, R, (After.bind (R := fun w src J => SrcOk G J w src) A).mono fun J H1 ⟨w1, src, l1, S1, ok, A1⟩ => ?_⟩
  intro L hL
  have R1 := R.mono l1.x
  have hZ : w1.Z L = none := S1.zx.free hL
  have sub : ∀ {w : Wd} {o : HO}, w.Z = upd w1.Z L o → ∀ b u, w1.Z b = some u → w.Z b = some u := fun {w o} e b u h => by
    rw [e, upd_ne (fun z => by rw [z, hZ] at h; cases h)]; exact h
  refine ⟨fun i k H => LcInv G W σV Q m w1 L (fun acc μ => loop2 g ft fi1 g1 ft1 fe own own1 src σ k i acc μ) H, ⟨src.fuel w1.μ + 1, [], [], { w1 with Z := upd w1.Z L (.lst []) }, ⟨Same.refl _, Nat.le_refl _, fun _ _ => rfl⟩, rfl, S1.hide hL _, Reps.nil, A1⟩, ?_⟩
  intro i k H h
  obtain ⟨acc, vs, w, l, ez, S, ra, A⟩ := h
  replace A : After G G.Rep (XTo G W) (unZ w1.Z w) ((loop2 g ft fi1 g1 ft1 fe own own1 src σ k i acc w.μ).bind fun xs μ => .ok (newL m xs μ).1 (newL m xs μ).2) Q := A
  have hZD : w.Z L = some (.lst vs) := by rw [ez, upd_same]
  have hz0 : ∀ b, b ≠ L → w1.Z b = w.Z b := fun b hb => by rw [ez, upd_ne hb]
  cases k with
  | zero => exact A.elim
  | succ k =>
    have Y := ok w H l S i
    unfold loop2 at A
    cases q : src.at w.μ i with
    | none => rw [q] at A; exact A.elim
    | some o =>
      rw [q] at A Y
      cases o with
      | none =>
        refine .inl ⟨Y, ?_⟩
        simp only [Res.bind_ok] at A
        unfold newL at A
        split at A
        · have S' := S.unhideL (ob := .lst acc) hZD ⟨vs, rfl, ra⟩ (Z0 := w1.Z) hZ hz0
          refine A ⟨w.μ ++ [.lst acc], fun n => if n = w.μ.length then L else w.m n, w.F, w1.Z⟩ H (.ref L) rfl ⟨Same.refl _, by simp, fun n hn => ?_, rfl⟩ S' ?_
          · show (if n = w.μ.length then L else w.m n) = w.m n
            have hn : n < w.μ.length := hn
            rw [if_neg (by omega)]
          · simp only [Cf.Rep, Rep]
            exact ⟨by simp, by simp⟩
        · have S' := S.unhide hZD (Z0 := w1.Z) hZ hz0
          have hF : w.F L = none := (S.zd L _ hZD).1
          have le' : Le (unZ w1.Z w) { w with F := upd w.F L (.lst vs), Z := w1.Z } := ⟨fun b u h => by show upd w.F L _ b = some u; rw [upd_ne (ne_of_none h hF)]; exact h, Nat.le_refl _, fun _ _ => rfl, rfl⟩
          refine A { w with F := upd w.F L (.lst vs), Z := w1.Z } H (.ref L) rfl le' S' ?_
          simp only [Cf.Rep, Rep]
          exact ⟨L, vs, rfl, upd_same, Reps.mono (w := w) ⟨le'.ex, le'.len, le'.mm⟩ _ _ ra⟩
      | some d =>
        refine .inr ⟨Y.1, LcInv G W σV Q m w1 L (fun acc μ => loop2 g ft fi1 g1 ft1 fe own own1 src σ k (i + 1) acc μ), fun H' h => ⟨k, Nat.lt_succ_self k, h⟩, fun x H' y => ?_⟩
        obtain ⟨w2, l2, em2, S2, rd⟩ := Y.2 x H' y
        have l12 : LeX w1 w2 := l.trans l2
        have ez2 : w2.Z = upd w1.Z L (.lst vs) := l2.z.trans ez
        have A2 : After G G.Rep (XTo G W) (unZ w1.Z w2) _ Q := A.le ⟨l2.ex, l2.len, l2.mm, rfl⟩
        have hn : (unZ w1.Z w).μ = w2.μ := em2.symm
        cases q2 : g d (wipeD σ own) w.μ with
        | none => simp only [q2] at A2; exact A2.elim
        | some σ1 =>
          simp only [q2] at A2
          refine ⟨wipeD σ own, w2, d, S2, wipe_rep (R1.mono l12) own, rd, σ1, by rw [em2]; exact q2, fun σV1 Rσ eσ => ⟨eσ.trans (wipe_wipe σV own), σ1, w2, S2, Rσ, ?_⟩⟩
          rw [← em2] at A2
          -- the test
          cases q3 : ft σ1 w2.μ with
          | exc c d μ => simp only [q3, noX, Res.bind_stuck] at A2; exact A2.elim
          | stuck => simp only [q3, noX, Res.bind_stuck] at A2; exact A2.elim
          | ok t μ3 =>
            simp only [q3, noX, Res.bind_ok] at A2
            intro w3 H3 t' e3 l3 S3 et
            have et : t = t' := et
            subst et
            have ez3 : w3.Z = upd w1.Z L (.lst vs) := l3.z.trans ez2
            have A3 := A2.le (w' := unZ w1.Z w3) ⟨l3.ex, l3.len, l3.mm, rfl⟩
            cases t with
            | false =>
              simp only [Bool.false_eq_true, if_false] at A3 ⊢
              exact ⟨acc, vs, w3, l12.trans l3, ez3, S3, Reps.mono (LeX.trans l2.x l3.x) _ _ ra, by rw [e3]; exact A3⟩
            | true =>
              simp only [if_true] at A3 ⊢
              refine ⟨σ1, w3, S3, Rσ.mono l3, ?_⟩
              rw [e3]
              cases q4 : fi1 σ1 μ3 with
              | exc c d μ => simp only [q4, noX, Res.bind_stuck] at A3; exact A3.elim
              | stuck => simp only [q4, noX, Res.bind_stuck] at A3; exact A3.elim
              | ok src1 μ4 =>
                simp only [q4, noX, Res.bind_ok] at A3
                intro w4 H4 J1 e4 l4 S4 ok1
                have ok1 : SrcOk G J1 w4 src1 := ok1
                have ez4 : w4.Z = upd w1.Z L (.lst vs) := l4.z.trans ez3
                have A4 := A3.le (w' := unZ w1.Z w4) ⟨l4.ex, l4.len, l4.mm, rfl⟩
                have ra4 := Reps.mono (LeX.trans (LeX.trans l2.x l3.x) l4.x) _ _ ra
                have l14 : LeX w1 w4 := (l12.trans l3).trans ⟨l4.ex, l4.len, l4.mm⟩
                have Rσ4 := (Rσ.mono l3.x).mono l4.x
                refine ⟨fun j k' H => LcIn G W Q m w1 w4 L (fun acc μ => (loopC g1 ft1 fe own1 src1 σ1 k' j acc μ).bind fun acc μ => loop2 g ft fi1 g1 ft1 fe own own1 src σ k (i + 1) acc μ) H,
                  ⟨src1.fuel μ4 + 1, acc, vs, w4, ⟨Same.refl _, Nat.le_refl _, fun _ _ => rfl⟩, l14, ez4, S4, ra4, by rw [e4]; exact A4⟩, ?_⟩
                clear A4 ra4 A3 A2 A q2 q3 hn em2 e3 e4 l2 l3 l4 S2 S3 S4 rd ez2 ez3 ez4 Y hz0 hZD ez ra S l q
                intro j k' H5 h5
                obtain ⟨acc, vs, w, lx, l, ez, S, ra, A⟩ := h5
                replace A : After G G.Rep (XTo G W) (unZ w1.Z w) (((loopC g1 ft1 fe own1 src1 σ1 k' j acc w.μ).bind fun acc μ => loop2 g ft fi1 g1 ft1 fe own own1 src σ k (i + 1) acc μ).bind fun xs μ => .ok (newL m xs μ).1 (newL m xs μ).2) Q := A
                cases k' with
                | zero => exact A.elim
                | succ k' =>
                  have Y := ok1 w H5 lx S j
                  unfold loopC at A
                  cases q : src1.at w.μ j with
                  | none => rw [q] at A; exact A.elim
                  | some o =>
                    rw [q] at A Y
                    cases o with
                    | none =>
                      refine .inl ⟨Y, ?_⟩
                      simp only [Res.bind_ok] at A
                      exact ⟨acc, vs, w, l, ez, S, ra, A⟩
                    | some d5 =>
                      refine .inr ⟨Y.1, LcIn G W Q m w1 w4 L (fun acc μ => (loopC g1 ft1 fe own1 src1 σ1 k' (j + 1) acc μ).bind fun acc μ => loop2 g ft fi1 g1 ft1 fe own own1 src σ k (i + 1) acc μ), fun H' h => ⟨k', Nat.lt_succ_self k', h⟩, fun x5 H6 y5 => ?_⟩
                      obtain ⟨w2, l2, em2, S2, rd⟩ := Y.2 x5 H6 y5
                      have l42 : LeX w4 w2 := lx.trans l2
                      have l12' : LeX w1 w2 := l.trans l2
                      have ez2 : w2.Z = upd w1.Z L (.lst vs) := l2.z.trans ez
                      have A2 : After G G.Rep (XTo G W) (unZ w1.Z w2) _ Q := A.le ⟨l2.ex, l2.len, l2.mm, rfl⟩
                      cases q2 : g1 d5 (wipeD σ1 own1) w.μ with
                      | none => simp only [q2] at A2; exact A2.elim
                      | some σ3 =>
                        simp only [q2] at A2
                        refine ⟨wipeD σ1 own1, w2, d5, S2, wipe_rep (Rσ4.mono l42) own1, rd, σ3, by rw [em2]; exact q2, fun σV3 R3 eσ3 => ⟨eσ3.trans (wipe_wipe σV1 own1), σ3, w2, S2, R3, ?_⟩⟩
                        rw [← em2] at A2
                        cases q3 : ft1 σ3 w2.μ with
                        | exc c d μ => simp only [q3, noX, Res.bind_stuck] at A2; exact A2.elim
                        | stuck => simp only [q3, noX, Res.bind_stuck] at A2; exact A2.elim
                        | ok t μ3 =>
                          simp only [q3, noX, Res.bind_ok] at A2
                          intro w3 H3 t' e3 l3 S3 et
                          have et : t = t' := et
                          subst et
                          have ez3 : w3.Z = upd w1.Z L (.lst vs) := l3.z.trans ez2
                          have A3 := A2.le (w' := unZ w1.Z w3) ⟨l3.ex, l3.len, l3.mm, rfl⟩
                          cases t with
                          | false =>
                            simp only [Bool.false_eq_true, if_false] at A3 ⊢
                            exact ⟨acc, vs, w3, l42.trans l3, l12'.trans l3, ez3, S3, Reps.mono (LeX.trans l2.x l3.x) _ _ ra, by rw [e3]; exact A3⟩
                          | true =>
                            simp only [if_true] at A3 ⊢
                            refine ⟨σ3, w3, S3, R3.mono l3, ?_⟩
                            rw [e3]
                            cases q4 : fe σ3 μ3 with
                            | exc c d μ => simp only [q4, noX, Res.bind_stuck] at A3; exact A3.elim
                            | stuck => simp only [q4, noX, Res.bind_stuck] at A3; exact A3.elim
                            | ok z μ5 =>
                              simp only [q4, noX, Res.bind_ok] at A3
                              intro w5 H5' v e5 l5 S5 rv
                              have ez5 : w5.Z = upd w1.Z L (.lst vs) := l5.z.trans ez3
                              have A5 := A3.le (w' := unZ w1.Z w5) ⟨l5.ex, l5.len, l5.mm, rfl⟩
                              have hz5 : w5.Z L = some (.lst vs) := by rw [ez5, upd_same]
                              have ra5 := Reps.mono (LeX.trans (LeX.trans l2.x l3.x) l5.x) _ _ ra
                              split at A5
                              · rename_i hlt
                                refine ⟨vs, S5.zx L _ hz5, by rw [← ra.len, ← cap_eq]; exact hlt, ?_⟩
                                have S6 := S5.hput hz5 (.lst (vs ++ [v]))
                                refine ⟨acc ++ [z], vs ++ [v], { w5 with Z := upd w5.Z L (.lst (vs ++ [v])) }, (l42.trans l3).trans ⟨l5.ex, l5.len, l5.mm⟩, (l12'.trans l3).trans ⟨l5.ex, l5.len, l5.mm⟩, by show upd w5.Z L _ = _; rw [ez5, upd_upd], S6, ?_, by show After G G.Rep _ (unZ w1.Z w5) _ Q; rw [e5]; exact A5⟩
                                exact Reps.append (Reps.same (w := w5) (w' := { w5 with Z := upd w5.Z L (.lst (vs ++ [v])) }) rfl rfl rfl _ _ ra5) (Reps.cons (Rep.same (w := w5) (w' := { w5 with Z := upd w5.Z L (.lst (vs ++ [v])) }) rfl rfl rfl _ _ rv) Reps.nil)
                              · exact A5.elim
theorem d_lc2 {elt iter iter1 : Expr} {scope : Scope} {ifs ifs1 : List Expr} {own : List (Str × Nat)} {vs1 : List Nat} (m : Bool) (hc : X.calm = true) (hN : X.N.Nodup) (hi : DI G X W tg iter fi) (ok : BlkOk X.N X.env.scope scope own) (hv : ∀ i ∈ vs1, i ∈ own.map (·.2))
    (hg : ∀ (s : Shared) (H : Hp) (C : Addr) (cl : List (Str × Addr)) (fp : List Addr), DG G (X.blk s H scope (compEnvC scope cl C X.env) fp) (own.map (·.2)) tg g)
    (ht : ∀ (s : Shared) (H : Hp) (C : Addr) (cl : List (Str × Addr)) (fp : List Addr), PTs (X.blk s H scope (compEnvC scope cl C X.env) fp) ifs (tB G W0 ft))
    (hi1 : ∀ (s : Shared) (H : Hp) (C : Addr) (cl : List (Str × Addr)) (fp : List Addr), DI G (X.blk s H scope (compEnvC scope cl C X.env) fp) W0 tg1 iter1 fi1)
    (hg1 : ∀ (s : Shared) (H : Hp) (C : Addr) (cl : List (Str × Addr)) (fp : List Addr), DG G (X.blk s H scope (compEnvC scope cl C X.env) fp) vs1 tg1 g1)
    (ht1 : ∀ (s : Shared) (H : Hp) (C : Addr) (cl : List (Str × Addr)) (fp : List Addr), PTs (X.blk s H scope (compEnvC scope cl C X.env) fp) ifs1 (tB G W0 ft1))
    (he : ∀ (s : Shared) (H : Hp) (C : Addr) (cl : List (Str × Addr)) (fp : List Addr), DE G (X.blk s H scope (compEnvC scope cl C X.env) fp) W0 elt fe) (hs : ∀ x, foldedSetIterable iter X.env x = pure x := by intro _; rfl) (hs1 : ∀ env x, foldedSetIterable iter1 env x = pure x := by intro _ _; rfl) :
    DE G X W (.ListComp elt [⟨tg, iter, ifs, 0⟩, ⟨tg1, iter1, ifs1, 0⟩] scope pos) (fLc2 m fi g ft fi1 g1 ft1 fe (own.map (·.2)) vs1) :=
  peI (pe_lc2 hc hN hi ok hv hg ht hi1 hg1 ht1 he hs hs1) fun _ _ _ h => tLc2_ok h
theorem s_setLc2 {i : Nat} {y : Str} {py spos : Pos} {elt iter iter1 : Expr} {scope : Scope} {ifs ifs1 : List Expr} {own : List (Str × Nat)} {vs1 : List Nat} (m : Bool) (hc : X.calm = true) (hN : X.N.Nodup) (hi : DI G X W tg iter fi) (ok : BlkOk X.N X.env.scope scope own) (hv : ∀ i ∈ vs1, i ∈ own.map (·.2))
    (hg : ∀ (s : Shared) (H : Hp) (C : Addr) (cl : List (Str × Addr)) (fp : List Addr), DG G (X.blk s H scope (compEnvC scope cl C X.env) fp) (own.map (·.2)) tg g)
    (ht : ∀ (s : Shared) (H : Hp) (C : Addr) (cl : List (Str × Addr)) (fp : List Addr), PTs (X.blk s H scope (compEnvC scope cl C X.env) fp) ifs (tB G W0 ft))
    (hi1 : ∀ (s : Shared) (H : Hp) (C : Addr) (cl : List (Str × Addr)) (fp : List Addr), DI G (X.blk s H scope (compEnvC scope cl C X.env) fp) W0 tg1 iter1 fi1)
    (hg1 : ∀ (s : Shared) (H : Hp) (C : Addr) (cl : List (Str × Addr)) (fp : List Addr), DG G (X.blk s H scope (compEnvC scope cl C X.env) fp) vs1 tg1 g1)
    (ht1 : ∀ (s : Shared) (H : Hp) (C : Addr) (cl : List (Str × Addr)) (fp : List Addr), PTs (X.blk s H scope (compEnvC scope cl C X.env) fp) ifs1 (tB G W0 ft1))
    (he : ∀ (s : Shared) (H : Hp) (C : Addr) (cl : List (Str × Addr)) (fp : List Addr), DE G (X.blk s H scope (compEnvC scope cl C X.env) fp) W0 elt fe)
    (hy : X.N[i]? = some y := by rfl) (hyl : X.env.scope.names.lookup y = some .local := by rfl)
    (hsw : swapsWith (.ListComp elt [⟨tg, iter, ifs, 0⟩, ⟨tg1, iter1, ifs1, 0⟩] scope pos) (some (.Name y py)) spos.line X.env = pure true := by exact sw_true rfl rfl rfl (by decide +kernel)) (hs : ∀ x, foldedSetIterable iter X.env x = pure x := by intro _; rfl) (hs1 : ∀ env x, foldedSetIterable iter1 env x = pure x := by intro _ _; rfl) :
    DS G X W (.Assign [.Name y py] (.ListComp elt [⟨tg, iter, ifs, 0⟩, ⟨tg1, iter1, ifs1, 0⟩] scope pos) spos) (sAsg (gN i) (fLc2 m fi g ft fi1 g1 ft1 fe (own.map (·.2)) vs1)) := by
  refine psI (ps_setLc2 hc hN hy hyl hsw hi ok hv hg ht hi1 hg1 ht1 he hs hs1) fun E σV H h => ?_
  obtain ⟨σ, w, S, R, A⟩ := h
  refine tLc2_ok (G := G) (m := m) ⟨σ, w, S, R, (AfS.bind (R := G.Rep) A R).mono fun v H1 ⟨w1, d, l, s, r, q, A1⟩ => ?_⟩
  show E.nx (σV.set i (some v)) H1
  exact A1.now s (q.set i r)
end
end DL
/-! text DL36 -/
/-! dicts of the text: walked by their keys, asked for their flat values -/
namespace DL
open PySem PySem.Spec PyProof.Rows L2 He
/-- the keys in their order -/
def keysB : List DictEntry → List Str → Bool
  | [], [] => true
  | e :: es, k :: ks => (match e.key with
    | .str x _ => decide (x = k)
    | _ => false) && keysB es ks
  | _, _ => false
def wkB (K : PySem.W.Frag) (a : Addr) (ks : List Str) : Bool := match K.lookup a with
  | some ⟨_, _, .dict es _, _⟩ => keysB es.toList ks
  | _ => false
structure WKs (K : PySem.W.Frag) (a : Addr) (ks : List Str) : Prop where
  all : ∀ o es n, K.lookup a = some o → o.data = .dict es n → es.size = ks.length ∧ ∀ i (h : i < es.size), ∃ k t, ks[i]? = some k ∧ es[i].key = .str k t
theorem keysB_ok : ∀ {es : List DictEntry} {ks : List Str}, keysB es ks = true → es.length = ks.length ∧ ∀ (i : Nat) (e : DictEntry), es[i]? = some e → ∃ k t, ks[i]? = some k ∧ e.key = .str k t
  | [], [], _ => ⟨rfl, fun i e h => by simp at h⟩
  | [], _ :: _, h => by simp [keysB] at h
  | _ :: _, [], h => by simp [keysB] at h
  | e :: es, k :: ks, h => by
    simp only [keysB, Bool.and_eq_true] at h
    obtain ⟨h1, h2⟩ := h
    obtain ⟨l, ih⟩ := keysB_ok h2
    refine ⟨by simp [l], fun i e' he => ?_⟩
    cases i with
    | zero =>
      simp at he; subst he
      split at h1
      · rename_i x t q
        have := of_decide_eq_true h1
        subst this
        exact ⟨x, t, rfl, q⟩
      · cases h1
    | succ i => exact ih i e' (by simpa using he)
theorem wkB_ok {K : PySem.W.Frag} {a : Addr} {ks : List Str} (h : wkB K a ks = true) : WKs K a ks := by
  unfold wkB at h
  split at h
  · rename_i c dd es n sl hl
    obtain ⟨l, q⟩ := keysB_ok h
    refine ⟨fun o es' n' ho hd => ?_⟩
    rw [hl] at ho
    cases ho
    cases hd
    refine ⟨by simpa using l, fun i hi => ?_⟩
    exact q i es[i] (by simp)
  · cases h
/-- their flat values -/
def wvB (K : PySem.W.Frag) (a : Addr) (kvs : List (Str × D)) : Bool := kvs.all fun p => match PySem.W.nsIn K a p.1, p.2 with
  | some (some (.str y _)), .str z => decide (y = z)
  | some (some (.int i _)), .int j => decide (i = j)
  | _, _ => false
structure WVs (K : PySem.W.Frag) (a : Addr) (kvs : List (Str × D)) : Prop where
  all : ∀ p ∈ kvs, ∃ u v, PySem.W.nsIn K a p.1 = some (some u) ∧ flatV p.2 = some v ∧ RelV v u
theorem wvB_ok {K : PySem.W.Frag} {a : Addr} {kvs : List (Str × D)} (h : wvB K a kvs = true) : WVs K a kvs := by
  refine ⟨fun p hp => ?_⟩
  have q := List.all_eq_true.mp h p hp
  split at q
  · rename_i y t z e1 e2
    have := of_decide_eq_true q
    subst this
    exact ⟨_, .str y, e1, by rw [e2]; rfl, ⟨t, rfl⟩⟩
  · rename_i i t j e1 e2
    have := of_decide_eq_true q
    subst this
    exact ⟨_, .int i, e1, by rw [e2]; rfl, ⟨t, rfl⟩⟩
  · cases q
section
variable {P : Program} {w : World} {K : PySem.W.Frag} {tg : Expr}
def ItW (ks : List Str) : It := ⟨fun i _ => i < ks.length, fun i H x H' => H' = H ∧ ∃ k, ks[i]? = some k ∧ x = .str k, fun i _ => ks.length ≤ i⟩
theorem turn_w {d : Addr} {es : Array DictEntry} {n : Nat} {ks : List Str} (it : Addr) (D : KDict K w d es n) (T : WKs K d ks) : Turn P w K tg (ItW ks) [it] it (fun i h => h.IsKeyIter it d i es.size n) where
  mem := by simp
  obj := fun i h st b hb => by
    obtain rfl : b = it := by simpa using hb
    obtain ⟨oi, e, c, dd⟩ := st
    exact ⟨oi, e, fun v z => by rw [dd] at z; cases z⟩
  keep := fun i h h' st k => st.at fun oi e => k it (by simp) oi e
  item := by
    intro X hP hw hK hc i pins s σ H E I hf st hg
    subst hP hw hK
    obtain ⟨f0, f1, f2, f3, f4, f5⟩ := hf it (by simp)
    obtain ⟨l, q⟩ := T.all _ es n D.at_ rfl
    have hg : i < ks.length := hg
    have hi : i < es.size := by omega
    have hr : s.heap.DictRaw d es n := ⟨_, I.kIn d _ D.at_, ⟨rfl, rfl, rfl⟩, rfl⟩
    refine wpAny_pyNext_keys_item_raw st hr hi fun h' st' sb => ?_
    have I1 : Inv X pins σ H { s with heap := h' } := I.turned (t' := s.toks) (fun b ob hb e => (sb.2 b hb).trans e) f0 f1 f3 f4 f5
    obtain ⟨oi, e, c, dd⟩ := id st'
    obtain ⟨k, t, hk, ek⟩ := q i hi
    exact ⟨_, rfl, go_of (s := { s with heap := h' }) e c dd (by decide) ⟨.str k, H, I1, ⟨t, ek⟩, ⟨rfl, k, hk, rfl⟩, st', fun b hb => (hf b hb).1⟩⟩
  done := by
    intro X hP hw hK hc i pins s σ H E I hf st hg
    subst hP hw hK
    obtain ⟨f0, f1, f2, f3, f4, f5⟩ := hf it (by simp)
    obtain ⟨l, q⟩ := T.all _ es n D.at_ rfl
    have hg : ks.length ≤ i := hg
    exact next_key_end (I.ok.hd hc) st (I.kIn d _ D.at_) rfl rfl (by omega) fun h' eb => ⟨rfl, I.turned (t' := s.toks) (fun b ob hb e => eb b ob hb e) f0 f1 f3 f4 f5⟩
  self := fun A i s Q E st h => wpAny_pyIter_keyiter st h
end
def iWd (ks : List Str) : IF := fun _ μ => .ok (.sq (.rt (ks.map .str))) μ
section
variable {G : Cf} {X : Cx} {W : XK} {tg : Expr} {x : Str} {c : Nat} {ks : List Str} {pos : Pos} {i : Expr} {fi : EF}
theorem i_wd (hK : X.K = G.K) (hm : X.mg x = some (.ref (G.ca c))) (T : WDk G.K X.w (G.ca c) ks) (T2 : WKs G.K (G.ca c) ks) (hg : Gl X x := by rfl) (hd : (x == ("__debug__" : Str)) = false := by decide) : DI G X W tg (.Name x pos) (iWd ks) := by
  refine ⟨fun pins s σV H R I h => ?_⟩
  obtain ⟨σ, w, S, RS, A⟩ := h
  refine thn ((pe_glob (X := X) (v := .ref (G.ca c)) hg hm rfl hd).run pins s σV H (fun y H1 => y = .ref (G.ca c) ∧ H1 = H) I ⟨rfl, rfl⟩) fun u s1 ⟨y, H1, I1, ry, e1, e2⟩ => ?_
  subst e1 e2
  obtain rfl : u = Value.ref (G.ca c) := ry
  obtain ⟨es, n, D, _⟩ := T.ex
  have D' : KDict X.K X.w (G.ca c) es n := by rw [hK]; exact D
  have T2' : WKs X.K (G.ca c) ks := by rw [hK]; exact T2
  refine iter_keys D'.low (I1.kIn _ _ D'.at_) ⟨rfl, rfl, rfl⟩ rfl (pi_one (tk := s1.toks) (J := ItW ks) I1 _ (turn_w _ D' T2') ⟨_, Heap.get?_push_size _ rfl, rfl, rfl⟩ (A.now S ?_))
  intro w2 H2 l2 S2 j
  show YldOk G (ItW ks) w2 H2 j (some ((ks.map DL.D.str)[j]?))
  cases e : (ks.map DL.D.str)[j]? with
  | none =>
    have : ks.length ≤ j := by simpa using e
    exact this
  | some d =>
    obtain ⟨k, hk, rfl⟩ : ∃ k, ks[j]? = some k ∧ DL.D.str k = d := by
      rw [List.getElem?_map] at e
      cases q : ks[j]? with
      | none => rw [q] at e; cases e
      | some k => rw [q] at e; cases e; exact ⟨k, rfl, rfl⟩
    refine ⟨(List.getElem?_eq_some_iff.mp hk).1, fun y H' yy => ?_⟩
    obtain ⟨rfl, k', hk', rfl⟩ := yy
    rw [hk] at hk'; cases hk'
    exact ⟨w2, Le.refl w2, rfl, S2, rep_str.mpr rfl⟩
/-- d[k] of a written dict of flat values -/
def fDgW (kvs : List (Str × D)) (fi : EF) : EF := fun σ μ => (fi σ μ).bind fun i μ => match i with
  | .str z => (match kvs.lookup z with
    | some d => .ok d μ
    | none => .stuck)
  | _ => .stuck
theorem lookup_mem {α β : Type} [BEq α] [LawfulBEq α] {a : α} {b : β} : ∀ {l : List (α × β)}, l.lookup a = some b → (a, b) ∈ l
  | [], h => by simp at h
  | (k, v) :: r, h => by
    rw [List.lookup_cons] at h
    cases e : a == k with
    | true => rw [e] at h; cases h; rw [beq_iff_eq.mp e]; exact List.mem_cons_self
    | false => rw [e] at h; exact List.mem_cons_of_mem _ (lookup_mem h)
theorem flat1_rep {w : Wd} {d : DL.D} {v : V} (h : flatV d = some v) : G.Rep w d v := by
  cases d <;> simp [flatV] at h <;> subst h <;> simp only [Cf.Rep, Rep]
theorem d_dgw {kvs : List (Str × D)} (hK : X.K = G.K) (hm : X.mg x = some (.ref (G.ca c))) (T : WDk G.K X.w (G.ca c) ks) (V : WVs G.K (G.ca c) kvs) (hi : DE G X W i fi) (hg : Gl X x := by rfl) (hd : (x == ("__debug__" : Str)) = false := by decide) (hs : PlainIx i := by exact fun _ _ => rfl) : DE G X W (.Subscript (.Name x pos) i p) (fDgW kvs fi) := by
  refine peI (pe_ix ix_kdict (pe_glob (X := X) (v := .ref (G.ca c)) hg hm rfl hd) hi hs) fun σV H Q h => ?_
  obtain ⟨σ, w, S, R, A⟩ := h
  refine ⟨σ, w, S, R, (After.bind (R := G.Rep) A).mono fun y H1 ⟨w1, di, l1, S1, ry, A1⟩ => ?_⟩
  split at A1
  · rename_i z
    rw [rep_str] at ry; subst ry
    split at A1
    · rename_i d hz
      obtain ⟨u, v, e1, e2, e3⟩ := V.all _ (lookup_mem hz)
      obtain ⟨es, n, D, _⟩ := T.ex
      exact ⟨_, z, v, rfl, rfl, ⟨es, n, u, by rw [hK]; exact D.at_, D.lit, by rw [hK]; exact e1, e3⟩, A1.now S1 (flat1_rep e2)⟩
    · exact A1.elim
  · exact A1.elim
end
end DL
/-! text DL37 -/
/-! dict comprehensions whose keys are tuples -/
namespace DL
open PySem PySem.Spec PyProof.Rows L2
/-- an entry with a tuple for its key is stored -/
theorem d_storeT {X : Cx} {pins : List (Addr × Obj)} {σ : L2.St} {H : Hp} {s : Shared} {E : Value → Shared → Prop} {d b : Addr} {ents : List (List Key × V)} {k : List Key} {v : V} {u r : Value} {Q : Unit → Shared → Prop} (hu : X.A.units + 64 < cLine) (I : Inv X pins σ H s) (hd : H d = some (.dT ents)) (hb : H b = some (.tup (k.map kV))) (hz : ents.length < sizeLine)
    (ru : RelV (.ref b) u) (rv : RelV v r) (h : ∀ s', Inv X pins σ (upd H d (.dT (putK ents k v))) s' → Q () s') : wpAny (model X.prog X.w) X.A (dictSet d u r) Q E s := by
  obtain rfl : u = Value.ref b := ru
  obtain ⟨z, hm, xs, rel, dd⟩ := dt_of I.hok hd
  have hx : xs.length ≤ sizeLine := by rw [← Paired.length rel]; exact z
  have hl : (putK ents k v).length ≤ sizeLine := by have := length_putK ents k v; omega
  have room : (tupleKind (mixKind X.prog X.w)).room X.A := show X.A.units < cLine by omega
  refine wpAny_dictSet_heap (hsz := hx) room (key_of I.hok hb) dd fun h' dd' sb => h _ ?_
  obtain ⟨o, es, ep, g1, g2, g3, g4, _, g5⟩ := dd'
  exact d_write I (by rw [hd]; exact True.intro) sb ⟨o, g1⟩ ⟨hl, hm, _, (rel.put k hb rv).keeps fun c ys ec => by rw [upd_ne (ne_of ec hd (fun z => nomatch z))]; exact ec, o, es, ep, g1, g2, g3, g4, g5⟩
section
variable {X : Cx}
/-- {k: v for target in iter if ..}, the keys tuples -/
def tDcT (wi : TI) (g : TG) (tt : TT) (tk tv : TE) (vs : List Nat) : TE := fun σ H Q => wi σ H fun J H1 => ∀ D, H1 D = none → ∃ W : Nat → Nat → Hp → Prop, (∃ m, W 0 m (upd H1 D (.dT []))) ∧ ∀ i m H, W i m H →
  (J.stop i H ∧ Q (.ref D) H) ∨ (J.go i H ∧ ∃ Nx : Hp → Prop, (∀ H', Nx H' → ∃ m', m' < m ∧ W (i + 1) m' H') ∧ ∀ x H', J.yld i H x H' → g x (wipe σ vs) H' fun σ2 H2 => wipe σ2 vs = wipe σ vs ∧ tt σ2 H2 fun b H3 =>
    if b = true then tk σ2 H3 fun y H4 => tv σ2 H4 fun z H5 => ∃ kvs k c, y = .ref c ∧ H5 c = some (.tup (k.map kV)) ∧ H5 D = some (.dT kvs) ∧ kvs.length < sizeLine ∧ Nx (upd H5 D (.dT (putK kvs k z))) else Nx H3)
theorem dt_core {pins : List (Addr × Obj)} {s : Shared} {σ : L2.St} {H : Hp} {Q : VK} {kexp vexp tgx itx : Expr} {conds : List Expr} {scp : Scope} {owns : List (Str × Nat)} {posa posb : Pos} {wi : TI} {g : TG} {tt : TT} {tk tv : TE} {use : Option (Value → Sem Unit)} {Qf : Value → Shared → Prop}
    (hu : X.A.units + 64 < cLine) (hc : X.calm = true) (hN : X.N.Nodup) (I : Inv X pins σ H s) (hi : PI X tgx itx wi) (ok : BlkOk X.N X.env.scope scp owns)
    (hg : ∀ (s : Shared) (H : Hp) (C : Addr) (cl : List (Str × Addr)) (fps : List Addr), PG (X.blk s H scp (compEnvC scp cl C X.env) fps) tgx g) (ht : ∀ (s : Shared) (H : Hp) (C : Addr) (cl : List (Str × Addr)) (fps : List Addr), PTs (X.blk s H scp (compEnvC scp cl C X.env) fps) conds tt)
    (hk : ∀ (s : Shared) (H : Hp) (C : Addr) (cl : List (Str × Addr)) (fps : List Addr), PE (X.blk s H scp (compEnvC scp cl C X.env) fps) kexp tk)
    (he : ∀ (s : Shared) (H : Hp) (C : Addr) (cl : List (Str × Addr)) (fps : List Addr), PE (X.blk s H scp (compEnvC scp cl C X.env) fps) vexp tv) (hfold : ∀ x, foldedSetIterable itx X.env x = pure x)
    (h : tDcT wi g tt tk tv (owns.map (·.2)) σ H Q)
    (hEnd : ∀ D C s' m H', Inv X pins σ H' s' → Q (.ref D) H' → s'.heap.Ns C m → FpOk X pins H' C → compPost (model X.prog X.w) X.A X.xe use Qf (.ref D) C (.ok .next) s') :
    wpAny (model X.prog X.w) X.A (comprehension (.DictComp kexp vexp [⟨tgx, itx, conds, 0⟩] scp posa) scp X.env posb newDict false (eval itx X.env) use) Qf X.xe s := by
  have hfr : ∀ y ∈ scp.names, y.2 = .free → ∃ c, X.env.cells.lookup y.1 = some c := fun y hy e => by
    rcases ok.free y hy e with k | k
    · exact I.ok.has _ (.inl k)
    · exact I.ok.has _ (.inr k)
  refine wpAny_comprehension_free (use := use) rfl hfold (closure_ok hfr) ok.kind (fun y hy e => by rw [ok.uniq y hy, e])
    (thn (hi.run pins s σ H _ I h) fun xval t1 hxx => thn hxx fun itval t2 hh2 => ?_)
  obtain ⟨it, fps, tnn, J, M2, e, J2, T, sv2, fq2, q⟩ := hh2
  subst e
  refine wpAny_newObj_type (newEnv_comp ?_)
  generalize eqD : t2.heap.objs.size = D
  have eqDn : M2 D = none := J2.hok.fresh (Nat.le_of_eq eqD)
  obtain ⟨W, ⟨mm0, ww0⟩, hturn⟩ := q D eqDn
  -- the new list
  generalize hs3 : ({ t2 with heap := t2.heap.push { cls := .type "dict", data := .dict #[] } } : Shared) = t3
  have J3 : Inv X pins σ (upd M2 D (.dT [])) t3 := by
    rw [← hs3]
    refine J2.laid (t' := t2.toks) (fun b o e => Heap.get?_push_of_some _ e) (Nat.le_of_eq eqD) ?_
    rw [← eqD]
    exact dt_empty t2.heap J2.big
  have hh3 : t3.heap = t2.heap.push { cls := .type "dict", data := .dict #[] } := by rw [← hs3]
  have sz : ∀ b ∈ fps, b < t2.heap.objs.size := fun b hb => by
    obtain ⟨o, e, _⟩ := T.obj _ _ sv2 b hb
    exact Heap.lt_size e
  have fq3 : ∀ b ∈ fps, FpOk X pins (upd M2 D (.dT [])) b ∧ b < t3.heap.objs.size := fun b hb => by
    have hlt := sz b hb
    refine ⟨⟨?_, (fq2 b hb).2⟩, by rw [hh3, Heap.size_push]; exact Nat.lt_succ_of_lt hlt⟩
    rw [upd_ne (by rw [← eqD]; exact Nat.ne_of_lt hlt)]
    exact (fq2 b hb).1
  have sv3 : tnn 0 t3.heap := T.keep _ _ _ sv2 fun b _ o e => by rw [hh3]; exact Heap.get?_push_of_some _ e
  have J4 := block_start J3 ok hN fq3
  have bg := hg t3 (upd M2 D (.dT [])) t3.heap.objs.size (cellsFrom (t3.heap.objs.size + 1) scp.names (cloFrom X.env.cells scp.names [])) fps
  have bt := ht t3 (upd M2 D (.dT [])) t3.heap.objs.size (cellsFrom (t3.heap.objs.size + 1) scp.names (cloFrom X.env.cells scp.names [])) fps
  have bk := hk t3 (upd M2 D (.dT [])) t3.heap.objs.size (cellsFrom (t3.heap.objs.size + 1) scp.names (cloFrom X.env.cells scp.names [])) fps
  have be := he t3 (upd M2 D (.dT [])) t3.heap.objs.size (cellsFrom (t3.heap.objs.size + 1) scp.names (cloFrom X.env.cells scp.names [])) fps
  show codeAny _ _ (.compStart (.DictComp kexp vexp [⟨tgx, itx, conds, 0⟩] scp posa) 0 (.ref it) (.ref D) (compEnvC scp (cellsFrom (t3.heap.objs.size + 1) scp.names (cloFrom X.env.cells scp.names [])) t3.heap.objs.size X.env)) (compPost (model X.prog X.w) X.A X.xe use Qf (.ref D) t3.heap.objs.size) { t3 with heap := pushCells (t3.heap.push { cls := .type "dict", data := .dict #[] }) scp.names }
  have nofp : ∀ b ∈ fps, (upd M2 D (.dT [])) b = none := fun b hb => (fq3 b hb).1.1
  generalize hce : compEnvC scp (cellsFrom (t3.heap.objs.size + 1) scp.names (cloFrom X.env.cells scp.names [])) t3.heap.objs.size X.env = cenv at J4 bg bt bk be ⊢
  have eqL : cenv.locals = t3.heap.objs.size := by subst hce; rfl
  generalize hH3 : upd M2 D (.dT []) = M3 at J3 J4 bg bt bk be ww0 nofp fq3
  generalize hs4 : ({ t3 with heap := pushCells (t3.heap.push { cls := .type "dict", data := .dict #[] }) scp.names } : Shared) = t4 at J4 ⊢
  have sv4 : tnn 0 t4.heap := T.keep _ _ _ sv3 fun b _ o e => by rw [← hs4]; exact pushCells_keeps _ _ _ _ (Heap.get?_push_of_some _ e)
  have stnd : ∀ {σ' : L2.St} {H' : Hp} {s' : Shared}, Inv (X.blk t3 M3 scp cenv fps) [] σ' H' s' → (∀ b ∈ fps, H' b = none) → ∀ b ∈ fps, FpOk (X.blk t3 M3 scp cenv fps) [] H' b := fun {σ' H' s'} I' hns b hb =>
    ⟨hns b hb, (I'.ok.exf b hb).1, I'.ok.exfs b hb, .inl hb, fun x c e => (I'.ok.exf b hb).2 x c e, fun p hp => absurd (show p ∈ ([] : List (Addr × Obj)) ++ [] from hp) (by simp)⟩
  have theLoop : codeAny (model X.prog X.w) X.A (.compLoop (.DictComp kexp vexp [⟨tgx, itx, conds, 0⟩] scp posa) 0 (.ref it) (.ref D) cenv) (compPost (model X.prog X.w) X.A X.xe use Qf (.ref D) t3.heap.objs.size) t4 := by
    refine compLoop_anyD (fun n s' => ∃ i H', Inv (X.blk t3 M3 scp cenv fps) [] (wipe σ (owns.map (·.2))) H' s' ∧ tnn i s'.heap ∧ (∀ b ∈ fps, H' b = none) ∧ W i n H') ?_ mm0 ⟨0, M3, J4, sv4, nofp, ww0⟩
    rintro n t5 ⟨i, M5, J5, sv5, nn5, ww5⟩
    rcases hturn i n M5 ww5 with ⟨hstop, qend⟩ | ⟨hgo, Nx, nextOk, hstep⟩
    · have wd := T.done (X.blk t3 M3 scp cenv fps) rfl rfl rfl hc i [] t5 _ M5 (fun _ _ => False) J5 (stnd J5 nn5) sv5 hstop
      refine thnF wd fun r t6 ⟨hr, J6⟩ => ?_
      subst hr
      -- back in the def's context
      have J7 : Inv X pins σ M5 t6 := J3.call' (ch := fps) J6.os J6.base J6.hok J6.bare fun b hb => ⟨(fq3 b hb).1.2.2.2.1, (fq3 b hb).1.2.1, (fq3 b hb).1.2.2.2.2.1, (fq3 b hb).1.2.2.2.2.2⟩
      have noC : M5 t3.heap.objs.size = none := by
        have z : M5 cenv.locals = none := J6.free
        rw [eqL] at z
        exact z
      obtain ⟨m, hns, _⟩ := J6.loc
      have hns : t6.heap.Ns cenv.locals m := hns
      rw [eqL] at hns
      exact hEnd D t3.heap.objs.size t6 m M5 J7 qend hns (J3.fpOk (Nat.le_refl _) noC)
    · have wi2 := T.item (X.blk t3 M3 scp cenv fps) rfl rfl rfl hc i [] t5 _ M5 (fun _ _ => False) J5 (stnd J5 nn5) sv5 hgo
      refine thnF wi2 fun r t6 ⟨u, hr, hh6⟩ => ?_
      subst hr
      refine thnF hh6 fun _ t7 ⟨x, M7, J7, rr7, yy7, sv7, nn7⟩ => ?_
      have J7' := J7.pinned (stnd J7 nn7) (T.obj _ _ sv7)
      refine thnF (bg.run _ t7 _ M7 x u _ J7' rr7 (hstep x M7 yy7)) fun _ t8 ⟨τ8, M8, J8, hww8, qq8⟩ => ?_
      refine thnF (bt.run _ t8 τ8 M8 _ J8 qq8) fun b t9 ⟨M9, J9, qq9⟩ => ?_
      -- the turn's end
      have wrap : ∀ {s' : Shared} {H' : Hp}, Inv (X.blk t3 M3 scp cenv fps) ([] ++ pinsAt fps t7.heap) τ8 H' s' → Nx H' → ∃ m, m < n ∧ ∃ i H', Inv (X.blk t3 M3 scp cenv fps) [] (wipe σ (owns.map (·.2))) H' s' ∧ tnn i s'.heap ∧ (∀ b ∈ fps, H' b = none) ∧ W i m H' := fun {s' H'} I' nxt => by
        obtain ⟨m', hm, w'⟩ := nextOk H' nxt
        have pinned2 : ∀ b ∈ fps, ∀ o, t7.heap.get? b = some o → s'.heap.get? b = some o ∧ H' b = none := fun b hb o e =>
          let z := I'.pin (b, o) (List.mem_append_right _ (List.mem_append_right _ (mem_pinsAt hb e)))
          ⟨z.1, z.2.1⟩
        have hl : (wipe σ (owns.map (·.2))).length = τ8.length := by rw [← hww8, wipe_length]
        refine ⟨m', hm, i + 1, H', (I'.unpinned (pins := [])).weak hl (fun j v e => ?_), T.keep _ _ _ sv7 fun b hb o e => (pinned2 b hb o e).1, fun b hb => ?_, w'⟩
        · rw [← hww8] at e
          exact (wipe_some e).1
        · obtain ⟨o, e, _⟩ := T.obj _ _ sv7 b hb
          exact (pinned2 b hb o e).2
      cases b with
      | false =>
        simp only [Bool.false_eq_true, if_false] at qq9 ⊢
        exact wrap J9 qq9
      | true =>
        simp only [if_true] at qq9 ⊢
        refine thnF (bk.run _ t9 τ8 M9 _ J9 qq9) fun z t10 ⟨ykey, M10, J10, rr10, qq10⟩ => ?_
        refine thnF (be.run _ t10 τ8 M10 _ J10 qq10) fun zz2 t11 ⟨yval, M11, J11, rr11, ents, k, bb, ekey, hbb, hD11, hz11, nxt⟩ => ?_
        subst ekey
        exact d_storeT (X := X.blk t3 M3 scp cenv fps) hu J11 hD11 hbb hz11 rr10 rr11 fun t12 J12 => wrap J12 nxt
  exact codeAny_compStart_dict theLoop (T.self X.A 0 _ _ _ sv4 theLoop)
/-- as a value -/
theorem pe_dcT {kexp vexp tgx itx : Expr} {conds : List Expr} {scp : Scope} {owns : List (Str × Nat)} {posa : Pos} {wi : TI} {g : TG} {tt : TT} {tk tv : TE} (hu : X.A.units + 64 < cLine) (hc : X.calm = true) (hN : X.N.Nodup) (hi : PI X tgx itx wi) (ok : BlkOk X.N X.env.scope scp owns)
    (hg : ∀ (s : Shared) (H : Hp) (C : Addr) (cl : List (Str × Addr)) (fps : List Addr), PG (X.blk s H scp (compEnvC scp cl C X.env) fps) tgx g) (ht : ∀ (s : Shared) (H : Hp) (C : Addr) (cl : List (Str × Addr)) (fps : List Addr), PTs (X.blk s H scp (compEnvC scp cl C X.env) fps) conds tt)
    (hk : ∀ (s : Shared) (H : Hp) (C : Addr) (cl : List (Str × Addr)) (fps : List Addr), PE (X.blk s H scp (compEnvC scp cl C X.env) fps) kexp tk)
    (he : ∀ (s : Shared) (H : Hp) (C : Addr) (cl : List (Str × Addr)) (fps : List Addr), PE (X.blk s H scp (compEnvC scp cl C X.env) fps) vexp tv) (hfold : ∀ x, foldedSetIterable itx X.env x = pure x := by intro _; rfl) :
    PE X (.DictComp kexp vexp [⟨tgx, itx, conds, 0⟩] scp posa) (tDcT wi g tt tk tv (owns.map (·.2))) := by
  refine ⟨fun pins s σ H Q I h => ?_⟩
  rw [arm_eval_DictComp]
  refine dt_core hu hc hN I hi ok hg ht hk he hfold h fun D C s' m H' I' q hns f => ⟨m, hns, fun h'' sb => ?_⟩
  obtain ⟨fq0, fq1, fq2, fq3, fq4, fq5⟩ := f
  exact ⟨.ref D, H', I'.turned (t' := s'.toks) (fun b o hb e => (sb.2 b hb).trans e) fq0 fq1 fq3 fq4 fq5, rfl, q⟩
end
end DL
/-! text DL38 -/
/-! dict comprehensions whose keys are tuples, over data -/
namespace DL
open PySem PySem.Spec PyProof.Rows L2
def newDt (m : Bool) (ks : List (List Key)) (xs : List D) (μ : Store) : D × Store := if m = true then (.loc μ.length, μ ++ [.dT ks xs]) else (.dT ks xs, μ)
def keyT : D → Option (List Key)
  | .tup es => es.mapM keyD
  | _ => none
def putT {α : Type} (l : List (List Key × α)) (k : List Key) (x : α) : List (List Key × α) := if (l.any fun p => decide (p.1 = k)) = true then l.map (fun p => if p.1 = k then (p.1, x) else p) else l ++ [(k, x)]
section
variable {G : Cf} {X : Cx} {W : XK} {fi : IF} {g : TgF} {ft : BF} {fk fv : EF} {tg : Expr} {pos : Pos}
/-- keys and values as the heap has them -/
def KTr (G : Cf) (w : Wd) (acc : List (List Key × D)) (kvs : List (List Key × V)) : Prop := kvs.map (·.1) = acc.map (·.1) ∧ G.Reps w (acc.map (·.2)) (kvs.map (·.2))
theorem KTr.nil {w : Wd} : KTr G w [] [] := ⟨rfl, Reps.nil⟩
theorem KTr.len {w : Wd} {acc : List (List Key × D)} {kvs : List (List Key × V)} (r : KTr G w acc kvs) : acc.length = kvs.length := by
  have := congrArg List.length r.1
  rw [List.length_map, List.length_map] at this
  exact this.symm
theorem KTr.uncons {w : Wd} {p : List Key × D} {acc : List (List Key × D)} {q : List Key × V} {kvs : List (List Key × V)} (r : KTr G w (p :: acc) (q :: kvs)) : q.1 = p.1 ∧ G.Rep w p.2 q.2 ∧ KTr G w acc kvs := by
  obtain ⟨e, r⟩ := r
  simp only [List.map_cons, List.cons.injEq] at e
  simp only [List.map_cons, Cf.Reps, Reps] at r
  obtain ⟨v, vs, e2, r1, r2⟩ := r
  cases e2
  exact ⟨e.1, r1, e.2, r2⟩
theorem KTr.cons {w : Wd} {p : List Key × D} {acc : List (List Key × D)} {q : List Key × V} {kvs : List (List Key × V)} (e : q.1 = p.1) (r1 : G.Rep w p.2 q.2) (r : KTr G w acc kvs) : KTr G w (p :: acc) (q :: kvs) :=
  ⟨by rw [List.map_cons, List.map_cons, e, r.1], by rw [List.map_cons, List.map_cons]; exact Reps.cons r1 r.2⟩
theorem KTr.ind {w : Wd} {motive : List (List Key × D) → List (List Key × V) → Prop} (n : motive [] []) (c : ∀ p acc q kvs, q.1 = p.1 → G.Rep w p.2 q.2 → KTr G w acc kvs → motive acc kvs → motive (p :: acc) (q :: kvs)) : ∀ {acc : List (List Key × D)} {kvs : List (List Key × V)}, KTr G w acc kvs → motive acc kvs
  | [], [], _ => n
  | [], _ :: _, r => by have := r.len; simp at this
  | _ :: _, [], r => by have := r.len; simp at this
  | p :: acc, q :: kvs, r => c p acc q kvs r.uncons.1 r.uncons.2.1 r.uncons.2.2 (KTr.ind n c r.uncons.2.2)
theorem KTr.append {w : Wd} {a b : List (List Key × D)} {x y : List (List Key × V)} (r : KTr G w a x) (s : KTr G w b y) : KTr G w (a ++ b) (x ++ y) :=
  KTr.ind (motive := fun a x => KTr G w (a ++ b) (x ++ y)) s (fun _ _ _ _ e r1 _ ih => KTr.cons e r1 ih) r
theorem KTr.put {w : Wd} {acc : List (List Key × D)} {kvs : List (List Key × V)} (r : KTr G w acc kvs) (k : List Key) {d : D} {v : V} (rv : G.Rep w d v) : KTr G w (putT acc k d) (putK kvs k v) := by
  have ea : (kvs.any fun kv => decide (kv.1 = k)) = (acc.any fun p => decide (p.1 = k)) :=
    KTr.ind (motive := fun acc kvs => (kvs.any fun kv => decide (kv.1 = k)) = (acc.any fun p => decide (p.1 = k))) rfl (fun p acc q kvs e _ _ ih => by rw [List.any_cons, List.any_cons, ih, e]) r
  unfold putT putK
  rw [ea]
  split
  · refine KTr.ind (motive := fun acc kvs => KTr G w (acc.map fun p => if p.1 = k then (p.1, d) else p) (kvs.map fun kv => if kv.1 = k then (kv.1, v) else kv)) KTr.nil (fun p acc q kvs e r1 _ ih => ?_) r
    rw [List.map_cons, List.map_cons]
    by_cases c : p.1 = k
    · rw [if_pos c, if_pos (e.trans c)]
      exact KTr.cons e rv ih
    · rw [if_neg c, if_neg (fun z => c (e.symm.trans z))]
      exact KTr.cons e r1 ih
  · exact r.append (KTr.cons rfl rv KTr.nil)
theorem KTr.mono {w w' : Wd} (l : LeX w w') {acc : List (List Key × D)} {kvs : List (List Key × V)} (r : KTr G w acc kvs) : KTr G w' acc kvs := ⟨r.1, Reps.mono l _ _ r.2⟩
theorem KTr.same {w w' : Wd} (e1 : w'.F = w.F) (e2 : w'.m = w.m) (e3 : w'.μ = w.μ) {acc : List (List Key × D)} {kvs : List (List Key × V)} (r : KTr G w acc kvs) : KTr G w' acc kvs := ⟨r.1, Reps.mono (w := w) ⟨by rw [e1]; exact Same.refl _, by rw [e3]; exact Nat.le_refl _, fun _ _ => by rw [e2]⟩ _ _ r.2⟩
theorem KTr.zip {w : Wd} {acc : List (List Key × D)} {kvs : List (List Key × V)} (r : KTr G w acc kvs) : kvs = (acc.map (·.1)).zip (kvs.map (·.2)) := by
  rw [← r.1, zip_fst_snd]
def loopT (g : TgF) (ft : BF) (fk fv : EF) (own : List Nat) (src : Src) (σ : Sg) : Nat → Nat → List (List Key × D) → Store → Res (List (List Key × D))
  | 0, _, _, _ => .stuck
  | k + 1, i, acc, μ => match src.at μ i with
    | none => .stuck
    | some none => .ok acc μ
    | some (some d) => match g d (wipeD σ own) μ with
      | none => .stuck
      | some σ1 => (noX (ft σ1 μ)).bind fun t μ => if t = true then (noX (fk σ1 μ)).bind fun y μ => (noX (fv σ1 μ)).bind fun z μ => (match keyT y with
          | some key => if acc.length < cap then loopT g ft fk fv own src σ k (i + 1) (putT acc key z) μ else .stuck
          | none => .stuck)
        else loopT g ft fk fv own src σ k (i + 1) acc μ
def fDcT (m : Bool) (fi : IF) (g : TgF) (ft : BF) (fk fv : EF) (own : List Nat) : EF := fun σ μ => (fi σ μ).bind fun src μ => (loopT g ft fk fv own src σ (src.fuel μ + 1) 0 [] μ).bind fun xs μ => .ok (newDt m (xs.map (·.1)) (xs.map (·.2)) μ).1 (newDt m (xs.map (·.1)) (xs.map (·.2)) μ).2
def DcInvT (G : Cf) (W : XK) (Q : VK) (m : Bool) (w1 : Wd) (L : Addr) (k : List (List Key × D) → Store → Res (List (List Key × D))) (H : Hp) : Prop :=
  ∃ (acc : List (List Key × D)) (kvs : List (List Key × V)) (w : Wd), LeX w1 w ∧ w.Z = upd w1.Z L (.dT kvs) ∧ G.Stw w H ∧ KTr G w acc kvs ∧
    After G G.Rep (XTo G W) (unZ w1.Z w) ((k acc w.μ).bind fun xs μ => .ok (newDt m (xs.map (·.1)) (xs.map (·.2)) μ).1 (newDt m (xs.map (·.1)) (xs.map (·.2)) μ).2) Q
theorem keyT_ok {w : Wd} {H : Hp} {d : D} {v : V} {k : List Key} (S : G.Stw w H) (r : G.Rep w d v) (h : keyT d = some k) : ∃ c, v = .ref c ∧ H c = some (.tup (k.map kV)) := by
  unfold keyT at h
  split at h
  · rename_i es
    obtain ⟨a, vs, rfl, q, rr⟩ := getT_ok S r rfl
    exact ⟨a, rfl, by rw [q, keyDs_ok rr h]⟩
  · cases h
/-- the private dict stands for all to see -/
theorem dt_show {m : Bool} {w w1 : Wd} {H : Hp} {L : Addr} {acc : List (List Key × D)} {kvs : List (List Key × V)} {Q : VK} (S : G.Stw w H) (hL : w1.Z L = none) (ez : w.Z = upd w1.Z L (.dT kvs)) (r : KTr G w acc kvs)
    (A : After G G.Rep (XTo G W) (unZ w1.Z w) (.ok (newDt m (acc.map (·.1)) (acc.map (·.2)) w.μ).1 (newDt m (acc.map (·.1)) (acc.map (·.2)) w.μ).2) Q) : Q (.ref L) H := by
  have hZD : w.Z L = some (.dT kvs) := by rw [ez, upd_same]
  have hz0 : ∀ b, b ≠ L → w1.Z b = w.Z b := fun b hb => by rw [ez, upd_ne hb]
  have hl : (acc.map (·.1)).length = (kvs.map (·.2)).length := by rw [List.length_map, List.length_map, r.len]
  unfold newDt at A
  split at A
  · have S' := S.unhideL (ob := .dT (acc.map (·.1)) (acc.map (·.2))) hZD ⟨kvs.map (·.2), by rw [← r.zip], hl, r.2⟩ (Z0 := w1.Z) hL hz0
    refine A ⟨w.μ ++ [.dT (acc.map (·.1)) (acc.map (·.2))], fun n => if n = w.μ.length then L else w.m n, w.F, w1.Z⟩ H (.ref L) rfl ⟨Same.refl _, by simp, fun n hn => ?_, rfl⟩ S' ?_
    · show (if n = w.μ.length then L else w.m n) = w.m n
      have hn : n < w.μ.length := hn
      rw [if_neg (by omega)]
    · simp only [Cf.Rep, Rep]
      exact ⟨by simp, by simp⟩
  · have S' := S.unhide hZD (Z0 := w1.Z) hL hz0
    have hF : w.F L = none := (S.zd L _ hZD).1
    have le' : Le (unZ w1.Z w) { w with F := upd w.F L (.dT kvs), Z := w1.Z } := ⟨fun b u h => by show upd w.F L _ b = some u; rw [upd_ne (ne_of_none h hF)]; exact h, Nat.le_refl _, fun _ _ => rfl, rfl⟩
    refine A { w with F := upd w.F L (.dT kvs), Z := w1.Z } H (.ref L) rfl le' S' ?_
    simp only [Cf.Rep, Rep]
    exact ⟨L, kvs.map (·.2), rfl, .inl (by rw [← r.zip]; exact upd_same), hl, Reps.mono (w := w) ⟨le'.ex, le'.len, le'.mm⟩ _ _ r.2⟩
theorem tDcT_ok {own : List Nat} {m : Bool} {σV : L2.St} {H : Hp} {Q : VK} (h : tE G W (fDcT m fi g ft fk fv own) σV H Q) : tDcT (tI G W fi) (tGt G own g) (tB G W0 ft) (tE G W0 fk) (tE G W0 fv) own σV H Q := by
  obtain ⟨σ, w, S, R, A⟩ := h
  refine ⟨σ, w, S, R, (After.bind (R := fun w src J => SrcOk G J w src) A).mono fun J H1 ⟨w1, src, l1, S1, ok, A1⟩ => ?_⟩
  intro L hL
  have R1 := R.mono l1.x
  have hZ : w1.Z L = none := S1.zx.free hL
  refine ⟨fun i k H => DcInvT G W Q m w1 L (fun acc μ => loopT g ft fk fv own src σ k i acc μ) H, ⟨src.fuel w1.μ + 1, [], [], { w1 with Z := upd w1.Z L (.dT []) }, ⟨Same.refl _, Nat.le_refl _, fun _ _ => rfl⟩, rfl, S1.hide hL _, KTr.nil, A1⟩, ?_⟩
  intro i k H h
  obtain ⟨acc, vs, w, l, ez, S, ra, A⟩ := h
  replace A : After G G.Rep (XTo G W) (unZ w1.Z w) ((loopT g ft fk fv own src σ k i acc w.μ).bind fun xs μ => .ok (newDt m (xs.map (·.1)) (xs.map (·.2)) μ).1 (newDt m (xs.map (·.1)) (xs.map (·.2)) μ).2) Q := A
  cases k with
  | zero => exact A.elim
  | succ k =>
    have Y := ok w H l S i
    unfold loopT at A
    cases q : src.at w.μ i with
    | none => rw [q] at A; exact A.elim
    | some o =>
      rw [q] at A Y
      cases o with
      | none =>
        refine .inl ⟨Y, ?_⟩
        simp only [Res.bind_ok] at A
        exact dt_show S hZ ez ra A
      | some d =>
        refine .inr ⟨Y.1, DcInvT G W Q m w1 L (fun acc μ => loopT g ft fk fv own src σ k (i + 1) acc μ), fun H' h => ⟨k, Nat.lt_succ_self k, h⟩, fun x H' y => ?_⟩
        obtain ⟨w2, l2, em2, S2, rd⟩ := Y.2 x H' y
        have l12 : LeX w1 w2 := l.trans l2
        have ez2 : w2.Z = upd w1.Z L (.dT vs) := l2.z.trans ez
        have A2 : After G G.Rep (XTo G W) (unZ w1.Z w2) _ Q := A.le ⟨l2.ex, l2.len, l2.mm, rfl⟩
        cases q2 : g d (wipeD σ own) w.μ with
        | none => simp only [q2] at A2; exact A2.elim
        | some σ1 =>
          simp only [q2] at A2
          refine ⟨wipeD σ own, w2, d, S2, wipe_rep (R1.mono l12) own, rd, σ1, by rw [em2]; exact q2, fun σV1 Rσ eσ => ⟨eσ.trans (wipe_wipe σV own), σ1, w2, S2, Rσ, ?_⟩⟩
          rw [← em2] at A2
          cases q3 : ft σ1 w2.μ with
          | exc c d μ => simp only [q3, noX, Res.bind_stuck] at A2; exact A2.elim
          | stuck => simp only [q3, noX, Res.bind_stuck] at A2; exact A2.elim
          | ok t μ3 =>
            simp only [q3, noX, Res.bind_ok] at A2
            intro w3 H3 t' e3 l3 S3 et
            have et : t = t' := et
            subst et
            have ez3 : w3.Z = upd w1.Z L (.dT vs) := l3.z.trans ez2
            have A3 := A2.le (w' := unZ w1.Z w3) ⟨l3.ex, l3.len, l3.mm, rfl⟩
            have ra3 := KTr.mono (LeX.trans l2.x l3.x) ra
            cases t with
            | false =>
              simp only [Bool.false_eq_true, if_false] at A3 ⊢
              exact ⟨acc, vs, w3, l12.trans l3, ez3, S3, ra3, by rw [e3]; exact A3⟩
            | true =>
              simp only [if_true] at A3 ⊢
              refine ⟨σ1, w3, S3, Rσ.mono l3, ?_⟩
              rw [e3]
              cases q4 : fk σ1 μ3 with
              | exc c d μ => simp only [q4, noX, Res.bind_stuck] at A3; exact A3.elim
              | stuck => simp only [q4, noX, Res.bind_stuck] at A3; exact A3.elim
              | ok y μ4 =>
                simp only [q4, noX, Res.bind_ok] at A3
                intro w4 H4 v e4 l4 S4 rv
                have ez4 : w4.Z = upd w1.Z L (.dT vs) := l4.z.trans ez3
                have A4 := A3.le (w' := unZ w1.Z w4) ⟨l4.ex, l4.len, l4.mm, rfl⟩
                have ra4 := KTr.mono l4.x ra3
                refine ⟨σ1, w4, S4, (Rσ.mono l3).mono l4.x, ?_⟩
                rw [e4]
                cases q5 : fv σ1 μ4 with
                | exc c d μ => simp only [q5, noX, Res.bind_stuck] at A4; exact A4.elim
                | stuck => simp only [q5, noX, Res.bind_stuck] at A4; exact A4.elim
                | ok z μ5 =>
                  simp only [q5, noX, Res.bind_ok] at A4
                  intro w5 H5 v5 e5 l5 S5 rv5
                  have ez5 : w5.Z = upd w1.Z L (.dT vs) := l5.z.trans ez4
                  have A5 := A4.le (w' := unZ w1.Z w5) ⟨l5.ex, l5.len, l5.mm, rfl⟩
                  have ra5 := KTr.mono l5.x ra4
                  have hz5 : w5.Z L = some (.dT vs) := by rw [ez5, upd_same]
                  cases hk : keyT y with
                  | none => simp only [hk] at A5; exact A5.elim
                  | some key =>
                    simp only [hk] at A5
                    split at A5
                    · rename_i hlt
                      obtain ⟨cc, ecc, hcc⟩ := keyT_ok S5 (Rep.mono l5.x _ _ rv) hk
                      refine ⟨vs, key, cc, ecc, hcc, S5.zx L _ hz5, by rw [← ra.len, ← cap_eq]; exact hlt, ?_⟩
                      have S6 := S5.hput hz5 (.dT (putK vs key v5))
                      refine ⟨putT acc key z, putK vs key v5, { w5 with Z := upd w5.Z L (.dT (putK vs key v5)) }, ((l12.trans l3).trans l4.x).trans ⟨l5.ex, l5.len, l5.mm⟩, by show upd w5.Z L _ = _; rw [ez5, upd_upd], S6, ?_, by show After G G.Rep _ (unZ w1.Z w5) _ Q; rw [e5]; exact A5⟩
                      exact KTr.same (w := w5) (w' := { w5 with Z := upd w5.Z L (.dT (putK vs key v5)) }) rfl rfl rfl (ra5.put key rv5)
                    · exact A5.elim
theorem d_dcT {kx vx iter : Expr} {scope : Scope} {ifs : List Expr} {own : List (Str × Nat)} (m : Bool) (hu : X.A.units + 64 < cLine) (hc : X.calm = true) (hN : X.N.Nodup) (hi : DI G X W tg iter fi) (ok : BlkOk X.N X.env.scope scope own)
    (hg : ∀ (s : Shared) (H : Hp) (C : Addr) (cl : List (Str × Addr)) (fp : List Addr), DG G (X.blk s H scope (compEnvC scope cl C X.env) fp) (own.map (·.2)) tg g)
    (ht : ∀ (s : Shared) (H : Hp) (C : Addr) (cl : List (Str × Addr)) (fp : List Addr), PTs (X.blk s H scope (compEnvC scope cl C X.env) fp) ifs (tB G W0 ft))
    (hk : ∀ (s : Shared) (H : Hp) (C : Addr) (cl : List (Str × Addr)) (fp : List Addr), DE G (X.blk s H scope (compEnvC scope cl C X.env) fp) W0 kx fk)
    (hv : ∀ (s : Shared) (H : Hp) (C : Addr) (cl : List (Str × Addr)) (fp : List Addr), DE G (X.blk s H scope (compEnvC scope cl C X.env) fp) W0 vx fv) (hs : ∀ x, foldedSetIterable iter X.env x = pure x := by intro _; rfl) :
    DE G X W (.DictComp kx vx [⟨tg, iter, ifs, 0⟩] scope pos) (fDcT m fi g ft fk fv (own.map (·.2))) :=
  peI (pe_dcT hu hc hN hi ok hg ht hk hv hs) fun _ _ _ h => tDcT_ok h
end
end DL
/-! text DL39 -/
/-! list(d) of dicts; tuples in lists -/
namespace DL
open PySem PySem.Spec PyProof.Rows L2
section
variable {G : Cf} {X : Cx} {w : Wd} {H : Hp}
/-- a tuple of the heap may be taken to stand for ever -/
theorem Stw.take (S : G.Stw w H) {b : Addr} {vs : List V} (h : H b = some (.tup vs)) : ∃ w', Le w w' ∧ w'.μ = w.μ ∧ w'.Z = w.Z ∧ G.Stw w' H ∧ w'.F b = some (.tup vs) := by
  cases hF : w.F b with
  | some u =>
    have := S.ex b u hF
    rw [h] at this
    cases this
    exact ⟨w, Le.refl w, rfl, rfl, S, hF⟩
  | none =>
    have le : Le w { w with F := upd w.F b (.tup vs) } := ⟨fun a u e => by show upd w.F b (.tup vs) a = some u; rw [upd_ne (ne_of_none e hF)]; exact e, Nat.le_refl _, fun _ _ => rfl, rfl⟩
    have ne : ∀ n o, w.μ[n]? = some o → w.m n ≠ b := fun n o e c => by
      have q := (S.ob n o e).2
      rw [c, h] at q
      cases o with
      | lst xs => obtain ⟨_, z, _⟩ := q; cases z
      | dK ks xs => obtain ⟨_, z, _⟩ := q; cases z
      | dT ks xs => obtain ⟨_, z, _⟩ := q; cases z
      | ins C ns xs => obtain ⟨_, _, z, _⟩ := q; cases z
    refine ⟨{ w with F := upd w.F b (.tup vs) }, le, rfl, rfl, ⟨fun a u e => ?_, fun n o e => ?_, S.inj, S.zx, fun a u e => ⟨?_, (S.zd a u e).2⟩, S.zt⟩, upd_same⟩
    · have e : upd w.F b (.tup vs) a = some u := e
      by_cases c : a = b
      · subst c; rw [upd_same] at e; rw [← e]; exact h
      · rw [upd_ne c] at e; exact S.ex a u e
    · obtain ⟨q1, q2⟩ := S.ob n o e
      exact ⟨by show upd w.F b (.tup vs) (w.m n) = none; rw [upd_ne (ne n o e)]; exact q1, q2.mono le⟩
    · show upd w.F b (.tup vs) a = none
      have c : a ≠ b := fun c => by
        subst c
        have := S.zx a u e
        rw [h] at this
        cases this
        exact S.zt a vs e
      rw [upd_ne c]
      exact (S.zd a u e).1
def kD : Key → D
  | .inl i => .int i
  | .inr x => .str x
def tD (ks : List Key) : D := .tup (ks.map kD)
theorem kD_reps {w : Wd} : ∀ ks : List Key, G.Reps w (ks.map kD) (ks.map kV)
  | [] => Reps.nil
  | k :: ks => Reps.cons (by cases k <;> simp only [kD, kV, Cf.Rep, Rep]) (kD_reps ks)
theorem take_keys {β : Type} : ∀ {kvs : List (List Key × β)} {bs : List Addr} {w : Wd}, G.Stw w H → Paired (fun p b => H b = some (.tup (p.1.map kV))) kvs bs → ∃ w', Le w w' ∧ w'.μ = w.μ ∧ G.Stw w' H ∧ G.Reps w' (kvs.map fun p => tD p.1) (bs.map V.ref)
  | _, _, w, S, .nil => ⟨w, Le.refl w, rfl, S, Reps.nil⟩
  | _, _, w, S, .cons h t => by
    obtain ⟨w1, l1, e1, _, S1, f1⟩ := S.take h
    obtain ⟨w2, l2, e2, S2, r2⟩ := take_keys S1 t
    refine ⟨w2, l1.trans l2, e2.trans e1, S2, Reps.cons ?_ r2⟩
    simp only [tD, Cf.Rep, Rep]
    exact ⟨_, _, rfl, l2.ex _ _ f1, kD_reps _⟩
/-- list(d) -/
def oLstD (m : Bool) : OL := fun ds μ => match ds with
  | [d] => (match getPT μ d with
    | some (ks, _) => some (newL m (ks.map tD) μ)
    | none => none)
  | _ => none
theorem cr_LstD (hc : X.calm = true) (m : Bool) : CallR X (.type "list") (rLO G (oLstD m)) := by
  refine crI (call_list_dT hc) fun vs H Q h => ?_
  obtain ⟨w, ds, S, r, A⟩ := h
  unfold oLstD at A
  split at A
  · rename_i d
    obtain ⟨v, rfl, rv⟩ := r.one
    cases hx : getPT w.μ d with
    | none => rw [hx] at A; exact A.elim
    | some q =>
      obtain ⟨ks, xs⟩ := q
      rw [hx] at A
      obtain ⟨a, us, rfl, q, hl, rr⟩ := getPT_ok S rv hx
      refine ⟨a, _, rfl, q, fun p bs hp hk => ?_⟩
      obtain ⟨w1, l1, e1, S1, r1⟩ := take_keys S hk
      have e2 : (ks.zip us).map (fun p => tD p.1) = ks.map tD := by
        rw [show (fun p : List Key × V => tD p.1) = tD ∘ Prod.fst from rfl, ← List.map_map, List.map_fst_zip (by omega)]
      rw [e2] at r1
      have A1 : AftO G w1 (some (newL m (ks.map tD) w1.μ)) Q := by
        rw [e1]
        exact fun w' H' v e l s r => A w' H' v e (l1.trans l) s r
      exact newL_ok S1 r1 A1 p hp
  · exact A.elim
end
end DL
/-! text DL40 -/
/-! defs that call themselves (unrolled); is None; max and min of a list; texts times ints; split -/
namespace DL
open PySem PySem.Spec PyProof.Rows L2
section
variable {G : Cf} {P : Program} {wd : World} {mg : Str → Option Value} {base : Heap}
theorem lv {j l n : Nat} (h : j ≤ l) : j ≤ l + n := Nat.le_add_right_of_le h
/-- a def about which nothing is promised -/
def mStuck : FF := fun _ _ => .stuck
theorem fn_stuck {f : Addr} {fd : FuncData} {ps : List Str} {k : Nat} : FnOg P wd G.K mg base (L2.CX P wd) k f fd ps (spD G ps.length mStuck) :=
  ⟨fun _ _ _ _ h => h.1, fun _ _ _ _ _ _ _ _ _ _ _ _ _ _ h => by
    obtain ⟨_, ds, w, _, _, A⟩ := h
    exact (show After G G.Rep _ w (.stuck) _ from A).elim⟩
end
section
variable {G : Cf} {X : Cx}
/-! ### x is None -/
def isNonD : D → Bool
  | .non => true
  | _ => false
def oIsN : O2 := fun d e μ => match e with
  | .non => some (.bl (isNonD d), μ)
  | _ => none
def oIsNt : O2 := fun d e μ => match e with
  | .non => some (.bl (!isNonD d), μ)
  | _ => none
theorem isNon_ok {w : Wd} {d : D} {v : V} (r : G.Rep w d v) : decide (v = .non) = isNonD d := by
  cases d <;> simp only [Cf.Rep, Rep] at r
  case non => subst r; rfl
  case bl => subst r; rfl
  case int => subst r; rfl
  case str => subst r; rfl
  case ty => subst r; rfl
  case ref => subst r; rfl
  case cls => subst r; rfl
  case loc => obtain ⟨_, rfl⟩ := r; rfl
  case tup => obtain ⟨_, _, rfl, _⟩ := r; rfl
  case rt => obtain ⟨_, _, rfl, _⟩ := r; rfl
  case lst => obtain ⟨_, _, rfl, _⟩ := r; rfl
  case rl => obtain ⟨_, _, rfl, _⟩ := r; rfl
  case dK => obtain ⟨_, _, rfl, _⟩ := r; rfl
  case dT => obtain ⟨_, _, rfl, _⟩ := r; rfl
  case ins => obtain ⟨_, _, _, rfl, _⟩ := r; rfl
  case er => obtain ⟨_, _, _, rfl, _⟩ := r; rfl
theorem op_IsN : OpR X (compareOp .Is) (r2O G oIsN) := by
  refine oprI op_isN fun x y H Q h => ?_
  obtain ⟨w, d, e, S, rd, re, A⟩ := h
  unfold oIsN at A
  split at A
  · rw [rep_non] at re
    exact ⟨re, by rw [isNon_ok rd]; exact A.here S (rep_bool.mpr rfl)⟩
  · exact A.elim
theorem op_IsNt : OpR X (compareOp .IsNot) (r2O G oIsNt) := by
  refine oprI op_notN fun x y H Q h => ?_
  obtain ⟨w, d, e, S, rd, re, A⟩ := h
  unfold oIsNt at A
  split at A
  · rw [rep_non] at re
    exact ⟨re, by rw [isNon_ok rd]; exact A.here S (rep_bool.mpr rfl)⟩
  · exact A.elim
/-! ### max(xs), min(xs) of a list of ints -/
def intsOf : List D → Option (List Int)
  | [] => some []
  | .int i :: r => (intsOf r).map (i :: ·)
  | _ => none
theorem intsOf_map : ∀ ns : List Int, intsOf (ns.map DL.D.int) = some ns
  | [] => rfl
  | n :: r => by simp only [List.map_cons, intsOf, intsOf_map r, Option.map_some]
theorem intsOf_ok {w : Wd} : ∀ {xs : List D} {ns : List Int} {vs : List V}, intsOf xs = some ns → G.Reps w xs vs → vs = ns.map V.int
  | [], ns, vs, h, r => by
    cases h
    simpa [Cf.Reps, Reps] using r
  | x :: xs, ns, vs, h, r => by
    unfold intsOf at h
    split at h
    · rename_i e; cases e
    · rename_i i r' e
      cases e
      simp only [Option.map_eq_some_iff] at h
      obtain ⟨ms, h, rfl⟩ := h
      simp only [Cf.Reps, Reps] at r
      obtain ⟨v, us, rfl, rv, rr⟩ := r
      rw [List.map_cons, ← intsOf_ok h rr, rep_int.mp rv]
    · cases h
def maxI : List Int → Int
  | [] => 0
  | [n] => n
  | n :: r => max n (maxI r)
def minI : List Int → Int
  | [] => 0
  | [n] => n
  | n :: r => min n (minI r)
theorem maxI_is : ∀ {ns : List Int} {m : Int}, m ∈ ns → (∀ y ∈ ns, y ≤ m) → m = maxI ns
  | [n], m, h, _ => by simpa [maxI] using h
  | n :: k :: r, m, h, q => by
    have hm : maxI (n :: k :: r) = max n (maxI (k :: r)) := rfl
    rw [hm]
    have key : ∀ (l : List Int), l ≠ [] → maxI l ∈ l ∧ ∀ y ∈ l, y ≤ maxI l := by
      intro l
      induction l with
      | nil => intro h; exact absurd rfl h
      | cons a t ih =>
        intro _
        cases t with
        | nil => simp [maxI]
        | cons b u =>
          obtain ⟨h1, h2⟩ := ih (by simp)
          have e : maxI (a :: b :: u) = max a (maxI (b :: u)) := rfl
          rw [e]
          refine ⟨?_, fun y hy => ?_⟩
          · rcases Int.le_total a (maxI (b :: u)) with z | z
            · rw [Int.max_eq_right z]; exact List.mem_cons_of_mem _ h1
            · rw [Int.max_eq_left z]; exact List.mem_cons_self
          · rcases List.mem_cons.mp hy with rfl | hy
            · omega
            · have := h2 y hy; omega
    obtain ⟨h1, h2⟩ := key (n :: k :: r) (by simp)
    rw [hm] at h1 h2
    exact Int.le_antisymm (h2 m h) (q _ h1)
theorem minI_is : ∀ {ns : List Int} {m : Int}, m ∈ ns → (∀ y ∈ ns, m ≤ y) → m = minI ns
  | [n], m, h, _ => by simpa [minI] using h
  | n :: k :: r, m, h, q => by
    have hm : minI (n :: k :: r) = min n (minI (k :: r)) := rfl
    rw [hm]
    have key : ∀ (l : List Int), l ≠ [] → minI l ∈ l ∧ ∀ y ∈ l, minI l ≤ y := by
      intro l
      induction l with
      | nil => intro h; exact absurd rfl h
      | cons a t ih =>
        intro _
        cases t with
        | nil => simp [minI]
        | cons b u =>
          obtain ⟨h1, h2⟩ := ih (by simp)
          have e : minI (a :: b :: u) = min a (minI (b :: u)) := rfl
          rw [e]
          refine ⟨?_, fun y hy => ?_⟩
          · rcases Int.le_total a (minI (b :: u)) with z | z
            · rw [Int.min_eq_left z]; exact List.mem_cons_self
            · rw [Int.min_eq_right z]; exact List.mem_cons_of_mem _ h1
          · rcases List.mem_cons.mp hy with rfl | hy
            · omega
            · have := h2 y hy; omega
    obtain ⟨h1, h2⟩ := key (n :: k :: r) (by simp)
    rw [hm] at h1 h2
    exact Int.le_antisymm (q _ h1) (h2 m h)
def oMaxL : OL := fun ds μ => match ds with
  | [d] => match getL μ d with
    | some xs => match intsOf xs with
      | some (n :: r) => some (.int (maxI (n :: r)), μ)
      | _ => none
    | none => none
  | _ => none
def oMinL : OL := fun ds μ => match ds with
  | [d] => match getL μ d with
    | some xs => match intsOf xs with
      | some (n :: r) => some (.int (minI (n :: r)), μ)
      | _ => none
    | none => none
  | _ => none
theorem cr_MaxL (hK : X.K = G.K) (hc : X.calm = true) : CallR X (.builtin "max") (rLO G oMaxL) := by
  refine crI (cr_max hc) fun vs H Q h => ?_
  obtain ⟨w, ds, S, r, A⟩ := h
  unfold oMaxL at A
  split at A
  · split at A
    · rename_i xs hx
      split at A
      · rename_i n t hn
        obtain ⟨v, rfl, rv⟩ := r.one
        obtain ⟨a, us, rfl, q, rr⟩ := getL_ok S rv hx
        rw [intsOf_ok hn rr, ← hK] at q
        exact ⟨a, n :: t, rfl, q, by simp, fun m h1 h2 => by rw [maxI_is h1 h2]; exact A.here S (rep_int.mpr rfl)⟩
      · exact A.elim
    · exact A.elim
  · exact A.elim
theorem cr_MinL (hK : X.K = G.K) (hc : X.calm = true) : CallR X (.builtin "min") (rLO G oMinL) := by
  refine crI (cr_min hc) fun vs H Q h => ?_
  obtain ⟨w, ds, S, r, A⟩ := h
  unfold oMinL at A
  split at A
  · split at A
    · rename_i xs hx
      split at A
      · rename_i n t hn
        obtain ⟨v, rfl, rv⟩ := r.one
        obtain ⟨a, us, rfl, q, rr⟩ := getL_ok S rv hx
        rw [intsOf_ok hn rr, ← hK] at q
        exact ⟨a, n :: t, rfl, q, by simp, fun m h1 h2 => by rw [minI_is h1 h2]; exact A.here S (rep_int.mpr rfl)⟩
      · exact A.elim
    · exact A.elim
  · exact A.elim
/-! ### text.split(sep) -/
def oSplit (m : Bool) : OM := fun o ds μ => match o, ds with
  | .str a, [.str b] => if b.length ≠ 0 ∧ a.length + 2 ≤ cap then some (newL m ((Txt.split a b).map .str) μ) else none
  | _, _ => none
theorem strs_reps {w : Wd} : ∀ l : List Str, G.Reps w (l.map .str) (l.map V.str)
  | [] => Reps.nil
  | x :: r => Reps.cons (rep_str.mpr rfl) (strs_reps r)
theorem mt_Split (m : Bool) : MtR X "str.split" (rMO G (oSplit m)) := by
  refine mtI mt_split fun x xs H Q h => ?_
  obtain ⟨w, o, ds, S, ro, rs, A⟩ := h
  unfold oSplit at A
  split at A
  · rename_i a b
    split at A
    · rename_i hz
      replace ro := rep_str.mp ro
      obtain ⟨v, rfl, rv⟩ := rs.one
      replace rv := rep_str.mp rv
      exact ⟨a, b, ro, by rw [rv], by simpa using hz.1, by rw [← cap_eq]; exact hz.2, newL_ok S (strs_reps _) A⟩
    · exact A.elim
  · exact A.elim
/-! ### text * int -/
def oMulS : O2 := fun d e μ => match d, e with
  | .str x, .int k => if 0 ≤ k ∧ k ≤ 1000000 ∧ x.length * k.toNat ≤ cap then some (.str (Txt.mul x k), μ) else none
  | _, _ => none
theorem mulS_len (x : Str) (k : Int) : (Txt.mul x k).length ≤ x.length * k.toNat := by
  unfold Txt.mul
  split
  · exact Nat.zero_le _
  · split
    · rename_i h1 h2
      rcases Bool.or_eq_true_iff.mp h2 with h | h
      · have : k = 1 := by simpa using h
        subst this
        simp
      · have : x.length = 0 := by simpa using h
        rw [this]; exact Nat.zero_le _
    · show ((List.replicate k.toNat x.cps).foldl (· ++ ·) #[]).size ≤ _
      rw [size_reps]
      show 0 + k.toNat * x.length ≤ _
      rw [Nat.zero_add, Nat.mul_comm]
      exact Nat.le_refl _
theorem op_MulS : OpR X (binaryOp .Mult) (r2O G oMulS) := by
  intro pins s σ H x y v u Q I rx ry h
  obtain ⟨w, d, e, S, rd, re, A⟩ := h
  unfold oMulS at A
  split at A
  · rename_i z k
    split at A
    · rename_i hz
      obtain ⟨h1, h2, h3⟩ := hz
      replace rd := rep_str.mp rd
      replace re := rep_int.mp re
      subst rd; subst re
      obtain ⟨t, rfl⟩ := rx
      obtain ⟨n, rfl⟩ := ry
      have hl : Builtin.Str.tooLong (z.length * k.toNat) = false := by
        unfold Builtin.Str.tooLong
        have := cap_le h3
        exact decide_eq_false (by omega)
      refine SB.mul ⟨by simp only [Bool.or_eq_false_iff, decide_eq_false_iff_not]; omega, fun _ _ => ?_, fun _ _ => hl⟩ fun t' j => ⟨.str (Txt.mul z k), H, I.tok j, ⟨t', rfl⟩, A.here S (rep_str.mpr rfl)⟩
      have e1 : (z.length : Int) ≤ 16777216 ∨ k = 0 := by
        rcases Int.lt_or_le 0 k with h | h
        · refine .inl ?_
          have : 1 ≤ k.toNat := by omega
          have h4 : z.length * 1 ≤ z.length * k.toNat := Nat.mul_le_mul_left _ this
          rw [cap_val] at h3
          omega
        · exact .inr (by omega)
      rcases e1 with e1 | e1
      · have : (16777216 : Int) ≤ (2 ^ 63 - 1) / k := by
          rcases Int.lt_or_le 0 k with h | h
          · refine (Int.le_ediv_iff_mul_le h).mpr ?_
            have : (16777216 : Int) * k ≤ 16777216 * 1000000 := Int.mul_le_mul_of_nonneg_left h2 (by decide)
            omega
          · omega
        omega
      · omega
    · exact A.elim
  · exact A.elim
end
end DL
/-! text DL41 -/
/-! text.replace(written, written [, int]) in a display whose first item gives a token -/
namespace DL
open PySem PySem.Spec PyProof.Rows L2 Builtin Builtin.Str
/-- at most k times -/
def replN (x y z : Str) (k : Int) : Str :=
  if ((occurrences x y 0 x.length (limitOf x k)).isEmpty || (y.length == 0 && z.length == 0)) = true then x else glued z (partsBetween x (occurrences x y 0 x.length (limitOf x k)) y.length)
theorem replN_len (x y z : Str) (k : Int) : (replN x y z k).length ≤ x.length + (x.length + 1) * z.length := by
  unfold replN
  split
  · omega
  · have h1 := StrLaws.occ_length_le_len x y 0 x.length (limitOf x k)
    have hy : (glued y (partsBetween x (occurrences x y 0 x.length (limitOf x k)) y.length)).length = x.length := by rw [StrLaws.glued_between_self]
    rw [size_glued, length_partsBetween, Nat.add_sub_cancel] at hy
    rw [size_glued, length_partsBetween, Nat.add_sub_cancel]
    have h2 : (occurrences x y 0 x.length (limitOf x k)).length * z.length ≤ (x.length + 1) * z.length := Nat.mul_le_mul_right _ (by omega)
    omega
theorem replace3_tree (x y z : Str) (k : Int) (t u v r : Tok) (hk : (decide (k < -(2 ^ 63 : Int)) || decide (k ≥ 2 ^ 63)) = false) : «str.replace» ⟨[.str x t, .str y u, .str z v, .int k r], []⟩ =
    (if ((occurrences x y 0 x.length (limitOf x k)).isEmpty || (y.length == 0 && z.length == 0)) = true then (do rule "str.replace.nothing"; ret (.str x t)) else
      (do let same ← isSame (.str y u) (.str z v)
          if same = true then (do rule "str.replace.old-is-new"; ret (.str x t)) else
          if tooLong (x.length + (occurrences x y 0 x.length (limitOf x k)).length * z.length) = true then unsupported "str.replace:memory" else
          retStr (glued z (partsBetween x (occurrences x y 0 x.length (limitOf x k)) y.length)))) := by
  show (do let limit ← countLimit "str.replace" (some (.int k r)) (x.length + 1); _) = _
  rw [countLimit_int "str.replace" k r (x.length + 1) hk]
  rfl
theorem gives_replace3 (x y z : Str) (k : Int) (t u v r : Tok) (hk : (decide (k < -(2 ^ 63 : Int)) || decide (k ≥ 2 ^ 63)) = false) (h0 : (u == 0 || v == 0) = false) (huv : (u == v) = false) (hyz : (y == z) = false)
    (hl : tooLong (x.length + (occurrences x y 0 x.length (limitOf x k)).length * z.length) = false) :
    Gives («str.replace» ⟨[.str x t, .str y u, .str z v, .int k r], []⟩) (if ((occurrences x y 0 x.length (limitOf x k)).isEmpty || (y.length == 0 && z.length == 0)) = true then .val (.str x t) else .str (glued z (partsBetween x (occurrences x y 0 x.length (limitOf x k)) y.length))) := by
  rw [replace3_tree x y z k t u v r hk]
  cases hc : ((occurrences x y 0 x.length (limitOf x k)).isEmpty || (y.length == 0 && z.length == 0))
  · rw [isSame_str_other y z u v h0 huv hyz, hl]
    exact .of_eq rfl
  · exact .rule (.of_eq rfl)
section
variable {prog : Program} {w : World} {A : Around} {E : Value → Shared → Prop} {s : Shared} {x y z : Str} {k : Int} {t u v r : Tok} {Q : Value → Shared → Prop}
theorem call_replace3 (hu : u ≠ 0) (hv : v ≠ 0) (huv : u ≠ v) (hyz : (y == z) = false) (hk : (decide (k < -(2 ^ 63 : Int)) || decide (k ≥ 2 ^ 63)) = false) (hb : x.length + (x.length + 1) * z.length ≤ 16777216)
    (hq : ∀ t' j, Q (.str (replN x y z k) t') { s with toks := j }) : wpAny (model prog w) A (call (.builtin "str.replace") [.str x t, .str y u, .str z v, .int k r]) Q E s := by
  have h1 := StrLaws.occ_length_le_len x y 0 x.length (limitOf x k)
  have h2 : (occurrences x y 0 x.length (limitOf x k)).length * z.length ≤ (x.length + 1) * z.length := Nat.mul_le_mul_right _ (by omega)
  have hl : tooLong (x.length + (occurrences x y 0 x.length (limitOf x k)).length * z.length) = false := by
    unfold tooLong sizeLine
    exact decide_eq_false (by omega)
  refine call_gives F.slot_str_replace (typeIs_str _ _ _) F.entry_str_replace (F.args_str_replace_4 _ _ _ _) (gives_replace3 x y z k t u v r hk (by simp [hu, hv]) (by simp [huv]) hyz hl) ?_
  have fit := replN_len x y z k
  unfold replN at hq fit
  cases hc : ((occurrences x y 0 x.length (limitOf x k)).isEmpty || (y.length == 0 && z.length == 0))
  · rw [hc] at hq fit
    simp only [Bool.false_eq_true, if_false] at hq fit ⊢
    exact ⟨by rw [sizeLine_eq]; omega, hq _ _⟩
  · rw [hc] at hq
    simp only [if_true] at hq ⊢
    exact hq t s.toks
end
section
variable {G : Cf} {X : Cx} {W : XK} {o e f : Expr} {es : List Expr} {fo fa fb : EF} {ff : AF} {y z : Str} {k : Int} {i j m : Nat} {c0 c1 c2 apos pos p : Pos}
/-- behind a token -/
abbrev DET (G : Cf) (X : Cx) (W : XK) (e : Expr) (f : EF) : Prop := PET X e (tE G W f)
abbrev DAT (G : Cf) (X : Cx) (W : XK) (es : List Expr) (f : AF) : Prop := PAT X es (tAF G W f)
theorem petI {X : Cx} {e : Expr} {t t' : TE} (h : PET X e t) (q : ∀ σ H Q, t' σ H Q → t σ H Q) : PET X e t' := fun pins s σ H Q h0 I r => h pins s σ H Q h0 I (q σ H Q r)
theorem patI {X : Cx} {e : List Expr} {t t' : TA} (h : PAT X e t) (q : ∀ σ H Q, t' σ H Q → t σ H Q) : PAT X e t' := fun pos pins s σ H Q h0 I r => h pos pins s σ H Q h0 I (q σ H Q r)
theorem det_of (h : DE G X W e fa) : DET G X W e fa := fun pins s σ H Q _ I q => h.run pins s σ H Q I q
theorem dat_of (h : DA G X W es ff) : DAT G X W es ff := fun pos pins s σ H Q _ I q => h.run pos pins s σ H Q I q
theorem cons_ok {σV : L2.St} {H : Hp} {Q : List V → Hp → Prop} (h : tAF G W (aCons fa ff) σV H Q) : tCons (tE G W fa) (tAF G W ff) σV H Q := by
  obtain ⟨σ, w, S, R, A⟩ := h
  refine ⟨σ, w, S, R, (After.bind (R := G.Rep) A).mono fun x H1 ⟨w1, dx, l1, S1, rx, A1⟩ => ?_⟩
  refine ⟨σ, w1, S1, R.mono l1, (After.bind (R := G.Reps) A1).mono fun xs H2 ⟨w2, dxs, l2, S2, rxs, A2⟩ => ?_⟩
  exact A2.now S2 (Reps.cons (Rep.mono l2 _ _ rx) rxs)
theorem at_cons (ha : DET G X W e fa) (hr : DAT G X W es ff) (hs : starEach (e :: es) X.env = (false, eval e X.env) :: starEach es X.env := by rfl) : DAT G X W (e :: es) (aCons fa ff) :=
  patI (pat_cons ha hr hs) fun _ _ _ h => cons_ok h
/-- an item behind which a token is out -/
structure TkE (X : Cx) (e : Expr) (t : TE) : Prop where
  run : ∀ (pins : List (Addr × Obj)) (s : Shared) (σ : L2.St) (H : Hp) (Q : VK), L2.Inv X pins σ H s → t σ H Q → wpAny (model X.prog X.w) X.A (eval e X.env) (fun v s' => 1 ≤ s'.toks ∧ EP X pins σ Q v s') X.xe s
theorem a_consT (ha : TkE X e (tE G W fa)) (hr : DAT G X W es ff) (hs : starEach (e :: es) X.env = (false, eval e X.env) :: starEach es X.env := by rfl) : DA G X W (e :: es) (aCons fa ff) := by
  refine ⟨fun pos pins s σ H Q I h => ?_⟩
  rw [hs]
  show wpAny _ _ (spliced ((false, eval e X.env) :: backTo pos (starEach es X.env))) _ _ s
  refine Calls.spliced_cons (thn (ha.run pins s σ H _ I (cons_ok h)) fun u s1 ⟨k1, x, H1, I1, r1, q1⟩ => ?_)
  exact thn (hr pos pins s1 σ H1 _ k1 I1 q1) fun us s2 ⟨xs, H2, I2, r2, q2⟩ => ⟨x :: xs, H2, I2, .cons r1 r2, q2⟩
theorem tk_str {x : Str} : TkE X (.Constant (.str x) i p) (tE G W (fC (.str x))) := by
  refine ⟨fun pins s σ H Q I h => Calls.Constant_str ⟨by show 1 ≤ s.toks + 1; omega, ?_⟩⟩
  obtain ⟨σ, w, S, R, A⟩ := h
  exact ⟨.str x, H, I.tok _, ⟨_, rfl⟩, After.now A S (rep_str.mpr rfl)⟩
/-- e + a written text -/
theorem tk_add {op : O2} {x : Str} (ho : OpR X (binaryOp .Add) (r2O G op)) (he : DE G X W e fa) : TkE X (.BinOp e .Add (.Constant (.str x) i p) pos) (tE G W (fBin op fa (fC (.str x)))) := by
  refine ⟨fun pins s σ H Q I h => ?_⟩
  obtain ⟨σ', w, S, R, A⟩ := h
  refine wpAny_BinOp (thn (he.run pins s σ H _ I ⟨σ', w, S, R, After.bind (R := G.Rep) A⟩) fun v s1 ⟨x', H1, I1, r1, w1, d, l1, S1, rd, A1⟩ => ?_)
  refine Calls.Constant_str ?_
  have hp := ho pins { s1 with toks := s1.toks + 1 } σ H1 x' (.str x) v (.str x s1.toks) Q (I1.tok _) r1 ⟨_, rfl⟩ ?_
  · exact wpAny_mono (wpAny_toks hp) (fun u s2 q => ⟨Nat.le_trans (by show 1 ≤ s1.toks + 1; omega) q.1, q.2⟩) fun _ _ q => q.2
  · refine ⟨w1, d, .str x, S1, rd, rep_str.mpr rfl, ?_⟩
    simp only [fC, Res.bind_ok] at A1
    exact AftO.of A1
/-- o.replace(y, z) of written texts -/
def fRep (y z : Str) (fo : EF) : EF := fun σ μ => (fo σ μ).bind fun o μ => match o with
  | .str x => if x.length + (x.length + 1) * z.length ≤ cap then .ok (.str (Txt.replace x y z)) μ else .stuck
  | _ => .stuck
def fRepN (y z : Str) (k : Int) (fo : EF) : EF := fun σ μ => (fo σ μ).bind fun o μ => match o with
  | .str x => if x.length + (x.length + 1) * z.length ≤ cap then .ok (.str (replN x y z k)) μ else .stuck
  | _ => .stuck
theorem t_rep (ho : DE G X W o fo) (hyz : (y == z) = false := by decide)
    (hst : starEach [.Constant (.str y) i c0, .Constant (.str z) j c1] X.env = [(false, eval (.Constant (.str y) i c0) X.env), (false, eval (.Constant (.str z) j c1) X.env)] := by rfl)
    (hbase : attributeBase o "replace" X.env (eval o X.env) = eval o X.env := by rfl) (hline : (apos.endLine == pos.line) = true := by rfl) :
    DET G X W (.Call (.Attribute o "replace" apos) [.Constant (.str y) i c0, .Constant (.str z) j c1] [] pos) (fRep y z fo) := by
  refine petI (CwR.pet_replC ho hyz hst hbase hline) fun σV H Q h => ?_
  obtain ⟨σ, w, S, R, A⟩ := h
  refine ⟨σ, w, S, R, (After.bind (R := G.Rep) A).mono fun v H1 ⟨w1, d, l1, S1, rd, A1⟩ => ?_⟩
  split at A1
  · rename_i x
    split at A1
    · rename_i hz
      exact ⟨x, rep_str.mp rd, by rw [← cap_val]; exact hz, After.now A1 S1 (rep_str.mpr rfl)⟩
    · exact A1.elim
  · exact A1.elim
theorem t_repN (ho : DE G X W o fo) (hyz : (y == z) = false := by decide) (hk : (decide (k < -(2 ^ 63 : Int)) || decide (k ≥ 2 ^ 63)) = false := by decide)
    (hst : starEach [.Constant (.str y) i c0, .Constant (.str z) j c1, .Constant (.int k) m c2] X.env = [(false, eval (.Constant (.str y) i c0) X.env), (false, eval (.Constant (.str z) j c1) X.env), (false, eval (.Constant (.int k) m c2) X.env)] := by rfl)
    (hbase : attributeBase o "replace" X.env (eval o X.env) = eval o X.env := by rfl) (hline : (apos.endLine == pos.line) = true := by rfl) :
    DET G X W (.Call (.Attribute o "replace" apos) [.Constant (.str y) i c0, .Constant (.str z) j c1, .Constant (.int k) m c2] [] pos) (fRepN y z k fo) := by
  intro pins s σ H Q h0 I h
  obtain ⟨σ', w, S, R, A⟩ := h
  refine wpAny_Call_method_lateS hbase (by rw [hst]; rfl) hline ?_
  rw [hst]
  refine wpAny_mono (wpAny_toks (ho.run pins s σ H _ I ⟨σ', w, S, R, After.bind (R := G.Rep) A⟩)) (fun v s1 q => ?_) fun _ _ z => z.2
  obtain ⟨hk1, v', H1, I1, r1, w1, d, l1, S1, rd, A1⟩ := q
  split at A1
  · rename_i x
    split at A1
    · rename_i hz
      replace rd := rep_str.mp rd
      subst rd
      obtain ⟨tx, rfl⟩ := r1
      refine ⟨"str", _, F.plainAttrs_str, F.slot_str_replace, F.type_str_replace, typeIs_str _ _ _, (fun _ e => nomatch e), Calls.callWith_builtin rfl (Calls.evalArgs_plain (Calls.spliced_cons ?_))⟩
      refine Calls.Constant_str (k := i) (pos := c0) (Calls.spliced_cons (Calls.Constant_str (k := j) (pos := c1) (Calls.spliced_cons ?_)))
      refine thn ((pe_int (X := X) (i := k) (j := m) (pos := c2)).run pins _ σ H1 (fun x H2 => x = .int k ∧ H2 = H1) ((I1.tok _).tok _) ⟨rfl, rfl⟩) fun u s2 ⟨x2, H2, I2, r2, e1, e2⟩ => ?_
      subst e1 e2
      obtain ⟨tk, rfl⟩ := r2
      refine Calls.spliced_nil ?_
      exact call_replace3 (by show s1.toks ≠ 0; omega) (by show s1.toks + 1 ≠ 0; omega) (by show s1.toks ≠ s1.toks + 1; omega) hyz hk (by rw [← cap_val]; exact hz) fun t' n => ⟨.str (replN x y z k), H2, I2.tok n, ⟨t', rfl⟩, After.now A1 S1 (rep_str.mpr rfl)⟩
    · exact A1.elim
  · exact A1.elim
end
end DL
/-! text DL42 -/
/-! x, *y = a tuple; o[i], p[j] = a, b of lists -/
namespace DL
open PySem PySem.Spec PyProof.Rows L2
section
variable {prog : Program} {w : World} {A : Around} {E : Value → Shared → Prop} {s : Shared}
/-- a tuple's first item and a list of the others -/
theorem unpack_rest {l : Addr} {x : Value} {r : List Value} {Q : List Value → Shared → Prop} (hl : IsTup s.heap l (x :: r).toArray) (hh : A.handled = none) (hz : r.length + 1 ≤ sizeLine)
    (q : ∀ (h : Heap) (tk : Nat), (∀ b o, s.heap.get? b = some o → h.get? b = some o) → Q [x, .ref h.objs.size] { s with heap := h.push { cls := .type "list", data := .seq r.toArray }, toks := tk }) :
    wpAny (model prog w) A (unpackItems (.ref l) 2 (some 1)) Q E s := by
  have sz : (x :: r).toArray.size = r.length + 1 := by simp
  have hne : l ≠ s.heap.objs.size := by
    obtain ⟨o, ho, _⟩ := hl
    exact Nat.ne_of_lt (Heap.lt_size ho)
  unfold unpackItems
  refine wpAny_bind (?_ : wpAny _ _ (notIterableAtAll (.ref l)) _ _ _)
  refine wpAny_bind (wpAny_specialOf hl.typeIs slot_tuple_iter.lookup (wpAny_pure ?_))
  rw [if_neg Bool.false_ne_true]
  refine wpAny_bind (wpAny_holding (iter_tuple hl (wpAny_bind (wpAny_holding ?_))))
  refine draw_tuple (items := (x :: r).toArray) hne 1 0 _ _ ⟨_, Heap.get?_push_size _ rfl, rfl, rfl⟩ (hl.push _) (by rw [sz]; omega) fun h1 i1 sb => ?_
  have t1 : IsTup h1 l (x :: r).toArray := (hl.push _).extBut sb.extBut hne
  have e1 : (List.drop 0 (x :: r).toArray.toList).take 1 = [x] := by simp
  rw [e1, if_neg (by simp)]
  have lt1 : s.heap.objs.size < h1.objs.size := by
    obtain ⟨o, ho, _⟩ := i1
    exact Heap.lt_size ho
  have lt2 : l < h1.objs.size := by
    obtain ⟨o, ho, _⟩ := t1
    exact Heap.lt_size ho
  refine wpAny_bind (wpAny_holding (PySem.W.kun_collect (s := { s with heap := h1 }) (T := "tuple_iterator") (.inr (.inr (.inr rfl))) (Walks.tuple (A := A.in1) hh s.heap.objs.size l hne (x :: r).toArray) (fun j u st => st.1.typeIs) (k := 1) (by rw [sz]; omega)
    ⟨i1, t1⟩ lt1 lt2 (fun h2 tk k2 => ?_) (by rw [sz]; exact hz)))
  have e2 : (x :: r).toArray.toList.drop 1 = r := by simp
  rw [e2, if_neg (show ¬ r.length < 2 - 1 - 1 by omega)]
  have e3 : r.take (r.length - (2 - 1 - 1)) = r := by simp
  have e4 : r.drop (r.length - (2 - 1 - 1)) = [] := by simp
  refine wpAny_bind (wpAny_newList (items := r.take (r.length - (2 - 1 - 1))) (s := { s with heap := h2, toks := tk }) (wpAny_pure ?_) (by rw [e3]; omega))
  rw [e3, e4, List.append_nil]
  exact q h2 tk fun b o e => k2 b o (Nat.ne_of_lt (Heap.lt_size e)) (sb.extBut b o (Nat.ne_of_lt (Heap.lt_size e)) (Heap.get?_push_of_some _ e))
end
section
variable {X : Cx} {i j : Nat} {x y : Str} {px py ps pt pos : Pos} {kt : Nat}
def gRest (K : PySem.W.Frag) (i j : Nat) : TG := fun v σ H Q => ∃ a u us, v = .ref a ∧ SqT K H a (u :: us) ∧ ∀ p, H p = none → Q ((σ.set i (some u)).set j (some (.ref p))) (upd H p (.lst us))
theorem pg_rest (hc : X.calm = true) (hN : X.N.Nodup) (hi : X.N[i]? = some x) (hj : X.N[j]? = some y) (hx : Loc X.env.scope x) (hy : Loc X.env.scope y) (fx : X.fn x = true ∨ X.env.scope.names.lookup x = some .local) (fy : X.fn y = true ∨ X.env.scope.names.lookup y = some .local)
    (ha : (assignEach [.Name x px, .Starred (.Name y py) ps] X.env).map (·.2) = [assign (.Name x px) X.env, assign (.Name y py) X.env] := by rfl)
    (hl : (assignEach [.Name x px, .Starred (.Name y py) ps] X.env).length = 2 := by rfl) (hs : (assignEach [.Name x px, .Starred (.Name y py) ps] X.env).findIdx? (·.1) = some 1 := by rfl) :
    PG X (.Tuple [.Name x px, .Starred (.Name y py) ps] kt pt) (gRest X.K i j) := by
  refine ⟨fun pins s σ H v u Q I r h => ?_⟩
  obtain ⟨a, d, ds, rfl, hq, q⟩ := h
  cases r
  obtain ⟨its, rv, ht, hz⟩ := I.tuple hq
  cases rv with
  | cons r1 rr =>
    rename_i v1 vr
    rw [assign_Tuple]
    refine wpAny_bind (wpAny_standAt ?_)
    unfold unpack
    rw [hl, hs]
    refine wpAny_bind (wpAny_holding (unpack_rest ht (I.ok.hd hc) (by rw [← rr.length]; simpa using hz) fun h tk k => ?_))
    have I1 : Inv X pins σ H { s with heap := h, toks := tk } := I.kept k
    have I2 : Inv X pins σ (upd H h.objs.size (.lst ds)) { s with heap := h.push { cls := .type "list", data := .seq vr.toArray }, toks := tk } := I1.lnew (t' := tk) rr (by simp at hz; omega)
    rw [ha]
    refine assignInOrder_cons (thn ((pg_name hN hi hx fx).run pins _ σ _ d _ (fun σ' H' => σ' = σ.set i (some d) ∧ H' = upd H h.objs.size (.lst ds)) I2 r1 ⟨rfl, rfl⟩) fun _ s1 ⟨σ1, H1, I3, e1, e2⟩ => ?_)
    subst e1 e2
    refine assignInOrder_cons (thn ((pg_name hN hj hy fy).run pins _ _ _ (.ref h.objs.size) (.ref h.objs.size) (fun σ' H' => σ' = (σ.set i (some d)).set j (some (.ref h.objs.size)) ∧ H' = upd H h.objs.size (.lst ds)) I3 rfl ⟨rfl, rfl⟩) fun _ s2 ⟨σ2, H2, I4, e3, e4⟩ => ?_)
    subst e3 e4
    exact assignInOrder_nil ⟨_, _, I4, q _ I1.fresh⟩
end
section
variable {G : Cf} {X : Cx} {W : XK} {x y : Str} {e : Expr} {fe : EF} {px py ps pt pos : Pos} {kt : Nat}
/-- x, *y = e -/
def sRest (i j : Nat) (fe : EF) : SF := fun σ μ => sBind (fe σ μ) σ fun d μ => match d with
  | .tup (x :: xs) => .next ((σ.set i (some x)).set j (some (.lst xs))) μ
  | _ => .stuck
theorem s_rest (i j : Nat) (hK : X.K = G.K) (hc : X.calm = true) (hN : X.N.Nodup) (he : DE G X W e fe) (hi : X.N[i]? = some x := by rfl) (hj : X.N[j]? = some y := by rfl)
    (hx : Loc X.env.scope x := by first | exact Or.inl rfl | exact Or.inr rfl) (hy : Loc X.env.scope y := by first | exact Or.inl rfl | exact Or.inr rfl)
    (fx : X.fn x = true ∨ X.env.scope.names.lookup x = some .local := by first | exact .inl rfl | exact .inr rfl) (fy : X.fn y = true ∨ X.env.scope.names.lookup y = some .local := by first | exact .inl rfl | exact .inr rfl)
    (ha : (assignEach [.Name x px, .Starred (.Name y py) ps] X.env).map (·.2) = [assign (.Name x px) X.env, assign (.Name y py) X.env] := by rfl)
    (hl : (assignEach [.Name x px, .Starred (.Name y py) ps] X.env).length = 2 := by rfl) (hs : (assignEach [.Name x px, .Starred (.Name y py) ps] X.env).findIdx? (·.1) = some 1 := by rfl)
    (h1 : swapsWithSole [.Tuple [.Name x px, .Starred (.Name y py) ps] kt pt] e pos.line X.env = pure false := by rfl) (h2 : swappedStores [.Tuple [.Name x px, .Starred (.Name y py) ps] kt pt] e X.env = pure none := by rfl)
    (h3 : (assignEach [.Tuple [.Name x px, .Starred (.Name y py) ps] kt pt] X.env).map (·.2) = [assign (.Tuple [.Name x px, .Starred (.Name y py) ps] kt pt) X.env] := by rfl) :
    DS G X W (.Assign [.Tuple [.Name x px, .Starred (.Name y py) ps] kt pt] e pos) (sRest i j fe) := by
  refine psI (ps_asg he (pg_rest hc hN hi hj hx hy fx fy ha hl hs) h1 h2 h3) fun E σV H h => ?_
  obtain ⟨σ, w, S, R, A⟩ := h
  refine ⟨σ, w, S, R, (AfS.bind (R := G.Rep) A R).mono fun v H1 ⟨w1, d, l1, S1, rv, R1, A1⟩ => ?_⟩
  split at A1
  · rename_i d0 ds
    obtain ⟨a, vs, rfl, qa, rr⟩ := getT_ok S1 rv rfl
    simp only [Cf.Reps, Reps] at rr
    obtain ⟨u, us, rfl, ru, rs⟩ := rr
    refine ⟨a, u, us, rfl, .of qa, fun p hp => ?_⟩
    obtain ⟨S2, l2⟩ := S1.grow hp (.lst us)
    refine A1 { w1 with F := upd w1.F p (.lst us) } _ _ rfl l2 S2 (((R1.mono l2.x).set i (Rep.mono l2 _ _ ru)).set j ?_)
    simp only [Cf.Rep, Rep]
    exact ⟨p, us, rfl, upd_same, Reps.mono l2 _ _ rs⟩
  · exact A1.elim

/-! ### o[i], p[j] = a, b -/
variable {a b o1 i1 o2 i2 : Expr} {fa fb fo1 fi1 fo2 fi2 : EF} {p1 p2 pt2 : Pos} {k2 : Nat}
def sSet2 (ff : AF) (fo1 fi1 fo2 fi2 : EF) : SF := fun σ μ => sBind (ff σ μ) σ fun ds μ => match ds with
  | [x, y] => sBind (fo1 σ μ) σ fun o μ => sBind (fi1 σ μ) σ fun i μ => (match setAt o i x μ with
    | some μ => sBind (fo2 σ μ) σ fun p μ => sBind (fi2 σ μ) σ fun j μ => (match setAt p j y μ with
      | some μ => .next σ μ
      | none => .stuck)
    | none => .stuck)
  | _ => .stuck
theorem setAt_ok {w : Wd} {H : Hp} {o i d : DL.D} {ov iv v : V} {μ : Store} {Q : Hp → Prop} (S : G.Stw w H) (ro : G.Rep w o ov) (ri : G.Rep w i iv) (rv : G.Rep w d v) (e : setAt o i d w.μ = some μ)
    (q : ∀ (w' : Wd) (H' : Hp), w'.μ = μ → Le w w' → G.Stw w' H' → Q H') : rSetL ov iv v H Q := by
  unfold setAt at e
  split at e
  · split at e
    · rename_i xs ex
      simp only [Option.map_eq_some_iff] at e
      obtain ⟨j, hj, rfl⟩ := e
      simp only [Cf.Rep, Rep] at ro ri
      obtain ⟨hn, rfl⟩ := ro
      obtain ⟨_, vs, ho, rr⟩ := S.ob _ _ ex
      obtain ⟨S4, l4⟩ := S.put (ob := .lst (xs.set j d)) (o := .lst (vs.set j v)) hn ⟨_, rfl, Reps.set rr j rv⟩
      exact ⟨w.m _, vs, _, j, rfl, ri, ho, by rw [← Reps.len rr]; exact hj, q _ _ rfl l4 S4⟩
    · cases e
  · cases e
theorem s_set2 {ff : AF} (hK : X.K = G.K) (hc : X.calm = true) (ha : DA G X W [a, b] ff) (ho1 : DE G X W o1 fo1) (hi1 : DE G X W i1 fi1) (ho2 : DE G X W o2 fo2) (hi2 : DE G X W i2 fi2)
    (a1 : ∀ v, assign (.Subscript o1 i1 p1) X.env v = (do
      let ov ← holding [v] (eval o1 X.env)
      let iv ← holding [v, ov] (eval i1 X.env)
      standAt p1
      holding [v, ov, iv] (setItem ov iv v)
      release [v, ov, iv] []) := by intro _; rfl)
    (a2 : ∀ v, assign (.Subscript o2 i2 p2) X.env v = (do
      let ov ← holding [v] (eval o2 X.env)
      let iv ← holding [v, ov] (eval i2 X.env)
      standAt p2
      holding [v, ov, iv] (setItem ov iv v)
      release [v, ov, iv] []) := by intro _; rfl)
    (hs1 : (assignEach [.Subscript o1 i1 p1, .Subscript o2 i2 p2] X.env).map (·.2) = assign (.Subscript o1 i1 p1) X.env :: (assignEach [.Subscript o2 i2 p2] X.env).map (·.2) := by rfl)
    (hs2 : (assignEach [.Subscript o2 i2 p2] X.env).map (·.2) = assign (.Subscript o2 i2 p2) X.env :: (assignEach [] X.env).map (·.2) := by rfl)
    (hn : (assignEach [.Subscript o1 i1 p1, .Subscript o2 i2 p2] X.env).length = 2 := by rfl) (hst : (assignEach [.Subscript o1 i1 p1, .Subscript o2 i2 p2] X.env).findIdx? (·.1) = none := by rfl)
    (h1 : swapsWithSole [.Tuple [.Subscript o1 i1 p1, .Subscript o2 i2 p2] kt pt] (.Tuple [a, b] k2 pt2) pos.line X.env = pure false := by rfl) (h2 : swappedStores [.Tuple [.Subscript o1 i1 p1, .Subscript o2 i2 p2] kt pt] (.Tuple [a, b] k2 pt2) X.env = pure none := by rfl)
    (h3 : (assignEach [.Tuple [.Subscript o1 i1 p1, .Subscript o2 i2 p2] kt pt] X.env).map (·.2) = [assign (.Tuple [.Subscript o1 i1 p1, .Subscript o2 i2 p2] kt pt) X.env] := by rfl) :
    DS G X W (.Assign [.Tuple [.Subscript o1 i1 p1, .Subscript o2 i2 p2] kt pt] (.Tuple [a, b] k2 pt2) pos) (sSet2 ff fo1 fi1 fo2 fi2) := by
  refine psI (ps_asg (pe_tup ha) (pg_tup (n := 2) hc (pgs_cons (pg_sub ho1 hi1 set_list a1) (pgs_cons (pg_sub ho2 hi2 set_list a2) pgs_nil hs2) hs1) hn hst) h1 h2 h3) fun E σV H h => ?_
  obtain ⟨σ, w, S, R, A⟩ := h
  refine ⟨σ, w, S, R, (AfS.bind (R := G.Reps) A R).mono fun vs H1 ⟨w1, ds, l1, S1, r1, R1, A1⟩ => ?_⟩
  split at A1
  · rename_i x' y'
    obtain ⟨v1, v2, rfl, rx, ry⟩ := r1.two
    refine ⟨by show 2 ≤ sizeLine; decide, fun p hp => ?_⟩
    obtain ⟨S0, l0⟩ := S1.grow hp (.tup [v1, v2])
    replace A1 := A1.le l0
    replace R1 := R1.mono l0.x
    replace rx := Rep.mono l0.x _ _ rx
    replace ry := Rep.mono l0.x _ _ ry
    refine ⟨p, [v1, v2], rfl, by rw [hK]; exact .of upd_same, rfl, v1, [v2], rfl, ?_⟩
    refine ⟨σ, _, S0, R1, (AfS.bind (R := G.Rep) A1 R1).mono fun ov H2 ⟨w2, od, l2, S2, ro, R2, A2⟩ => ?_⟩
    refine ⟨σ, w2, S2, R2, (AfS.bind (R := G.Rep) A2 R2).mono fun iv H3 ⟨w3, id, l3, S3, ri, R3, A3⟩ => ?_⟩
    cases q1 : setAt od id x' w3.μ with
    | none => rw [q1] at A3; exact A3.elim
    | some μ1 =>
      rw [q1] at A3
      refine setAt_ok S3 (Rep.mono l3.x _ _ ro) ri (Rep.mono (l2.trans l3).x _ _ rx) q1 fun w4 H4 e4 l4 S4 => ?_
      refine ⟨v2, [], rfl, ?_⟩
      have A4 := A3.le l4
      rw [← e4] at A4
      have R4 := R3.mono l4.x
      refine ⟨σ, w4, S4, R4, (AfS.bind (R := G.Rep) A4 R4).mono fun ov H5 ⟨w5, pd, l5, S5, rp, R5, A5⟩ => ?_⟩
      refine ⟨σ, w5, S5, R5, (AfS.bind (R := G.Rep) A5 R5).mono fun iv H6 ⟨w6, jd, l6, S6, rj, R6, A6⟩ => ?_⟩
      cases q2 : setAt pd jd y' w6.μ with
      | none => rw [q2] at A6; exact A6.elim
      | some μ2 =>
        rw [q2] at A6
        refine setAt_ok S6 (Rep.mono l6.x _ _ rp) rj (Rep.mono ((((l2.trans l3).trans l4).trans l5).trans l6).x _ _ ry) q2 fun w7 H7 e7 l7 S7 => ?_
        exact ⟨rfl, A6 w7 H7 σV e7 l7 S7 (R6.mono l7.x)⟩
  · exact A1.elim
end
end DL
/-! text DL43 -/
/-! wishes for what DL35 to DL42 brought -/
namespace DL
open PySem PySem.Spec PyProof.Rows L2 TL
section
variable {σ : Sg} {μ : Store} {d e : D} {fa fb fo fi fe fo1 fi1 fo2 fi2 : EF} {ff : AF} {Q : D → Store → Prop} {QL : List D → Store → Prop} {E : XP} {N : Sg → Store → Prop} {R : D → Store → Prop}
@[simp] theorem ev_isN : oIsN d .non μ = some (.bl (isNonD d), μ) := rfl
@[simp] theorem ev_isNt : oIsNt d .non μ = some (.bl (!isNonD d), μ) := rfl
@[simp] theorem isN_non : isNonD .non = true := rfl
@[simp] theorem isN_tup {xs : List D} : isNonD (.tup xs) = false := rfl
@[simp] theorem isN_lst {xs : List D} : isNonD (.lst xs) = false := rfl
@[simp] theorem isN_str {x : Str} : isNonD (.str x) = false := rfl
@[simp] theorem isN_int {x : Int} : isNonD (.int x) = false := rfl
@[simp] theorem isN_loc {n : Nat} : isNonD (.loc n) = false := rfl
@[simp] theorem isN_ins {C : Nat} {ns : List Str} {xs : List D} : isNonD (.ins C ns xs) = false := rfl
/-- a tuple's first item and the others -/
@[irreducible] def Hd1 (d : D) (Q : D → List D → Prop) [Mk0 Q] : Prop := match d with
  | .tup (x :: xs) => Q x xs
  | _ => False
@[simp] theorem Hd1_tup {x : D} {xs : List D} {Q : D → List D → Prop} : Hd1 (.tup (x :: xs)) Q = Q x xs := by with_unfolding_all rfl
@[simp ↓] theorem wps_rest {i j : Nat} : (WpS (sRest i j fe σ μ) N R E : Prop) = Wp (fe σ μ) (fun d μ => Hd1 d fun x xs => N ((σ.set i (some x)).set j (some (.lst xs))) μ) E := by
  rw [show sRest i j fe σ μ = sBind (fe σ μ) σ fun d μ => match d with | .tup (x :: xs) => .next ((σ.set i (some x)).set j (some (.lst xs))) μ | _ => .stuck from rfl, wps_bind]
  refine Wp_ext fun d μ => ?_
  cases d with
  | tup xs => cases xs <;> with_unfolding_all rfl
  | _ => with_unfolding_all rfl
/-- two values -/
@[irreducible] def Two (l : List D) (Q : D → D → Prop) [Mk0 Q] : Prop := match l with
  | [x, y] => Q x y
  | _ => False
@[simp] theorem Two_of {x y : D} {Q : D → D → Prop} : Two [x, y] Q = Q x y := by with_unfolding_all rfl
@[simp ↓] theorem wps_set2 : (WpS (sSet2 ff fo1 fi1 fo2 fi2 σ μ) N R E : Prop) = Wp (ff σ μ) (fun ds μ => Two ds fun x y => Wp (fo1 σ μ) (fun o μ => Wp (fi1 σ μ) (fun i μ => St (setAt o i x μ) fun μ => Wp (fo2 σ μ) (fun p μ => Wp (fi2 σ μ) (fun j μ => St (setAt p j y μ) fun μ => N σ μ) E) E) E) E) E := by
  rw [show sSet2 ff fo1 fi1 fo2 fi2 σ μ = sBind (ff σ μ) σ fun ds μ => match ds with
  | [x, y] => sBind (fo1 σ μ) σ fun o μ => sBind (fi1 σ μ) σ fun i μ => (match setAt o i x μ with
    | some μ => sBind (fo2 σ μ) σ fun p μ => sBind (fi2 σ μ) σ fun j μ => (match setAt p j y μ with
      | some μ => .next σ μ
      | none => .stuck)
    | none => .stuck)
  | _ => .stuck from rfl, wps_bind]
  refine Wp_ext fun ds μ => ?_
  match ds with
  | [x, y] =>
    rw [Two_of]
    show (WpS (sBind (fo1 σ μ) σ _) N R E : Prop) = _
    rw [wps_bind]; refine Wp_ext fun o μ => ?_; rw [wps_bind]; refine Wp_ext fun i μ => ?_
    cases setAt o i x μ with
    | none => with_unfolding_all rfl
    | some μ =>
      rw [St_some]
      show (WpS (sBind (fo2 σ μ) σ _) N R E : Prop) = _
      rw [wps_bind]; refine Wp_ext fun o μ => ?_; rw [wps_bind]; refine Wp_ext fun i μ => ?_
      cases setAt o i y μ <;> with_unfolding_all rfl
  | [] => with_unfolding_all rfl
  | [_] => with_unfolding_all rfl
  | _ :: _ :: _ :: _ => with_unfolding_all rfl
/-- a sequence's items -/
@[irreducible] def Ls (o : Option (List D)) (Q : List D → Prop) [Mk0 Q] : Prop := match o with
  | some xs => Q xs
  | none => False
@[simp] theorem Ls_some {xs : List D} {Q : List D → Prop} : Ls (some xs) Q = Q xs := by with_unfolding_all rfl
@[simp ↓] theorem wp_star : (Wp (aStar fa ff σ μ) QL E : Prop) = Wp (fa σ μ) (fun d μ => Ls (getS μ d) fun xs => Wp (ff σ μ) (fun ys μ => QL (xs ++ ys) μ) E) E := by
  rw [show aStar fa ff σ μ = (fa σ μ).bind fun x μ => match getS μ x with | some xs => (ff σ μ).bind fun ys μ => .ok (xs ++ ys) μ | none => .stuck from rfl, Wp_bind]
  refine Wp_ext fun d μ => ?_
  cases getS μ d with
  | none => with_unfolding_all rfl
  | some xs =>
    rw [Ls_some]
    show (Wp ((ff σ μ).bind _) QL E : Prop) = _
    rw [Wp_bind]
    refine Wp_ext fun ys μ => ?_
    rw [Wp_ok]
@[simp] theorem getS_lst {xs : List D} : getS μ (.lst xs) = some xs := rfl
@[simp] theorem getS_tup {xs : List D} : getS μ (.tup xs) = some xs := rfl
@[simp ↓] theorem wp_dgW {kvs : List (Str × D)} : (Wp (fDgW kvs fi σ μ) Q E : Prop) = Wp (fi σ μ) (fun i μ => IsS i fun z => Fg (kvs.lookup z) fun d => Q d μ) E := by
  rw [show fDgW kvs fi σ μ = (fi σ μ).bind fun i μ => match i with
  | .str z => (match kvs.lookup z with
    | some d => .ok d μ
    | none => .stuck)
  | _ => .stuck from rfl, Wp_bind]
  refine Wp_ext fun d μ => ?_
  cases d with
  | str z => rw [IsS_str]; cases h : kvs.lookup z <;> simp only [h] <;> with_unfolding_all rfl
  | _ => with_unfolding_all rfl
@[simp ↓] theorem wp_rep {y z : Str} : (Wp (fRep y z fo σ μ) Q E : Prop) = Wp (fo σ μ) (fun o μ => IsS o fun x => An (x.length + (x.length + 1) * z.length ≤ cap) (Q (.str (Txt.replace x y z)) μ)) E := by
  rw [show fRep y z fo σ μ = (fo σ μ).bind fun o μ => match o with
  | .str x => if x.length + (x.length + 1) * z.length ≤ cap then .ok (.str (Txt.replace x y z)) μ else .stuck
  | _ => .stuck from rfl, Wp_bind]
  refine Wp_ext fun d μ => ?_
  cases d with
  | str x => rw [IsS_str]; show (Wp (if _ ≤ cap then _ else _) Q E : Prop) = _; rw [wp_cap]; with_unfolding_all rfl
  | _ => with_unfolding_all rfl
@[simp ↓] theorem wp_repN {y z : Str} {k : Int} : (Wp (fRepN y z k fo σ μ) Q E : Prop) = Wp (fo σ μ) (fun o μ => IsS o fun x => An (x.length + (x.length + 1) * z.length ≤ cap) (Q (.str (replN x y z k)) μ)) E := by
  rw [show fRepN y z k fo σ μ = (fo σ μ).bind fun o μ => match o with
  | .str x => if x.length + (x.length + 1) * z.length ≤ cap then .ok (.str (replN x y z k)) μ else .stuck
  | _ => .stuck from rfl, Wp_bind]
  refine Wp_ext fun d μ => ?_
  cases d with
  | str x => rw [IsS_str]; show (Wp (if _ ≤ cap then _ else _) Q E : Prop) = _; rw [wp_cap]; with_unfolding_all rfl
  | _ => with_unfolding_all rfl
theorem cap_big {n : Nat} (h : n ≤ 16000000) : n ≤ cap := by rw [cap_val]; omega
theorem ev_split {m : Bool} {a b : Str} (h : b.length ≠ 0) (h2 : a.length ≤ 10000000) : oSplit m (.str a) [.str b] μ = some (newL m ((Txt.split a b).map .str) μ) := by
  simp only [oSplit]
  rw [if_pos ⟨h, cap_big (by omega)⟩]
theorem ev_mulS {x : Str} {k : Int} (h0 : 0 ≤ k) (h1 : k ≤ 1000000) (h : x.length * k.toNat ≤ 10000000) : oMulS (.str x) (.int k) μ = some (.str (Txt.mul x k), μ) := by
  simp only [oMulS]
  rw [if_pos ⟨h0, h1, cap_big (by omega)⟩]
theorem ev_addSB {m : Bool} {x y : Str} (h : x.length + y.length ≤ 10000000) : oAdd m (.str x) (.str y) μ = some (.str (x ++ y), μ) := by
  show (if _ ≤ cap then some (D.str (x ++ y), μ) else none) = _
  rw [if_pos (cap_big (by omega))]
theorem ev_maxL {n : Int} {ns : List Int} : oMaxL [.lst ((n :: ns).map D.int)] μ = some (.int (maxI (n :: ns)), μ) := by
  simp only [oMaxL, getL, getM, intsOf_map]
theorem ev_minL {n : Int} {ns : List Int} : oMinL [.lst ((n :: ns).map D.int)] μ = some (.int (minI (n :: ns)), μ) := by
  simp only [oMinL, getL, getM, intsOf_map]
theorem ev_insertI {n : Nat} {xs : List D} {i : Int} (h : μ[n]? = some (.lst xs)) (h0 : 0 ≤ i) (h1 : i ≤ 1000000) (hc : xs.length ≤ 1000000) : oInsert (.loc n) [.int i, d] μ = some (.non, μ.set n (.lst (xs.take i.toNat ++ [d] ++ xs.drop i.toNat))) := by
  have : xs.length < cap := by rw [cap_val]; omega
  have : i < 2 ^ 63 := by omega
  simp only [oInsert, onL, h]
  rw [if_pos ⟨‹_›, h0, this⟩]
theorem ev_setAt {n : Nat} {xs : List D} {i : Int} (h : μ[n]? = some (.lst xs)) (h0 : 0 ≤ i) (h1 : i < xs.length) : setAt (.loc n) (.int i) d μ = some (μ.set n (.lst (xs.set i.toNat d))) := by
  simp only [setAt, h, ixN, if_pos h0, if_pos h1, Option.map_some]
theorem ev_addM {n m : Nat} {xs ys : List D} (h1 : μ[n]? = some (.lst xs)) (h2 : μ[m]? = some (.lst ys)) (hc : xs.length + ys.length ≤ 10000000) : oAdd true (.loc n) (.loc m) μ = some (.loc μ.length, μ ++ [.lst (xs ++ ys)]) := by
  show (match getM μ (.loc n), getM μ (.loc m) with | some xs, some ys => if xs.length + ys.length ≤ cap then some (newL true (xs ++ ys) μ) else none | _, _ => none) = _
  simp only [getM, h1, h2]
  rw [if_pos (cap_big (by omega))]
  rfl
theorem ev_joinB {a : Str} {ks : List Str} (h : (ks.map (·.length)).sum + ks.length * a.length ≤ 10000000) (hd : getS μ d = some (ks.map D.str)) : oJoin (.str a) [d] μ = some (.str (Txt.join a ks), μ) := by
  simp only [oJoin, hd, Option.bind_some, strs_map]
  rw [if_pos (cap_big (by omega))]
theorem join_len (a : Str) : ∀ ks : List Str, (Txt.join a ks).length ≤ (ks.map (·.length)).sum + ks.length * a.length := fun ks => by
  rw [← tl_len, join_eq, tl_join]
  induction ks with
  | nil => simp [joinL]
  | cons k r ih => cases r with
    | nil =>
      have : k.cps.size = k.length := rfl
      simp [joinL]; omega
    | cons q r =>
      simp only [List.map_cons, joinL, List.length_append, List.sum_cons, List.length_cons, tl_len] at ih ⊢
      rw [Nat.add_mul, Nat.one_mul]
      omega
theorem ev_lenSB {x : Str} (h : x.length ≤ 10000000) : oLen [.str x] μ = some (.int x.length, μ) := by
  show (if x.length ≤ cap then _ else _) = _
  rw [if_pos (cap_big (by omega))]
@[simp] theorem ev_revL {xs : List D} : oRev false (.lst xs) μ = some (.lst xs.reverse, μ) := rfl
@[simp] theorem ev_revT {m : Bool} {xs : List D} : oRev m (.tup xs) μ = some (.tup xs.reverse, μ) := rfl
@[simp] theorem ev_truT {xs : List D} : truR (.tup xs) μ = .ok (!xs.isEmpty) μ := rfl
@[simp] theorem ev_truL {xs : List D} : truR (.lst xs) μ = .ok (!xs.isEmpty) μ := rfl
/-- two clauses, nothing changed: for each item what the second clause goes through -/
theorem lc2_flat {α : Type} {xs : List α} {enc : α → D} (ys : α → List D) {src : Src} {fi : IF} {g : TgF} {fi1 : IF} {g1 : TgF} {fe : EF} {own own1 : List Nat} (I : ItsW fi σ μ src (xs.map enc)) (hz : (xs.map ys).flatten.length ≤ cap)
    (step : ∀ x ∈ xs, Tk (g (enc x) (wipeD σ own) μ) fun σ1 => ∃ src1, ItsW fi1 σ1 μ src1 (ys x) ∧ ∀ y ∈ ys x, Tk (g1 y (wipeD σ1 own1) μ) fun σ2 => fe σ2 μ = .ok y μ) :
    fLc2 false fi g tTrue fi1 g1 tTrue fe own own1 σ μ = .ok (.lst (xs.map ys).flatten) μ := by
  have inner : ∀ (σ1 : Sg) (src1 : Src) (zs : List D), (∀ i, src1.at μ i = some zs[i]?) → (∀ y ∈ zs, Tk (g1 y (wipeD σ1 own1) μ) fun σ2 => fe σ2 μ = .ok y μ) → ∀ (k i : Nat) (acc0 acc : List D), acc0.length + zs.length ≤ cap → zs.length ≤ k + i → i ≤ zs.length → acc = acc0 ++ zs.take i →
      loopC g1 tTrue fe own1 src1 σ1 (k + 1) i acc μ = .ok (acc0 ++ zs) μ := by
    intro σ1 src1 zs hs st k
    induction k with
    | zero =>
      intro i acc0 acc hc h1 h2 e
      unfold loopC
      rw [hs, List.getElem?_eq_none (by omega), e, List.take_of_length_le (by omega)]
    | succ k ih =>
      intro i acc0 acc hc h1 h2 e
      unfold loopC
      rw [hs]
      by_cases hi : i < zs.length
      · have q := st zs[i] (List.getElem_mem hi)
        rw [List.getElem?_eq_getElem hi]
        simp only
        cases e1 : g1 zs[i] (wipeD σ1 own1) μ with
        | none => rw [e1, Tk_none] at q; exact q.elim
        | some σ2 =>
          rw [e1, Tk_some] at q
          simp only [ev_true, noX, Res.bind_ok, if_true, q]
          have hl : acc.length < cap := by rw [e, List.length_append, List.length_take]; omega
          rw [if_pos hl]
          refine ih (i + 1) acc0 _ hc (by omega) hi ?_
          rw [e, List.append_assoc, List.take_add_one, List.getElem?_eq_getElem hi]
          rfl
      · have e2 : i = zs.length := by omega
        subst e2
        rw [List.getElem?_eq_none (Nat.le_refl _), e, List.take_of_length_le (Nat.le_refl _)]
  have key : ∀ (k i : Nat) (acc : List D), xs.length ≤ k + i → i ≤ xs.length → acc = ((xs.take i).map ys).flatten → loop2 g tTrue fi1 g1 tTrue fe own own1 src σ (k + 1) i acc μ = .ok (xs.map ys).flatten μ := by
    intro k
    induction k with
    | zero =>
      intro i acc h1 h2 e
      unfold loop2
      rw [I.im, List.getElem?_eq_none (by simpa using h1), e, List.take_of_length_le (by omega)]
    | succ k ih =>
      intro i acc h1 h2 e
      unfold loop2
      rw [I.im]
      by_cases hi : i < xs.length
      · have st := step xs[i] (List.getElem_mem hi)
        rw [show (xs.map enc)[i]? = some (enc xs[i]) by simp [hi]]
        simp only
        cases q : g (enc xs[i]) (wipeD σ own) μ with
        | none => rw [q, Tk_none] at st; exact st.elim
        | some σ1 =>
          rw [q, Tk_some] at st
          obtain ⟨src1, I1, s1⟩ := st
          have ta : ((xs.take (i + 1)).map ys).flatten = acc ++ ys xs[i] := by rw [List.take_add_one, List.getElem?_eq_getElem hi, List.map_append, List.flatten_append, ← e]; simp
          have le : acc.length + (ys xs[i]).length ≤ cap := by
            refine Nat.le_trans ?_ hz
            rw [← List.length_append, ← ta]
            have : (xs.map ys).flatten = ((xs.take (i + 1)).map ys).flatten ++ ((xs.drop (i + 1)).map ys).flatten := by rw [← List.flatten_append, ← List.map_append, List.take_append_drop]
            rw [this, List.length_append]; omega
          simp only [ev_true, noX, Res.bind_ok, if_true, I1.go]
          rw [inner σ1 src1 (ys xs[i]) I1.im s1 (src1.fuel μ) 0 acc acc le (by have := I1.fu; omega) (Nat.zero_le _) (by simp)]
          simp only [Res.bind_ok]
          exact ih (i + 1) _ (by omega) hi ta.symm
      · have e2 : i = xs.length := by omega
        subst e2
        rw [List.getElem?_eq_none (by simp), e, List.take_of_length_le (Nat.le_refl _)]
  rw [show fLc2 false fi g tTrue fi1 g1 tTrue fe own own1 σ μ = (fi σ μ).bind fun src μ => (loop2 g tTrue fi1 g1 tTrue fe own own1 src σ (src.fuel μ + 1) 0 [] μ).bind fun xs μ => .ok (newL false xs μ).1 (newL false xs μ).2 from rfl, I.go, Res.bind_ok,
    key (src.fuel μ) 0 [] (by have := I.fu; simp at this; omega) (Nat.zero_le _) (by simp)]
  rfl
end
end DL
/-! text K06T -/
namespace KK
open PySem PySem.Spec PyProof.Rows L2 DL
abbrev prog : Program := PySem.Challenge.pw_keepstream_k06_formula_texts
def top (i : Nat) : Stmt := PySem.Challenge.pw_keepstream_k06_formula_texts.main.body.getD i (.Pass ⟨0, 0, 0, 0⟩)
def cb (i j : Nat) : Stmt := (match top i with | .ClassDef (body := b) .. => b | _ => []).getD j (.Pass ⟨0, 0, 0, 0⟩)
/-- the classes and the written dicts by number: 0 EarlierError, 1 InvalidColumns, 2 InvalidColumn, 6 InvalidFormula, 7 InvalidText, 61 Form, 86 PARTS, 93 KINDS -/
def nam : List Str := (["EarlierError", "InvalidColumns", "InvalidColumn", "InvalidRow", "InvalidCell", "InvalidCells", "InvalidFormula", "InvalidText", "InvalidQuestion", "InvalidForm", "InvalidKinds", "InvalidTruth", "InvalidRows", "InvalidKept", "InvalidOrder", "InvalidFamily", "InvalidPattern", "InvalidMany", "InvalidLaters", "InvalidStrikes", "InvalidWidth", "InvalidLists", "InvalidParts", "InvalidAsk", "InvalidAsks", "InvalidTests", "InvalidWords", "InvalidName", "InvalidRules", "InvalidMost"] : List (Str)) ++ (["InvalidPages", "InvalidPage", "InvalidCount", "InvalidDone", "InvalidDisk", "InvalidKeepers", "InvalidStation", "InvalidIndex", "InvalidFaces", "InvalidQuestions", "InvalidPairs", "InvalidStatement", "InvalidStatements", "InvalidTexts", "InvalidSession", "InvalidKey", "TakenName", "TooMany", "Full", "Bounded", "NoBound", "Enough", "PowerCut", "NothingToUndo", "NothingToRedo", "Base", "Desk", "Disk", "Engine", "Leader"] : List (Str)) ++ (["Follower", "Form", "Family", "Basis", "Keeper", "Search", "Link", "Side", "Linker", "Partners", "Question", "Span", "Rules", "Board", "Hall", "Stations", "Stored", "Store", "CountedSearch", "Asker", "Table", "Draft", "Tree", "NUMBERS", "STEPS", "ABOVE", "PARTS", "LENGTHS", "TURNED", "SIGNS"] : List (Str)) ++ (["JUDGES", "READERS", "LISTS", "KINDS"] : List (Str))
def xaT (c : Nat) : Option Str := (([none, some "given", some "given", none, none, none, some "given", some "given", none, none, none, none, none, none, none, none, none, none, none, none, none, none, none, none, none, none, none, none, none, none] : List (Option Str)) ++ ([none, none, none, none, none, none, none, none, none, none, none, none, none, none, none, none, none, none, none, none, none, none, none, none, none, none, none, none, none, none] : List (Option Str)) ++ ([none, none, none, none, none, none, none, none, none, none, none, none, none, none, none, none, none, none, none, none, none, none, none] : List (Option Str))).getD c none
abbrev cfg (K : PySem.W.Frag) : Cf := ⟨K, fun n => He.ga K (nam.getD n Str.empty), xaT⟩
def atL : List (Nat × Str) := [(61, "columns"), (61, "places")]
def atT : Nat → Str → Bool := fun c f => atL.any fun q => decide (q.1 = c ∧ q.2 = f)
def tyL : List Ty := [.b "NoneType", .b "bool", .b "int", .b "str", .b "tuple", .b "list", .b "dict", .c 61]
def isR : Ty → Ty → Bool
  | .b x, .b y => decide (x = y) || (decide (x = "bool") && decide (y = "int"))
  | .c x, .c y => decide (x = y)
  | _, _ => false
def isT : Ty → Ty → Option Bool := tabT tyL isR
def eiL : List Nat := [1, 2, 6, 7]
def eiM : List Ty := [.c 0]
def eiP : List (Nat × Nat) := [(1, 0), (2, 0), (6, 0), (7, 0)]
def eiR (a : Nat) (b : Ty) : Bool := match b with
  | .c n => eiP.contains (a, n)
  | .b _ => false
def isE : Nat → Ty → Option Bool := tabX eiL eiM eiR
def exP : List (Nat × Nat) := [(0, 0), (1, 0), (1, 1), (2, 0), (2, 2), (6, 0), (6, 6), (7, 0), (7, 7)]
def exL : List Nat := [0, 1, 2, 6, 7]
def exR (c d : Nat) : Bool := exP.contains (c, d)
def exT : Nat → Nat → Option Bool := tabE exL exR
def g_NO_NAMES : List D := [.str "any", .str "alike", .str "unlike", .str "less", .str "most", .str "more", .str "least", .str "all", .str "some", .str "not", .str "none", .str "if"]
def w_NO_NAMES : List V := [.str "any", .str "alike", .str "unlike", .str "less", .str "most", .str "more", .str "least", .str "all", .str "some", .str "not", .str "none", .str "if"]
def k_KINDS : List Str := ["any", "alike", "unlike", "less", "most", "more", "least"]
def k_PARTS : List Str := ["all", "some", "not"]
def kv_PARTS : List (Str × D) := [("all", .int 2), ("some", .int 2), ("not", .int 1)]
/-- what the text has made of its top -/
structure Txt (K : PySem.W.Frag) (w : World) (mg : Str → Option Value) : Prop where
  b_abs : mg "abs" = none
  b_all : mg "all" = none
  b_enumerate : mg "enumerate" = none
  b_int : mg "int" = none
  b_isinstance : mg "isinstance" = none
  b_len : mg "len" = none
  b_list : mg "list" = none
  b_max : mg "max" = none
  b_min : mg "min" = none
  b_range : mg "range" = none
  b_repr : mg "repr" = none
  b_set : mg "set" = none
  b_str : mg "str" = none
  b_sum : mg "sum" = none
  b_tuple : mg "tuple" = none
  v_LETTERS : ∃ t, mg "LETTERS" = some (.str "abcdefghijklmnopqrstuvwxyz" t)
  v_MOST_LETTERS : ∃ t, mg "MOST_LETTERS" = some (.int 8 t)
  g_NO_NAMES : mg "NO_NAMES" = some (.ref (He.ga K "NO_NAMES"))
  v_NO_NAMES : WTu K (He.ga K "NO_NAMES") w_NO_NAMES
  g_KINDS : mg "KINDS" = some (.ref ((cfg K).ca 93))
  v_KINDS : WDk K w ((cfg K).ca 93) k_KINDS
  v_MOST_COLUMNS : ∃ t, mg "MOST_COLUMNS" = some (.int 4 t)
  v_DEEPEST : ∃ t, mg "DEEPEST" = some (.int 6 t)
  g_PARTS : mg "PARTS" = some (.ref ((cfg K).ca 86))
  v_PARTS : WDk K w ((cfg K).ca 86) k_PARTS
  vv_PARTS : WVs K ((cfg K).ca 86) kv_PARTS
  g_EarlierError : mg "EarlierError" = some (.ref ((cfg K).ca 0))
  g_InvalidColumns : mg "InvalidColumns" = some (.ref ((cfg K).ca 1))
  g_InvalidFormula : mg "InvalidFormula" = some (.ref ((cfg K).ca 6))
  g_InvalidText : mg "InvalidText" = some (.ref ((cfg K).ca 7))
  g_Form : mg "Form" = some (.ref ((cfg K).ca 61))
  g__law_box : mg "_law_box" = some (.ref (He.ga K "_law_box"))
  f__law_box : ∃ fd, Fun K "_law_box" "_law_box" (top 33) (He.ga K "_law_box") fd
  g__law_cell : mg "_law_cell" = some (.ref (He.ga K "_law_cell"))
  f__law_cell : ∃ fd, Fun K "_law_cell" "_law_cell" (top 32) (He.ga K "_law_cell") fd
  g__law_take : mg "_law_take" = some (.ref (He.ga K "_law_take"))
  f__law_take : ∃ fd, Fun K "_law_take" "_law_take" (top 34) (He.ga K "_law_take") fd
  g__law_kept_out : mg "_law_kept_out" = some (.ref (He.ga K "_law_kept_out"))
  f__law_kept_out : ∃ fd, Fun K "_law_kept_out" "_law_kept_out" (top 35) (He.ga K "_law_kept_out") fd
  g__law_name : mg "_law_name" = some (.ref (He.ga K "_law_name"))
  f__law_name : ∃ fd, Fun K "_law_name" "_law_name" (top 36) (He.ga K "_law_name") fd
  g__law_names : mg "_law_names" = some (.ref (He.ga K "_law_names"))
  f__law_names : ∃ fd, Fun K "_law_names" "_law_names" (top 37) (He.ga K "_law_names") fd
  g__law_kinds : mg "_law_kinds" = some (.ref (He.ga K "_law_kinds"))
  f__law_kinds : ∃ fd, Fun K "_law_kinds" "_law_kinds" (top 38) (He.ga K "_law_kinds") fd
  g__law_leaf : mg "_law_leaf" = some (.ref (He.ga K "_law_leaf"))
  f__law_leaf : ∃ fd, Fun K "_law_leaf" "_law_leaf" (top 39) (He.ga K "_law_leaf") fd
  g__law_formula : mg "_law_formula" = some (.ref (He.ga K "_law_formula"))
  f__law_formula : ∃ fd, Fun K "_law_formula" "_law_formula" (top 40) (He.ga K "_law_formula") fd
  g__law_tall : mg "_law_tall" = some (.ref (He.ga K "_law_tall"))
  f__law_tall : ∃ fd, Fun K "_law_tall" "_law_tall" (top 41) (He.ga K "_law_tall") fd
  g_is_listed : mg "is_listed" = some (.ref (He.ga K "is_listed"))
  f_is_listed : ∃ fd, Fun K "is_listed" "is_listed" (top 12) (He.ga K "is_listed") fd
  g_is_word : mg "is_word" = some (.ref (He.ga K "is_word"))
  f_is_word : ∃ fd, Fun K "is_word" "is_word" (top 14) (He.ga K "is_word") fd
  g_is_name : mg "is_name" = some (.ref (He.ga K "is_name"))
  f_is_name : ∃ fd, Fun K "is_name" "is_name" (top 15) (He.ga K "is_name") fd
  g_are_unlike : mg "are_unlike" = some (.ref (He.ga K "are_unlike"))
  f_are_unlike : ∃ fd, Fun K "are_unlike" "are_unlike" (top 16) (He.ga K "are_unlike") fd
  g_are_unlike_names : mg "are_unlike_names" = some (.ref (He.ga K "are_unlike_names"))
  f_are_unlike_names : ∃ fd, Fun K "are_unlike_names" "are_unlike_names" (top 17) (He.ga K "are_unlike_names") fd
  e_InvalidColumns : ErrC K ((cfg K).ca 1) ((cfg K).ca 0)
  ei_InvalidColumns : PySem.W.findIn K (.ref ((cfg K).ca 1)) "__init__" = some (some (.ref (He.ma K ((cfg K).ca 1) "__init__")))
  et_InvalidColumns : PySem.W.typeIn K (.ref (He.ma K ((cfg K).ca 1) "__init__")) = some (.type "function")
  ex_InvalidColumns : XfC K ((cfg K).ca 1)
  en_InvalidColumns : PySem.W.findIn K (.ref ((cfg K).ca 1)) "given" = some none
  f_err_InvalidColumns : ∃ fd, Fun K "__init__" "InvalidColumns.__init__" (cb 3 0) (He.ma K ((cfg K).ca 1) "__init__") fd
  gp_InvalidColumns : mg "EarlierError" = some (.ref ((cfg K).ca 0))
  h_make_Form : Mk K ((cfg K).ca 61) (He.ma K ((cfg K).ca 61) "__init__")
  f_make_Form : ∃ fd, Fun K "__init__" "Form.__init__" (cb 20 0) (He.ma K ((cfg K).ca 61) "__init__") fd
  g__law_words : mg "_law_words" = some (.ref (He.ga K "_law_words"))
  f__law_words : ∃ fd, Fun K "_law_words" "_law_words" (top 42) (He.ga K "_law_words") fd
  g_is_tuple_of : mg "is_tuple_of" = some (.ref (He.ga K "is_tuple_of"))
  f_is_tuple_of : ∃ fd, Fun K "is_tuple_of" "is_tuple_of" (top 13) (He.ga K "is_tuple_of") fd
  g_is_column : mg "is_column" = some (.ref (He.ga K "is_column"))
  f_is_column : ∃ fd, Fun K "is_column" "is_column" (top 21) (He.ga K "is_column") fd
  g_is_formula_within : mg "is_formula_within" = some (.ref (He.ga K "is_formula_within"))
  f_is_formula_within : ∃ fd, Fun K "is_formula_within" "is_formula_within" (top 25) (He.ga K "is_formula_within") fd
  g_is_formula : mg "is_formula" = some (.ref (He.ga K "is_formula"))
  f_is_formula : ∃ fd, Fun K "is_formula" "is_formula" (top 28) (He.ga K "is_formula") fd
  e_InvalidFormula : ErrC K ((cfg K).ca 6) ((cfg K).ca 0)
  ei_InvalidFormula : PySem.W.findIn K (.ref ((cfg K).ca 6)) "__init__" = some (some (.ref (He.ma K ((cfg K).ca 6) "__init__")))
  et_InvalidFormula : PySem.W.typeIn K (.ref (He.ma K ((cfg K).ca 6) "__init__")) = some (.type "function")
  ex_InvalidFormula : XfC K ((cfg K).ca 6)
  en_InvalidFormula : PySem.W.findIn K (.ref ((cfg K).ca 6)) "given" = some none
  f_err_InvalidFormula : ∃ fd, Fun K "__init__" "InvalidFormula.__init__" (cb 5 0) (He.ma K ((cfg K).ca 6) "__init__") fd
  gp_InvalidFormula : mg "EarlierError" = some (.ref ((cfg K).ca 0))
  g_words_of : mg "words_of" = some (.ref (He.ga K "words_of"))
  f_words_of : ∃ fd, Fun K "words_of" "words_of" (top 26) (He.ga K "words_of") fd
  g_formula_text : mg "formula_text" = some (.ref (He.ga K "formula_text"))
  f_formula_text : ∃ fd, Fun K "formula_text" "formula_text" (top 29) (He.ga K "formula_text") fd
  g__law_text_right : mg "_law_text_right" = some (.ref (He.ga K "_law_text_right"))
  f__law_text_right : ∃ fd, Fun K "_law_text_right" "_law_text_right" (top 49) (He.ga K "_law_text_right") fd
  g__law_read : mg "_law_read" = some (.ref (He.ga K "_law_read"))
  f__law_read : ∃ fd, Fun K "_law_read" "_law_read" (top 43) (He.ga K "_law_read") fd
  e_InvalidText : ErrC K ((cfg K).ca 7) ((cfg K).ca 0)
  ei_InvalidText : PySem.W.findIn K (.ref ((cfg K).ca 7)) "__init__" = some (some (.ref (He.ma K ((cfg K).ca 7) "__init__")))
  et_InvalidText : PySem.W.typeIn K (.ref (He.ma K ((cfg K).ca 7) "__init__")) = some (.type "function")
  ex_InvalidText : XfC K ((cfg K).ca 7)
  en_InvalidText : PySem.W.findIn K (.ref ((cfg K).ca 7)) "given" = some none
  f_err_InvalidText : ∃ fd, Fun K "__init__" "InvalidText.__init__" (cb 6 0) (He.ma K ((cfg K).ca 7) "__init__") fd
  gp_InvalidText : mg "EarlierError" = some (.ref ((cfg K).ca 0))
  g_read_from : mg "read_from" = some (.ref (He.ga K "read_from"))
  f_read_from : ∃ fd, Fun K "read_from" "read_from" (top 27) (He.ga K "read_from") fd
  g_read_formula : mg "read_formula" = some (.ref (He.ga K "read_formula"))
  f_read_formula : ∃ fd, Fun K "read_formula" "read_formula" (top 30) (He.ga K "read_formula") fd
  g__law_told : mg "_law_told" = some (.ref (He.ga K "_law_told"))
  f__law_told : ∃ fd, Fun K "_law_told" "_law_told" (top 46) (He.ga K "_law_told") fd
  g__law_read_right : mg "_law_read_right" = some (.ref (He.ga K "_law_read_right"))
  f__law_read_right : ∃ fd, Fun K "_law_read_right" "_law_read_right" (top 47) (He.ga K "_law_read_right") fd
  g__law_word : mg "_law_word" = some (.ref (He.ga K "_law_word"))
  f__law_word : ∃ fd, Fun K "_law_word" "_law_word" (top 44) (He.ga K "_law_word") fd
  g__law_spoilt : mg "_law_spoilt" = some (.ref (He.ga K "_law_spoilt"))
  f__law_spoilt : ∃ fd, Fun K "_law_spoilt" "_law_spoilt" (top 45) (He.ga K "_law_spoilt") fd
  g__law_no_text_right : mg "_law_no_text_right" = some (.ref (He.ga K "_law_no_text_right"))
  f__law_no_text_right : ∃ fd, Fun K "_law_no_text_right" "_law_no_text_right" (top 48) (He.ga K "_law_no_text_right") fd
  g_law : mg "law" = some (.ref (He.ga K "law"))
  f_law : ∃ fd, Fun K "law" "law" (top 50) (He.ga K "law") fd
  c_Form : Cls K ((cfg K).ca 61)
  atr : Atr (cfg K) atT
  isi : Isi (cfg K) isT
  exm : ExT (cfg K) exT
  ise : IsE (cfg K) isE
  xat_given : XaT (cfg K) "given"
/-! ### _law_box -/
def N__law_box : List Str := ["great"]
def b__law_box : SF :=
 sRet (fLst true (aCons (fBi oAbs (aCons (fV 0) (aNil))) (aCons (fBin oGe (fBi oAbs (aCons (fV 0) (aNil))) (fBin oPow (fC (.int 10)) (fC (.int 18)))) (aCons (fBin oMod (fBi oInt (aCons (fBi oAbs (aCons (fV 0) (aNil))) (aNil))) (fC (.int 2147483629))) (aCons (fC (.int 0)) (aNil))))))
def m__law_box : FF := runB 1 b__law_box
theorem sc__law_box : FnScope N__law_box ["great"] (defScope (top 33)) := ⟨rfl, rfl, rfl, by decide +kernel, rfl, by decide +kernel, by decide +kernel⟩
theorem ok__law_box {K : PySem.W.Frag} {w : World} {mg : Str → Option Value} {base : Heap} (T : Txt K w mg) : FnG (cfg K) prog w mg base "_law_box" "_law_box" (top 33) 1 ["great"] m__law_box := by
  obtain ⟨fd, F⟩ := T.f__law_box
  refine ⟨⟨_, fd, F, T.g__law_box, F.binds (ps := ["great"]) (fun _ _ _ _ _ _ ua hl => match ua, hl with | [_], _ => rfl), fn_ok (N := N__law_box) (body := b__law_box) F sc__law_box (hg_run (N := N__law_box) (ps := ["great"]) (body := b__law_box)) fun cdv A outer s H E g => ?_⟩⟩
  exact s_one (s_ret (d_lst true (a_cons (d_bi cr_Abs T.b_abs rfl (a_cons (d_var 0) (a_nil))) (a_cons (d_cmp op_Ge (d_bi cr_Abs T.b_abs rfl (a_cons (d_var 0) (a_nil))) (d_bin op_Pow' (d_int) (d_int))) (a_cons (d_bin op_Mod' (d_bty cr_Int T.b_int rfl (a_cons (d_bi cr_Abs T.b_abs rfl (a_cons (d_var 0) (a_nil))) (a_nil))) (d_int)) (a_cons (d_int) (a_nil)))))))
/-! ### _law_cell -/
def N__law_cell : List Str := ["script", "k"]
def b__law_cell : SF :=
 sRet (fIf (fTb (fBin oLt (fV 1) (fBi oLen (aCons (fV 0) (aNil))))) (fBin oIdx (fV 0) (fV 1)) (fBin (oAdd false) (fBin (oMul false) (fC (.int 6089)) (fV 1)) (fBin oMod (fBi oSum (aCons (fSl false (fV 0) (oNo) (oSome (fC (.int 1)))) (aNil))) (fC (.int 1000033)))))
def m__law_cell : FF := runB 2 b__law_cell
theorem sc__law_cell : FnScope N__law_cell ["script", "k"] (defScope (top 32)) := ⟨rfl, rfl, rfl, by decide +kernel, rfl, by decide +kernel, by decide +kernel⟩
theorem ok__law_cell {K : PySem.W.Frag} {w : World} {mg : Str → Option Value} {base : Heap} (T : Txt K w mg) : FnG (cfg K) prog w mg base "_law_cell" "_law_cell" (top 32) 1 ["script", "k"] m__law_cell := by
  obtain ⟨fd, F⟩ := T.f__law_cell
  refine ⟨⟨_, fd, F, T.g__law_cell, F.binds (ps := ["script", "k"]) (fun _ _ _ _ _ _ ua hl => match ua, hl with | [_, _], _ => rfl), fn_ok (N := N__law_cell) (body := b__law_cell) F sc__law_cell (hg_run (N := N__law_cell) (ps := ["script", "k"]) (body := b__law_cell)) fun cdv A outer s H E g => ?_⟩⟩
  exact s_one (s_ret (d_ife (d_tcmp op_Lt (d_var 1) (d_bi (cr_Len g.K) T.b_len rfl (a_cons (d_var 0) (a_nil)))) (d_idx g.K (d_var 0) (d_var 1)) (d_bin (op_Add g.K false) (d_bin (op_Mul false) (d_int) (d_var 1)) (d_bin op_Mod' (d_bi (cr_Sum g.K g.calm) T.b_sum rfl (a_cons (d_sl g.K false (d_var 0) (o_no) (o_some (d_int))) (a_nil))) (d_int)))))
/-! ### _law_take -/
def N__law_take : List Str := ["box", "many", "digit", "mixed"]
def b__law_take : SF :=
 sSeq (sIf (fAndB (fTru (fBin oIdx (fV 0) (fC (.int 1)))) (fTb (fBin oGt (fBin oIdx (fV 0) (fC (.int 0))) (fC (.int 0))))) (sSeq (sAsg (gN 2) (fBin oMod (fBi oInt (aCons (fBin oIdx (fV 0) (fC (.int 0))) (aNil))) (fV 1)))
    (sSeq (sSet (fV 0) (fC (.int 0)) (fBin oFdv (fBin oIdx (fV 0) (fC (.int 0))) (fV 1)))
    (sRet (fV 2)))) (sNil))
    (sSeq (sSet (fV 0) (fC (.int 3)) (fBin (oAdd false) (fBin oIdx (fV 0) (fC (.int 3))) (fC (.int 1))))
    (sSeq (sAsg (gN 3) (fBin oMod (fBi oInt (aCons (fBin oPow (fBin (oAdd false) (fBin (oAdd false) (fBin oIdx (fV 0) (fC (.int 2))) (fBin (oMul false) (fC (.int 15485863)) (fBin oIdx (fV 0) (fC (.int 3))))) (fC (.int 179424673))) (fC (.int 5))) (aNil))) (fC (.int 2147483647))))
    (sRet (fBin oMod (fBin oFdv (fBin oMod (fBi oInt (aCons (fBin oPow (fBin (oAdd false) (fBin (oMul false) (fV 3) (fC (.int 48271))) (fBin (oMul false) (fC (.int 104729)) (fBin oIdx (fV 0) (fC (.int 3))))) (fC (.int 3))) (aNil))) (fC (.int 2147483587))) (fC (.int 64))) (fV 1)))))
def m__law_take : FF := runB 4 b__law_take
theorem sc__law_take : FnScope N__law_take ["box", "many"] (defScope (top 34)) := ⟨rfl, rfl, rfl, by decide +kernel, rfl, by decide +kernel, by decide +kernel⟩
theorem ok__law_take {K : PySem.W.Frag} {w : World} {mg : Str → Option Value} {base : Heap} (T : Txt K w mg) : FnG (cfg K) prog w mg base "_law_take" "_law_take" (top 34) 1 ["box", "many"] m__law_take := by
  obtain ⟨fd, F⟩ := T.f__law_take
  refine ⟨⟨_, fd, F, T.g__law_take, F.binds (ps := ["box", "many"]) (fun _ _ _ _ _ _ ua hl => match ua, hl with | [_, _], _ => rfl), fn_ok (N := N__law_take) (body := b__law_take) F sc__law_take (hg_run (N := N__law_take) (ps := ["box", "many"]) (body := b__law_take)) fun cdv A outer s H E g => ?_⟩⟩
  exact s_cons (s_if ((d_andB (d_tru g.K (d_idx g.K (d_var 0) (d_int))) (d_and1 (d_tcmp op_Gt (d_idx g.K (d_var 0) (d_int)) (d_int)))).pt) (s_cons (s_asg (d_bin op_Mod' (d_bty cr_Int T.b_int rfl (a_cons (d_idx g.K (d_var 0) (d_int)) (a_nil))) (d_var 1)) (g_name (own := [2]) 2 g.nd))
    (s_cons (s_set (d_bin op_Fdv (d_idx g.K (d_var 0) (d_int)) (d_var 1)) (d_var 0) (d_int))
    (s_one (s_ret (d_var 2))))) (s_nil))
    (s_cons (s_set (d_bin (op_Add g.K false) (d_idx g.K (d_var 0) (d_int)) (d_int)) (d_var 0) (d_int))
    (s_cons (s_asg (d_bin op_Mod' (d_bty cr_Int T.b_int rfl (a_cons (d_bin op_Pow' (d_bin (op_Add g.K false) (d_bin (op_Add g.K false) (d_idx g.K (d_var 0) (d_int)) (d_bin (op_Mul false) (d_int) (d_idx g.K (d_var 0) (d_int)))) (d_int)) (d_int)) (a_nil))) (d_int)) (g_name (own := [3]) 3 g.nd))
    (s_one (s_ret (d_bin op_Mod' (d_bin op_Fdv (d_bin op_Mod' (d_bty cr_Int T.b_int rfl (a_cons (d_bin op_Pow' (d_bin (op_Add g.K false) (d_bin (op_Mul false) (d_var 3) (d_int)) (d_bin (op_Mul false) (d_int) (d_idx g.K (d_var 0) (d_int)))) (d_int)) (a_nil))) (d_int)) (d_int)) (d_var 1))))))
/-! ### _law_kept_out -/
def N__law_kept_out : List Str := []
def b__law_kept_out : SF :=
 sRet (fLst false (aCons (fC (.str "any")) (aCons (fC (.str "alike")) (aCons (fC (.str "unlike")) (aCons (fC (.str "less")) (aCons (fC (.str "most")) (aCons (fC (.str "more")) (aCons (fC (.str "least")) (aCons (fC (.str "all")) (aCons (fC (.str "some")) (aCons (fC (.str "not")) (aCons (fC (.str "none")) (aCons (fC (.str "if")) (aNil))))))))))))))
def m__law_kept_out : FF := runB 0 b__law_kept_out
theorem sc__law_kept_out : FnScope N__law_kept_out [] (defScope (top 35)) := ⟨rfl, rfl, rfl, by decide +kernel, rfl, by decide +kernel, by decide +kernel⟩
theorem ok__law_kept_out {K : PySem.W.Frag} {w : World} {mg : Str → Option Value} {base : Heap} (T : Txt K w mg) : FnG (cfg K) prog w mg base "_law_kept_out" "_law_kept_out" (top 35) 1 [] m__law_kept_out := by
  obtain ⟨fd, F⟩ := T.f__law_kept_out
  refine ⟨⟨_, fd, F, T.g__law_kept_out, F.binds (ps := []) (fun _ _ _ _ _ _ ua hl => match ua, hl with | [], _ => rfl), fn_ok (N := N__law_kept_out) (body := b__law_kept_out) F sc__law_kept_out (hg_run (N := N__law_kept_out) (ps := []) (body := b__law_kept_out)) fun cdv A outer s H E g => ?_⟩⟩
  exact s_one (s_ret (d_lst false (a_cons (d_str) (a_cons (d_str) (a_cons (d_str) (a_cons (d_str) (a_cons (d_str) (a_cons (d_str) (a_cons (d_str) (a_cons (d_str) (a_cons (d_str) (a_cons (d_str) (a_cons (d_str) (a_cons (d_str) (a_nil)))))))))))))))
/-! ### _law_name -/
def N__law_name : List Str := ["box", "found", "way", "name", "free", "k", "letter", "one"]
def b__law_name : SF :=
 sSeq (sAsg (gN 2) (fCall 2 m__law_take (aCons (fV 0) (aCons (fC (.int 5)) (aNil)))))
    (sSeq (sAsg (gN 3) (fM1S oJoin (fC (.str "")) (fLc false (iR1 (fBin (oAdd false) (fC (.int 1)) (fCall 2 m__law_take (aCons (fV 0) (aCons (fC (.int 8)) (aNil)))))) (gN 5) (tTrue) (fBin oIdx (fC (.str "abcdefghijklmnopqrstuvwxyz")) (fCall 2 m__law_take (aCons (fV 0) (aCons (fC (.int 26)) (aNil))))) [5])))
    (sSeq (sIf (fAndB (fTb (fBin oEq (fV 2) (fC (.int 0)))) (fTb (fBin oNe (fV 1) (fLst false (aNil))))) (sAsg (gN 3) (fSl false (fBin (oAdd false) (fBin oIdx (fV 1) (fUn oNeg (fC (.int 1)))) (fV 3)) (oNo) (oSome (fC (.int 8))))) (sNil))
    (sSeq (sIf (fTb (fBin oEq (fV 2) (fC (.int 1)))) (sAsg (gN 3) (fSl false (fBin (oAdd false) (fBin oIdx (fCall0 m__law_kept_out) (fCall 2 m__law_take (aCons (fV 0) (aCons (fC (.int 12)) (aNil))))) (fV 3)) (oNo) (oSome (fC (.int 8))))) (sNil))
    (sSeq (sIf (fTb (fBin oEq (fV 2) (fC (.int 2)))) (sAsg (gN 3) (fBin oIdx (fLst false (aCons (fC (.str "columns")) (aCons (fC (.str "cells")) (aCons (fC (.str "row")) (aCons (fC (.str "later")) (aCons (fC (.str "kept")) (aCons (fC (.str "value")) (aCons (fC (.str "times")) (aCons (fC (.str "lowest")) (aCons (fC (.str "told")) (aCons (fC (.str "ask")) (aCons (fC (.str "test")) (aCons (fC (.str "word")) (aNil)))))))))))))) (fCall 2 m__law_take (aCons (fV 0) (aCons (fC (.int 12)) (aNil)))))) (sNil))
    (sSeq (sAsg (gN 4) (fBin (oAdd false) (fLst false (aCons (fV 3) (aNil))) (fLc false (iS (fC (.str "qwertzxcvbnmasdfghjklyuiop"))) (gN 6) (tTrue) (fBin (oAdd false) (fSl false (fV 3) (oNo) (oSome (fUn oNeg (fC (.int 1))))) (fV 6)) [6])))
    (sRet (fBin oIdx (fLc false (iS (fV 4)) (gN 7) (fAndB (fTb (fBin oNin (fV 7) (fV 1))) (fTb (fBin oNin (fV 7) (fCall0 m__law_kept_out)))) (fV 7) [7]) (fC (.int 0)))))))))
def m__law_name : FF := runB 8 b__law_name
theorem sc__law_name : FnScope N__law_name ["box", "found"] (defScope (top 36)) := ⟨rfl, rfl, rfl, by decide +kernel, rfl, by decide +kernel, by decide +kernel⟩
theorem ok__law_name {K : PySem.W.Frag} {w : World} {mg : Str → Option Value} {base : Heap} (T : Txt K w mg) : FnG (cfg K) prog w mg base "_law_name" "_law_name" (top 36) 2 ["box", "found"] m__law_name := by
  obtain ⟨fd, F⟩ := T.f__law_name
  have c__law_take : FnG (cfg K) prog w mg base "_law_take" "_law_take" (top 34) 1 ["box", "many"] m__law_take := ok__law_take T
  have c__law_kept_out : FnG (cfg K) prog w mg base "_law_kept_out" "_law_kept_out" (top 35) 1 [] m__law_kept_out := ok__law_kept_out T
  refine ⟨⟨_, fd, F, T.g__law_name, F.binds (ps := ["box", "found"]) (fun _ _ _ _ _ _ ua hl => match ua, hl with | [_, _], _ => rfl), fn_ok (N := N__law_name) (body := b__law_name) F sc__law_name (hg_run (N := N__law_name) (ps := ["box", "found"]) (body := b__law_name)) fun cdv A outer s H E g => ?_⟩⟩
  exact s_cons (s_asg (d_call g c__law_take (by decide) (a_cons (d_var 0) (a_cons (d_int) (a_nil)))) (g_name (own := [2]) 2 g.nd))
    (s_cons (s_asg (d_join g.K (d_str) (d_lc false g.calm g.nd (i_r1 T.b_range (d_bin (op_Add g.K false) (d_int) (d_call g c__law_take (by decide) (a_cons (d_var 0) (a_cons (d_int) (a_nil)))))) (blkOk_by (N := N__law_name) (sc := (defScope (top 36))) (own := [("k", 5)]) (by decide +kernel)) (fun s1 H1 C1 l1 f1 => g_name (own := [5]) 5 (g.blk _ _ _ _ _).nd) (fun s1 H1 C1 l1 f1 => ts_nil) (fun s1 H1 C1 l1 f1 => d_idx (g.blk _ _ _ _ _).K (d_str) (d_call (g.blk _ _ _ _ _) c__law_take (by decide) (a_cons (d_var 0) (a_cons (d_int) (a_nil))))))) (g_name (own := [3]) 3 g.nd))
    (s_cons (s_if ((d_andB (d_tcmp (op_Eq g.K g.hu) (d_var 2) (d_int)) (d_and1 (d_tcmp (op_Ne g.K g.hu) (d_var 1) (d_lst false (a_nil))))).pt) (s_one (s_asg (d_sl g.K false (d_bin (op_Add g.K false) (d_idx g.K (d_var 1) (d_un un_Neg (d_int))) (d_var 3)) (o_no) (o_some (d_int))) (g_name (own := [3]) 3 g.nd))) (s_nil))
    (s_cons (s_if (d_tcmp (op_Eq g.K g.hu) (d_var 2) (d_int)) (s_one (s_asg (d_sl g.K false (d_bin (op_Add g.K false) (d_idx g.K (d_call0 g c__law_kept_out (by decide)) (d_call g c__law_take (by decide) (a_cons (d_var 0) (a_cons (d_int) (a_nil))))) (d_var 3)) (o_no) (o_some (d_int))) (g_name (own := [3]) 3 g.nd))) (s_nil))
    (s_cons (s_if (d_tcmp (op_Eq g.K g.hu) (d_var 2) (d_int)) (s_one (s_asg (d_idx g.K (d_lst false (a_cons (d_str) (a_cons (d_str) (a_cons (d_str) (a_cons (d_str) (a_cons (d_str) (a_cons (d_str) (a_cons (d_str) (a_cons (d_str) (a_cons (d_str) (a_cons (d_str) (a_cons (d_str) (a_cons (d_str) (a_nil)))))))))))))) (d_call g c__law_take (by decide) (a_cons (d_var 0) (a_cons (d_int) (a_nil))))) (g_name (own := [3]) 3 g.nd))) (s_nil))
    (s_cons (s_asg (d_bin (op_Add g.K false) (d_lst false (a_cons (d_var 3) (a_nil))) (d_lc false g.calm g.nd (i_sq g.K (d_str)) (blkOk_by (N := N__law_name) (sc := (defScope (top 36))) (own := [("letter", 6)]) (by decide +kernel)) (fun s2 H1 C1 l1 f1 => g_name (own := [6]) 6 (g.blk _ _ _ _ _).nd) (fun s2 H1 C1 l1 f1 => ts_nil) (fun s2 H1 C1 l1 f1 => d_bin (op_Add (g.blk _ _ _ _ _).K false) (d_sl (g.blk _ _ _ _ _).K false (d_var 3) (o_no) (o_some (d_un un_Neg (d_int)))) (d_var 6)))) (g_name (own := [4]) 4 g.nd))
    (s_one (s_ret (d_idx g.K (d_lc false g.calm g.nd (i_sq g.K (d_var 4)) (blkOk_by (N := N__law_name) (sc := (defScope (top 36))) (own := [("one", 7)]) (by decide +kernel)) (fun s3 H1 C1 l1 f1 => g_name (own := [7]) 7 (g.blk _ _ _ _ _).nd) (fun s3 H1 C1 l1 f1 => ts_one ((d_andB (d_tcmp (op_Nin (g.blk _ _ _ _ _).K) (d_var 7) (d_var 1)) (d_and1 (d_tcmp (op_Nin (g.blk _ _ _ _ _).K) (d_var 7) (d_call0 (g.blk _ _ _ _ _) c__law_kept_out (by decide))))).pt)) (fun s3 H1 C1 l1 f1 => d_var 7)) (d_int)))))))))
/-! ### _law_names -/
def N__law_names : List Str := ["box", "many", "found", "k"]
def b__law_names : SF :=
 sSeq (sAsg (gN 2) (fLst true (aNil)))
    (sSeq (sFor (iR1 (fV 1)) (gN 3) (sExpr (fMt oAppend (fV 2) (aCons (fCall 2 m__law_name (aCons (fV 0) (aCons (fV 2) (aNil)))) (aNil)))))
    (sRet (fV 2)))
def m__law_names : FF := runS 4 b__law_names
theorem sc__law_names : FnScope N__law_names ["box", "many"] (defScope (top 37)) := ⟨rfl, rfl, rfl, by decide +kernel, rfl, by decide +kernel, by decide +kernel⟩
theorem ok__law_names {K : PySem.W.Frag} {w : World} {mg : Str → Option Value} {base : Heap} (T : Txt K w mg) : FnG (cfg K) prog w mg base "_law_names" "_law_names" (top 37) 3 ["box", "many"] m__law_names := by
  obtain ⟨fd, F⟩ := T.f__law_names
  have c__law_name : FnG (cfg K) prog w mg base "_law_name" "_law_name" (top 36) 2 ["box", "found"] m__law_name := ok__law_name T
  refine ⟨⟨_, fd, F, T.g__law_names, F.binds (ps := ["box", "many"]) (fun _ _ _ _ _ _ ua hl => match ua, hl with | [_, _], _ => rfl), fn_ok (N := N__law_names) (body := b__law_names) F sc__law_names (hg_seal (N := N__law_names) (ps := ["box", "many"]) (body := b__law_names)) fun cdv A outer s H E g => ?_⟩⟩
  exact s_cons (s_asg (d_lst true (a_nil)) (g_name (own := [2]) 2 g.nd))
    (s_cons (s_for g.po g.calm (i_r1 T.b_range (d_var 1)) (g_name (own := [3]) 3 g.nd) (s_one (s_expr (d_mt g.K mt_Append PySem.F.slot_list_append PySem.F.type_list_append (d_var 2) (a_cons (d_call g c__law_name (by decide) (a_cons (d_var 0) (a_cons (d_var 2) (a_nil)))) (a_nil))))))
    (s_one (s_ret (d_var 2))))
/-! ### _law_kinds -/
def N__law_kinds : List Str := []
def b__law_kinds : SF :=
 sRet (fLst false (aCons (fC (.str "any")) (aCons (fC (.str "alike")) (aCons (fC (.str "unlike")) (aCons (fC (.str "less")) (aCons (fC (.str "most")) (aCons (fC (.str "more")) (aCons (fC (.str "least")) (aNil)))))))))
def m__law_kinds : FF := runB 0 b__law_kinds
theorem sc__law_kinds : FnScope N__law_kinds [] (defScope (top 38)) := ⟨rfl, rfl, rfl, by decide +kernel, rfl, by decide +kernel, by decide +kernel⟩
theorem ok__law_kinds {K : PySem.W.Frag} {w : World} {mg : Str → Option Value} {base : Heap} (T : Txt K w mg) : FnG (cfg K) prog w mg base "_law_kinds" "_law_kinds" (top 38) 1 [] m__law_kinds := by
  obtain ⟨fd, F⟩ := T.f__law_kinds
  refine ⟨⟨_, fd, F, T.g__law_kinds, F.binds (ps := []) (fun _ _ _ _ _ _ ua hl => match ua, hl with | [], _ => rfl), fn_ok (N := N__law_kinds) (body := b__law_kinds) F sc__law_kinds (hg_run (N := N__law_kinds) (ps := []) (body := b__law_kinds)) fun cdv A outer s H E g => ?_⟩⟩
  exact s_one (s_ret (d_lst false (a_cons (d_str) (a_cons (d_str) (a_cons (d_str) (a_cons (d_str) (a_cons (d_str) (a_cons (d_str) (a_cons (d_str) (a_nil))))))))))
/-! ### _law_leaf -/
def N__law_leaf : List Str := ["box", "columns"]
def b__law_leaf : SF :=
 sRet (fTup (aCons (fBin oIdx (fCall0 m__law_kinds) (fCall 2 m__law_take (aCons (fV 0) (aCons (fC (.int 7)) (aNil))))) (aCons (fBin oIdx (fV 1) (fCall 2 m__law_take (aCons (fV 0) (aCons (fBi oLen (aCons (fV 1) (aNil))) (aNil))))) (aNil))))
def m__law_leaf : FF := runB 2 b__law_leaf
theorem sc__law_leaf : FnScope N__law_leaf ["box", "columns"] (defScope (top 39)) := ⟨rfl, rfl, rfl, by decide +kernel, rfl, by decide +kernel, by decide +kernel⟩
theorem ok__law_leaf {K : PySem.W.Frag} {w : World} {mg : Str → Option Value} {base : Heap} (T : Txt K w mg) : FnG (cfg K) prog w mg base "_law_leaf" "_law_leaf" (top 39) 2 ["box", "columns"] m__law_leaf := by
  obtain ⟨fd, F⟩ := T.f__law_leaf
  have c__law_take : FnG (cfg K) prog w mg base "_law_take" "_law_take" (top 34) 1 ["box", "many"] m__law_take := ok__law_take T
  have c__law_kinds : FnG (cfg K) prog w mg base "_law_kinds" "_law_kinds" (top 38) 1 [] m__law_kinds := ok__law_kinds T
  refine ⟨⟨_, fd, F, T.g__law_leaf, F.binds (ps := ["box", "columns"]) (fun _ _ _ _ _ _ ua hl => match ua, hl with | [_, _], _ => rfl), fn_ok (N := N__law_leaf) (body := b__law_leaf) F sc__law_leaf (hg_run (N := N__law_leaf) (ps := ["box", "columns"]) (body := b__law_leaf)) fun cdv A outer s H E g => ?_⟩⟩
  exact s_one (s_ret (d_tup (a_cons (d_idx g.K (d_call0 g c__law_kinds (by decide)) (d_call g c__law_take (by decide) (a_cons (d_var 0) (a_cons (d_int) (a_nil))))) (a_cons (d_idx g.K (d_var 1) (d_call g c__law_take (by decide) (a_cons (d_var 0) (a_cons (d_bi (cr_Len g.K) T.b_len rfl (a_cons (d_var 1) (a_nil))) (a_nil))))) (a_nil)))))
/-! ### _law_formula, by itself -/
def N__law_formula : List Str := ["box", "columns", "deep", "way", "one", "other"]
def b__law_formula (r : FF) : SF :=
 sSeq (sAsg (gN 3) (fCall 2 m__law_take (aCons (fV 0) (aCons (fC (.int 5)) (aNil)))))
    (sSeq (sIf (fOrB (fTb (fBin oLt (fV 2) (fC (.int 2)))) (fTb (fBin oEq (fV 3) (fC (.int 0))))) (sRet (fCall 2 m__law_leaf (aCons (fV 0) (aCons (fV 1) (aNil))))) (sNil))
    (sSeq (sAsg (gN 4) (fCall 3 r (aCons (fV 0) (aCons (fV 1) (aCons (fBin oSub (fV 2) (fC (.int 1))) (aNil))))))
    (sSeq (sIf (fTb (fBin oEq (fV 3) (fC (.int 1)))) (sRet (fTup (aCons (fC (.str "not")) (aCons (fV 4) (aNil))))) (sNil))
    (sSeq (sAsg (gN 5) (fIf (fTb (fBin oEq (fCall 2 m__law_take (aCons (fV 0) (aCons (fC (.int 5)) (aNil)))) (fC (.int 0)))) (fV 4) (fCall 3 r (aCons (fV 0) (aCons (fV 1) (aCons (fBin oSub (fV 2) (fC (.int 1))) (aNil)))))))
    (sRet (fTup (aCons (fBin oIdx (fLst false (aCons (fC (.str "all")) (aCons (fC (.str "some")) (aNil)))) (fBin oMod (fV 3) (fC (.int 2)))) (aCons (fV 4) (aCons (fV 5) (aNil))))))))))
def m__law_formula : Nat → FF
  | 0 => mStuck
  | n + 1 => runB 6 (b__law_formula (m__law_formula n))
theorem sc__law_formula : FnScope N__law_formula ["box", "columns", "deep"] (defScope (top 40)) := ⟨rfl, rfl, rfl, by decide +kernel, rfl, by decide +kernel, by decide +kernel⟩
theorem ok__law_formula {K : PySem.W.Frag} {w : World} {mg : Str → Option Value} {base : Heap} (T : Txt K w mg) : ∀ n : Nat, FnG (cfg K) prog w mg base "_law_formula" "_law_formula" (top 40) (3 + n) ["box", "columns", "deep"] (m__law_formula n)
  | 0 => by
    obtain ⟨fd, F⟩ := T.f__law_formula
    exact ⟨_, fd, F, T.g__law_formula, F.binds (ps := ["box", "columns", "deep"]) (fun _ _ _ _ _ _ ua hl => match ua, hl with | [_, _, _], _ => rfl), fn_stuck⟩
  | n + 1 => by
    obtain ⟨fd, F⟩ := T.f__law_formula
    have c__law_take : FnG (cfg K) prog w mg base "_law_take" "_law_take" (top 34) 1 ["box", "many"] m__law_take := ok__law_take T
    have c__law_leaf : FnG (cfg K) prog w mg base "_law_leaf" "_law_leaf" (top 39) 2 ["box", "columns"] m__law_leaf := ok__law_leaf T
    have c__law_formula : FnG (cfg K) prog w mg base "_law_formula" "_law_formula" (top 40) (3 + n) ["box", "columns", "deep"] (m__law_formula n) := ok__law_formula T n
    refine ⟨⟨_, fd, F, T.g__law_formula, F.binds (ps := ["box", "columns", "deep"]) (fun _ _ _ _ _ _ ua hl => match ua, hl with | [_, _, _], _ => rfl), fn_ok (N := N__law_formula) (body := (b__law_formula (m__law_formula n))) F sc__law_formula (hg_run (N := N__law_formula) (ps := ["box", "columns", "deep"]) (body := (b__law_formula (m__law_formula n)))) fun cdv A outer s H E g => ?_⟩⟩
    exact s_cons (s_asg (d_call g c__law_take (lv (by decide)) (a_cons (d_var 0) (a_cons (d_int) (a_nil)))) (g_name (own := [3]) 3 g.nd))
      (s_cons (s_if ((d_orB (d_tcmp op_Lt (d_var 2) (d_int)) (d_or1 (d_tcmp (op_Eq g.K g.hu) (d_var 3) (d_int)))).pt) (s_one (s_ret (d_call g c__law_leaf (lv (by decide)) (a_cons (d_var 0) (a_cons (d_var 1) (a_nil)))))) (s_nil))
      (s_cons (s_asg (d_call g c__law_formula (Nat.le_refl _) (a_cons (d_var 0) (a_cons (d_var 1) (a_cons (d_bin op_Sub (d_var 2) (d_int)) (a_nil))))) (g_name (own := [4]) 4 g.nd))
      (s_cons (s_if (d_tcmp (op_Eq g.K g.hu) (d_var 3) (d_int)) (s_one (s_ret (d_tup (a_cons (d_str) (a_cons (d_var 4) (a_nil)))))) (s_nil))
      (s_cons (s_asg (d_ife (d_tcmp (op_Eq g.K g.hu) (d_call g c__law_take (lv (by decide)) (a_cons (d_var 0) (a_cons (d_int) (a_nil)))) (d_int)) (d_var 4) (d_call g c__law_formula (Nat.le_refl _) (a_cons (d_var 0) (a_cons (d_var 1) (a_cons (d_bin op_Sub (d_var 2) (d_int)) (a_nil)))))) (g_name (own := [5]) 5 g.nd))
      (s_one (s_ret (d_tup (a_cons (d_idx g.K (d_lst false (a_cons (d_str) (a_cons (d_str) (a_nil)))) (d_bin op_Mod' (d_var 3) (d_int))) (a_cons (d_var 4) (a_cons (d_var 5) (a_nil)))))))))))
/-! ### _law_tall -/
def N__law_tall : List Str := ["box", "columns", "deep", "found", "k", "other", "way", "pair"]
def b__law_tall : SF :=
 sSeq (sAsg (gN 3) (fCall 2 m__law_leaf (aCons (fV 0) (aCons (fV 1) (aNil)))))
    (sSeq (sFor (iR1 (fBin oSub (fV 2) (fC (.int 1)))) (gN 4) (sSeq (sPar [5, 6] (aCons (fCall 3 (m__law_formula 8) (aCons (fV 0) (aCons (fV 1) (aCons (fBi oMin (aCons (fC (.int 2)) (aCons (fBin (oAdd false) (fV 4) (fC (.int 1))) (aNil)))) (aNil))))) (aCons (fCall 2 m__law_take (aCons (fV 0) (aCons (fC (.int 5)) (aNil)))) (aNil))))
    (sIf (fTb (fBin oEq (fV 6) (fC (.int 0)))) (sAsg (gN 3) (fTup (aCons (fC (.str "not")) (aCons (fV 3) (aNil))))) (sSeq (sAsg (gN 7) (fIf (fTb (fBin oLt (fV 6) (fC (.int 3)))) (fTup (aCons (fV 3) (aCons (fV 5) (aNil)))) (fTup (aCons (fV 5) (aCons (fV 3) (aNil))))))
    (sAsg (gN 3) (fBin (oAdd false) (fTup (aCons (fBin oIdx (fLst false (aCons (fC (.str "all")) (aCons (fC (.str "some")) (aNil)))) (fCall 2 m__law_take (aCons (fV 0) (aCons (fC (.int 2)) (aNil))))) (aNil))) (fV 7)))))))
    (sRet (fV 3)))
def m__law_tall : FF := runB 8 b__law_tall
theorem sc__law_tall : FnScope N__law_tall ["box", "columns", "deep"] (defScope (top 41)) := ⟨rfl, rfl, rfl, by decide +kernel, rfl, by decide +kernel, by decide +kernel⟩
theorem ok__law_tall {K : PySem.W.Frag} {w : World} {mg : Str → Option Value} {base : Heap} (T : Txt K w mg) : FnG (cfg K) prog w mg base "_law_tall" "_law_tall" (top 41) 12 ["box", "columns", "deep"] m__law_tall := by
  obtain ⟨fd, F⟩ := T.f__law_tall
  have c__law_leaf : FnG (cfg K) prog w mg base "_law_leaf" "_law_leaf" (top 39) 2 ["box", "columns"] m__law_leaf := ok__law_leaf T
  have c__law_take : FnG (cfg K) prog w mg base "_law_take" "_law_take" (top 34) 1 ["box", "many"] m__law_take := ok__law_take T
  have c__law_formula : FnG (cfg K) prog w mg base "_law_formula" "_law_formula" (top 40) 11 ["box", "columns", "deep"] (m__law_formula 8) := ok__law_formula T 8
  refine ⟨⟨_, fd, F, T.g__law_tall, F.binds (ps := ["box", "columns", "deep"]) (fun _ _ _ _ _ _ ua hl => match ua, hl with | [_, _, _], _ => rfl), fn_ok (N := N__law_tall) (body := b__law_tall) F sc__law_tall (hg_run (N := N__law_tall) (ps := ["box", "columns", "deep"]) (body := b__law_tall)) fun cdv A outer s H E g => ?_⟩⟩
  exact s_cons (s_asg (d_call g c__law_leaf (by decide) (a_cons (d_var 0) (a_cons (d_var 1) (a_nil)))) (g_name (own := [3]) 3 g.nd))
    (s_cons (s_for g.po g.calm (i_r1 T.b_range (d_bin op_Sub (d_var 2) (d_int))) (g_name (own := [4]) 4 g.nd) (s_cons (s_par2 5 6 g.calm g.nd (a_cons (d_call g c__law_formula (by decide) (a_cons (d_var 0) (a_cons (d_var 1) (a_cons (d_bi (cr_Min g.calm) T.b_min rfl (a_cons (d_int) (a_cons (d_bin (op_Add g.K false) (d_var 4) (d_int)) (a_nil)))) (a_nil))))) (a_cons (d_call g c__law_take (by decide) (a_cons (d_var 0) (a_cons (d_int) (a_nil)))) (a_nil))))
    (s_one (s_if (d_tcmp (op_Eq g.K g.hu) (d_var 6) (d_int)) (s_one (s_asg (d_tup (a_cons (d_str) (a_cons (d_var 3) (a_nil)))) (g_name (own := [3]) 3 g.nd))) (s_cons (s_asg (d_ife (d_tcmp op_Lt (d_var 6) (d_int)) (d_tup (a_cons (d_var 3) (a_cons (d_var 5) (a_nil)))) (d_tup (a_cons (d_var 5) (a_cons (d_var 3) (a_nil))))) (g_name (own := [7]) 7 g.nd))
    (s_one (s_asg (d_bin (op_Add g.K false) (d_tup (a_cons (d_idx g.K (d_lst false (a_cons (d_str) (a_cons (d_str) (a_nil)))) (d_call g c__law_take (by decide) (a_cons (d_var 0) (a_cons (d_int) (a_nil))))) (a_nil))) (d_var 7)) (g_name (own := [3]) 3 g.nd))))))))
    (s_one (s_ret (d_var 3))))
/-! ### is_listed -/
def N_is_listed : List Str := ["value"]
def b_is_listed : SF :=
 sRet (fBi (oIsi isT) (aCons (fV 0) (aCons (fTup (aCons (fC (.ty "list")) (aCons (fC (.ty "tuple")) (aNil)))) (aNil))))
def m_is_listed : FF := runB 1 b_is_listed
theorem sc_is_listed : FnScope N_is_listed ["value"] (defScope (top 12)) := ⟨rfl, rfl, rfl, by decide +kernel, rfl, by decide +kernel, by decide +kernel⟩
theorem ok_is_listed {K : PySem.W.Frag} {w : World} {mg : Str → Option Value} {base : Heap} (T : Txt K w mg) : FnG (cfg K) prog w mg base "is_listed" "is_listed" (top 12) 1 ["value"] m_is_listed := by
  obtain ⟨fd, F⟩ := T.f_is_listed
  refine ⟨⟨_, fd, F, T.g_is_listed, F.binds (ps := ["value"]) (fun _ _ _ _ _ _ ua hl => match ua, hl with | [_], _ => rfl), fn_ok (N := N_is_listed) (body := b_is_listed) F sc_is_listed (hg_run (N := N_is_listed) (ps := ["value"]) (body := b_is_listed)) fun cdv A outer s H E g => ?_⟩⟩
  exact s_one (s_ret (d_bi (cr_Isi g.K T.isi) T.b_isinstance rfl (a_cons (d_var 0) (a_cons (d_tup (a_cons (d_ty (x := "list") T.b_list rfl) (a_cons (d_ty (x := "tuple") T.b_tuple rfl) (a_nil)))) (a_nil)))))
/-! ### is_word -/
def N_is_word : List Str := ["value", "sign"]
def b_is_word : SF :=
 sRet (fAnd (fBi (oIsi isT) (aCons (fV 0) (aCons (fC (.ty "str")) (aNil)))) (fAnd (fChain oLe oLe (fC (.int 1)) (fBi oLen (aCons (fV 0) (aNil))) (fC (.int 8))) (fBi oAll (aCons (fLc false (iS (fV 0)) (gN 1) (tTrue) (fBin oIn (fV 1) (fC (.str "abcdefghijklmnopqrstuvwxyz"))) [1]) (aNil)))))
def m_is_word : FF := runB 2 b_is_word
theorem sc_is_word : FnScope N_is_word ["value"] (defScope (top 14)) := ⟨rfl, rfl, rfl, by decide +kernel, rfl, by decide +kernel, by decide +kernel⟩
theorem ok_is_word {K : PySem.W.Frag} {w : World} {mg : Str → Option Value} {base : Heap} (T : Txt K w mg) : FnG (cfg K) prog w mg base "is_word" "is_word" (top 14) 1 ["value"] m_is_word := by
  obtain ⟨fd, F⟩ := T.f_is_word
  refine ⟨⟨_, fd, F, T.g_is_word, F.binds (ps := ["value"]) (fun _ _ _ _ _ _ ua hl => match ua, hl with | [_], _ => rfl), fn_ok (N := N_is_word) (body := b_is_word) F sc_is_word (hg_run (N := N_is_word) (ps := ["value"]) (body := b_is_word)) fun cdv A outer s H E g => ?_⟩⟩
  exact s_one (s_ret (d_and (d_bi (cr_Isi g.K T.isi) T.b_isinstance rfl (a_cons (d_var 0) (a_cons (d_ty (x := "str") T.b_str rfl) (a_nil)))) (d_and (d_chain op_Le op_Le (d_int) (d_bi (cr_Len g.K) T.b_len rfl (a_cons (d_var 0) (a_nil))) (d_gint T.v_MOST_LETTERS.choose_spec)) (d_one (d_bi (cr_All g.K g.calm) T.b_all rfl (a_cons (d_lc false g.calm g.nd (i_sq g.K (d_var 0)) (blkOk_by (N := N_is_word) (sc := (defScope (top 14))) (own := [("sign", 1)]) (by decide +kernel)) (fun s1 H1 C1 l1 f1 => g_name (own := [1]) 1 (g.blk _ _ _ _ _).nd) (fun s1 H1 C1 l1 f1 => ts_nil) (fun s1 H1 C1 l1 f1 => d_cmp (op_In (g.blk _ _ _ _ _).K) (d_var 1) (d_gstr T.v_LETTERS.choose_spec))) (a_nil)))))))
/-! ### is_name -/
def N_is_name : List Str := ["value"]
def b_is_name : SF :=
 sRet (fAnd (fCall 1 m_is_word (aCons (fV 0) (aNil))) (fBin oNin (fV 0) (fC (.rt g_NO_NAMES))))
def m_is_name : FF := runB 1 b_is_name
theorem sc_is_name : FnScope N_is_name ["value"] (defScope (top 15)) := ⟨rfl, rfl, rfl, by decide +kernel, rfl, by decide +kernel, by decide +kernel⟩
theorem ok_is_name {K : PySem.W.Frag} {w : World} {mg : Str → Option Value} {base : Heap} (T : Txt K w mg) : FnG (cfg K) prog w mg base "is_name" "is_name" (top 15) 2 ["value"] m_is_name := by
  obtain ⟨fd, F⟩ := T.f_is_name
  have c_is_word : FnG (cfg K) prog w mg base "is_word" "is_word" (top 14) 1 ["value"] m_is_word := ok_is_word T
  refine ⟨⟨_, fd, F, T.g_is_name, F.binds (ps := ["value"]) (fun _ _ _ _ _ _ ua hl => match ua, hl with | [_], _ => rfl), fn_ok (N := N_is_name) (body := b_is_name) F sc_is_name (hg_run (N := N_is_name) (ps := ["value"]) (body := b_is_name)) fun cdv A outer s H E g => ?_⟩⟩
  exact s_one (s_ret (d_and (d_call g c_is_word (by decide) (a_cons (d_var 0) (a_nil))) (d_one (d_cmp (op_Nin g.K) (d_var 0) (d_gtup T.g_NO_NAMES T.v_NO_NAMES rfl)))))
/-! ### are_unlike -/
def N_are_unlike : List Str := ["items"]
def b_are_unlike : SF :=
 sRet (fBin oEq (fLenSet (fV 0)) (fBi oLen (aCons (fV 0) (aNil))))
def m_are_unlike : FF := runB 1 b_are_unlike
theorem sc_are_unlike : FnScope N_are_unlike ["items"] (defScope (top 16)) := ⟨rfl, rfl, rfl, by decide +kernel, rfl, by decide +kernel, by decide +kernel⟩
theorem ok_are_unlike {K : PySem.W.Frag} {w : World} {mg : Str → Option Value} {base : Heap} (T : Txt K w mg) : FnG (cfg K) prog w mg base "are_unlike" "are_unlike" (top 16) 1 ["items"] m_are_unlike := by
  obtain ⟨fd, F⟩ := T.f_are_unlike
  refine ⟨⟨_, fd, F, T.g_are_unlike, F.binds (ps := ["items"]) (fun _ _ _ _ _ _ ua hl => match ua, hl with | [_], _ => rfl), fn_ok (N := N_are_unlike) (body := b_are_unlike) F sc_are_unlike (hg_run (N := N_are_unlike) (ps := ["items"]) (body := b_are_unlike)) fun cdv A outer s H E g => ?_⟩⟩
  exact s_one (s_ret (d_cmp (op_Eq g.K g.hu) (d_lenSet g.calm g.K T.b_len T.b_set (d_var 0)) (d_bi (cr_Len g.K) T.b_len rfl (a_cons (d_var 0) (a_nil)))))
/-! ### are_unlike_names -/
def N_are_unlike_names : List Str := ["value", "least", "most", "item"]
def b_are_unlike_names : SF :=
 sSeq (sIf (fOrB (fNotB (fTb (fCall 1 m_is_listed (aCons (fV 0) (aNil))))) (fNotB (fTb (fChain oLe oLe (fV 1) (fBi oLen (aCons (fV 0) (aNil))) (fV 2))))) (sRet (fC (.bl false))) (sNil))
    (sRet (fAnd (fBi oAll (aCons (fLc false (iS (fV 0)) (gN 3) (tTrue) (fCall 1 m_is_name (aCons (fV 3) (aNil))) [3]) (aNil))) (fCall 1 m_are_unlike (aCons (fV 0) (aNil)))))
def m_are_unlike_names : FF := runB 4 b_are_unlike_names
theorem sc_are_unlike_names : FnScope N_are_unlike_names ["value", "least", "most"] (defScope (top 17)) := ⟨rfl, rfl, rfl, by decide +kernel, rfl, by decide +kernel, by decide +kernel⟩
theorem ok_are_unlike_names {K : PySem.W.Frag} {w : World} {mg : Str → Option Value} {base : Heap} (T : Txt K w mg) : FnG (cfg K) prog w mg base "are_unlike_names" "are_unlike_names" (top 17) 3 ["value", "least", "most"] m_are_unlike_names := by
  obtain ⟨fd, F⟩ := T.f_are_unlike_names
  have c_is_listed : FnG (cfg K) prog w mg base "is_listed" "is_listed" (top 12) 1 ["value"] m_is_listed := ok_is_listed T
  have c_is_name : FnG (cfg K) prog w mg base "is_name" "is_name" (top 15) 2 ["value"] m_is_name := ok_is_name T
  have c_are_unlike : FnG (cfg K) prog w mg base "are_unlike" "are_unlike" (top 16) 1 ["items"] m_are_unlike := ok_are_unlike T
  refine ⟨⟨_, fd, F, T.g_are_unlike_names, F.binds (ps := ["value", "least", "most"]) (fun _ _ _ _ _ _ ua hl => match ua, hl with | [_, _, _], _ => rfl), fn_ok (N := N_are_unlike_names) (body := b_are_unlike_names) F sc_are_unlike_names (hg_run (N := N_are_unlike_names) (ps := ["value", "least", "most"]) (body := b_are_unlike_names)) fun cdv A outer s H E g => ?_⟩⟩
  exact s_cons (s_if ((d_orB (d_notB (d_tv (d_call g c_is_listed (by decide) (a_cons (d_var 0) (a_nil))))) (d_or1 (d_notB (d_tchain op_Le op_Le (d_var 1) (d_bi (cr_Len g.K) T.b_len rfl (a_cons (d_var 0) (a_nil))) (d_var 2))))).pt) (s_one (s_ret (d_bl))) (s_nil))
    (s_one (s_ret (d_and (d_bi (cr_All g.K g.calm) T.b_all rfl (a_cons (d_lc false g.calm g.nd (i_sq g.K (d_var 0)) (blkOk_by (N := N_are_unlike_names) (sc := (defScope (top 17))) (own := [("item", 3)]) (by decide +kernel)) (fun s1 H1 C1 l1 f1 => g_name (own := [3]) 3 (g.blk _ _ _ _ _).nd) (fun s1 H1 C1 l1 f1 => ts_nil) (fun s1 H1 C1 l1 f1 => d_call (g.blk _ _ _ _ _) c_is_name (by decide) (a_cons (d_var 3) (a_nil)))) (a_nil))) (d_one (d_call g c_are_unlike (by decide) (a_cons (d_var 0) (a_nil)))))))
/-! ### InvalidColumns -/
theorem sc_err_InvalidColumns : FnScope ["self", "given"] ["self", "given"] (defScope (cb 3 0)) := ⟨rfl, rfl, rfl, by decide +kernel, rfl, by decide +kernel, by decide +kernel⟩
theorem er_InvalidColumns {K : PySem.W.Frag} {w : World} {mg : Str → Option Value} {base : Heap} (T : Txt K w mg) : ErG (cfg K) prog w mg base "InvalidColumns" 1 "given" := by
  obtain ⟨fd, F⟩ := T.f_err_InvalidColumns
  exact ⟨⟨_, _, fd, T.e_InvalidColumns, T.g_InvalidColumns, T.ei_InvalidColumns, T.et_InvalidColumns, F.binds (ps := ["self", "given"]) (fun _ _ _ _ _ _ ua hl => match ua, hl with | [_, _], _ => rfl), err_fn F sc_err_InvalidColumns rfl rfl rfl rfl (by decide) (by decide) (by decide) T.e_InvalidColumns T.en_InvalidColumns T.gp_InvalidColumns⟩, rfl, T.ex_InvalidColumns, T.en_InvalidColumns⟩
/-! ### Form.__init__ -/
def N_Form___init__ : List Str := ["self", "columns", "at", "name"]
def b_Form___init__ : SF :=
 sSeq (sIf (fNotB (fTb (fCall 3 m_are_unlike_names (aCons (fV 1) (aCons (fC (.int 1)) (aCons (fC (.int 4)) (aNil))))))) (sRaise 1 (fV 1)) (sNil))
    (sSeq (sFld atT "columns" (fV 0) (fBi oTupOf (aCons (fV 1) (aNil))))
    (sFld atT "places" (fV 0) (fDc false (iEn (fFld atT "columns" (fV 0))) (gL (gsC (gN 2) (gsC (gN 3) (gsN))) 2) (tTrue) (fV 3) (fV 2) [2, 3])))
def m_Form___init__ : FF := runB 4 b_Form___init__
theorem sc_Form___init__ : FnScope N_Form___init__ ["self", "columns"] (defScope (cb 20 0)) := ⟨rfl, rfl, rfl, by decide +kernel, rfl, by decide +kernel, by decide +kernel⟩
theorem ok_Form___init__ {K : PySem.W.Frag} {w : World} {mg : Str → Option Value} {base : Heap} (T : Txt K w mg) : MkG (cfg K) prog w mg base "Form" 61 "Form.__init__" (cb 20 0) 4 ["self", "columns"] m_Form___init__ := by
  obtain ⟨fd, F⟩ := T.f_make_Form
  have c_are_unlike_names : FnG (cfg K) prog w mg base "are_unlike_names" "are_unlike_names" (top 17) 3 ["value", "least", "most"] m_are_unlike_names := ok_are_unlike_names T
  have c_err_InvalidColumns : ErG (cfg K) prog w mg base "InvalidColumns" 1 "given" := er_InvalidColumns T
  refine ⟨⟨_, fd, F, T.h_make_Form, T.g_Form, F.binds (ps := ["self", "columns"]) (fun _ _ _ _ _ _ ua hl => match ua, hl with | [_, _], _ => rfl), fn_ok (N := N_Form___init__) (body := b_Form___init__) F sc_Form___init__ (hg_run (N := N_Form___init__) (ps := ["self", "columns"]) (body := b_Form___init__)) fun cdv A outer s H E g => ?_⟩⟩
  exact s_cons (s_if (d_notB (d_tv (d_call g c_are_unlike_names (by decide) (a_cons (d_var 1) (a_cons (d_int) (a_cons (d_gint T.v_MOST_COLUMNS.choose_spec) (a_nil))))))) (s_one (s_raise g c_err_InvalidColumns (by decide) (d_var 1))) (s_nil))
    (s_cons (s_fld g.K T.atr (d_bty (cr_Tup g.K) T.b_tuple rfl (a_cons (d_var 1) (a_nil))) (d_var 0))
    (s_one (s_fld g.K T.atr (d_dc false g.calm g.nd (i_en g.K T.b_enumerate (d_fld g.K T.atr (d_var 0))) (blkOk_by (N := N_Form___init__) (sc := (defScope (cb 20 0))) (own := [("at", 2), ("name", 3)]) (by decide +kernel)) (fun s1 H1 C1 l1 f1 => g_seq (g.blk _ _ _ _ _).K (g.blk _ _ _ _ _).calm (gs_cons (g_name (own := [2, 3]) 2 (g.blk _ _ _ _ _).nd) (gs_cons (g_name (own := [2, 3]) 3 (g.blk _ _ _ _ _).nd) (gs_nil)))) (fun s1 H1 C1 l1 f1 => ts_nil) (fun s1 H1 C1 l1 f1 => d_var 3) (fun s1 H1 C1 l1 f1 => d_var 2)) (d_var 0))))
/-! ### _law_words, by itself -/
def N__law_words : List Str := ["formula", "found", "part"]
def b__law_words (r : FF) : SF :=
 sSeq (sAsg (gN 1) (fLst true (aCons (fBin oIdx (fV 0) (fC (.int 0))) (aNil))))
    (sSeq (sFor (iS (fSl false (fV 0) (oSome (fC (.int 1))) (oNo))) (gN 2) (sAsg (gN 1) (fBin (oAdd true) (fV 1) (fIf (fTb (fBi (oIsi isT) (aCons (fV 2) (aCons (fC (.ty "str")) (aNil))))) (fLst true (aCons (fV 2) (aNil))) (fCall 1 r (aCons (fV 2) (aNil)))))))
    (sRet (fV 1)))
def m__law_words : Nat → FF
  | 0 => mStuck
  | n + 1 => runB 3 (b__law_words (m__law_words n))
theorem sc__law_words : FnScope N__law_words ["formula"] (defScope (top 42)) := ⟨rfl, rfl, rfl, by decide +kernel, rfl, by decide +kernel, by decide +kernel⟩
theorem ok__law_words {K : PySem.W.Frag} {w : World} {mg : Str → Option Value} {base : Heap} (T : Txt K w mg) : ∀ n : Nat, FnG (cfg K) prog w mg base "_law_words" "_law_words" (top 42) (1 + n) ["formula"] (m__law_words n)
  | 0 => by
    obtain ⟨fd, F⟩ := T.f__law_words
    exact ⟨_, fd, F, T.g__law_words, F.binds (ps := ["formula"]) (fun _ _ _ _ _ _ ua hl => match ua, hl with | [_], _ => rfl), fn_stuck⟩
  | n + 1 => by
    obtain ⟨fd, F⟩ := T.f__law_words
    have c__law_words : FnG (cfg K) prog w mg base "_law_words" "_law_words" (top 42) (1 + n) ["formula"] (m__law_words n) := ok__law_words T n
    refine ⟨⟨_, fd, F, T.g__law_words, F.binds (ps := ["formula"]) (fun _ _ _ _ _ _ ua hl => match ua, hl with | [_], _ => rfl), fn_ok (N := N__law_words) (body := (b__law_words (m__law_words n))) F sc__law_words (hg_run (N := N__law_words) (ps := ["formula"]) (body := (b__law_words (m__law_words n)))) fun cdv A outer s H E g => ?_⟩⟩
    exact s_cons (s_asg (d_lst true (a_cons (d_idx g.K (d_var 0) (d_int)) (a_nil))) (g_name (own := [1]) 1 g.nd))
      (s_cons (s_for g.po g.calm (i_sq g.K (d_sl g.K false (d_var 0) (o_some (d_int)) (o_no))) (g_name (own := [2]) 2 g.nd) (s_one (s_asg (d_bin (op_Add g.K true) (d_var 1) (d_ife (d_tv (d_bi (cr_Isi g.K T.isi) T.b_isinstance rfl (a_cons (d_var 2) (a_cons (d_ty (x := "str") T.b_str rfl) (a_nil))))) (d_lst true (a_cons (d_var 2) (a_nil))) (d_call g c__law_words (Nat.le_refl _) (a_cons (d_var 2) (a_nil))))) (g_name (own := [1]) 1 g.nd))))
      (s_one (s_ret (d_var 1))))
/-! ### is_tuple_of -/
def N_is_tuple_of : List Str := ["value", "many"]
def b_is_tuple_of : SF :=
 sRet (fAnd (fBi (oIsi isT) (aCons (fV 0) (aCons (fC (.ty "tuple")) (aNil)))) (fBin oEq (fBi oLen (aCons (fV 0) (aNil))) (fV 1)))
def m_is_tuple_of : FF := runB 2 b_is_tuple_of
theorem sc_is_tuple_of : FnScope N_is_tuple_of ["value", "many"] (defScope (top 13)) := ⟨rfl, rfl, rfl, by decide +kernel, rfl, by decide +kernel, by decide +kernel⟩
theorem ok_is_tuple_of {K : PySem.W.Frag} {w : World} {mg : Str → Option Value} {base : Heap} (T : Txt K w mg) : FnG (cfg K) prog w mg base "is_tuple_of" "is_tuple_of" (top 13) 1 ["value", "many"] m_is_tuple_of := by
  obtain ⟨fd, F⟩ := T.f_is_tuple_of
  refine ⟨⟨_, fd, F, T.g_is_tuple_of, F.binds (ps := ["value", "many"]) (fun _ _ _ _ _ _ ua hl => match ua, hl with | [_, _], _ => rfl), fn_ok (N := N_is_tuple_of) (body := b_is_tuple_of) F sc_is_tuple_of (hg_run (N := N_is_tuple_of) (ps := ["value", "many"]) (body := b_is_tuple_of)) fun cdv A outer s H E g => ?_⟩⟩
  exact s_one (s_ret (d_and (d_bi (cr_Isi g.K T.isi) T.b_isinstance rfl (a_cons (d_var 0) (a_cons (d_ty (x := "tuple") T.b_tuple rfl) (a_nil)))) (d_one (d_cmp (op_Eq g.K g.hu) (d_bi (cr_Len g.K) T.b_len rfl (a_cons (d_var 0) (a_nil))) (d_var 1)))))
/-! ### is_column -/
def N_is_column : List Str := ["form", "value"]
def b_is_column : SF :=
 sRet (fAnd (fBi (oIsi isT) (aCons (fV 1) (aCons (fC (.ty "str")) (aNil)))) (fBin oInD (fV 1) (fFld atT "places" (fV 0))))
def m_is_column : FF := runB 2 b_is_column
theorem sc_is_column : FnScope N_is_column ["form", "value"] (defScope (top 21)) := ⟨rfl, rfl, rfl, by decide +kernel, rfl, by decide +kernel, by decide +kernel⟩
theorem ok_is_column {K : PySem.W.Frag} {w : World} {mg : Str → Option Value} {base : Heap} (T : Txt K w mg) : FnG (cfg K) prog w mg base "is_column" "is_column" (top 21) 1 ["form", "value"] m_is_column := by
  obtain ⟨fd, F⟩ := T.f_is_column
  refine ⟨⟨_, fd, F, T.g_is_column, F.binds (ps := ["form", "value"]) (fun _ _ _ _ _ _ ua hl => match ua, hl with | [_, _], _ => rfl), fn_ok (N := N_is_column) (body := b_is_column) F sc_is_column (hg_run (N := N_is_column) (ps := ["form", "value"]) (body := b_is_column)) fun cdv A outer s H E g => ?_⟩⟩
  exact s_one (s_ret (d_and (d_bi (cr_Isi g.K T.isi) T.b_isinstance rfl (a_cons (d_var 1) (a_cons (d_ty (x := "str") T.b_str rfl) (a_nil)))) (d_one (d_cmp (op_InD g.K g.hu) (d_var 1) (d_fld g.K T.atr (d_var 0))))))
/-! ### is_formula_within, by itself -/
def N_is_formula_within : List Str := ["form", "value", "most", "part"]
def b_is_formula_within (r : FF) : SF :=
 sSeq (sIf (fOrB (fTb (fBin oLt (fV 2) (fC (.int 1)))) (fOrB (fNotB (fTb (fBi (oIsi isT) (aCons (fV 1) (aCons (fC (.ty "tuple")) (aNil)))))) (fOrB (fNotB (fTru (fV 1))) (fNotB (fTb (fBi (oIsi isT) (aCons (fBin oIdx (fV 1) (fC (.int 0))) (aCons (fC (.ty "str")) (aNil))))))))) (sRet (fC (.bl false))) (sNil))
    (sSeq (sIf (fTb (fBin (oInW 93 k_KINDS) (fBin oIdx (fV 1) (fC (.int 0))) (fC (.cls 93)))) (sRet (fAnd (fCall 2 m_is_tuple_of (aCons (fV 1) (aCons (fC (.int 2)) (aNil)))) (fCall 2 m_is_column (aCons (fV 0) (aCons (fBin oIdx (fV 1) (fC (.int 1))) (aNil)))))) (sNil))
    (sSeq (sIf (fOrB (fTb (fBin (oNinW 86 k_PARTS) (fBin oIdx (fV 1) (fC (.int 0))) (fC (.cls 86)))) (fTb (fBin oNe (fBi oLen (aCons (fV 1) (aNil))) (fBin (oAdd false) (fC (.int 1)) (fDgW kv_PARTS (fBin oIdx (fV 1) (fC (.int 0)))))))) (sRet (fC (.bl false))) (sNil))
    (sRet (fBi oAll (aCons (fLc false (iS (fSl false (fV 1) (oSome (fC (.int 1))) (oNo))) (gN 3) (tTrue) (fCall 3 r (aCons (fV 0) (aCons (fV 3) (aCons (fBin oSub (fV 2) (fC (.int 1))) (aNil))))) [3]) (aNil))))))
def m_is_formula_within : Nat → FF
  | 0 => mStuck
  | n + 1 => runB 4 (b_is_formula_within (m_is_formula_within n))
theorem sc_is_formula_within : FnScope N_is_formula_within ["form", "value", "most"] (defScope (top 25)) := ⟨rfl, rfl, rfl, by decide +kernel, rfl, by decide +kernel, by decide +kernel⟩
theorem ok_is_formula_within {K : PySem.W.Frag} {w : World} {mg : Str → Option Value} {base : Heap} (T : Txt K w mg) : ∀ n : Nat, FnG (cfg K) prog w mg base "is_formula_within" "is_formula_within" (top 25) (2 + n) ["form", "value", "most"] (m_is_formula_within n)
  | 0 => by
    obtain ⟨fd, F⟩ := T.f_is_formula_within
    exact ⟨_, fd, F, T.g_is_formula_within, F.binds (ps := ["form", "value", "most"]) (fun _ _ _ _ _ _ ua hl => match ua, hl with | [_, _, _], _ => rfl), fn_stuck⟩
  | n + 1 => by
    obtain ⟨fd, F⟩ := T.f_is_formula_within
    have c_is_tuple_of : FnG (cfg K) prog w mg base "is_tuple_of" "is_tuple_of" (top 13) 1 ["value", "many"] m_is_tuple_of := ok_is_tuple_of T
    have c_is_column : FnG (cfg K) prog w mg base "is_column" "is_column" (top 21) 1 ["form", "value"] m_is_column := ok_is_column T
    have c_is_formula_within : FnG (cfg K) prog w mg base "is_formula_within" "is_formula_within" (top 25) (2 + n) ["form", "value", "most"] (m_is_formula_within n) := ok_is_formula_within T n
    refine ⟨⟨_, fd, F, T.g_is_formula_within, F.binds (ps := ["form", "value", "most"]) (fun _ _ _ _ _ _ ua hl => match ua, hl with | [_, _, _], _ => rfl), fn_ok (N := N_is_formula_within) (body := (b_is_formula_within (m_is_formula_within n))) F sc_is_formula_within (hg_run (N := N_is_formula_within) (ps := ["form", "value", "most"]) (body := (b_is_formula_within (m_is_formula_within n)))) fun cdv A outer s H E g => ?_⟩⟩
    exact s_cons (s_if ((d_orB (d_tcmp op_Lt (d_var 2) (d_int)) (d_orB (d_notB (d_tv (d_bi (cr_Isi g.K T.isi) T.b_isinstance rfl (a_cons (d_var 1) (a_cons (d_ty (x := "tuple") T.b_tuple rfl) (a_nil)))))) (d_orB (d_notB (d_tru g.K (d_var 1))) (d_or1 (d_notB (d_tv (d_bi (cr_Isi g.K T.isi) T.b_isinstance rfl (a_cons (d_idx g.K (d_var 1) (d_int)) (a_cons (d_ty (x := "str") T.b_str rfl) (a_nil)))))))))).pt) (s_one (s_ret (d_bl))) (s_nil))
      (s_cons (s_if (d_tcmp (op_InW g.K T.v_KINDS) (d_idx g.K (d_var 1) (d_int)) (d_cls T.g_KINDS)) (s_one (s_ret (d_and (d_call g c_is_tuple_of (lv (by decide)) (a_cons (d_var 1) (a_cons (d_int) (a_nil)))) (d_one (d_call g c_is_column (lv (by decide)) (a_cons (d_var 0) (a_cons (d_idx g.K (d_var 1) (d_int)) (a_nil)))))))) (s_nil))
      (s_cons (s_if ((d_orB (d_tcmp (op_NinW g.K T.v_PARTS) (d_idx g.K (d_var 1) (d_int)) (d_cls T.g_PARTS)) (d_or1 (d_tcmp (op_Ne g.K g.hu) (d_bi (cr_Len g.K) T.b_len rfl (a_cons (d_var 1) (a_nil))) (d_bin (op_Add g.K false) (d_int) (d_dgw g.K T.g_PARTS T.v_PARTS T.vv_PARTS (d_idx g.K (d_var 1) (d_int))))))).pt) (s_one (s_ret (d_bl))) (s_nil))
      (s_one (s_ret (d_bi (cr_All g.K g.calm) T.b_all rfl (a_cons (d_lc false g.calm g.nd (i_sq g.K (d_sl g.K false (d_var 1) (o_some (d_int)) (o_no))) (blkOk_by (N := N_is_formula_within) (sc := (defScope (top 25))) (own := [("part", 3)]) (by decide +kernel)) (fun s1 H1 C1 l1 f1 => g_name (own := [3]) 3 (g.blk _ _ _ _ _).nd) (fun s1 H1 C1 l1 f1 => ts_nil) (fun s1 H1 C1 l1 f1 => d_call (g.blk _ _ _ _ _) c_is_formula_within (Nat.le_refl _) (a_cons (d_var 0) (a_cons (d_var 3) (a_cons (d_bin op_Sub (d_var 2) (d_int)) (a_nil)))))) (a_nil)))))))
/-! ### is_formula -/
def N_is_formula : List Str := ["form", "value"]
def b_is_formula : SF :=
 sRet (fCall 3 (m_is_formula_within 8) (aCons (fV 0) (aCons (fV 1) (aCons (fC (.int 6)) (aNil)))))
def m_is_formula : FF := runB 2 b_is_formula
theorem sc_is_formula : FnScope N_is_formula ["form", "value"] (defScope (top 28)) := ⟨rfl, rfl, rfl, by decide +kernel, rfl, by decide +kernel, by decide +kernel⟩
theorem ok_is_formula {K : PySem.W.Frag} {w : World} {mg : Str → Option Value} {base : Heap} (T : Txt K w mg) : FnG (cfg K) prog w mg base "is_formula" "is_formula" (top 28) 11 ["form", "value"] m_is_formula := by
  obtain ⟨fd, F⟩ := T.f_is_formula
  have c_is_formula_within : FnG (cfg K) prog w mg base "is_formula_within" "is_formula_within" (top 25) 10 ["form", "value", "most"] (m_is_formula_within 8) := ok_is_formula_within T 8
  refine ⟨⟨_, fd, F, T.g_is_formula, F.binds (ps := ["form", "value"]) (fun _ _ _ _ _ _ ua hl => match ua, hl with | [_, _], _ => rfl), fn_ok (N := N_is_formula) (body := b_is_formula) F sc_is_formula (hg_run (N := N_is_formula) (ps := ["form", "value"]) (body := b_is_formula)) fun cdv A outer s H E g => ?_⟩⟩
  exact s_one (s_ret (d_call g c_is_formula_within (by decide) (a_cons (d_var 0) (a_cons (d_var 1) (a_cons (d_gint T.v_DEEPEST.choose_spec) (a_nil))))))
/-! ### InvalidFormula -/
theorem sc_err_InvalidFormula : FnScope ["self", "given"] ["self", "given"] (defScope (cb 5 0)) := ⟨rfl, rfl, rfl, by decide +kernel, rfl, by decide +kernel, by decide +kernel⟩
theorem er_InvalidFormula {K : PySem.W.Frag} {w : World} {mg : Str → Option Value} {base : Heap} (T : Txt K w mg) : ErG (cfg K) prog w mg base "InvalidFormula" 6 "given" := by
  obtain ⟨fd, F⟩ := T.f_err_InvalidFormula
  exact ⟨⟨_, _, fd, T.e_InvalidFormula, T.g_InvalidFormula, T.ei_InvalidFormula, T.et_InvalidFormula, F.binds (ps := ["self", "given"]) (fun _ _ _ _ _ _ ua hl => match ua, hl with | [_, _], _ => rfl), err_fn F sc_err_InvalidFormula rfl rfl rfl rfl (by decide) (by decide) (by decide) T.e_InvalidFormula T.en_InvalidFormula T.gp_InvalidFormula⟩, rfl, T.ex_InvalidFormula, T.en_InvalidFormula⟩
/-! ### words_of, by itself -/
def N_words_of : List Str := ["formula", "word", "parts", "part", "one"]
def b_words_of (r : FF) : SF :=
 sSeq (sRest 1 2 (fV 0))
    (sRet (fIf (fTb (fBin (oInW 93 k_KINDS) (fV 1) (fC (.cls 93)))) (fLst false (aCons (fV 1) (aStar (fV 2) (aNil)))) (fBin (oAdd false) (fLst false (aCons (fV 1) (aNil))) (fLc2 false (iS (fV 2)) (gN 3) (tTrue) (iS (fCall 1 r (aCons (fV 3) (aNil)))) (gN 4) (tTrue) (fV 4) [3, 4] [4]))))
def m_words_of : Nat → FF
  | 0 => mStuck
  | n + 1 => runB 5 (b_words_of (m_words_of n))
theorem sc_words_of : FnScope N_words_of ["formula"] (defScope (top 26)) := ⟨rfl, rfl, rfl, by decide +kernel, rfl, by decide +kernel, by decide +kernel⟩
theorem ok_words_of {K : PySem.W.Frag} {w : World} {mg : Str → Option Value} {base : Heap} (T : Txt K w mg) : ∀ n : Nat, FnG (cfg K) prog w mg base "words_of" "words_of" (top 26) (1 + n) ["formula"] (m_words_of n)
  | 0 => by
    obtain ⟨fd, F⟩ := T.f_words_of
    exact ⟨_, fd, F, T.g_words_of, F.binds (ps := ["formula"]) (fun _ _ _ _ _ _ ua hl => match ua, hl with | [_], _ => rfl), fn_stuck⟩
  | n + 1 => by
    obtain ⟨fd, F⟩ := T.f_words_of
    have c_words_of : FnG (cfg K) prog w mg base "words_of" "words_of" (top 26) (1 + n) ["formula"] (m_words_of n) := ok_words_of T n
    refine ⟨⟨_, fd, F, T.g_words_of, F.binds (ps := ["formula"]) (fun _ _ _ _ _ _ ua hl => match ua, hl with | [_], _ => rfl), fn_ok (N := N_words_of) (body := (b_words_of (m_words_of n))) F sc_words_of (hg_run (N := N_words_of) (ps := ["formula"]) (body := (b_words_of (m_words_of n)))) fun cdv A outer s H E g => ?_⟩⟩
    exact s_cons (s_rest 1 2 g.K g.calm g.nd (d_var 0))
      (s_one (s_ret (d_ife (d_tcmp (op_InW g.K T.v_KINDS) (d_var 1) (d_cls T.g_KINDS)) (d_lst false (a_cons (d_var 1) (a_star g.K (d_var 2) (a_nil)))) (d_bin (op_Add g.K false) (d_lst false (a_cons (d_var 1) (a_nil))) (d_lc2 false g.calm g.nd (i_sq g.K (d_var 2)) (blkOk_by (N := N_words_of) (sc := (defScope (top 26))) (own := [("part", 3), ("one", 4)]) (by decide +kernel)) (by decide) (fun s1 H1 C1 l1 f1 => g_name (own := [3, 4]) 3 (g.blk _ _ _ _ _).nd) (fun s1 H1 C1 l1 f1 => ts_nil) (fun s1 H1 C1 l1 f1 => i_sq (g.blk _ _ _ _ _).K (d_call (g.blk _ _ _ _ _) c_words_of (Nat.le_refl _) (a_cons (d_var 3) (a_nil)))) (fun s1 H1 C1 l1 f1 => g_name (own := [4]) 4 (g.blk _ _ _ _ _).nd) (fun s1 H1 C1 l1 f1 => ts_nil) (fun s1 H1 C1 l1 f1 => d_var 4))))))
/-! ### formula_text -/
def N_formula_text : List Str := ["form", "formula"]
def b_formula_text : SF :=
 sSeq (sIf (fNotB (fTb (fCall 2 m_is_formula (aCons (fV 0) (aCons (fV 1) (aNil)))))) (sRaise 6 (fV 1)) (sNil))
    (sRet (fM1S oJoin (fC (.str " ")) (fCall 1 (m_words_of 8) (aCons (fV 1) (aNil)))))
def m_formula_text : FF := runB 2 b_formula_text
theorem sc_formula_text : FnScope N_formula_text ["form", "formula"] (defScope (top 29)) := ⟨rfl, rfl, rfl, by decide +kernel, rfl, by decide +kernel, by decide +kernel⟩
theorem ok_formula_text {K : PySem.W.Frag} {w : World} {mg : Str → Option Value} {base : Heap} (T : Txt K w mg) : FnG (cfg K) prog w mg base "formula_text" "formula_text" (top 29) 12 ["form", "formula"] m_formula_text := by
  obtain ⟨fd, F⟩ := T.f_formula_text
  have c_is_formula : FnG (cfg K) prog w mg base "is_formula" "is_formula" (top 28) 11 ["form", "value"] m_is_formula := ok_is_formula T
  have c_err_InvalidFormula : ErG (cfg K) prog w mg base "InvalidFormula" 6 "given" := er_InvalidFormula T
  have c_words_of : FnG (cfg K) prog w mg base "words_of" "words_of" (top 26) 9 ["formula"] (m_words_of 8) := ok_words_of T 8
  refine ⟨⟨_, fd, F, T.g_formula_text, F.binds (ps := ["form", "formula"]) (fun _ _ _ _ _ _ ua hl => match ua, hl with | [_, _], _ => rfl), fn_ok (N := N_formula_text) (body := b_formula_text) F sc_formula_text (hg_run (N := N_formula_text) (ps := ["form", "formula"]) (body := b_formula_text)) fun cdv A outer s H E g => ?_⟩⟩
  exact s_cons (s_if (d_notB (d_tv (d_call g c_is_formula (by decide) (a_cons (d_var 0) (a_cons (d_var 1) (a_nil)))))) (s_one (s_raise g c_err_InvalidFormula (by decide) (d_var 1))) (s_nil))
    (s_one (s_ret (d_join g.K (d_str) (d_call g c_words_of (by decide) (a_cons (d_var 1) (a_nil))))))
/-! ### _law_text_right -/
def N__law_text_right : List Str := ["form", "formula", "turn", "told"]
def b__law_text_right : SF :=
 sSeq (sAsg (gN 3) (fIf (fTb (fBin oEq (fV 2) (fC (.int 0)))) (fCall 2 m_formula_text (aCons (fV 0) (aCons (fV 1) (aNil)))) (fCallK 0 2 [1, 0] 2 m_formula_text aNil (aCons (fV 1) (aCons (fV 0) (aNil))))))
    (sRet (fAnd (fBi (oIsi isT) (aCons (fV 3) (aCons (fC (.ty "str")) (aNil)))) (fBin oEq (fV 3) (fM1S oJoin (fC (.str " ")) (fCall 1 (m__law_words 8) (aCons (fV 1) (aNil)))))))
def m__law_text_right : FF := runS 4 b__law_text_right
theorem sc__law_text_right : FnScope N__law_text_right ["form", "formula", "turn"] (defScope (top 49)) := ⟨rfl, rfl, rfl, by decide +kernel, rfl, by decide +kernel, by decide +kernel⟩
theorem ok__law_text_right {K : PySem.W.Frag} {w : World} {mg : Str → Option Value} {base : Heap} (T : Txt K w mg) : FnG (cfg K) prog w mg base "_law_text_right" "_law_text_right" (top 49) 13 ["form", "formula", "turn"] m__law_text_right := by
  obtain ⟨fd, F⟩ := T.f__law_text_right
  have c_formula_text : FnG (cfg K) prog w mg base "formula_text" "formula_text" (top 29) 12 ["form", "formula"] m_formula_text := ok_formula_text T
  have c__law_words : FnG (cfg K) prog w mg base "_law_words" "_law_words" (top 42) 9 ["formula"] (m__law_words 8) := ok__law_words T 8
  refine ⟨⟨_, fd, F, T.g__law_text_right, F.binds (ps := ["form", "formula", "turn"]) (fun _ _ _ _ _ _ ua hl => match ua, hl with | [_, _, _], _ => rfl), fn_ok (N := N__law_text_right) (body := b__law_text_right) F sc__law_text_right (hg_seal (N := N__law_text_right) (ps := ["form", "formula", "turn"]) (body := b__law_text_right)) fun cdv A outer s H E g => ?_⟩⟩
  exact s_cons (s_asg (d_ife (d_tcmp (op_Eq g.K g.hu) (d_var 2) (d_int)) (d_call g c_formula_text (by decide) (a_cons (d_var 0) (a_cons (d_var 1) (a_nil)))) (d_callKO (ks := ["formula", "form"]) g c_formula_text (by decide) [1, 0] (fun _ _ _ _ _ _ ua wa h1 h2 => match ua, h1, wa, h2 with | [], _, [_, _], _ => rfl) (k_cons (d_var 1) (k_cons (d_var 0) (k_nil))))) (g_name (own := [3]) 3 g.nd))
    (s_one (s_ret (d_and (d_bi (cr_Isi g.K T.isi) T.b_isinstance rfl (a_cons (d_var 3) (a_cons (d_ty (x := "str") T.b_str rfl) (a_nil)))) (d_one (d_cmp (op_Eq g.K g.hu) (d_var 3) (d_join g.K (d_str) (d_call g c__law_words (by decide) (a_cons (d_var 1) (a_nil)))))))))
/-! ### _law_read -/
def N__law_read : List Str := ["columns", "text", "left", "word", "levels", "one", "other"]
def b__law_read : SF :=
 sSeq (sAsg (gN 2) (fLst true (aNil)))
    (sSeq (sFor (iS (fRev false (fSt (oSplit false) (fV 1) (aCons (fC (.str " ")) (aNil))))) (gN 3) (sSeq (sAsg (gN 4) (fRev false (fLc false (iS (fSl false (fV 2) (oSome (fUn oNeg (fC (.int 2)))) (oNo))) (gN 5) (tTrue) (fBin oIdx (fV 5) (fC (.int 1))) [5])))
    (sSeq (sIf (fTb (fBin oIn (fV 3) (fV 0))) (sExpr (fMt oAppend (fV 2) (aCons (fLst false (aCons (fV 3) (aCons (fC (.int 0)) (aNil)))) (aNil)))) (sIf (fAndB (fTb (fBin oIn (fV 3) (fCall0 m__law_kinds))) (fTb (fBin oEq (fSl false (fV 4) (oNo) (oSome (fC (.int 1)))) (fLst false (aCons (fC (.int 0)) (aNil)))))) (sSeq (sAsg (gN 5) (fMt0 oPop (fV 2)))
    (sExpr (fMt oAppend (fV 2) (aCons (fLst false (aCons (fTup (aCons (fV 3) (aCons (fBin oIdx (fV 5) (fC (.int 0))) (aNil)))) (aCons (fC (.int 1)) (aNil)))) (aNil))))) (sIf (fAndB (fTb (fBin oEq (fV 3) (fC (.str "not")))) (fAndB (fTb (fBin oNe (fV 4) (fLst false (aNil)))) (fTb (fBin oGt (fBin oIdx (fV 4) (fC (.int 0))) (fC (.int 0)))))) (sSeq (sAsg (gN 5) (fMt0 oPop (fV 2)))
    (sExpr (fMt oAppend (fV 2) (aCons (fLst false (aCons (fTup (aCons (fV 3) (aCons (fBin oIdx (fV 5) (fC (.int 0))) (aNil)))) (aCons (fBin (oAdd false) (fBin oIdx (fV 5) (fC (.int 1))) (fC (.int 1))) (aNil)))) (aNil))))) (sIf (fAndB (fTb (fBin oIn (fV 3) (fLst false (aCons (fC (.str "all")) (aCons (fC (.str "some")) (aNil)))))) (fAndB (fTb (fBin oEq (fBi oLen (aCons (fV 4) (aNil))) (fC (.int 2)))) (fTb (fBin oGt (fBi oMinL (aCons (fV 4) (aNil))) (fC (.int 0)))))) (sSeq (sPar [5, 6] (aCons (fMt0 oPop (fV 2)) (aCons (fMt0 oPop (fV 2)) (aNil))))
    (sExpr (fMt oAppend (fV 2) (aCons (fLst false (aCons (fTup (aCons (fV 3) (aCons (fBin oIdx (fV 5) (fC (.int 0))) (aCons (fBin oIdx (fV 6) (fC (.int 0))) (aNil))))) (aCons (fBin (oAdd false) (fC (.int 1)) (fBi oMaxL (aCons (fV 4) (aNil)))) (aNil)))) (aNil))))) (sRet (fLst false (aNil)))))))
    (sIf (fTb (fBin oGt (fBin oIdx (fBin oIdx (fV 2) (fUn oNeg (fC (.int 1)))) (fC (.int 1))) (fC (.int 6)))) (sRet (fLst false (aNil))) (sNil)))))
    (sRet (fIf (fAndB (fTb (fBin oEq (fBi oLen (aCons (fV 2) (aNil))) (fC (.int 1)))) (fTb (fBin oGt (fBin oIdx (fBin oIdx (fV 2) (fC (.int 0))) (fC (.int 1))) (fC (.int 0))))) (fLst false (aCons (fBin oIdx (fBin oIdx (fV 2) (fC (.int 0))) (fC (.int 0))) (aNil))) (fLst false (aNil)))))
def m__law_read : FF := runS 7 b__law_read
theorem sc__law_read : FnScope N__law_read ["columns", "text"] (defScope (top 43)) := ⟨rfl, rfl, rfl, by decide +kernel, rfl, by decide +kernel, by decide +kernel⟩
theorem ok__law_read {K : PySem.W.Frag} {w : World} {mg : Str → Option Value} {base : Heap} (T : Txt K w mg) : FnG (cfg K) prog w mg base "_law_read" "_law_read" (top 43) 2 ["columns", "text"] m__law_read := by
  obtain ⟨fd, F⟩ := T.f__law_read
  have c__law_kinds : FnG (cfg K) prog w mg base "_law_kinds" "_law_kinds" (top 38) 1 [] m__law_kinds := ok__law_kinds T
  refine ⟨⟨_, fd, F, T.g__law_read, F.binds (ps := ["columns", "text"]) (fun _ _ _ _ _ _ ua hl => match ua, hl with | [_, _], _ => rfl), fn_ok (N := N__law_read) (body := b__law_read) F sc__law_read (hg_seal (N := N__law_read) (ps := ["columns", "text"]) (body := b__law_read)) fun cdv A outer s H E g => ?_⟩⟩
  exact s_cons (s_asg (d_lst true (a_nil)) (g_name (own := [2]) 2 g.nd))
    (s_cons (s_for g.po g.calm (i_sq g.K (d_rev g.K false (d_st (mt_Split false) PySem.F.slot_str_split PySem.F.type_str_split (d_var 1) (a_cons (d_str) (a_nil))))) (g_name (own := [3]) 3 g.nd) (s_cons (s_asg (d_rev g.K false (d_lc false g.calm g.nd (i_sq g.K (d_sl g.K false (d_var 2) (o_some (d_un un_Neg (d_int))) (o_no))) (blkOk_by (N := N__law_read) (sc := (defScope (top 43))) (own := [("one", 5)]) (by decide +kernel)) (fun s1 H1 C1 l1 f1 => g_name (own := [5]) 5 (g.blk _ _ _ _ _).nd) (fun s1 H1 C1 l1 f1 => ts_nil) (fun s1 H1 C1 l1 f1 => d_idx (g.blk _ _ _ _ _).K (d_var 5) (d_int)))) (g_name (own := [4]) 4 g.nd))
    (s_cons (s_if (d_tcmp (op_In g.K) (d_var 3) (d_var 0)) (s_one (s_expr (d_mt g.K mt_Append PySem.F.slot_list_append PySem.F.type_list_append (d_var 2) (a_cons (d_lst false (a_cons (d_var 3) (a_cons (d_int) (a_nil)))) (a_nil))))) (s_one (s_if ((d_andB (d_tcmp (op_In g.K) (d_var 3) (d_call0 g c__law_kinds (by decide))) (d_and1 (d_tcmp (op_Eq g.K g.hu) (d_sl g.K false (d_var 4) (o_no) (o_some (d_int))) (d_lst false (a_cons (d_int) (a_nil)))))).pt) (s_cons (s_asg (d_mt0 g.K mt_Pop PySem.F.slot_list_pop PySem.F.type_list_pop (d_var 2)) (g_name (own := [5]) 5 g.nd))
    (s_one (s_expr (d_mt g.K mt_Append PySem.F.slot_list_append PySem.F.type_list_append (d_var 2) (a_cons (d_lst false (a_cons (d_tup (a_cons (d_var 3) (a_cons (d_idx g.K (d_var 5) (d_int)) (a_nil)))) (a_cons (d_int) (a_nil)))) (a_nil)))))) (s_one (s_if ((d_andB (d_tcmp (op_Eq g.K g.hu) (d_var 3) (d_str)) (d_andB (d_tcmp (op_Ne g.K g.hu) (d_var 4) (d_lst false (a_nil))) (d_and1 (d_tcmp op_Gt (d_idx g.K (d_var 4) (d_int)) (d_int))))).pt) (s_cons (s_asg (d_mt0 g.K mt_Pop PySem.F.slot_list_pop PySem.F.type_list_pop (d_var 2)) (g_name (own := [5]) 5 g.nd))
    (s_one (s_expr (d_mt g.K mt_Append PySem.F.slot_list_append PySem.F.type_list_append (d_var 2) (a_cons (d_lst false (a_cons (d_tup (a_cons (d_var 3) (a_cons (d_idx g.K (d_var 5) (d_int)) (a_nil)))) (a_cons (d_bin (op_Add g.K false) (d_idx g.K (d_var 5) (d_int)) (d_int)) (a_nil)))) (a_nil)))))) (s_one (s_if ((d_andB (d_tcmp (op_In g.K) (d_var 3) (d_lst false (a_cons (d_str) (a_cons (d_str) (a_nil))))) (d_andB (d_tcmp (op_Eq g.K g.hu) (d_bi (cr_Len g.K) T.b_len rfl (a_cons (d_var 4) (a_nil))) (d_int)) (d_and1 (d_tcmp op_Gt (d_bi (cr_MinL g.K g.calm) T.b_min rfl (a_cons (d_var 4) (a_nil))) (d_int))))).pt) (s_cons (s_par2 5 6 g.calm g.nd (a_cons (d_mt0 g.K mt_Pop PySem.F.slot_list_pop PySem.F.type_list_pop (d_var 2)) (a_cons (d_mt0 g.K mt_Pop PySem.F.slot_list_pop PySem.F.type_list_pop (d_var 2)) (a_nil))))
    (s_one (s_expr (d_mt g.K mt_Append PySem.F.slot_list_append PySem.F.type_list_append (d_var 2) (a_cons (d_lst false (a_cons (d_tup (a_cons (d_var 3) (a_cons (d_idx g.K (d_var 5) (d_int)) (a_cons (d_idx g.K (d_var 6) (d_int)) (a_nil))))) (a_cons (d_bin (op_Add g.K false) (d_int) (d_bi (cr_MaxL g.K g.calm) T.b_max rfl (a_cons (d_var 4) (a_nil)))) (a_nil)))) (a_nil)))))) (s_one (s_ret (d_lst false (a_nil)))))))))))
    (s_one (s_if (d_tcmp op_Gt (d_idx g.K (d_idx g.K (d_var 2) (d_un un_Neg (d_int))) (d_int)) (d_int)) (s_one (s_ret (d_lst false (a_nil)))) (s_nil))))))
    (s_one (s_ret (d_ife ((d_andB (d_tcmp (op_Eq g.K g.hu) (d_bi (cr_Len g.K) T.b_len rfl (a_cons (d_var 2) (a_nil))) (d_int)) (d_and1 (d_tcmp op_Gt (d_idx g.K (d_idx g.K (d_var 2) (d_int)) (d_int)) (d_int)))).pt) (d_lst false (a_cons (d_idx g.K (d_idx g.K (d_var 2) (d_int)) (d_int)) (a_nil))) (d_lst false (a_nil))))))
/-! ### InvalidText -/
theorem sc_err_InvalidText : FnScope ["self", "given"] ["self", "given"] (defScope (cb 6 0)) := ⟨rfl, rfl, rfl, by decide +kernel, rfl, by decide +kernel, by decide +kernel⟩
theorem er_InvalidText {K : PySem.W.Frag} {w : World} {mg : Str → Option Value} {base : Heap} (T : Txt K w mg) : ErG (cfg K) prog w mg base "InvalidText" 7 "given" := by
  obtain ⟨fd, F⟩ := T.f_err_InvalidText
  exact ⟨⟨_, _, fd, T.e_InvalidText, T.g_InvalidText, T.ei_InvalidText, T.et_InvalidText, F.binds (ps := ["self", "given"]) (fun _ _ _ _ _ _ ua hl => match ua, hl with | [_, _], _ => rfl), err_fn F sc_err_InvalidText rfl rfl rfl rfl (by decide) (by decide) (by decide) T.e_InvalidText T.en_InvalidText T.gp_InvalidText⟩, rfl, T.ex_InvalidText, T.en_InvalidText⟩
/-! ### read_from, by itself -/
def N_read_from : List Str := ["form", "words", "at", "most", "word", "parts", "behind", "_", "found", "part"]
def b_read_from (r : FF) : SF :=
 sSeq (sIf (fOrB (fTb (fBin oLt (fV 3) (fC (.int 1)))) (fTb (fBin oGe (fV 2) (fBi oLen (aCons (fV 1) (aNil)))))) (sRet (fC .non)) (sNil))
    (sSeq (sAsg (gN 4) (fBin oIdx (fV 1) (fV 2)))
    (sSeq (sIf (fTb (fBin (oInW 93 k_KINDS) (fV 4) (fC (.cls 93)))) (sRet (fIf (fAndB (fTb (fBin oLt (fBin (oAdd false) (fV 2) (fC (.int 1))) (fBi oLen (aCons (fV 1) (aNil))))) (fTb (fCall 2 m_is_column (aCons (fV 0) (aCons (fBin oIdx (fV 1) (fBin (oAdd false) (fV 2) (fC (.int 1)))) (aNil)))))) (fTup (aCons (fTup (aCons (fV 4) (aCons (fBin oIdx (fV 1) (fBin (oAdd false) (fV 2) (fC (.int 1)))) (aNil)))) (aCons (fBin (oAdd false) (fV 2) (fC (.int 2))) (aNil)))) (fC .non))) (sNil))
    (sSeq (sIf (fTb (fBin (oNinW 86 k_PARTS) (fV 4) (fC (.cls 86)))) (sRet (fC .non)) (sNil))
    (sSeq (sPar [5, 6] (aCons (fLst true (aCons (fV 4) (aNil))) (aCons (fBin (oAdd false) (fV 2) (fC (.int 1))) (aNil))))
    (sSeq (sFor (iR1 (fDgW kv_PARTS (fV 4))) (gN 7) (sSeq (sAsg (gN 8) (fCall 4 r (aCons (fV 0) (aCons (fV 1) (aCons (fV 6) (aCons (fBin oSub (fV 3) (fC (.int 1))) (aNil)))))))
    (sSeq (sIf (fTb (fBin oIsN (fV 8) (fC .non))) (sRet (fC .non)) (sNil))
    (sSeq (sAsg (gL (gsC (gN 9) (gsC (gN 6) (gsN))) 2) (fV 8))
    (sExpr (fMt oAppend (fV 5) (aCons (fV 9) (aNil))))))))
    (sRet (fTup (aCons (fBi oTupOf (aCons (fV 5) (aNil))) (aCons (fV 6) (aNil))))))))))
def m_read_from : Nat → FF
  | 0 => mStuck
  | n + 1 => runS 10 (b_read_from (m_read_from n))
theorem sc_read_from : FnScope N_read_from ["form", "words", "at", "most"] (defScope (top 27)) := ⟨rfl, rfl, rfl, by decide +kernel, rfl, by decide +kernel, by decide +kernel⟩
theorem ok_read_from {K : PySem.W.Frag} {w : World} {mg : Str → Option Value} {base : Heap} (T : Txt K w mg) : ∀ n : Nat, FnG (cfg K) prog w mg base "read_from" "read_from" (top 27) (2 + n) ["form", "words", "at", "most"] (m_read_from n)
  | 0 => by
    obtain ⟨fd, F⟩ := T.f_read_from
    exact ⟨_, fd, F, T.g_read_from, F.binds (ps := ["form", "words", "at", "most"]) (fun _ _ _ _ _ _ ua hl => match ua, hl with | [_, _, _, _], _ => rfl), fn_stuck⟩
  | n + 1 => by
    obtain ⟨fd, F⟩ := T.f_read_from
    have c_is_column : FnG (cfg K) prog w mg base "is_column" "is_column" (top 21) 1 ["form", "value"] m_is_column := ok_is_column T
    have c_read_from : FnG (cfg K) prog w mg base "read_from" "read_from" (top 27) (2 + n) ["form", "words", "at", "most"] (m_read_from n) := ok_read_from T n
    refine ⟨⟨_, fd, F, T.g_read_from, F.binds (ps := ["form", "words", "at", "most"]) (fun _ _ _ _ _ _ ua hl => match ua, hl with | [_, _, _, _], _ => rfl), fn_ok (N := N_read_from) (body := (b_read_from (m_read_from n))) F sc_read_from (hg_seal (N := N_read_from) (ps := ["form", "words", "at", "most"]) (body := (b_read_from (m_read_from n)))) fun cdv A outer s H E g => ?_⟩⟩
    exact s_cons (s_if ((d_orB (d_tcmp op_Lt (d_var 3) (d_int)) (d_or1 (d_tcmp op_Ge (d_var 2) (d_bi (cr_Len g.K) T.b_len rfl (a_cons (d_var 1) (a_nil)))))).pt) (s_one (s_ret (d_non))) (s_nil))
      (s_cons (s_asg (d_idx g.K (d_var 1) (d_var 2)) (g_name (own := [4]) 4 g.nd))
      (s_cons (s_if (d_tcmp (op_InW g.K T.v_KINDS) (d_var 4) (d_cls T.g_KINDS)) (s_one (s_ret (d_ife ((d_andB (d_tcmp op_Lt (d_bin (op_Add g.K false) (d_var 2) (d_int)) (d_bi (cr_Len g.K) T.b_len rfl (a_cons (d_var 1) (a_nil)))) (d_and1 (d_tv (d_call g c_is_column (lv (by decide)) (a_cons (d_var 0) (a_cons (d_idx g.K (d_var 1) (d_bin (op_Add g.K false) (d_var 2) (d_int))) (a_nil))))))).pt) (d_tup (a_cons (d_tup (a_cons (d_var 4) (a_cons (d_idx g.K (d_var 1) (d_bin (op_Add g.K false) (d_var 2) (d_int))) (a_nil)))) (a_cons (d_bin (op_Add g.K false) (d_var 2) (d_int)) (a_nil)))) (d_non)))) (s_nil))
      (s_cons (s_if (d_tcmp (op_NinW g.K T.v_PARTS) (d_var 4) (d_cls T.g_PARTS)) (s_one (s_ret (d_non))) (s_nil))
      (s_cons (s_par2 5 6 g.calm g.nd (a_cons (d_lst true (a_cons (d_var 4) (a_nil))) (a_cons (d_bin (op_Add g.K false) (d_var 2) (d_int)) (a_nil))))
      (s_cons (s_for g.po g.calm (i_r1 T.b_range (d_dgw g.K T.g_PARTS T.v_PARTS T.vv_PARTS (d_var 4))) (g_name (own := [7]) 7 g.nd) (s_cons (s_asg (d_call g c_read_from (Nat.le_refl _) (a_cons (d_var 0) (a_cons (d_var 1) (a_cons (d_var 6) (a_cons (d_bin op_Sub (d_var 3) (d_int)) (a_nil)))))) (g_name (own := [8]) 8 g.nd))
      (s_cons (s_if (d_tcmp op_IsN (d_var 8) (d_non)) (s_one (s_ret (d_non))) (s_nil))
      (s_cons (s_asg (d_var 8) (g_seq g.K g.calm (gs_cons (g_name (own := [9, 6]) 9 g.nd) (gs_cons (g_name (own := [9, 6]) 6 g.nd) (gs_nil)))))
      (s_one (s_expr (d_mt g.K mt_Append PySem.F.slot_list_append PySem.F.type_list_append (d_var 5) (a_cons (d_var 9) (a_nil)))))))))
      (s_one (s_ret (d_tup (a_cons (d_bty (cr_Tup g.K) T.b_tuple rfl (a_cons (d_var 5) (a_nil))) (a_cons (d_var 6) (a_nil)))))))))))
/-! ### read_formula -/
def N_read_formula : List Str := ["form", "text", "words", "found"]
def b_read_formula : SF :=
 sSeq (sIf (fNotB (fTb (fBi (oIsi isT) (aCons (fV 1) (aCons (fC (.ty "str")) (aNil)))))) (sRaise 7 (fV 1)) (sNil))
    (sSeq (sAsg (gN 2) (fSt (oSplit false) (fV 1) (aCons (fC (.str " ")) (aNil))))
    (sSeq (sAsg (gN 3) (fCall 4 (m_read_from 8) (aCons (fV 0) (aCons (fV 2) (aCons (fC (.int 0)) (aCons (fC (.int 6)) (aNil)))))))
    (sSeq (sIf (fOrB (fTb (fBin oIsN (fV 3) (fC .non))) (fTb (fBin oNe (fBin oIdx (fV 3) (fC (.int 1))) (fBi oLen (aCons (fV 2) (aNil)))))) (sRaise 7 (fV 1)) (sNil))
    (sRet (fBin oIdx (fV 3) (fC (.int 0)))))))
def m_read_formula : FF := runB 4 b_read_formula
theorem sc_read_formula : FnScope N_read_formula ["form", "text"] (defScope (top 30)) := ⟨rfl, rfl, rfl, by decide +kernel, rfl, by decide +kernel, by decide +kernel⟩
theorem ok_read_formula {K : PySem.W.Frag} {w : World} {mg : Str → Option Value} {base : Heap} (T : Txt K w mg) : FnG (cfg K) prog w mg base "read_formula" "read_formula" (top 30) 11 ["form", "text"] m_read_formula := by
  obtain ⟨fd, F⟩ := T.f_read_formula
  have c_err_InvalidText : ErG (cfg K) prog w mg base "InvalidText" 7 "given" := er_InvalidText T
  have c_read_from : FnG (cfg K) prog w mg base "read_from" "read_from" (top 27) 10 ["form", "words", "at", "most"] (m_read_from 8) := ok_read_from T 8
  refine ⟨⟨_, fd, F, T.g_read_formula, F.binds (ps := ["form", "text"]) (fun _ _ _ _ _ _ ua hl => match ua, hl with | [_, _], _ => rfl), fn_ok (N := N_read_formula) (body := b_read_formula) F sc_read_formula (hg_run (N := N_read_formula) (ps := ["form", "text"]) (body := b_read_formula)) fun cdv A outer s H E g => ?_⟩⟩
  exact s_cons (s_if (d_notB (d_tv (d_bi (cr_Isi g.K T.isi) T.b_isinstance rfl (a_cons (d_var 1) (a_cons (d_ty (x := "str") T.b_str rfl) (a_nil)))))) (s_one (s_raise g c_err_InvalidText (by decide) (d_var 1))) (s_nil))
    (s_cons (s_asg (d_st (mt_Split false) PySem.F.slot_str_split PySem.F.type_str_split (d_var 1) (a_cons (d_str) (a_nil))) (g_name (own := [2]) 2 g.nd))
    (s_cons (s_asg (d_call g c_read_from (by decide) (a_cons (d_var 0) (a_cons (d_var 2) (a_cons (d_int) (a_cons (d_gint T.v_DEEPEST.choose_spec) (a_nil)))))) (g_name (own := [3]) 3 g.nd))
    (s_cons (s_if ((d_orB (d_tcmp op_IsN (d_var 3) (d_non)) (d_or1 (d_tcmp (op_Ne g.K g.hu) (d_idx g.K (d_var 3) (d_int)) (d_bi (cr_Len g.K) T.b_len rfl (a_cons (d_var 2) (a_nil)))))).pt) (s_one (s_raise g c_err_InvalidText (by decide) (d_var 1))) (s_nil))
    (s_one (s_ret (d_idx g.K (d_var 3) (d_int)))))))
/-! ### _law_told -/
def N__law_told : List Str := ["form", "text", "turn", "e"]
def b__law_told : SF :=
 sTry (sRet (fLst false (aCons (fC (.str "told")) (aCons (fIf (fTb (fBin oEq (fV 2) (fC (.int 0)))) (fCall 2 m_read_formula (aCons (fV 0) (aCons (fV 1) (aNil)))) (fCallK 0 2 [1, 0] 2 m_read_formula aNil (aCons (fV 1) (aCons (fV 0) (aNil))))) (aNil))))) (⟨[7], [1, 2, 6], hRet (hLst false (hCons (hC (.str "text")) (hCons (hAt xaT "given") (hCons (hIsi isE (.c 0)) (hNil)))))⟩ :: [])
def m__law_told : FF := runB 4 b__law_told
theorem sc__law_told : FnScope N__law_told ["form", "text", "turn"] (defScope (top 46)) := ⟨rfl, rfl, rfl, by decide +kernel, rfl, by decide +kernel, by decide +kernel⟩
theorem ok__law_told {K : PySem.W.Frag} {w : World} {mg : Str → Option Value} {base : Heap} (T : Txt K w mg) : FnG (cfg K) prog w mg base "_law_told" "_law_told" (top 46) 12 ["form", "text", "turn"] m__law_told := by
  obtain ⟨fd, F⟩ := T.f__law_told
  have c_read_formula : FnG (cfg K) prog w mg base "read_formula" "read_formula" (top 30) 11 ["form", "text"] m_read_formula := ok_read_formula T
  refine ⟨⟨_, fd, F, T.g__law_told, F.binds (ps := ["form", "text", "turn"]) (fun _ _ _ _ _ _ ua hl => match ua, hl with | [_, _, _], _ => rfl), fn_ok (N := N__law_told) (body := b__law_told) F sc__law_told (hg_run (N := N__law_told) (ps := ["form", "text", "turn"]) (body := b__law_told)) fun cdv A outer s H E g => ?_⟩⟩
  exact s_one (s_try g (fun W1 pn1 xe1 gt => s_one (s_ret (d_lst false (a_cons (d_str) (a_cons (d_ife (d_tcmp (op_Eq gt.K gt.hu) (d_var 2) (d_int)) (d_call gt c_read_formula (by decide) (a_cons (d_var 0) (a_cons (d_var 1) (a_nil)))) (d_callKO (ks := ["text", "form"]) gt c_read_formula (by decide) [1, 0] (fun _ _ _ _ _ _ ua wa h1 h2 => match ua, h1, wa, h2 with | [], _, [_, _], _ => rfl) (k_cons (d_var 1) (k_cons (d_var 0) (k_nil))))) (a_nil)))))) (.named 3 ⟨rfl, by decide, .inl T.g_InvalidText⟩ (exm_of T.exm rfl) (exm_of T.exm rfl) rfl rfl (fun a1 oe1 cl1 dd1 pn1 hz1 hf1 => h_ret (h_lst false (hs_cons (h_str) (hs_cons (h_at g.K T.xat_given hz1 hf1 rfl (.inl rfl)) (hs_cons (h_isi g.K T.ise T.b_isinstance rfl T.g_EarlierError hz1 hf1 rfl (.inl rfl)) (hs_nil)))))) (.nil)))
/-! ### _law_read_right -/
def N__law_read_right : List Str := ["form", "columns", "text", "turn", "due", "k", "told"]
def b__law_read_right : SF :=
 sSeq (sAsg (gN 4) (fCall 2 m__law_read (aCons (fV 1) (aCons (fV 2) (aNil)))))
    (sSeq (sFor (iR1 (fC (.int 2))) (gN 5) (sSeq (sAsg (gN 6) (fCall 3 m__law_told (aCons (fV 0) (aCons (fV 2) (aCons (fBin oMod (fBi oInt (aCons (fBin (oAdd false) (fV 3) (fV 5)) (aNil))) (fC (.int 2))) (aNil))))))
    (sSeq (sIf (fAndB (fTb (fBin oNe (fV 4) (fLst false (aNil)))) (fTb (fBin oNe (fBi oRepr (aCons (fV 6) (aNil))) (fBi oRepr (aCons (fLst false (aCons (fC (.str "told")) (aCons (fBin oIdx (fV 4) (fC (.int 0))) (aNil)))) (aNil)))))) (sRet (fC (.bl false))) (sNil))
    (sIf (fAndB (fTb (fBin oEq (fV 4) (fLst false (aNil)))) (fOrB (fTb (fBin oNe (fBin oIdx (fV 6) (fC (.int 0))) (fC (.str "text")))) (fOrB (fNotB (fTru (fBin oIdx (fV 6) (fC (.int 2))))) (fOrB (fNotB (fTb (fBi (oIsi isT) (aCons (fBin oIdx (fV 6) (fC (.int 1))) (aCons (fC (.ty "str")) (aNil)))))) (fTb (fBin oNe (fBin oIdx (fV 6) (fC (.int 1))) (fV 2))))))) (sRet (fC (.bl false))) (sNil)))))
    (sRet (fC (.bl true))))
def m__law_read_right : FF := runB 7 b__law_read_right
theorem sc__law_read_right : FnScope N__law_read_right ["form", "columns", "text", "turn"] (defScope (top 47)) := ⟨rfl, rfl, rfl, by decide +kernel, rfl, by decide +kernel, by decide +kernel⟩
theorem ok__law_read_right {K : PySem.W.Frag} {w : World} {mg : Str → Option Value} {base : Heap} (T : Txt K w mg) : FnG (cfg K) prog w mg base "_law_read_right" "_law_read_right" (top 47) 13 ["form", "columns", "text", "turn"] m__law_read_right := by
  obtain ⟨fd, F⟩ := T.f__law_read_right
  have c__law_read : FnG (cfg K) prog w mg base "_law_read" "_law_read" (top 43) 2 ["columns", "text"] m__law_read := ok__law_read T
  have c__law_told : FnG (cfg K) prog w mg base "_law_told" "_law_told" (top 46) 12 ["form", "text", "turn"] m__law_told := ok__law_told T
  refine ⟨⟨_, fd, F, T.g__law_read_right, F.binds (ps := ["form", "columns", "text", "turn"]) (fun _ _ _ _ _ _ ua hl => match ua, hl with | [_, _, _, _], _ => rfl), fn_ok (N := N__law_read_right) (body := b__law_read_right) F sc__law_read_right (hg_run (N := N__law_read_right) (ps := ["form", "columns", "text", "turn"]) (body := b__law_read_right)) fun cdv A outer s H E g => ?_⟩⟩
  exact s_cons (s_asg (d_call g c__law_read (by decide) (a_cons (d_var 1) (a_cons (d_var 2) (a_nil)))) (g_name (own := [4]) 4 g.nd))
    (s_cons (s_for g.po g.calm (i_r1 T.b_range (d_int)) (g_name (own := [5]) 5 g.nd) (s_cons (s_asg (d_call g c__law_told (by decide) (a_cons (d_var 0) (a_cons (d_var 2) (a_cons (d_bin op_Mod' (d_bty cr_Int T.b_int rfl (a_cons (d_bin (op_Add g.K false) (d_var 3) (d_var 5)) (a_nil))) (d_int)) (a_nil))))) (g_name (own := [6]) 6 g.nd))
    (s_cons (s_if ((d_andB (d_tcmp (op_Ne g.K g.hu) (d_var 4) (d_lst false (a_nil))) (d_and1 (d_tcmp (op_Ne g.K g.hu) (d_bi (cr_Repr g.K g.gd g.hu) T.b_repr rfl (a_cons (d_var 6) (a_nil))) (d_bi (cr_Repr g.K g.gd g.hu) T.b_repr rfl (a_cons (d_lst false (a_cons (d_str) (a_cons (d_idx g.K (d_var 4) (d_int)) (a_nil)))) (a_nil)))))).pt) (s_one (s_ret (d_bl))) (s_nil))
    (s_one (s_if ((d_andB (d_tcmp (op_Eq g.K g.hu) (d_var 4) (d_lst false (a_nil))) (d_and1 ((d_orB (d_tcmp (op_Ne g.K g.hu) (d_idx g.K (d_var 6) (d_int)) (d_str)) (d_orB (d_notB (d_tru g.K (d_idx g.K (d_var 6) (d_int)))) (d_orB (d_notB (d_tv (d_bi (cr_Isi g.K T.isi) T.b_isinstance rfl (a_cons (d_idx g.K (d_var 6) (d_int)) (a_cons (d_ty (x := "str") T.b_str rfl) (a_nil)))))) (d_or1 (d_tcmp (op_Ne g.K g.hu) (d_idx g.K (d_var 6) (d_int)) (d_var 2)))))).pt))).pt) (s_one (s_ret (d_bl))) (s_nil))))))
    (s_one (s_ret (d_bl))))
/-! ### _law_word -/
def N__law_word : List Str := ["box", "columns", "menu", "word", "way"]
def b__law_word : SF :=
 sSeq (sAsg (gN 2) (fBin (oAdd false) (fBin (oAdd false) (fCall0 m__law_kinds) (fLst false (aCons (fC (.str "all")) (aCons (fC (.str "some")) (aCons (fC (.str "not")) (aCons (fC (.str "none")) (aCons (fC (.str "if")) (aCons (fC (.str "")) (aCons (fC (.str "and")) (aNil)))))))))) (fV 1)))
    (sSeq (sAsg (gN 3) (fBin oIdx (fV 2) (fCall 2 m__law_take (aCons (fV 0) (aCons (fBi oLen (aCons (fV 2) (aNil))) (aNil))))))
    (sSeq (sAsg (gN 4) (fCall 2 m__law_take (aCons (fV 0) (aCons (fC (.int 9)) (aNil)))))
    (sRet (fIf (fTb (fBin oEq (fV 4) (fC (.int 7)))) (fBin (oAdd false) (fV 3) (fC (.str "s"))) (fIf (fTb (fBin oEq (fV 4) (fC (.int 8)))) (fSt oUpper (fV 3) aNil) (fV 3))))))
def m__law_word : FF := runB 5 b__law_word
theorem sc__law_word : FnScope N__law_word ["box", "columns"] (defScope (top 44)) := ⟨rfl, rfl, rfl, by decide +kernel, rfl, by decide +kernel, by decide +kernel⟩
theorem ok__law_word {K : PySem.W.Frag} {w : World} {mg : Str → Option Value} {base : Heap} (T : Txt K w mg) : FnG (cfg K) prog w mg base "_law_word" "_law_word" (top 44) 2 ["box", "columns"] m__law_word := by
  obtain ⟨fd, F⟩ := T.f__law_word
  have c__law_kinds : FnG (cfg K) prog w mg base "_law_kinds" "_law_kinds" (top 38) 1 [] m__law_kinds := ok__law_kinds T
  have c__law_take : FnG (cfg K) prog w mg base "_law_take" "_law_take" (top 34) 1 ["box", "many"] m__law_take := ok__law_take T
  refine ⟨⟨_, fd, F, T.g__law_word, F.binds (ps := ["box", "columns"]) (fun _ _ _ _ _ _ ua hl => match ua, hl with | [_, _], _ => rfl), fn_ok (N := N__law_word) (body := b__law_word) F sc__law_word (hg_run (N := N__law_word) (ps := ["box", "columns"]) (body := b__law_word)) fun cdv A outer s H E g => ?_⟩⟩
  exact s_cons (s_asg (d_bin (op_Add g.K false) (d_bin (op_Add g.K false) (d_call0 g c__law_kinds (by decide)) (d_lst false (a_cons (d_str) (a_cons (d_str) (a_cons (d_str) (a_cons (d_str) (a_cons (d_str) (a_cons (d_str) (a_cons (d_str) (a_nil)))))))))) (d_var 1)) (g_name (own := [2]) 2 g.nd))
    (s_cons (s_asg (d_idx g.K (d_var 2) (d_call g c__law_take (by decide) (a_cons (d_var 0) (a_cons (d_bi (cr_Len g.K) T.b_len rfl (a_cons (d_var 2) (a_nil))) (a_nil))))) (g_name (own := [3]) 3 g.nd))
    (s_cons (s_asg (d_call g c__law_take (by decide) (a_cons (d_var 0) (a_cons (d_int) (a_nil)))) (g_name (own := [4]) 4 g.nd))
    (s_one (s_ret (d_ife (d_tcmp (op_Eq g.K g.hu) (d_var 4) (d_int)) (d_bin (op_Add g.K false) (d_var 3) (d_str)) (d_ife (d_tcmp (op_Eq g.K g.hu) (d_var 4) (d_int)) (d_st0 mt_Upper PySem.F.slot_str_upper PySem.F.type_str_upper (d_var 3)) (d_var 3)))))))
/-! ### _law_spoilt -/
def N__law_spoilt : List Str := ["box", "columns", "formula", "words", "way", "place", "other", "text"]
def b__law_spoilt : SF :=
 sSeq (sPar [3, 4] (aCons (fCall 1 (m__law_words 8) (aCons (fV 2) (aNil))) (aCons (fCall 2 m__law_take (aCons (fV 0) (aCons (fC (.int 14)) (aNil)))) (aNil))))
    (sSeq (sPar [5, 6] (aCons (fCall 2 m__law_take (aCons (fV 0) (aCons (fBi oLen (aCons (fV 3) (aNil))) (aNil)))) (aCons (fCall 2 m__law_take (aCons (fV 0) (aCons (fBi oLen (aCons (fV 3) (aNil))) (aNil)))) (aNil))))
    (sSeq (sIf (fTb (fBin oEq (fV 4) (fC (.int 0)))) (sExpr (fMt oPopAt (fV 3) (aCons (fV 5) (aNil)))) (sNil))
    (sSeq (sIf (fTb (fBin oEq (fV 4) (fC (.int 1)))) (sExpr (fMt oInsert (fV 3) (aCons (fV 5) (aCons (fBin oIdx (fV 3) (fV 5)) (aNil))))) (sNil))
    (sSeq (sIf (fTb (fBin oEq (fV 4) (fC (.int 2)))) (sSet2 (aCons (fBin oIdx (fV 3) (fV 6)) (aCons (fBin oIdx (fV 3) (fV 5)) (aNil))) (fV 3) (fV 5) (fV 3) (fV 6)) (sNil))
    (sSeq (sIf (fOrB (fTb (fBin oEq (fV 4) (fC (.int 3)))) (fTb (fBin oEq (fV 4) (fC (.int 4))))) (sSet (fV 3) (fV 5) (fCall 2 m__law_word (aCons (fV 0) (aCons (fV 1) (aNil))))) (sNil))
    (sSeq (sIf (fTb (fBin oEq (fV 4) (fC (.int 5)))) (sExpr (fMt oInsert (fV 3) (aCons (fV 5) (aCons (fCall 2 m__law_word (aCons (fV 0) (aCons (fV 1) (aNil)))) (aNil))))) (sNil))
    (sSeq (sIf (fTb (fBin oEq (fV 4) (fC (.int 6)))) (sAsg (gN 3) (fBin (oAdd true) (fV 3) (fV 3))) (sNil))
    (sSeq (sIf (fTb (fBin oEq (fV 4) (fC (.int 7)))) (sExpr (fMt oInsert (fV 3) (aCons (fCall 2 m__law_take (aCons (fV 0) (aCons (fBin (oAdd false) (fBi oLen (aCons (fV 3) (aNil))) (fC (.int 1))) (aNil)))) (aCons (fC (.str "")) (aNil))))) (sNil))
    (sSeq (sAsg (gN 7) (fM1S oJoin (fC (.str " ")) (fV 3)))
    (sSeq (sIf (fTb (fBin oEq (fV 4) (fC (.int 8)))) (sRet (fBin oIdx (fLst false (aCons (fBin (oAdd false) (fV 7) (fC (.str "\n"))) (aCons (fBin (oAdd false) (fC (.str "\n")) (fV 7)) (aCons (fRepN " " "\n" 1 (fV 7)) (aCons (fBin (oAdd false) (fV 7) (fC (.str " "))) (aCons (fBin (oAdd false) (fC (.str " ")) (fV 7)) (aNil))))))) (fCall 2 m__law_take (aCons (fV 0) (aCons (fC (.int 5)) (aNil)))))) (sNil))
    (sSeq (sIf (fTb (fBin oEq (fV 4) (fC (.int 9)))) (sRet (fBin oIdx (fLst false (aCons (fC (.str "")) (aCons (fC (.str " ")) (aCons (fRep " " "" (fV 7)) (aCons (fRep " " ", " (fV 7)) (aCons (fBin (oAdd false) (fBin (oAdd false) (fC (.str "(")) (fV 7)) (fC (.str ")"))) (aCons (fRepN " " "  " 1 (fV 7)) (aNil)))))))) (fCall 2 m__law_take (aCons (fV 0) (aCons (fC (.int 6)) (aNil)))))) (sNil))
    (sSeq (sIf (fTb (fBin oGt (fV 4) (fC (.int 9)))) (sRet (fBin (oAdd false) (fBin oMulS (fC (.str "not ")) (fBin oIdx (fLst false (aCons (fC (.int 1)) (aCons (fC (.int 2)) (aCons (fC (.int 3)) (aCons (fBin oIdx (fLst false (aCons (fC (.int 40)) (aCons (fC (.int 700)) (aCons (fC (.int 9000)) (aNil))))) (fCall 2 m__law_take (aCons (fV 0) (aCons (fC (.int 3)) (aNil))))) (aNil)))))) (fBin oSub (fV 4) (fC (.int 10))))) (fV 7))) (sNil))
    (sRet (fV 7))))))))))))))
def m__law_spoilt : FF := runS 8 b__law_spoilt
theorem sc__law_spoilt : FnScope N__law_spoilt ["box", "columns", "formula"] (defScope (top 45)) := ⟨rfl, rfl, rfl, by decide +kernel, rfl, by decide +kernel, by decide +kernel⟩
theorem ok__law_spoilt {K : PySem.W.Frag} {w : World} {mg : Str → Option Value} {base : Heap} (T : Txt K w mg) : FnG (cfg K) prog w mg base "_law_spoilt" "_law_spoilt" (top 45) 10 ["box", "columns", "formula"] m__law_spoilt := by
  obtain ⟨fd, F⟩ := T.f__law_spoilt
  have c__law_take : FnG (cfg K) prog w mg base "_law_take" "_law_take" (top 34) 1 ["box", "many"] m__law_take := ok__law_take T
  have c__law_words : FnG (cfg K) prog w mg base "_law_words" "_law_words" (top 42) 9 ["formula"] (m__law_words 8) := ok__law_words T 8
  have c__law_word : FnG (cfg K) prog w mg base "_law_word" "_law_word" (top 44) 2 ["box", "columns"] m__law_word := ok__law_word T
  refine ⟨⟨_, fd, F, T.g__law_spoilt, F.binds (ps := ["box", "columns", "formula"]) (fun _ _ _ _ _ _ ua hl => match ua, hl with | [_, _, _], _ => rfl), fn_ok (N := N__law_spoilt) (body := b__law_spoilt) F sc__law_spoilt (hg_seal (N := N__law_spoilt) (ps := ["box", "columns", "formula"]) (body := b__law_spoilt)) fun cdv A outer s H E g => ?_⟩⟩
  exact s_cons (s_par2 3 4 g.calm g.nd (a_cons (d_call g c__law_words (by decide) (a_cons (d_var 2) (a_nil))) (a_cons (d_call g c__law_take (by decide) (a_cons (d_var 0) (a_cons (d_int) (a_nil)))) (a_nil))))
    (s_cons (s_par2 5 6 g.calm g.nd (a_cons (d_call g c__law_take (by decide) (a_cons (d_var 0) (a_cons (d_bi (cr_Len g.K) T.b_len rfl (a_cons (d_var 3) (a_nil))) (a_nil)))) (a_cons (d_call g c__law_take (by decide) (a_cons (d_var 0) (a_cons (d_bi (cr_Len g.K) T.b_len rfl (a_cons (d_var 3) (a_nil))) (a_nil)))) (a_nil))))
    (s_cons (s_if (d_tcmp (op_Eq g.K g.hu) (d_var 4) (d_int)) (s_one (s_expr (d_mt g.K mt_PopAt PySem.F.slot_list_pop PySem.F.type_list_pop (d_var 3) (a_cons (d_var 5) (a_nil))))) (s_nil))
    (s_cons (s_if (d_tcmp (op_Eq g.K g.hu) (d_var 4) (d_int)) (s_one (s_expr (d_mt g.K mt_Insert PySem.F.slot_list_insert PySem.F.type_list_insert (d_var 3) (a_cons (d_var 5) (a_cons (d_idx g.K (d_var 3) (d_var 5)) (a_nil)))))) (s_nil))
    (s_cons (s_if (d_tcmp (op_Eq g.K g.hu) (d_var 4) (d_int)) (s_one (s_set2 g.K g.calm (a_cons (d_idx g.K (d_var 3) (d_var 6)) (a_cons (d_idx g.K (d_var 3) (d_var 5)) (a_nil))) (d_var 3) (d_var 5) (d_var 3) (d_var 6))) (s_nil))
    (s_cons (s_if ((d_orB (d_tcmp (op_Eq g.K g.hu) (d_var 4) (d_int)) (d_or1 (d_tcmp (op_Eq g.K g.hu) (d_var 4) (d_int)))).pt) (s_one (s_set (d_call g c__law_word (by decide) (a_cons (d_var 0) (a_cons (d_var 1) (a_nil)))) (d_var 3) (d_var 5))) (s_nil))
    (s_cons (s_if (d_tcmp (op_Eq g.K g.hu) (d_var 4) (d_int)) (s_one (s_expr (d_mt g.K mt_Insert PySem.F.slot_list_insert PySem.F.type_list_insert (d_var 3) (a_cons (d_var 5) (a_cons (d_call g c__law_word (by decide) (a_cons (d_var 0) (a_cons (d_var 1) (a_nil)))) (a_nil)))))) (s_nil))
    (s_cons (s_if (d_tcmp (op_Eq g.K g.hu) (d_var 4) (d_int)) (s_one (s_asg (d_bin (op_Add g.K true) (d_var 3) (d_var 3)) (g_name (own := [3]) 3 g.nd))) (s_nil))
    (s_cons (s_if (d_tcmp (op_Eq g.K g.hu) (d_var 4) (d_int)) (s_one (s_expr (d_mt g.K mt_Insert PySem.F.slot_list_insert PySem.F.type_list_insert (d_var 3) (a_cons (d_call g c__law_take (by decide) (a_cons (d_var 0) (a_cons (d_bin (op_Add g.K false) (d_bi (cr_Len g.K) T.b_len rfl (a_cons (d_var 3) (a_nil))) (d_int)) (a_nil)))) (a_cons (d_str) (a_nil)))))) (s_nil))
    (s_cons (s_asg (d_join g.K (d_str) (d_var 3)) (g_name (own := [7]) 7 g.nd))
    (s_cons (s_if (d_tcmp (op_Eq g.K g.hu) (d_var 4) (d_int)) (s_one (s_ret (d_idx g.K (d_lst false (a_consT (tk_add (op_Add g.K false) (d_var 7)) (at_cons (det_of (d_bin (op_Add g.K false) (d_str) (d_var 7))) (at_cons (t_repN (d_var 7)) (at_cons (det_of (d_bin (op_Add g.K false) (d_var 7) (d_str))) (at_cons (det_of (d_bin (op_Add g.K false) (d_str) (d_var 7))) ((dat_of a_nil)))))))) (d_call g c__law_take (by decide) (a_cons (d_var 0) (a_cons (d_int) (a_nil))))))) (s_nil))
    (s_cons (s_if (d_tcmp (op_Eq g.K g.hu) (d_var 4) (d_int)) (s_one (s_ret (d_idx g.K (d_lst false (a_consT (tk_str) (at_cons (det_of (d_str)) (at_cons (t_rep (d_var 7)) (at_cons (t_rep (d_var 7)) (at_cons (det_of (d_bin (op_Add g.K false) (d_bin (op_Add g.K false) (d_str) (d_var 7)) (d_str))) (at_cons (t_repN (d_var 7)) ((dat_of a_nil))))))))) (d_call g c__law_take (by decide) (a_cons (d_var 0) (a_cons (d_int) (a_nil))))))) (s_nil))
    (s_cons (s_if (d_tcmp op_Gt (d_var 4) (d_int)) (s_one (s_ret (d_bin (op_Add g.K false) (d_bin op_MulS (d_str) (d_idx g.K (d_lst false (a_cons (d_int) (a_cons (d_int) (a_cons (d_int) (a_cons (d_idx g.K (d_lst false (a_cons (d_int) (a_cons (d_int) (a_cons (d_int) (a_nil))))) (d_call g c__law_take (by decide) (a_cons (d_var 0) (a_cons (d_int) (a_nil))))) (a_nil)))))) (d_bin op_Sub (d_var 4) (d_int)))) (d_var 7)))) (s_nil))
    (s_one (s_ret (d_var 7)))))))))))))))
/-! ### _law_no_text_right -/
def N__law_no_text_right : List Str := ["form", "formula", "way", "turn", "value", "told"]
def b__law_no_text_right : SF :=
 sSeq (sAsg (gN 4) (fBin oIdx (fLst false (aCons (fC .non) (aCons (fC (.bl true)) (aCons (fC (.int 7)) (aCons (fCall 1 (m__law_words 8) (aCons (fV 1) (aNil))) (aCons (fV 1) (aCons (fTup (aNil)) (aCons (fDict false (pCons (fC (.str "less")) (fC (.str "a")) (pNil))) (aCons (fLst true (aCons (fM1S oJoin (fC (.str " ")) (fCall 1 (m__law_words 8) (aCons (fV 1) (aNil)))) (aNil))) (aCons (fV 0) (aNil))))))))))) (fV 2)))
    (sSeq (sAsg (gN 5) (fCall 3 m__law_told (aCons (fV 0) (aCons (fV 4) (aCons (fV 3) (aNil))))))
    (sSeq (sIf (fTb (fBin oNe (fBin oIdx (fV 5) (fC (.int 0))) (fC (.str "text")))) (sRet (fC (.bl false))) (sNil))
    (sSeq (sIf (fTb (fBi (oIsi isT) (aCons (fV 4) (aCons (fC (.cls 61)) (aNil))))) (sRet (fAnd (fBi (oIsi isT) (aCons (fBin oIdx (fV 5) (fC (.int 1))) (aCons (fC (.cls 61)) (aNil)))) (fBin oEq (fBi oRepr (aCons (fFld atT "columns" (fBin oIdx (fV 5) (fC (.int 1)))) (aNil))) (fBi oRepr (aCons (fFld atT "columns" (fV 4)) (aNil)))))) (sNil))
    (sSeq (sIf (fTb (fBi (oIsi isT) (aCons (fV 4) (aCons (fC (.ty "list")) (aNil))))) (sExpr (fMt oInsert (fV 4) (aCons (fC (.int 0)) (aCons (fC (.str "grown")) (aNil))))) (sNil))
    (sRet (fBin oEq (fBi oRepr (aCons (fBin oIdx (fV 5) (fC (.int 1))) (aNil))) (fBi oRepr (aCons (fV 4) (aNil)))))))))
def m__law_no_text_right : FF := runS 6 b__law_no_text_right
theorem sc__law_no_text_right : FnScope N__law_no_text_right ["form", "formula", "way", "turn"] (defScope (top 48)) := ⟨rfl, rfl, rfl, by decide +kernel, rfl, by decide +kernel, by decide +kernel⟩
theorem ok__law_no_text_right {K : PySem.W.Frag} {w : World} {mg : Str → Option Value} {base : Heap} (T : Txt K w mg) : FnG (cfg K) prog w mg base "_law_no_text_right" "_law_no_text_right" (top 48) 13 ["form", "formula", "way", "turn"] m__law_no_text_right := by
  obtain ⟨fd, F⟩ := T.f__law_no_text_right
  have c__law_words : FnG (cfg K) prog w mg base "_law_words" "_law_words" (top 42) 9 ["formula"] (m__law_words 8) := ok__law_words T 8
  have c__law_told : FnG (cfg K) prog w mg base "_law_told" "_law_told" (top 46) 12 ["form", "text", "turn"] m__law_told := ok__law_told T
  refine ⟨⟨_, fd, F, T.g__law_no_text_right, F.binds (ps := ["form", "formula", "way", "turn"]) (fun _ _ _ _ _ _ ua hl => match ua, hl with | [_, _, _, _], _ => rfl), fn_ok (N := N__law_no_text_right) (body := b__law_no_text_right) F sc__law_no_text_right (hg_seal (N := N__law_no_text_right) (ps := ["form", "formula", "way", "turn"]) (body := b__law_no_text_right)) fun cdv A outer s H E g => ?_⟩⟩
  exact s_cons (s_asg (d_idx g.K (d_lst false (a_cons (d_non) (a_cons (d_bl) (a_cons (d_int) (a_cons (d_call g c__law_words (by decide) (a_cons (d_var 1) (a_nil))) (a_cons (d_var 1) (a_cons (d_tup (a_nil)) (a_cons (d_dict false (pd_cons (d_str) (d_str) (pd_nil))) (a_cons (d_lst true (a_cons (d_join g.K (d_str) (d_call g c__law_words (by decide) (a_cons (d_var 1) (a_nil)))) (a_nil))) (a_cons (d_var 0) (a_nil))))))))))) (d_var 2)) (g_name (own := [4]) 4 g.nd))
    (s_cons (s_asg (d_call g c__law_told (by decide) (a_cons (d_var 0) (a_cons (d_var 4) (a_cons (d_var 3) (a_nil))))) (g_name (own := [5]) 5 g.nd))
    (s_cons (s_if (d_tcmp (op_Ne g.K g.hu) (d_idx g.K (d_var 5) (d_int)) (d_str)) (s_one (s_ret (d_bl))) (s_nil))
    (s_cons (s_if (d_tv (d_bi (cr_Isi g.K T.isi) T.b_isinstance rfl (a_cons (d_var 4) (a_cons (d_cls T.g_Form) (a_nil))))) (s_one (s_ret (d_and (d_bi (cr_Isi g.K T.isi) T.b_isinstance rfl (a_cons (d_idx g.K (d_var 5) (d_int)) (a_cons (d_cls T.g_Form) (a_nil)))) (d_one (d_cmp (op_Eq g.K g.hu) (d_bi (cr_Repr g.K g.gd g.hu) T.b_repr rfl (a_cons (d_fld g.K T.atr (d_idx g.K (d_var 5) (d_int))) (a_nil))) (d_bi (cr_Repr g.K g.gd g.hu) T.b_repr rfl (a_cons (d_fld g.K T.atr (d_var 4)) (a_nil)))))))) (s_nil))
    (s_cons (s_if (d_tv (d_bi (cr_Isi g.K T.isi) T.b_isinstance rfl (a_cons (d_var 4) (a_cons (d_ty (x := "list") T.b_list rfl) (a_nil))))) (s_one (s_expr (d_mt g.K mt_Insert PySem.F.slot_list_insert PySem.F.type_list_insert (d_var 4) (a_cons (d_int) (a_cons (d_str) (a_nil)))))) (s_nil))
    (s_one (s_ret (d_cmp (op_Eq g.K g.hu) (d_bi (cr_Repr g.K g.gd g.hu) T.b_repr rfl (a_cons (d_idx g.K (d_var 5) (d_int)) (a_nil))) (d_bi (cr_Repr g.K g.gd g.hu) T.b_repr rfl (a_cons (d_var 4) (a_nil))))))))))
/-! ### law -/
def N_law : List Str := ["script", "k", "box", "turn", "many", "way", "columns", "other", "form", "lacking", "six", "formulas", "j", "formula", "text", "i", "near"]
def b_law : SF :=
 sSeq (sFor (iR1 (fBi oMax (aCons (fC (.int 2)) (aCons (fBi oMin (aCons (fC (.int 4)) (aCons (fBi oLen (aCons (fV 0) (aNil))) (aNil)))) (aNil))))) (gN 1) (sSeq (sAsg (gN 2) (fCall 1 m__law_box (aCons (fCall 2 m__law_cell (aCons (fV 0) (aCons (fV 1) (aNil)))) (aNil))))
    (sSeq (sPar [3, 4, 5] (aCons (fCall 2 m__law_take (aCons (fV 2) (aCons (fC (.int 2)) (aNil)))) (aCons (fBin (oAdd false) (fC (.int 1)) (fCall 2 m__law_take (aCons (fV 2) (aCons (fC (.int 4)) (aNil))))) (aCons (fCall 2 m__law_take (aCons (fV 2) (aCons (fC (.int 9)) (aNil)))) (aNil)))))
    (sSeq (sAsg (gN 6) (fCall 2 m__law_names (aCons (fV 2) (aCons (fV 4) (aNil)))))
    (sSeq (sAsg (gN 7) (fBin (oAdd false) (fSl false (fV 6) (oSome (fC (.int 1))) (oNo)) (fLst false (aCons (fCall 2 m__law_name (aCons (fV 2) (aCons (fV 6) (aNil)))) (aNil)))))
    (sSeq (sPar [8, 9, 10] (aCons (fMake false 61 2 m_Form___init__ (aCons (fV 6) (aNil))) (aCons (fMake false 61 2 m_Form___init__ (aCons (fV 7) (aNil))) (aCons (fCall 3 m__law_tall (aCons (fV 2) (aCons (fV 6) (aCons (fC (.int 6)) (aNil))))) (aNil)))))
    (sSeq (sAsg (gN 11) (fLst false (aCons (fV 10) (aCons (fCall 3 (m__law_formula 8) (aCons (fV 2) (aCons (fV 6) (aCons (fC (.int 6)) (aNil))))) (aCons (fCall 2 m__law_leaf (aCons (fV 2) (aCons (fV 6) (aNil)))) (aCons (fCall 3 (m__law_formula 8) (aCons (fV 2) (aCons (fV 6) (aCons (fC (.int 3)) (aNil))))) (aCons (fCall 3 m__law_tall (aCons (fV 2) (aCons (fV 6) (aCons (fC (.int 5)) (aNil))))) (aNil))))))))
    (sSeq (sFor (iEn (fV 11)) (gL (gsC (gN 12) (gsC (gN 13) (gsN))) 2) (sSeq (sAsg (gN 14) (fM1S oJoin (fC (.str " ")) (fCall 1 (m__law_words 8) (aCons (fV 13) (aNil)))))
    (sSeq (sIf (fOrB (fNotB (fTb (fCall 3 m__law_text_right (aCons (fV 8) (aCons (fV 13) (aCons (fBin oMod (fBi oInt (aCons (fBin (oAdd false) (fV 3) (fV 12)) (aNil))) (fC (.int 2))) (aNil))))))) (fNotB (fTb (fCall 4 m__law_read_right (aCons (fV 8) (aCons (fV 6) (aCons (fV 14) (aCons (fV 3) (aNil))))))))) (sRet (fC (.bl false))) (sNil))
    (sSeq (sIf (fOrB (fNotB (fTb (fCall 4 m__law_read_right (aCons (fV 9) (aCons (fV 7) (aCons (fV 14) (aCons (fBin oSub (fC (.int 1)) (fV 3)) (aNil)))))))) (fNotB (fTb (fCall 3 m__law_text_right (aCons (fV 8) (aCons (fV 13) (aCons (fBin oMod (fBi oInt (aCons (fBin (oAdd false) (fBin (oAdd false) (fV 3) (fV 12)) (fC (.int 1))) (aNil))) (fC (.int 2))) (aNil)))))))) (sRet (fC (.bl false))) (sNil))
    (sFor (iR1 (fC (.int 3))) (gN 15) (sSeq (sAsg (gN 16) (fCall 3 m__law_spoilt (aCons (fV 2) (aCons (fV 6) (aCons (fV 13) (aNil))))))
    (sIf (fNotB (fTb (fCall 4 m__law_read_right (aCons (fV 8) (aCons (fV 6) (aCons (fV 16) (aCons (fBin oMod (fBi oInt (aCons (fBin (oAdd false) (fV 3) (fV 15)) (aNil))) (fC (.int 2))) (aNil)))))))) (sRet (fC (.bl false))) (sNil))))))))
    (sSeq (sIf (fNotB (fTb (fCall 4 m__law_read_right (aCons (fV 8) (aCons (fV 6) (aCons (fBin (oAdd false) (fC (.str "not ")) (fM1S oJoin (fC (.str " ")) (fCall 1 (m__law_words 8) (aCons (fV 10) (aNil))))) (aCons (fV 3) (aNil)))))))) (sRet (fC (.bl false))) (sNil))
    (sIf (fOrB (fNotB (fTb (fCall 4 m__law_no_text_right (aCons (fV 8) (aCons (fBin oIdx (fV 11) (fC (.int 3))) (aCons (fV 5) (aCons (fV 3) (aNil)))))))) (fNotB (fTb (fCall 4 m__law_read_right (aCons (fV 8) (aCons (fV 6) (aCons (fC (.str "")) (aCons (fV 3) (aNil))))))))) (sRet (fC (.bl false))) (sNil)))))))))))
    (sRet (fC (.bl true)))
def m_law : FF := runS 17 b_law
theorem sc_law : FnScope N_law ["script"] (defScope (top 50)) := ⟨rfl, rfl, rfl, by decide +kernel, rfl, by decide +kernel, by decide +kernel⟩
theorem ok_law {K : PySem.W.Frag} {w : World} {mg : Str → Option Value} {base : Heap} (T : Txt K w mg) : FnG (cfg K) prog w mg base "law" "law" (top 50) 14 ["script"] m_law := by
  obtain ⟨fd, F⟩ := T.f_law
  have c__law_box : FnG (cfg K) prog w mg base "_law_box" "_law_box" (top 33) 1 ["great"] m__law_box := ok__law_box T
  have c__law_cell : FnG (cfg K) prog w mg base "_law_cell" "_law_cell" (top 32) 1 ["script", "k"] m__law_cell := ok__law_cell T
  have c__law_take : FnG (cfg K) prog w mg base "_law_take" "_law_take" (top 34) 1 ["box", "many"] m__law_take := ok__law_take T
  have c__law_names : FnG (cfg K) prog w mg base "_law_names" "_law_names" (top 37) 3 ["box", "many"] m__law_names := ok__law_names T
  have c__law_name : FnG (cfg K) prog w mg base "_law_name" "_law_name" (top 36) 2 ["box", "found"] m__law_name := ok__law_name T
  have c__law_tall : FnG (cfg K) prog w mg base "_law_tall" "_law_tall" (top 41) 12 ["box", "columns", "deep"] m__law_tall := ok__law_tall T
  have c_make_Form : MkG (cfg K) prog w mg base "Form" 61 "Form.__init__" (cb 20 0) 4 ["self", "columns"] m_Form___init__ := ok_Form___init__ T
  have c__law_formula : FnG (cfg K) prog w mg base "_law_formula" "_law_formula" (top 40) 11 ["box", "columns", "deep"] (m__law_formula 8) := ok__law_formula T 8
  have c__law_leaf : FnG (cfg K) prog w mg base "_law_leaf" "_law_leaf" (top 39) 2 ["box", "columns"] m__law_leaf := ok__law_leaf T
  have c__law_words : FnG (cfg K) prog w mg base "_law_words" "_law_words" (top 42) 9 ["formula"] (m__law_words 8) := ok__law_words T 8
  have c__law_text_right : FnG (cfg K) prog w mg base "_law_text_right" "_law_text_right" (top 49) 13 ["form", "formula", "turn"] m__law_text_right := ok__law_text_right T
  have c__law_read_right : FnG (cfg K) prog w mg base "_law_read_right" "_law_read_right" (top 47) 13 ["form", "columns", "text", "turn"] m__law_read_right := ok__law_read_right T
  have c__law_spoilt : FnG (cfg K) prog w mg base "_law_spoilt" "_law_spoilt" (top 45) 10 ["box", "columns", "formula"] m__law_spoilt := ok__law_spoilt T
  have c__law_no_text_right : FnG (cfg K) prog w mg base "_law_no_text_right" "_law_no_text_right" (top 48) 13 ["form", "formula", "way", "turn"] m__law_no_text_right := ok__law_no_text_right T
  refine ⟨⟨_, fd, F, T.g_law, F.binds (ps := ["script"]) (fun _ _ _ _ _ _ ua hl => match ua, hl with | [_], _ => rfl), fn_ok (N := N_law) (body := b_law) F sc_law (hg_seal (N := N_law) (ps := ["script"]) (body := b_law)) fun cdv A outer s H E g => ?_⟩⟩
  exact s_cons (s_for g.po g.calm (i_r1 T.b_range (d_bi (cr_Max g.calm) T.b_max rfl (a_cons (d_int) (a_cons (d_bi (cr_Min g.calm) T.b_min rfl (a_cons (d_int) (a_cons (d_bi (cr_Len g.K) T.b_len rfl (a_cons (d_var 0) (a_nil))) (a_nil)))) (a_nil))))) (g_name (own := [1]) 1 g.nd) (s_cons (s_asg (d_call g c__law_box (by decide) (a_cons (d_call g c__law_cell (by decide) (a_cons (d_var 0) (a_cons (d_var 1) (a_nil)))) (a_nil))) (g_name (own := [2]) 2 g.nd))
    (s_cons (s_par3 3 4 5 g.calm g.nd (a_cons (d_call g c__law_take (by decide) (a_cons (d_var 2) (a_cons (d_int) (a_nil)))) (a_cons (d_bin (op_Add g.K false) (d_int) (d_call g c__law_take (by decide) (a_cons (d_var 2) (a_cons (d_int) (a_nil))))) (a_cons (d_call g c__law_take (by decide) (a_cons (d_var 2) (a_cons (d_int) (a_nil)))) (a_nil)))))
    (s_cons (s_asg (d_call g c__law_names (by decide) (a_cons (d_var 2) (a_cons (d_var 4) (a_nil)))) (g_name (own := [6]) 6 g.nd))
    (s_cons (s_asg (d_bin (op_Add g.K false) (d_sl g.K false (d_var 6) (o_some (d_int)) (o_no)) (d_lst false (a_cons (d_call g c__law_name (by decide) (a_cons (d_var 2) (a_cons (d_var 6) (a_nil)))) (a_nil)))) (g_name (own := [7]) 7 g.nd))
    (s_cons (s_par3 8 9 10 g.calm g.nd (a_cons (d_make false g c_make_Form (by decide) (a_cons (d_var 6) (a_nil))) (a_cons (d_make false g c_make_Form (by decide) (a_cons (d_var 7) (a_nil))) (a_cons (d_call g c__law_tall (by decide) (a_cons (d_var 2) (a_cons (d_var 6) (a_cons (d_int) (a_nil))))) (a_nil)))))
    (s_cons (s_asg (d_lst false (a_cons (d_var 10) (a_cons (d_call g c__law_formula (by decide) (a_cons (d_var 2) (a_cons (d_var 6) (a_cons (d_int) (a_nil))))) (a_cons (d_call g c__law_leaf (by decide) (a_cons (d_var 2) (a_cons (d_var 6) (a_nil)))) (a_cons (d_call g c__law_formula (by decide) (a_cons (d_var 2) (a_cons (d_var 6) (a_cons (d_int) (a_nil))))) (a_cons (d_call g c__law_tall (by decide) (a_cons (d_var 2) (a_cons (d_var 6) (a_cons (d_int) (a_nil))))) (a_nil))))))) (g_name (own := [11]) 11 g.nd))
    (s_cons (s_for g.po g.calm (i_en g.K T.b_enumerate (d_var 11)) (g_seq g.K g.calm (gs_cons (g_name (own := [12, 13]) 12 g.nd) (gs_cons (g_name (own := [12, 13]) 13 g.nd) (gs_nil)))) (s_cons (s_asg (d_join g.K (d_str) (d_call g c__law_words (by decide) (a_cons (d_var 13) (a_nil)))) (g_name (own := [14]) 14 g.nd))
    (s_cons (s_if ((d_orB (d_notB (d_tv (d_call g c__law_text_right (by decide) (a_cons (d_var 8) (a_cons (d_var 13) (a_cons (d_bin op_Mod' (d_bty cr_Int T.b_int rfl (a_cons (d_bin (op_Add g.K false) (d_var 3) (d_var 12)) (a_nil))) (d_int)) (a_nil))))))) (d_or1 (d_notB (d_tv (d_call g c__law_read_right (by decide) (a_cons (d_var 8) (a_cons (d_var 6) (a_cons (d_var 14) (a_cons (d_var 3) (a_nil)))))))))).pt) (s_one (s_ret (d_bl))) (s_nil))
    (s_cons (s_if ((d_orB (d_notB (d_tv (d_call g c__law_read_right (by decide) (a_cons (d_var 9) (a_cons (d_var 7) (a_cons (d_var 14) (a_cons (d_bin op_Sub (d_int) (d_var 3)) (a_nil)))))))) (d_or1 (d_notB (d_tv (d_call g c__law_text_right (by decide) (a_cons (d_var 8) (a_cons (d_var 13) (a_cons (d_bin op_Mod' (d_bty cr_Int T.b_int rfl (a_cons (d_bin (op_Add g.K false) (d_bin (op_Add g.K false) (d_var 3) (d_var 12)) (d_int)) (a_nil))) (d_int)) (a_nil))))))))).pt) (s_one (s_ret (d_bl))) (s_nil))
    (s_one (s_for g.po g.calm (i_r1 T.b_range (d_int)) (g_name (own := [15]) 15 g.nd) (s_cons (s_asg (d_call g c__law_spoilt (by decide) (a_cons (d_var 2) (a_cons (d_var 6) (a_cons (d_var 13) (a_nil))))) (g_name (own := [16]) 16 g.nd))
    (s_one (s_if (d_notB (d_tv (d_call g c__law_read_right (by decide) (a_cons (d_var 8) (a_cons (d_var 6) (a_cons (d_var 16) (a_cons (d_bin op_Mod' (d_bty cr_Int T.b_int rfl (a_cons (d_bin (op_Add g.K false) (d_var 3) (d_var 15)) (a_nil))) (d_int)) (a_nil)))))))) (s_one (s_ret (d_bl))) (s_nil))))))))))
    (s_cons (s_if (d_notB (d_tv (d_call g c__law_read_right (by decide) (a_cons (d_var 8) (a_cons (d_var 6) (a_cons (d_bin (op_Add g.K false) (d_str) (d_join g.K (d_str) (d_call g c__law_words (by decide) (a_cons (d_var 10) (a_nil))))) (a_cons (d_var 3) (a_nil)))))))) (s_one (s_ret (d_bl))) (s_nil))
    (s_one (s_if ((d_orB (d_notB (d_tv (d_call g c__law_no_text_right (by decide) (a_cons (d_var 8) (a_cons (d_idx g.K (d_var 11) (d_int)) (a_cons (d_var 5) (a_cons (d_var 3) (a_nil)))))))) (d_or1 (d_notB (d_tv (d_call g c__law_read_right (by decide) (a_cons (d_var 8) (a_cons (d_var 6) (a_cons (d_str) (a_cons (d_var 3) (a_nil)))))))))).pt) (s_one (s_ret (d_bl))) (s_nil))))))))))))
    (s_one (s_ret (d_bl)))
end KK
/-! text K06F -/
namespace KK
open PySem PySem.Spec PyProof.Rows L2 DL
def d__law_box : He.DefD := ⟨("_law_box", none), "_law_box", "_law_box", defArgs (top 33), defBody (top 33), defScope (top 33), [], []⟩
def d__law_cell : He.DefD := ⟨("_law_cell", none), "_law_cell", "_law_cell", defArgs (top 32), defBody (top 32), defScope (top 32), [], []⟩
def d__law_take : He.DefD := ⟨("_law_take", none), "_law_take", "_law_take", defArgs (top 34), defBody (top 34), defScope (top 34), [], []⟩
def d__law_kept_out : He.DefD := ⟨("_law_kept_out", none), "_law_kept_out", "_law_kept_out", defArgs (top 35), defBody (top 35), defScope (top 35), [], []⟩
def d__law_name : He.DefD := ⟨("_law_name", none), "_law_name", "_law_name", defArgs (top 36), defBody (top 36), defScope (top 36), [], []⟩
def d__law_names : He.DefD := ⟨("_law_names", none), "_law_names", "_law_names", defArgs (top 37), defBody (top 37), defScope (top 37), [], []⟩
def d__law_kinds : He.DefD := ⟨("_law_kinds", none), "_law_kinds", "_law_kinds", defArgs (top 38), defBody (top 38), defScope (top 38), [], []⟩
def d__law_leaf : He.DefD := ⟨("_law_leaf", none), "_law_leaf", "_law_leaf", defArgs (top 39), defBody (top 39), defScope (top 39), [], []⟩
def d__law_formula : He.DefD := ⟨("_law_formula", none), "_law_formula", "_law_formula", defArgs (top 40), defBody (top 40), defScope (top 40), [], []⟩
def d__law_tall : He.DefD := ⟨("_law_tall", none), "_law_tall", "_law_tall", defArgs (top 41), defBody (top 41), defScope (top 41), [], []⟩
def d_is_listed : He.DefD := ⟨("is_listed", none), "is_listed", "is_listed", defArgs (top 12), defBody (top 12), defScope (top 12), [], []⟩
def d_is_word : He.DefD := ⟨("is_word", none), "is_word", "is_word", defArgs (top 14), defBody (top 14), defScope (top 14), [], []⟩
def d_is_name : He.DefD := ⟨("is_name", none), "is_name", "is_name", defArgs (top 15), defBody (top 15), defScope (top 15), [], []⟩
def d_are_unlike : He.DefD := ⟨("are_unlike", none), "are_unlike", "are_unlike", defArgs (top 16), defBody (top 16), defScope (top 16), [], []⟩
def d_are_unlike_names : He.DefD := ⟨("are_unlike_names", none), "are_unlike_names", "are_unlike_names", defArgs (top 17), defBody (top 17), defScope (top 17), [], []⟩
def d_err_InvalidColumns : He.DefD := ⟨("InvalidColumns", some "__init__"), "__init__", "InvalidColumns.__init__", defArgs (cb 3 0), defBody (cb 3 0), defScope (cb 3 0), [], []⟩
def d_make_Form : He.DefD := ⟨("Form", some "__init__"), "__init__", "Form.__init__", defArgs (cb 20 0), defBody (cb 20 0), defScope (cb 20 0), [], []⟩
def d__law_words : He.DefD := ⟨("_law_words", none), "_law_words", "_law_words", defArgs (top 42), defBody (top 42), defScope (top 42), [], []⟩
def d_is_tuple_of : He.DefD := ⟨("is_tuple_of", none), "is_tuple_of", "is_tuple_of", defArgs (top 13), defBody (top 13), defScope (top 13), [], []⟩
def d_is_column : He.DefD := ⟨("is_column", none), "is_column", "is_column", defArgs (top 21), defBody (top 21), defScope (top 21), [], []⟩
def d_is_formula_within : He.DefD := ⟨("is_formula_within", none), "is_formula_within", "is_formula_within", defArgs (top 25), defBody (top 25), defScope (top 25), [], []⟩
def d_is_formula : He.DefD := ⟨("is_formula", none), "is_formula", "is_formula", defArgs (top 28), defBody (top 28), defScope (top 28), [], []⟩
def d_err_InvalidFormula : He.DefD := ⟨("InvalidFormula", some "__init__"), "__init__", "InvalidFormula.__init__", defArgs (cb 5 0), defBody (cb 5 0), defScope (cb 5 0), [], []⟩
def d_words_of : He.DefD := ⟨("words_of", none), "words_of", "words_of", defArgs (top 26), defBody (top 26), defScope (top 26), [], []⟩
def d_formula_text : He.DefD := ⟨("formula_text", none), "formula_text", "formula_text", defArgs (top 29), defBody (top 29), defScope (top 29), [], []⟩
def d__law_text_right : He.DefD := ⟨("_law_text_right", none), "_law_text_right", "_law_text_right", defArgs (top 49), defBody (top 49), defScope (top 49), [], []⟩
def d__law_read : He.DefD := ⟨("_law_read", none), "_law_read", "_law_read", defArgs (top 43), defBody (top 43), defScope (top 43), [], []⟩
def d_err_InvalidText : He.DefD := ⟨("InvalidText", some "__init__"), "__init__", "InvalidText.__init__", defArgs (cb 6 0), defBody (cb 6 0), defScope (cb 6 0), [], []⟩
def d_read_from : He.DefD := ⟨("read_from", none), "read_from", "read_from", defArgs (top 27), defBody (top 27), defScope (top 27), [], []⟩
def d_read_formula : He.DefD := ⟨("read_formula", none), "read_formula", "read_formula", defArgs (top 30), defBody (top 30), defScope (top 30), [], []⟩
def d__law_told : He.DefD := ⟨("_law_told", none), "_law_told", "_law_told", defArgs (top 46), defBody (top 46), defScope (top 46), [], []⟩
def d__law_read_right : He.DefD := ⟨("_law_read_right", none), "_law_read_right", "_law_read_right", defArgs (top 47), defBody (top 47), defScope (top 47), [], []⟩
def d__law_word : He.DefD := ⟨("_law_word", none), "_law_word", "_law_word", defArgs (top 44), defBody (top 44), defScope (top 44), [], []⟩
def d__law_spoilt : He.DefD := ⟨("_law_spoilt", none), "_law_spoilt", "_law_spoilt", defArgs (top 45), defBody (top 45), defScope (top 45), [], []⟩
def d__law_no_text_right : He.DefD := ⟨("_law_no_text_right", none), "_law_no_text_right", "_law_no_text_right", defArgs (top 48), defBody (top 48), defScope (top 48), [], []⟩
def d_law : He.DefD := ⟨("law", none), "law", "law", defArgs (top 50), defBody (top 50), defScope (top 50), [], []⟩
def fa : List He.Fa := [.free "abs",
  .free "all",
  .free "enumerate",
  .free "int",
  .free "isinstance",
  .free "len",
  .free "list",
  .free "max",
  .free "min",
  .free "range",
  .free "repr",
  .free "set",
  .free "str",
  .free "sum",
  .free "tuple",
  .str "LETTERS" "abcdefghijklmnopqrstuvwxyz",
  .int "MOST_LETTERS" 8,
  .glo "NO_NAMES",
  .glo "KINDS",
  .int "MOST_COLUMNS" 4,
  .int "DEEPEST" 6,
  .glo "PARTS",
  .glo "EarlierError",
  .glo "InvalidColumns",
  .glo "InvalidFormula",
  .glo "InvalidText",
  .glo "Form",
  .glo "_law_box",
  .glo "_law_cell",
  .glo "_law_take",
  .glo "_law_kept_out",
  .glo "_law_name",
  .glo "_law_names",
  .glo "_law_kinds",
  .glo "_law_leaf",
  .glo "_law_formula",
  .glo "_law_tall",
  .glo "is_listed",
  .glo "is_word",
  .glo "is_name",
  .glo "are_unlike",
  .glo "are_unlike_names",
  .glo "EarlierError",
  .mkr "Form",
  .glo "_law_words",
  .glo "is_tuple_of",
  .glo "is_column",
  .glo "is_formula_within",
  .glo "is_formula",
  .glo "EarlierError",
  .glo "words_of",
  .glo "formula_text",
  .glo "_law_text_right",
  .glo "_law_read",
  .glo "EarlierError",
  .glo "read_from",
  .glo "read_formula",
  .glo "_law_told",
  .glo "_law_read_right",
  .glo "_law_word",
  .glo "_law_spoilt",
  .glo "_law_no_text_right",
  .glo "law",
  .cls "Form"]
def dl : List He.DefD := [d__law_box, d__law_cell, d__law_take, d__law_kept_out, d__law_name, d__law_names, d__law_kinds, d__law_leaf, d__law_formula, d__law_tall, d_is_listed, d_is_word, d_is_name, d_are_unlike, d_are_unlike_names, d_err_InvalidColumns, d_make_Form, d__law_words, d_is_tuple_of, d_is_column, d_is_formula_within, d_is_formula, d_err_InvalidFormula, d_words_of, d_formula_text, d__law_text_right, d__law_read, d_err_InvalidText, d_read_from, d_read_formula, d__law_told, d__law_read_right, d__law_word, d__law_spoilt, d__law_no_text_right, d_law]
def exB (K : PySem.W.Frag) : List Bool := [tuB K (He.ga K "NO_NAMES") w_NO_NAMES,
  wvB K ((cfg K).ca 86) kv_PARTS,
  errB K ((cfg K).ca 1) ((cfg K).ca 0) "given",
  errB K ((cfg K).ca 6) ((cfg K).ca 0) "given",
  errB K ((cfg K).ca 7) ((cfg K).ca 0) "given",
  atrB (cfg K) atL,
  isiB (cfg K) tyL isR,
  extB (cfg K) exL exR,
  isEB (cfg K) eiL eiM eiR,
  xatB (cfg K) 83 "given"]
theorem xa_over (c : Nat) (h : 83 ≤ c) : xaT c = none := by
  unfold xaT
  rw [List.getD_eq_getElem?_getD, List.getElem?_eq_none (by exact h)]
  rfl
theorem txt_of {K : PySem.W.Frag} {h : Heap} {w : World} {mg : Str → Option Value} (X : K.In h) (G : h.Ns mainGlobals mg) (c : He.SaysD fa dl K) (e : (exB K).all id = true) (d_KINDS : He.dicW K ((cfg K).ca 93) = some (He.keysIn w.params k_KINDS)) (d_PARTS : He.dicW K ((cfg K).ca 86) = some (He.keysIn w.params k_PARTS)) : Txt K w mg := by
  have q : ∀ (i : Nat) (b : Bool), (exB K)[i]? = some b → b = true := fun i b h => List.all_eq_true.mp e b (List.mem_of_getElem? h)
  exact {
    b_abs := He.free_ok X G (c.fact 0)
    b_all := He.free_ok X G (c.fact 1)
    b_enumerate := He.free_ok X G (c.fact 2)
    b_int := He.free_ok X G (c.fact 3)
    b_isinstance := He.free_ok X G (c.fact 4)
    b_len := He.free_ok X G (c.fact 5)
    b_list := He.free_ok X G (c.fact 6)
    b_max := He.free_ok X G (c.fact 7)
    b_min := He.free_ok X G (c.fact 8)
    b_range := He.free_ok X G (c.fact 9)
    b_repr := He.free_ok X G (c.fact 10)
    b_set := He.free_ok X G (c.fact 11)
    b_str := He.free_ok X G (c.fact 12)
    b_sum := He.free_ok X G (c.fact 13)
    b_tuple := He.free_ok X G (c.fact 14)
    v_LETTERS := He.str_ok X G (c.fact 15)
    v_MOST_LETTERS := He.int_ok X G (c.fact 16)
    g_NO_NAMES := He.glo_ok X G (c.fact 17)
    v_NO_NAMES := tuB_ok (q 0 _ rfl)
    g_KINDS := He.glo_ok X G (c.fact 18)
    v_KINDS := wdk_of d_KINDS
    v_MOST_COLUMNS := He.int_ok X G (c.fact 19)
    v_DEEPEST := He.int_ok X G (c.fact 20)
    g_PARTS := He.glo_ok X G (c.fact 21)
    v_PARTS := wdk_of d_PARTS
    vv_PARTS := wvB_ok (q 1 _ rfl)
    g_EarlierError := He.glo_ok X G (c.fact 22)
    g_InvalidColumns := He.glo_ok X G (c.fact 23)
    g_InvalidFormula := He.glo_ok X G (c.fact 24)
    g_InvalidText := He.glo_ok X G (c.fact 25)
    g_Form := He.glo_ok X G (c.fact 26)
    g__law_box := He.glo_ok X G (c.fact 27)
    f__law_box := fun_of (st := top 33) (c.def_ 0 (d := d__law_box) rfl)
    g__law_cell := He.glo_ok X G (c.fact 28)
    f__law_cell := fun_of (st := top 32) (c.def_ 1 (d := d__law_cell) rfl)
    g__law_take := He.glo_ok X G (c.fact 29)
    f__law_take := fun_of (st := top 34) (c.def_ 2 (d := d__law_take) rfl)
    g__law_kept_out := He.glo_ok X G (c.fact 30)
    f__law_kept_out := fun_of (st := top 35) (c.def_ 3 (d := d__law_kept_out) rfl)
    g__law_name := He.glo_ok X G (c.fact 31)
    f__law_name := fun_of (st := top 36) (c.def_ 4 (d := d__law_name) rfl)
    g__law_names := He.glo_ok X G (c.fact 32)
    f__law_names := fun_of (st := top 37) (c.def_ 5 (d := d__law_names) rfl)
    g__law_kinds := He.glo_ok X G (c.fact 33)
    f__law_kinds := fun_of (st := top 38) (c.def_ 6 (d := d__law_kinds) rfl)
    g__law_leaf := He.glo_ok X G (c.fact 34)
    f__law_leaf := fun_of (st := top 39) (c.def_ 7 (d := d__law_leaf) rfl)
    g__law_formula := He.glo_ok X G (c.fact 35)
    f__law_formula := fun_of (st := top 40) (c.def_ 8 (d := d__law_formula) rfl)
    g__law_tall := He.glo_ok X G (c.fact 36)
    f__law_tall := fun_of (st := top 41) (c.def_ 9 (d := d__law_tall) rfl)
    g_is_listed := He.glo_ok X G (c.fact 37)
    f_is_listed := fun_of (st := top 12) (c.def_ 10 (d := d_is_listed) rfl)
    g_is_word := He.glo_ok X G (c.fact 38)
    f_is_word := fun_of (st := top 14) (c.def_ 11 (d := d_is_word) rfl)
    g_is_name := He.glo_ok X G (c.fact 39)
    f_is_name := fun_of (st := top 15) (c.def_ 12 (d := d_is_name) rfl)
    g_are_unlike := He.glo_ok X G (c.fact 40)
    f_are_unlike := fun_of (st := top 16) (c.def_ 13 (d := d_are_unlike) rfl)
    g_are_unlike_names := He.glo_ok X G (c.fact 41)
    f_are_unlike_names := fun_of (st := top 17) (c.def_ 14 (d := d_are_unlike_names) rfl)
    f_err_InvalidColumns := fun_of (st := cb 3 0) (c.def_ 15 (d := d_err_InvalidColumns) rfl)
    e_InvalidColumns := (errB_ok (q 2 _ rfl)).e
    ei_InvalidColumns := (errB_ok (q 2 _ rfl)).ei
    et_InvalidColumns := (errB_ok (q 2 _ rfl)).et
    ex_InvalidColumns := (errB_ok (q 2 _ rfl)).ex
    en_InvalidColumns := (errB_ok (q 2 _ rfl)).en
    gp_InvalidColumns := He.glo_ok X G (c.fact 42)
    h_make_Form := He.mkr_ok (c.fact 43)
    f_make_Form := fun_of (st := cb 20 0) (c.def_ 16 (d := d_make_Form) rfl)
    g__law_words := He.glo_ok X G (c.fact 44)
    f__law_words := fun_of (st := top 42) (c.def_ 17 (d := d__law_words) rfl)
    g_is_tuple_of := He.glo_ok X G (c.fact 45)
    f_is_tuple_of := fun_of (st := top 13) (c.def_ 18 (d := d_is_tuple_of) rfl)
    g_is_column := He.glo_ok X G (c.fact 46)
    f_is_column := fun_of (st := top 21) (c.def_ 19 (d := d_is_column) rfl)
    g_is_formula_within := He.glo_ok X G (c.fact 47)
    f_is_formula_within := fun_of (st := top 25) (c.def_ 20 (d := d_is_formula_within) rfl)
    g_is_formula := He.glo_ok X G (c.fact 48)
    f_is_formula := fun_of (st := top 28) (c.def_ 21 (d := d_is_formula) rfl)
    f_err_InvalidFormula := fun_of (st := cb 5 0) (c.def_ 22 (d := d_err_InvalidFormula) rfl)
    e_InvalidFormula := (errB_ok (q 3 _ rfl)).e
    ei_InvalidFormula := (errB_ok (q 3 _ rfl)).ei
    et_InvalidFormula := (errB_ok (q 3 _ rfl)).et
    ex_InvalidFormula := (errB_ok (q 3 _ rfl)).ex
    en_InvalidFormula := (errB_ok (q 3 _ rfl)).en
    gp_InvalidFormula := He.glo_ok X G (c.fact 49)
    g_words_of := He.glo_ok X G (c.fact 50)
    f_words_of := fun_of (st := top 26) (c.def_ 23 (d := d_words_of) rfl)
    g_formula_text := He.glo_ok X G (c.fact 51)
    f_formula_text := fun_of (st := top 29) (c.def_ 24 (d := d_formula_text) rfl)
    g__law_text_right := He.glo_ok X G (c.fact 52)
    f__law_text_right := fun_of (st := top 49) (c.def_ 25 (d := d__law_text_right) rfl)
    g__law_read := He.glo_ok X G (c.fact 53)
    f__law_read := fun_of (st := top 43) (c.def_ 26 (d := d__law_read) rfl)
    f_err_InvalidText := fun_of (st := cb 6 0) (c.def_ 27 (d := d_err_InvalidText) rfl)
    e_InvalidText := (errB_ok (q 4 _ rfl)).e
    ei_InvalidText := (errB_ok (q 4 _ rfl)).ei
    et_InvalidText := (errB_ok (q 4 _ rfl)).et
    ex_InvalidText := (errB_ok (q 4 _ rfl)).ex
    en_InvalidText := (errB_ok (q 4 _ rfl)).en
    gp_InvalidText := He.glo_ok X G (c.fact 54)
    g_read_from := He.glo_ok X G (c.fact 55)
    f_read_from := fun_of (st := top 27) (c.def_ 28 (d := d_read_from) rfl)
    g_read_formula := He.glo_ok X G (c.fact 56)
    f_read_formula := fun_of (st := top 30) (c.def_ 29 (d := d_read_formula) rfl)
    g__law_told := He.glo_ok X G (c.fact 57)
    f__law_told := fun_of (st := top 46) (c.def_ 30 (d := d__law_told) rfl)
    g__law_read_right := He.glo_ok X G (c.fact 58)
    f__law_read_right := fun_of (st := top 47) (c.def_ 31 (d := d__law_read_right) rfl)
    g__law_word := He.glo_ok X G (c.fact 59)
    f__law_word := fun_of (st := top 44) (c.def_ 32 (d := d__law_word) rfl)
    g__law_spoilt := He.glo_ok X G (c.fact 60)
    f__law_spoilt := fun_of (st := top 45) (c.def_ 33 (d := d__law_spoilt) rfl)
    g__law_no_text_right := He.glo_ok X G (c.fact 61)
    f__law_no_text_right := fun_of (st := top 48) (c.def_ 34 (d := d__law_no_text_right) rfl)
    g_law := He.glo_ok X G (c.fact 62)
    f_law := fun_of (st := top 50) (c.def_ 35 (d := d_law) rfl)
    c_Form := He.cls_ok (c.fact 63)
    atr := atr_of (q 5 _ rfl)
    isi := isi_of (q 6 _ rfl)
    exm := ext_of (q 7 _ rfl)
    ise := isE_of (q 8 _ rfl)
    xat_given := xat_of (q 9 _ rfl) xa_over }
theorem law_in {l : PySem.W.OpenLaw} {w : World} {K : PySem.W.Frag} {mg : Str → Option Value} {fa : Addr} {h : Heap} (hl : l.prog = prog) (T : Txt K w mg) (hf : mg "law" = some (.ref fa)) (hlaw : ∀ ns : List Int, ns.length ≤ 63 → (∀ z ∈ ns, Builtin.Int.intBits z ≤ 1048576) → ∃ μ, m_law [.rl (ns.map .int)] [] = .ok (.bl true) μ) :
    LamX.LawAtG l w K (L2.CX l.prog w) 14 63 "script" mg fa h := by
  exact law_at (st := top 50) (fun base => by rw [hl]; exact ok_law T) hf (fun _ _ _ _ _ _ _ => rfl) hlaw
end KK
/-! text K06S -/
namespace KK
open PySem PySem.Spec PyProof.Rows L2 DL
@[simp] theorem is_NoneType_bool : isT (.b "NoneType") (.b "bool") = some false := by decide +kernel
@[simp] theorem is_NoneType_int : isT (.b "NoneType") (.b "int") = some false := by decide +kernel
@[simp] theorem is_NoneType_str : isT (.b "NoneType") (.b "str") = some false := by decide +kernel
@[simp] theorem is_NoneType_tuple : isT (.b "NoneType") (.b "tuple") = some false := by decide +kernel
@[simp] theorem is_NoneType_list : isT (.b "NoneType") (.b "list") = some false := by decide +kernel
@[simp] theorem is_NoneType_dict : isT (.b "NoneType") (.b "dict") = some false := by decide +kernel
@[simp] theorem is_NoneType_61 : isT (.b "NoneType") (.c 61) = some false := by decide +kernel
@[simp] theorem is_bool_bool : isT (.b "bool") (.b "bool") = some true := by decide +kernel
@[simp] theorem is_bool_int : isT (.b "bool") (.b "int") = some true := by decide +kernel
@[simp] theorem is_bool_str : isT (.b "bool") (.b "str") = some false := by decide +kernel
@[simp] theorem is_bool_tuple : isT (.b "bool") (.b "tuple") = some false := by decide +kernel
@[simp] theorem is_bool_list : isT (.b "bool") (.b "list") = some false := by decide +kernel
@[simp] theorem is_bool_dict : isT (.b "bool") (.b "dict") = some false := by decide +kernel
@[simp] theorem is_bool_61 : isT (.b "bool") (.c 61) = some false := by decide +kernel
@[simp] theorem is_int_bool : isT (.b "int") (.b "bool") = some false := by decide +kernel
@[simp] theorem is_int_int : isT (.b "int") (.b "int") = some true := by decide +kernel
@[simp] theorem is_int_str : isT (.b "int") (.b "str") = some false := by decide +kernel
@[simp] theorem is_int_tuple : isT (.b "int") (.b "tuple") = some false := by decide +kernel
@[simp] theorem is_int_list : isT (.b "int") (.b "list") = some false := by decide +kernel
@[simp] theorem is_int_dict : isT (.b "int") (.b "dict") = some false := by decide +kernel
@[simp] theorem is_int_61 : isT (.b "int") (.c 61) = some false := by decide +kernel
@[simp] theorem is_str_bool : isT (.b "str") (.b "bool") = some false := by decide +kernel
@[simp] theorem is_str_int : isT (.b "str") (.b "int") = some false := by decide +kernel
@[simp] theorem is_str_str : isT (.b "str") (.b "str") = some true := by decide +kernel
@[simp] theorem is_str_tuple : isT (.b "str") (.b "tuple") = some false := by decide +kernel
@[simp] theorem is_str_list : isT (.b "str") (.b "list") = some false := by decide +kernel
@[simp] theorem is_str_dict : isT (.b "str") (.b "dict") = some false := by decide +kernel
@[simp] theorem is_str_61 : isT (.b "str") (.c 61) = some false := by decide +kernel
@[simp] theorem is_tuple_bool : isT (.b "tuple") (.b "bool") = some false := by decide +kernel
@[simp] theorem is_tuple_int : isT (.b "tuple") (.b "int") = some false := by decide +kernel
@[simp] theorem is_tuple_str : isT (.b "tuple") (.b "str") = some false := by decide +kernel
@[simp] theorem is_tuple_tuple : isT (.b "tuple") (.b "tuple") = some true := by decide +kernel
@[simp] theorem is_tuple_list : isT (.b "tuple") (.b "list") = some false := by decide +kernel
@[simp] theorem is_tuple_dict : isT (.b "tuple") (.b "dict") = some false := by decide +kernel
@[simp] theorem is_tuple_61 : isT (.b "tuple") (.c 61) = some false := by decide +kernel
@[simp] theorem is_list_bool : isT (.b "list") (.b "bool") = some false := by decide +kernel
@[simp] theorem is_list_int : isT (.b "list") (.b "int") = some false := by decide +kernel
@[simp] theorem is_list_str : isT (.b "list") (.b "str") = some false := by decide +kernel
@[simp] theorem is_list_tuple : isT (.b "list") (.b "tuple") = some false := by decide +kernel
@[simp] theorem is_list_list : isT (.b "list") (.b "list") = some true := by decide +kernel
@[simp] theorem is_list_dict : isT (.b "list") (.b "dict") = some false := by decide +kernel
@[simp] theorem is_list_61 : isT (.b "list") (.c 61) = some false := by decide +kernel
@[simp] theorem is_dict_bool : isT (.b "dict") (.b "bool") = some false := by decide +kernel
@[simp] theorem is_dict_int : isT (.b "dict") (.b "int") = some false := by decide +kernel
@[simp] theorem is_dict_str : isT (.b "dict") (.b "str") = some false := by decide +kernel
@[simp] theorem is_dict_tuple : isT (.b "dict") (.b "tuple") = some false := by decide +kernel
@[simp] theorem is_dict_list : isT (.b "dict") (.b "list") = some false := by decide +kernel
@[simp] theorem is_dict_dict : isT (.b "dict") (.b "dict") = some true := by decide +kernel
@[simp] theorem is_dict_61 : isT (.b "dict") (.c 61) = some false := by decide +kernel
@[simp] theorem is_61_bool : isT (.c 61) (.b "bool") = some false := by decide +kernel
@[simp] theorem is_61_int : isT (.c 61) (.b "int") = some false := by decide +kernel
@[simp] theorem is_61_str : isT (.c 61) (.b "str") = some false := by decide +kernel
@[simp] theorem is_61_tuple : isT (.c 61) (.b "tuple") = some false := by decide +kernel
@[simp] theorem is_61_list : isT (.c 61) (.b "list") = some false := by decide +kernel
@[simp] theorem is_61_dict : isT (.c 61) (.b "dict") = some false := by decide +kernel
@[simp] theorem is_61_61 : isT (.c 61) (.c 61) = some true := by decide +kernel
def ownC : List Nat := [61]
theorem own_bool {C : Nat} (h : ownC.contains C = true) : isT (.c C) (.b "bool") = some false := by
  simp [ownC] at h
  simp [h]
theorem own_int {C : Nat} (h : ownC.contains C = true) : isT (.c C) (.b "int") = some false := by
  simp [ownC] at h
  simp [h]
theorem own_str {C : Nat} (h : ownC.contains C = true) : isT (.c C) (.b "str") = some false := by
  simp [ownC] at h
  simp [h]
theorem own_tuple {C : Nat} (h : ownC.contains C = true) : isT (.c C) (.b "tuple") = some false := by
  simp [ownC] at h
  simp [h]
theorem own_list {C : Nat} (h : ownC.contains C = true) : isT (.c C) (.b "list") = some false := by
  simp [ownC] at h
  simp [h]
theorem own_dict {C : Nat} (h : ownC.contains C = true) : isT (.c C) (.b "dict") = some false := by
  simp [ownC] at h
  simp [h]
@[simp] theorem xa_1 : xaT 1 = some "given" := by decide +kernel
@[simp] theorem xa_2 : xaT 2 = some "given" := by decide +kernel
@[simp] theorem xa_6 : xaT 6 = some "given" := by decide +kernel
@[simp] theorem xa_7 : xaT 7 = some "given" := by decide +kernel
@[simp] theorem at_61_columns : atT 61 "columns" = true := by decide +kernel
@[simp] theorem at_61_places : atT 61 "places" = true := by decide +kernel
end KK
/-! text S1 -/
namespace KK
open PySem PySem.Spec PyProof.Rows L2 DL TL
/-- a box of drawn numbers -/
def box (a : Int) (b : Bool) (c d : Int) : Ob := .lst [.int a, .bl b, .int c, .int d]
section
variable {μ : Store} {n : Nat} {a c d x : Int} {b : Bool} {σ : Sg}
theorem box_idx {i : Int} (h : μ[n]? = some (box a b c d)) : oIdx (.loc n) (.int i) μ = (atI [.int a, .bl b, .int c, .int d] i).map fun x => (x, μ) := by
  simp [oIdx, getS, getL, getM, h, box, Option.map]
theorem box_0 (h : μ[n]? = some (box a b c d)) : oIdx (.loc n) (.int 0) μ = some (.int a, μ) := by rw [box_idx h]; rfl
theorem box_1 (h : μ[n]? = some (box a b c d)) : oIdx (.loc n) (.int 1) μ = some (.bl b, μ) := by rw [box_idx h]; rfl
theorem box_2 (h : μ[n]? = some (box a b c d)) : oIdx (.loc n) (.int 2) μ = some (.int c, μ) := by rw [box_idx h]; rfl
theorem box_3 (h : μ[n]? = some (box a b c d)) : oIdx (.loc n) (.int 3) μ = some (.int d, μ) := by rw [box_idx h]; rfl
theorem box_s0 (h : μ[n]? = some (box a b c d)) : setAt (.loc n) (.int 0) (.int x) μ = some (μ.set n (box x b c d)) := by simp [setAt, h, box, ixN]
theorem box_s3 (h : μ[n]? = some (box a b c d)) : setAt (.loc n) (.int 3) (.int x) μ = some (μ.set n (box a b c x)) := by simp [setAt, h, box, ixN]
end
def Bx (k : Nat) (o : Ob) : Prop := ∃ a b c d, o = box a b c d ∧ 0 ≤ a ∧ 0 ≤ c ∧ c < 2147483629 ∧ 0 ≤ d ∧ d ≤ (k : Int)
theorem Bx.mono {k j : Nat} {o : Ob} (h : Bx k o) (l : k ≤ j) : Bx j o := by
  obtain ⟨a, b, c, d, e, h1, h2, h3, h4, h5⟩ := h
  exact ⟨a, b, c, d, e, h1, h2, h3, h4, by omega⟩
theorem Bx.clo {k : Nat} {o : Ob} (h : Bx k o) (n : Nat) : cloO n o = true := by
  obtain ⟨a, b, c, d, rfl, _⟩ := h
  simp [cloO, box, clos, DL.clo]
section
variable {μ : Store} {n k : Nat} {o : Ob} {many : Int} {Q : D → Store → Prop} {E : XP}
/-- a draw -/
theorem take_wp (hn : n < μ.length) (B : Bx k o) (hk : k < 900000) (hm : 0 < many) (hm2 : many ≤ 10 ^ 40) (q : ∀ (v : Int) (o' : Ob), 0 ≤ v → v < many → Bx (k + 1) o' → Q (.int v) (μ.set n o')) : Wp (m__law_take [.loc n, .int many] (μ.set n o)) Q E := by
  obtain ⟨a, b, c, d, rfl, ha, hc, hc2, hd, hd2⟩ := B
  have h : (μ.set n (box a b c d))[n]? = some (box a b c d) := by simp [hn]
  rw [m__law_take, b__law_take, wp_runB]
  by_cases hb : b = true ∧ 0 < a
  · obtain ⟨rfl, hb⟩ := hb
    have q' := q (a % many) (box (a / many) true c d) (Int.emod_nonneg _ (by omega)) (Int.emod_lt_of_pos _ hm) ⟨_, _, _, _, rfl, Int.ediv_nonneg ha (by omega), hc, hc2, hd, by omega⟩
    simp -dsimp [startD, box_0 h, box_1 h, box_s0 h, hb, ev_modI hm, ev_fdvI2 hm hm2, q']
  · have e1 : (c + 15485863 * (d + 1) + 179424673).natAbs < 2 ^ 64 := by omega
    generalize hx : (c + 15485863 * (d + 1) + 179424673) ^ 5 % 2147483647 = x
    have x0 : 0 ≤ x := by rw [← hx]; exact Int.emod_nonneg _ (by decide)
    have x1 : x < 2147483647 := by rw [← hx]; exact Int.emod_lt_of_pos _ (by decide)
    have q' := q ((x * 48271 + 104729 * (d + 1)) ^ 3 % 2147483587 / 64 % many) (box a b c (d + 1)) (Int.emod_nonneg _ (by omega)) (Int.emod_lt_of_pos _ hm) ⟨_, _, _, _, rfl, ha, hc, hc2, by omega, by omega⟩
    have h2 : (μ.set n (box a b c (d + 1)))[n]? = some (box a b c (d + 1)) := by simp [hn]
    have e2 : ((15485863 : Int)).natAbs < 2 ^ 64 := by decide
    have e3 : (d + 1).natAbs < 2 ^ 64 := by omega
    have e4 : x.natAbs < 2 ^ 64 := by omega
    have e5 : (x * 48271 + 104729 * (d + 1)).natAbs < 2 ^ 64 := by omega
    cases b with
    | false =>
      simp -dsimp [startD, box_1 h, box_3 h, box_s3 h, box_2 h2, box_3 h2, ev_modI hm, ev_modI, ev_mulI e2 e3, ev_powI (j := 5) (by decide) (by decide) e1, hx, ev_mulI e4 (j := 48271) (by decide), ev_mulI (i := 104729) (by decide) e3, ev_powI (j := 3) (by decide) (by decide) e5, ev_fdvI2 (j := 64) (by decide) (by decide), q']
    | true =>
      have ha0 : ¬ 0 < a := fun z => hb ⟨rfl, z⟩
      simp -dsimp [startD, box_0 h, ha0, box_1 h, box_3 h, box_s3 h, box_2 h2, box_3 h2, ev_modI hm, ev_modI, ev_mulI e2 e3, ev_powI (j := 5) (by decide) (by decide) e1, hx, ev_mulI e4 (j := 48271) (by decide), ev_mulI (i := 104729) (by decide) e3, ev_powI (j := 3) (by decide) (by decide) e5, ev_fdvI2 (j := 64) (by decide) (by decide), q']
end
end KK
/-! text S2 -/
namespace KK
open PySem PySem.Spec PyProof.Rows L2 DL TL
def abc : Str := "abcdefghijklmnopqrstuvwxyz"
/-- the letters as they are tried -/
def qwe : Str := "qwertzxcvbnmasdfghjklyuiop"
theorem qwe_len : (tl qwe).length = 26 := by decide +kernel
theorem qwe_nodup : (tl qwe).Nodup := by decide +kernel
theorem qwe_abc : ∀ c ∈ tl qwe, c ∈ tl abc := by decide +kernel
def noN : List Str := ["any", "alike", "unlike", "less", "most", "more", "least", "all", "some", "not", "none", "if"]
/-- a word, a name -/
def Wd (x : Str) : Prop := 1 ≤ (tl x).length ∧ (tl x).length ≤ 8 ∧ ∀ c ∈ tl x, c ∈ tl abc
def Nm (x : Str) : Prop := Wd x ∧ x ∉ noN
theorem abc_len : (tl abc).length = 26 := by decide +kernel
theorem abc_nodup : (tl abc).Nodup := by decide +kernel
theorem abc_length : abc.length = 26 := by decide +kernel
/-- a text with another last sign -/
def lastly (x : Str) (c : Nat) : Str := cutS x none (some (-1)) ++ ⟨#[c]⟩
theorem tl_lastly (x : Str) (c : Nat) : tl (lastly x c) = (tl x).dropLast ++ [c] := by
  rw [lastly, tl_append, tl_cut_last]
theorem lastly_inj (x : Str) (c d : Nat) (h : lastly x c = lastly x d) : c = d := by
  have := congrArg tl h
  rw [tl_lastly, tl_lastly] at this
  simpa using List.append_cancel_left this
theorem lastly_wd {x : Str} (h : Wd x) {c : Nat} (hc : c ∈ tl abc) : Wd (lastly x c) := by
  obtain ⟨h1, h2, h3⟩ := h
  refine ⟨by rw [tl_lastly]; simp, by rw [tl_lastly]; simp; omega, fun d hd => ?_⟩
  rw [tl_lastly] at hd
  rcases List.mem_append.mp hd with hd | hd
  · exact h3 d (List.dropLast_subset _ hd)
  · rw [List.mem_singleton.mp hd]; exact hc
/-- the names that may stand for x -/
def frees (x : Str) : List Str := x :: (tl qwe).map (lastly x)
theorem frees_wd {x : Str} (h : Wd x) : ∀ y ∈ frees x, Wd y := fun y hy => by
  rcases List.mem_cons.mp hy with rfl | hy
  · exact h
  · obtain ⟨c, hc, rfl⟩ := List.mem_map.mp hy
    exact lastly_wd h (qwe_abc c hc)
theorem frees_ex (x : Str) (bad : List Str) (hb : bad.length ≤ 20) : ∃ y ∈ frees x, y ∉ bad := by
  refine Classical.byContradiction fun h => ?_
  have all : ∀ y ∈ (tl qwe).map (lastly x), y ∈ bad := fun y hy => Classical.byContradiction fun z => h ⟨y, List.mem_cons_of_mem _ hy, z⟩
  have := nodup_le (nodup_map (lastly_inj x) qwe_nodup) all
  rw [List.length_map, qwe_len] at this
  omega
/-- whether a text is a word -/
def wdB (x : Str) : Bool := decide (1 ≤ x.length) && decide (x.length ≤ 8) && (tl x).all fun c => decide (c ∈ tl abc)
theorem wdB_iff {x : Str} : wdB x = true ↔ Wd x := by
  simp only [wdB, Wd, Bool.and_eq_true, decide_eq_true_eq, List.all_eq_true, tl_len, and_assoc]
theorem frees_first (x : Str) (ks : List Str) (hk : ks.length ≤ 8) : ∃ y ys, (frees x).filter (fun y => !decide (y ∈ ks) && !decide (y ∈ noN)) = y :: ys ∧ y ∈ frees x ∧ y ∉ ks ∧ y ∉ noN := by
  obtain ⟨y, hy, hn⟩ := frees_ex x (ks ++ noN) (by simp only [List.length_append, show noN.length = 12 from rfl]; omega)
  have hy' : y ∈ (frees x).filter (fun y => !decide (y ∈ ks) && !decide (y ∈ noN)) := by
    rw [List.mem_filter]
    refine ⟨hy, ?_⟩
    simp only [List.mem_append, not_or] at hn
    simp [hn.1, hn.2]
  cases e : (frees x).filter (fun y => !decide (y ∈ ks) && !decide (y ∈ noN)) with
  | nil => rw [e] at hy'; simp at hy'
  | cons z zs =>
    have hz : z ∈ (frees x).filter (fun y => !decide (y ∈ ks) && !decide (y ∈ noN)) := by rw [e]; exact List.mem_cons_self
    rw [List.mem_filter] at hz
    simp only [Bool.and_eq_true, Bool.not_eq_true', decide_eq_false_iff_not] at hz
    exact ⟨z, zs, rfl, hz.1, hz.2.1, hz.2.2⟩
theorem set_clo {μ : Store} {n k : Nat} {o : Ob} (h : ∀ o ∈ μ, cloO μ.length o = true) (B : Bx k o) : ∀ p ∈ μ.set n o, cloO μ.length p = true := fun p hp => by
  rcases List.mem_or_eq_of_mem_set hp with h1 | rfl
  · exact h p h1
  · exact B.clo _
theorem nr_of {x : Str} {ks : List Str} (h : ∀ y ∈ ks, Wd y) (hx : x ∈ ks) : x.length ≤ 8 := by rw [← tl_len]; exact (h x hx).2.1
def lets (ks : List Nat) : List Str := ks.map fun c => ⟨#[c]⟩
theorem tl_lets (ks : List Nat) : ((lets ks).map tl).flatten = ks := by
  induction ks with
  | nil => rfl
  | cons k r ih => simp only [lets, List.map_cons, List.flatten_cons] at ih ⊢; rw [ih]; rfl
theorem sum_lets (ks : List Nat) : ((lets ks).map (·.length)).sum = ks.length := by
  induction ks with
  | nil => rfl
  | cons k r ih => simp only [lets, List.map_cons, List.sum_cons] at ih ⊢; rw [ih]; simp [Str.length]; omega
theorem abc_small : ∀ c ∈ tl abc, c < 0x110000 := by decide +kernel
theorem Wd.real {x : Str} (h : Wd x) : x.cps.all (· < 0x110000) = true := by
  rw [Array.all_eq_true_iff_forall_mem]
  intro c hc
  exact decide_eq_true (abc_small c (h.2.2 c (by simpa using hc)))
theorem glue_wd {y x : Str} (hy : Wd y) (hx : Wd x) : Wd (cutS (y ++ x) none (some 8)) := by
  obtain ⟨y1, y2, y3⟩ := hy
  obtain ⟨x1, x2, x3⟩ := hx
  have e : tl (cutS (y ++ x) none (some 8)) = (tl y ++ tl x).take 8 := by rw [tl_cut_take (by decide), tl_append]; rfl
  refine ⟨?_, ?_, fun c hc => ?_⟩
  · rw [e, List.length_take, List.length_append]; omega
  · rw [e, List.length_take]; omega
  · rw [e] at hc
    rcases List.mem_append.mp (List.mem_of_mem_take hc) with h | h
    · exact y3 c h
    · exact x3 c h
theorem noN_wd : ∀ x ∈ noN, Wd x := by
  intro x hx
  rw [← wdB_iff]
  simp only [noN, List.mem_cons, List.mem_nil_iff, or_false] at hx
  rcases hx with rfl | rfl | rfl | rfl | rfl | rfl | rfl | rfl | rfl | rfl | rfl | rfl <;> decide +kernel
section
variable {μ : Store} {n k : Nat} {o : Ob} {Q : D → Store → Prop} {E : XP}
theorem kept_eq : m__law_kept_out [] μ = .ok (.lst (noN.map .str)) μ := by
  refine Wp.eq ?_
  rw [m__law_kept_out, b__law_kept_out, wp_runB]
  simp -dsimp [noN]
end
end KK
/-! text S3 -/
namespace KK
open PySem PySem.Spec PyProof.Rows L2 DL TL
/-- a list of texts, whatever the box of draws holds -/
structure Fd (μ : Store) (n : Nat) (f : D) (ks : List Str) : Prop where
  get : ∀ o, getS (μ.set n o) f = some (ks.map .str)
  nil : ∀ o, oEq f (.lst []) (μ.set n o) = some (.bl ks.isEmpty, μ.set n o)
theorem Fd.lst {μ : Store} {n : Nat} {ks : List Str} : Fd μ n (.lst (ks.map .str)) ks := ⟨fun _ => rfl, fun o => by rw [ev_eqNil rfl]; simp⟩
theorem Fd.loc {μ : Store} {n m : Nat} {ks : List Str} (h : μ[m]? = some (.lst (ks.map .str))) (hm : m ≠ n) : Fd μ n (.loc m) ks := by
  have e : ∀ o, (μ.set n o)[m]? = some (.lst (ks.map .str)) := fun o => by rw [List.getElem?_set_ne (Ne.symm hm)]; exact h
  exact ⟨fun o => getS_loc (e o), fun o => by rw [ev_eqNilLoc (e o)]; simp⟩
theorem cut8_wd {x : Str} (h1 : 1 ≤ (tl x).length) (h : ∀ c ∈ tl x, c ∈ tl abc) : Wd (cutS x none (some 8)) := by
  have e : tl (cutS x none (some 8)) = (tl x).take 8 := by rw [tl_cut_take (by decide)]; rfl
  exact ⟨by rw [e, List.length_take]; omega, by rw [e, List.length_take]; omega, fun c hc => by rw [e] at hc; exact h c (List.mem_of_mem_take hc)⟩
section
variable {μ : Store} {n k : Nat} {o : Ob} {Q : D → Store → Prop} {E : XP}
/-- words that may be names -/
def wrds : List Str := ["columns", "cells", "row", "later", "kept", "value", "times", "lowest", "told", "ask", "test", "word"]
theorem wrds_wd : ∀ x ∈ wrds, Wd x := by
  intro x hx
  rw [← wdB_iff]
  simp only [wrds, List.mem_cons, List.mem_nil_iff, or_false] at hx
  rcases hx with rfl | rfl | rfl | rfl | rfl | rfl | rfl | rfl | rfl | rfl | rfl | rfl <;> decide +kernel
theorem name_wp {f : D} {ks : List Str} (hn : n < μ.length) (B : Bx k o) (hk : k < 790000) (F : Fd μ n f ks) (hw : ∀ y ∈ ks, Wd y) (hl : ks.length ≤ 8) (q : ∀ (z : Str) (o' : Ob), Nm z → z ∉ ks → Bx (k + 12) o' → Q (.str z) (μ.set n o')) : Wp (m__law_name [.loc n, f] (μ.set n o)) Q E := by
  rw [m__law_name, b__law_name, wp_runB]
  simp -dsimp [startD, -wps_if, -wp_m1s]
  refine take_wp hn B (by omega) (by decide) (by decide) fun way o1 w0 w1 B1 => ?_
  try simp -dsimp [-wps_if]
  rw [lc_src]
  try simp -dsimp [-wps_if]
  refine take_wp hn B1 (by omega) (by decide) (by decide) fun v o2 v0 v1 B2 => ?_
  try simp -dsimp [-wps_if]
  refine An.mk (by omega) ?_
  refine wp_lc its_K_rng (cap_small (by simp; omega)) (fun j acc μ' => ∃ (cs : List Nat) (o : Ob), acc = (lets cs).map .str ∧ μ' = μ.set n o ∧ Bx (k + 2 + j) o ∧ cs.length = j ∧ ∀ c ∈ cs, c ∈ tl abc) ⟨[], o2, rfl, rfl, B2, rfl, by simp⟩ ?_ ?_
  · intro j d' acc μ' hd' _ ⟨cs, o2, ha, hμ, B2, hcl, hca⟩
    subst hμ; subst ha
    have hj : j < (1 + v).toNat := by
      have := (List.getElem?_eq_some_iff.mp hd').1
      simpa using this
    simp -dsimp [wipeD]
    refine take_wp hn B2 (by omega) (by decide) (by decide) fun u o3 u0 u1 B3 => ?_
    try simp -dsimp
    refine wp_sign (by rw [show (Str.ofString "abcdefghijklmnopqrstuvwxyz") = abc from rfl, abc_length]; decide) u0 (by rw [show (Str.ofString "abcdefghijklmnopqrstuvwxyz") = abc from rfl, abc_length]; omega) fun c hc => ?_
    exact Th.mk ⟨cs ++ [c], o3, by simp [lets], rfl, B3.mono (by omega), by simp [hcl], fun x hx => by
      rcases List.mem_append.mp hx with h | h
      · exact hca x h
      · rw [List.mem_singleton.mp h]; exact hc⟩
  intro acc μ' ⟨cs, o3, ha, hμ, B3, hcl, hca⟩
  subst hμ; subst ha
  simp only [List.length_map, List.length_range] at B3 hcl
  try simp -dsimp [-wps_if]
  rw [ev_join0 (ks := lets cs) (by rw [sum_lets]; omega) rfl]
  try simp -dsimp [-wps_if]
  generalize hx : Txt.join (Str.ofString "") (lets cs) = x
  have e : tl x = cs := by rw [← hx, tl_join0, tl_lets]
  have hx : Wd x := ⟨by rw [e]; omega, by rw [e]; omega, by rw [e]; exact hca⟩
  -- another name with letters behind it
  refine WpS.cut (N' := fun σ μ' => ∃ (x : Str), Wd x ∧ σ = [some (.loc n), some f, some (.int way), some (.str x), none, none, none, none] ∧ μ' = μ.set n o3) ?_ ?_
  · simp -dsimp
    refine Br.of (fun h => ?_) fun h => ?_
    · simp -dsimp
      rw [ev_ne (F.nil o3)]
      simp -dsimp
      refine Br.of (fun h2 => ?_) fun h2 => ?_
      · obtain ⟨ys, y, hks⟩ : ∃ ys y, ks = ys ++ [y] := by
          rcases List.eq_nil_or_concat ks with rfl | ⟨ys, y, rfl⟩
          · simp at h2
          · exact ⟨ys, y, by simp⟩
        have hy : Wd y := hw y (by rw [hks]; simp)
        have l1 := hy.2.1
        have l2 := hx.2.1
        rw [tl_len] at l1 l2
        try simp -dsimp
        rw [ev_idx (x := .str y) (F.get o3) (by rw [hks, List.map_append]; exact atI_last _ _)]
        try simp -dsimp
        rw [ev_addS (by omega)]
        try simp -dsimp
        have l3 : (y ++ x).length ≤ 1000 := by rw [← tl_len, tl_append, List.length_append, tl_len, tl_len]; omega
        rw [ev_slS l3]
        try simp -dsimp
        exact Th.mk ⟨_, glue_wd hy hx, rfl, rfl⟩
      · simp -dsimp
        exact Th.mk ⟨x, hx, rfl, rfl⟩
    · simp -dsimp
      exact Th.mk ⟨x, hx, rfl, rfl⟩
  intro σ μ' ⟨x, hx, hσ, hμ⟩
  subst hσ; subst hμ
  try simp -dsimp [-wps_if]
  refine WpS.cut (N' := fun σ μ' => ∃ (x : Str) (o : Ob), Wd x ∧ σ = [some (.loc n), some f, some (.int way), some (.str x), none, none, none, none] ∧ μ' = μ.set n o ∧ Bx (k + 11) o) ?_ ?_
  · simp -dsimp
    refine Br.of (fun h => ?_) fun h => ?_
    · simp -dsimp [kept_eq]
      refine take_wp hn B3 (by omega) (by decide) (by decide) fun u o5 u0 u1 B5 => ?_
      try simp -dsimp
      refine wp_menu rfl u0 (by simp [noN]; omega) fun y hy => ?_
      obtain ⟨y, hy', rfl⟩ := List.mem_map.mp hy
      have hy := noN_wd y hy'
      have l1 := hy.2.1
      have l2 := hx.2.1
      rw [tl_len] at l1 l2
      try simp -dsimp
      rw [ev_addS (by omega)]
      try simp -dsimp
      have l3 : (y ++ x).length ≤ 1000 := by rw [← tl_len, tl_append, List.length_append, tl_len, tl_len]; omega
      rw [ev_slS l3]
      try simp -dsimp
      exact Th.mk ⟨_, o5, glue_wd hy hx, rfl, rfl, B5.mono (by omega)⟩
    · simp -dsimp
      exact Th.mk ⟨x, o3, hx, rfl, rfl, B3.mono (by omega)⟩
  intro σ μ' ⟨x, o4, hx, hσ, hμ, B4⟩
  subst hσ; subst hμ
  try simp -dsimp [-wps_if]
  refine WpS.cut (N' := fun σ μ' => ∃ (x : Str) (o : Ob), Wd x ∧ σ = [some (.loc n), some f, some (.int way), some (.str x), none, none, none, none] ∧ μ' = μ.set n o ∧ Bx (k + 12) o) ?_ ?_
  · simp -dsimp
    refine Br.of (fun h => ?_) fun h => ?_
    · simp -dsimp
      refine take_wp hn B4 (by omega) (by decide) (by decide) fun u o5 u0 u1 B5 => ?_
      try simp -dsimp
      refine wp_menu (xs := wrds.map .str) rfl u0 (by simp [wrds]; omega) fun y hy => ?_
      obtain ⟨y, hy', rfl⟩ := List.mem_map.mp hy
      try simp -dsimp
      exact Th.mk ⟨y, o5, wrds_wd y hy', rfl, rfl, B5⟩
    · simp -dsimp
      exact Th.mk ⟨x, o4, hx, rfl, rfl, B4.mono (by omega)⟩
  intro σ μ' ⟨x, o6, hx, hσ, hμ, B6⟩
  subst hσ; subst hμ
  have l2 := hx.2.1
  rw [tl_len] at l2
  try simp -dsimp
  refine Wp.of (lc_map (xs := tl qwe) (enc := fun c => .str ⟨#[c]⟩) (fun c => .str (lastly x c)) (its_st rfl).w (by rw [qwe_len]; exact cap_small (by decide)) fun c hc => ?_) ?_
  · simp -dsimp [wipeD]
    rw [ev_slS (by omega)]
    try simp -dsimp
    have l3 : (cutS x none (some (-1))).length ≤ x.length := cutS_length _ _ _
    have l4 : (⟨#[c]⟩ : Str).length = 1 := rfl
    rw [ev_addS (by omega)]
    simp -dsimp [lastly]
  have e : [D.str x] ++ (tl qwe).map (fun c => D.str (lastly x c)) = (frees x).map D.str := by simp [frees, List.map_map, Function.comp_def]
  rw [ev_addL (by simp only [List.length_map, List.length_cons, List.length_nil, qwe_len]; decide), e]
  try simp -dsimp
  refine Wp.of (lc_filter (fun y => !decide (y ∈ ks) && !decide (y ∈ noN)) D.str (its_sq rfl rfl).w (by simp only [frees, List.length_cons, List.length_map, qwe_len]; exact cap_small (by decide)) fun y hy => ?_) ?_
  · have hy8 := (frees_wd hx y hy).2.1
    rw [tl_len] at hy8
    simp -dsimp [wipeD]
    rw [ev_ninS (ks := ks) (F.get o6)]
    simp -dsimp [kept_eq]
    refine Br.of (fun h => ?_) fun h => ?_
    · simp -dsimp [kept_eq]
      rw [ev_ninS (ks := noN) rfl]
      simp -dsimp [h]
    · simp -dsimp [h]
  · obtain ⟨z, zs, e1, z1, z2, z3⟩ := frees_first x ks hl
    rw [e1]
    try simp -dsimp
    rw [ev_idx (x := .str z) rfl (atI_zero _ _)]
    try simp -dsimp
    exact q z o6 ⟨frees_wd hx z z1, z3⟩ z2 B6
/-- so many names -/
theorem names_wp {many : Nat} (hc : ∀ o ∈ μ, cloO μ.length o = true) (hn : n < μ.length) (B : Bx k o) (hk : k < 700000) (hm : many ≤ 4)
    (q : ∀ (ks : List Str) (o' : Ob), ks.length = many → ks.Nodup → (∀ x ∈ ks, Nm x) → Bx (k + 12 * many) o' → Q (.lst (ks.map .str)) (μ.set n o')) : Wp (m__law_names [.loc n, .int many] (μ.set n o)) Q E := by
  rw [m__law_names, b__law_names]
  refine wp_runS_last ?_
  have hl : (μ.set n o).length = μ.length := List.length_set
  have hM : ∀ l, (μ ++ [l]).length = μ.length + 1 := fun l => by simp
  have hnM : ∀ l, n < (μ ++ [l]).length := fun l => by rw [hM]; omega
  rw [hl]
  simp -dsimp [startD]
  refine wp_for (its_rng (n := many) rfl (by omega)) (fun i σ μ' => ∃ (ks : List Str) (o : Ob) (x3 : Option D), σ = [some (.loc n), some (.int many), some (.loc μ.length), x3] ∧ μ' = (μ ++ [Ob.lst (ks.map .str)]).set n o ∧ Bx (k + 12 * i) o ∧ ks.length = i ∧ ks.Nodup ∧ ∀ x ∈ ks, Nm x) ⟨[], o, _, rfl, (own_out hn).symm, B, rfl, List.nodup_nil, by simp⟩ ?_ ?_
  · intro i d σ μ' hd ⟨ks, o, x3, hσ, hμ, B, hl, hnd, hnm⟩
    have hi : i < many := by
      have := (List.getElem?_eq_some_iff.mp hd).1
      simpa using this
    subst hσ; subst hμ
    simp -dsimp
    rw [An_of (isLst_loc (own_get hn))]
    try simp -dsimp
    refine name_wp (hnM _) B (by omega) (Fd.loc (ks := ks) (by rw [List.getElem?_append_right (Nat.le_refl _)]; simp) (by omega)) (fun y hy => (hnm y hy).1) (by omega) fun z o2 hz hzk B2 => ?_
    try simp -dsimp
    rw [ev_append (own_get hn) (by simp; omega)]
    try simp -dsimp
    rw [own_set hn]
    exact Th.mk ⟨ks ++ [z], o2, _, rfl, by simp, B2.mono (by omega), by simp [hl], by
      rw [List.nodup_append]
      exact ⟨hnd, by simp, fun a ha b hb => by rw [List.mem_singleton.mp hb]; exact fun e => hzk (e ▸ ha)⟩, fun w hw => by
      rcases List.mem_append.mp hw with h | h
      · exact hnm w h
      · rw [List.mem_singleton.mp h]; exact hz⟩
  · intro σ μ' ⟨ks, o, x3, hσ, hμ, B, hl, hnd, hnm⟩
    subst hσ; subst hμ
    try simp -dsimp
    exact Th.mk ⟨μ.set n o, ks.map .str, [], rfl, own_out hn, List.length_set, clos_strs _ _, set_clo hc B, q ks o (by simpa using hl) hnd hnm (by simpa using B)⟩
end
end KK
/-! text S4 -/
namespace KK
open PySem PySem.Spec PyProof.Rows L2 DL TL
section
variable {μ : Store} {d : D} {a : Ty}
theorem is_listed_ty (ht : typeD μ d = some a) (ha : a ∈ tyL) : m_is_listed [d] μ = .ok (.bl (decide (a = .b "list" ∨ a = .b "tuple"))) μ := by
  refine Wp.eq ?_
  rw [m_is_listed, b_is_listed, wp_runB]
  simp only [tyL, List.mem_cons, List.mem_nil_iff, or_false] at ha
  rcases ha with rfl | rfl | rfl | rfl | rfl | rfl | rfl | rfl <;> simp -dsimp [ht]
theorem is_word_ty (ht : typeD μ d = some a) (ha : a ∈ tyL) (hs : a ≠ .b "str") : m_is_word [d] μ = .ok (.bl false) μ := by
  refine Wp.eq ?_
  rw [m_is_word, b_is_word, wp_runB]
  simp only [tyL, List.mem_cons, List.mem_nil_iff, or_false] at ha
  rcases ha with rfl | rfl | rfl | rfl | rfl | rfl | rfl | rfl <;> first | exact absurd rfl hs | simp -dsimp [ht]
theorem is_name_ty (ht : typeD μ d = some a) (ha : a ∈ tyL) (hs : a ≠ .b "str") : m_is_name [d] μ = .ok (.bl false) μ := by
  refine Wp.eq ?_
  rw [m_is_name, b_is_name, wp_runB]
  simp -dsimp [is_word_ty ht ha hs]
theorem is_tuple_of_ty {n : Int} (ht : typeD μ d = some a) (ha : a ∈ tyL) (hs : a ≠ .b "tuple") : m_is_tuple_of [d, .int n] μ = .ok (.bl false) μ := by
  refine Wp.eq ?_
  rw [m_is_tuple_of, b_is_tuple_of, wp_runB]
  simp only [tyL, List.mem_cons, List.mem_nil_iff, or_false] at ha
  rcases ha with rfl | rfl | rfl | rfl | rfl | rfl | rfl | rfl <;> first | exact absurd rfl hs | simp -dsimp [ht]
end
theorem is_word_str {μ : Store} {x : Str} (h : x.length ≤ 1000) : m_is_word [.str x] μ = .ok (.bl (wdB x)) μ := by
  refine Wp.eq ?_
  rw [m_is_word, b_is_word, wp_runB]
  simp -dsimp
  rw [ev_lenS h]
  simp -dsimp
  refine Br.of (fun h1 => ?_) fun h1 => ?_
  · simp -dsimp
    refine Br.of (fun h2 => ?_) fun h2 => ?_
    · simp -dsimp
      refine Wp.of (lc_map (xs := tl x) (enc := fun c => .str ⟨#[c]⟩) (fun c => .bl (decide (c ∈ tl abc))) (its_st rfl).w (cap_small (by rw [tl_len]; exact h)) fun c hc => ?_) ?_
      · simp -dsimp [wipeD, ev_inC]; rfl
      · simp only [decide_eq_true_eq] at h1 h2
        have a1 : 1 ≤ x.length := by omega
        have a2 : x.length ≤ 8 := by omega
        simp -dsimp [wdB, a1, a2]
    · simp only [decide_eq_false_iff_not] at h2
      have a2 : ¬ x.length ≤ 8 := by omega
      simp -dsimp [wdB, a2]
  · simp only [decide_eq_false_iff_not] at h1
    have a1 : ¬ 1 ≤ x.length := by omega
    simp -dsimp [wdB, a1]
/-- whether a value is a name -/
def nmB : D → Bool
  | .str x => wdB x && !decide (x ∈ noN)
  | _ => false
theorem nmB_iff {x : Str} : nmB (.str x) = true ↔ Nm x := by
  simp only [nmB, Nm, Bool.and_eq_true, wdB_iff, Bool.not_eq_true', decide_eq_false_iff_not]
/-- a text of some length, or a value of a known type that is no text -/
def It (μ : Store) (x : D) : Prop := (∃ s : Str, x = .str s ∧ s.length ≤ 1000) ∨ ∃ a, typeD μ x = some a ∧ a ∈ tyL ∧ a ≠ .b "str"
theorem It.no {μ : Store} {x : D} {a : Ty} (h : typeD μ x = some a) (ha : a ∈ tyL) (hs : a ≠ .b "str") : nmB x = false := by
  cases x with
  | str s => simp at h; exact absurd h.symm hs
  | _ => rfl
theorem is_name_it {μ : Store} {d : D} (h : It μ d) : m_is_name [d] μ = .ok (.bl (nmB d)) μ := by
  rcases h with ⟨s, rfl, hs⟩ | ⟨a, ht, ha, hs⟩
  · refine Wp.eq ?_
    rw [m_is_name, b_is_name, wp_runB]
    simp -dsimp [is_word_str hs]
    refine Br.of (fun h1 => ?_) fun h1 => ?_
    · simp -dsimp
      rw [ev_ninS (ks := noN) rfl]
      simp -dsimp [nmB, h1]
    · simp -dsimp [nmB, h1]
  · rw [is_name_ty ht ha hs, It.no ht ha hs]
theorem are_unlike_eq {μ : Store} {d : D} {ks : List Str} (h : getS μ d = some (ks.map D.str)) (hl : ks.length ≤ 1000) (hd : oLen [d] μ = some (.int ks.length, μ)) : m_are_unlike [d] μ = .ok (.bl (decide ks.Nodup)) μ := by
  refine Wp.eq ?_
  rw [m_are_unlike, b_are_unlike, wp_runB]
  simp -dsimp
  rw [ev_lenSetS h hl]
  simp -dsimp [hd]
  rw [← Int.natCast_inj, seen_str]
/-- the texts of a list that has nothing else -/
theorem strs_of : ∀ {xs : List D}, (∀ x ∈ xs, nmB x = true) → ∃ ks : List Str, xs = ks.map D.str ∧ ∀ x ∈ ks, Nm x
  | [], _ => ⟨[], rfl, by simp⟩
  | x :: xs, h => by
    obtain ⟨ks, e, hk⟩ := strs_of fun y hy => h y (List.mem_cons_of_mem _ hy)
    have hx := h x List.mem_cons_self
    cases x with
    | str s => exact ⟨s :: ks, by rw [e]; rfl, fun y hy => by
        rcases List.mem_cons.mp hy with rfl | hy
        · exact nmB_iff.mp hx
        · exact hk y hy⟩
    | _ => simp [nmB] at hx
/-- whether items are so many different names -/
def namesB (xs : List D) : Bool := decide (1 ≤ xs.length) && decide (xs.length ≤ 4) && xs.all nmB && (match strs? xs with | some ks => decide ks.Nodup | none => false)
theorem aun_eq {μ : Store} {d : D} {xs : List D} (hd : getS μ d = some xs) (hl : m_is_listed [d] μ = .ok (.bl true) μ) (hn : oLen [d] μ = some (.int xs.length, μ)) (hb : ∀ x ∈ xs, It μ x) (hz : xs.length ≤ 1000) :
    m_are_unlike_names [d, .int 1, .int 4] μ = .ok (.bl (namesB xs)) μ := by
  refine Wp.eq ?_
  rw [m_are_unlike_names, b_are_unlike_names, wp_runB]
  simp -dsimp [hl, hn]
  refine Br.of (fun h1 => ?_) fun h1 => ?_
  · simp -dsimp [hn]
    refine Br.of (fun h2 => ?_) fun h2 => ?_
    · simp only [decide_eq_true_eq] at h1
      simp at h2
      simp -dsimp [namesB]
      have a2 : ¬ xs.length ≤ 4 := by omega
      simp -dsimp [a2]
    · simp only [decide_eq_true_eq] at h1
      simp at h2
      have a1 : 1 ≤ xs.length := by omega
      have a2 : xs.length ≤ 4 := by omega
      simp -dsimp
      refine Wp.of (lc_map (xs := xs) (enc := fun x => x) (fun x => .bl (nmB x)) (by rw [List.map_id']; exact its_any rfl hd) (cap_small hz) fun x hx => ?_) ?_
      · simp -dsimp [wipeD, is_name_it (hb x hx)]
      · simp -dsimp
        refine Br.of (fun h3 => ?_) fun h3 => ?_
        · obtain ⟨ks, e, hk⟩ := strs_of (fun x hx => List.all_eq_true.mp h3 x hx)
          subst e
          rw [List.length_map] at hn hz
          simp -dsimp [are_unlike_eq hd hz hn, namesB, a1, a2, h3]
          simp at a1 a2 h3
          simp [a1, a2, h3]
        · simp -dsimp [namesB, h3]
  · simp only [decide_eq_false_iff_not] at h1
    have a1 : ¬ 1 ≤ xs.length := by omega
    simp -dsimp [namesB, a1]
theorem aun_no {μ : Store} {d : D} {a : Ty} (ht : typeD μ d = some a) (ha : a ∈ tyL) (h1 : a ≠ .b "list") (h2 : a ≠ .b "tuple") : m_are_unlike_names [d, .int 1, .int 4] μ = .ok (.bl false) μ := by
  refine Wp.eq ?_
  rw [m_are_unlike_names, b_are_unlike_names, wp_runB]
  simp -dsimp [is_listed_ty ht ha, h1, h2]
/-- a form of these columns -/
def formD (ks : List Str) : D := .ins 61 ["columns", "places"] [.tup (ks.map .str), .dK (ks.map .inr) ((List.range ks.length).map fun (i : Nat) => .int i)]
theorem fld_columns {ks : List Str} {μ : Store} : getF atT "columns" (formD ks) μ = some (.tup (ks.map .str)) := by
  simp only [formD, getF, at_61_columns, if_true]; rfl
theorem fld_places {ks : List Str} {μ : Store} : getF atT "places" (formD ks) μ = some (.dK (ks.map .inr) ((List.range ks.length).map fun (i : Nat) => .int i)) := by
  simp only [formD, getF, at_61_places, if_true]; rfl
theorem ty_form {ks : List Str} {μ : Store} : typeD μ (formD ks) = some (.c 61) := rfl
theorem nodup_inr {ks : List Str} (h : ks.Nodup) : (ks.map (Sum.inr : Str → Key)).Nodup := nodup_map (fun a b e => by injection e) h
theorem zip_fst (ks : List Str) : ks.zipIdx.map (fun p => (Sum.inr p.1 : Key)) = ks.map .inr := by
  apply List.ext_getElem
  · simp
  · intro i h1 h2; simp
theorem zip_snd (ks : List Str) : ks.zipIdx.map (fun p => D.int p.2) = (List.range ks.length).map fun (i : Nat) => .int i := by
  apply List.ext_getElem
  · simp
  · intro i h1 h2; simp
theorem form_init {μ : Store} {d : D} {ks : List Str} (ha : m_are_unlike_names [d, .int 1, .int 4] (μ ++ [.ins 61 [] []]) = .ok (.bl true) (μ ++ [.ins 61 [] []])) (ht : oTupOf [d] (μ ++ [.ins 61 [] []]) = some (.tup (ks.map .str), μ ++ [.ins 61 [] []])) (hn : ks.Nodup) (hz : ks.length ≤ 1000) :
    m_Form___init__ [.loc μ.length, d] (μ ++ [.ins 61 [] []]) = .ok .non (μ ++ [.ins 61 ["columns", "places"] [.tup (ks.map .str), .dK (ks.map .inr) ((List.range ks.length).map fun (i : Nat) => .int i)]]) := by
  have ne : ¬ (("columns" : Str) = "places") := by decide
  refine Wp.is ?_
  rw [m_Form___init__, b_Form___init__, wp_runB]
  simp -dsimp [ha, ht, setF_own at_61_columns, putD]
  refine Wp.of (dc_nodup (src := .en (.tup (ks.map .str))) (xs := ks.zipIdx) (enc := fun p => .tup [.int p.2, .str p.1]) (fun p => .inr p.1) (fun p => .int p.2) ?_ (cap_small (by simpa using hz)) (by rw [zip_fst]; exact nodup_inr hn) fun p hp => ?_) ?_
  · have := its_enW (fa := fFld atT "columns" (fV 0)) (σ := [some (.loc μ.length), some d, none, none]) (μ := μ ++ [.ins 61 ["columns"] [.tup (ks.map .str)]]) (d := .tup (ks.map .str)) (xs := ks.map .str) (by
      refine Wp.eq ?_
      simp -dsimp [getF_own at_61_columns]) rfl
    rw [List.zipIdx_map, List.map_map] at this
    exact this
  · simp -dsimp [wipeD]
    rfl
  · simp -dsimp [setF_own at_61_places, putD, ne]
    rw [zip_fst, zip_snd]
    exact ⟨rfl, rfl⟩
theorem form_no {μ : Store} {d : D} (ha : m_are_unlike_names [d, .int 1, .int 4] (μ ++ [.ins 61 [] []]) = .ok (.bl false) (μ ++ [.ins 61 [] []])) :
    m_Form___init__ [.loc μ.length, d] (μ ++ [.ins 61 [] []]) = .exc 1 (some d) (μ ++ [.ins 61 [] []]) := by
  refine Wp.is ?_
  rw [m_Form___init__, b_Form___init__, wp_runB]
  simp -dsimp [ha]
/-- the names of a form -/
theorem namesB_ok {ks : List Str} (h1 : 1 ≤ ks.length) (h2 : ks.length ≤ 4) (h3 : ks.Nodup) (h4 : ∀ x ∈ ks, Nm x) : namesB (ks.map .str) = true := by
  have : (ks.map D.str).all nmB = true := by
    rw [List.all_eq_true]
    intro x hx
    obtain ⟨s, hs, rfl⟩ := List.mem_map.mp hx
    exact nmB_iff.mpr (h4 s hs)
  simp only [namesB, List.length_map, h1, h2, this, DL.strs_map, h3, decide_true, Bool.and_self]
theorem Nm.len {x : Str} (h : Nm x) : x.length ≤ 8 := by rw [← tl_len]; exact h.1.2.1
theorem it_names {ks : List Str} (h : ∀ x ∈ ks, Nm x) {μ : Store} : ∀ x ∈ ks.map D.str, It μ x := fun x hx => by
  obtain ⟨s, hs, rfl⟩ := List.mem_map.mp hx
  exact .inl ⟨s, rfl, by have := (h s hs).len; omega⟩
theorem form_clo {ks : List Str} (n : Nat) : clo n (formD ks) = true := by
  simp only [formD, clos, clo, clos_strs, Bool.true_and, Bool.and_true]
  exact clos_all fun x hx => by
    obtain ⟨i, _, rfl⟩ := List.mem_map.mp hx
    rfl
/-- a list or a tuple, standing or not, of these items -/
def Sq (μ : Store) (d : D) (xs : List D) : Prop := d = .lst xs ∨ d = .tup xs ∨ ∃ m, d = .loc m ∧ μ[m]? = some (.lst xs)
theorem Sq.get {μ : Store} {d : D} {xs : List D} (h : Sq μ d xs) : getS μ d = some xs := by
  rcases h with rfl | rfl | ⟨m, rfl, h⟩
  · rfl
  · rfl
  · exact getS_loc h
theorem Sq.len {μ : Store} {d : D} {xs : List D} (h : Sq μ d xs) : oLen [d] μ = some (.int xs.length, μ) := by
  rcases h with rfl | rfl | ⟨m, rfl, h⟩
  · rfl
  · rfl
  · exact ev_lenLoc h
theorem Sq.tup {μ : Store} {d : D} {xs : List D} (h : Sq μ d xs) : oTupOf [d] μ = some (.tup xs, μ) := by
  rcases h with rfl | rfl | ⟨m, rfl, h⟩
  · rfl
  · rfl
  · exact ev_tupLoc h
theorem Sq.lis {μ : Store} {d : D} {xs : List D} (h : Sq μ d xs) : m_is_listed [d] μ = .ok (.bl true) μ := by
  rcases h with rfl | rfl | ⟨m, rfl, h⟩
  · exact is_listed_ty (a := .b "list") rfl (by decide)
  · exact is_listed_ty (a := .b "tuple") rfl (by decide)
  · exact is_listed_ty (ty_loc h) (by decide)
theorem Sq.app {μ ν : Store} {d : D} {xs : List D} (h : Sq μ d xs) : Sq (μ ++ ν) d xs := by
  rcases h with h | h | ⟨m, rfl, h⟩
  · exact .inl h
  · exact .inr (.inl h)
  · exact .inr (.inr ⟨m, rfl, by rw [List.getElem?_append_left (List.getElem?_eq_some_iff.mp h).1]; exact h⟩)
/-- Form(names) -/
theorem form_mk {μ : Store} {d : D} {ks : List Str} (hd : Sq μ d (ks.map .str)) (h1 : 1 ≤ ks.length) (h2 : ks.length ≤ 4) (h3 : ks.Nodup) (h4 : ∀ x ∈ ks, Nm x) (hc : ∀ o ∈ μ, cloO μ.length o = true) :
    mkR false μ.length (m_Form___init__ [.loc μ.length, d] (μ ++ [.ins 61 [] []])) = .ok (formD ks) μ := by
  have S : Sq (μ ++ [.ins 61 [] []]) d (ks.map .str) := hd.app
  have ha : m_are_unlike_names [d, .int 1, .int 4] (μ ++ [.ins 61 [] []]) = .ok (.bl true) (μ ++ [.ins 61 [] []]) := by
    rw [aun_eq S.get S.lis S.len (it_names h4) (by simp; omega), namesB_ok h1 h2 h3 h4]
  refine mk_ok (form_init ha S.tup h3 (by omega)) rfl ?_ hc
  have := form_clo (ks := ks) μ.length
  rw [formD, clo] at this
  exact this
end KK
/-! text S5 -/
namespace KK
open PySem PySem.Spec PyProof.Rows L2 DL TL
theorem val_at (x : Str) : ∀ (ks : List Str) (j : Nat), valD ((ks.map (Sum.inr : Str → Key)).zip ((List.range' j ks.length).map fun (i : Nat) => D.int i)) (.inr x) = if x ∈ ks then some (.int ((j + ks.idxOf x : Nat) : Int)) else none
  | [], j => by simp [valD]
  | y :: ys, j => by
    have ih := val_at x ys (j + 1)
    rw [List.length_cons, List.range'_succ, List.map_cons, List.map_cons, List.zip_cons_cons]
    by_cases h : y = x
    · subst h
      simp [valD]
    · have h' : ¬ x = y := fun e => h e.symm
      unfold valD at ih ⊢
      rw [List.find?_cons_of_neg (by simp [h]), ih]
      have e : (y :: ys).idxOf x = ys.idxOf x + 1 := by rw [List.idxOf_cons, show (y == x) = false by simpa using h]; rfl
      by_cases h2 : x ∈ ys
      · rw [if_pos h2, if_pos (List.mem_cons_of_mem _ h2), e]
        congr 3; omega
      · rw [if_neg h2, if_neg (by simp [h', h2])]
theorem dget_form {μ : Store} {ks : List Str} {x : Str} : dget μ (.dK (ks.map .inr) ((List.range ks.length).map fun (i : Nat) => .int i)) (.str x) = some (if x ∈ ks then some (.int (ks.idxOf x : Nat)) else none) := by
  have := val_at x ks 0
  rw [← List.range_eq_range', Nat.zero_add] at this
  have k1 : keyD (.str x) = some (.inr x) := rfl
  simp only [dget, dgetK, getPK, k1, this]
section
variable {μ : Store} {ks : List Str} {d : D} {a : Ty}
theorem is_column_str {x : Str} : m_is_column [formD ks, .str x] μ = .ok (.bl (decide (x ∈ ks))) μ := by
  refine Wp.eq ?_
  rw [m_is_column, b_is_column, wp_runB]
  simp -dsimp [fld_places, oInD, dget_form]
  by_cases h : x ∈ ks <;> simp -dsimp [h]
theorem is_column_ty (ht : typeD μ d = some a) (ha : a ∈ tyL) (hs : a ≠ .b "str") : m_is_column [formD ks, d] μ = .ok (.bl false) μ := by
  refine Wp.eq ?_
  rw [m_is_column, b_is_column, wp_runB]
  simp only [tyL, List.mem_cons, List.mem_nil_iff, or_false] at ha
  rcases ha with rfl | rfl | rfl | rfl | rfl | rfl | rfl | rfl <;> first | exact absurd rfl hs | simp -dsimp [ht]
theorem is_tuple_of_tup {xs : List D} {n : Int} : m_is_tuple_of [.tup xs, .int n] μ = .ok (.bl (decide ((xs.length : Int) = n))) μ := by
  refine Wp.eq ?_
  rw [m_is_tuple_of, b_is_tuple_of, wp_runB]
  simp -dsimp
  rw [Bool.eq_iff_iff, beq_iff_eq, decide_eq_true_iff]
end
end KK
/-! text S6 -/
/-! formulas, their words, and two ways to read them: plain mathematics -/
namespace KK
open PySem PySem.Spec PyProof.Rows L2 DL TL
/-- a formula -/
inductive Fm where
  | leaf (k c : Str)
  | neg (f : Fm)
  | two (w : Str) (f g : Fm)
  deriving Inhabited
def kinds : List Str := ["any", "alike", "unlike", "less", "most", "more", "least"]
def both : List Str := ["all", "some"]
def Fm.words : Fm → List Str
  | .leaf k c => [k, c]
  | .neg f => "not" :: f.words
  | .two w f g => w :: (f.words ++ g.words)
def Fm.dep : Fm → Nat
  | .leaf _ _ => 1
  | .neg f => f.dep + 1
  | .two _ f g => 1 + max f.dep g.dep
/-- on these columns -/
def Fm.Ok (ks : List Str) : Fm → Prop
  | .leaf k c => k ∈ kinds ∧ c ∈ ks
  | .neg f => f.Ok ks
  | .two w f g => w ∈ both ∧ f.Ok ks ∧ g.Ok ks
theorem Fm.pos (f : Fm) : 1 ≤ f.dep := by cases f <;> simp only [Fm.dep] <;> omega
/-- from the first word on: a formula at most so deep, and the words behind it -/
def rd (ks : List Str) : Nat → List Str → Option (Fm × List Str)
  | 0, _ => none
  | _, [] => none
  | n + 1, w :: r => if w ∈ kinds then (match r with
      | c :: r' => if c ∈ ks then some (.leaf w c, r') else none
      | [] => none)
    else if w = "not" then (match rd ks n r with
      | some (f, r1) => some (.neg f, r1)
      | none => none)
    else if w ∈ both then (match rd ks n r with
      | some (f, r1) => (match rd ks n r1 with
        | some (g, r2) => some (.two w f g, r2)
        | none => none)
      | none => none)
    else none
theorem kinds_not : ¬ (("not" : Str) ∈ kinds) := by decide
theorem both_kinds {w : Str} (h : w ∈ both) : w ∉ kinds ∧ w ≠ "not" := by
  simp only [both, List.mem_cons, List.mem_nil_iff, or_false] at h
  rcases h with rfl | rfl <;> decide
theorem rd_sound {ks : List Str} : ∀ {n : Nat} {ws r : List Str} {f : Fm}, rd ks n ws = some (f, r) → ws = f.words ++ r ∧ f.Ok ks ∧ f.dep ≤ n
  | 0, ws, r, f, h => by simp [rd] at h
  | n + 1, [], r, f, h => by simp [rd] at h
  | n + 1, w :: t, r, f, h => by
    unfold rd at h
    split at h
    · rename_i hw
      split at h
      · rename_i c r'
        split at h
        · rename_i hc
          cases h
          exact ⟨rfl, ⟨hw, hc⟩, by simp [Fm.dep]⟩
        · cases h
      · cases h
    · split at h
      · rename_i hw
        split at h
        · rename_i f' r1 e
          cases h
          obtain ⟨h1, h2, h3⟩ := rd_sound e
          exact ⟨by rw [h1, hw]; rfl, h2, by simp only [Fm.dep]; omega⟩
        · cases h
      · split at h
        · rename_i hw
          split at h
          · rename_i f' r1 e
            split at h
            · rename_i g' r2 e2
              cases h
              obtain ⟨h1, h2, h3⟩ := rd_sound e
              obtain ⟨g1, g2, g3⟩ := rd_sound e2
              exact ⟨by rw [h1, g1]; simp [Fm.words], ⟨hw, h2, g2⟩, by simp only [Fm.dep]; omega⟩
            · cases h
          · cases h
        · cases h
theorem rd_of {ks : List Str} : ∀ {f : Fm} {n : Nat} {r : List Str}, f.Ok ks → f.dep ≤ n → rd ks n (f.words ++ r) = some (f, r)
  | .leaf k c, 0, r, _, h => by simp [Fm.dep] at h
  | .leaf k c, n + 1, r, h, _ => by
    simp only [Fm.words, List.cons_append, List.nil_append, rd, if_pos h.1, if_pos h.2]
  | .neg f, 0, r, _, h => by simp [Fm.dep] at h
  | .neg f, n + 1, r, h, d => by
    simp only [Fm.dep] at d
    simp only [Fm.words, List.cons_append, rd, if_neg kinds_not, if_true, rd_of (f := f) (n := n) (r := r) h (by omega)]
  | .two w f g, 0, r, _, h => by simp [Fm.dep] at h
  | .two w f g, n + 1, r, h, d => by
    simp only [Fm.dep] at d
    obtain ⟨h1, h2, h3⟩ := h
    obtain ⟨k1, k2⟩ := both_kinds h1
    simp only [Fm.words, List.cons_append, List.append_assoc, rd, if_neg k1, if_neg k2, if_pos h1, rd_of (f := f) (n := n) (r := g.words ++ r) h2 (by omega), rd_of (f := g) (n := n) (r := r) h3 (by omega)]
/-- what is on the stack -/
inductive Ix where
  | col (c : Str)
  | frm (f : Fm)
  deriving Inhabited
def Ix.lev : Ix → Nat
  | .col _ => 0
  | .frm f => f.dep
def Ix.words : Ix → List Str
  | .col c => [c]
  | .frm f => f.words
def Ix.Ok (ks : List Str) : Ix → Prop
  | .col c => c ∈ ks
  | .frm f => f.Ok ks ∧ f.dep ≤ 6
/-- a word ahead of what stands, the stack's top first -/
def stp (ks : List Str) (s : List Ix) (w : Str) : Option (List Ix) :=
  if w ∈ ks then some (.col w :: s)
  else if w ∈ kinds then (match s with
    | .col c :: r => some (.frm (.leaf w c) :: r)
    | _ => none)
  else if w = "not" then (match s with
    | .frm f :: r => if f.dep + 1 ≤ 6 then some (.frm (.neg f) :: r) else none
    | _ => none)
  else if w ∈ both then (match s with
    | .frm f :: .frm g :: r => if 1 + max f.dep g.dep ≤ 6 then some (.frm (.two w f g) :: r) else none
    | _ => none)
  else none
def bld (ks : List Str) : List Str → Option (List Ix)
  | [] => some []
  | w :: r => match bld ks r with
    | some s => stp ks s w
    | none => none
theorem bld_none {ks : List Str} : ∀ {a r : List Str}, bld ks r = none → bld ks (a ++ r) = none
  | [], r, h => h
  | w :: a, r, h => by simp only [List.cons_append, bld, bld_none (a := a) h]
theorem bld_sound {ks : List Str} : ∀ {ws : List Str} {s : List Ix}, bld ks ws = some s → ws = (s.map Ix.words).flatten ∧ ∀ x ∈ s, x.Ok ks
  | [], s, h => by cases h; exact ⟨rfl, by simp⟩
  | w :: r, s, h => by
    unfold bld at h
    split at h
    · rename_i s' e
      obtain ⟨h1, h2⟩ := bld_sound e
      unfold stp at h
      split at h
      · rename_i hw
        cases h
        exact ⟨by simp [Ix.words, ← h1], fun x hx => by
          rcases List.mem_cons.mp hx with rfl | hx
          · exact hw
          · exact h2 x hx⟩
      · split at h
        · rename_i hw
          split at h
          · rename_i c r'
            cases h
            refine ⟨by rw [h1]; simp [Ix.words, Fm.words], fun x hx => ?_⟩
            rcases List.mem_cons.mp hx with rfl | hx
            · exact ⟨⟨hw, h2 (.col c) List.mem_cons_self⟩, by simp [Fm.dep]⟩
            · exact h2 x (List.mem_cons_of_mem _ hx)
          · cases h
        · split at h
          · rename_i hw
            split at h
            · rename_i f r'
              split at h
              · rename_i hd
                cases h
                refine ⟨by rw [h1, hw]; simp [Ix.words, Fm.words], fun x hx => ?_⟩
                rcases List.mem_cons.mp hx with rfl | hx
                · exact ⟨(h2 (.frm f) List.mem_cons_self).1, hd⟩
                · exact h2 x (List.mem_cons_of_mem _ hx)
              · cases h
            · cases h
          · split at h
            · rename_i hw
              split at h
              · rename_i f g r'
                split at h
                · rename_i hd
                  cases h
                  refine ⟨by rw [h1]; simp [Ix.words, Fm.words], fun x hx => ?_⟩
                  rcases List.mem_cons.mp hx with rfl | hx
                  · exact ⟨⟨hw, (h2 (.frm f) List.mem_cons_self).1, (h2 (.frm g) (List.mem_cons_of_mem _ List.mem_cons_self)).1⟩, hd⟩
                  · exact h2 x (List.mem_cons_of_mem _ (List.mem_cons_of_mem _ hx))
                · cases h
              · cases h
            · cases h
    · cases h
/-- no column is a word of the formulas -/
def Free (ks : List Str) : Prop := ∀ x ∈ ks, x ∉ kinds ∧ x ≠ "not" ∧ x ∉ both
theorem bld_of {ks : List Str} (F : Free ks) : ∀ {f : Fm} {r : List Str} {s : List Ix}, f.Ok ks → f.dep ≤ 6 → bld ks r = some s → bld ks (f.words ++ r) = some (.frm f :: s)
  | .leaf k c, r, s, h, _, e => by
    have hk : k ∉ ks := fun z => (F k z).1 h.1
    simp only [Fm.words, List.cons_append, List.nil_append, bld, e, stp, if_pos h.2, if_neg hk, if_pos h.1]
  | .neg f, r, s, h, d, e => by
    simp only [Fm.dep] at d
    have hk : ("not" : Str) ∉ ks := fun z => (F _ z).2.1 rfl
    simp only [Fm.words, List.cons_append, bld, bld_of F (f := f) (r := r) h (by omega) e, stp, if_neg hk, if_neg kinds_not, if_true, if_pos d]
  | .two w f g, r, s, h, d, e => by
    simp only [Fm.dep] at d
    obtain ⟨h1, h2, h3⟩ := h
    obtain ⟨k1, k2⟩ := both_kinds h1
    have hk : w ∉ ks := fun z => (F _ z).2.2 h1
    simp only [Fm.words, List.cons_append, List.append_assoc, bld, bld_of F (f := f) (r := g.words ++ r) h2 (by omega) (bld_of F (f := g) (r := r) h3 (by omega) e), stp, if_neg hk, if_neg k1, if_neg k2, if_pos h1, if_pos d]
/-- what the last reader tells -/
def last (ks : List Str) (ws : List Str) : Option Fm := match bld ks ws with
  | some [.frm f] => some f
  | _ => none
theorem last_iff {ks : List Str} (F : Free ks) {ws : List Str} {f : Fm} : last ks ws = some f ↔ rd ks 6 ws = some (f, []) := by
  constructor
  · intro h
    unfold last at h
    split at h
    · rename_i f' e
      cases h
      obtain ⟨h1, h2⟩ := bld_sound e
      obtain ⟨h3, h4⟩ := h2 _ List.mem_cons_self
      have := rd_of (r := []) h3 h4
      rw [List.append_nil] at this
      rw [h1]
      simpa [Ix.words] using this
    · cases h
  · intro h
    obtain ⟨h1, h2, h3⟩ := rd_sound h
    have := bld_of F (r := []) (s := []) h2 h3 rfl
    rw [← h1] at this
    simp only [last, this]
theorem last_none {ks : List Str} (F : Free ks) {ws : List Str} (h : last ks ws = none) : rd ks 6 ws = none ∨ ∃ f w r, rd ks 6 ws = some (f, w :: r) := by
  cases e : rd ks 6 ws with
  | none => exact .inl rfl
  | some p =>
    obtain ⟨f, r⟩ := p
    cases r with
    | nil => rw [(last_iff F).mpr e] at h; cases h
    | cons w r => exact .inr ⟨f, w, r, rfl⟩
/-! sizes -/
theorem words_len : ∀ f : Fm, f.words.length + 2 ≤ 2 ^ (f.dep + 1)
  | .leaf _ _ => by simp [Fm.words, Fm.dep]
  | .neg f => by
    have := words_len f
    simp only [Fm.words, Fm.dep, List.length_cons]
    rw [Nat.pow_succ]; have : 2 ≤ 2 ^ (f.dep + 1) := by rw [Nat.pow_succ]; have := Nat.one_le_two_pow (n := f.dep); omega
    omega
  | .two w f g => by
    have h1 := words_len f
    have h2 := words_len g
    have h3 : 2 ^ (f.dep + 1) ≤ 2 ^ (max f.dep g.dep + 1) := Nat.pow_le_pow_right (by decide) (by omega)
    have h4 : 2 ^ (g.dep + 1) ≤ 2 ^ (max f.dep g.dep + 1) := Nat.pow_le_pow_right (by decide) (by omega)
    simp only [Fm.words, Fm.dep, List.length_cons, List.length_append]
    rw [show 1 + max f.dep g.dep + 1 = (max f.dep g.dep + 1) + 1 by omega, Nat.pow_succ 2 (max f.dep g.dep + 1)]
    omega
theorem words_126 {f : Fm} (h : f.dep ≤ 6) : f.words.length ≤ 126 := by
  have := words_len f
  have : 2 ^ (f.dep + 1) ≤ 2 ^ 7 := Nat.pow_le_pow_right (by decide) (by omega)
  omega
theorem words_pos : ∀ f : Fm, 2 ≤ f.words.length
  | .leaf _ _ => by simp [Fm.words]
  | .neg f => by have := words_pos f; simp only [Fm.words, List.length_cons]; omega
  | .two w f g => by have := words_pos f; have := words_pos g; simp only [Fm.words, List.length_cons, List.length_append]; omega
theorem kinds_noN : ∀ x ∈ kinds, x ∈ noN := by decide
theorem both_noN : ∀ x ∈ both, x ∈ noN := by decide
theorem free_of {ks : List Str} (h : ∀ x ∈ ks, Nm x) : Free ks := fun x hx =>
  ⟨fun z => (h x hx).2 (kinds_noN x z), fun z => (h x hx).2 (by rw [z]; decide), fun z => (h x hx).2 (both_noN x z)⟩
theorem word_wd {ks : List Str} (h : ∀ x ∈ ks, Nm x) : ∀ {f : Fm}, f.Ok ks → ∀ x ∈ f.words, Wd x
  | .leaf k c, o, x, hx => by
    simp only [Fm.words, List.mem_cons, List.mem_nil_iff, or_false] at hx
    rcases hx with rfl | rfl
    · exact noN_wd _ (kinds_noN _ o.1)
    · exact (h _ o.2).1
  | .neg f, o, x, hx => by
    simp only [Fm.words, List.mem_cons] at hx
    rcases hx with rfl | hx
    · exact noN_wd _ (by decide)
    · exact word_wd h (f := f) o x hx
  | .two w f g, o, x, hx => by
    simp only [Fm.words, List.mem_cons, List.mem_append] at hx
    rcases hx with rfl | hx | hx
    · exact noN_wd _ (both_noN _ o.1)
    · exact word_wd h (f := f) o.2.1 x hx
    · exact word_wd h (f := g) o.2.2 x hx
/-! as data -/
def fD : Fm → D
  | .leaf k c => .tup [.str k, .str c]
  | .neg f => .tup [.str "not", fD f]
  | .two w f g => .tup [.str w, fD f, fD g]
theorem fD_clo (n : Nat) : ∀ f : Fm, clo n (fD f) = true
  | .leaf _ _ => by simp [fD, clo, clos]
  | .neg f => by simp [fD, clo, clos, fD_clo n f]
  | .two _ f g => by simp [fD, clo, clos, fD_clo n f, fD_clo n g]
theorem fD_ty {μ : Store} (f : Fm) : typeD μ (fD f) = some (.b "tuple") := by cases f <;> rfl
theorem fD_pl : ∀ {f : Fm} {n : Nat}, f.dep ≤ n → pl n (fD f) = true
  | .leaf _ _, 0, h => by simp [Fm.dep] at h
  | .leaf _ _, n + 1, _ => by
    cases n <;> simp [fD, pl, pls]
  | .neg f, 0, h => by simp [Fm.dep] at h
  | .neg f, n + 1, h => by
    simp only [Fm.dep] at h
    have := fD_pl (f := f) (n := n) (by omega)
    cases n with
    | zero => have := f.pos; omega
    | succ n => simp [fD, pl, pls, this]
  | .two w f g, 0, h => by simp [Fm.dep] at h
  | .two w f g, n + 1, h => by
    simp only [Fm.dep] at h
    have h1 := fD_pl (f := f) (n := n) (by omega)
    have h2 := fD_pl (f := g) (n := n) (by omega)
    cases n with
    | zero => have := f.pos; omega
    | succ n => simp [fD, pl, pls, h1, h2]
theorem fD_tx : ∀ {f : Fm}, (∀ x ∈ f.words, Wd x) → tx (fD f) = true
  | .leaf k c, h => by
    simp only [Fm.words, List.mem_cons, List.mem_nil_iff, or_false, forall_eq_or_imp, forall_eq] at h
    simp only [fD, tx, txs, h.1.real, h.2.real, Bool.and_self]
  | .neg f, h => by
    simp only [Fm.words, List.mem_cons, forall_eq_or_imp] at h
    simp only [fD, tx, txs, h.1.real, fD_tx h.2, Bool.and_self]
  | .two w f g, h => by
    simp only [Fm.words, List.mem_cons, forall_eq_or_imp, List.mem_append] at h
    simp only [fD, tx, txs, h.1.real, fD_tx (fun x hx => h.2 x (.inl hx)), fD_tx (fun x hx => h.2 x (.inr hx)), Bool.and_self]
theorem fD_sz : ∀ {f : Fm}, (∀ x ∈ f.words, Wd x) → szD (fD f) + 5 ≤ 100 * f.words.length
  | .leaf k c, h => by
    simp only [Fm.words, List.mem_cons, List.mem_nil_iff, or_false, forall_eq_or_imp, forall_eq] at h
    have h1 := h.1.2.1
    have h2 := h.2.2.1
    rw [tl_len] at h1 h2
    simp only [fD, szD, szDs, Fm.words, List.length_cons, List.length_nil]
    omega
  | .neg f, h => by
    simp only [Fm.words, List.mem_cons, forall_eq_or_imp] at h
    have h1 := h.1.2.1
    rw [tl_len] at h1
    have := fD_sz h.2
    simp only [fD, szD, szDs, Fm.words, List.length_cons]
    omega
  | .two w f g, h => by
    simp only [Fm.words, List.mem_cons, forall_eq_or_imp, List.mem_append] at h
    have h1 := h.1.2.1
    rw [tl_len] at h1
    have h2 := fD_sz (f := f) (fun x hx => h.2 x (.inl hx))
    have h3 := fD_sz (f := g) (fun x hx => h.2 x (.inr hx))
    simp only [fD, szD, szDs, Fm.words, List.length_cons, List.length_append]
    omega
end KK
/-! text S7 -/
/-! the words of a formula, by the program and by the law -/
namespace KK
open PySem PySem.Spec PyProof.Rows L2 DL TL
theorem kK : k_KINDS = kinds := rfl
def ixD : Ix → D
  | .col c => .str c
  | .frm f => fD f
def Fm.hd : Fm → Str
  | .leaf k _ => k
  | .neg _ => "not"
  | .two w _ _ => w
def Fm.parts : Fm → List Ix
  | .leaf _ c => [.col c]
  | .neg f => [.frm f]
  | .two _ f g => [.frm f, .frm g]
theorem fD_parts (f : Fm) : fD f = .tup (.str f.hd :: f.parts.map ixD) := by cases f <;> rfl
theorem words_parts (f : Fm) : f.words = f.hd :: (f.parts.map Ix.words).flatten := by cases f <;> simp [Fm.words, Fm.hd, Fm.parts, Ix.words]
theorem parts_dep {f : Fm} : ∀ {g : Fm}, Ix.frm g ∈ f.parts → g.dep + 1 ≤ f.dep := fun {g} h => by
  cases f with
  | leaf k c => simp [Fm.parts] at h
  | neg f => simp only [Fm.parts, List.mem_singleton] at h; injection h with h; subst h; simp [Fm.dep]
  | two w f f' =>
    simp only [Fm.parts, List.mem_cons, List.mem_nil_iff, or_false] at h
    rcases h with h | h <;> (injection h with h; subst h; simp only [Fm.dep]; omega)
theorem parts_len (f : Fm) : f.parts.length ≤ 2 := by cases f <;> simp [Fm.parts]
theorem its_ok {fa : EF} {σ : Sg} {μ : Store} {d : D} {xs : List D} (h : Wp (fa σ μ) (fun x μ' => x = d ∧ μ' = μ) NoX) (hd : imm d = some xs) : ItsW (iS fa) σ μ (.sq d) xs := (its_sq h.eq hd).w
section
variable {μ : Store} {ks : List Str}
theorem words_of_eq : ∀ {n : Nat} {f : Fm}, f.Ok ks → f.dep ≤ n → f.dep ≤ 6 → m_words_of n [fD f] μ = .ok (.lst (f.words.map .str)) μ
  | 0, f, _, h, _ => by have := f.pos; omega
  | n + 1, .leaf k c, ok, _, _ => by
    refine Wp.eq ?_
    rw [m_words_of, b_words_of, wp_runB, fD]
    simp -dsimp [startD, kK, ok.1, Fm.words]
  | n + 1, .neg f, ok, h, h6 => by
    simp only [Fm.dep] at h h6
    have l6 := words_126 (f := f) (by omega)
    refine Wp.eq ?_
    rw [m_words_of, b_words_of, wp_runB, fD]
    simp -dsimp [startD, kK, kinds_not]
    refine Wp.of (lc2_flat (xs := [f]) (enc := fD) (fun f => f.words.map D.str) (src := .sq (.lst [fD f])) (its_ok (by simp -dsimp) rfl) (by simp; exact cap_small (by omega)) fun x hx => ?_) ?_
    · obtain rfl : x = f := by simpa using hx
      simp -dsimp [wipeD]
      exact ⟨_, its_ok (d := .lst (x.words.map D.str)) (by simp -dsimp [words_of_eq (n := n) (f := x) ok (by omega) (by omega)]) rfl⟩
    · simp -dsimp
      rw [ev_addL (by simp; omega)]
      simp -dsimp [Fm.words]
  | n + 1, .two w f g, ok, h, h6 => by
    simp only [Fm.dep] at h h6
    have l6 := words_126 (f := f) (by omega)
    have l7 := words_126 (f := g) (by omega)
    obtain ⟨k1, k2⟩ := both_kinds ok.1
    refine Wp.eq ?_
    rw [m_words_of, b_words_of, wp_runB, fD]
    simp -dsimp [startD, kK, k1]
    refine Wp.of (lc2_flat (xs := [f, g]) (enc := fD) (fun f => f.words.map D.str) (src := .sq (.lst [fD f, fD g])) (its_ok (by simp -dsimp) rfl) (by simp; exact cap_small (by omega)) fun x hx => ?_) ?_
    · have hx' : x.Ok ks ∧ x.dep ≤ n ∧ x.dep ≤ 6 := by
        simp only [List.mem_cons, List.mem_nil_iff, or_false] at hx
        rcases hx with rfl | rfl
        · exact ⟨ok.2.1, by omega, by omega⟩
        · exact ⟨ok.2.2, by omega, by omega⟩
      simp -dsimp [wipeD]
      exact ⟨_, its_ok (d := .lst (x.words.map D.str)) (by simp -dsimp [words_of_eq (n := n) (f := x) hx'.1 hx'.2.1 hx'.2.2]) rfl⟩
    · simp -dsimp
      rw [ev_addL (by simp; omega)]
      simp -dsimp [Fm.words]
theorem within_eq : ∀ {n : Nat} {f : Fm} {most : Int}, f.Ok ks → f.dep ≤ n → (f.dep : Int) ≤ most → m_is_formula_within n [formD ks, fD f, .int most] μ = .ok (.bl true) μ
  | 0, f, _, _, h, _ => by have := f.pos; omega
  | n + 1, .leaf k c, most, ok, _, hm => by
    simp only [Fm.dep] at hm
    have a1 : ¬ most < 1 := by omega
    refine Wp.eq ?_
    rw [m_is_formula_within, b_is_formula_within, wp_runB, fD]
    have e0 : oIdx (.tup [.str k, .str c]) (.int 0) μ = some (.str k, μ) := ev_idx rfl (atI_zero _ _)
    have e1 : oIdx (.tup [.str k, .str c]) (.int 1) μ = some (.str c, μ) := ev_idx rfl rfl
    simp -dsimp [startD, a1, e0, e1, kK, ok.1, is_tuple_of_tup, is_column_str, ok.2]
  | n + 1, .neg f, most, ok, h, hm => by
    simp only [Fm.dep] at h hm
    have a1 : ¬ most < 1 := by omega
    refine Wp.eq ?_
    rw [m_is_formula_within, b_is_formula_within, wp_runB, fD]
    have e0 : oIdx (.tup [.str "not", fD f]) (.int 0) μ = some (.str "not", μ) := ev_idx rfl (atI_zero _ _)
    have e2 : decide (("not" : Str) ∈ k_PARTS) = true := by decide
    have e3 : kv_PARTS.lookup ("not" : Str) = some (.int 1) := by with_unfolding_all rfl
    simp -dsimp [startD, a1, e0, kK, kinds_not, e2, e3]
    refine Wp.of (lc_map (xs := [f]) (enc := fD) (fun _ => .bl true) (src := .sq (.tup [fD f])) (its_ok (by simp -dsimp [cut_drop]) rfl) (cap_small (by simp)) fun x hx => ?_) ?_
    · obtain rfl : x = f := by simpa using hx
      simp -dsimp [wipeD, within_eq (n := n) (f := x) (most := most - 1) ok (by omega) (by omega)]
    · have e5 : oAll [.lst ([f].map fun _ => .bl true)] μ = some (.bl true, μ) := ev_all (fun _ => true) [f]
      simp at e5
      simp -dsimp [e5]
  | n + 1, .two w f g, most, ok, h, hm => by
    simp only [Fm.dep] at h hm
    have a1 : ¬ most < 1 := by omega
    obtain ⟨k1, k2⟩ := both_kinds ok.1
    refine Wp.eq ?_
    rw [m_is_formula_within, b_is_formula_within, wp_runB, fD]
    have e0 : oIdx (.tup [.str w, fD f, fD g]) (.int 0) μ = some (.str w, μ) := ev_idx rfl (atI_zero _ _)
    have e2 : w ∈ k_PARTS ∧ kv_PARTS.lookup w = some (.int 2) := by
      have := ok.1
      simp only [both, List.mem_cons, List.mem_nil_iff, or_false] at this
      rcases this with rfl | rfl <;> exact ⟨by decide, by with_unfolding_all rfl⟩
    simp -dsimp [startD, a1, e0, kK, k1, e2.1, e2.2]
    refine Wp.of (lc_map (xs := [f, g]) (enc := fD) (fun _ => .bl true) (src := .sq (.tup [fD f, fD g])) (its_ok (by simp -dsimp [cut_drop]) rfl) (cap_small (by simp)) fun x hx => ?_) ?_
    · have hx' : x.Ok ks ∧ x.dep ≤ n ∧ (x.dep : Int) ≤ most - 1 := by
        simp only [List.mem_cons, List.mem_nil_iff, or_false] at hx
        rcases hx with rfl | rfl
        · exact ⟨ok.2.1, by omega, by omega⟩
        · exact ⟨ok.2.2, by omega, by omega⟩
      simp -dsimp [wipeD, within_eq (n := n) (f := x) (most := most - 1) hx'.1 hx'.2.1 hx'.2.2]
    · have e5 : oAll [.lst ([f, g].map fun _ => .bl true)] μ = some (.bl true, μ) := ev_all (fun _ => true) [f, g]
      simp at e5
      simp -dsimp [e5]
end
end KK
/-! text S8 -/
/-! the law's own words of a formula; its text -/
namespace KK
open PySem PySem.Spec PyProof.Rows L2 DL TL
/-- lists of texts that nobody asks for any more -/
def Jk (ν : Store) : Prop := ∀ o ∈ ν, ∃ ks : List Str, o = .lst (ks.map .str)
theorem Jk.nil : Jk [] := fun o h => by simp at h
theorem Jk.app {ν ν' : Store} (h : Jk ν) (h' : Jk ν') : Jk (ν ++ ν') := fun o ho => by
  rcases List.mem_append.mp ho with h1 | h1
  · exact h o h1
  · exact h' o h1
theorem Jk.one (ks : List Str) : Jk [.lst (ks.map .str)] := fun o ho => ⟨ks, by simpa using ho⟩
theorem Jk.clo {ν : Store} (h : Jk ν) (n : Nat) : ∀ o ∈ ν, cloO n o = true := fun o ho => by
  obtain ⟨ks, rfl⟩ := h o ho
  simp only [cloO, clos_strs]
theorem last_get (μ : Store) (o : Ob) : (μ ++ [o])[μ.length]? = some o := by rw [List.getElem?_append_right (Nat.le_refl _)]; simp
/-- what a part gives: its words in a list of its own -/
theorem words_wp : ∀ {n : Nat} {f : Fm} {μ : Store} {Q : D → Store → Prop} {E : XP}, f.dep ≤ n → f.dep ≤ 6 → (∀ ν, Jk ν → Q (.loc (μ ++ ν).length) (μ ++ ν ++ [.lst (f.words.map .str)])) → Wp (m__law_words n [fD f] μ) Q E
  | 0, f, _, _, _, h, _, _ => by have := f.pos; omega
  | n + 1, f, μ, Q, E, h, h6, q => by
    have l6 := words_126 h6
    rw [m__law_words, b__law_words, wp_runB, fD_parts]
    have e0 : oIdx (.tup (.str f.hd :: f.parts.map ixD)) (.int 0) μ = some (.str f.hd, μ) := ev_idx rfl (atI_zero _ _)
    simp -dsimp [startD, e0]
    refine wp_for (its := f.parts.map ixD) (its_sq (d := .tup (f.parts.map ixD)) (Wp.eq (by simp -dsimp [cut_drop])) rfl) (fun i σ μ' => ∃ (ν : Store) (x2 : Option D), Jk ν ∧ σ = [some (.tup (.str f.hd :: f.parts.map ixD)), some (.loc (μ ++ ν).length), x2] ∧ μ' = μ ++ ν ++ [.lst ((f.hd :: ((f.parts.take i).map Ix.words).flatten).map .str)]) ⟨[], none, Jk.nil, by simp, by simp⟩ ?_ ?_
    · intro i d σ μ' hd ⟨ν, x2, J, hσ, hμ⟩
      subst hσ; subst hμ
      obtain ⟨p, hp, rfl⟩ : ∃ p, f.parts[i]? = some p ∧ ixD p = d := by
        rw [List.getElem?_map] at hd
        cases e : f.parts[i]? with
        | none => rw [e] at hd; cases hd
        | some p => rw [e] at hd; cases hd; exact ⟨p, rfl, rfl⟩
      have hm : p ∈ f.parts := List.mem_of_getElem? hp
      have ta : ((f.parts.take (i + 1)).map Ix.words).flatten = ((f.parts.take i).map Ix.words).flatten ++ p.words := by
        rw [List.take_add_one, hp]; simp
      have le : ((f.parts.take (i + 1)).map Ix.words).flatten.length + 1 ≤ 126 := by
        have e1 := words_parts f
        have e2 : (f.parts.map Ix.words).flatten = ((f.parts.take (i + 1)).map Ix.words).flatten ++ ((f.parts.drop (i + 1)).map Ix.words).flatten := by rw [← List.flatten_append, ← List.map_append, List.take_append_drop]
        rw [e1, e2] at l6
        simp only [List.length_cons, List.length_append] at l6
        omega
      rw [ta, List.length_append] at le
      generalize hw : ((f.parts.take i).map Ix.words).flatten = ws at ta le
      have ta2 : (f.hd :: ((f.parts.take (i + 1)).map Ix.words).flatten).map D.str = (f.hd :: ws).map D.str ++ p.words.map .str := by rw [ta]; simp
      have g1 := last_get (μ ++ ν) (.lst ((f.hd :: ws).map .str))
      have ll : ((f.hd :: ws).map D.str).length = ws.length + 1 := by simp
      rw [ta2]
      generalize hL : (f.hd :: ws).map D.str = L at g1 ll
      have JL : Jk [.lst L] := hL ▸ Jk.one _
      generalize hm1 : μ ++ ν = m1 at g1
      cases p with
      | col c =>
        simp -dsimp [ixD, -List.append_assoc, -List.length_append]
        rw [ev_addM (xs := L) (ys := [.str c]) (by rw [List.getElem?_append_left (by simp)]; exact g1) (last_get _ _) (by simp; omega)]
        simp -dsimp [-List.append_assoc, -List.length_append]
        refine Th.mk ⟨ν ++ [.lst L] ++ [.lst ([c].map .str)], some (.str c), (J.app JL).app (Jk.one _), ?_, ?_⟩
        · simp [← hm1]
        · simp [Ix.words, ← hm1]
      | frm g =>
        have dg := parts_dep hm
        simp -dsimp [ixD, fD_ty, -List.append_assoc, -List.length_append]
        refine words_wp (n := n) (f := g) (by omega) (by omega) fun ν' J' => ?_
        rw [ev_addM (xs := L) (ys := g.words.map .str) (by rw [List.append_assoc _ ν', List.getElem?_append_left (by simp)]; exact g1) (last_get _ _) (by simp [Ix.words] at le ⊢; omega)]
        simp -dsimp [-List.append_assoc, -List.length_append]
        refine Th.mk ⟨ν ++ [.lst L] ++ ν' ++ [.lst (g.words.map .str)], some (fD g), ((J.app JL).app J').app (Jk.one _), ?_, ?_⟩
        · simp [← hm1]
        · simp [Ix.words, ← hm1]
    · intro σ μ' ⟨ν, x2, J, hσ, hμ⟩
      subst hσ; subst hμ
      rw [List.length_map, List.take_of_length_le (Nat.le_refl _), ← words_parts f]
      simp -dsimp [-List.append_assoc, -List.length_append]
      exact q ν J
/-- the text of a formula -/
def fText (f : Fm) : Str := Txt.join " " f.words
theorem sp_len : (" " : Str).length = 1 := by decide +kernel
theorem sum_wd : ∀ {ws : List Str}, (∀ x ∈ ws, Wd x) → (ws.map (·.length)).sum ≤ 8 * ws.length
  | [], _ => by simp
  | w :: ws, h => by
    have h1 := (h w List.mem_cons_self).2.1
    rw [tl_len] at h1
    have := sum_wd fun x hx => h x (List.mem_cons_of_mem _ hx)
    simp only [List.map_cons, List.sum_cons, List.length_cons]
    omega
theorem text_len {ks : List Str} {f : Fm} (hk : ∀ x ∈ ks, Nm x) (ok : f.Ok ks) (h6 : f.dep ≤ 6) : (fText f).length ≤ 1200 := by
  have h1 := join_len " " f.words
  have h2 := sum_wd (word_wd hk ok)
  have h3 := words_126 h6
  rw [sp_len] at h1
  unfold fText
  omega
section
variable {μ : Store} {ks : List Str} {f : Fm}
theorem formula_text_eq (hk : ∀ x ∈ ks, Nm x) (ok : f.Ok ks) (h6 : f.dep ≤ 6) : m_formula_text [formD ks, fD f] μ = .ok (.str (fText f)) μ := by
  have h2 := sum_wd (word_wd hk ok)
  have h3 := words_126 h6
  refine Wp.eq ?_
  rw [m_formula_text, b_formula_text, wp_runB]
  simp -dsimp [startD, m_is_formula, b_is_formula, wp_runB, within_eq (n := 8) (most := 6) ok (by omega) (by omega), words_of_eq (n := 8) ok (by omega) h6]
  rw [ev_joinB (ks := f.words) (by rw [sp_len]; omega) rfl]
  simp -dsimp [fText]
theorem text_right_eq {t : Int} (hc : ∀ o ∈ μ, cloO μ.length o = true) (hk : ∀ x ∈ ks, Nm x) (ok : f.Ok ks) (h6 : f.dep ≤ 6) : m__law_text_right [formD ks, fD f, .int t] μ = .ok (.bl true) μ := by
  have h2 := sum_wd (word_wd hk ok)
  have h3 := words_126 h6
  refine Wp.eq ?_
  rw [m__law_text_right, b__law_text_right]
  refine wp_runS_pre hc ?_
  simp -dsimp [startD]
  refine Br.of (fun _ => ?_) fun _ => ?_ <;> simp -dsimp [pick, formula_text_eq hk ok h6]
  · refine words_wp (n := 8) (by omega) h6 fun ν J => ?_
    rw [ev_joinB (ks := f.words) (by rw [sp_len]; omega) (getS_loc (last_get _ _))]
    simp -dsimp
    exact Th.mk ⟨ν ++ [.lst (f.words.map .str)], by simp, by simp [clo, fText], by simp [fText]⟩
  · refine words_wp (n := 8) (by omega) h6 fun ν J => ?_
    rw [ev_joinB (ks := f.words) (by rw [sp_len]; omega) (getS_loc (last_get _ _))]
    simp -dsimp
    exact Th.mk ⟨ν ++ [.lst (f.words.map .str)], by simp, by simp [clo, fText], by simp [fText]⟩
end
end KK
/-! text S9 -/
/-! reading from the first word on, by the program -/
namespace KK
open PySem PySem.Spec PyProof.Rows L2 DL TL
mutual
theorem clo_mono {n m : Nat} (l : n ≤ m) : ∀ d : D, clo n d = true → clo m d = true
  | .loc i, h => by simp only [clo, decide_eq_true_eq] at h ⊢; omega
  | .tup xs, h => by simp only [clo] at h ⊢; exact clos_mono l xs h
  | .rt xs, h => by simp only [clo] at h ⊢; exact clos_mono l xs h
  | .lst xs, h => by simp only [clo] at h ⊢; exact clos_mono l xs h
  | .rl xs, h => by simp only [clo] at h ⊢; exact clos_mono l xs h
  | .dK _ xs, h => by simp only [clo] at h ⊢; exact clos_mono l xs h
  | .dT _ xs, h => by simp only [clo] at h ⊢; exact clos_mono l xs h
  | .ins _ _ xs, h => by simp only [clo] at h ⊢; exact clos_mono l xs h
  | .er _ _ d, h => by simp only [clo] at h ⊢; exact clo_mono l d h
  | .non, _ => rfl
  | .bl _, _ => rfl
  | .int _, _ => rfl
  | .str _, _ => rfl
  | .ty _, _ => rfl
  | .ref _, _ => rfl
  | .cls _, _ => rfl
theorem clos_mono {n m : Nat} (l : n ≤ m) : ∀ xs : List D, clos n xs = true → clos m xs = true
  | [], _ => rfl
  | x :: xs, h => by
    simp only [clos, Bool.and_eq_true] at h ⊢
    exact ⟨clo_mono l x h.1, clos_mono l xs h.2⟩
end
theorem cloO_mono {n m : Nat} (l : n ≤ m) : ∀ o : Ob, cloO n o = true → cloO m o = true
  | .lst xs, h => clos_mono l xs h
  | .dK _ xs, h => clos_mono l xs h
  | .dT _ xs, h => clos_mono l xs h
  | .ins _ _ xs, h => clos_mono l xs h
/-- all objects of a store are closed -/
def Cl (μ : Store) : Prop := ∀ o ∈ μ, cloO μ.length o = true
theorem Cl.app {μ ν : Store} (h : Cl μ) (h2 : ∀ o ∈ ν, cloO (μ.length + ν.length) o = true) : Cl (μ ++ ν) := fun o ho => by
  rw [List.length_append]
  rcases List.mem_append.mp ho with h1 | h1
  · exact cloO_mono (by omega) o (h o h1)
  · exact h2 o h1
theorem Cl.set {μ : Store} {n : Nat} {l : Ob} (h : Cl μ) (hl : cloO μ.length l = true) : Cl (μ.set n l) := fun o ho => by
  rw [List.length_set]
  rcases List.mem_or_eq_of_mem_set ho with h1 | rfl
  · exact h o h1
  · exact hl
/-- so many formulas one behind another -/
def rds (ks : List Str) (n : Nat) : Nat → List Str → Option (List Fm × List Str)
  | 0, ws => some ([], ws)
  | k + 1, ws => match rds ks n k ws with
    | some (fs, r) => (match rd ks n r with
      | some (f, r') => some (fs ++ [f], r')
      | none => none)
    | none => none
theorem rds_none {ks : List Str} {n i : Nat} {ws : List Str} (h : rds ks n i ws = none) : ∀ {k : Nat}, i ≤ k → rds ks n k ws = none
  | 0, l => by obtain rfl : i = 0 := by omega
               exact h
  | k + 1, l => by
    rcases Nat.lt_or_ge k i with z | z
    · obtain rfl : i = k + 1 := by omega
      exact h
    · simp only [rds, rds_none h z]
/-- how many formulas a word wants -/
def cnt (w : Str) : Nat := if w = "not" then 1 else 2
def mk (w : Str) : List Fm → Fm
  | [f] => .neg f
  | [f, g] => .two w f g
  | _ => default
theorem rd_cnt {ks : List Str} {n : Nat} {w : Str} {r : List Str} (hw : w = "not" ∨ w ∈ both) : rd ks (n + 1) (w :: r) = match rds ks n (cnt w) r with
    | some (fs, r') => some (mk w fs, r')
    | none => none := by
  rcases hw with rfl | hw
  · have e : cnt "not" = 1 := rfl
    simp only [rd, if_neg kinds_not, if_true, e, rds]
    cases rd ks n r with
    | none => rfl
    | some p => rfl
  · obtain ⟨k1, k2⟩ := both_kinds hw
    have e : cnt w = 2 := if_neg k2
    simp only [rd, if_neg k1, if_neg k2, if_pos hw, e, rds]
    cases rd ks n r with
    | none => rfl
    | some p =>
      obtain ⟨f, r1⟩ := p
      simp only
      cases rd ks n r1 with
      | none => rfl
      | some p => rfl
theorem rds_len {ks : List Str} {n : Nat} : ∀ {k : Nat} {ws r : List Str} {fs : List Fm}, rds ks n k ws = some (fs, r) → fs.length = k ∧ ∃ a, ws = a ++ r
  | 0, ws, r, fs, h => by cases h; exact ⟨rfl, [], rfl⟩
  | k + 1, ws, r, fs, h => by
    unfold rds at h
    split at h
    · rename_i fs' r1 e
      split at h
      · rename_i f r' e2
        cases h
        obtain ⟨h1, a, h2⟩ := rds_len e
        obtain ⟨h3, _⟩ := rd_sound e2
        exact ⟨by simp [h1], a ++ f.words, by rw [h2, h3]; simp⟩
      · cases h
    · cases h
theorem fD_mk {w : Str} (hw : w = "not" ∨ w ∈ both) {fs : List Fm} (h : fs.length = cnt w) : fD (mk w fs) = .tup (.str w :: fs.map fD) := by
  rcases hw with rfl | hw
  · have e : cnt "not" = 1 := rfl
    rw [e] at h
    match fs, h with
    | [f], _ => rfl
  · obtain ⟨k1, k2⟩ := both_kinds hw
    rw [cnt, if_neg k2] at h
    match fs, h with
    | [f, g], _ => rfl
/-- what is told -/
def rdD (n : Nat) : Option (Fm × List Str) → D
  | none => .non
  | some (f, r) => .tup [fD f, .int ((n - r.length : Nat) : Int)]
theorem parts_cnt {w : Str} (hw : w = "not" ∨ w ∈ both) : decide (w ∈ k_PARTS) = true ∧ kv_PARTS.lookup w = some (.int (cnt w : Nat)) ∧ w ∉ kinds := by
  rcases hw with rfl | hw
  · exact ⟨by decide, by with_unfolding_all rfl, kinds_not⟩
  · simp only [both, List.mem_cons, List.mem_nil_iff, or_false] at hw
    rcases hw with rfl | rfl <;> exact ⟨by decide, by with_unfolding_all rfl, by decide⟩
theorem parts_no {w : Str} (h1 : w ≠ "not") (h2 : w ∉ both) : decide (w ∈ k_PARTS) = false := by
  rw [decide_eq_false_iff_not]
  intro z
  have z : w ∈ (["all", "some", "not"] : List Str) := z
  simp only [List.mem_cons, List.mem_nil_iff, or_false] at z
  rcases z with rfl | rfl | rfl
  · exact h2 (by decide)
  · exact h2 (by decide)
  · exact h1 rfl
theorem clos_fs (n : Nat) (fs : List Fm) : clos n (fs.map fD) = true := clos_all fun x hx => by
  obtain ⟨f, _, rfl⟩ := List.mem_map.mp hx
  exact fD_clo n f
theorem at_drop {ws : List Str} {p : Nat} {w : Str} {r : List Str} (h : ws.drop p = w :: r) : ws[p]? = some w ∧ ws.drop (p + 1) = r ∧ p + 1 + r.length = ws.length := by
  have l := congrArg List.length h
  rw [List.length_drop, List.length_cons] at l
  refine ⟨?_, ?_, by omega⟩
  · rw [← List.head?_drop, h]; rfl
  · rw [← List.tail_drop, h]; rfl
theorem idx_ws {μ : Store} {ws : List Str} {p : Nat} {w : Str} (h : ws[p]? = some w) : oIdx (.lst (ws.map .str)) (.int (p : Nat)) μ = some (.str w, μ) := by
  have hp := (List.getElem?_eq_some_iff.mp h).1
  refine ev_idx rfl ?_
  rw [atI_pos (by omega) (by rw [List.length_map]; omega), Int.toNat_natCast, List.getElem?_map, h]
  rfl
theorem read_from_eq {ks : List Str} {ws : List Str} : ∀ {n most p : Nat} {μ : Store}, Cl μ → most < n → p ≤ ws.length → m_read_from n [formD ks, .lst (ws.map .str), .int (p : Nat), .int (most : Nat)] μ = .ok (rdD ws.length (rd ks most (ws.drop p))) μ
  | 0, _, _, _, _, h, _ => by omega
  | n + 1, 0, p, μ, hc, _, hp => by
    refine Wp.eq ?_
    rw [m_read_from, b_read_from]
    refine wp_runS_pre hc ?_
    simp -dsimp [startD, rd, rdD]
    refine Th.mk ?_; exact ⟨[], by simp, rfl, rfl, rfl⟩
  | n + 1, m + 1, p, μ, hc, h, hp => by
    refine Wp.eq ?_
    rw [m_read_from, b_read_from]
    refine wp_runS_pre hc ?_
    have a1 : ¬ (m : Int) + 1 < 1 := by omega
    have a0 : ((m + 1 : Nat) : Int) = (m : Int) + 1 := rfl
    rw [a0]
    cases hd : ws.drop p with
    | nil =>
      have : ws.length ≤ p := by
        have := congrArg List.length hd
        rw [List.length_drop, List.length_nil] at this
        omega
      have a2 : ((ws.length : Nat) : Int) ≤ (p : Nat) := by omega
      simp -dsimp [startD, a1, a2, rd, rdD]
      refine Th.mk ?_; exact ⟨[], by simp, rfl, rfl, rfl⟩
    | cons w r =>
      obtain ⟨d1, d2, d3⟩ := at_drop hd
      have a2 : ¬ ((ws.length : Nat) : Int) ≤ (p : Nat) := by omega
      have i0 := fun μ => idx_ws (μ := μ) d1
      by_cases hk : w ∈ kinds
      · cases r with
        | nil =>
          have a3 : ¬ ((p : Nat) : Int) + 1 < (ws.length : Nat) := by simp at d3; omega
          have er : rd ks (m + 1) [w] = none := by simp only [rd, if_pos hk]
          simp -dsimp [startD, a1, a2, a3, i0, kK, hk, er, rdD]
          refine Th.mk ?_; exact ⟨[], by simp, rfl, by rw [er]; rfl, rfl⟩
        | cons c r' =>
          obtain ⟨e1, e2, e3⟩ := at_drop d2
          have a3 : ((p : Nat) : Int) + 1 < (ws.length : Nat) := by omega
          have i1 : ∀ μ, oIdx (.lst (ws.map .str)) (.int ((p : Nat) + 1)) μ = some (.str c, μ) := fun μ => idx_ws (μ := μ) e1
          by_cases hcol : c ∈ ks
          · have e4 : ((p : Nat) : Int) + 2 = ((ws.length - r'.length : Nat) : Int) := by omega
            have er : rd ks (m + 1) (w :: c :: r') = some (.leaf w c, r') := by simp only [rd, if_pos hk, if_pos hcol]
            simp -dsimp [startD, a1, a2, a3, i0, i1, kK, hk, is_column_str, hcol, er, rdD, e4]
            refine Th.mk ?_; exact ⟨[], by simp, by simp [clo, clos], by rw [er]; rfl, rfl⟩
          · simp -dsimp [startD, a1, a2, a3, i0, i1, kK, hk, is_column_str, hcol, rd, rdD]
            refine Th.mk ?_; exact ⟨[], by simp, rfl, by simp only [rd, if_pos hk, if_neg hcol]; rfl, rfl⟩
      · by_cases hw : w = "not" ∨ w ∈ both
        · obtain ⟨p1, p2, p3⟩ := parts_cnt hw
          have hcnt : cnt w ≤ 2 := by unfold cnt; split <;> omega
          rw [rd_cnt hw]
          simp -dsimp [startD, a1, a2, i0, kK, hk, p1]
          refine wp_for (its_rng (fa := fDgW kv_PARTS (fV 4)) (σ := [some (formD ks), some (.lst (ws.map .str)), some (.int (p : Nat)), some (.int ((m : Int) + 1)), some (.str w), some (.loc μ.length), some (.int ((p : Nat) + 1)), none, none, none]) (n := cnt w) (Wp.eq (by simp -dsimp [p2])) (by omega)) (fun i σ μ' => ∃ (fs : List Fm) (r' : List Str) (x7 x8 x9 : Option D), rds ks m i r = some (fs, r') ∧
            σ = [some (formD ks), some (.lst (ws.map .str)), some (.int (p : Nat)), some (.int ((m : Int) + 1)), some (.str w), some (.loc μ.length), some (.int ((ws.length - r'.length : Nat) : Int)), x7, x8, x9] ∧ μ' = μ ++ [.lst (.str w :: fs.map fD)])
            ⟨[], r, none, none, none, rfl, by rw [show ws.length - r.length = p + 1 by omega]; rfl, rfl⟩ ?_ ?_
          · intro i d σ μ' hd ⟨fs, r', x7, x8, x9, hr, hσ, hμ⟩
            have hi : i < cnt w := by
              have := (List.getElem?_eq_some_iff.mp hd).1
              simpa using this
            subst hσ; subst hμ
            obtain ⟨l1, a, l2⟩ := rds_len hr
            have l3 := congrArg List.length l2
            rw [List.length_append] at l3
            have hdr : ws.drop (ws.length - r'.length) = r' := by
              have e5 : ws = ws.take (p + 1) ++ a ++ r' := by rw [List.append_assoc, ← l2, ← d2, List.take_append_drop]
              have e6 : (ws.take (p + 1) ++ a).length = ws.length - r'.length := by
                have := congrArg List.length e5
                rw [List.length_append] at this
                omega
              rw [e5, List.drop_left' (by rw [← e5]; exact e6)]
            have c1 : Cl (μ ++ [.lst (.str w :: fs.map fD)]) := Cl.app hc fun o ho => by
              rw [List.mem_singleton.mp ho]
              simp only [cloO, clos, clo, clos_fs, Bool.and_self]
            have ih := read_from_eq (ks := ks) (ws := ws) (n := n) (most := m) (p := ws.length - r'.length) c1 (by omega) (by omega)
            rw [hdr] at ih
            simp -dsimp
            rw [ih]
            cases er : rd ks m r' with
            | none =>
              have : rds ks m (cnt w) r = none := rds_none (i := i + 1) (by simp only [rds, hr, er]) hi
              simp -dsimp [rdD]
              refine Th.mk ?_; exact ⟨_, rfl, rfl, by rw [this]; rfl, rfl⟩
            | some q =>
              obtain ⟨g, r2⟩ := q
              simp -dsimp [rdD]
              rw [An_of (isLst_loc (last_get _ _))]
              simp -dsimp
              rw [ev_append (last_get _ _) (by simp; omega)]
              simp -dsimp
              refine Th.mk ⟨fs ++ [g], r2, _, _, _, by simp only [rds, hr, er], rfl, by simp⟩
          · intro σ μ' ⟨fs, r', x7, x8, x9, hr, hσ, hμ⟩
            subst hσ; subst hμ
            rw [List.length_map, List.length_range] at hr
            obtain ⟨l1, _⟩ := rds_len hr
            simp -dsimp
            rw [ev_tupLoc (last_get _ _)]
            simp -dsimp [hr, rdD]
            refine Th.mk ⟨_, rfl, ?_, ?_⟩
            · simp only [clo, clos, clos_fs, Bool.and_self]
            · rw [hr]; exact ⟨by rw [← fD_mk hw l1]; rfl, rfl⟩
        · obtain ⟨h1, h2⟩ := not_or.mp hw
          have er : rd ks (m + 1) (w :: r) = none := by simp only [rd, if_neg hk, if_neg h1, if_neg h2]
          simp -dsimp [startD, a1, a2, i0, kK, hk, parts_no h1 h2, er, rdD]
          refine Th.mk ?_; exact ⟨[], by simp, rfl, by rw [er]; rfl, rfl⟩
end KK
/-! text S10 -/
/-! the program's reader and the law's -/
namespace KK
open PySem PySem.Spec PyProof.Rows L2 DL TL
/-- the words of a text -/
def sws (x : Str) : List Str := Txt.split x " "
theorem sws_len (x : Str) : (sws x).length ≤ x.length + 2 := split_le x " "
theorem ev_sws {x : Str} {μ : Store} (h : x.length ≤ 1000000) : oSplit false (.str x) [.str " "] μ = some (.lst ((sws x).map .str), μ) := ev_split (by rw [sp_len]; decide) (by omega)
section
variable {ks : List Str} {μ : Store} {x : Str} {d : D} {a : Ty}
theorem rd_len {n : Nat} {ws r : List Str} {f : Fm} (h : rd ks n ws = some (f, r)) : ws.length = f.words.length + r.length := by
  obtain ⟨h1, _⟩ := rd_sound h
  rw [h1, List.length_append]
theorem read_some {f : Fm} (F : Free ks) (hc : Cl μ) (hx : x.length ≤ 1000000) (h : last ks (sws x) = some f) : m_read_formula [formD ks, .str x] μ = .ok (fD f) μ := by
  have h := (last_iff F).mp h
  refine Wp.eq ?_
  rw [m_read_formula, b_read_formula, wp_runB]
  have e := read_from_eq (ks := ks) (ws := sws x) (n := 8) (most := 6) (p := 0) hc (by decide) (Nat.zero_le _)
  rw [List.drop_zero, h] at e
  have e0 : ∀ i : Int, oIdx (.tup [fD f, .int i]) (.int 0) μ = some (fD f, μ) := fun i => ev_idx rfl (atI_zero _ _)
  have e1 : ∀ i : Int, oIdx (.tup [fD f, .int i]) (.int 1) μ = some (.int i, μ) := fun i => ev_idx rfl rfl
  simp only [rdD, List.length_nil, Nat.sub_zero] at e
  simp -dsimp [startD, ev_sws hx]
  refine Wp.of e ?_
  simp -dsimp [e0, e1]
theorem read_none (F : Free ks) (hc : Cl μ) (hx : x.length ≤ 1000000) (h : last ks (sws x) = none) : m_read_formula [formD ks, .str x] μ = .exc 7 (some (.str x)) μ := by
  refine Wp.is ?_
  rw [m_read_formula, b_read_formula, wp_runB]
  have e := read_from_eq (ks := ks) (ws := sws x) (n := 8) (most := 6) (p := 0) hc (by decide) (Nat.zero_le _)
  rw [List.drop_zero] at e
  simp -dsimp [startD, ev_sws hx]
  rcases last_none F h with q | ⟨f, w, r, q⟩
  · rw [q] at e
    simp only [rdD] at e
    refine Wp.of e ?_
    simp -dsimp
  · rw [q] at e
    have l := rd_len q
    have p := words_pos f
    simp only [rdD] at e
    simp only [List.length_cons] at l e
    have e1 : ∀ i : Int, oIdx (.tup [fD f, .int i]) (.int 1) μ = some (.int i, μ) := fun i => ev_idx rfl rfl
    have ne : ¬ ((sws x).length - (r.length + 1) = (sws x).length) := by omega
    refine Wp.of e ?_
    simp -dsimp [e1, ne]
theorem read_ty (ht : typeD μ d = some a) (ha : a ∈ tyL) (hs : a ≠ .b "str") : m_read_formula [formD ks, d] μ = .exc 7 (some d) μ := by
  refine Wp.is ?_
  rw [m_read_formula, b_read_formula, wp_runB]
  simp only [tyL, List.mem_cons, List.mem_nil_iff, or_false] at ha
  rcases ha with rfl | rfl | rfl | rfl | rfl | rfl | rfl | rfl <;> first | exact absurd rfl hs | simp -dsimp [startD, ht]
theorem isE_7_0 : isE 7 (.c 0) = some true := by decide +kernel
theorem told_yes {t : Int} {v : D} (h : m_read_formula [formD ks, d] μ = .ok v μ) : m__law_told [formD ks, d, .int t] μ = .ok (.lst [.str "told", v]) μ := by
  refine Wp.eq ?_
  rw [m__law_told, b__law_told, wp_runB]
  simp -dsimp [startD]
  refine Br.of (fun _ => ?_) fun _ => ?_ <;> simp -dsimp [pick, h]
theorem told_no {t : Int} (h : m_read_formula [formD ks, d] μ = .exc 7 (some d) μ) : m__law_told [formD ks, d, .int t] μ = .ok (.lst [.str "text", d, .bl true]) μ := by
  refine Wp.eq ?_
  rw [m__law_told, b__law_told, wp_runB]
  have e : xaT 7 = some "given" := rfl
  simp -dsimp [startD]
  refine Br.of (fun _ => ?_) fun _ => ?_ <;> simp -dsimp [pick, h, handle, hRet, hLst, hCons, hC, hAt, hNil, hIsi, e, newL, isE_7_0]
end
/-! from the last word on -/
def sD : Ix → D
  | .col c => .lst [.str c, .int 0]
  | .frm f => .lst [fD f, .int (f.dep : Nat)]
theorem sD_lev (x : Ix) (μ : Store) : oIdx (sD x) (.int 1) μ = some (.int (x.lev : Nat), μ) := by
  cases x <;> exact ev_idx rfl rfl
theorem sD_val (x : Ix) (μ : Store) : oIdx (sD x) (.int 0) μ = some (ixD x, μ) := by
  cases x <;> exact ev_idx rfl (atI_zero _ _)
theorem sD_clo (n : Nat) (x : Ix) : clo n (sD x) = true := by cases x <;> simp [sD, clo, clos, fD_clo]
theorem sDs_clo (n : Nat) (s : List Ix) : clos n (s.map sD) = true := clos_all fun x hx => by
  obtain ⟨f, _, rfl⟩ := List.mem_map.mp hx
  exact sD_clo n f
theorem cut_two {s : List Ix} : DL.cutD (s.reverse.map sD) (some (-2)) none = (s.take 2).reverse.map sD := by
  simp only [DL.cutD, HT.sIx, if_pos (show (-2 : Int) < 0 by decide), List.length_map, List.length_reverse]
  rw [List.take_of_length_le (by simp), ← List.map_drop]
  congr 1
  rw [List.drop_reverse]
  congr 1
  by_cases h : 2 ≤ s.length
  · congr 1; omega
  · rw [List.take_of_length_le (by omega), List.take_of_length_le (by omega)]
theorem ev_appendB {μ : Store} {n : Nat} {xs : List D} {d : D} (h : μ[n]? = some (.lst xs)) (hl : xs.length < 10000000) : oAppend (.loc n) [d] μ = some (.non, μ.set n (.lst (xs ++ [d]))) := by
  simp only [oAppend, h]
  rw [if_pos (by rw [cap_val]; omega)]
theorem set_last (μ : Store) (o o' : Ob) : (μ ++ [o]).set μ.length o' = μ ++ [o'] := by
  rw [List.set_append_right _ _ (Nat.le_refl _)]; simp
theorem kinds_eq {μ : Store} : m__law_kinds [] μ = .ok (.lst (kinds.map .str)) μ := by
  refine Wp.eq ?_
  rw [m__law_kinds, b__law_kinds, wp_runB]
  simp -dsimp [kinds]
theorem lev_pos (f : Fm) : (0 : Int) < (f.dep : Nat) := by have := f.pos; omega
theorem bld_drop {ks ws : List Str} {i : Nat} {w : Str} {s : List Ix} (hw : ws.reverse[i]? = some w) (h : bld ks (ws.drop (ws.length - i)) = some s) : bld ks (ws.drop (ws.length - (i + 1))) = stp ks s w := by
  have hi : i < ws.length := by have := (List.getElem?_eq_some_iff.mp hw).1; simpa using this
  rw [List.getElem?_reverse hi] at hw
  have e : ws.drop (ws.length - (i + 1)) = w :: ws.drop (ws.length - i) := by
    have hj : ws.length - (i + 1) < ws.length := by omega
    rw [List.drop_eq_getElem_cons hj, show ws.length - (i + 1) + 1 = ws.length - i by omega]
    have : ws.length - 1 - i = ws.length - (i + 1) := by omega
    rw [this] at hw
    rw [(List.getElem?_eq_some_iff.mp hw).2]
  rw [e]
  simp only [bld, h]
theorem bld_stop {ks ws : List Str} {i : Nat} (h : bld ks (ws.drop i) = none) : last ks ws = none := by
  have : bld ks ws = none := by
    rw [← List.take_append_drop i ws]; exact bld_none h
  simp only [last, this]
theorem stp_len {ks : List Str} {s s' : List Ix} {w : Str} (h : stp ks s w = some s') : s'.length ≤ s.length + 1 := by
  unfold stp at h
  split at h
  · cases h; simp
  · split at h
    · split at h
      · cases h; simp
      · cases h
    · split at h
      · split at h
        · split at h
          · cases h; simp
          · cases h
        · cases h
      · split at h
        · split at h
          · split at h
            · cases h; simp only [List.length_cons]; omega
            · cases h
          · cases h
        · cases h
end KK
/-! text S11 -/
/-! the law's reader -/
namespace KK
open PySem PySem.Spec PyProof.Rows L2 DL TL
def lasD (ks : List Str) (x : Str) : D := .lst (match last ks (sws x) with
  | some f => [fD f]
  | none => [])
/-- the stack as it stands, its top last -/
def stk (s : List Ix) : List D := (s.map sD).reverse
theorem stk_cons (y : Ix) (r : List Ix) : stk (y :: r) = stk r ++ [sD y] := by simp [stk]
theorem stk_len (s : List Ix) : (stk s).length = s.length := by simp [stk]
theorem stk_clo (n : Nat) (s : List Ix) : clos n (stk s) = true := clos_all fun x hx => by
  rw [stk, List.mem_reverse] at hx
  obtain ⟨f, _, rfl⟩ := List.mem_map.mp hx
  exact sD_clo n f
theorem stk_two (s : List Ix) : DL.cutD (stk s) (some (-2)) none = (s.take 2).reverse.map sD := by
  rw [stk, ← List.map_reverse, cut_two]
/-- the levels on top -/
def lvs (s : List Ix) : List Int := (s.take 2).map fun y => (y.lev : Int)
theorem lvs_0 : lvs [] = [] := rfl
theorem lvs_1 (y : Ix) : lvs [y] = [(y.lev : Int)] := rfl
theorem lvs_2 (y z : Ix) (r : List Ix) : lvs (y :: z :: r) = [(y.lev : Int), (z.lev : Int)] := rfl
/-- what the loop keeps -/
def Rk (ks : List Str) (x : Str) (μ : Store) (i : Nat) (σ : Sg) (μ' : Store) : Prop := ∃ (s : List Ix) (x3 x4 x5 x6 : Option D), bld ks ((sws x).drop ((sws x).length - i)) = some s ∧ s.length ≤ i ∧
  σ = [some (.lst (ks.map .str)), some (.str x), some (.loc μ.length), x3, x4, x5, x6] ∧ μ' = μ ++ [.lst (stk s)]
section
variable {μ : Store} {s : List Ix} {L : List D} {y : Ix} {w : Str} {ks : List Str}
theorem top_idx {d : D} : oIdx (.loc μ.length) (.int (-1)) (μ ++ [.lst (L ++ [d])]) = some (d, μ ++ [.lst (L ++ [d])]) := ev_idx (getS_loc (last_get _ _)) (atI_last _ _)
theorem pop_top {d : D} : oPop (.loc μ.length) [] (μ ++ [.lst (L ++ [d])]) = some (d, μ ++ [.lst L]) := by rw [ev_pop (last_get _ _), set_last]
theorem pop_two {d e : D} : oPop (.loc μ.length) [] (μ ++ [.lst (L ++ [e, d])]) = some (d, μ ++ [.lst (L ++ [e])]) := by
  have := pop_top (μ := μ) (L := L ++ [e]) (d := d)
  rwa [List.append_assoc] at this
theorem push_top {d : D} (h : L.length < 10000000) : oAppend (.loc μ.length) [d] (μ ++ [.lst L]) = some (.non, μ ++ [.lst (L ++ [d])]) := by rw [ev_appendB (last_get _ _) h, set_last]
theorem idxL1 {a b : D} : oIdx (.lst [a, b]) (.int 1) μ = some (b, μ) := ev_idx rfl rfl
theorem stk_lt {n : Nat} (h : s.length ≤ n) (h2 : n ≤ 2000000) : (stk s).length < 10000000 := by rw [stk_len]; omega
theorem cut_1 {xs : List Int} : DL.cutD (xs.map D.int) none (some 1) = (xs.take 1).map D.int := by rw [cut_take (by decide), List.map_take]; rfl
theorem lst_top : isLst (.loc μ.length) (μ ++ [.lst L]) = true := isLst_loc (last_get _ _)
theorem lev_1 : oEq (.lst [.int 0]) (.lst [.int 0]) μ = some (.bl true, μ) := ev_eqLI (a := [0]) (b := [0])
end
theorem law_read_eq {ks : List Str} {x : Str} {μ : Store} (F : Free ks) (hc : Cl μ) (hx : x.length ≤ 1000000) : m__law_read [.lst (ks.map .str), .str x] μ = .ok (lasD ks x) μ := by
  have hl := sws_len x
  refine Wp.eq ?_
  rw [m__law_read, b__law_read]
  refine wp_runS_pre hc ?_
  simp -dsimp [startD]
  have src : ∀ {σ : Sg} {μ : Store}, σ[1]? = some (some (.str x)) → Wp (fRev false (fSt (oSplit false) (fV 1) (aCons (fC (.str " ")) aNil)) σ μ) (fun y μ' => y = .lst (((sws x).map D.str).reverse) ∧ μ' = μ) NoX := fun {σ μ} h => by
    have e : fV 1 σ μ = .ok (.str x) μ := by
      match σ, h with
      | _ :: some d :: r, h => simp at h; subst h; rfl
    simp -dsimp [e, ev_sws hx]
  refine wp_for (its := ((sws x).map D.str).reverse) (its_sq (Wp.eq (src rfl)) rfl) (Rk ks x μ) ⟨[], none, none, none, none, by simp [bld], Nat.le_refl _, rfl, by simp [stk]⟩ ?_ ?_
  · intro i d σ μ' hd ⟨s, x3, x4, x5, x6, hb, hn, hσ, hμ⟩
    obtain ⟨w, hw, rfl⟩ : ∃ w, (sws x).reverse[i]? = some w ∧ D.str w = d := by
      rw [← List.map_reverse, List.getElem?_map] at hd
      cases e : (sws x).reverse[i]? with
      | none => rw [e] at hd; cases hd
      | some w => rw [e] at hd; cases hd; exact ⟨w, rfl, rfl⟩
    have hi : i < (sws x).length := by have := (List.getElem?_eq_some_iff.mp hw).1; simpa using this
    have hb2 := bld_drop hw hb
    subst hσ; subst hμ
    have g0 := last_get μ (.lst (stk s))
    -- the two levels on top
    have lv : Wp (fRev false (fLc false (iS (fSl false (fV 2) (oSome (fUn oNeg (fC (.int 2)))) oNo)) (gN 5) tTrue (fBin oIdx (fV 5) (fC (.int 1))) [5]) [some (.lst (ks.map .str)), some (.str x), some (.loc μ.length), some (.str w), x4, x5, x6] (μ ++ [.lst (stk s)])) (fun y μ' => y = .lst ((lvs s).map .int) ∧ μ' = μ ++ [.lst (stk s)]) NoX := by
      simp -dsimp
      refine Wp.of (lc_map (xs := (s.take 2).reverse) (enc := sD) (fun y => .int (y.lev : Nat)) (src := .sq (.lst ((s.take 2).reverse.map sD))) (its_ok (by simp -dsimp; rw [ev_slLoc g0, stk_two]; simp -dsimp) rfl) (cap_small (by simp; omega)) fun y hy => ?_) ?_
      · simp -dsimp [wipeD, sD_lev]
      · simp -dsimp [lvs, Function.comp_def]
    simp -dsimp [-wps_if, -wp_rev]
    refine Wp.of lv.eq ?_
    simp -dsimp [-wps_if]
    have i1 : ∀ μ, oIn (.str w) (.lst (ks.map .str)) μ = some (.bl (decide (w ∈ ks)), μ) := fun μ => ev_inS rfl
    have i2 : ∀ μ, oIn (.str w) (.lst (kinds.map .str)) μ = some (.bl (decide (w ∈ kinds)), μ) := fun μ => ev_inS rfl
    have i3 : ∀ μ, oIn (.str w) (.lst [.str "all", .str "some"]) μ = some (.bl (decide (w ∈ both)), μ) := fun μ => ev_inS (ks := both) rfl
    have e2 : ∀ μ, oEq (.lst (DL.cutD ((lvs s).map .int) none (some 1))) (.lst [.int 0]) μ = some (.bl (decide ((lvs s).take 1 = [0])), μ) := fun μ => by rw [cut_1]; exact ev_eqLI (b := [0])
    have e3 : ∀ μ, oNe (.lst ((lvs s).map .int)) (.lst []) μ = some (.bl (!(lvs s).isEmpty), μ) := fun μ => by rw [ev_ne (ev_eqNil rfl)]; simp
    have hs : (stk s).length < 10000000 := stk_lt hn (by omega)
    have out : ∀ {ν : Store}, stp ks s w = none → Th (∃ ν', μ ++ ν = μ ++ ν' ∧ clo μ.length (.lst []) = true ∧ .lst [] = lasD ks x ∧ μ = μ) := fun {ν} h => Th.mk ⟨ν, rfl, rfl, by rw [lasD, bld_stop (hb2.trans h)], rfl⟩
    by_cases hk : w ∈ ks
    · simp -dsimp [i1, hk, lst_top, push_top hs, top_idx, idxL1]
      refine Th.mk ⟨.col w :: s, _, _, _, _, by rw [hb2]; simp only [stp, if_pos hk], by simp; omega, rfl, by rw [stk_cons]; rfl⟩
    · by_cases hq : w ∈ kinds
      · have n1 : ¬ w = "not" := fun e => kinds_not (e ▸ hq)
        have n2 : w ∉ both := fun e => (both_kinds e).1 hq
        have bn : (w == ("not" : Str)) = false := beq_false_of_ne n1
        cases s with
        | nil =>
          have e : stp ks [] w = none := by simp only [stp, if_neg hk, if_pos hq]
          have e2 : ∀ μ, oEq (.lst (DL.cutD ((lvs []).map .int) none (some 1))) (.lst [.int 0]) μ = some (.bl false, μ) := fun μ => by rw [e2]; rfl
          simp -dsimp [i1, hk, kinds_eq, i2, hq, e2, bn, i3, n2]
          exact out e
        | cons y r =>
          have l1 : (lvs (y :: r)).take 1 = [(y.lev : Int)] := by simp [lvs]
          rw [l1] at e2
          cases y with
          | frm f =>
            have e : stp ks (.frm f :: r) w = none := by simp only [stp, if_neg hk, if_pos hq]
            have l0 : decide ([((Ix.frm f).lev : Int)] = [0]) = false := by
              have := f.pos
              simp [Ix.lev]; omega
            have e2 : ∀ μ, oEq (.lst (DL.cutD ((lvs (.frm f :: r)).map .int) none (some 1))) (.lst [.int 0]) μ = some (.bl false, μ) := fun μ => by rw [e2, l0]
            simp -dsimp [i1, hk, kinds_eq, i2, hq, e2, bn, i3, n2]
            exact out e
          | col c =>
            have e : stp ks (.col c :: r) w = some (.frm (.leaf w c) :: r) := by simp only [stp, if_neg hk, if_pos hq]
            have l0 : decide ([((Ix.col c).lev : Int)] = [0]) = true := by simp [Ix.lev]
            have hr : (stk r).length < 10000000 := by rw [stk_cons, List.length_append] at hs; omega
            have e2 : ∀ μ, oEq (.lst (DL.cutD ((lvs (.col c :: r)).map .int) none (some 1))) (.lst [.int 0]) μ = some (.bl true, μ) := fun μ => by rw [e2, l0]
            simp -dsimp [i1, hk, kinds_eq, i2, hq, e2, stk_cons, lst_top, pop_top, sD_val, push_top hr, top_idx, idxL1]
            exact Th.mk ⟨.frm (.leaf w c) :: r, _, _, _, _, by rw [hb2, e], by simp only [List.length_cons] at hn ⊢; omega, rfl, by rw [stk_cons]; rfl⟩
      · by_cases hw0 : w = "not"
        · subst hw0
          have n2 : ("not" : Str) ∉ both := by decide
          cases s with
          | nil =>
            have e : stp ks [] "not" = none := by simp only [stp, if_neg hk, if_neg kinds_not, if_true]
            have e3 : ∀ μ, oNe (.lst ((lvs []).map .int)) (.lst []) μ = some (.bl false, μ) := fun μ => by rw [e3]; rfl
            simp -dsimp [i1, hk, kinds_eq, i2, hq, e3, i3, n2]
            exact out e
          | cons y r =>
            have ix : ∀ μ, oIdx (.lst ((lvs (y :: r)).map .int)) (.int 0) μ = some (.int (y.lev : Nat), μ) := fun μ => ev_idx rfl (by simp only [lvs, List.take_succ_cons, List.map_cons]; exact atI_zero _ _)
            have l1 : (lvs (y :: r)).isEmpty = false := by simp [lvs]
            rw [l1] at e3
            simp only [Bool.not_false] at e3
            cases y with
            | col c =>
              have e : stp ks (.col c :: r) "not" = none := by simp only [stp, if_neg hk, if_neg kinds_not, if_true]
              simp -dsimp [i1, hk, kinds_eq, i2, hq, e3, ix, Ix.lev, i3, n2]
              exact out e
            | frm f =>
              have hp : 0 < f.dep := f.pos
              have hr : (stk r).length < 10000000 := by rw [stk_cons, List.length_append] at hs; omega
              simp -dsimp [i1, hk, kinds_eq, i2, hq, e3, ix, Ix.lev, hp, stk_cons, lst_top, pop_top, sD_val, sD_lev, push_top hr, top_idx, idxL1]
              by_cases h6 : f.dep + 1 ≤ 6
              · have e : stp ks (.frm f :: r) "not" = some (.frm (.neg f) :: r) := by simp only [stp, if_neg hk, if_neg kinds_not, if_true, if_pos h6]
                have a6 : ¬ (6 : Int) < (f.dep : Nat) + 1 := by omega
                simp -dsimp [a6]
                exact Th.mk ⟨.frm (.neg f) :: r, _, _, _, _, by rw [hb2, e], by simp only [List.length_cons] at hn ⊢; omega, rfl, by rw [stk_cons]; rfl⟩
              · have e : stp ks (.frm f :: r) "not" = none := by simp only [stp, if_neg hk, if_neg kinds_not, if_true, if_neg h6]
                have a6 : (6 : Int) < (f.dep : Nat) + 1 := by omega
                simp -dsimp [a6]
                exact out e
        · have bn : (w == ("not" : Str)) = false := beq_false_of_ne hw0
          by_cases hbo : w ∈ both
          · have no : (∀ f g r, s ≠ .frm f :: .frm g :: r) → stp ks s w = none := fun h => by
              unfold stp
              rw [if_neg hk, if_neg hq, if_neg hw0, if_pos hbo]
              split
              · rename_i f g r; exact absurd rfl (h f g r)
              · rfl
            have ln : ∀ μ, oLen [.lst ((lvs s).map .int)] μ = some (.int (lvs s).length, μ) := fun μ => by simp
            cases s with
            | nil =>
              have ln : ∀ μ, oLen [.lst ((lvs []).map .int)] μ = some (.int 0, μ) := ln
              simp -dsimp [i1, hk, kinds_eq, i2, hq, bn, i3, hbo, ln]
              exact out (no (by simp))
            | cons y s2 =>
             cases s2 with
             | nil =>
              have ln : ∀ μ, oLen [.lst ((lvs [y]).map .int)] μ = some (.int 1, μ) := ln
              simp -dsimp [i1, hk, kinds_eq, i2, hq, bn, i3, hbo, ln]
              exact out (no (by simp))
             | cons z r =>
              obtain ⟨m, hm⟩ : ∃ m : Int, m = min (y.lev : Int) (z.lev : Int) := ⟨_, rfl⟩
              obtain ⟨M, hM⟩ : ∃ M : Int, M = max (y.lev : Int) (z.lev : Int) := ⟨_, rfl⟩
              have mn : ∀ μ, oMinL [.lst ((lvs (y :: z :: r)).map .int)] μ = some (.int m, μ) := fun μ => by rw [lvs_2, hm]; exact ev_minL
              have mx : ∀ μ, oMaxL [.lst ((lvs (y :: z :: r)).map .int)] μ = some (.int M, μ) := fun μ => by rw [lvs_2, hM]; exact ev_maxL
              have ln2 : ((lvs (y :: z :: r)).length : Int) = 2 := by rw [lvs_2]; rfl
              rw [ln2] at ln
              have hr : (stk r).length < 10000000 := by rw [stk_cons, stk_cons, List.length_append, List.length_append] at hs; omega
              cases y with
              | col c =>
                have a0 : ¬ (0 : Int) < m := by simp only [Ix.lev] at hm; omega
                simp -dsimp [i1, hk, kinds_eq, i2, hq, bn, i3, hbo, ln, mn, a0]
                exact out (no (by simp))
              | frm f =>
               cases z with
               | col c =>
                have a0 : ¬ (0 : Int) < m := by simp only [Ix.lev] at hm; omega
                simp -dsimp [i1, hk, kinds_eq, i2, hq, bn, i3, hbo, ln, mn, a0]
                exact out (no (by simp))
               | frm g =>
                have h1 := lev_pos f
                have h2 := lev_pos g
                simp only [Ix.lev] at hm hM
                have a0 : (0 : Int) < m := by omega
                simp -dsimp [i1, hk, kinds_eq, i2, hq, bn, i3, hbo, ln, mn, mx, a0, stk_cons, lst_top, pop_two, pop_top, sD_val, push_top hr, top_idx, idxL1]
                by_cases h6 : 1 + max f.dep g.dep ≤ 6
                · have e : stp ks (.frm f :: .frm g :: r) w = some (.frm (.two w f g) :: r) := by simp only [stp, if_neg hk, if_neg hq, if_neg hw0, if_pos hbo, if_pos h6]
                  have a6 : ¬ (6 : Int) < 1 + M := by omega
                  simp -dsimp [a6]
                  exact Th.mk ⟨.frm (.two w f g) :: r, _, _, _, _, by rw [hb2, e], by simp only [List.length_cons] at hn ⊢; omega, rfl, by
                    rw [stk_cons]; simp only [sD, fD, Fm.dep, Ix.lev, ixD]
                    have : (1 : Int) + M = ((1 + max f.dep g.dep : Nat) : Int) := by omega
                    rw [this]⟩
                · have e : stp ks (.frm f :: .frm g :: r) w = none := by simp only [stp, if_neg hk, if_neg hq, if_neg hw0, if_pos hbo, if_neg h6]
                  have a6 : (6 : Int) < 1 + M := by omega
                  simp -dsimp [a6]
                  exact out e
          · have e : stp ks s w = none := by simp only [stp, if_neg hk, if_neg hq, if_neg hw0, if_neg hbo]
            simp -dsimp [i1, hk, kinds_eq, i2, hq, bn, i3, hbo]
            exact out e
  · intro σ μ' ⟨s, x3, x4, x5, x6, hb, hn, hσ, hμ⟩
    subst hσ; subst hμ
    rw [List.length_reverse, List.length_map, Nat.sub_self, List.drop_zero] at hb
    have ln := ev_lenLoc (last_get μ (.lst (stk s)))
    rw [stk_len] at ln
    have out : (∀ f, s ≠ [.frm f]) → Th (∃ ν', μ ++ [.lst (stk s)] = μ ++ ν' ∧ clo μ.length (.lst []) = true ∧ .lst [] = lasD ks x ∧ μ = μ) := fun h => Th.mk ⟨_, rfl, rfl, by
      have : last ks (sws x) = none := by
        unfold last
        rw [hb]
        split
        · rename_i f e; cases e; exact absurd rfl (h f)
        · rfl
      rw [lasD, this], rfl⟩
    by_cases h1 : s.length = 1
    · obtain ⟨y, rfl⟩ : ∃ y, s = [y] := by
        match s, h1 with
        | [y], _ => exact ⟨y, rfl⟩
      have e0 : oIdx (.loc μ.length) (.int 0) (μ ++ [.lst (stk [y])]) = some (sD y, μ ++ [.lst (stk [y])]) := ev_idx (getS_loc (last_get _ _)) (atI_zero _ _)
      simp only [List.length_singleton] at ln
      cases y with
      | col c =>
        simp -dsimp [ln, e0, sD_lev, Ix.lev]
        exact out (by simp)
      | frm f =>
        have hp : 0 < f.dep := f.pos
        simp -dsimp [ln, e0, sD_lev, sD_val, Ix.lev, hp]
        refine Th.mk ⟨_, rfl, ?_, ?_, rfl⟩
        · simp [clo, clos, ixD, fD_clo]
        · simp only [lasD, last, hb, ixD]
    · have a1 : ((s.length : Int) == 1) = false := by rw [beq_eq_false_iff_ne]; omega
      simp -dsimp [ln, a1]
      exact out fun f e => h1 (by rw [e]; rfl)
end KK
/-! text S12 -/
/-! what is read of a text is right -/
namespace KK
open PySem PySem.Spec PyProof.Rows L2 DL TL
theorem told_repr {ks : List Str} {f : Fm} (hk : ∀ x ∈ ks, Nm x) (ok : f.Ok ks) (h6 : f.dep ≤ 6) : HasR (.lst [.str "told", fD f]) := by
  have w := word_wd hk ok
  have s1 := fD_sz w
  have s2 := words_126 h6
  refine HasR.pl ?_ ?_ ?_
  · have := fD_pl (f := f) (n := 11) (by omega)
    simp [pl, pls, this]
  · have := fD_tx w
    have e : (Str.ofString "told").cps.all (· < 0x110000) = true := by decide +kernel
    simp only [tx, txs, this, e, Bool.and_self]
  · have e : (Str.ofString "told").length = 4 := by decide +kernel
    simp only [szD, szDs, e]
    omega
theorem last_ok {ks ws : List Str} {f : Fm} (F : Free ks) (h : last ks ws = some f) : f.Ok ks ∧ f.dep ≤ 6 := by
  obtain ⟨_, h1, h2⟩ := rd_sound ((last_iff F).mp h)
  exact ⟨h1, h2⟩
theorem read_right_eq {ks : List Str} {x : Str} {t : Int} {μ : Store} (hk : ∀ x ∈ ks, Nm x) (hc : Cl μ) (hx : x.length ≤ 1000000) : m__law_read_right [formD ks, .lst (ks.map .str), .str x, .int t] μ = .ok (.bl true) μ := by
  have F := free_of hk
  refine Wp.eq ?_
  rw [m__law_read_right, b__law_read_right, wp_runB]
  simp -dsimp [startD, law_read_eq F hc hx]
  refine wp_for (its_rng (n := 2) rfl (by decide)) (fun i σ μ' => ∃ (x5 x6 : Option D), σ = [some (formD ks), some (.lst (ks.map .str)), some (.str x), some (.int t), some (lasD ks x), x5, x6] ∧ μ' = μ) ⟨_, _, rfl, rfl⟩ ?_ ?_
  · intro i d σ μ' hd ⟨x5, x6, hσ, hμ⟩
    obtain ⟨j, rfl⟩ : ∃ j : Int, d = .int j := by
      rw [List.getElem?_map] at hd
      cases e : (List.range 2)[i]? with
      | none => rw [e] at hd; cases hd
      | some q => rw [e] at hd; cases hd; exact ⟨_, rfl⟩
    subst hσ; subst hμ
    cases h : last ks (sws x) with
    | some f =>
      obtain ⟨ok, h6⟩ := last_ok F h
      have ed : lasD ks x = .lst [fD f] := by simp only [lasD, h]
      have t1 : ∀ t : Int, m__law_told [formD ks, .str x, .int t] μ' = .ok (.lst [.str "told", fD f]) μ' := fun t => told_yes (read_some F hc hx h)
      obtain ⟨z, hz⟩ := told_repr hk ok h6
      have n1 : ∀ μ, oNe (.lst [fD f]) (.lst []) μ = some (.bl true, μ) := fun μ => by rw [ev_ne (ev_eqNil rfl)]; rfl
      have n2 : ∀ μ, oEq (.lst [fD f]) (.lst []) μ = some (.bl false, μ) := fun μ => by rw [ev_eqNil rfl]; rfl
      have e0 : ∀ μ, oIdx (.lst [fD f]) (.int 0) μ = some (fD f, μ) := fun μ => ev_idx rfl (atI_zero _ _)
      rw [ed]
      simp -dsimp [t1, n1, n2, e0, hz]
      exact Th.mk ⟨_, _, rfl, rfl⟩
    | none =>
      have ed : lasD ks x = .lst [] := by simp only [lasD, h]
      have t1 : ∀ t : Int, m__law_told [formD ks, .str x, .int t] μ' = .ok (.lst [.str "text", .str x, .bl true]) μ' := fun t => told_no (read_none F hc hx h)
      have n1 : ∀ μ, oNe (.lst []) (.lst []) μ = some (.bl false, μ) := fun μ => by rw [ev_ne (ev_eqNil rfl)]; rfl
      have n2 : ∀ μ, oEq (.lst []) (.lst []) μ = some (.bl true, μ) := fun μ => by rw [ev_eqNil rfl]; rfl
      have e0 : ∀ (a b c : D) μ, oIdx (.lst [a, b, c]) (.int 0) μ = some (a, μ) := fun a b c μ => ev_idx rfl (atI_zero _ _)
      have e1 : ∀ (a b c : D) μ, oIdx (.lst [a, b, c]) (.int 1) μ = some (b, μ) := fun a b c μ => ev_idx rfl rfl
      have e2 : ∀ (a b c : D) μ, oIdx (.lst [a, b, c]) (.int 2) μ = some (c, μ) := fun a b c μ => ev_idx rfl rfl
      rw [ed]
      simp -dsimp [t1, n1, n2, e0, e1, e2]
      exact Th.mk ⟨_, _, rfl, rfl⟩
  · intro σ μ' ⟨x5, x6, hσ, hμ⟩
    subst hσ; subst hμ
    simp -dsimp
end KK
/-! text S13 -/
/-! what is no text -/
namespace KK
open PySem PySem.Spec PyProof.Rows L2 DL TL
theorem dict_wp {σ : Sg} {μ : Store} {x : Str} {d : D} {Q : D → Store → Prop} {E : XP} : (Wp (fDict false (pCons (fC (.str x)) (fC d) pNil) σ μ) Q E : Prop) = Q (.dK [.inr x] [d]) μ := by
  have : fDict false (pCons (fC (.str x)) (fC d) pNil) σ μ = .ok (.dK [.inr x] [d]) μ := by
    simp [fDict, pCons, pNil, fC, noX, keyPs, keyD, mergeP, putP, newDk, Res.bind]
  rw [this, Wp_ok]
theorem wd_tx {ws : List Str} (h : ∀ x ∈ ws, Wd x) : txs (ws.map .str) = true := txs_str fun x hx => (h x hx).real
theorem wd_sz : ∀ {ws : List Str}, (∀ x ∈ ws, Wd x) → szDs (ws.map .str) ≤ 100 * ws.length
  | [], _ => by simp [szDs]
  | w :: ws, h => by
    have h1 := (h w List.mem_cons_self).2.1
    rw [tl_len] at h1
    have := wd_sz fun x hx => h x (List.mem_cons_of_mem _ hx)
    simp only [List.map_cons, szDs, szD, List.length_cons]
    omega
theorem grown_ok : (Str.ofString "grown").cps.all (· < 0x110000) = true ∧ (Str.ofString "grown").length = 5 := by decide +kernel
theorem join_real {a : Str} {ks : List Str} (ha : a.cps.all (· < 0x110000) = true) (h : ∀ x ∈ ks, x.cps.all (· < 0x110000) = true) : (Txt.join a ks).cps.all (· < 0x110000) = true := by
  have key : ∀ z : Str, (∀ c ∈ tl z, c < 0x110000) ↔ z.cps.all (· < 0x110000) = true := fun z => by
    rw [Array.all_eq_true_iff_forall_mem]
    simp
  rw [← key, join_eq, tl_join]
  have ha' := (key a).mpr ha
  have h' : ∀ x ∈ ks.map tl, ∀ c ∈ x, c < 0x110000 := fun x hx => by
    obtain ⟨y, hy, rfl⟩ := List.mem_map.mp hx
    exact (key y).mpr (h y hy)
  generalize ks.map tl = ls at h'
  induction ls with
  | nil => simp [joinL]
  | cons l r ih =>
    cases r with
    | nil => simp only [joinL]; exact h' l List.mem_cons_self
    | cons q r =>
      simp only [joinL] at ih ⊢
      intro c hc
      rcases List.mem_append.mp hc with hc | hc
      · exact h' l List.mem_cons_self c hc
      · rcases List.mem_append.mp hc with hc | hc
        · exact ha' c hc
        · exact ih (fun x hx => h' x (List.mem_cons_of_mem _ hx)) c hc
theorem fText_real {ks : List Str} {f : Fm} (hk : ∀ x ∈ ks, Nm x) (ok : f.Ok ks) : (fText f).cps.all (· < 0x110000) = true :=
  join_real (by decide +kernel) fun x hx => (word_wd hk ok x hx).real
theorem form_repr {ks : List Str} (hk : ∀ x ∈ ks, Nm x) (hl : ks.length ≤ 10) : HasR (.tup (ks.map .str)) := by
  have w : ∀ x ∈ ks, Wd x := fun x hx => (hk x hx).1
  refine HasR.pl ?_ ?_ ?_
  · simp only [pl]; exact pls_str 11 ks
  · simp only [tx]; exact wd_tx w
  · have := wd_sz w
    simp only [szD]; omega
theorem no_text_eq {ks : List Str} {f : Fm} {way t : Int} {μ : Store} (hk : ∀ x ∈ ks, Nm x) (hl : ks.length ≤ 10) (ok : f.Ok ks) (h6 : f.dep ≤ 6) (hc : Cl μ) (w0 : 0 ≤ way) (w1 : way < 9) : m__law_no_text_right [formD ks, fD f, .int way, .int t] μ = .ok (.bl true) μ := by
  have hw := word_wd hk ok
  have h2 := sum_wd hw
  have h3 := words_126 h6
  refine Wp.eq ?_
  rw [m__law_no_text_right, b__law_no_text_right]
  refine wp_runS_pre hc ?_
  simp -dsimp [startD, -wps_if, dict_wp]
  refine words_wp (n := 8) (by omega) h6 fun ν J => ?_
  simp -dsimp [-wps_if, dict_wp, -List.append_assoc, -List.length_append]
  refine words_wp (n := 8) (by omega) h6 fun ν' J' => ?_
  rw [ev_joinB (ks := f.words) (by rw [sp_len]; omega) (getS_loc (last_get _ _))]
  simp -dsimp [-wps_if, dict_wp, -List.append_assoc, -List.length_append]
  have eS : μ ++ ν ++ [Ob.lst (f.words.map .str)] ++ ν' ++ [Ob.lst (f.words.map .str)] ++ [Ob.lst [.str (Txt.join " " f.words)]] = μ ++ (ν ++ [Ob.lst (f.words.map .str)] ++ ν' ++ [Ob.lst (f.words.map .str)] ++ [Ob.lst [.str (Txt.join " " f.words)]]) := by simp
  have gB := last_get (μ ++ ν ++ [Ob.lst (f.words.map .str)] ++ ν' ++ [Ob.lst (f.words.map .str)]) (.lst [.str (Txt.join " " f.words)])
  have gA : (μ ++ ν ++ [Ob.lst (f.words.map .str)] ++ ν' ++ [Ob.lst (f.words.map .str)] ++ [Ob.lst [.str (Txt.join " " f.words)]])[(μ ++ ν).length]? = some (.lst (f.words.map .str)) := by
    rw [List.append_assoc, List.append_assoc, List.append_assoc, List.getElem?_append_right (by simp)]
    simp
  have lA : μ.length ≤ (μ ++ ν).length := by simp
  have lB : μ.length ≤ (μ ++ ν ++ [Ob.lst (f.words.map .str)] ++ ν' ++ [Ob.lst (f.words.map .str)]).length := by simp
  generalize (μ ++ ν).length = a at gA lA
  generalize (μ ++ ν ++ [Ob.lst (f.words.map .str)] ++ ν' ++ [Ob.lst (f.words.map .str)]).length = b at gB lB
  generalize (ν ++ [Ob.lst (f.words.map .str)] ++ ν' ++ [Ob.lst (f.words.map .str)] ++ [Ob.lst [.str (Txt.join " " f.words)]]) = N at eS
  rw [eS] at gA gB
  rw [eS]
  refine wp_menu (xs := [D.non, .bl true, .int 7, .loc a, fD f, .tup [], .dK [Sum.inr "less"] [.str "a"], .loc b, formD ks]) rfl w0 (by simpa using w1) fun d hd => ?_
  have e0 : ∀ (a b c : D) μ, oIdx (.lst [a, b, c]) (.int 0) μ = some (a, μ) := fun a b c μ => ev_idx rfl (atI_zero _ _)
  have e1 : ∀ (a b c : D) μ, oIdx (.lst [a, b, c]) (.int 1) μ = some (b, μ) := fun a b c μ => ev_idx rfl rfl
  have kd : (∃ a, typeD (μ ++ N) d = some a ∧ a ∈ tyL ∧ a ≠ .b "str" ∧ a ≠ .b "list" ∧ a ≠ .c 61 ∧ HasR d) ∨ (∃ (m : Nat) (ws : List Str), d = .loc m ∧ (μ ++ N)[m]? = some (.lst (ws.map .str)) ∧ μ.length ≤ m ∧ ws.length ≤ 126 ∧ txs (ws.map .str) = true ∧ szDs (ws.map .str) ≤ 100000) ∨ d = formD ks := by
    simp only [List.mem_cons, List.mem_nil_iff, or_false] at hd
    rcases hd with rfl | rfl | rfl | rfl | rfl | rfl | rfl | rfl | rfl
    · exact .inl ⟨_, rfl, by decide, by decide, by decide, by decide, HasR.pl rfl rfl (by decide)⟩
    · exact .inl ⟨_, rfl, by decide, by decide, by decide, by decide, HasR.pl rfl rfl (by decide)⟩
    · exact .inl ⟨_, rfl, by decide, by decide, by decide, by decide, HasR.pl rfl rfl (by decide)⟩
    · exact .inr (.inl ⟨a, f.words, rfl, gA, lA, h3, wd_tx hw, by have := wd_sz hw; omega⟩)
    · refine .inl ⟨_, fD_ty f, by decide, by decide, by decide, by decide, HasR.pl (fD_pl (by omega)) (fD_tx hw) ?_⟩
      have := fD_sz hw
      omega
    · exact .inl ⟨_, rfl, by decide, by decide, by decide, by decide, HasR.pl rfl rfl (by decide)⟩
    · exact .inl ⟨_, rfl, by decide, by decide, by decide, by decide, HasR.ql rfl (by decide +kernel) (by decide +kernel)⟩
    · refine .inr (.inl ⟨b, [fText f], rfl, gB, lB, by simp, ?_, ?_⟩)
      · simp only [List.map_cons, List.map_nil, txs, tx, fText_real hk ok, Bool.and_self]
      · have := text_len hk ok h6
        simp only [List.map_cons, List.map_nil, szDs, szD]
        omega
    · exact .inr (.inr rfl)
  rcases kd with ⟨ty, ht, ha, n1, n2, n3, z, hz⟩ | ⟨m, ws, rfl, hm, hml, hwl, hwt, hws⟩ | rfl
  · have td := told_no (t := t) (read_ty (ks := ks) ht ha n1)
    simp only [tyL, List.mem_cons, List.mem_nil_iff, or_false] at ha
    rcases ha with rfl | rfl | rfl | rfl | rfl | rfl | rfl | rfl <;> first | exact absurd rfl n1 | exact absurd rfl n2 | exact absurd rfl n3 | skip
    all_goals
      simp -dsimp [startD, td, e0, e1, ht, hz]
      exact Th.mk ⟨N, rfl, rfl, rfl, rfl⟩
  · have ht := ty_loc hm
    have td := told_no (t := t) (read_ty (ks := ks) ht (by decide) (by decide))
    have i1 := ev_insert0 (d := .str "grown") hm (by simp; omega)
    have hm2 : ((μ ++ N).set m (.lst (.str "grown" :: ws.map .str)))[m]? = some (.lst (.str "grown" :: ws.map .str)) := by
      have := (List.getElem?_eq_some_iff.mp hm).1
      simp only [List.getElem?_set, if_true, this]
    have hz := repr_loc hm2 (by have := pls_str 11 ("grown" :: ws); simpa using this) (by simp only [txs, tx, hwt, grown_ok.1, Bool.and_self]) (by simp only [szDs, szD, grown_ok.2]; omega)
    simp -dsimp [startD, td, e0, e1, ht, isLst_loc hm, i1, hz]
    exact Th.mk ⟨_, set_pre hml, rfl, rfl, rfl⟩
  · have td := told_no (t := t) (read_ty (ks := ks) (μ := μ ++ N) (d := formD ks) ty_form (by decide) (by decide))
    obtain ⟨z, hz⟩ := form_repr hk hl
    simp -dsimp [startD, td, e0, e1, ty_form, fld_columns, hz]
    exact Th.mk ⟨N, rfl, rfl, rfl, rfl⟩
end KK
/-! text S14 -/
/-! formulas that are drawn -/
namespace KK
open PySem PySem.Spec PyProof.Rows L2 DL TL
def dr : Nat → Nat
  | 0 => 3
  | n + 1 => 2 * dr n + 3
theorem dr_3 : ∀ n, 3 ≤ dr n
  | 0 => Nat.le_refl _
  | n + 1 => by simp only [dr]; omega
section
variable {μ : Store} {n k : Nat} {o : Ob} {ks : List Str} {Q : D → Store → Prop} {E : XP}
theorem leaf_wp (hn : n < μ.length) (B : Bx k o) (hk : k < 800000) (h0 : 1 ≤ ks.length) (h4 : ks.length ≤ 4) (q : ∀ (f : Fm) (o' : Ob), f.Ok ks → f.dep = 1 → Bx (k + 2) o' → Q (fD f) (μ.set n o')) : Wp (m__law_leaf [.loc n, .lst (ks.map .str)] (μ.set n o)) Q E := by
  rw [m__law_leaf, b__law_leaf, wp_runB]
  simp -dsimp [startD, kinds_eq]
  refine take_wp hn B (by omega) (by decide) (by decide) fun u o1 u0 u1 B1 => ?_
  try simp -dsimp
  refine wp_menu rfl u0 (by simp [kinds]; omega) fun d hd => ?_
  obtain ⟨w, hw, rfl⟩ := List.mem_map.mp hd
  try simp -dsimp
  refine take_wp hn B1 (by omega) (by omega) (by omega) fun v o2 v0 v1 B2 => ?_
  try simp -dsimp
  refine wp_menu rfl v0 (by simpa using v1) fun d hd => ?_
  obtain ⟨c, hc, rfl⟩ := List.mem_map.mp hd
  try simp -dsimp
  exact q (.leaf w c) o2 ⟨hw, hc⟩ rfl (B2.mono (by omega))
end
theorem formula_wp : ∀ {m : Nat} {μ : Store} {n k : Nat} {o : Ob} {ks : List Str} {deep : Int} {Q : D → Store → Prop} {E : XP}, 1 ≤ m → deep ≤ m → n < μ.length → Bx k o → k + dr m < 700000 → 1 ≤ ks.length → ks.length ≤ 4 →
    (∀ (f : Fm) (o' : Ob), f.Ok ks → (f.dep : Int) ≤ max 1 deep → Bx (k + dr m) o' → Q (fD f) (μ.set n o')) → Wp (m__law_formula m [.loc n, .lst (ks.map .str), .int deep] (μ.set n o)) Q E
  | 0, _, _, _, _, _, _, _, _, h, _, _, _, _, _, _, _ => by omega
  | m + 1, μ, n, k, o, ks, deep, Q, E, _, hd, hn, B, hk, h0, h4, q => by
    have d3 := dr_3 m
    simp only [dr] at hk q
    rw [m__law_formula, b__law_formula, wp_runB]
    simp -dsimp [startD, -wps_if]
    refine take_wp hn B (by omega) (by decide) (by decide) fun way o1 w0 w1 B1 => ?_
    try simp -dsimp [-wps_if]
    by_cases hl : deep < 2 ∨ way = 0
    · have hlf : Wp (m__law_leaf [.loc n, .lst (ks.map .str)] (μ.set n o1)) Q E := leaf_wp hn B1 (by omega) h0 h4 fun f o2 ok hf B2 => q f o2 ok (by rw [hf]; simp; omega) (B2.mono (by omega))
      simp -dsimp
      refine Br.of (fun h => ?_) fun h => ?_
      · simp -dsimp
        exact hlf
      · simp at h
        have hw : way = 0 := by omega
        subst hw
        simp -dsimp
        exact hlf
    · obtain ⟨hl1, hl2⟩ := not_or.mp hl
      have b1 : (way == 0) = false := beq_false_of_ne hl2
      simp -dsimp [hl1, b1]
      have m1 : 1 ≤ m := by omega
      refine formula_wp (m := m) (deep := deep - 1) m1 (by omega) hn B1 (by omega) h0 h4 fun f o2 ok hf B2 => ?_
      try simp -dsimp
      refine Br.of (fun h => ?_) fun h => ?_
      · simp -dsimp
        refine q (.neg f) o2 ok ?_ (B2.mono (by omega))
        simp only [Fm.dep]; omega
      · simp at h
        have hm : ∀ (g : Fm) (o3 : Ob), g.Ok ks → (g.dep : Int) ≤ max 1 (deep - 1) → Bx (k + 1 + dr m + 1 + dr m) o3 → Wp (ofO (oIdx (.lst [.str "all", .str "some"]) (.int (way % 2)) (μ.set n o3))) (fun x μ' => Q (.tup [x, fD f, fD g]) μ') E := fun g o3 okg hg B3 => by
          have : way % 2 = 0 ∨ way % 2 = 1 := by omega
          rcases this with e | e
          · rw [e, ev_idx rfl (atI_zero _ _)]
            simp -dsimp
            refine q (.two "all" f g) o3 ⟨by decide, ok, okg⟩ ?_ (B3.mono (by omega))
            simp only [Fm.dep]; omega
          · rw [e, ev_idx (x := .str "some") rfl rfl]
            simp -dsimp
            refine q (.two "some" f g) o3 ⟨by decide, ok, okg⟩ ?_ (B3.mono (by omega))
            simp only [Fm.dep]; omega
        simp -dsimp
        refine take_wp hn B2 (by omega) (by decide) (by decide) fun u o3 u0 u1 B3 => ?_
        try simp -dsimp
        refine Br.of (fun h2 => ?_) fun h2 => ?_
        · simp -dsimp
          refine (hm f o3 ok hf (B3.mono (by omega))).mono (fun x μ' h => ?_) fun _ _ _ h => h
          simp -dsimp
          exact h
        · simp -dsimp
          refine formula_wp (m := m) (deep := deep - 1) m1 (by omega) hn B3 (by omega) h0 h4 fun g o4 okg hg B4 => ?_
          try simp -dsimp
          refine (hm g o4 okg hg B4).mono (fun x μ' h => ?_) fun _ _ _ h => h
          simp -dsimp
          exact h
theorem tall_wp {μ : Store} {n k D0 : Nat} {o : Ob} {ks : List Str} {Q : D → Store → Prop} {E : XP} (h1 : 1 ≤ D0) (h6 : D0 ≤ 6) (hn : n < μ.length) (B : Bx k o) (hk : k < 600000) (h0 : 1 ≤ ks.length) (h4 : ks.length ≤ 4)
    (q : ∀ (f : Fm) (o' : Ob), f.Ok ks → f.dep ≤ D0 → Bx (k + 10000) o' → Q (fD f) (μ.set n o')) : Wp (m__law_tall [.loc n, .lst (ks.map .str), .int (D0 : Nat)] (μ.set n o)) Q E := by
  have d8 : dr 8 = 1533 := by decide
  rw [m__law_tall, b__law_tall, wp_runB]
  simp -dsimp [startD]
  refine leaf_wp hn B (by omega) h0 h4 fun f o1 ok hf B1 => ?_
  try simp -dsimp
  refine wp_for (its_rng (fa := fBin oSub (fV 2) (fC (.int 1))) (σ := [some (.loc n), some (.lst (ks.map .str)), some (.int (D0 : Nat)), some (fD f), none, none, none, none]) (n := D0 - 1) (Wp.eq (by simp -dsimp; omega)) (by omega)) (fun i σ μ' => ∃ (f : Fm) (o : Ob) (x4 x5 x6 x7 : Option D), f.Ok ks ∧ f.dep ≤ i + 1 ∧ σ = [some (.loc n), some (.lst (ks.map .str)), some (.int (D0 : Nat)), some (fD f), x4, x5, x6, x7] ∧ μ' = μ.set n o ∧ Bx (k + 2 + 1600 * i) o)
    ⟨f, o1, none, none, none, none, ok, by omega, rfl, rfl, B1.mono (by omega)⟩ ?_ ?_
  · intro i d σ μ' hd ⟨f, o, x4, x5, x6, x7, ok, hf, hσ, hμ, B⟩
    subst hσ; subst hμ
    have hi : i < D0 - 1 := by
      have := (List.getElem?_eq_some_iff.mp hd).1
      simpa using this
    obtain rfl : d = .int (i : Nat) := by
      rw [List.getElem?_map, List.getElem?_range hi] at hd
      cases hd; rfl
    have mn : ∀ μ, ∃ j : Int, 1 ≤ j ∧ j ≤ 2 ∧ j ≤ i + 1 ∧ oMin [.int 2, .int ((i : Nat) + 1)] μ = some (.int j, μ) := fun μ => by
      refine ⟨_, ?_, ?_, ?_, rfl⟩ <;> split <;> omega
    simp -dsimp [-wps_if]
    obtain ⟨j, j1, j2, j3, hj⟩ := mn (μ.set n o)
    rw [hj]
    simp -dsimp [-wps_if]
    refine formula_wp (m := 8) (deep := j) (by decide) (by omega) hn B (by omega) h0 h4 fun g o2 okg hg B2 => ?_
    try simp -dsimp [-wps_if]
    refine take_wp hn B2 (by omega) (by decide) (by decide) fun way o3 w0 w1 B3 => ?_
    try simp -dsimp
    refine Br.of (fun h => ?_) fun h => ?_
    · simp -dsimp
      exact Th.mk ⟨.neg f, o3, _, _, _, _, ok, by simp only [Fm.dep]; omega, rfl, rfl, B3.mono (by omega)⟩
    · simp at h
      have mk2 : ∀ (a b : Fm) (o : Ob) (x7 : Option D), a.Ok ks → b.Ok ks → a.dep ≤ i + 1 → b.dep ≤ i + 1 → Bx (k + 2 + 1600 * i + dr 8 + 1) o → ∀ x7 : Option D, x7 = some (.tup [fD a, fD b]) → WpS (sAsg (gN 3) (fBin (oAdd false) (fTup (aCons (fBin oIdx (fLst false (aCons (fC (.str "all")) (aCons (fC (.str "some")) (aNil)))) (fCall 2 m__law_take (aCons (fV 0) (aCons (fC (.int 2)) (aNil))))) (aNil))) (fV 7)) [some (.loc n), some (.lst (ks.map .str)), some (.int (D0 : Nat)), some (fD f), some (.int (i : Nat)), some (fD g), some (.int way), x7] (μ.set n o))
          (fun σ μ' => Th (∃ (f : Fm) (o : Ob) (x4 x5 x6 x7 : Option D), f.Ok ks ∧ f.dep ≤ i + 1 + 1 ∧ σ = [some (.loc n), some (.lst (ks.map .str)), some (.int (D0 : Nat)), some (fD f), x4, x5, x6, x7] ∧ μ' = μ.set n o ∧ Bx (k + 2 + 1600 * (i + 1)) o)) Q E := by
        intro a b o x7 oka okb ha hb B x7 hx
        subst hx
        simp -dsimp
        refine take_wp hn B (by omega) (by decide) (by decide) fun u o4 u0 u1 B4 => ?_
        try simp -dsimp
        refine wp_menu (xs := both.map .str) rfl u0 (by simp [both]; omega) fun d hd => ?_
        obtain ⟨w, hw, rfl⟩ := List.mem_map.mp hd
        try simp -dsimp
        rw [ev_addT (by simp)]
        simp -dsimp
        exact Th.mk ⟨.two w a b, o4, _, _, _, _, ⟨hw, oka, okb⟩, by simp only [Fm.dep]; omega, rfl, rfl, B4.mono (by omega)⟩
      simp -dsimp [-wps_asg]
      rw [wps_asg]
      simp -dsimp [-wps_asg]
      refine Br.of (fun h2 => ?_) fun h2 => ?_
      · simp -dsimp [-wps_asg]
        exact mk2 f g o3 none ok okg hf (by omega) B3 _ rfl
      · simp -dsimp [-wps_asg]
        exact mk2 g f o3 none okg ok (by omega) hf B3 _ rfl
  · intro σ μ' ⟨f, o, x4, x5, x6, x7, ok, hf, hσ, hμ, B⟩
    subst hσ; subst hμ
    simp only [List.length_map, List.length_range] at hf B
    simp -dsimp
    exact q f o ok (by omega) (B.mono (by omega))
end KK
/-! text S15 -/
/-! texts that are spoilt -/
namespace KK
open PySem PySem.Spec PyProof.Rows L2 DL TL
/-- a def whose own objects are all let go, what stood ahead of it changed -/
theorem wp_runS_set {n : Nat} {body : SF} {ds : List D} {μ : Store} {Q : D → Store → Prop} {E : XP}
    (h : WpS (body (startD n ds) μ) (fun _ _ => False) (fun d μ' => Th (∃ μ1 ν, μ' = μ1 ++ ν ∧ μ1.length = μ.length ∧ clo μ.length d = true ∧ (∀ o ∈ μ1, cloO μ.length o = true) ∧ Q d μ1)) NoX) : Wp (runS n body ds μ) Q E := by
  unfold runS runB
  cases q : body (startD n ds) μ with
  | ret d μ' =>
    rw [q, WpS_ret, Th_eq] at h
    obtain ⟨μ1, ν, rfl, h1, h2, h3, h4⟩ := h
    have e : (μ1 ++ ν).take μ.length = μ1 := by rw [← h1]; exact List.take_left' rfl
    exact Wp.of (a := d) (μ := μ1) (by show sealR μ.length (.ok d (μ1 ++ ν)) = _; rw [seal_ok h2 (by rw [e]; exact h3), e]) h4
  | next => rw [q, WpS_next] at h; exact h.elim
  | exc => rw [q, WpS_exc] at h; exact h.elim
  | brk => rw [q, WpS_brk] at h; exact h.elim
  | cont => rw [q, WpS_cont] at h; exact h.elim
  | stuck => rw [q, WpS_stuck] at h; exact h.elim
/-- other words of a text -/
def odds : List Str := ["all", "some", "not", "none", "if", "", "and"]
theorem odds_len : ∀ x ∈ odds, x.length ≤ 8 := by decide +kernel
theorem kinds_len : ∀ x ∈ kinds, x.length ≤ 8 := by decide +kernel
section
variable {μ : Store} {n k : Nat} {o : Ob} {ks : List Str} {Q : D → Store → Prop} {E : XP}
theorem word_wp (hn : n < μ.length) (B : Bx k o) (hk : k < 800000) (hks : ∀ x ∈ ks, Nm x) (h4 : ks.length ≤ 4) (q : ∀ (x : Str) (o' : Ob), x.length ≤ 30 → Bx (k + 2) o' → Q (.str x) (μ.set n o')) : Wp (m__law_word [.loc n, .lst (ks.map .str)] (μ.set n o)) Q E := by
  rw [m__law_word, b__law_word, wp_runB]
  simp -dsimp [startD, kinds_eq]
  rw [show [D.str "all", .str "some", .str "not", .str "none", .str "if", .str "", .str "and"] = odds.map .str from rfl, ev_addL (by simp [kinds, odds])]
  simp -dsimp [-List.append_assoc]
  have e : kinds.map D.str ++ odds.map D.str ++ ks.map D.str = (kinds ++ (odds ++ ks)).map .str := by simp
  rw [ev_addL (by simp [kinds, odds]; omega), e]
  have l : (kinds ++ (odds ++ ks)).length ≤ 20 ∧ 1 ≤ (kinds ++ (odds ++ ks)).length := by simp [kinds, odds]; omega
  have w8 : ∀ x ∈ kinds ++ (odds ++ ks), x.length ≤ 8 := fun x hx => by
    rcases List.mem_append.mp hx with h | h
    · exact kinds_len x h
    · rcases List.mem_append.mp h with h | h
      · exact odds_len x h
      · exact (hks x h).len
  generalize kinds ++ (odds ++ ks) = ms at l w8
  simp -dsimp
  refine take_wp hn B (by omega) (by simp; omega) (by simp; omega) fun u o1 u0 u1 B1 => ?_
  try simp -dsimp
  refine wp_menu rfl u0 (by simpa using u1) fun d hd => ?_
  obtain ⟨x, hx, rfl⟩ := List.mem_map.mp hd
  have hx8 := w8 x hx
  try simp -dsimp
  refine take_wp hn B1 (by omega) (by decide) (by decide) fun v o2 v0 v1 B2 => ?_
  try simp -dsimp
  refine Br.of (fun h => ?_) fun h => ?_
  · simp -dsimp
    have l1 : (Str.ofString "s").length = 1 := by decide +kernel
    rw [ev_addS (by omega)]
    simp -dsimp
    exact q _ o2 (by rw [strLen_append]; omega) (B2.mono (by omega))
  · simp -dsimp
    refine Br.of (fun h => ?_) fun h => ?_
    · have hu : oUpper (.str x) [] (μ.set n o2) = some (.str (Txt.upper x), μ.set n o2) := by
        simp only [oUpper]
        rw [if_pos (by omega)]
      have := PyProof.Rows.len_upper x
      simp -dsimp [hu]
      exact q _ o2 (by omega) (B2.mono (by omega))
    · simp -dsimp
      exact q _ o2 (by omega) (B2.mono (by omega))
end
end KK
/-! text S16 -/
/-! texts that are spoilt -/
namespace KK
open PySem PySem.Spec PyProof.Rows L2 DL TL
theorem nl_len : (Str.ofString "\n").length = 1 ∧ (Str.ofString "").length = 0 ∧ (Str.ofString ", ").length = 2 ∧ (Str.ofString "(").length = 1 ∧ (Str.ofString ")").length = 1 ∧ (Str.ofString "  ").length = 2 ∧ (Str.ofString "not ").length = 4 := by decide +kernel
theorem own_put {μ N : Store} {n a : Nat} {o l : Ob} (h : μ.length ≤ a) (hn : n < μ.length) : ((μ ++ N).set n o).set a l = (μ ++ N.set (a - μ.length) l).set n o := by
  rw [List.set_comm _ _ (by omega), List.set_append_right _ _ h]
theorem own_see {μ N : Store} {n a : Nat} {o : Ob} (h : μ.length ≤ a) (hn : n < μ.length) : ((μ ++ N).set n o)[a]? = (μ ++ N)[a]? := by
  rw [List.getElem?_set_ne (by omega)]
theorem own_new {μ N : Store} {a : Nat} {l : Ob} (h : μ.length ≤ a) (ha : a < (μ ++ N).length) : (μ ++ N.set (a - μ.length) l)[a]? = some l := by
  rw [← List.set_append_right _ _ h]
  simp [List.getElem?_set, ha]
  simpa using ha
/-- words and where they stand -/
structure Wl (μ N : Store) (a : Nat) (ws : List Str) : Prop where
  lo : μ.length ≤ a
  at_ : (μ ++ N)[a]? = some (.lst (ws.map .str))
  few : ws.length ≤ 300
  wd : ∀ x ∈ ws, x.length ≤ 30
theorem Wl.hi {μ N : Store} {a : Nat} {ws : List Str} (h : Wl μ N a ws) : a < (μ ++ N).length := (List.getElem?_eq_some_iff.mp h.at_).1
theorem Wl.put {μ N : Store} {a : Nat} {ws ws' : List Str} (h : Wl μ N a ws) (h1 : ws'.length ≤ 300) (h2 : ∀ x ∈ ws', x.length ≤ 30) : Wl μ (N.set (a - μ.length) (.lst (ws'.map .str))) a ws' := ⟨h.lo, own_new h.lo h.hi, h1, h2⟩
theorem map_set (ws : List Str) (i : Nat) (x : Str) : (ws.map D.str).set i (.str x) = (ws.set i x).map D.str := by rw [List.map_set]
def insW (ws : List Str) (i : Nat) (x : Str) : List Str := ws.take i ++ [x] ++ ws.drop i
theorem insW_len (ws : List Str) (i : Nat) (x : Str) : (insW ws i x).length = ws.length + 1 := by simp [insW]; omega
theorem map_ins (ws : List Str) (i : Nat) (x : Str) : (ws.map D.str).take i ++ [.str x] ++ (ws.map D.str).drop i = (insW ws i x).map D.str := by simp [insW, List.map_take, List.map_drop]
theorem map_era : ∀ (ws : List Str) (i : Nat), (ws.map D.str).eraseIdx i = (ws.eraseIdx i).map D.str
  | [], _ => rfl
  | _ :: _, 0 => rfl
  | w :: ws, i + 1 => by simp [map_era ws i]
theorem mem_ins {ws : List Str} {i : Nat} {x y : Str} (h : y ∈ insW ws i x) : y ∈ ws ∨ y = x := by
  simp only [insW, List.mem_append, List.mem_singleton] at h
  rcases h with (h | h) | h
  · exact .inl (List.mem_of_mem_take h)
  · exact .inr h
  · exact .inl (List.mem_of_mem_drop h)
theorem mem_set2 {ws : List Str} {i : Nat} {x y : Str} (h : y ∈ ws.set i x) : y ∈ ws ∨ y = x := List.mem_or_eq_of_mem_set h
theorem sum_30 : ∀ {ws : List Str}, (∀ x ∈ ws, x.length ≤ 30) → (ws.map (·.length)).sum ≤ 30 * ws.length
  | [], _ => by simp
  | w :: ws, h => by
    have h1 := h w List.mem_cons_self
    have := sum_30 fun x hx => h x (List.mem_cons_of_mem _ hx)
    simp only [List.map_cons, List.sum_cons, List.length_cons]
    omega
theorem spoilt_wp {μ : Store} {n k : Nat} {o : Ob} {ks : List Str} {f : Fm} {Q : D → Store → Prop} {E : XP} (hc : Cl μ) (hn : n < μ.length) (B : Bx k o) (hk : k < 700000) (hks : ∀ x ∈ ks, Nm x) (h4 : ks.length ≤ 4) (ok : f.Ok ks) (h6 : f.dep ≤ 6)
    (q : ∀ (x : Str) (o' : Ob), x.length ≤ 1000000 → Bx (k + 20) o' → Q (.str x) (μ.set n o')) : Wp (m__law_spoilt [.loc n, .lst (ks.map .str), fD f] (μ.set n o)) Q E := by
  have hw := word_wd hks ok
  have h3 := words_126 h6
  have hp := words_pos f
  have hw30 : ∀ x ∈ f.words, x.length ≤ 30 := fun x hx => by have := (hw x hx).2.1; rw [tl_len] at this; omega
  rw [m__law_spoilt, b__law_spoilt]
  refine wp_runS_set ?_
  rw [List.length_set]
  simp -dsimp [startD, -wps_if]
  refine words_wp (n := 8) (by omega) h6 fun ν J => ?_
  have eS : ∀ o, μ.set n o ++ ν ++ [Ob.lst (f.words.map .str)] = (μ ++ (ν ++ [Ob.lst (f.words.map .str)])).set n o := fun o => by rw [List.append_assoc, List.set_append_left _ _ hn]
  have W : Wl μ (ν ++ [Ob.lst (f.words.map .str)]) (μ.set n o ++ ν).length f.words := by
    refine ⟨by simp, ?_, by omega, hw30⟩
    have := last_get (μ ++ ν) (.lst (f.words.map .str))
    rw [List.append_assoc] at this
    simpa using this
  rw [eS]
  generalize (μ.set n o ++ ν).length = a at W
  generalize ν ++ [Ob.lst (f.words.map .str)] = N at W
  have hnN : ∀ N : Store, n < (μ ++ N).length := fun N => by simp; omega
  have see : ∀ {N : Store} {a : Nat} {ws : List Str} (o : Ob), Wl μ N a ws → ((μ ++ N).set n o)[a]? = some (.lst (ws.map .str)) := fun o W => by rw [own_see W.lo hn]; exact W.at_
  try simp -dsimp [-wps_if, -List.append_assoc]
  refine take_wp (hnN _) B (by omega) (by decide) (by decide) fun way o1 w0 w1 B1 => ?_
  try simp -dsimp [-wps_if]
  rw [ev_lenLoc (see o1 W)]
  try simp -dsimp [-wps_if]
  refine take_wp (hnN _) B1 (by omega) (by omega) (by omega) fun place o2 p0 p1 B2 => ?_
  try simp -dsimp [-wps_if]
  rw [ev_lenLoc (see o2 W)]
  try simp -dsimp [-wps_if]
  refine take_wp (hnN _) B2 (by omega) (by omega) (by omega) fun other o3 t0 t1 B3 => ?_
  try simp -dsimp [-wps_if]
  -- a word left out
  refine WpS.cut (N' := fun σ μ' => ∃ (ws : List Str) (a : Nat) (N : Store) (o : Ob), (0 < way → ws = f.words) ∧ Wl μ N a ws ∧ Bx (k + 4) o ∧ σ = [some (.loc n), some (.lst (ks.map .str)), some (fD f), some (.loc a), some (.int way), some (.int place), some (.int other), none] ∧ μ' = (μ ++ N).set n o) ?_ ?_
  · simp -dsimp
    refine Br.of (fun h => ?_) fun h => ?_
    · simp at h; subst h
      obtain ⟨x, hx⟩ : ∃ x, f.words[place.toNat]? = some x := ⟨_, List.getElem?_eq_getElem (by omega)⟩
      simp -dsimp [isLst_loc (see o3 W)]
      rw [ev_popAt (see o3 W) p0 (by simpa using p1) (x := .str x) (by rw [List.getElem?_map, hx]; rfl) (by simp; omega), own_put W.lo hn, map_era]
      simp -dsimp
      exact Th.mk ⟨_, a, _, o3, by omega, W.put (by rw [List.length_eraseIdx]; split <;> omega) (fun x hx => hw30 x (List.mem_of_mem_eraseIdx hx)), B3.mono (by omega), rfl, rfl⟩
    · simp -dsimp
      exact Th.mk ⟨f.words, a, N, o3, fun _ => rfl, W, B3.mono (by omega), rfl, rfl⟩
  intro σ μ' ⟨ws, a, N, o4, hws, W, B4, hσ, hμ⟩
  subst hσ; subst hμ
  try simp -dsimp [-wps_if]
  -- a word twice
  refine WpS.cut (N' := fun σ μ' => ∃ (ws : List Str) (a : Nat) (N : Store) (o : Ob), (1 < way → ws = f.words) ∧ Wl μ N a ws ∧ Bx (k + 4) o ∧ σ = [some (.loc n), some (.lst (ks.map .str)), some (fD f), some (.loc a), some (.int way), some (.int place), some (.int other), none] ∧ μ' = (μ ++ N).set n o) ?_ ?_
  · simp -dsimp
    refine Br.of (fun h => ?_) fun h => ?_
    · simp at h; subst h
      have e := hws (by omega)
      subst e
      obtain ⟨x, hx⟩ : ∃ x, f.words[place.toNat]? = some x := ⟨_, List.getElem?_eq_getElem (by omega)⟩
      have hxm := List.mem_of_getElem? hx
      simp -dsimp [isLst_loc (see o4 W)]
      rw [ev_idx (x := .str x) (getS_loc (see o4 W)) (by rw [atI_pos p0 (by simpa using p1), List.getElem?_map, hx]; rfl)]
      simp -dsimp
      rw [ev_insertI (see o4 W) p0 (by omega) (by simp; omega), own_put W.lo hn, map_ins]
      simp -dsimp
      refine Th.mk ⟨_, a, _, o4, by omega, W.put (by rw [insW_len]; omega) (fun y hy => ?_), B4, rfl, rfl⟩
      rcases mem_ins hy with h | rfl
      · exact hw30 y h
      · exact hw30 y hxm
    · simp at h
      simp -dsimp
      exact Th.mk ⟨ws, a, N, o4, fun _ => hws (by omega), W, B4, rfl, rfl⟩
  clear hws W B4
  intro σ μ' ⟨ws, a, N, o4, hws, W, B4, hσ, hμ⟩
  subst hσ; subst hμ
  try simp -dsimp [-wps_if]
  -- two words exchanged
  refine WpS.cut (N' := fun σ μ' => ∃ (ws : List Str) (a : Nat) (N : Store) (o : Ob), (2 < way → ws = f.words) ∧ Wl μ N a ws ∧ Bx (k + 4) o ∧ σ = [some (.loc n), some (.lst (ks.map .str)), some (fD f), some (.loc a), some (.int way), some (.int place), some (.int other), none] ∧ μ' = (μ ++ N).set n o) ?_ ?_
  · simp -dsimp
    refine Br.of (fun h => ?_) fun h => ?_
    · simp at h; subst h
      have e := hws (by omega)
      subst e
      obtain ⟨x, hx⟩ : ∃ x, f.words[place.toNat]? = some x := ⟨_, List.getElem?_eq_getElem (by omega)⟩
      obtain ⟨y, hy⟩ : ∃ y, f.words[other.toNat]? = some y := ⟨_, List.getElem?_eq_getElem (by omega)⟩
      have hxm := List.mem_of_getElem? hx
      have hym := List.mem_of_getElem? hy
      simp -dsimp
      rw [ev_idx (x := .str y) (getS_loc (see o4 W)) (by rw [atI_pos t0 (by simpa using t1), List.getElem?_map, hy]; rfl)]
      simp -dsimp
      rw [ev_idx (x := .str x) (getS_loc (see o4 W)) (by rw [atI_pos p0 (by simpa using p1), List.getElem?_map, hx]; rfl)]
      simp -dsimp
      rw [ev_setAt (see o4 W) p0 (by simpa using p1), own_put W.lo hn, map_set]
      have W2 := W.put (ws' := f.words.set place.toNat y) (by simp; omega) (fun z hz => by
        rcases mem_set2 hz with h | rfl
        · exact hw30 z h
        · exact hw30 z hym)
      generalize hv : f.words.set place.toNat y = vs at W2
      have hvl : vs.length = f.words.length := by rw [← hv]; simp
      have hv30 := W2.wd
      simp -dsimp
      rw [ev_setAt (see o4 W2) t0 (by simp; omega), own_put W2.lo hn, map_set]
      have W3 := W2.put (ws' := vs.set other.toNat x) (by simp; omega) (fun z hz => by
        rcases mem_set2 hz with h | rfl
        · exact hv30 z h
        · exact hw30 z hxm)
      generalize vs.set other.toNat x = us at W3
      rw [List.set_set] at W3
      simp -dsimp
      exact Th.mk ⟨us, a, N.set (a - μ.length) (.lst (us.map .str)), o4, by omega, W3, B4, rfl, rfl⟩
    · simp at h
      simp -dsimp
      exact Th.mk ⟨ws, a, N, o4, fun _ => hws (by omega), W, B4, rfl, rfl⟩
  clear hws W B4
  intro σ μ' ⟨ws, a, N, o4, hws, W, B4, hσ, hμ⟩
  subst hσ; subst hμ
  try simp -dsimp [-wps_if]
  -- another word in the place
  refine WpS.cut (N' := fun σ μ' => ∃ (ws : List Str) (a : Nat) (N : Store) (o : Ob), (4 < way → ws = f.words) ∧ Wl μ N a ws ∧ Bx (k + 6) o ∧ σ = [some (.loc n), some (.lst (ks.map .str)), some (fD f), some (.loc a), some (.int way), some (.int place), some (.int other), none] ∧ μ' = (μ ++ N).set n o) ?_ ?_
  · by_cases h : way = 3 ∨ way = 4
    · have e := hws (by omega)
      subst e
      have go : ∀ {R : D → Store → Prop} {E : XP}, WpS (sSet (fV 3) (fV 5) (fCall 2 m__law_word (aCons (fV 0) (aCons (fV 1) (aNil)))) [some (.loc n), some (.lst (ks.map .str)), some (fD f), some (.loc a), some (.int way), some (.int place), some (.int other), none] ((μ ++ N).set n o4))
          (fun σ μ' => Th (∃ (ws : List Str) (a : Nat) (N : Store) (o : Ob), (4 < way → ws = f.words) ∧ Wl μ N a ws ∧ Bx (k + 6) o ∧ σ = [some (.loc n), some (.lst (ks.map .str)), some (fD f), some (.loc a), some (.int way), some (.int place), some (.int other), none] ∧ μ' = (μ ++ N).set n o)) R E := by
        intro R E
        simp -dsimp
        refine word_wp (hnN _) B4 (by omega) hks h4 fun x o5 hx B5 => ?_
        try simp -dsimp
        rw [ev_setAt (see o5 W) p0 (by simpa using p1), own_put W.lo hn, map_set]
        have W2 := W.put (ws' := f.words.set place.toNat x) (by simp; omega) (fun z hz => by
          rcases mem_set2 hz with h | rfl
          · exact hw30 z h
          · exact hx)
        generalize f.words.set place.toNat x = vs at W2
        simp -dsimp
        exact Th.mk ⟨vs, a, _, o5, by omega, W2, B5.mono (by omega), rfl, rfl⟩
      rcases h with rfl | rfl
      · simp -dsimp [-wps_set]
        exact go
      · simp -dsimp [-wps_set]
        exact go
    · obtain ⟨n1, n2⟩ := not_or.mp h
      have b1 : (way == 3) = false := beq_false_of_ne n1
      have b2 : (way == 4) = false := beq_false_of_ne n2
      simp -dsimp [b1, b2]
      exact Th.mk ⟨ws, a, N, o4, fun _ => hws (by omega), W, B4.mono (by omega), rfl, rfl⟩
  clear hws W B4
  intro σ μ' ⟨ws, a, N, o4, hws, W, B4, hσ, hμ⟩
  subst hσ; subst hμ
  try simp -dsimp [-wps_if]
  -- a word put in
  refine WpS.cut (N' := fun σ μ' => ∃ (ws : List Str) (a : Nat) (N : Store) (o : Ob), (5 < way → ws = f.words) ∧ Wl μ N a ws ∧ Bx (k + 8) o ∧ σ = [some (.loc n), some (.lst (ks.map .str)), some (fD f), some (.loc a), some (.int way), some (.int place), some (.int other), none] ∧ μ' = (μ ++ N).set n o) ?_ ?_
  · simp -dsimp
    refine Br.of (fun h => ?_) fun h => ?_
    · simp at h; subst h
      have e := hws (by omega)
      subst e
      simp -dsimp [isLst_loc (see o4 W)]
      refine word_wp (hnN _) B4 (by omega) hks h4 fun x o5 hx B5 => ?_
      try simp -dsimp
      rw [ev_insertI (see o5 W) p0 (by omega) (by simp; omega), own_put W.lo hn, map_ins]
      simp -dsimp
      refine Th.mk ⟨_, a, _, o5, by omega, W.put (by rw [insW_len]; omega) (fun y hy => ?_), B5.mono (by omega), rfl, rfl⟩
      rcases mem_ins hy with h | rfl
      · exact hw30 y h
      · exact hx
    · simp at h
      simp -dsimp
      exact Th.mk ⟨ws, a, N, o4, fun _ => hws (by omega), W, B4.mono (by omega), rfl, rfl⟩
  clear hws W B4
  intro σ μ' ⟨ws, a, N, o4, hws, W, B4, hσ, hμ⟩
  subst hσ; subst hμ
  try simp -dsimp [-wps_if]
  -- two texts as one
  refine WpS.cut (N' := fun σ μ' => ∃ (ws : List Str) (a : Nat) (N : Store) (o : Ob), (6 < way → ws = f.words) ∧ Wl μ N a ws ∧ Bx (k + 8) o ∧ σ = [some (.loc n), some (.lst (ks.map .str)), some (fD f), some (.loc a), some (.int way), some (.int place), some (.int other), none] ∧ μ' = (μ ++ N).set n o) ?_ ?_
  · simp -dsimp
    refine Br.of (fun h => ?_) fun h => ?_
    · simp at h; subst h
      have e := hws (by omega)
      subst e
      simp -dsimp
      rw [ev_addM (see o4 W) (see o4 W) (by simp; omega)]
      have eS2 : (μ ++ N).set n o4 ++ [Ob.lst (f.words.map D.str ++ f.words.map D.str)] = (μ ++ (N ++ [Ob.lst ((f.words ++ f.words).map .str)])).set n o4 := by rw [← List.append_assoc, List.set_append_left _ _ (hnN N), List.map_append]
      have W2 : Wl μ (N ++ [Ob.lst ((f.words ++ f.words).map .str)]) (μ ++ N).length (f.words ++ f.words) := by
        refine ⟨by simp, ?_, by simp; omega, fun x hx => by
          rcases List.mem_append.mp hx with h | h
          · exact hw30 x h
          · exact hw30 x h⟩
        rw [← List.append_assoc]; exact last_get _ _
      rw [eS2, List.length_set]
      generalize f.words ++ f.words = vs at W2
      generalize (μ ++ N).length = b at W2
      simp -dsimp
      exact Th.mk ⟨vs, b, _, o4, by omega, W2, B4, rfl, rfl⟩
    · simp at h
      simp -dsimp
      exact Th.mk ⟨ws, a, N, o4, fun _ => hws (by omega), W, B4, rfl, rfl⟩
  clear hws W B4
  intro σ μ' ⟨ws, a, N, o4, hws, W, B4, hσ, hμ⟩
  subst hσ; subst hμ
  try simp -dsimp [-wps_if]
  -- an empty word
  refine WpS.cut (N' := fun σ μ' => ∃ (ws : List Str) (a : Nat) (N : Store) (o : Ob), Wl μ N a ws ∧ Bx (k + 10) o ∧ σ = [some (.loc n), some (.lst (ks.map .str)), some (fD f), some (.loc a), some (.int way), some (.int place), some (.int other), none] ∧ μ' = (μ ++ N).set n o) ?_ ?_
  · simp -dsimp
    refine Br.of (fun h => ?_) fun h => ?_
    · simp at h; subst h
      have e := hws (by omega)
      subst e
      simp -dsimp [isLst_loc (see o4 W), ev_lenLoc (see o4 W)]
      refine take_wp (hnN _) B4 (by omega) (by omega) (by omega) fun u o5 u0 u1 B5 => ?_
      try simp -dsimp
      rw [ev_insertI (see o5 W) u0 (by omega) (by simp; omega), own_put W.lo hn, map_ins]
      simp -dsimp
      refine Th.mk ⟨_, a, _, o5, W.put (by rw [insW_len]; omega) (fun y hy => ?_), B5.mono (by omega), rfl, rfl⟩
      rcases mem_ins hy with h | rfl
      · exact hw30 y h
      · rw [nl_len.2.1]; omega
    · simp -dsimp
      exact Th.mk ⟨ws, a, N, o4, W, B4.mono (by omega), rfl, rfl⟩
  clear hws W B4
  intro σ μ' ⟨ws, a, N, o4, W, B4, hσ, hμ⟩
  subst hσ; subst hμ
  have hj := sum_30 W.wd
  have hjl := join_len " " ws
  have hwf := W.few
  rw [sp_len] at hjl
  simp -dsimp [-wps_if]
  rw [ev_joinB (ks := ws) (by rw [sp_len]; omega) (getS_loc (see o4 W))]
  generalize hx : Txt.join (Str.ofString " ") ws = x
  have hxl : x.length ≤ 10000 := by
    have : (Txt.join " " ws).length ≤ 10000 := by omega
    rw [← hx]; exact this
  clear hx
  simp -dsimp [-wps_if]
  -- what is told at the end
  have fin : ∀ (z : Str) (o : Ob), z.length ≤ 1000000 → Bx (k + 20) o → Th (∃ μ1 ν, (μ ++ N).set n o = μ1 ++ ν ∧ μ1.length = μ.length ∧ clo μ.length (.str z) = true ∧ (∀ o ∈ μ1, cloO μ.length o = true) ∧ Q (.str z) μ1) := fun z o hz B => by
    refine Th.mk ⟨μ.set n o, N, List.set_append_left _ _ hn, List.length_set, rfl, ?_, q z o hz B⟩
    have := Cl.set hc (n := n) (l := o) (B.clo _)
    unfold Cl at this
    rwa [List.length_set] at this
  obtain ⟨n1, n2, n3, n4, n5, n6, n7⟩ := nl_len
  have n0 := sp_len
  have r1 := replN_len x " " "\n" 1
  have r2 := TK.replace_len x " " ""
  have r3 := TK.replace_len x " " ", "
  have r4 := replN_len x " " "  " 1
  have c1 : ∀ (z : Str), z.length ≤ 2 → x.length + (x.length + 1) * z.length ≤ 40000 := fun z hz => by
    have : (x.length + 1) * z.length ≤ (x.length + 1) * 2 := Nat.mul_le_mul_left _ hz
    omega
  have c2 := c1 "\n" (by omega)
  have c3 := c1 "" (by omega)
  have c4 := c1 ", " (by omega)
  have c5 := c1 "  " (by omega)
  have ap := fun a b : Str => strLen_append a b
  by_cases w8 : way = 8
  · subst w8
    have a1 : ∀ μ, oAdd false (.str x) (.str "\n") μ = some (.str (x ++ "\n"), μ) := fun μ => ev_addSB (by omega)
    have a2 : ∀ μ, oAdd false (.str "\n") (.str x) μ = some (.str ("\n" ++ x), μ) := fun μ => ev_addSB (by omega)
    have a3 : ∀ μ, oAdd false (.str x) (.str " ") μ = some (.str (x ++ " "), μ) := fun μ => ev_addSB (by omega)
    have a4 : ∀ μ, oAdd false (.str " ") (.str x) μ = some (.str (" " ++ x), μ) := fun μ => ev_addSB (by omega)
    simp -dsimp [a1, a2]
    refine An.mk (cap_big (by omega)) ?_
    simp -dsimp [a3, a4]
    refine take_wp (hnN _) B4 (by omega) (by decide) (by decide) fun u o5 u0 u1 B5 => ?_
    try simp -dsimp
    refine wp_menu rfl u0 (by simpa using u1) fun d hd => ?_
    obtain ⟨z, rfl, hz⟩ : ∃ z, d = .str z ∧ z.length ≤ 1000000 := by
      simp only [List.mem_cons, List.mem_nil_iff, or_false] at hd
      rcases hd with rfl | rfl | rfl | rfl | rfl
      · exact ⟨_, rfl, by rw [ap]; omega⟩
      · exact ⟨_, rfl, by rw [ap]; omega⟩
      · exact ⟨_, rfl, by omega⟩
      · exact ⟨_, rfl, by rw [ap]; omega⟩
      · exact ⟨_, rfl, by rw [ap]; omega⟩
    exact fin z o5 hz (B5.mono (by omega))
  · have b8 : (way == 8) = false := beq_false_of_ne w8
    by_cases w9 : way = 9
    · subst w9
      have a1 : ∀ μ, oAdd false (.str "(") (.str x) μ = some (.str ("(" ++ x), μ) := fun μ => ev_addSB (by omega)
      have a2 : ∀ μ, oAdd false (.str ("(" ++ x)) (.str ")") μ = some (.str ("(" ++ x ++ ")"), μ) := fun μ => ev_addSB (by rw [ap]; omega)
      simp -dsimp
      refine An.mk (cap_big (by omega)) ?_
      simp -dsimp
      refine An.mk (cap_big (by omega)) ?_
      simp -dsimp [a1, a2]
      refine An.mk (cap_big (by omega)) ?_
      simp -dsimp
      refine take_wp (hnN _) B4 (by omega) (by decide) (by decide) fun u o5 u0 u1 B5 => ?_
      try simp -dsimp
      refine wp_menu rfl u0 (by simpa using u1) fun d hd => ?_
      obtain ⟨z, rfl, hz⟩ : ∃ z, d = .str z ∧ z.length ≤ 1000000 := by
        simp only [List.mem_cons, List.mem_nil_iff, or_false] at hd
        rcases hd with rfl | rfl | rfl | rfl | rfl | rfl
        · exact ⟨_, rfl, by omega⟩
        · exact ⟨_, rfl, by omega⟩
        · exact ⟨_, rfl, by omega⟩
        · exact ⟨_, rfl, by omega⟩
        · exact ⟨_, rfl, by rw [ap, ap]; omega⟩
        · exact ⟨_, rfl, by omega⟩
      exact fin z o5 hz (B5.mono (by omega))
    · have b9 : (way == 9) = false := beq_false_of_ne w9
      by_cases w10 : 9 < way
      · simp -dsimp [b8, b9, w10]
        refine take_wp (hnN _) B4 (by omega) (by decide) (by decide) fun u o5 u0 u1 B5 => ?_
        try simp -dsimp
        refine wp_menu (xs := ([40, 700, 9000] : List Int).map .int) rfl u0 (by simpa using u1) fun d hd => ?_
        obtain ⟨j, hj, rfl⟩ := List.mem_map.mp hd
        have j1 : 0 ≤ j ∧ j ≤ 9000 := by
          simp only [List.mem_cons, List.mem_nil_iff, or_false] at hj
          rcases hj with rfl | rfl | rfl <;> decide
        try simp -dsimp
        refine wp_menu (xs := ([1, 2, 3, j] : List Int).map .int) rfl (by omega) (by simp; omega) fun d hd => ?_
        obtain ⟨i, hi, rfl⟩ := List.mem_map.mp hd
        have i1 : 0 ≤ i ∧ i ≤ 9000 := by
          simp only [List.mem_cons, List.mem_nil_iff, or_false] at hi
          rcases hi with rfl | rfl | rfl | rfl
          · decide
          · decide
          · decide
          · exact j1
        have m1 : (Str.ofString "not ").length * i.toNat ≤ 36000 := by rw [n7]; omega
        have m2 := mulS_len "not " i
        try simp -dsimp
        rw [ev_mulS i1.1 (by omega) (by omega)]
        simp -dsimp
        rw [ev_addSB (by omega)]
        simp -dsimp
        exact fin _ o5 (by rw [ap]; omega) (B5.mono (by omega))
      · simp -dsimp [b8, b9, w10]
        exact fin x o4 (by omega) (B4.mono (by omega))
end KK
/-! text S17 -/
/-! the law -/
namespace KK
open PySem PySem.Spec PyProof.Rows L2 DL TL
@[simp] theorem ev_V16 {μ : Store} {σ : Sg} {d : D} {x0 x1 x2 x3 x4 x5 x6 x7 x8 x9 x10 x11 x12 x13 x14 x15 : Option D} : fV 16 (x0 :: x1 :: x2 :: x3 :: x4 :: x5 :: x6 :: x7 :: x8 :: x9 :: x10 :: x11 :: x12 :: x13 :: x14 :: x15 :: some d :: σ) μ = .ok d μ := rfl
theorem atI_nat {α : Type} {xs : List α} {i : Nat} {x : α} (h : xs[i]? = some x) : atI xs (i : Int) = some x := by
  have hi := (List.getElem?_eq_some_iff.mp h).1
  rw [atI_pos (by omega) (by omega)]
  simpa using h
theorem box_wp {μ : Store} {z : Int} {Q : D → Store → Prop} {E : XP} (q : ∀ o, Bx 0 o → Q (.loc μ.length) (μ ++ [o])) : Wp (m__law_box [.int z] μ) Q E := by
  rw [m__law_box, b__law_box, wp_runB]
  simp -dsimp
  have ha : 0 ≤ (if z < 0 then -z else z) := by split <;> omega
  generalize (if z < 0 then -z else z) = a at ha
  exact q _ ⟨a, _, a % 2147483629, 0, rfl, ha, by omega, by omega, by omega, by omega⟩
theorem cell_wp {μ : Store} {zs : List Int} {k : Nat} {Q : D → Store → Prop} {E : XP} (hk : k < 100) (q : ∀ z : Int, Q (.int z) μ) : Wp (m__law_cell [.rl (zs.map .int), .int k] μ) Q E := by
  rw [m__law_cell, b__law_cell, wp_runB]
  simp -dsimp
  refine Br.of (fun h => ?_) fun h => ?_
  · simp at h
    simp -dsimp
    obtain ⟨z, hz⟩ : ∃ z, zs[k]? = some z := ⟨zs[k]'(by omega), List.getElem?_eq_getElem _⟩
    rw [ev_idx (x := .int z) rfl (atI_nat (by rw [List.getElem?_map, hz]; rfl))]
    simp -dsimp
    exact q z
  · simp -dsimp
    rw [ev_mulI (by decide) (by omega)]
    simp -dsimp
    rw [cut_take (by decide), ← List.map_take, ev_sumL]
    simp -dsimp
    exact q _
theorem app_set {μ : Store} {o : Ob} : (μ ++ [o]).set μ.length o = μ ++ [o] := by
  rw [List.set_append_right _ _ (Nat.le_refl _)]; simp
/-- names of a form -/
def Gd (ks : List Str) : Prop := 1 ≤ ks.length ∧ ks.length ≤ 4 ∧ ks.Nodup ∧ ∀ x ∈ ks, Nm x
/-- a formula that the law asks about -/
def Go (ks : List Str) (f : Fm) : Prop := f.Ok ks ∧ f.dep ≤ 6
theorem text_read {ks os : List Str} {f : Fm} (g : Gd ks) (h : Go ks f) : (fText f).length ≤ 1000000 := by
  have := text_len g.2.2.2 h.1 h.2
  omega
/-- one formula: its text, what is read of it, what is read of texts near it -/
theorem fmla_wp {μ : Store} {n k : Nat} {o : Ob} {N : Sg → Store → Prop} {R : D → Store → Prop} {E : XP} {ks os : List Str} {f : Fm} {t j : Int} {x0 x1 x4 x5 x10 x11 x14 x15 x16 : Option D} (hc : Cl μ) (hn : n < μ.length) (B : Bx k o) (hk : k < 600000) (g : Gd ks) (go : Gd os) (h : Go ks f)
    (q : ∀ (o' : Ob) (μ' : Store) (x14 x15 x16 : Option D), Bx (k + 60) o' → Cl μ' → n < μ'.length → N [x0, x1, some (.loc n), some (.int t), x4, x5, some (.lst (ks.map .str)), some (.lst (os.map .str)), some (formD ks), some (formD os), x10, x11, some (.int j), some (fD f), x14, x15, x16] (μ'.set n o')) :
    WpS (sSeq (sAsg (gN 14) (fM1S oJoin (fC (.str " ")) (fCall 1 (m__law_words 8) (aCons (fV 13) (aNil)))))
    (sSeq (sIf (fOrB (fNotB (fTb (fCall 3 m__law_text_right (aCons (fV 8) (aCons (fV 13) (aCons (fBin oMod (fBi oInt (aCons (fBin (oAdd false) (fV 3) (fV 12)) (aNil))) (fC (.int 2))) (aNil))))))) (fNotB (fTb (fCall 4 m__law_read_right (aCons (fV 8) (aCons (fV 6) (aCons (fV 14) (aCons (fV 3) (aNil))))))))) (sRet (fC (.bl false))) (sNil))
    (sSeq (sIf (fOrB (fNotB (fTb (fCall 4 m__law_read_right (aCons (fV 9) (aCons (fV 7) (aCons (fV 14) (aCons (fBin oSub (fC (.int 1)) (fV 3)) (aNil)))))))) (fNotB (fTb (fCall 3 m__law_text_right (aCons (fV 8) (aCons (fV 13) (aCons (fBin oMod (fBi oInt (aCons (fBin (oAdd false) (fBin (oAdd false) (fV 3) (fV 12)) (fC (.int 1))) (aNil))) (fC (.int 2))) (aNil)))))))) (sRet (fC (.bl false))) (sNil))
    (sFor (iR1 (fC (.int 3))) (gN 15) (sSeq (sAsg (gN 16) (fCall 3 m__law_spoilt (aCons (fV 2) (aCons (fV 6) (aCons (fV 13) (aNil))))))
    (sIf (fNotB (fTb (fCall 4 m__law_read_right (aCons (fV 8) (aCons (fV 6) (aCons (fV 16) (aCons (fBin oMod (fBi oInt (aCons (fBin (oAdd false) (fV 3) (fV 15)) (aNil))) (fC (.int 2))) (aNil)))))))) (sRet (fC (.bl false))) (sNil))))))
      [x0, x1, some (.loc n), some (.int t), x4, x5, some (.lst (ks.map .str)), some (.lst (os.map .str)), some (formD ks), some (formD os), x10, x11, some (.int j), some (fD f), x14, x15, x16] (μ.set n o)) N R E := by
  have h2 := sum_wd (word_wd g.2.2.2 h.1)
  have h3 := words_126 h.2
  have tl := text_len g.2.2.2 h.1 h.2
  simp -dsimp [-wps_if]
  refine words_wp (n := 8) (by have := h.2; omega) h.2 fun ν J => ?_
  rw [ev_joinB (ks := f.words) (by rw [sp_len]; omega) (getS_loc (last_get _ _))]
  rw [show Txt.join (Str.ofString " ") f.words = fText f from rfl]
  have eS : μ.set n o ++ ν ++ [Ob.lst (f.words.map .str)] = (μ ++ (ν ++ [Ob.lst (f.words.map .str)])).set n o := by rw [List.append_assoc, List.set_append_left _ _ hn]
  rw [eS]
  have hc2 : Cl (μ ++ (ν ++ [Ob.lst (f.words.map .str)])) := Cl.app hc fun p hp => by
    rcases List.mem_append.mp hp with h | h
    · exact J.clo _ p h
    · exact (Jk.one f.words).clo _ p h
  have hn2 : n < (μ ++ (ν ++ [Ob.lst (f.words.map .str)])).length := by simp; omega
  generalize μ ++ (ν ++ [Ob.lst (f.words.map .str)]) = β at hc2 hn2
  have cb : ∀ {k : Nat} {o : Ob}, Bx k o → Cl (β.set n o) := fun B => hc2.set (B.clo _)
  have T := fun t : Int => text_right_eq (t := t) (cb B) g.2.2.2 h.1 h.2
  have R1 := fun t : Int => read_right_eq (x := fText f) (t := t) g.2.2.2 (cb B) (by omega)
  have R2 := fun t : Int => read_right_eq (x := fText f) (t := t) go.2.2.2 (cb B) (by omega)
  simp -dsimp [T, R1, R2, ev_modI]
  refine wp_for (its_rng (n := 3) rfl (by omega)) (fun i σ μ' => ∃ (o : Ob) (x15 x16 : Option D), σ = [x0, x1, some (.loc n), some (.int t), x4, x5, some (.lst (ks.map .str)), some (.lst (os.map .str)), some (formD ks), some (formD os), x10, x11, some (.int j), some (fD f), some (.str (fText f)), x15, x16] ∧ μ' = β.set n o ∧ Bx (k + 20 * i) o) ⟨o, _, _, rfl, rfl, B⟩ ?_ ?_
  · intro i d σ μ' hd ⟨o, x15, x16, hσ, hμ, B⟩
    subst hσ; subst hμ
    have hi : i < 3 := by
      have := (List.getElem?_eq_some_iff.mp hd).1
      simpa using this
    obtain rfl : d = .int (i : Nat) := by
      rw [List.getElem?_map, List.getElem?_range hi] at hd
      cases hd; rfl
    simp -dsimp [-wps_if]
    refine spoilt_wp hc2 hn2 B (by omega) g.2.2.2 g.2.1 h.1 h.2 fun x o' hx B' => ?_
    have R3 := fun t : Int => read_right_eq (x := x) (t := t) g.2.2.2 (cb B') hx
    simp -dsimp [R3, ev_modI]
    exact Th.mk ⟨o', _, _, rfl, rfl, B'.mono (by omega)⟩
  · intro σ μ' ⟨o, x15, x16, hσ, hμ, B⟩
    subst hσ; subst hμ
    exact q o β _ _ _ (by simpa using B) hc2 hn2
end KK
/-! text S18 -/
/-! the law -/
namespace KK
open PySem PySem.Spec PyProof.Rows L2 DL TL
theorem form_of {μ : Store} {n : Nat} {o : Ob} {ks : List Str} (g : Gd ks) (hc : Cl (μ.set n o)) : mkR false μ.length (m_Form___init__ [.loc μ.length, .lst (ks.map .str)] (μ.set n o ++ [.ins 61 [] []])) = .ok (formD ks) (μ.set n o) := by
  have F := form_mk (μ := μ.set n o) (d := .lst (ks.map .str)) (ks := ks) (.inl rfl) g.1 g.2.1 g.2.2.1 g.2.2.2 hc
  rwa [List.length_set] at F
theorem law_wp {zs : List Int} : Wp (m_law [.rl (zs.map .int)] []) (fun d _ => d = .bl true) NoX := by
  have d8 : dr 8 = 1533 := by decide
  rw [m_law, b_law]
  refine wp_runS_set ?_
  simp -dsimp [startD]
  refine wp_for (its_rng (n := max 2 (min 4 zs.length)) (Wp.eq (by simp -dsimp [oMax, oMin]; split <;> split <;> omega)) (by omega)) (fun i σ μ' => ∃ x1 x2 x3 x4 x5 x6 x7 x8 x9 x10 x11 x12 x13 x14 x15 x16, σ = [some (.rl (zs.map .int)), x1, x2, x3, x4, x5, x6, x7, x8, x9, x10, x11, x12, x13, x14, x15, x16] ∧ Cl μ') ⟨_, _, _, _, _, _, _, _, _, _, _, _, _, _, _, _, rfl, fun o ho => by simp at ho⟩ ?_ ?_
  · intro i d σ μ hd ⟨x1, x2, x3, x4, x5, x6, x7, x8, x9, x10, x11, x12, x13, x14, x15, x16, hσ, M⟩
    subst hσ
    have hi : i < 4 := by
      have := (List.getElem?_eq_some_iff.mp hd).1
      simp at this; omega
    obtain rfl : d = .int i := by
      have := (List.getElem?_eq_some_iff.mp hd).2
      simpa using this.symm
    simp -dsimp [-wps_if]
    refine cell_wp (by omega) fun z => ?_
    try simp -dsimp [-wps_if]
    refine box_wp fun o B => ?_
    have M := Cl.app (ν := [o]) M fun p hp => by rw [List.mem_singleton.mp hp]; exact B.clo _
    obtain ⟨n, hnn⟩ : ∃ n, μ.length = n := ⟨_, rfl⟩
    obtain ⟨β, hβ⟩ : ∃ β, μ ++ [o] = β := ⟨_, rfl⟩
    have hst : μ ++ [o] = β.set n o := by rw [← hβ, ← hnn, app_set]
    have hn : n < β.length := by rw [← hβ, ← hnn]; simp
    rw [hst, hnn]
    rw [hβ] at M
    clear hst hβ hnn
    simp -dsimp [-wps_if]
    refine take_wp hn B (by omega) (by decide) (by decide) fun t o1 t0 t1 B1 => ?_
    try simp -dsimp [-wps_if]
    refine take_wp hn B1 (by omega) (by decide) (by decide) fun u o2 u0 u1 B2 => ?_
    try simp -dsimp [-wps_if]
    refine take_wp hn B2 (by omega) (by decide) (by decide) fun way o3 w0 w1 B3 => ?_
    try simp -dsimp [-wps_if]
    obtain ⟨m, hm⟩ : ∃ m : Nat, 1 + u = m := ⟨(1 + u).toNat, by omega⟩
    rw [hm]
    refine names_wp M hn B3 (by omega) (by omega) fun ks o4 kl kn kw B4 => ?_
    have g : Gd ks := ⟨by omega, by omega, kn, kw⟩
    simp -dsimp [-wps_if]
    refine name_wp hn B4 (by omega) Fd.lst (fun y hy => (kw y hy).1) (by omega) fun y o5 hy hyk B5 => ?_
    simp -dsimp [-wps_if]
    rw [cut_drop (by decide), ← List.map_drop, show [D.str y] = [y].map D.str from rfl, ev_addL (by simp; omega), ← List.map_append]
    have go : Gd (ks.drop (1 : Int).toNat ++ [y]) := by
      refine ⟨by simp, by simp; omega, ?_, fun x hx => ?_⟩
      · rw [List.nodup_append]
        exact ⟨kn.sublist (List.drop_sublist _ _), by simp, fun a ha b hb => by rw [List.mem_singleton.mp hb]; exact fun e => hyk (e ▸ List.mem_of_mem_drop ha)⟩
      · rcases List.mem_append.mp hx with h | h
        · exact kw x (List.mem_of_mem_drop h)
        · rw [List.mem_singleton.mp h]; exact hy
    generalize ks.drop (1 : Int).toNat ++ [y] = os at go
    have F1 := form_of g (M.set (n := n) (B5.clo _))
    have F2 := form_of go (M.set (n := n) (B5.clo _))
    simp -dsimp [-wps_if, F1, F2]
    refine tall_wp (D0 := 6) (by decide) (by decide) hn B5 (by omega) g.1 g.2.1 fun f1 o6 ok1 d1 B6 => ?_
    try simp -dsimp [-wps_if]
    refine formula_wp (m := 8) (deep := 6) (by decide) (by decide) hn B6 (by rw [d8]; omega) g.1 g.2.1 fun f2 o7 ok2 d2 B7 => ?_
    try simp -dsimp [-wps_if]
    refine leaf_wp hn B7 (by rw [d8]; omega) g.1 g.2.1 fun f3 o8 ok3 d3 B8 => ?_
    try simp -dsimp [-wps_if]
    refine formula_wp (m := 8) (deep := 3) (by decide) (by decide) hn B8 (by rw [d8]; omega) g.1 g.2.1 fun f4 o9 ok4 d4 B9 => ?_
    try simp -dsimp [-wps_if]
    refine tall_wp (D0 := 5) (by decide) (by decide) hn B9 (by rw [d8]; omega) g.1 g.2.1 fun f5 o10 ok5 d5 B10 => ?_
    rw [d8] at B10
    have B10 := B10.mono (j := 30000) (by omega)
    have G1 : Go ks f1 := ⟨ok1, d1⟩
    have G2 : Go ks f2 := ⟨ok2, by omega⟩
    have G3 : Go ks f3 := ⟨ok3, by omega⟩
    have G4 : Go ks f4 := ⟨ok4, by omega⟩
    have G5 : Go ks f5 := ⟨ok5, by omega⟩
    simp -dsimp [-wps_if, -wps_seq]
    rw [wps_seq]
    refine WpS.cut (N' := fun σ μ' => ∃ (o : Ob) (β : Store) (x12 x13 x14 x15 x16 : Option D), σ = [some (.rl (zs.map .int)), some (.int (i : Nat)), some (.loc n), some (.int t), some (.int (m : Nat)), some (.int way), some (.lst (ks.map .str)), some (.lst (os.map .str)), some (formD ks), some (formD os), some (fD f1), some (.lst ([f1, f2, f3, f4, f5].map fD)), x12, x13, x14, x15, x16] ∧ μ' = β.set n o ∧ Bx 40000 o ∧ Cl β ∧ n < β.length) ?_ ?_
    · refine wp_for (its_en (d := .lst ([f1, f2, f3, f4, f5].map fD)) (Wp.eq (by simp -dsimp)) rfl) (fun j σ μ' => ∃ (o : Ob) (β : Store) (x12 x13 x14 x15 x16 : Option D), σ = [some (.rl (zs.map .int)), some (.int (i : Nat)), some (.loc n), some (.int t), some (.int (m : Nat)), some (.int way), some (.lst (ks.map .str)), some (.lst (os.map .str)), some (formD ks), some (formD os), some (fD f1), some (.lst ([f1, f2, f3, f4, f5].map fD)), x12, x13, x14, x15, x16] ∧ μ' = β.set n o ∧ Bx (30000 + 60 * j) o ∧ Cl β ∧ n < β.length) ⟨o10, β, _, _, _, _, _, rfl, rfl, B10, M, hn⟩ ?_ ?_
      · intro j d σ μ' hd ⟨o, β, x12, x13, x14, x15, x16, hσ, hμ, B, M, hn⟩
        subst hσ; subst hμ
        obtain ⟨f, hf, rfl⟩ : ∃ f, [f1, f2, f3, f4, f5][j]? = some f ∧ D.tup [.int (j : Nat), fD f] = d := by
          rw [List.getElem?_map, List.getElem?_zipIdx, List.getElem?_map] at hd
          cases e : [f1, f2, f3, f4, f5][j]? with
          | none => rw [e] at hd; cases hd
          | some f => rw [e] at hd; simp at hd; exact ⟨f, rfl, hd⟩
        have hj : j < 5 := by
          have := (List.getElem?_eq_some_iff.mp hf).1
          simpa using this
        have G : Go ks f := by
          have := List.mem_of_getElem? hf
          simp only [List.mem_cons, List.mem_nil_iff, or_false] at this
          rcases this with rfl | rfl | rfl | rfl | rfl
          · exact G1
          · exact G2
          · exact G3
          · exact G4
          · exact G5
        simp -dsimp [-wps_if, -wps_seq]
        refine fmla_wp M hn B (by omega) g go G fun o' β' x14 x15 x16 B' M' hn' => ?_
        exact Th.mk ⟨o', β', _, _, x14, x15, x16, rfl, rfl, B'.mono (by omega), M', hn'⟩
      · intro σ μ' ⟨o, β, x12, x13, x14, x15, x16, hσ, hμ, B, M, hn⟩
        exact Th.mk ⟨o, β, x12, x13, x14, x15, x16, hσ, hμ, B.mono (by simp), M, hn⟩
    · intro σ μ' ⟨o, β, x12, x13, x14, x15, x16, hσ, hμ, B, M, hn⟩
      subst hσ; subst hμ
      have h2 := sum_wd (word_wd g.2.2.2 G1.1)
      have h3 := words_126 G1.2
      have tl := text_len g.2.2.2 G1.1 G1.2
      simp -dsimp
      refine words_wp (n := 8) (by have := G1.2; omega) G1.2 fun ν J => ?_
      rw [ev_joinB (ks := f1.words) (by rw [sp_len]; omega) (getS_loc (last_get _ _)), show Txt.join (Str.ofString " ") f1.words = fText f1 from rfl]
      have eS : β.set n o ++ ν ++ [Ob.lst (f1.words.map .str)] = (β ++ (ν ++ [Ob.lst (f1.words.map .str)])).set n o := by rw [List.append_assoc, List.set_append_left _ _ hn]
      rw [eS]
      have hc2 : Cl (β ++ (ν ++ [Ob.lst (f1.words.map .str)])) := Cl.app M fun p hp => by
        rcases List.mem_append.mp hp with h | h
        · exact J.clo _ p h
        · exact (Jk.one f1.words).clo _ p h
      generalize β ++ (ν ++ [Ob.lst (f1.words.map .str)]) = γ at hc2
      have hc3 : Cl (γ.set n o) := hc2.set (B.clo _)
      have n7 := nl_len.2.2.2.2.2.2
      have n2 := nl_len.2.1
      have ad : ∀ μ, oAdd false (.str "not ") (.str (fText f1)) μ = some (.str ("not " ++ fText f1), μ) := fun μ => ev_addSB (by omega)
      have R1 := read_right_eq (x := "not " ++ fText f1) (t := t) g.2.2.2 hc3 (by rw [strLen_append]; omega)
      have R2 := read_right_eq (x := "") (t := t) g.2.2.2 hc3 (by omega)
      have i3 : ∀ μ, oIdx (.lst ([f1, f2, f3, f4, f5].map fD)) (.int 3) μ = some (fD f4, μ) := fun μ => ev_idx rfl rfl
      have i3' : ∀ μ, oIdx (.lst [fD f1, fD f2, fD f3, fD f4, fD f5]) (.int 3) μ = some (fD f4, μ) := fun μ => ev_idx rfl rfl
      have NT := no_text_eq (t := t) (way := way) g.2.2.2 (by omega) G4.1 G4.2 hc3 w0 w1
      simp -dsimp [ad, R1, R2, i3, i3', NT]
      exact Th.mk ⟨_, _, _, _, _, _, _, _, _, _, _, _, _, _, _, _, rfl, hc3⟩
  · intro σ μ ⟨x1, x2, x3, x4, x5, x6, x7, x8, x9, x10, x11, x12, x13, x14, x15, x16, hσ, M⟩
    subst hσ
    simp -dsimp
    exact Th.mk ⟨[], μ, rfl, rfl, rfl, by simp, rfl⟩
theorem true_law : ∀ ns : List Int, ns.length ≤ 63 → (∀ z ∈ ns, Builtin.Int.intBits z ≤ 1048576) → ∃ μ, m_law [.rl (ns.map .int)] [] = .ok (.bl true) μ := fun ns _ _ => by
  obtain ⟨d, μ, e, rfl⟩ := (law_wp (zs := ns)).ok
  exact ⟨μ, e⟩
end KK
open PySem PySem.W PyProof.Rows
set_option maxRecDepth 100000 in
set_option maxHeartbeats 0 in
theorem PySem.Challenge.cw_keepstream_k06_formula_texts_holds : PySem.Challenge.rw_keepstream_k06_formula_texts.Holds := by
  w_on; o_law; k_head; (case hw => w_witness2)
  k_fill
  refine LamX.walk_ofG (l := PySem.Challenge.rw_keepstream_k06_formula_texts) (n := 63) (k := 14) (x := "script") (CX := fun w => L2.CX PySem.Challenge.rw_keepstream_k06_formula_texts.prog w) rfl (by decide) rfl ⟨rfl, by decide, by decide⟩ ?F ?Z
  case Z =>
    intro w H s e s' q
    obtain ⟨_, _, _, _, _, _, _, _, _, _, _, _, z⟩ := q
    exact z.elim
  case F =>
    intro w mg fa h Y G hmg
    have KX := PySem.W.kIn_of Y
    refine ⟨_, KX, KK.law_in rfl (KK.txt_of KX G ?cSays ?eAll ?d_KINDS ?d_PARTS) hmg KK.true_law⟩
    case cSays => show He.obsD KK.fa KK.dl _ = He.valD KK.dl; kernel_rfl
    case eAll => kernel_rfl
    case d_KINDS => kernel_rfl
    case d_PARTS => kernel_rfl
