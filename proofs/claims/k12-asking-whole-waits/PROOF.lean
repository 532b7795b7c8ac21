import PyProof.Rows.All
import Wide.All
import OpenK.AllK
import Wide.FinOn
import HandS.ForMost
import HandS.IsInst
import HandS.Conv
import HandS.Flow
import HandS.Wide
import HandS.TupAny
import HandS.TupMul
import HandS.TupLe
import HandS.Style
import HandS.StrMore
import HandS.Codes
import HandS.Replace
import HandS.SortInts
import HandS.Gcd
import PyProof.Rows.StrMeet
import PyProof.Rows.StrPadFill
import PyProof.Rows.StrPadWhole
import HandS.Iter
import HandS.NoneIn
import KE.GoesEnum
import HandS.TryOnly
import PySem.Challenge.RW_tidings_k12_asking_whole_waits
set_option Elab.async false
set_option linter.all false
set_option maxRecDepth 100000
/-! Mp0: values, store, results, of a small evaluator; its relation to the layer's heap. -/
namespace Mp
open PySem PySem.Spec PyProof.Rows L2

/-- a value: texts as code points, tuples by value, lists by a number in the store; ltc: a list that nobody writes -/
inductive PV where
  | non | bl (b : Bool) | int (i : Int) | str (x : List Nat) | tup (xs : List PV) | ltc (xs : List PV) | ref (n : Nat)
inductive SO where
  | lst (xs : List PV)
abbrev Store := List SO
inductive Res (α : Type) where
  | ok (a : α) (S : Store) | exc (c : Nat) (a : PV) (S : Store) | bad
def Res.bind {α β : Type} (r : Res α) (f : α → Store → Res β) : Res β :=
  match r with | .ok a S => f a S | .exc c a S => .exc c a S | .bad => .bad
@[simp] theorem Res.bind_ok {α β : Type} (a : α) (S : Store) (f : α → Store → Res β) : (Res.ok a S).bind f = f a S := rfl
@[simp] theorem Res.bind_bad {α β : Type} (f : α → Store → Res β) : (Res.bad : Res α).bind f = .bad := rfl
@[simp] theorem Res.bind_exc {α β : Type} (c : Nat) (a : PV) (S : Store) (f : α → Store → Res β) : (Res.exc c a S : Res α).bind f = .exc c a S := rfl
abbrev Loc := List (Option PV)

/-! ### the relation -/
/-- a list that nobody writes: locked, or the module's -/
def imL (K : PySem.W.Frag) (H : Hp) (a : Addr) (vs : List V) : Prop := (∃ o, H a = some (.frz o (.lst vs))) ∨ SqL K (fun _ => none) a vs
theorem imL.sq {K : PySem.W.Frag} {H : Hp} {a : Addr} {vs : List V} (h : imL K H a vs) : SqL K H a vs := by
  rcases h with ⟨o, h⟩ | (h | ⟨o, h⟩) | h
  · exact .inl (.inr ⟨o, h⟩)
  · cases h
  · cases h
  · exact .inr h
mutual
def relV (K : PySem.W.Frag) (φ : List Addr) (H : Hp) : PV → V → Prop
  | .non, v => v = .non
  | .bl b, v => v = .bl b
  | .int i, v => v = .int i
  | .str x, v => v = .str ⟨x.toArray⟩
  | .tup xs, v => ∃ a vs, v = .ref a ∧ SqT K H a vs ∧ relVs K φ H xs vs
  | .ltc xs, v => ∃ a vs, v = .ref a ∧ imL K H a vs ∧ relVs K φ H xs vs
  | .ref n, v => ∃ a, v = .ref a ∧ φ[n]? = some a
def relVs (K : PySem.W.Frag) (φ : List Addr) (H : Hp) : List PV → List V → Prop
  | [], vs => vs = []
  | x :: xs, vs => ∃ v ws, vs = v :: ws ∧ relV K φ H x v ∧ relVs K φ H xs ws
end
def relO (K : PySem.W.Frag) (φ : List Addr) (H : Hp) (a : Addr) : SO → Prop
  | .lst xs => ∃ vs, H a = some (.lst vs) ∧ relVs K φ H xs vs
structure Rel (K : PySem.W.Frag) (φ : List Addr) (H : Hp) (S : Store) : Prop where
  len : φ.length = S.length
  nd : φ.Nodup
  obj : ∀ (n : Nat) (a : Addr) (o : SO), φ[n]? = some a → S[n]? = some o → relO K φ H a o
def RelL (K : PySem.W.Frag) (φ : List Addr) (H : Hp) (ρ : Loc) (σ : L2.St) : Prop :=
  ρ.length = σ.length ∧ ∀ (i : Nat) (x : PV), ρ[i]? = some (some x) → ∃ v, σ[i]? = some (some v) ∧ relV K φ H x v
/-- what was is; what is not in the store stands as it stood; what is new in the store was free -/
structure Ext (φ : List Addr) (H : Hp) (φ' : List Addr) (H' : Hp) : Prop where
  pre : φ <+: φ'
  keep : ∀ a o, H a = some o → a ∉ φ → H' a = some o
  new : ∀ a, a ∈ φ' → a ∉ φ → H a = none
theorem Ext.refl (φ : List Addr) (H : Hp) : Ext φ H φ H := ⟨List.prefix_refl _, fun _ _ h _ => h, fun _ h n => absurd h n⟩
theorem Ext.trans {φ φ1 φ2 : List Addr} {H H1 H2 : Hp} (a : Ext φ H φ1 H1) (b : Ext φ1 H1 φ2 H2) : Ext φ H φ2 H2 where
  pre := a.pre.trans b.pre
  keep := fun x o h n => by
    refine b.keep x o (a.keep x o h n) fun m => ?_
    have := a.new x m n
    rw [h] at this; cases this
  new := fun x m n => by
    by_cases h1 : x ∈ φ1
    · exact a.new x h1 n
    · cases q : H x with
      | none => rfl
      | some o =>
        have h2 := a.keep x o q n
        have h3 := b.new x m h1
        rw [h2] at h3; cases h3
section
variable {K : PySem.W.Frag} {φ φ' : List Addr} {H H' : Hp} {S S' : Store}
theorem Rel.get (R : Rel K φ H S) {n : Nat} {a : Addr} (h : φ[n]? = some a) : ∃ o, S[n]? = some o ∧ relO K φ H a o := by
  have hl : n < φ.length := (List.getElem?_eq_some_iff.mp h).1
  have hs : n < S.length := by rw [← R.len]; exact hl
  exact ⟨S[n], List.getElem?_eq_getElem hs, R.obj n a _ h (List.getElem?_eq_getElem hs)⟩
theorem Rel.at (R : Rel K φ H S) {n : Nat} {o : SO} (h : S[n]? = some o) : ∃ a, φ[n]? = some a ∧ relO K φ H a o := by
  have hs : n < S.length := (List.getElem?_eq_some_iff.mp h).1
  have hl : n < φ.length := by rw [R.len]; exact hs
  exact ⟨φ[n], List.getElem?_eq_getElem hl, R.obj n _ o (List.getElem?_eq_getElem hl) h⟩
theorem Rel.mem_lst (R : Rel K φ H S) {a : Addr} (h : a ∈ φ) : ∃ vs, H a = some (.lst vs) := by
  obtain ⟨n, hn⟩ := List.getElem?_of_mem h
  obtain ⟨o, _, r⟩ := R.get hn
  cases o with
  | lst xs => obtain ⟨vs, e, _⟩ := r; exact ⟨vs, e⟩
theorem sqT_ext (R : Rel K φ H S) (E : Ext φ H φ' H') {a : Addr} {vs : List V} (h : SqT K H a vs) : SqT K H' a vs := by
  rcases h with (h | ⟨o, h⟩) | h
  · exact .inl (.inl (E.keep a _ h fun m => by obtain ⟨ws, e⟩ := R.mem_lst m; rw [h] at e; cases e))
  · exact .inl (.inr ⟨o, E.keep a _ h fun m => by obtain ⟨ws, e⟩ := R.mem_lst m; rw [h] at e; cases e⟩)
  · exact .inr h
mutual
theorem relV_ext (R : Rel K φ H S) (E : Ext φ H φ' H') (R' : Rel K φ' H' S') : ∀ (x : PV) (v : V), relV K φ H x v → relV K φ' H' x v
  | .non, _, h => h
  | .bl _, _, h => h
  | .int _, _, h => h
  | .str _, _, h => h
  | .tup xs, _, h => by
    obtain ⟨a, vs, e, h1, h2⟩ := h
    exact ⟨a, vs, e, sqT_ext R E h1, relVs_ext R E R' xs vs h2⟩
  | .ltc xs, _, h => by
    obtain ⟨a, vs, e, h1, h2⟩ := h
    refine ⟨a, vs, e, ?_, relVs_ext R E R' xs vs h2⟩
    rcases h1 with ⟨o, h1⟩ | h1
    · exact .inl ⟨o, E.keep a _ h1 fun m => by obtain ⟨ws, e⟩ := R.mem_lst m; rw [h1] at e; cases e⟩
    · exact .inr h1
  | .ref n, _, h => by
    obtain ⟨a, e, h⟩ := h
    obtain ⟨t, rfl⟩ := E.pre
    exact ⟨a, e, by rw [List.getElem?_append_left (List.getElem?_eq_some_iff.mp h).1]; exact h⟩
theorem relVs_ext (R : Rel K φ H S) (E : Ext φ H φ' H') (R' : Rel K φ' H' S') : ∀ (xs : List PV) (vs : List V), relVs K φ H xs vs → relVs K φ' H' xs vs
  | [], _, h => h
  | x :: xs, _, h => by
    obtain ⟨v, ws, e, h1, h2⟩ := h
    exact ⟨v, ws, e, relV_ext R E R' x v h1, relVs_ext R E R' xs ws h2⟩
end
theorem RelL.ext {ρ : Loc} {σ : L2.St} (L : RelL K φ H ρ σ) (R : Rel K φ H S) (E : Ext φ H φ' H') (R' : Rel K φ' H' S') : RelL K φ' H' ρ σ :=
  ⟨L.1, fun i x h => let ⟨v, e, r⟩ := L.2 i x h; ⟨v, e, relV_ext R E R' x v r⟩⟩
theorem RelL.set {ρ : Loc} {σ : L2.St} (L : RelL K φ H ρ σ) (i : Nat) {x : PV} {v : V} (r : relV K φ H x v) : RelL K φ H (ρ.set i (some x)) (σ.set i (some v)) := by
  refine ⟨by rw [List.length_set, List.length_set]; exact L.1, fun j y h => ?_⟩
  by_cases hj : i = j
  · subst hj
    rw [List.getElem?_set] at h
    simp only [if_pos] at h
    split at h
    · rename_i hl
      cases h
      refine ⟨v, ?_, r⟩
      rw [List.getElem?_set_self (by rw [← L.1]; exact hl)]
    · cases h
  · rw [List.getElem?_set_ne hj] at h ⊢
    exact L.2 j y h
theorem RelL.mono {ρ ρ' : Loc} {σ : L2.St} (L : RelL K φ H ρ σ) (hl : ρ'.length = ρ.length) (h : ∀ (i : Nat) (x : PV), ρ'[i]? = some (some x) → ρ[i]? = some (some x)) : RelL K φ H ρ' σ :=
  ⟨hl.trans L.1, fun i x e => L.2 i x (h i x e)⟩
theorem relVs_len : ∀ {xs : List PV} {vs : List V}, relVs K φ H xs vs → xs.length = vs.length
  | [], _, h => by cases h; rfl
  | x :: xs, _, h => by
    obtain ⟨v, ws, rfl, _, h2⟩ := h
    simp [relVs_len h2]
theorem relVs_get : ∀ {xs : List PV} {vs : List V} {i : Nat} {x : PV}, relVs K φ H xs vs → xs[i]? = some x → ∃ v, vs[i]? = some v ∧ relV K φ H x v
  | [], _, _, _, _, e => by simp at e
  | x :: xs, _, 0, _, h, e => by
    obtain ⟨v, ws, rfl, h1, h2⟩ := h
    simp at e; subst e
    exact ⟨v, by simp, h1⟩
  | x :: xs, _, i + 1, _, h, e => by
    obtain ⟨v, ws, rfl, h1, h2⟩ := h
    obtain ⟨u, e2, r⟩ := relVs_get (i := i) h2 (by simpa using e)
    exact ⟨u, by simpa using e2, r⟩
theorem relVs_app : ∀ {xs ys : List PV} {vs ws : List V}, relVs K φ H xs vs → relVs K φ H ys ws → relVs K φ H (xs ++ ys) (vs ++ ws)
  | [], _, _, _, h, h' => by cases h; exact h'
  | x :: xs, _, _, _, h, h' => by
    obtain ⟨v, ws, rfl, h1, h2⟩ := h
    exact ⟨v, ws ++ _, rfl, h1, relVs_app h2 h'⟩
theorem relVs_set : ∀ {xs : List PV} {vs : List V} (i : Nat) {x : PV} {v : V}, relVs K φ H xs vs → relV K φ H x v → relVs K φ H (xs.set i x) (vs.set i v)
  | [], _, _, _, _, h, _ => by cases h; rfl
  | _ :: xs, _, 0, x, v, h, r => by
    obtain ⟨w, ws, rfl, h1, h2⟩ := h
    exact ⟨v, ws, rfl, r, h2⟩
  | _ :: xs, _, i + 1, x, v, h, r => by
    obtain ⟨w, ws, rfl, h1, h2⟩ := h
    exact ⟨w, _, rfl, h1, relVs_set i h2 r⟩
theorem relVs_take : ∀ {xs : List PV} {vs : List V} (n : Nat), relVs K φ H xs vs → relVs K φ H (xs.take n) (vs.take n)
  | _, _, 0, h => rfl
  | [], _, _ + 1, h => by cases h; rfl
  | x :: xs, _, n + 1, h => by
    obtain ⟨v, ws, rfl, h1, h2⟩ := h
    exact ⟨v, _, rfl, h1, relVs_take n h2⟩
theorem relVs_drop : ∀ {xs : List PV} {vs : List V} (n : Nat), relVs K φ H xs vs → relVs K φ H (xs.drop n) (vs.drop n)
  | _, _, 0, h => h
  | [], _, _ + 1, h => by cases h; rfl
  | x :: xs, _, n + 1, h => by
    obtain ⟨v, ws, rfl, h1, h2⟩ := h
    exact relVs_drop n h2
theorem relVs_rev : ∀ {xs : List PV} {vs : List V}, relVs K φ H xs vs → relVs K φ H xs.reverse vs.reverse
  | [], _, h => by cases h; rfl
  | x :: xs, _, h => by
    obtain ⟨v, ws, rfl, h1, h2⟩ := h
    rw [List.reverse_cons, List.reverse_cons]
    exact relVs_app (relVs_rev h2) ⟨v, [], rfl, h1, rfl⟩
/-- a fresh object laid that the store does not know -/
theorem Ext.laid {p : Addr} (hp : H p = none) (o : HO) : Ext φ H φ (upd H p o) :=
  ⟨List.prefix_refl _, fun a u h _ => by rw [upd_ne (ne_of_none h hp)]; exact h, fun _ m n => absurd m n⟩
theorem notin_of_none (R : Rel K φ H S) {p : Addr} (hp : H p = none) : p ∉ φ := fun m => by
  obtain ⟨vs, e⟩ := R.mem_lst m
  rw [hp] at e; cases e
/-- the relation behind an Ext, object by object -/
theorem Rel.keep (R : Rel K φ H S) {H' : Hp} (h : ∀ a, a ∈ φ → H' a = H a) (hv : ∀ xs vs, relVs K φ H xs vs → relVs K φ H' xs vs) : Rel K φ H' S :=
  ⟨R.len, R.nd, fun n a o e1 e2 => by
    have r := R.obj n a o e1 e2
    cases o with
    | lst xs =>
      obtain ⟨vs, e, r⟩ := r
      exact ⟨vs, by rw [h a (List.mem_of_getElem? e1)]; exact e, hv _ _ r⟩⟩
mutual
theorem relV_sub (hT : ∀ (a : Addr) (vs : List V), SqT K H a vs → SqT K H' a vs) (hL : ∀ (a : Addr) (vs : List V), imL K H a vs → imL K H' a vs) (hp : φ <+: φ') : ∀ (x : PV) (v : V), relV K φ H x v → relV K φ' H' x v
  | .non, _, h => h
  | .bl _, _, h => h
  | .int _, _, h => h
  | .str _, _, h => h
  | .tup xs, _, h => by
    obtain ⟨a, vs, e, h1, h2⟩ := h
    exact ⟨a, vs, e, hT _ _ h1, relVs_sub hT hL hp xs vs h2⟩
  | .ltc xs, _, h => by
    obtain ⟨a, vs, e, h1, h2⟩ := h
    exact ⟨a, vs, e, hL _ _ h1, relVs_sub hT hL hp xs vs h2⟩
  | .ref n, _, h => by
    obtain ⟨a, e, h⟩ := h
    obtain ⟨t, rfl⟩ := hp
    exact ⟨a, e, by rw [List.getElem?_append_left (List.getElem?_eq_some_iff.mp h).1]; exact h⟩
theorem relVs_sub (hT : ∀ (a : Addr) (vs : List V), SqT K H a vs → SqT K H' a vs) (hL : ∀ (a : Addr) (vs : List V), imL K H a vs → imL K H' a vs) (hp : φ <+: φ') : ∀ (xs : List PV) (vs : List V), relVs K φ H xs vs → relVs K φ' H' xs vs
  | [], _, h => h
  | x :: xs, _, h => by
    obtain ⟨v, ws, e, h1, h2⟩ := h
    exact ⟨v, ws, e, relV_sub hT hL hp x v h1, relVs_sub hT hL hp xs ws h2⟩
end
theorem imL_upd {p : Addr} {o : HO} (h : ∀ w u, H p ≠ some (.frz w u)) {a : Addr} {vs : List V} (q : imL K H a vs) : imL K (upd H p o) a vs := by
  rcases q with ⟨w, q⟩ | q
  · refine .inl ⟨w, ?_⟩
    rw [upd_ne (fun e => h w (.lst vs) (by rw [← e]; exact q))]
    exact q
  · exact .inr q
theorem sqT_upd {p : Addr} {o : HO} (h : ∀ w u, H p ≠ some (.frz w u)) (h2 : ∀ ws, H p ≠ some (.tup ws)) {a : Addr} {vs : List V} (q : SqT K H a vs) : SqT K (upd H p o) a vs := by
  rcases q with (q | ⟨w, q⟩) | q
  · refine .inl (.inl ?_)
    rw [upd_ne (fun e => h2 vs (by rw [← e]; exact q))]
    exact q
  · refine .inl (.inr ⟨w, ?_⟩)
    rw [upd_ne (fun e => h w (.tup vs) (by rw [← e]; exact q))]
    exact q
  · exact .inr q
theorem relVs_upd {p : Addr} {o : HO} (h : ∀ w u, H p ≠ some (.frz w u)) (h2 : ∀ ws, H p ≠ some (.tup ws)) {xs : List PV} {vs : List V} (q : relVs K φ H xs vs) : relVs K φ (upd H p o) xs vs :=
  relVs_sub (fun _ _ => sqT_upd h h2) (fun _ _ => imL_upd h) (List.prefix_refl _) xs vs q
theorem relV_upd {p : Addr} {o : HO} (h : ∀ w u, H p ≠ some (.frz w u)) (h2 : ∀ ws, H p ≠ some (.tup ws)) {x : PV} {v : V} (q : relV K φ H x v) : relV K φ (upd H p o) x v :=
  relV_sub (fun _ _ => sqT_upd h h2) (fun _ _ => imL_upd h) (List.prefix_refl _) x v q
/-- a fresh object outside of the store -/
theorem Rel.laid (R : Rel K φ H S) {p : Addr} (hp : H p = none) (o : HO) : Rel K φ (upd H p o) S :=
  R.keep (fun a m => upd_ne fun e => notin_of_none R hp (e ▸ m)) fun xs vs => relVs_upd (by rw [hp]; intro _ _ z; cases z) (by rw [hp]; intro _ z; cases z)
/-- a fresh list, known to the store -/
theorem Rel.push (R : Rel K φ H S) {p : Addr} (hp : H p = none) {xs : List PV} {vs : List V} (r : relVs K φ H xs vs) : Rel K (φ ++ [p]) (upd H p (.lst vs)) (S ++ [.lst xs]) := by
  have n1 : ∀ w u, H p ≠ some (.frz w u) := by rw [hp]; intro _ _ z; cases z
  have n2 : ∀ ws, H p ≠ some (.tup ws) := by rw [hp]; intro _ z; cases z
  have up : ∀ {xs vs}, relVs K φ H xs vs → relVs K (φ ++ [p]) (upd H p (.lst vs)) xs vs := fun {xs vs} q => relVs_sub (fun _ _ => sqT_upd n1 n2) (fun _ _ => imL_upd n1) (List.prefix_append _ _) xs vs q
  have up2 : ∀ {xs ws vs}, relVs K φ H xs ws → relVs K (φ ++ [p]) (upd H p (.lst vs)) xs ws := fun {xs ws vs} q => relVs_sub (fun _ _ => sqT_upd n1 n2) (fun _ _ => imL_upd n1) (List.prefix_append _ _) xs ws q
  refine ⟨by simp [R.len], ?_, fun n a o e1 e2 => ?_⟩
  · rw [List.nodup_append]
    refine ⟨R.nd, by simp, fun a ha b hb => ?_⟩
    simp at hb; subst hb
    exact fun e => notin_of_none R hp (e ▸ ha)
  · by_cases hn : n < φ.length
    · rw [List.getElem?_append_left hn] at e1
      rw [List.getElem?_append_left (by rw [← R.len]; exact hn)] at e2
      have r2 := R.obj n a o e1 e2
      cases o with
      | lst ys =>
        obtain ⟨ws, e, r2⟩ := r2
        exact ⟨ws, by rw [upd_ne (ne_of_none e hp)]; exact e, up2 r2⟩
    · rw [List.getElem?_append_right (by omega)] at e1
      rw [List.getElem?_append_right (by rw [← R.len]; omega), ← R.len] at e2
      have hz : n - φ.length = 0 := by
        have := (List.getElem?_eq_some_iff.mp e1).1
        simp at this; omega
      rw [hz] at e1 e2
      simp at e1 e2
      subst e1; subst e2
      exact ⟨vs, upd_same, up2 r⟩
theorem Ext.push (R : Rel K φ H S) {p : Addr} (hp : H p = none) (o : HO) : Ext φ H (φ ++ [p]) (upd H p o) :=
  ⟨List.prefix_append _ _, fun a u h _ => by rw [upd_ne (ne_of_none h hp)]; exact h, fun a m n => by
    rcases List.mem_append.mp m with m | m
    · exact absurd m n
    · simp at m; subst m; exact hp⟩
theorem nodup_get {α : Type} : ∀ {l : List α} {i j : Nat} {a : α}, l.Nodup → l[i]? = some a → l[j]? = some a → i = j
  | [], _, _, _, _, hi, _ => by simp at hi
  | x :: l, 0, 0, _, _, _, _ => rfl
  | x :: l, 0, j + 1, a, h, hi, hj => by
    simp at hi hj; subst hi
    exact absurd (List.mem_of_getElem? hj) (List.nodup_cons.mp h).1
  | x :: l, i + 1, 0, a, h, hi, hj => by
    simp at hi hj; subst hj
    exact absurd (List.mem_of_getElem? hi) (List.nodup_cons.mp h).1
  | x :: l, i + 1, j + 1, a, h, hi, hj => by
    rw [nodup_get (i := i) (j := j) (List.nodup_cons.mp h).2 (by simpa using hi) (by simpa using hj)]
/-- a list of the store written -/
theorem Rel.write (R : Rel K φ H S) {n : Nat} {p : Addr} (hn : φ[n]? = some p) {xs : List PV} {vs : List V} (r : relVs K φ H xs vs) : Rel K φ (upd H p (.lst vs)) (S.set n (.lst xs)) := by
  obtain ⟨ws0, e0⟩ := R.mem_lst (List.mem_of_getElem? hn)
  have n1 : ∀ w u, H p ≠ some (.frz w u) := by rw [e0]; intro _ _ z; cases z
  have n2 : ∀ ws, H p ≠ some (.tup ws) := by rw [e0]; intro _ z; cases z
  refine ⟨by simp [R.len], R.nd, fun m a o e1 e2 => ?_⟩
  by_cases hm : n = m
  · subst hm
    rw [hn] at e1; cases e1
    rw [List.getElem?_set] at e2
    simp only [if_pos] at e2
    split at e2
    · cases e2
      exact ⟨vs, upd_same, relVs_upd n1 n2 r⟩
    · cases e2
  · rw [List.getElem?_set_ne hm] at e2
    have r2 := R.obj m a o e1 e2
    cases o with
    | lst ys =>
      obtain ⟨ws, e, r2⟩ := r2
      exact ⟨ws, by rw [upd_ne (fun z => hm (nodup_get R.nd hn (by rw [← z]; exact e1)))]; exact e, relVs_upd n1 n2 r2⟩
theorem Ext.write (R : Rel K φ H S) {n : Nat} {p : Addr} (hn : φ[n]? = some p) (o : HO) : Ext φ H φ (upd H p o) :=
  ⟨List.prefix_refl _, fun a u h na => by rw [upd_ne (fun z => na (by rw [z]; exact List.mem_of_getElem? hn))]; exact h, fun _ m n => absurd m n⟩
end
end Mp

/-! Mp1: what is behind an evaluation; operators by values. -/
namespace Mp
open PySem PySem.Spec PyProof.Rows L2

def Post (K : PySem.W.Frag) (φ : List Addr) (H : Hp) (Q : VK) (x : PV) (S : Store) : Prop :=
  ∀ (φ' : List Addr) (v : V) (H' : Hp), Ext φ H φ' H' → Rel K φ' H' S → relV K φ' H' x v → Q v H'
theorem Post.ext {K : PySem.W.Frag} {φ φ' : List Addr} {H H' : Hp} {Q : VK} {x : PV} {S : Store} (P : Post K φ H Q x S) (E : Ext φ H φ' H') : Post K φ' H' Q x S :=
  fun φ2 v H2 E2 R r => P φ2 v H2 (E.trans E2) R r
/-- an expression's reading, by the evaluator -/
def tI (K : PySem.W.Frag) (f : Loc → Store → Res PV) : TE := fun σ H Q => ∃ φ ρ S r S', Rel K φ H S ∧ RelL K φ H ρ σ ∧ f ρ S = .ok r S' ∧ Post K φ H Q r S'
def PostA (K : PySem.W.Frag) (φ : List Addr) (H : Hp) (Q : List V → Hp → Prop) (xs : List PV) (S : Store) : Prop :=
  ∀ (φ' : List Addr) (vs : List V) (H' : Hp), Ext φ H φ' H' → Rel K φ' H' S → relVs K φ' H' xs vs → Q vs H'
def tIA (K : PySem.W.Frag) (f : Loc → Store → Res (List PV)) : TA := fun σ H Q => ∃ φ ρ S r S', Rel K φ H S ∧ RelL K φ H ρ σ ∧ f ρ S = .ok r S' ∧ PostA K φ H Q r S'
section
variable {K : PySem.W.Frag} {φ : List Addr} {H : Hp} {S S' : Store} {ρ : Loc} {σ : L2.St}
theorem bind_inv {α β : Type} {r : Res α} {f : α → Store → Res β} {b : β} {S' : Store} (h : r.bind f = .ok b S') : ∃ a S1, r = .ok a S1 ∧ f a S1 = .ok b S' := by
  cases r with
  | ok a S1 => exact ⟨a, S1, rfl, h⟩
  | exc c a S1 => cases h
  | bad => cases h
theorem tI_step {β : Type} {f : Loc → Store → Res PV} {g : PV → Store → Res β} {r : β} {S' : Store} {Q1 : VK} (R : Rel K φ H S) (L : RelL K φ H ρ σ) (h : (f ρ S).bind g = .ok r S')
    (k : ∀ x S1, f ρ S = .ok x S1 → g x S1 = .ok r S' → ∀ φ1 v1 H1, Ext φ H φ1 H1 → Rel K φ1 H1 S1 → RelL K φ1 H1 ρ σ → relV K φ1 H1 x v1 → Q1 v1 H1) : tI K f σ H Q1 := by
  obtain ⟨x, S1, e1, e2⟩ := bind_inv h
  exact ⟨φ, ρ, S, x, S1, R, L, e1, fun φ1 v1 H1 E1 R1 r1 => k x S1 e1 e2 φ1 v1 H1 E1 R1 (L.ext R E1 R1) r1⟩
theorem tIA_step {β : Type} {f : Loc → Store → Res (List PV)} {g : List PV → Store → Res β} {r : β} {S' : Store} {Q1 : List V → Hp → Prop} (R : Rel K φ H S) (L : RelL K φ H ρ σ) (h : (f ρ S).bind g = .ok r S')
    (k : ∀ x S1, f ρ S = .ok x S1 → g x S1 = .ok r S' → ∀ φ1 v1 H1, Ext φ H φ1 H1 → Rel K φ1 H1 S1 → RelL K φ1 H1 ρ σ → relVs K φ1 H1 x v1 → Q1 v1 H1) : tIA K f σ H Q1 := by
  obtain ⟨x, S1, e1, e2⟩ := bind_inv h
  exact ⟨φ, ρ, S, x, S1, R, L, e1, fun φ1 v1 H1 E1 R1 r1 => k x S1 e1 e2 φ1 v1 H1 E1 R1 (L.ext R E1 R1) r1⟩
end
theorem PE.imp {X : Cx} {e : Expr} {t t' : TE} (h : PE X e t) (i : ∀ σ H Q, t' σ H Q → t σ H Q) : PE X e t' := ⟨fun pins s σ H Q I q => h.run pins s σ H Q I (i _ _ _ q)⟩
theorem PA.imp {X : Cx} {e : List Expr} {t t' : TA} (h : PA X e t) (i : ∀ σ H Q, t' σ H Q → t σ H Q) : PA X e t' := ⟨fun pos pins s σ H Q I q => h.run pos pins s σ H Q I (i _ _ _ q)⟩
theorem PT.imp {X : Cx} {e : Expr} {t t' : TT} (h : PT X e t) (i : ∀ σ H Q, t' σ H Q → t σ H Q) : PT X e t' := ⟨fun pins s σ H Q I q => h.run pins s σ H Q I (i _ _ _ q)⟩
theorem OpR.imp {X : Cx} {f : Value → Value → Sem Value} {r r' : R2} (h : OpR X f r) (i : ∀ x y H Q, r' x y H Q → r x y H Q) : OpR X f r' :=
  fun pins s σ H x y v u Q I rx ry q => h pins s σ H x y v u Q I rx ry (i _ _ _ _ q)
/-- two values, by the evaluator's operation g -/
def rI2 (K : PySem.W.Frag) (g : PV → PV → Store → Res PV) : R2 := fun x y H Q => ∃ φ S px py r S', Rel K φ H S ∧ relV K φ H px x ∧ relV K φ H py y ∧ g px py S = .ok r S' ∧ Post K φ H Q r S'
theorem rI2.split {K : PySem.W.Frag} {g : PV → PV → Store → Res PV} {x y : V} {H : Hp} {Q : VK} (h : rI2 K g x y H Q) :
    ∃ φ S px py r S', Rel K φ H S ∧ relV K φ H px x ∧ relV K φ H py y ∧ g px py S = .ok r S' ∧ Post K φ H Q r S' := h
section
variable {K : PySem.W.Frag} {φ : List Addr} {H : Hp} {S S' : Store} {Q : VK}
/-- a value that lays nothing -/
theorem Post.pure {x : PV} {v : V} (P : Post K φ H Q x S) (R : Rel K φ H S) (r : relV K φ H x v) : Q v H := P φ v H (Ext.refl _ _) R r
theorem Post.newTup {xs : List PV} {vs : List V} (P : Post K φ H Q (.tup xs) S) (R : Rel K φ H S) (r : relVs K φ H xs vs) : ∀ p, H p = none → Q (.ref p) (upd H p (.tup vs)) := fun p hp =>
  P φ (.ref p) _ (Ext.laid hp _) (R.laid hp _) ⟨p, vs, rfl, SqT.of upd_same, relVs_upd (by rw [hp]; intro _ _ z; cases z) (by rw [hp]; intro _ z; cases z) r⟩
theorem Post.newLst {xs : List PV} {vs : List V} (P : Post K φ H Q (.ref S.length) (S ++ [.lst xs])) (R : Rel K φ H S) (r : relVs K φ H xs vs) : ∀ p, H p = none → Q (.ref p) (upd H p (.lst vs)) := fun p hp =>
  P (φ ++ [p]) (.ref p) _ (Ext.push R hp _) (R.push hp r) ⟨p, rfl, by rw [← R.len]; simp⟩
theorem Rel.lst (R : Rel K φ H S) {n : Nat} {xs : List PV} {v : V} (h : S[n]? = some (.lst xs)) (r : relV K φ H (.ref n) v) : ∃ a vs, v = .ref a ∧ φ[n]? = some a ∧ H a = some (.lst vs) ∧ relVs K φ H xs vs := by
  obtain ⟨a, rfl, e⟩ := r
  obtain ⟨vs, e1, r1⟩ := R.obj n a _ e h
  exact ⟨a, vs, rfl, e, e1, r1⟩
end
def lim : Nat := 16777216
theorem lim_eq : sizeLine = lim := sizeLine_eq
theorem str_len (a : List Nat) : (⟨a.toArray⟩ : Str).length = a.length := by show a.toArray.size = _; simp
theorem str_app (a b : List Nat) : (⟨a.toArray⟩ : Str) ++ (⟨b.toArray⟩ : Str) = ⟨(a ++ b).toArray⟩ := by
  show (⟨a.toArray ++ b.toArray⟩ : Str) = _
  simp

/-! ### + -/
def addV (x y : PV) (S : Store) : Res PV := match x, y with
  | .int i, .int j => .ok (.int (i + j)) S
  | .str a, .str b => if a.length + b.length ≤ lim then .ok (.str (a ++ b)) S else .bad
  | .tup a, .tup b => if a.length + b.length ≤ lim then .ok (.tup (a ++ b)) S else .bad
  | .ref a, .ref b => match S[a]?, S[b]? with
    | some (.lst xs), some (.lst ys) => if xs.length + ys.length ≤ lim then .ok (.ref S.length) (S ++ [.lst (xs ++ ys)]) else .bad
    | _, _ => .bad
  | _, _ => .bad
theorem op_addV {X : Cx} : OpR X (binaryOp .Add) (rI2 X.K addV) := by
  refine OpR.imp (OpR.or op_add (OpR.or op_add_str (OpR.or op_catA op_cat))) fun x y H Q h => ?_
  obtain ⟨φ, S, px, py, r, S', R, rx, ry, e, P⟩ := h
  unfold addV at e
  split at e
  · cases e
    cases rx; cases ry
    exact .inl ⟨_, _, rfl, rfl, P.pure R rfl⟩
  · split at e
    · rename_i hl
      cases e
      cases rx; cases ry
      refine .inr (.inl ⟨_, _, rfl, rfl, ?_, ?_⟩)
      · rw [str_len, str_len, lim_eq]; exact hl
      · rw [str_app]; exact P.pure R rfl
    · cases e
  · split at e
    · rename_i a b hl
      cases e
      obtain ⟨p, vs, rfl, h1, r1⟩ := rx
      obtain ⟨q, ws, rfl, h2, r2⟩ := ry
      have l1 := relVs_len r1
      have l2 := relVs_len r2
      refine .inr (.inr (.inl ⟨p, q, vs, ws, rfl, rfl, h1, h2, by rw [← l1, ← l2, lim_eq]; exact hl, fun e => ?_, fun n1 e => ?_, fun n1 n2 p hp => ?_⟩))
      · subst e
        cases a with
        | nil => exact P.pure R ⟨q, ws, rfl, h2, r2⟩
        | cons _ _ => simp at l1
      · subst e
        cases b with
        | nil => rw [List.append_nil] at P; exact P.pure R ⟨p, vs, rfl, h1, r1⟩
        | cons _ _ => simp at l2
      · exact P.newTup R (relVs_app r1 r2) p hp
    · cases e
  · split at e
    · rename_i h1 h2
      split at e
      · rename_i hl
        cases e
        obtain ⟨p, vs, rfl, _, g1, r1⟩ := R.lst h1 rx
        obtain ⟨q, ws, rfl, _, g2, r2⟩ := R.lst h2 ry
        exact .inr (.inr (.inr ⟨p, q, vs, ws, rfl, rfl, g1, g2, by rw [← relVs_len r1, ← relVs_len r2, lim_eq]; exact hl, P.newLst R (relVs_app r1 r2)⟩))
      · cases e
    · cases e
  · cases e

/-! ### other arithmetic of ints -/
def intOp (c : Int → Int → Bool) (g : Int → Int → Int) (x y : PV) (S : Store) : Res PV := match x, y with
  | .int i, .int j => if c i j = true then .ok (.int (g i j)) S else .bad
  | _, _ => .bad
theorem op_intV {X : Cx} {f : Value → Value → Sem Value} {C : Int → Int → Prop} {g : Int → Int → Int} {c : Int → Int → Bool} (h : OpR X f (rI C fun i j => .int (g i j))) (hc : ∀ i j, c i j = true → C i j) : OpR X f (rI2 X.K (intOp c g)) := by
  refine OpR.imp h fun x y H Q h => ?_
  obtain ⟨φ, S, px, py, r, S', R, rx, ry, e, P⟩ := h
  unfold intOp at e
  split at e
  · split at e
    · rename_i hcc
      cases e
      cases rx; cases ry
      exact ⟨_, _, rfl, rfl, hc _ _ hcc, P.pure R rfl⟩
    · cases e
  · cases e
theorem opr_toI {X : Cx} {f : Value → Value → Sem Value} {g : Int → Int → Int} (h : OpR X f (rI0 fun i j => .int (g i j))) : OpR X f (rI (fun _ _ => True) fun i j => .int (g i j)) :=
  OpR.imp h fun x y H Q ⟨i, j, e1, e2, _, q⟩ => ⟨i, j, e1, e2, q⟩
def cYes (_ _ : Int) : Bool := true
def cMul (i j : Int) : Bool := decide ((-18446744073709551616 < j ∧ j < 18446744073709551616) ∨ (-18446744073709551616 < i ∧ i < 18446744073709551616) ∨ i.natAbs.log2 + j.natAbs.log2 < 1000000)
def cDiv (_ j : Int) : Bool := decide (0 < j ∧ (j < 1073741824 ∨ j.natAbs.log2 < 9000))
def cMod (_ j : Int) : Bool := decide (0 < j)
def cPow (i j : Int) : Bool := decide (0 ≤ j ∧ j ≤ 1000000 ∧ i.natAbs < 18446744073709551616)
def cShr (_ j : Int) : Bool := decide (0 ≤ j)
def subV : PV → PV → Store → Res PV := intOp cYes fun i j => i - j
def fdivV : PV → PV → Store → Res PV := intOp cDiv fun i j => i / j
def modV : PV → PV → Store → Res PV := intOp cMod fun i j => i % j
def powV : PV → PV → Store → Res PV := intOp cPow fun i j => i ^ j.toNat
def shlV : PV → PV → Store → Res PV := intOp cPow fun i j => i * 2 ^ j.toNat
def shrV : PV → PV → Store → Res PV := intOp cShr fun i j => i / 2 ^ j.toNat
def andV : PV → PV → Store → Res PV := intOp cYes Builtin.bitAnd
def orV : PV → PV → Store → Res PV := intOp cYes Builtin.bitOr
def xorV : PV → PV → Store → Res PV := intOp cYes Builtin.bitXor
theorem op_mulAll {X : Cx} : OpR X (binaryOp .Mult) (rI (fun i j => cMul i j = true) fun i j => .int (i * j)) := by
  refine OpR.imp (OpR.or op_mul op_mulW) fun x y H Q ⟨i, j, e1, e2, h, q⟩ => ?_
  have h := of_decide_eq_true h
  rcases h with h | h | h
  · exact .inl ⟨i, j, e1, e2, .inr h, q⟩
  · exact .inl ⟨i, j, e1, e2, .inl h, q⟩
  · exact .inr ⟨i, j, e1, e2, h, q⟩
theorem op_divAll {X : Cx} : OpR X (binaryOp .FloorDiv) (rI (fun i j => cDiv i j = true) fun i j => .int (i / j)) := by
  refine OpR.imp (OpR.or op_fdiv op_fdivW) fun x y H Q ⟨i, j, e1, e2, h, q⟩ => ?_
  have h := of_decide_eq_true h
  rcases h with ⟨h0, h | h⟩
  · exact .inl ⟨i, j, e1, e2, ⟨h0, h⟩, q⟩
  · exact .inr ⟨i, j, e1, e2, ⟨h0, h⟩, q⟩
theorem op_subV {X : Cx} : OpR X (binaryOp .Sub) (rI2 X.K subV) := op_intV (opr_toI op_sub) fun _ _ _ => trivial
theorem op_fdivV {X : Cx} : OpR X (binaryOp .FloorDiv) (rI2 X.K fdivV) := op_intV op_divAll fun _ _ h => h
theorem op_modV {X : Cx} : OpR X (binaryOp .Mod) (rI2 X.K modV) := op_intV op_mod fun _ _ h => of_decide_eq_true h
theorem op_powV {X : Cx} : OpR X (binaryOp .Pow) (rI2 X.K powV) := op_intV op_pow fun i j h => by
  have h := of_decide_eq_true h
  exact ⟨h.1, h.2.1, by have := h.2.2; show i.natAbs < 2 ^ 64; omega⟩
theorem op_shlV {X : Cx} : OpR X (binaryOp .LShift) (rI2 X.K shlV) := op_intV op_shl fun i j h => by
  have h := of_decide_eq_true h
  exact ⟨h.1, h.2.1, by have := h.2.2; show i.natAbs < 2 ^ 64; omega⟩
theorem op_shrV {X : Cx} : OpR X (binaryOp .RShift) (rI2 X.K shrV) := op_intV op_shr fun _ _ h => of_decide_eq_true h
theorem op_andV {X : Cx} : OpR X (binaryOp .BitAnd) (rI2 X.K andV) := op_intV (opr_toI op_and) fun _ _ _ => trivial
theorem op_orV {X : Cx} : OpR X (binaryOp .BitOr) (rI2 X.K orV) := op_intV (opr_toI op_or) fun _ _ _ => trivial
theorem op_xorV {X : Cx} : OpR X (binaryOp .BitXor) (rI2 X.K xorV) := op_intV (opr_toI op_xor) fun _ _ _ => trivial
/-- the list, the tuple repeated -/
def mulV (x y : PV) (S : Store) : Res PV := match x, y with
  | .int i, .int j => if cMul i j = true then .ok (.int (i * j)) S else .bad
  | .ref a, .int k => match S[a]? with
    | some (.lst xs) => if 0 ≤ k ∧ k ≤ 1000000 ∧ xs.length * k.toNat ≤ lim then .ok (.ref S.length) (S ++ [.lst (List.replicate k.toNat xs).flatten]) else .bad
    | _ => .bad
  | .tup xs, .int k => if 2 ≤ k ∧ k ≤ 1000 ∧ xs.length ≤ 1000 ∧ 0 < xs.length then .ok (.tup (List.replicate k.toNat xs).flatten) S else .bad
  | _, _ => .bad
theorem relVs_rep {K : PySem.W.Frag} {φ : List Addr} {H : Hp} {xs : List PV} {vs : List V} (h : relVs K φ H xs vs) : ∀ k : Nat, relVs K φ H (List.replicate k xs).flatten (List.replicate k vs).flatten
  | 0 => rfl
  | k + 1 => by
    rw [List.replicate_succ, List.replicate_succ, List.flatten_cons, List.flatten_cons]
    exact relVs_app h (relVs_rep h k)
theorem op_mulV {X : Cx} : OpR X (binaryOp .Mult) (rI2 X.K mulV) := by
  refine OpR.imp (OpR.or op_mulAll (OpR.or op_rep op_repT)) fun x y H Q h => ?_
  obtain ⟨φ, S, px, py, r, S', R, rx, ry, e, P⟩ := h
  unfold mulV at e
  split at e
  · split at e
    · rename_i hcc
      cases e
      cases rx; cases ry
      exact .inl ⟨_, _, rfl, rfl, hcc, P.pure R rfl⟩
    · cases e
  · split at e
    · rename_i h1
      split at e
      · rename_i hl
        cases e
        obtain ⟨p, vs, rfl, _, g1, r1⟩ := R.lst h1 rx
        cases ry
        exact .inr (.inl ⟨p, _, vs, rfl, rfl, g1, by omega, by omega, by rw [← relVs_len r1, lim_eq]; exact hl.2.2, P.newLst R (relVs_rep r1 _)⟩)
      · cases e
    · cases e
  · split at e
    · rename_i hl
      cases e
      obtain ⟨p, vs, rfl, h1, r1⟩ := rx
      cases ry
      have l1 := relVs_len r1
      exact .inr (.inr ⟨p, _, vs, rfl, rfl, h1, fun z => by subst z; simp at l1; simp [l1] at hl, hl.1, hl.2.1, by omega, P.newTup R (relVs_rep r1 _)⟩)
    · cases e
  · cases e
def binV (op : Operator) : PV → PV → Store → Res PV := match op with
  | .Add => addV | .Sub => subV | .Mult => mulV | .FloorDiv => fdivV | .Mod => modV | .Pow => powV | .LShift => shlV | .RShift => shrV | .BitAnd => andV | .BitOr => orV | .BitXor => xorV
  | _ => fun _ _ _ => .bad
theorem op_binV {X : Cx} (op : Operator) : OpR X (binaryOp op) (rI2 X.K (binV op)) := by
  cases op with
  | Add => exact op_addV
  | Sub => exact op_subV
  | Mult => exact op_mulV
  | FloorDiv => exact op_fdivV
  | Mod => exact op_modV
  | Pow => exact op_powV
  | LShift => exact op_shlV
  | RShift => exact op_shrV
  | BitAnd => exact op_andV
  | BitOr => exact op_orV
  | BitXor => exact op_xorV
  | MatMult => exact fun pins s σ H x y v u Q I rx ry ⟨_, _, _, _, _, _, _, _, _, e, _⟩ => by cases e
  | Div => exact fun pins s σ H x y v u Q I rx ry ⟨_, _, _, _, _, _, _, _, _, e, _⟩ => by cases e
/-! ### op= -/
def iaddV (x y : PV) (S : Store) : Res PV := match x, y with
  | .int i, .int j => .ok (.int (i + j)) S
  | .str a, .str b => if a.length + b.length ≤ lim then .ok (.str (a ++ b)) S else .bad
  | _, _ => .bad
theorem op_iaddV {X : Cx} : OpR X (inplaceOp .Add) (rI2 X.K iaddV) := by
  refine OpR.imp (OpR.or iop_add iop_add_str) fun x y H Q h => ?_
  obtain ⟨φ, S, px, py, r, S', R, rx, ry, e, P⟩ := h
  unfold iaddV at e
  split at e
  · cases e
    cases rx; cases ry
    exact .inl ⟨_, _, rfl, rfl, P.pure R rfl⟩
  · split at e
    · rename_i hl
      cases e
      cases rx; cases ry
      refine .inr ⟨_, _, rfl, rfl, ?_, ?_⟩
      · rw [str_len, str_len, lim_eq]; exact hl
      · rw [str_app]; exact P.pure R rfl
    · cases e
  · cases e
def ibinV (op : Operator) : PV → PV → Store → Res PV := match op with
  | .Add => iaddV | .Sub => subV
  | _ => fun _ _ _ => .bad
theorem op_ibinV {X : Cx} (op : Operator) : OpR X (inplaceOp op) (rI2 X.K (ibinV op)) := by
  cases op with
  | Add => exact op_iaddV
  | Sub => exact op_intV (opr_toI iop_sub) fun _ _ _ => trivial
  | _ => exact fun pins s σ H x y v u Q I rx ry ⟨_, _, _, _, _, _, _, _, _, e, _⟩ => by cases e
end Mp

/-! Mp2: comparisons, truth, built-in functions, methods, by values. -/
namespace Mp
open PySem PySem.Spec PyProof.Rows L2

/-! ### data of any depth -/
mutual
def flat (g : Nat → Option PV) : PV → Option PV
  | .non => some .non
  | .bl b => some (.bl b)
  | .int i => some (.int i)
  | .str x => some (.str x)
  | .tup xs => (flats g xs).map .tup
  | .ltc xs => (flats g xs).map .ltc
  | .ref n => g n
def flats (g : Nat → Option PV) : List PV → Option (List PV)
  | [] => some []
  | x :: xs => (flat g x).bind fun y => (flats g xs).map fun ys => y :: ys
end
def flatR (S : Store) : Nat → Nat → Option PV
  | 0, _ => none
  | n + 1, k => match S[k]? with
    | some (.lst xs) => (flats (flatR S n) xs).map .ltc
    | _ => none
def flatS (S : Store) (x : PV) : Option PV := flat (flatR S 8) x
mutual
def dOf : PV → PyData
  | .non => .none
  | .bl b => .bool b
  | .int i => .int i
  | .str x => .str ⟨x.toArray⟩
  | .tup xs => .tuple (dOfs xs)
  | .ltc xs => .list (dOfs xs)
  | .ref _ => .none
def dOfs : List PV → List PyData
  | [] => []
  | x :: xs => dOf x :: dOfs xs
end
section
variable {K : PySem.W.Frag} {φ : List Addr} {H : Hp} {S : Store}
mutual
theorem dp_flat {g : Nat → Option PV} (hg : ∀ n y a, g n = some y → φ[n]? = some a → Dp K H (.ref a) (dOf y)) : ∀ (x : PV) (y : PV) (v : V), flat g x = some y → relV K φ H x v → Dp K H v (dOf y)
  | .non, _, _, e, r => by cases e; cases r; exact .non
  | .bl b, _, _, e, r => by cases e; cases r; exact .bl b
  | .int i, _, _, e, r => by cases e; cases r; exact .int i
  | .str x, _, _, e, r => by cases e; cases r; exact .str _
  | .tup xs, _, _, e, r => by
    obtain ⟨ys, e1, rfl⟩ := Option.map_eq_some_iff.mp e
    obtain ⟨a, vs, rfl, h1, h2⟩ := r
    exact .tup h1 (dp_flats hg xs ys vs e1 h2)
  | .ltc xs, _, _, e, r => by
    obtain ⟨ys, e1, rfl⟩ := Option.map_eq_some_iff.mp e
    obtain ⟨a, vs, rfl, h1, h2⟩ := r
    exact .lst h1.sq (dp_flats hg xs ys vs e1 h2)
  | .ref n, y, _, e, r => by
    obtain ⟨a, rfl, h⟩ := r
    exact hg n y a e h
theorem dp_flats {g : Nat → Option PV} (hg : ∀ n y a, g n = some y → φ[n]? = some a → Dp K H (.ref a) (dOf y)) : ∀ (xs : List PV) (ys : List PV) (vs : List V), flats g xs = some ys → relVs K φ H xs vs → DpAll K H vs (dOfs ys)
  | [], _, _, e, r => by cases e; cases r; exact .nil
  | x :: xs, _, _, e, r => by
    obtain ⟨y, e1, e2⟩ := Option.bind_eq_some_iff.mp e
    obtain ⟨ys, e3, rfl⟩ := Option.map_eq_some_iff.mp e2
    obtain ⟨v, ws, rfl, h1, h2⟩ := r
    exact .cons (dp_flat hg x y v e1 h1) (dp_flats hg xs ys ws e3 h2)
end
theorem dp_flatR (R : Rel K φ H S) : ∀ (m n : Nat) (y : PV) (a : Addr), flatR S m n = some y → φ[n]? = some a → Dp K H (.ref a) (dOf y)
  | 0, _, _, _, e, _ => by cases e
  | m + 1, n, y, a, e, h => by
    unfold flatR at e
    split at e
    · rename_i xs hs
      obtain ⟨ys, e1, rfl⟩ := Option.map_eq_some_iff.mp e
      obtain ⟨vs, h1, h2⟩ := R.obj n a _ h hs
      exact .lst (SqL.of h1) (dp_flats (dp_flatR R m) xs ys vs e1 h2)
    · cases e
theorem dp_flatS (R : Rel K φ H S) {x y : PV} {v : V} (e : flatS S x = some y) (r : relV K φ H x v) : Dp K H v (dOf y) := dp_flat (dp_flatR R 8) x y v e r
end
/-- == -/
def eqB (S : Store) (x y : PV) : Option Bool := match x, y with
  | .int i, .int j => some (decide (i = j))
  | .str a, .str b => some (decide (a = b))
  | .bl a, .bl b => some (decide (a = b))
  | .non, .non => some true
  | x, y => match flatS S x, flatS S y with
    | some a, some b => if SeqAt.shaped (dOf a) = true ∧ SeqAt.shaped (dOf b) = true then some (PyData.eqv (dOf a) (dOf b)) else none
    | _, _ => none
def toB (o : Option Bool) (f : Bool → Bool) (S : Store) : Res PV := match o with | some b => .ok (.bl (f b)) S | none => .bad
def eqV (x y : PV) (S : Store) : Res PV := toB (eqB S x y) (fun b => b) S
def neV (x y : PV) (S : Store) : Res PV := toB (eqB S x y) (fun b => !b) S
theorem eqB_cases {K : PySem.W.Frag} {φ : List Addr} {H : Hp} {S : Store} {x y : PV} {v w : V} {b : Bool} (R : Rel K φ H S) (rx : relV K φ H x v) (ry : relV K φ H y w) (h : eqB S x y = some b) :
    (scal v w = true ∧ b = decide (v = w)) ∨ (∃ d e, Dp K H v d ∧ Dp K H w e ∧ SeqAt.shaped d = true ∧ SeqAt.shaped e = true ∧ b = PyData.eqv d e) := by
  unfold eqB at h
  split at h
  · cases h; cases rx; cases ry; exact .inl ⟨rfl, by simp⟩
  · cases h; cases rx; cases ry; exact .inl ⟨rfl, by simp⟩
  · cases h; cases rx; cases ry; exact .inl ⟨rfl, by simp⟩
  · cases h; cases rx; cases ry; exact .inl ⟨rfl, by simp⟩
  · split at h
    · rename_i a b e1 e2
      split at h
      · rename_i hs
        cases h
        exact .inr ⟨_, _, dp_flatS R e1 rx, dp_flatS R e2 ry, hs.1, hs.2, rfl⟩
      · cases h
    · cases h
theorem toB_inv {o : Option Bool} {f : Bool → Bool} {S S' : Store} {r : PV} (h : toB o f S = .ok r S') : ∃ b, o = some b ∧ r = .bl (f b) ∧ S' = S := by
  cases o with
  | none => cases h
  | some b => cases h; exact ⟨b, rfl, rfl, rfl⟩
theorem op_eqP {X : Cx} (hu : X.A.units + 64 < cLine) : OpR X (compareOp .Eq) (rI2 X.K eqV) := by
  refine OpR.imp (OpR.or op_eq (op_eqD hu)) fun x y H Q h => ?_
  obtain ⟨φ, S, px, py, r, S', R, rx, ry, e, P⟩ := h
  obtain ⟨b, e1, rfl, rfl⟩ := toB_inv e
  rcases eqB_cases R rx ry e1 with ⟨h1, rfl⟩ | ⟨d, d', h1, h2, h3, h4, rfl⟩
  · exact .inl ⟨h1, P.pure R rfl⟩
  · exact .inr ⟨d, d', h1, h2, h3, h4, P.pure R rfl⟩
theorem op_neP {X : Cx} (hu : X.A.units + 64 < cLine) : OpR X (compareOp .NotEq) (rI2 X.K neV) := by
  refine OpR.imp (OpR.or op_ne (op_neD hu)) fun x y H Q h => ?_
  obtain ⟨φ, S, px, py, r, S', R, rx, ry, e, P⟩ := h
  obtain ⟨b, e1, rfl, rfl⟩ := toB_inv e
  rcases eqB_cases R rx ry e1 with ⟨h1, rfl⟩ | ⟨d, d', h1, h2, h3, h4, rfl⟩
  · exact .inl ⟨h1, P.pure R rfl⟩
  · exact .inr ⟨d, d', h1, h2, h3, h4, P.pure R rfl⟩
/-! ### order -/
/-- order of two lists of values: eq says which pairs are alike, f what a pair gives, gz what the lengths give -/
def ordL (eq f : PV → PV → Option Bool) (gz : Nat → Nat → Bool) : List PV → List PV → Option Bool
  | [], ys => some (gz 0 ys.length)
  | _ :: xs, [] => some (gz (xs.length + 1) 0)
  | x :: xs, y :: ys => match eq x y, ordL eq f gz xs ys with
    | some true, some r => some r
    | some false, some _ => f x y
    | _, _ => none
def ordD (eq : PV → PV → Option Bool) (gi : Int → Int → Bool) (gs : List Nat → List Nat → Bool) (gz : Nat → Nat → Bool) : Nat → PV → PV → Option Bool
  | 0, x, y => match x, y with
    | .int i, .int j => some (gi i j)
    | .str a, .str b => some (gs a b)
    | _, _ => none
  | n + 1, x, y => match x, y with
    | .int i, .int j => some (gi i j)
    | .str a, .str b => some (gs a b)
    | .tup xs, .tup ys => ordL eq (ordD eq gi gs gz n) gz xs ys
    | _, _ => none
theorem lexAt_shift (e r : Nat → Bool) (z : Bool) : ∀ (k i : Nat), Ob.lexAt (fun j => e (j + 1)) (fun j => r (j + 1)) z i k = Ob.lexAt e r z (i + 1) k
  | 0, _ => rfl
  | k + 1, i => by
    show (if e (i + 1) = true then _ else _) = (if e (i + 1) = true then _ else _)
    rw [lexAt_shift e r z k (i + 1)]
theorem ordL_spec {eq f : PV → PV → Option Bool} {gz : Nat → Nat → Bool} (hz : ∀ n m, gz (n + 1) (m + 1) = gz n m) : ∀ {xs ys : List PV} {b : Bool}, ordL eq f gz xs ys = some b →
    ∃ e r : Nat → Bool, (∀ (j : Nat) (x y : PV), xs[j]? = some x → ys[j]? = some y → eq x y = some (e j) ∧ (e j = false → f x y = some (r j))) ∧ Ob.lexAt e r (gz xs.length ys.length) 0 (min xs.length ys.length) = b
  | [], ys, b, h => by
    cases h
    exact ⟨fun _ => true, fun _ => true, fun j x y e => by simp at e, by rw [List.length_nil, Nat.zero_min]; rfl⟩
  | x :: xs, [], b, h => by
    cases h
    exact ⟨fun _ => true, fun _ => true, fun j x y _ e => by simp at e, by rw [List.length_nil, Nat.min_zero]; rfl⟩
  | x :: xs, y :: ys, b, h => by
    unfold ordL at h
    split at h
    · rename_i e1 e2
      cases h
      obtain ⟨e, r, h1, h2⟩ := ordL_spec hz e2
      refine ⟨fun j => match j with | 0 => true | j + 1 => e j, fun j => match j with | 0 => true | j + 1 => r j, fun j z w hz hw => ?_, ?_⟩
      · cases j with
        | zero => simp at hz hw; subst hz hw; exact ⟨e1, fun q => by cases q⟩
        | succ j => exact h1 j z w (by simpa using hz) (by simpa using hw)
      · rw [List.length_cons, List.length_cons, hz, Nat.succ_min_succ]
        show (if true = true then _ else _) = _
        rw [if_pos rfl, ← lexAt_shift]
        exact h2
    · rename_i r0 e1 e2
      obtain ⟨e, r, h1, h2⟩ := ordL_spec hz e2
      refine ⟨fun j => match j with | 0 => false | j + 1 => e j, fun j => match j with | 0 => b | j + 1 => r j, fun j z w hz hw => ?_, ?_⟩
      · cases j with
        | zero => simp at hz hw; subst hz hw; exact ⟨e1, fun _ => h⟩
        | succ j => exact h1 j z w (by simpa using hz) (by simpa using hw)
      · rw [List.length_cons, List.length_cons, hz, Nat.succ_min_succ]
        show (if false = true then _ else _) = _
        rw [if_neg (by simp)]
    · cases h
section
variable {X : Cx} {pins : List (Addr × Obj)} {σ : L2.St} {H : Hp} {s : Shared} {φ : List Addr} {S : Store}
theorem eqAt_eqB (I : Inv X pins σ H s) (R : Rel X.K φ H S) {A : Around} (hu : A.units + 64 < cLine) {x y : PV} {v w : V} {u u' : Value} {b : Bool} (h : eqB S x y = some b) (rx : relV X.K φ H x v) (ry : relV X.K φ H y w) (ru : RelV v u) (ru' : RelV w u') :
    SeqAt.EqAt A s u u' b := by
  unfold eqB at h
  split at h
  · rename_i i j
    cases h; cases rx; cases ry
    obtain ⟨t, rfl⟩ := ru
    obtain ⟨t', rfl⟩ := ru'
    rw [show decide (i = j) = (i == j) by by_cases q : i = j <;> simp [q]]
    exact SeqAt.EqAt.int_int _ _ _ _
  · rename_i i j
    cases h; cases rx; cases ry
    obtain ⟨t, rfl⟩ := ru
    obtain ⟨t', rfl⟩ := ru'
    rw [show decide (i = j) = ((⟨i.toArray⟩ : Str) == (⟨j.toArray⟩ : Str)) by by_cases q : i = j <;> simp [q]]
    exact SeqAt.EqAt.str_str _ _ _ _
  · rename_i i j
    cases h; cases rx; cases ry
    cases ru; cases ru'
    rw [show decide (i = j) = (i == j) by by_cases q : i = j <;> simp [q]]
    exact SeqAt.EqAt.bool_bool _ _
  · cases h; cases rx; cases ry
    cases ru; cases ru'
    exact SeqAt.EqAt.same _
  · split at h
    · rename_i a b e1 e2
      split at h
      · rename_i hs
        cases h
        obtain ⟨as, r1⟩ := Dp.reads I _ _ _ (dp_flatS R e1 rx) ru
        obtain ⟨bs, r2⟩ := Dp.reads I _ _ _ (dp_flatS R e2 ry) ru'
        exact SeqAt.eqAt_reads _ _ A s _ _ as bs r1 r2 (SeqAt.canLay_of_shaped hs.1) (SeqAt.canLay_of_shaped hs.2) (SeqAt.room_of_shaped hs.1 hu)
      · cases h
    · cases h
/-- what is known of an order's op -/
structure OrdOp (op : CmpOp) (gi : Int → Int → Bool) (gs : List Nat → List Nat → Bool) (gz : Nat → Nat → Bool) : Prop where
  z : ∀ n m, gz (n + 1) (m + 1) = gz n m
  i : ∀ (A : Around) (s : Shared) (a b : Int) (t u : Tok), Ob.RcOp op A s (.int a t) (.int b u) (gi a b)
  st : ∀ (A : Around) (s : Shared) (a b : List Nat) (t u : Tok), Ob.RcOp op A s (.str ⟨a.toArray⟩ t) (.str ⟨b.toArray⟩ u) (gs a b)
  t : ∀ {A : Around} {s : Shared} {l b : Addr} {items items2 : Array Value} {e r : Nat → Bool}, s.heap.IsTuple l items → s.heap.IsTuple b items2 → A.units < cLine →
    (∀ j (h1 : j < items.size) (h2 : j < items2.size), SeqAt.EqAt A.in1 s items[j] items2[j] (e j)) → (∀ j (h1 : j < items.size) (h2 : j < items2.size), e j = false → Ob.RcOp op A.in1 s items[j] items2[j] (r j)) →
    Ob.RcOp op A s (.ref l) (.ref b) (Ob.lexAt e r (gz items.size items2.size) 0 (min items.size items2.size))
theorem ordD_ok {op : CmpOp} {gi : Int → Int → Bool} {gs : List Nat → List Nat → Bool} {gz : Nat → Nat → Bool} (O : OrdOp op gi gs gz) (I : Inv X pins σ H s) (R : Rel X.K φ H S) :
    ∀ (n : Nat) (A : Around) (x y : PV) (v w : V) (u u' : Value) (b : Bool), ordD (eqB S) gi gs gz n x y = some b → A.units + n + 64 < cLine → relV X.K φ H x v → relV X.K φ H y w → RelV v u → RelV w u' → Ob.RcOp op A s u u' b := by
  intro n
  induction n with
  | zero =>
    intro A x y v w u u' b h hu rx ry ru ru'
    unfold ordD at h
    split at h
    · cases h; cases rx; cases ry; obtain ⟨t, rfl⟩ := ru; obtain ⟨t', rfl⟩ := ru'; exact O.i A s _ _ _ _
    · cases h; cases rx; cases ry; obtain ⟨t, rfl⟩ := ru; obtain ⟨t', rfl⟩ := ru'; exact O.st A s _ _ _ _
    · cases h
  | succ n ih =>
    intro A x y v w u u' b h hu rx ry ru ru'
    unfold ordD at h
    split at h
    · cases h; cases rx; cases ry; obtain ⟨t, rfl⟩ := ru; obtain ⟨t', rfl⟩ := ru'; exact O.i A s _ _ _ _
    · cases h; cases rx; cases ry; obtain ⟨t, rfl⟩ := ru; obtain ⟨t', rfl⟩ := ru'; exact O.st A s _ _ _ _
    · rename_i xs ys
      obtain ⟨e, r, h1, h2⟩ := ordL_spec O.z h
      obtain ⟨a, vs, rfl, ha, r1⟩ := rx
      obtain ⟨c, ws, rfl, hc, r2⟩ := ry
      cases ru; cases ru'
      obtain ⟨its, q1, p1, _⟩ := I.tuple ha
      obtain ⟨its2, q2, p2, _⟩ := I.tuple hc
      have l1 : its.toArray.size = xs.length := by rw [List.size_toArray, ← q1.length, relVs_len r1]
      have l2 : its2.toArray.size = ys.length := by rw [List.size_toArray, ← q2.length, relVs_len r2]
      have at1 : ∀ j (g1 : j < its.toArray.size) (g2 : j < its2.toArray.size), ∃ x y v w, xs[j]? = some x ∧ ys[j]? = some y ∧ relV X.K φ H x v ∧ relV X.K φ H y w ∧ RelV v its.toArray[j] ∧ RelV w its2.toArray[j] := fun j g1 g2 => by
        have k1 : j < xs.length := by omega
        have k2 : j < ys.length := by omega
        obtain ⟨v, e3, r3⟩ := relVs_get r1 (List.getElem?_eq_getElem k1)
        obtain ⟨w, e4, r4⟩ := relVs_get r2 (List.getElem?_eq_getElem k2)
        obtain ⟨u, e5, r5⟩ := q1.get e3
        obtain ⟨u', e6, r6⟩ := q2.get e4
        have g1' : j < its.length := by simpa using g1
        have g2' : j < its2.length := by simpa using g2
        rw [List.getElem?_eq_getElem g1'] at e5
        rw [List.getElem?_eq_getElem g2'] at e6
        cases e5; cases e6
        exact ⟨_, _, v, w, List.getElem?_eq_getElem k1, List.getElem?_eq_getElem k2, r3, r4, by simpa using r5, by simpa using r6⟩
      have T := O.t (A := A) (s := s) (e := e) (r := r) p1 p2 (by omega) (fun j g1 g2 => by
        obtain ⟨x, y, v, w, e3, e4, r3, r4, r5, r6⟩ := at1 j g1 g2
        exact eqAt_eqB I R (A := A.in1) (by show A.units + 1 + 64 < _; omega) (h1 j x y e3 e4).1 r3 r4 r5 r6) (fun j g1 g2 he => by
        obtain ⟨x, y, v, w, e3, e4, r3, r4, r5, r6⟩ := at1 j g1 g2
        exact ih A.in1 x y v w _ _ _ ((h1 j x y e3 e4).2 he) (by show A.units + 1 + n + 64 < _; omega) r3 r4 r5 r6)
      rw [l1, l2, h2] at T
      exact T
    · cases h
end
def ordV (gi : Int → Int → Bool) (gs : List Nat → List Nat → Bool) (gz : Nat → Nat → Bool) (x y : PV) (S : Store) : Res PV := match x, y with
  | .int i, .int j => .ok (.bl (gi i j)) S
  | .str a, .str b => .ok (.bl (gs a b)) S
  | x, y => match ordD (eqB S) gi gs gz 8 x y with | some b => .ok (.bl b) S | none => .bad
theorem op_ordV {X : Cx} (hu : X.A.units + 100 < cLine) {op : CmpOp} {gi : Int → Int → Bool} {gs : List Nat → List Nat → Bool} {gz : Nat → Nat → Bool} (O : OrdOp op gi gs gz) (hop : compareOp op = richCompare op) : OpR X (compareOp op) (rI2 X.K (ordV gi gs gz)) := by
  intro pins s σ H x y v u Q I ru ru' h
  obtain ⟨φ, S, px, py, r, S', R, rx, ry, e, P⟩ := h
  have key : ∃ b, ordD (eqB S) gi gs gz 8 px py = some b ∧ r = .bl b ∧ S' = S := by
    unfold ordV at e
    split at e
    · cases e; exact ⟨_, rfl, rfl, rfl⟩
    · cases e; exact ⟨_, rfl, rfl, rfl⟩
    · split at e
      · rename_i b eb; cases e; exact ⟨b, eb, rfl, rfl⟩
      · cases e
  obtain ⟨b, eb, rfl, rfl⟩ := key
  rw [hop]
  exact ordD_ok O I R 8 X.A px py x y _ _ b eb (by omega) rx ry ru ru' X.prog X.w X.xe (EP X pins σ Q) ⟨.bl _, H, I, rfl, P.pure R rfl⟩
theorem ordLt : OrdOp .Lt (fun i j => decide (i < j)) (fun a b => decide (a < b)) (fun n m => decide (n < m)) where
  z := fun n m => by simp
  i := fun A s a b t u => Ob.RcOp.lt_int a b t u
  st := fun A s a b t u prog w E Q h => lt_str (x := ⟨a.toArray⟩) (y := ⟨b.toArray⟩) h
  t := fun hl hb hu he hr => Ob.RcOp.tuples_lt hl hb hu he hr
theorem ordLe : OrdOp .LtE (fun i j => decide (i ≤ j)) (fun a b => !decide (b < a)) (fun n m => decide (n ≤ m)) where
  z := fun n m => by simp
  i := fun A s a b t u => Ob.RcOp.le_int a b t u
  st := fun A s a b t u prog w E Q h => PySem.P.le_str (x := ⟨a.toArray⟩) (y := ⟨b.toArray⟩) h
  t := fun hl hb hu he hr => Ob.RcOp.tuples_le hl hb hu he hr
theorem ordGt : OrdOp .Gt (fun i j => decide (j < i)) (fun a b => decide (b < a)) (fun n m => decide (m < n)) where
  z := fun n m => by simp
  i := fun A s a b t u => Ob.RcOp.gt_int a b t u
  st := fun A s a b t u prog w E Q h => PySem.P.gt_str (x := ⟨a.toArray⟩) (y := ⟨b.toArray⟩) h
  t := fun hl hb hu he hr => Ob.RcOp.tuples_gt hl hb hu he hr
theorem ordGe : OrdOp .GtE (fun i j => decide (j ≤ i)) (fun a b => !decide (a < b)) (fun n m => decide (m ≤ n)) where
  z := fun n m => by simp
  i := fun A s a b t u => Ob.RcOp.ge_int a b t u
  st := fun A s a b t u prog w E Q h => PySem.P.ge_str (x := ⟨a.toArray⟩) (y := ⟨b.toArray⟩) h
  t := fun hl hb hu he hr => Ob.RcOp.tuples_ge hl hb hu he hr
def ltV : PV → PV → Store → Res PV := ordV (fun i j => decide (i < j)) (fun a b => decide (a < b)) fun n m => decide (n < m)
def leV : PV → PV → Store → Res PV := ordV (fun i j => decide (i ≤ j)) (fun a b => !decide (b < a)) fun n m => decide (n ≤ m)
def gtV : PV → PV → Store → Res PV := ordV (fun i j => decide (j < i)) (fun a b => decide (b < a)) fun n m => decide (m < n)
def geV : PV → PV → Store → Res PV := ordV (fun i j => decide (j ≤ i)) (fun a b => !decide (a < b)) fun n m => decide (m ≤ n)
/-! ### is -/
def isV (neg : Bool) (x y : PV) (S : Store) : Res PV := match x, y with
  | .non, .non => .ok (.bl (!neg)) S
  | .bl a, .bl b => .ok (.bl (if neg then !decide (a = b) else decide (a = b))) S
  | .bl _, .non => .ok (.bl neg) S
  | .int _, .non => .ok (.bl neg) S
  | .str _, .non => .ok (.bl neg) S
  | .tup _, .non => .ok (.bl neg) S
  | .ltc _, .non => .ok (.bl neg) S
  | .ref _, .non => .ok (.bl neg) S
  | _, _ => .bad
theorem op_isV {X : Cx} : OpR X (compareOp .Is) (rI2 X.K (isV false)) := by
  refine OpR.imp (OpR.or op_isN op_is_bl) fun x y H Q h => ?_
  obtain ⟨φ, S, px, py, r, S', R, rx, ry, e, P⟩ := h
  unfold isV at e
  split at e <;> cases e <;> cases ry
  · cases rx; exact .inl ⟨rfl, P.pure R rfl⟩
  · cases rx; exact .inr ⟨_, _, rfl, rfl, P.pure R rfl⟩
  · cases rx; exact .inl ⟨rfl, P.pure R rfl⟩
  · cases rx; exact .inl ⟨rfl, P.pure R rfl⟩
  · cases rx; exact .inl ⟨rfl, P.pure R rfl⟩
  · obtain ⟨_, _, rfl, _⟩ := rx; exact .inl ⟨rfl, P.pure R rfl⟩
  · obtain ⟨_, _, rfl, _⟩ := rx; exact .inl ⟨rfl, P.pure R rfl⟩
  · obtain ⟨_, rfl, _⟩ := rx; exact .inl ⟨rfl, P.pure R rfl⟩
theorem op_isnotV {X : Cx} : OpR X (compareOp .IsNot) (rI2 X.K (isV true)) := by
  refine OpR.imp (OpR.or op_notN op_isnot_bl) fun x y H Q h => ?_
  obtain ⟨φ, S, px, py, r, S', R, rx, ry, e, P⟩ := h
  unfold isV at e
  split at e <;> cases e <;> cases ry
  · cases rx; exact .inl ⟨rfl, P.pure R rfl⟩
  · cases rx; exact .inr ⟨_, _, rfl, rfl, P.pure R rfl⟩
  · cases rx; exact .inl ⟨rfl, P.pure R rfl⟩
  · cases rx; exact .inl ⟨rfl, P.pure R rfl⟩
  · cases rx; exact .inl ⟨rfl, P.pure R rfl⟩
  · obtain ⟨_, _, rfl, _⟩ := rx; exact .inl ⟨rfl, P.pure R rfl⟩
  · obtain ⟨_, _, rfl, _⟩ := rx; exact .inl ⟨rfl, P.pure R rfl⟩
  · obtain ⟨_, rfl, _⟩ := rx; exact .inl ⟨rfl, P.pure R rfl⟩
/-! ### in -/
def scalar : PV → Bool
  | .non => true | .bl _ => true | .int _ => true | .str _ => true | _ => false
def seqv : PV → PV → Bool
  | .non, .non => true
  | .bl a, .bl b => a == b
  | .bl a, .int b => (if a then 1 else 0) == b
  | .int a, .bl b => a == (if b then 1 else 0)
  | .int a, .int b => a == b
  | .str a, .str b => a == b
  | _, _ => false
def itemsOf (S : Store) : PV → Option (List PV)
  | .tup xs => some xs
  | .ltc xs => some xs
  | .ref n => match S[n]? with | some (.lst xs) => some xs | _ => none
  | _ => none
def inV (neg : Bool) (x y : PV) (S : Store) : Res PV := match x, y with
  | .str [c], .str z => .ok (.bl (if neg then !decide (c ∈ z) else decide (c ∈ z))) S
  | x, y => match itemsOf S y with
    | some xs => if scalar x = true ∧ xs.all scalar = true then .ok (.bl (if neg then !(xs.any fun y => seqv y x) else xs.any fun y => seqv y x)) S else .bad
    | none => .bad
section
variable {K : PySem.W.Frag} {φ : List Addr} {H : Hp} {S : Store}
theorem items_rel (R : Rel K φ H S) {y : PV} {xs : List PV} {w : V} (h : itemsOf S y = some xs) (r : relV K φ H y w) : ∃ p vs, w = .ref p ∧ (SqL K H p vs ∨ SqT K H p vs) ∧ relVs K φ H xs vs := by
  cases y with
  | tup ys => cases h; obtain ⟨a, vs, rfl, h1, h2⟩ := r; exact ⟨a, vs, rfl, .inr h1, h2⟩
  | ltc ys => cases h; obtain ⟨a, vs, rfl, h1, h2⟩ := r; exact ⟨a, vs, rfl, .inl h1.sq, h2⟩
  | ref n =>
    simp only [itemsOf] at h
    split at h
    · rename_i xs' hs
      cases h
      obtain ⟨a, vs, rfl, _, h1, h2⟩ := R.lst hs r
      exact ⟨a, vs, rfl, .inl (SqL.of h1), h2⟩
    · cases h
  | _ => cases h
theorem flat_of {x : PV} {v : V} (h : scalar x = true) (r : relV K φ H x v) : flatV v = true := by
  cases x <;> first | (cases r; rfl) | cases h
theorem all_flat : ∀ {xs : List PV} {vs : List V}, xs.all scalar = true → relVs K φ H xs vs → vs.all flatV = true
  | [], _, _, r => by cases r; rfl
  | x :: xs, _, h, r => by
    obtain ⟨v, ws, rfl, h1, h2⟩ := r
    rw [List.all_cons, Bool.and_eq_true] at h
    rw [List.all_cons, flat_of h.1 h1, all_flat h.2 h2]; rfl
theorem seqv_of {x y : PV} {v w : V} (hx : scalar x = true) (hy : scalar y = true) (rx : relV K φ H x v) (ry : relV K φ H y w) : L2.eqV v w = seqv x y := by
  cases x <;> first | cases hx | skip
  all_goals (cases y <;> first | cases hy | skip)
  all_goals (cases rx; cases ry; first | rfl | skip)
  rename_i a b
  show ((⟨a.toArray⟩ : Str) == ⟨b.toArray⟩) = (a == b)
  rw [Bool.eq_iff_iff]; simp
theorem any_seqv {x : PV} {v : V} (hx : scalar x = true) (rx : relV K φ H x v) : ∀ {xs : List PV} {vs : List V}, xs.all scalar = true → relVs K φ H xs vs → L2.inV v vs = xs.any fun y => seqv y x
  | [], _, _, r => by cases r; rfl
  | y :: ys, _, h, r => by
    obtain ⟨w, ws, rfl, h1, h2⟩ := r
    rw [List.all_cons, Bool.and_eq_true] at h
    show (L2.eqV w v || L2.inV v ws) = _
    rw [seqv_of h.1 hx h1 rx, any_seqv hx rx h.2 h2]; rfl
theorem inV_cases (R : Rel K φ H S) {neg : Bool} {x y r : PV} {v w : V} {S' : Store} (rx : relV K φ H x v) (ry : relV K φ H y w) (h : inV neg x y S = .ok r S') : S' = S ∧
    ((∃ c z, v = .str ⟨#[c]⟩ ∧ w = .str z ∧ r = .bl (if neg then !decide (c ∈ z.cps.toList) else decide (c ∈ z.cps.toList))) ∨
     (∃ p xs, w = .ref p ∧ (SqL K H p xs ∨ SqT K H p xs) ∧ flatV v = true ∧ xs.all flatV = true ∧ r = .bl (if neg then !L2.inV v xs else L2.inV v xs))) := by
  unfold inV at h
  split at h
  · cases h; cases rx; cases ry
    exact ⟨rfl, .inl ⟨_, _, rfl, rfl, rfl⟩⟩
  · split at h
    · rename_i xs hs
      split at h
      · rename_i hc
        cases h
        obtain ⟨p, vs, rfl, h1, h2⟩ := items_rel R hs ry
        exact ⟨rfl, .inr ⟨p, vs, rfl, h1, flat_of hc.1 rx, all_flat hc.2 h2, by rw [any_seqv hc.1 rx hc.2 h2]⟩⟩
      · cases h
    · cases h
end
theorem op_inP {X : Cx} : OpR X (compareOp .In) (rI2 X.K (inV false)) := by
  refine OpR.imp (OpR.or op_in_sign op_in_seq) fun x y H Q h => ?_
  obtain ⟨φ, S, px, py, r, S', R, rx, ry, e, P⟩ := h
  obtain ⟨rfl, h | h⟩ := inV_cases R rx ry e
  · obtain ⟨c, z, rfl, rfl, rfl⟩ := h
    exact .inl ⟨c, z, rfl, rfl, P.pure R rfl⟩
  · obtain ⟨p, xs, rfl, h1, h2, h3, rfl⟩ := h
    exact .inr ⟨p, xs, rfl, h1, h2, h3, P.pure R rfl⟩
theorem op_notinP {X : Cx} : OpR X (compareOp .NotIn) (rI2 X.K (inV true)) := by
  refine OpR.imp (OpR.or op_notIn_sign op_notIn_seq) fun x y H Q h => ?_
  obtain ⟨φ, S, px, py, r, S', R, rx, ry, e, P⟩ := h
  obtain ⟨rfl, h | h⟩ := inV_cases R rx ry e
  · obtain ⟨c, z, rfl, rfl, rfl⟩ := h
    exact .inl ⟨c, z, rfl, rfl, P.pure R rfl⟩
  · obtain ⟨p, xs, rfl, h1, h2, h3, rfl⟩ := h
    exact .inr ⟨p, xs, rfl, h1, h2, h3, P.pure R rfl⟩
def cmpV (op : CmpOp) : PV → PV → Store → Res PV := match op with
  | .Eq => eqV | .NotEq => neV | .Lt => ltV | .LtE => leV | .Gt => gtV | .GtE => geV | .Is => isV false | .IsNot => isV true | .In => inV false | .NotIn => inV true
theorem op_cmpV {X : Cx} (hu : X.A.units + 100 < cLine) (op : CmpOp) : OpR X (compareOp op) (rI2 X.K (cmpV op)) := by
  cases op with
  | Eq => exact op_eqP (by omega)
  | NotEq => exact op_neP (by omega)
  | Lt => exact op_ordV hu ordLt rfl
  | LtE => exact op_ordV hu ordLe rfl
  | Gt => exact op_ordV hu ordGt rfl
  | GtE => exact op_ordV hu ordGe rfl
  | Is => exact op_isV
  | IsNot => exact op_isnotV
  | In => exact op_inP
  | NotIn => exact op_notinP
/-! ### truth -/
def truB (S : Store) : PV → Option Bool
  | .non => some false
  | .bl b => some b
  | .int i => some (i != 0)
  | .str x => if x.length ≤ lim then some ((x.length : Int) != 0) else none
  | .tup xs => some (!xs.isEmpty)
  | .ltc xs => some (!xs.isEmpty)
  | .ref n => match S[n]? with | some (.lst xs) => some (!xs.isEmpty) | _ => none
theorem emp_rel {K : PySem.W.Frag} {φ : List Addr} {H : Hp} {xs : List PV} {vs : List V} (h : relVs K φ H xs vs) : xs.isEmpty = vs.isEmpty := by
  cases xs with
  | nil => cases h; rfl
  | cons _ _ => obtain ⟨_, _, rfl, _⟩ := h; rfl
theorem tru_rel {K : PySem.W.Frag} {φ : List Addr} {H : Hp} {S : Store} (R : Rel K φ H S) {x : PV} {v : V} {b : Bool} (h : truB S x = some b) (r : relV K φ H x v) : TruV K v H b := by
  cases x with
  | non => cases h; cases r; rfl
  | bl b => cases h; cases r; rfl
  | int i => cases h; cases r; rfl
  | str z =>
    simp only [truB] at h
    split at h
    · rename_i hl
      cases h; cases r
      exact ⟨by rw [str_len, lim_eq]; exact hl, by rw [str_len]⟩
    · cases h
  | tup xs => cases h; obtain ⟨a, vs, rfl, h1, h2⟩ := r; exact .inr (.inl ⟨vs, h1, by rw [emp_rel h2]⟩)
  | ltc xs => cases h; obtain ⟨a, vs, rfl, h1, h2⟩ := r; exact .inl ⟨vs, h1.sq, by rw [emp_rel h2]⟩
  | ref n =>
    simp only [truB] at h
    split at h
    · rename_i xs hs
      cases h
      obtain ⟨a, vs, rfl, _, h1, h2⟩ := R.lst hs r
      exact .inl ⟨vs, SqL.of h1, by rw [emp_rel h2]⟩
    · cases h
/-! ### one-place -/
def negV (x : PV) (S : Store) : Res PV := match x with | .int i => .ok (.int (-i)) S | _ => .bad
def rIun (K : PySem.W.Frag) (g : PV → Store → Res PV) : V → Hp → VK → Prop := fun x H Q => ∃ φ S px r S', Rel K φ H S ∧ relV K φ H px x ∧ g px S = .ok r S' ∧ Post K φ H Q r S'
theorem un_negV {X : Cx} : UnR X (unaryOp .USub) (rIun X.K negV) := by
  intro pins s σ H x v Q I rx h
  obtain ⟨φ, S, px, r, S', R, rp, e, P⟩ := h
  unfold negV at e
  split at e
  · cases e; cases rp; exact un_neg pins s σ H _ v Q I rx ⟨_, rfl, P.pure R rfl⟩
  · cases e
/-! ### subscripts, slices -/
def ixV (x y : PV) (S : Store) : Res PV := match y with
  | .int i => match x with
    | .str z => if z.length ≤ lim then (match atI z i with | some c => .ok (.str [c]) S | none => .bad) else .bad
    | x => match itemsOf S x with
      | some xs => (match atI xs i with | some v => .ok v S | none => .bad)
      | none => .bad
  | _ => .bad
theorem atI_rel {K : PySem.W.Frag} {φ : List Addr} {H : Hp} {xs : List PV} {vs : List V} (h : relVs K φ H xs vs) {i : Int} {x : PV} (e : atI xs i = some x) : ∃ v, atI vs i = some v ∧ relV K φ H x v := by
  unfold atI at e ⊢
  rw [← relVs_len h]
  obtain ⟨j, e1, e2⟩ := Option.bind_eq_some_iff.mp e
  obtain ⟨v, e3, r⟩ := relVs_get h e2
  exact ⟨v, by rw [e1]; exact e3, r⟩
theorem ix_V {X : Cx} : IxR X (rI2 X.K ixV) := by
  intro value slice pins s σ H x y v u Q I rx ry h hsl
  obtain ⟨φ, S, px, py, r, S', R, r1, r2, e, P⟩ := h
  refine ix_seq value slice pins s σ H x y v u Q I rx ry ?_ hsl
  unfold ixV at e
  split at e
  · cases r2
    split at e
    · split at e
      · rename_i hl
        split at e
        · rename_i c hc
          cases e; cases r1
          exact .inr (.inr ⟨_, _, c, rfl, rfl, by rw [str_len, lim_eq]; exact hl, hc, P.pure R rfl⟩)
        · cases e
      · cases e
    · split at e
      · rename_i xs hs
        split at e
        · rename_i a ha
          cases e
          obtain ⟨p, vs, rfl, h1, h2⟩ := items_rel R hs r1
          obtain ⟨w, e3, r3⟩ := atI_rel h2 ha
          rcases h1 with h1 | h1
          · exact .inl ⟨p, vs, _, w, rfl, rfl, h1, e3, P.pure R r3⟩
          · exact .inr (.inl ⟨p, vs, _, w, rfl, rfl, h1, e3, P.pure R r3⟩)
        · cases e
      · cases e
  · cases e
def cut {α : Type} (xs : List α) (lo hi : Option Int) : List α := (xs.drop (HT.sIx xs.length 0 lo)).take (HT.sIx xs.length xs.length hi - HT.sIx xs.length 0 lo)
def slV (x : PV) (lo hi : Option Int) (S : Store) : Res PV := match x with
  | .str z => if z.length ≤ lim then .ok (.str (cut z lo hi)) S else .bad
  | .tup xs => .ok (.tup (cut xs lo hi)) S
  | .ltc xs => .ok (.ref S.length) (S ++ [.lst (cut xs lo hi)])
  | .ref n => match S[n]? with | some (.lst xs) => .ok (.ref S.length) (S ++ [.lst (cut xs lo hi)]) | _ => .bad
  | _ => .bad
theorem cut_rel {K : PySem.W.Frag} {φ : List Addr} {H : Hp} {xs : List PV} {vs : List V} (h : relVs K φ H xs vs) (lo hi : Option Int) : relVs K φ H (cut xs lo hi) (cutV vs lo hi) := by
  unfold cut cutV
  rw [relVs_len h]
  exact relVs_take _ (relVs_drop _ h)
def rISl (K : PySem.W.Frag) : V → Option Int → Option Int → Hp → VK → Prop := fun x lo hi H Q => ∃ φ S px r S', Rel K φ H S ∧ relV K φ H px x ∧ slV px lo hi S = .ok r S' ∧ Post K φ H Q r S'
theorem cut_all {α : Type} {xs : List α} {lo hi : Option Int} (h : HT.sIx xs.length 0 lo = 0 ∧ HT.sIx xs.length xs.length hi = xs.length) : cut xs lo hi = xs := by
  unfold cut; rw [h.1, h.2]; simp
theorem sl_V {X : Cx} : SlR X (rISl X.K) := by
  have base := SlR.or (sl_str (X := X)) (SlR.or (sl_list (X := X)) (sl_tupA (X := X)))
  intro pins s σ H x v vl vu lo hi sl Q I rx hs pl pu h
  refine base pins s σ H x v vl vu lo hi sl Q I rx hs pl pu ?_
  obtain ⟨φ, S, px, r, S', R, r1, e, P⟩ := h
  unfold slV at e
  split at e
  · split at e
    · rename_i hl
      cases e; cases r1
      refine .inl ⟨_, rfl, by rw [str_len, lim_eq]; exact hl, ?_⟩
      have : cutS ⟨List.toArray ‹_›⟩ lo hi = ⟨(cut ‹_› lo hi).toArray⟩ := by
        unfold cutS cut
        rw [str_len]
      rw [this]
      exact P.pure R rfl
    · cases e
  · cases e
    obtain ⟨a, vs, rfl, h1, h2⟩ := r1
    refine .inr (.inr ⟨a, vs, rfl, h1, fun hw => ?_, fun _ => P.newTup R (cut_rel h2 lo hi)⟩)
    rw [cut_all (by rw [relVs_len h2]; exact hw)] at P
    exact P.pure R ⟨a, vs, rfl, h1, h2⟩
  · cases e
    obtain ⟨a, vs, rfl, h1, h2⟩ := r1
    exact .inr (.inl ⟨a, vs, rfl, h1.sq, P.newLst R (cut_rel h2 lo hi)⟩)
  · split at e
    · rename_i xs hs
      cases e
      obtain ⟨a, vs, rfl, _, h1, h2⟩ := R.lst hs r1
      exact .inr (.inl ⟨a, vs, rfl, SqL.of h1, P.newLst R (cut_rel h2 lo hi)⟩)
    · cases e
  · cases e
end Mp

/-! Mp3: built-in functions and methods, by values. -/
namespace Mp
open PySem PySem.Spec PyProof.Rows L2

def rIA (K : PySem.W.Frag) (g : List PV → Store → Res PV) : List V → Hp → VK → Prop := fun vs H Q => ∃ φ S xs r S', Rel K φ H S ∧ relVs K φ H xs vs ∧ g xs S = .ok r S' ∧ Post K φ H Q r S'
theorem CallR.imp {X : Cx} {f : Value} {r r' : List V → Hp → VK → Prop} (h : CallR X f r) (i : ∀ xs H Q, r' xs H Q → r xs H Q) : CallR X f r' :=
  fun pins s σ H xs us Q I rs q => h pins s σ H xs us Q I rs (i _ _ _ q)
section
variable {K : PySem.W.Frag} {φ : List Addr} {H : Hp} {S : Store}
theorem rel1 {x : PV} {vs : List V} (h : relVs K φ H [x] vs) : ∃ v, vs = [v] ∧ relV K φ H x v := by
  obtain ⟨v, ws, rfl, h1, h2⟩ := h; cases h2; exact ⟨v, rfl, h1⟩
theorem rel2 {x y : PV} {vs : List V} (h : relVs K φ H [x, y] vs) : ∃ v w, vs = [v, w] ∧ relV K φ H x v ∧ relV K φ H y w := by
  obtain ⟨v, ws, rfl, h1, h2⟩ := h; obtain ⟨w, rfl, h3⟩ := rel1 h2; exact ⟨v, w, rfl, h1, h3⟩
def intsOf : List PV → Option (List Int)
  | [] => some []
  | .int i :: r => (intsOf r).map (i :: ·)
  | _ => none
theorem ints_rel : ∀ {xs : List PV} {ns : List Int} {vs : List V}, intsOf xs = some ns → relVs K φ H xs vs → vs = ns.map V.int
  | [], _, _, e, r => by cases e; cases r; rfl
  | x :: xs, _, _, e, r => by
    obtain ⟨v, ws, rfl, h1, h2⟩ := r
    cases x with
    | int i =>
      obtain ⟨ms, e1, rfl⟩ := Option.map_eq_some_iff.mp e
      cases h1
      rw [ints_rel e1 h2]; rfl
    | _ => cases e
def blsOf : List PV → Option (List Bool)
  | [] => some []
  | .bl i :: r => (blsOf r).map (i :: ·)
  | _ => none
theorem bls_rel : ∀ {xs : List PV} {ns : List Bool} {vs : List V}, blsOf xs = some ns → relVs K φ H xs vs → vs = ns.map V.bl
  | [], _, _, e, r => by cases e; cases r; rfl
  | x :: xs, _, _, e, r => by
    obtain ⟨v, ws, rfl, h1, h2⟩ := r
    cases x with
    | bl i =>
      obtain ⟨ms, e1, rfl⟩ := Option.map_eq_some_iff.mp e
      cases h1
      rw [bls_rel e1 h2]; rfl
    | _ => cases e
def strsOf : List PV → Option (List (List Nat))
  | [] => some []
  | .str i :: r => (strsOf r).map (i :: ·)
  | _ => none
theorem strs_rel : ∀ {xs : List PV} {ns : List (List Nat)} {vs : List V}, strsOf xs = some ns → relVs K φ H xs vs → vs = (ns.map fun a => (⟨a.toArray⟩ : Str)).map V.str
  | [], _, _, e, r => by cases e; cases r; rfl
  | x :: xs, _, _, e, r => by
    obtain ⟨v, ws, rfl, h1, h2⟩ := r
    cases x with
    | str i =>
      obtain ⟨ms, e1, rfl⟩ := Option.map_eq_some_iff.mp e
      cases h1
      rw [strs_rel e1 h2]; rfl
    | _ => cases e
/-- a list's items -/
def litems (S : Store) : PV → Option (List PV)
  | .ltc xs => some xs
  | .ref n => match S[n]? with | some (.lst xs) => some xs | _ => none
  | _ => none
theorem litems_rel (R : Rel K φ H S) {y : PV} {xs : List PV} {w : V} (h : litems S y = some xs) (r : relV K φ H y w) : ∃ p vs, w = .ref p ∧ SqL K H p vs ∧ relVs K φ H xs vs := by
  cases y with
  | ltc ys => cases h; obtain ⟨a, vs, rfl, h1, h2⟩ := r; exact ⟨a, vs, rfl, h1.sq, h2⟩
  | ref n =>
    simp only [litems] at h
    split at h
    · rename_i xs' hs
      cases h
      obtain ⟨a, vs, rfl, _, h1, h2⟩ := R.lst hs r
      exact ⟨a, vs, rfl, SqL.of h1, h2⟩
    · cases h
  | _ => cases h
end
/-! ### len, int, abs, ord, str -/
def lenF (xs : List PV) (S : Store) : Res PV := match xs with
  | [.str a] => if a.length ≤ lim then .ok (.int a.length) S else .bad
  | [x] => match itemsOf S x with | some ys => .ok (.int ys.length) S | none => .bad
  | _ => .bad
theorem call_lenF {X : Cx} : CallR X (.builtin "len") (rIA X.K lenF) := by
  refine CallR.imp call_len fun vs H Q h => ?_
  obtain ⟨φ, S, xs, r, S', R, rs, e, P⟩ := h
  unfold lenF at e
  split at e
  · split at e
    · rename_i hl
      cases e
      obtain ⟨v, rfl, r1⟩ := rel1 rs
      cases r1
      refine ⟨_, _, rfl, ⟨by rw [str_len, lim_eq]; exact hl, rfl⟩, ?_⟩
      rw [str_len]; exact P.pure R rfl
    · cases e
  · split at e
    · rename_i ys hs
      cases e
      obtain ⟨v, rfl, r1⟩ := rel1 rs
      obtain ⟨p, ws, rfl, h1, h2⟩ := items_rel R hs r1
      refine ⟨_, ws.length, rfl, ?_, ?_⟩
      · rcases h1 with h1 | h1
        · exact .inl ⟨ws, h1, rfl⟩
        · exact .inr ⟨ws, h1, rfl⟩
      · rw [← relVs_len h2]; exact P.pure R rfl
    · cases e
  · cases e
def intF (xs : List PV) (S : Store) : Res PV := match xs with
  | [.int i] => .ok (.int i) S
  | [.bl b] => .ok (.int (if b then 1 else 0)) S
  | _ => .bad
theorem call_intF {X : Cx} : CallR X (.type "int") (rIA X.K intF) := by
  refine CallR.imp call_int1 fun vs H Q h => ?_
  obtain ⟨φ, S, xs, r, S', R, rs, e, P⟩ := h
  unfold intF at e
  split at e
  · cases e; obtain ⟨v, rfl, r1⟩ := rel1 rs; cases r1; exact .inl ⟨_, rfl, P.pure R rfl⟩
  · cases e; obtain ⟨v, rfl, r1⟩ := rel1 rs; cases r1; exact .inr ⟨_, rfl, P.pure R rfl⟩
  · cases e
def absF (xs : List PV) (S : Store) : Res PV := match xs with
  | [.int i] => .ok (.int (if i < 0 then -i else i)) S
  | _ => .bad
theorem call_absF {X : Cx} : CallR X (.builtin "abs") (rIA X.K absF) := by
  refine CallR.imp call_abs fun vs H Q h => ?_
  obtain ⟨φ, S, xs, r, S', R, rs, e, P⟩ := h
  unfold absF at e
  split at e
  · cases e; obtain ⟨v, rfl, r1⟩ := rel1 rs; cases r1; exact ⟨_, rfl, P.pure R rfl⟩
  · cases e
def ordF (xs : List PV) (S : Store) : Res PV := match xs with
  | [.str [c]] => .ok (.int (c : Nat)) S
  | _ => .bad
theorem call_ordF {X : Cx} : CallR X (.builtin "ord") (rIA X.K ordF) := by
  refine CallR.imp call_ord fun vs H Q h => ?_
  obtain ⟨φ, S, xs, r, S', R, rs, e, P⟩ := h
  unfold ordF at e
  split at e
  · cases e; obtain ⟨v, rfl, r1⟩ := rel1 rs; cases r1; exact ⟨_, rfl, rfl, P.pure R rfl⟩
  · cases e
/-- str(n) -/
def natS (n : Nat) : List Nat := (Nat.toDigits 10 n).map Char.toNat
def strI : Int → List Nat
  | .ofNat n => natS n
  | .negSucc n => 45 :: natS (n + 1)
theorem strI_eq (i : Int) : (Str.ofString (toString i)) = ⟨(strI i).toArray⟩ := by
  rw [Str.ofString_eq_toList]
  congr 2
  cases i with
  | ofNat n =>
    show (Nat.repr n).toList.map Char.toNat = natS n
    unfold Nat.repr natS
    rw [String.toList_ofList]
  | negSucc n =>
    show ("-" ++ Nat.repr (n + 1)).toList.map Char.toNat = 45 :: natS (n + 1)
    unfold Nat.repr natS
    rw [String.toList_append, List.map_append]
    have e1 : ("-" : String).toList = ['-'] := rfl
    have e2 : (String.ofList (Nat.toDigits 10 (n + 1))).toList = Nat.toDigits 10 (n + 1) := String.toList_ofList
    rw [e1, e2]
    rfl
def strF (xs : List PV) (S : Store) : Res PV := match xs with
  | [.int i] => if i.natAbs.log2 < 1920 then .ok (.str (strI i)) S else .bad
  | _ => .bad
theorem call_strF {X : Cx} : CallR X (.type "str") (rIA X.K strF) := by
  refine CallR.imp call_str_int fun vs H Q h => ?_
  obtain ⟨φ, S, xs, r, S', R, rs, e, P⟩ := h
  unfold strF at e
  split at e
  · split at e
    · rename_i hl
      cases e; obtain ⟨v, rfl, r1⟩ := rel1 rs; cases r1
      refine ⟨_, rfl, hl, ?_⟩
      rw [strI_eq]; exact P.pure R rfl
    · cases e
  · cases e
/-! ### tuple, list -/
def tupleF (xs : List PV) (S : Store) : Res PV := match xs with
  | [x] => match itemsOf S x with | some ys => .ok (.tup ys) S | none => .bad
  | _ => .bad
theorem call_tupleF {X : Cx} : CallR X (.type "tuple") (rIA X.K tupleF) := by
  refine CallR.imp call_tuple_of fun vs H Q h => ?_
  obtain ⟨φ, S, xs, r, S', R, rs, e, P⟩ := h
  unfold tupleF at e
  split at e
  · split at e
    · rename_i ys hs
      cases e
      obtain ⟨v, rfl, r1⟩ := rel1 rs
      obtain ⟨p, ws, rfl, h1, h2⟩ := items_rel R hs r1
      refine ⟨p, ws, rfl, ?_⟩
      rcases h1 with h1 | h1
      · exact .inl ⟨h1, P.newTup R h2⟩
      · exact .inr ⟨h1, P.pure R ⟨p, ws, rfl, h1, h2⟩⟩
    · cases e
  · cases e
def listF (xs : List PV) (S : Store) : Res PV := match xs with
  | [x] => match itemsOf S x with | some ys => .ok (.ref S.length) (S ++ [.lst ys]) | none => .bad
  | _ => .bad
theorem call_listF {X : Cx} : CallR X (.type "list") (rIA X.K listF) := by
  refine CallR.imp call_list_of fun vs H Q h => ?_
  obtain ⟨φ, S, xs, r, S', R, rs, e, P⟩ := h
  unfold listF at e
  split at e
  · split at e
    · rename_i ys hs
      cases e
      obtain ⟨v, rfl, r1⟩ := rel1 rs
      obtain ⟨p, ws, rfl, h1, h2⟩ := items_rel R hs r1
      exact ⟨p, ws, rfl, h1, P.newLst R h2⟩
    · cases e
  · cases e
/-! ### sum, max, min, all, any -/
def sumF (xs : List PV) (S : Store) : Res PV := match xs with
  | [x] => match (litems S x).bind intsOf with | some ns => .ok (.int ns.sum) S | none => .bad
  | _ => .bad
theorem ints_arg {K : PySem.W.Frag} {φ : List Addr} {H : Hp} {S : Store} (R : Rel K φ H S) {x : PV} {v : V} {ns : List Int} (h : (litems S x).bind intsOf = some ns) (r : relV K φ H x v) : ∃ p, v = .ref p ∧ SqL K H p (ns.map V.int) := by
  obtain ⟨ys, e1, e2⟩ := Option.bind_eq_some_iff.mp h
  obtain ⟨p, ws, rfl, h1, h2⟩ := litems_rel R e1 r
  exact ⟨p, rfl, by rw [← ints_rel e2 h2]; exact h1⟩
theorem call_sumF {X : Cx} (hc : X.calm = true) : CallR X (.builtin "sum") (rIA X.K sumF) := by
  refine CallR.imp (cr_sum hc) fun vs H Q h => ?_
  obtain ⟨φ, S, xs, r, S', R, rs, e, P⟩ := h
  unfold sumF at e
  split at e
  · split at e
    · rename_i ns hs
      cases e
      obtain ⟨v, rfl, r1⟩ := rel1 rs
      obtain ⟨p, rfl, h1⟩ := ints_arg R hs r1
      exact ⟨p, ns, rfl, h1, P.pure R rfl⟩
    · cases e
  · cases e
def maxL : List Int → Int
  | [] => 0
  | [a] => a
  | a :: r => if maxL r < a then a else maxL r
def minL : List Int → Int
  | [] => 0
  | [a] => a
  | a :: r => if a < minL r then a else minL r
theorem maxL_eq : ∀ {l : List Int} {m : Int}, m ∈ l → (∀ y ∈ l, y ≤ m) → maxL l = m
  | [], _, h, _ => by cases h
  | [a], m, h, _ => by simp at h; exact h.symm
  | a :: b :: r, m, h, hm => by
    have hl : maxL (a :: b :: r) = if maxL (b :: r) < a then a else maxL (b :: r) := rfl
    have key : ∀ l : List Int, l ≠ [] → maxL l ∈ l ∧ ∀ y ∈ l, y ≤ maxL l := by
      intro l
      induction l with
      | nil => intro h; exact absurd rfl h
      | cons x r ih =>
        intro _
        cases r with
        | nil => exact ⟨by simp [maxL], fun y hy => by simp at hy; simp [maxL, hy]⟩
        | cons z r =>
          obtain ⟨h1, h2⟩ := ih (by simp)
          have hl : maxL (x :: z :: r) = if maxL (z :: r) < x then x else maxL (z :: r) := rfl
          rw [hl]
          split
          · refine ⟨by simp, fun y hy => ?_⟩
            rcases List.mem_cons.mp hy with rfl | hy
            · exact Int.le_refl _
            · have := h2 y hy; omega
          · refine ⟨List.mem_cons_of_mem _ h1, fun y hy => ?_⟩
            rcases List.mem_cons.mp hy with rfl | hy
            · omega
            · exact h2 y hy
    obtain ⟨h1, h2⟩ := key (a :: b :: r) (by simp)
    have h3 := h2 m h
    have h4 := hm _ h1
    omega
theorem minL_eq {l : List Int} {m : Int} (h : m ∈ l) (hm : ∀ y ∈ l, m ≤ y) : minL l = m := by
  have key : ∀ l : List Int, l ≠ [] → minL l ∈ l ∧ ∀ y ∈ l, minL l ≤ y := by
    intro l
    induction l with
    | nil => intro h; exact absurd rfl h
    | cons x r ih =>
      intro _
      cases r with
      | nil => exact ⟨by simp [minL], fun y hy => by simp at hy; simp [minL, hy]⟩
      | cons z r =>
        obtain ⟨h1, h2⟩ := ih (by simp)
        have hl : minL (x :: z :: r) = if x < minL (z :: r) then x else minL (z :: r) := rfl
        rw [hl]
        split
        · refine ⟨by simp, fun y hy => ?_⟩
          rcases List.mem_cons.mp hy with rfl | hy
          · exact Int.le_refl _
          · have := h2 y hy; omega
        · refine ⟨List.mem_cons_of_mem _ h1, fun y hy => ?_⟩
          rcases List.mem_cons.mp hy with rfl | hy
          · omega
          · exact h2 y hy
  obtain ⟨h1, h2⟩ := key l (fun e => by subst e; cases h)
  have h3 := h2 m h
  have h4 := hm _ h1
  omega
def maxF (xs : List PV) (S : Store) : Res PV := match xs with
  | [.int i, .int j] => .ok (.int (if j > i then j else i)) S
  | [x] => match (litems S x).bind intsOf with | some ns => if 0 < ns.length then .ok (.int (maxL ns)) S else .bad | none => .bad
  | _ => .bad
def minF (xs : List PV) (S : Store) : Res PV := match xs with
  | [.int i, .int j] => .ok (.int (if j < i then j else i)) S
  | [x] => match (litems S x).bind intsOf with | some ns => if 0 < ns.length then .ok (.int (minL ns)) S else .bad | none => .bad
  | _ => .bad
theorem call_maxF {X : Cx} (hc : X.calm = true) : CallR X (.builtin "max") (rIA X.K maxF) := by
  refine CallR.imp (CallR.or (call_max2 hc) (cr_max hc)) fun vs H Q h => ?_
  obtain ⟨φ, S, xs, r, S', R, rs, e, P⟩ := h
  unfold maxF at e
  split at e
  · cases e
    obtain ⟨v, w, rfl, r1, r2⟩ := rel2 rs
    cases r1; cases r2
    exact .inl ⟨_, _, rfl, P.pure R rfl⟩
  · split at e
    · rename_i ns hs
      split at e
      · rename_i hl
        cases e
        obtain ⟨v, rfl, r1⟩ := rel1 rs
        obtain ⟨p, rfl, h1⟩ := ints_arg R hs r1
        exact .inr ⟨p, ns, rfl, h1, hl, fun m h2 h3 => by rw [← maxL_eq h2 h3]; exact P.pure R rfl⟩
      · cases e
    · cases e
  · cases e
theorem call_minF {X : Cx} (hc : X.calm = true) : CallR X (.builtin "min") (rIA X.K minF) := by
  refine CallR.imp (CallR.or (call_min2 hc) (cr_min hc)) fun vs H Q h => ?_
  obtain ⟨φ, S, xs, r, S', R, rs, e, P⟩ := h
  unfold minF at e
  split at e
  · cases e
    obtain ⟨v, w, rfl, r1, r2⟩ := rel2 rs
    cases r1; cases r2
    exact .inl ⟨_, _, rfl, P.pure R rfl⟩
  · split at e
    · rename_i ns hs
      split at e
      · rename_i hl
        cases e
        obtain ⟨v, rfl, r1⟩ := rel1 rs
        obtain ⟨p, rfl, h1⟩ := ints_arg R hs r1
        exact .inr ⟨p, ns, rfl, h1, hl, fun m h2 h3 => by rw [← minL_eq h2 h3]; exact P.pure R rfl⟩
      · cases e
    · cases e
  · cases e
def boolsF (f : List Bool → Bool) (xs : List PV) (S : Store) : Res PV := match xs with
  | [x] => match (litems S x).bind blsOf with | some ns => .ok (.bl (f ns)) S | none => .bad
  | _ => .bad
theorem bls_arg {K : PySem.W.Frag} {φ : List Addr} {H : Hp} {S : Store} (R : Rel K φ H S) {x : PV} {v : V} {ns : List Bool} (h : (litems S x).bind blsOf = some ns) (r : relV K φ H x v) : ∃ p, v = .ref p ∧ SqL K H p (ns.map V.bl) := by
  obtain ⟨ys, e1, e2⟩ := Option.bind_eq_some_iff.mp h
  obtain ⟨p, ws, rfl, h1, h2⟩ := litems_rel R e1 r
  exact ⟨p, rfl, by rw [← bls_rel e2 h2]; exact h1⟩
def allF : List PV → Store → Res PV := boolsF fun bs => bs.all id
def anyF : List PV → Store → Res PV := boolsF fun bs => bs.any id
theorem call_allF {X : Cx} (hc : X.calm = true) : CallR X (.builtin "all") (rIA X.K allF) := by
  refine CallR.imp (cr_all hc) fun vs H Q h => ?_
  obtain ⟨φ, S, xs, r, S', R, rs, e, P⟩ := h
  unfold allF boolsF at e
  split at e
  · split at e
    · rename_i ns hs
      cases e
      obtain ⟨v, rfl, r1⟩ := rel1 rs
      obtain ⟨p, rfl, h1⟩ := bls_arg R hs r1
      exact ⟨p, ns, rfl, h1, P.pure R rfl⟩
    · cases e
  · cases e
theorem call_anyF {X : Cx} (hc : X.calm = true) : CallR X (.builtin "any") (rIA X.K anyF) := by
  refine CallR.imp (cr_any hc) fun vs H Q h => ?_
  obtain ⟨φ, S, xs, r, S', R, rs, e, P⟩ := h
  unfold anyF boolsF at e
  split at e
  · split at e
    · rename_i ns hs
      cases e
      obtain ⟨v, rfl, r1⟩ := rel1 rs
      obtain ⟨p, rfl, h1⟩ := bls_arg R hs r1
      exact ⟨p, ns, rfl, h1, P.pure R rfl⟩
    · cases e
  · cases e
/-! ### methods -/
def rIM (K : PySem.W.Frag) (g : PV → List PV → Store → Res PV) : V → List V → Hp → VK → Prop := fun x vs H Q => ∃ φ S px xs r S', Rel K φ H S ∧ relV K φ H px x ∧ relVs K φ H xs vs ∧ g px xs S = .ok r S' ∧ Post K φ H Q r S'
theorem MtR.imp {X : Cx} {id : String} {r r' : V → List V → Hp → VK → Prop} (h : MtR X id r) (i : ∀ x xs H Q, r' x xs H Q → r x xs H Q) : MtR X id r' :=
  fun pins s σ H x xs v us Q I rx rs q => h pins s σ H x xs v us Q I rx rs (i _ _ _ _ q)
section
variable {K : PySem.W.Frag} {φ : List Addr} {H : Hp} {S : Store} {Q : VK}
theorem Post.wrote {n : Nat} {a : Addr} {xs : List PV} {vs : List V} {r : PV} (P : Post K φ H Q r (S.set n (.lst xs))) (R : Rel K φ H S) (hn : φ[n]? = some a) (rv : relVs K φ H xs vs) {v : V} (hr : relV K φ (upd H a (.lst vs)) r v) : Q v (upd H a (.lst vs)) :=
  P φ v _ (Ext.write R hn _) (R.write hn rv) hr
theorem Rel.upL (R : Rel K φ H S) {n : Nat} {a : Addr} (hn : φ[n]? = some a) {o : HO} {x : PV} {v : V} (r : relV K φ H x v) : relV K φ (upd H a o) x v := by
  obtain ⟨ws, e⟩ := R.mem_lst (List.mem_of_getElem? hn)
  exact relV_upd (by rw [e]; intro _ _ z; cases z) (by rw [e]; intro _ z; cases z) r
end
def appendM (x : PV) (xs : List PV) (S : Store) : Res PV := match x, xs with
  | .ref n, [y] => match S[n]? with
    | some (.lst zs) => if zs.length < lim then .ok .non (S.set n (.lst (zs ++ [y]))) else .bad
    | _ => .bad
  | _, _ => .bad
theorem mt_appendM {X : Cx} : MtR X "list.append" (rIM X.K appendM) := by
  refine MtR.imp mt_append fun x vs H Q h => ?_
  obtain ⟨φ, S, px, xs, r, S', R, r1, rs, e, P⟩ := h
  unfold appendM at e
  split at e
  · split at e
    · rename_i zs hs
      split at e
      · rename_i hl
        cases e
        obtain ⟨a, ws, rfl, hn, h1, h2⟩ := R.lst hs r1
        obtain ⟨v, rfl, r2⟩ := rel1 rs
        refine ⟨a, ws, v, rfl, rfl, h1, by rw [← relVs_len h2, lim_eq]; exact hl, ?_⟩
        exact P.wrote R hn (relVs_app h2 ⟨v, [], rfl, r2, rfl⟩) rfl
      · cases e
    · cases e
  · cases e
def extendM (x : PV) (xs : List PV) (S : Store) : Res PV := match x, xs with
  | .ref n, [.ref m] => match S[n]?, S[m]? with
    | some (.lst zs), some (.lst ys) => if zs.length + ys.length ≤ lim then .ok .non (S.set n (.lst (zs ++ ys))) else .bad
    | _, _ => .bad
  | _, _ => .bad
theorem mt_extendM {X : Cx} : MtR X "list.extend" (rIM X.K extendM) := by
  refine MtR.imp mt_extend fun x vs H Q h => ?_
  obtain ⟨φ, S, px, xs, r, S', R, r1, rs, e, P⟩ := h
  unfold extendM at e
  split at e
  · split at e
    · rename_i zs ys hs hs2
      split at e
      · rename_i hl
        cases e
        obtain ⟨a, ws, rfl, hn, h1, h2⟩ := R.lst hs r1
        obtain ⟨v, rfl, r2⟩ := rel1 rs
        obtain ⟨b, us, rfl, _, h3, h4⟩ := R.lst hs2 r2
        refine ⟨a, b, ws, us, rfl, rfl, h1, h3, by rw [← relVs_len h2, ← relVs_len h4, lim_eq]; exact hl, ?_⟩
        exact P.wrote R hn (relVs_app h2 h4) rfl
      · cases e
    · cases e
  · cases e
theorem relVs_dropLast {K : PySem.W.Frag} {φ : List Addr} {H : Hp} {xs : List PV} {vs : List V} (h : relVs K φ H xs vs) : relVs K φ H xs.dropLast vs.dropLast := by
  rw [List.dropLast_eq_take, List.dropLast_eq_take, relVs_len h]
  exact relVs_take _ h
def popM (x : PV) (xs : List PV) (S : Store) : Res PV := match x, xs with
  | .ref n, [] => match S[n]? with
    | some (.lst zs) => match zs[zs.length - 1]? with
      | some y => .ok y (S.set n (.lst zs.dropLast))
      | none => .bad
    | _ => .bad
  | _, _ => .bad
theorem mt_popM {X : Cx} : MtR X "list.pop" (rIM X.K popM) := by
  refine MtR.imp mt_pop fun x vs H Q h => ?_
  obtain ⟨φ, S, px, xs, r, S', R, r1, rs, e, P⟩ := h
  unfold popM at e
  split at e
  · split at e
    · rename_i zs hs
      split at e
      · rename_i y hy
        cases e
        obtain ⟨a, ws, rfl, hn, h1, h2⟩ := R.lst hs r1
        cases rs
        obtain ⟨v, hv, r2⟩ := relVs_get h2 hy
        refine ⟨a, ws, v, rfl, rfl, h1, by rw [← relVs_len h2]; exact hv, ?_⟩
        exact P.wrote R hn (relVs_dropLast h2) (R.upL hn r2)
      · cases e
    · cases e
  · cases e
def findIx (x : PV) : List PV → Option Nat
  | [] => none
  | y :: r => if seqv y x = true then some 0 else (findIx x r).map (· + 1)
theorem findIx_spec {x : PV} : ∀ {xs : List PV} {j : Nat}, findIx x xs = some j → ∃ z, xs[j]? = some z ∧ seqv z x = true ∧ ∀ m z', m < j → xs[m]? = some z' → seqv z' x = false
  | [], _, h => by cases h
  | y :: r, j, h => by
    unfold findIx at h
    split at h
    · rename_i hy
      cases h
      exact ⟨y, by simp, hy, fun m _ hm => absurd hm (Nat.not_lt_zero _)⟩
    · rename_i hy
      obtain ⟨k, e, rfl⟩ := Option.map_eq_some_iff.mp h
      obtain ⟨z, h1, h2, h3⟩ := findIx_spec e
      refine ⟨z, by simpa using h1, h2, fun m z' hm hz => ?_⟩
      cases m with
      | zero => simp at hz; subst hz; simpa using hy
      | succ m => exact h3 m z' (by omega) (by simpa using hz)
def indexM (x : PV) (xs : List PV) (S : Store) : Res PV := match xs with
  | [y] => match litems S x with
    | some zs => if scalar y = true ∧ zs.all scalar = true then (match findIx y zs with | some j => .ok (.int (j : Nat)) S | none => .bad) else .bad
    | none => .bad
  | _ => .bad
theorem scal_at {xs : List PV} (h : xs.all scalar = true) {j : Nat} {z : PV} (e : xs[j]? = some z) : scalar z = true := List.all_eq_true.mp h z (List.mem_of_getElem? e)
theorem mt_indexM {X : Cx} : MtR X "list.index" (rIM X.K indexM) := by
  refine MtR.imp mt_index fun x vs H Q h => ?_
  obtain ⟨φ, S, px, xs, r, S', R, r1, rs, e, P⟩ := h
  unfold indexM at e
  split at e
  · split at e
    · rename_i zs hs
      split at e
      · rename_i hc
        split at e
        · rename_i j hj
          cases e
          obtain ⟨a, ws, rfl, h1, h2⟩ := litems_rel R hs r1
          obtain ⟨v, rfl, r2⟩ := rel1 rs
          obtain ⟨z, g1, g2, g3⟩ := findIx_spec hj
          obtain ⟨w, hw, r3⟩ := relVs_get h2 g1
          refine ⟨a, ws, v, j, w, rfl, rfl, h1, flat_of hc.1 r2, all_flat hc.2 h2, hw, by rw [seqv_of (scal_at hc.2 g1) hc.1 r3 r2]; exact g2, fun m z' hm hz => ?_, P.pure R rfl⟩
          have hm2 : m < zs.length := by
            have := (List.getElem?_eq_some_iff.mp hz).1
            rw [relVs_len h2]; exact this
          obtain ⟨w', hw', r4⟩ := relVs_get h2 (List.getElem?_eq_getElem hm2)
          rw [hz] at hw'; cases hw'
          rw [seqv_of (scal_at hc.2 (List.getElem?_eq_getElem hm2)) hc.1 r4 r2]
          exact g3 m _ hm (List.getElem?_eq_getElem hm2)
        · cases e
      · cases e
    · cases e
  · cases e
/-! texts -/
def joinS (sep : List Nat) (parts : List (List Nat)) : List Nat := (parts.drop 1).foldl (fun acc q => acc ++ sep ++ q) (parts.headD [])
theorem join_fold (sep : List Nat) : ∀ (ps : List (List Nat)) (acc : List Nat), ((ps.map fun a => (⟨a.toArray⟩ : Str)).foldl (fun (acc : Array Nat) p => acc ++ (⟨sep.toArray⟩ : Str).cps ++ p.cps) acc.toArray) = (ps.foldl (fun acc q => acc ++ sep ++ q) acc).toArray
  | [], _ => rfl
  | p :: ps, acc => by
    rw [List.map_cons, List.foldl_cons, List.foldl_cons, ← join_fold sep ps]
    simp
theorem join_eq (sep : List Nat) (ps : List (List Nat)) : Txt.join ⟨sep.toArray⟩ (ps.map fun a => (⟨a.toArray⟩ : Str)) = ⟨(joinS sep ps).toArray⟩ := by
  unfold Txt.join Builtin.Str.glued joinS
  congr 1
  cases ps with
  | nil => rfl
  | cons p ps => exact join_fold sep ps p
def joinM (x : PV) (xs : List PV) (S : Store) : Res PV := match x, xs with
  | .str sep, [y] => match (itemsOf S y).bind strsOf with
    | some ps => if (ps.map List.length).sum + ps.length * sep.length ≤ 16777216 then .ok (.str (joinS sep ps)) S else .bad
    | none => .bad
  | _, _ => .bad
theorem mt_joinM {X : Cx} : MtR X "str.join" (rIM X.K joinM) := by
  refine MtR.imp mt_join fun x vs H Q h => ?_
  obtain ⟨φ, S, px, xs, r, S', R, r1, rs, e, P⟩ := h
  unfold joinM at e
  split at e
  · split at e
    · rename_i ps hs
      split at e
      · rename_i hl
        cases e
        cases r1
        obtain ⟨v, rfl, r2⟩ := rel1 rs
        obtain ⟨ys, e1, e2⟩ := Option.bind_eq_some_iff.mp hs
        obtain ⟨p, ws, rfl, h1, h2⟩ := items_rel R e1 r2
        have := strs_rel e2 h2
        subst this
        refine ⟨_, p, _, rfl, rfl, h1, ?_, ?_⟩
        · rw [List.map_map, List.length_map, str_len]
          have : (ps.map ((fun x => Str.length x) ∘ fun a => (⟨a.toArray⟩ : Str))) = ps.map List.length := List.map_congr_left fun a _ => str_len a
          rw [this]; exact hl
        · rw [join_eq]; exact P.pure R rfl
      · cases e
    · cases e
  · cases e
/-! ### sorting -/
section
variable {α : Type} (le : α → α → Bool)
def insB (a : α) : List α → List α
  | [] => [a]
  | b :: r => if le a b = true then a :: b :: r else b :: insB a r
def srtB (xs : List α) : List α := xs.foldr (insB le) []
theorem insB_perm (a : α) : ∀ l : List α, (insB le a l).Perm (a :: l)
  | [] => .refl _
  | b :: r => by
    unfold insB
    split
    · exact .refl _
    · exact ((insB_perm a r).cons b).trans (.swap a b r)
theorem srtB_perm : ∀ l : List α, (srtB le l).Perm l
  | [] => .refl _
  | a :: l => (insB_perm le a (srtB le l)).trans ((srtB_perm l).cons a)
variable {le}
theorem insB_sorted (tot : ∀ a b, le a b = true ∨ le b a = true) (tr : ∀ a b c, le a b = true → le b c = true → le a c = true) (a : α) : ∀ l : List α, l.Pairwise (fun x y => le x y = true) → (insB le a l).Pairwise (fun x y => le x y = true)
  | [], _ => List.pairwise_singleton _ _
  | b :: r, h => by
    unfold insB
    obtain ⟨h1, h2⟩ := List.pairwise_cons.mp h
    split
    · rename_i hab
      exact List.pairwise_cons.mpr ⟨fun x hx => by
        rcases List.mem_cons.mp hx with rfl | hx
        · exact hab
        · exact tr _ _ _ hab (h1 x hx), h⟩
    · rename_i hab
      have hba := (tot a b).resolve_left hab
      exact List.pairwise_cons.mpr ⟨fun x hx => by
        rcases List.mem_cons.mp ((insB_perm le a r).mem_iff.mp hx) with rfl | hx
        · exact hba
        · exact h1 x hx, insB_sorted tot tr a r h2⟩
theorem srtB_sorted (tot : ∀ a b, le a b = true ∨ le b a = true) (tr : ∀ a b c, le a b = true → le b c = true → le a c = true) : ∀ l : List α, (srtB le l).Pairwise (fun x y => le x y = true)
  | [] => .nil
  | a :: l => insB_sorted tot tr a _ (srtB_sorted tot tr l)
theorem sorted_uniq (anti : ∀ a b, le a b = true → le b a = true → a = b) : ∀ {l m : List α}, l.Perm m → l.Pairwise (fun x y => le x y = true) → m.Pairwise (fun x y => le x y = true) → l = m
  | [], m, p, _, _ => by rw [List.nil_perm.mp p]
  | a :: l, [], p, _, _ => absurd p.length_eq (by simp)
  | a :: l, b :: m, p, h1, h2 => by
    obtain ⟨a1, a2⟩ := List.pairwise_cons.mp h1
    obtain ⟨b1, b2⟩ := List.pairwise_cons.mp h2
    have e : a = b := by
      rcases List.mem_cons.mp (p.mem_iff.mp (List.mem_cons_self ..)) with e | hm
      · exact e
      · rcases List.mem_cons.mp (p.mem_iff.mpr (List.mem_cons_self ..)) with e | hl
        · exact e.symm
        · exact anti _ _ (a1 b hl) (b1 a hm)
    subst e
    rw [sorted_uniq anti (List.Perm.cons_inv p) a2 b2]
end
def leI (a b : Int) : Bool := decide (a ≤ b)
def leS (a b : List Nat) : Bool := !decide (b < a)
theorem leI_tot (a b : Int) : leI a b = true ∨ leI b a = true := by unfold leI; rw [decide_eq_true_eq, decide_eq_true_eq]; omega
theorem leI_tr (a b c : Int) (h : leI a b = true) (h' : leI b c = true) : leI a c = true := by unfold leI at *; rw [decide_eq_true_eq] at *; omega
theorem leI_anti (a b : Int) (h : leI a b = true) (h' : leI b a = true) : a = b := by unfold leI at *; rw [decide_eq_true_eq] at *; omega
theorem leS_iff {a b : List Nat} : leS a b = true ↔ a ≤ b := by
  unfold leS
  rw [Bool.not_eq_true', decide_eq_false_iff_not, List.not_lt]
theorem leS_tot (a b : List Nat) : leS a b = true ∨ leS b a = true := by rw [leS_iff, leS_iff]; exact List.le_total a b
theorem leS_tr (a b c : List Nat) (h : leS a b = true) (h' : leS b c = true) : leS a c = true := by rw [leS_iff] at *; exact List.le_trans h h'
theorem leS_anti (a b : List Nat) (h : leS a b = true) (h' : leS b a = true) : a = b := by rw [leS_iff] at *; exact List.le_antisymm h h'
def srtI : List Int → List Int := srtB leI
def srtS : List (List Nat) → List (List Nat) := srtB leS
def sortedF (xs : List PV) (S : Store) : Res PV := match xs with
  | [x] => match litems S x with
    | some ys => match intsOf ys with
      | some ns => .ok (.ref S.length) (S ++ [.lst ((srtI ns).map .int)])
      | none => match strsOf ys with
        | some ss => if ss.length < 64 then .ok (.ref S.length) (S ++ [.lst ((srtS ss).map .str)]) else .bad
        | none => .bad
    | none => .bad
  | _ => .bad
theorem relVs_ints {K : PySem.W.Frag} {φ : List Addr} {H : Hp} : ∀ ns : List Int, relVs K φ H (ns.map .int) (ns.map V.int)
  | [] => rfl
  | _ :: ns => ⟨_, _, rfl, rfl, relVs_ints ns⟩
theorem relVs_strs {K : PySem.W.Frag} {φ : List Addr} {H : Hp} : ∀ ns : List (List Nat), relVs K φ H (ns.map .str) ((ns.map fun a => (⟨a.toArray⟩ : Str)).map V.str)
  | [] => rfl
  | _ :: ns => ⟨_, _, rfl, rfl, relVs_strs ns⟩
theorem rising_pair : ∀ (p : Str) (l : List Str), risingS p l = true → ((p :: l).map fun x => x.cps.toList).Pairwise (fun a b => leS a b = true)
  | p, [], _ => List.pairwise_singleton _ _
  | p, x :: r, h => by
    have h : (!PySem.Spec.ltCps x.cps.toList p.cps.toList && risingS x r) = true := h
    rw [Bool.and_eq_true] at h
    have ih := rising_pair x r h.2
    have hx : leS p.cps.toList x.cps.toList = true := by
      have := h.1
      rw [ltCps_eq] at this
      exact this
    rw [List.map_cons]
    refine List.pairwise_cons.mpr ⟨fun y hy => ?_, ih⟩
    rw [List.map_cons] at hy ih
    rcases List.mem_cons.mp hy with rfl | hy
    · exact hx
    · exact leS_tr _ _ _ hx ((List.pairwise_cons.mp ih).1 y hy)
theorem sortedS_eq {ys : List Str} {ss : List (List Nat)} (p : ys.Perm (ss.map fun a => (⟨a.toArray⟩ : Str))) (h : sortedS ys = true) : ys = (srtS ss).map fun a => (⟨a.toArray⟩ : Str) := by
  have hp : (ys.map fun x => x.cps.toList).Pairwise (fun a b => leS a b = true) := by
    cases ys with
    | nil => exact .nil
    | cons x r => exact rising_pair x r h
  have e1 : (ss.map fun a => (⟨a.toArray⟩ : Str)).map (fun x : Str => x.cps.toList) = ss := by
    rw [List.map_map]
    have : ((fun x : Str => x.cps.toList) ∘ fun a : List Nat => (⟨a.toArray⟩ : Str)) = id := by funext a; simp
    rw [this, List.map_id]
  have pp : (ys.map fun x : Str => x.cps.toList).Perm (srtS ss) := by
    have := p.map (fun x : Str => x.cps.toList)
    rw [e1] at this
    exact this.trans (srtB_perm leS ss).symm
  have e2 := sorted_uniq leS_anti pp hp (srtB_sorted leS_tot leS_tr ss)
  rw [← e2, List.map_map]
  have : ((fun a : List Nat => (⟨a.toArray⟩ : Str)) ∘ fun x : Str => x.cps.toList) = id := by funext x; simp
  rw [this, List.map_id]
theorem call_sortedF {X : Cx} : CallR X (.builtin "sorted") (rIA X.K sortedF) := by
  refine CallR.imp (CallR.or cr_sortedI cr_sortedS) fun vs H Q h => ?_
  obtain ⟨φ, S, xs, r, S', R, rs, e, P⟩ := h
  unfold sortedF at e
  split at e
  · split at e
    · rename_i ys hs
      obtain ⟨v, rfl, r1⟩ := rel1 rs
      obtain ⟨p, ws, rfl, h1, h2⟩ := litems_rel R hs r1
      split at e
      · rename_i ns hn
        cases e
        have := ints_rel hn h2
        subst this
        refine .inl ⟨p, ns, rfl, h1, fun ns' q hp hq hf => ?_⟩
        have e2 : ns' = srtI ns := sorted_uniq leI_anti (hp.trans (srtB_perm leI ns).symm) (hq.imp fun {a b} h => decide_eq_true h) (srtB_sorted leI_tot leI_tr ns)
        rw [e2]
        exact P.newLst R (relVs_ints _) q hf
      · split at e
        · rename_i ss hn
          split at e
          · rename_i hl
            cases e
            have := strs_rel hn h2
            subst this
            refine .inr ⟨p, ss.map fun a => (⟨a.toArray⟩ : Str), rfl, h1, by rw [List.length_map]; exact hl, fun ys' q hp hq hf => ?_⟩
            rw [sortedS_eq hp hq]
            exact P.newLst R (relVs_strs _) q hf
          · cases e
        · cases e
    · cases e
  · cases e
/-- math.gcd -/
def gcdF (xs : List PV) (S : Store) : Res PV := match xs with
  | [.int a, .int b] => .ok (.int ((Nat.gcd a.natAbs b.natAbs : Nat) : Int)) S
  | _ => .bad
theorem call_gcdF {X : Cx} : CallR X (.builtin "math.gcd") (rIA X.K gcdF) := by
  refine CallR.imp cr_gcd fun vs H Q h => ?_
  obtain ⟨φ, S, xs, r, S', R, rs, e, P⟩ := h
  unfold gcdF at e
  split at e
  · cases e
    obtain ⟨v, w, rfl, q1, q2⟩ := rel2 rs
    cases q1
    cases q2
    exact ⟨_, _, rfl, P.pure R rfl⟩
  · cases e
def sindexM (x : PV) (xs : List PV) (S : Store) : Res PV := match x, xs with
  | .str a, [.str b] => match Builtin.Str.occurrences ⟨a.toArray⟩ ⟨b.toArray⟩ 0 (⟨a.toArray⟩ : Str).length 1 with
    | i :: _ => .ok (.int (i : Nat)) S
    | [] => .bad
  | _, _ => .bad
theorem mt_sindexM {X : Cx} : MtR X "str.index" (rIM X.K sindexM) := by
  refine MtR.imp mt_sindex fun x vs H Q h => ?_
  obtain ⟨φ, S, px, xs, r, S', R, r1, rs, e, P⟩ := h
  unfold sindexM at e
  split at e
  · split at e
    · rename_i i rest ho
      cases e
      cases r1
      obtain ⟨v, rfl, r2⟩ := rel1 rs
      cases r2
      exact ⟨_, _, i, rest, rfl, rfl, ho, P.pure R rfl⟩
    · cases e
  · cases e
/-- s.ljust(n, c), s.ljust(n) -/
def ljustM (x : PV) (xs : List PV) (S : Store) : Res PV := match x, xs with
  | .str a, [.int i, .str [c]] => if PadOk i = true then .ok (.str (a ++ List.replicate (i.toNat - a.length) c)) S else .bad
  | _, _ => .bad
theorem mt_ljustM {X : Cx} : MtR X "str.ljust" (rIM X.K ljustM) := by
  intro pins s σ H x vs v us Q I rx rs h
  obtain ⟨φ, S, px, xs, r, S', R, r1, r2, e, P⟩ := h
  unfold ljustM at e
  split at e
  · rename_i a i c
    split at e
    · rename_i hp
      cases e
      cases r1
      obtain ⟨v1, v2, rfl, q1, q2⟩ := rel2 r2
      cases q1
      cases q2
      obtain ⟨t, rfl⟩ := rx
      cases rs with
      | cons s1 rs =>
        cases rs with
        | cons s2 rs =>
          cases rs
          obtain ⟨t1, rfl⟩ := s1
          obtain ⟨t2, rfl⟩ := s2
          refine ljust_fill hp rfl fun t' k => ⟨.str (Txt.ljustF ⟨a.toArray⟩ i ((⟨[c].toArray⟩ : Str).cps.getD 0 0)), H, I.tok k, ⟨t', rfl⟩, ?_⟩
          have : Txt.ljustF ⟨a.toArray⟩ i ((⟨[c].toArray⟩ : Str).cps.getD 0 0) = ⟨(a ++ List.replicate (i.toNat - a.length) c).toArray⟩ := by
            have q := ljustF_list ⟨a.toArray⟩ i c
            rw [str_len] at q
            have q2 : (Txt.ljustF ⟨a.toArray⟩ i c).cps = (a ++ List.replicate (i.toNat - a.length) c).toArray := by
              rw [← Array.toArray_toList (xs := (Txt.ljustF ⟨a.toArray⟩ i c).cps), q]
            show Txt.ljustF ⟨a.toArray⟩ i c = _
            cases hz : Txt.ljustF ⟨a.toArray⟩ i c with
            | mk cps => rw [hz] at q2; exact congrArg Str.mk q2
          rw [this]
          exact P.pure R rfl
    · cases e
  · cases e
end Mp

/-! Mp4: the small language and what it does. -/
namespace Mp
open PySem PySem.Spec PyProof.Rows L2

/-- built-in functions, methods, types -/
inductive Bt where | len | int | abs | ord | str | tuple | list | sum | max | min | all | any | sorted | gcd
  deriving DecidableEq
inductive Mt where | append | extend | pop | index | sindex | join | ljust
  deriving DecidableEq
inductive Ty where | none | bool | int | str | tuple | list | dict
  deriving DecidableEq
/-- a pattern of names -/
inductive Pt where | name (i : Nat) | nil | cons (p ps : Pt) | tup (ps : Pt)
mutual
inductive E where
  | var (i : Nat) | cst (v : PV)
  | bin (op : Operator) (a b : E) | neg (a : E) | cmp (op : CmpOp) (a b : E) | chain (op op' : CmpOp) (a b c : E)
  | and (a b : E) | or (a b : E) | not (a : E) | ite (c a b : E)
  | tup (es : Es) | lst (es : Es) | ix (a b : E) | sl (a : E) (lo hi : Oe)
  | call (f : Nat) (es : Es) | bt (b : Bt) (es : Es) | mt (m : Mt) (o : E) (es : Es) | isi (a : E) (ts : List Ty)
  | lc (own : List Nat) (it : It) (tg : Pt) (c : Oe) (elt : E) | lrg (tp : Bool) (lo : Oe) (hi : E)
inductive Es where | nil | cons (e : E) (es : Es)
inductive Oe where | none | some (e : E)
/-- what is walked -/
inductive It where | e (a : E) | rng (es : Es) | enu (a : E)
end
/-- what is stored to -/
inductive Tg where | pat (p : Pt) | sub (o i : E)
mutual
inductive T where
  | pass | expr (e : E) | ret (e : E) | retN | asg (t : Tg) (e : E) | par (is : List Nat) (es : Es) | aug (i : Nat) (op : Operator) (e : E) | augS (op : Operator) (o i e : E)
  | ite (c : E) (a b : Ts) | whl (c : E) (b : Ts) | frr (it : It) (t : Tg) (b : Ts) | brk | cont | never
inductive Ts where | nil | cons (t : T) (ts : Ts)
end
/-- an iterator: its items, or a list as it stands at each turn -/
inductive Ir where | vals (xs : List PV) | live (n : Nat) | enu (r : Ir)
def Ir.get (S : Store) (i : Nat) : Ir → Option PV
  | .vals xs => xs[i]?
  | .live n => match S[n]? with | some (.lst xs) => xs[i]? | _ => none
  | .enu r => (r.get S i).map fun x => .tup [.int (i : Int), x]
def Ir.fin (S : Store) (i : Nat) : Ir → Bool
  | .vals xs => decide (xs.length ≤ i)
  | .live n => match S[n]? with | some (.lst xs) => decide (xs.length ≤ i) | _ => false
  | .enu r => r.fin S i
def Ir.len (S : Store) : Ir → Nat
  | .vals xs => xs.length
  | .live n => match S[n]? with | some (.lst xs) => xs.length | _ => 0
  | .enu r => r.len S
inductive Fl where | next (ρ : Loc) | brk (ρ : Loc) | cont (ρ : Loc) | ret (v : PV)
def getL (ρ : Loc) (i : Nat) (S : Store) : Res PV := match ρ[i]? with | some (some v) => .ok v S | _ => .bad
def tru (x : PV) (S : Store) : Res Bool := match truB S x with | some b => .ok b S | none => .bad
def btF : Bt → List PV → Store → Res PV
  | .len => lenF | .int => intF | .abs => absF | .ord => ordF | .str => strF | .tuple => tupleF | .list => listF | .sum => sumF | .max => maxF | .min => minF | .all => allF | .any => anyF | .sorted => sortedF | .gcd => gcdF
def mtF : Mt → PV → List PV → Store → Res PV
  | .append => appendM | .extend => extendM | .pop => popM | .index => indexM | .sindex => sindexM | .join => joinM | .ljust => ljustM
def tyOf (S : Store) : PV → Option Ty
  | .non => some .none | .bl _ => some .bool | .int _ => some .int | .str _ => some .str | .tup _ => some .tuple | .ltc _ => some .list
  | .ref n => match S[n]? with | some (.lst _) => some .list | _ => none
def isaT : Ty → Ty → Bool
  | .bool, .int => true
  | a, b => decide (a = b)
def isiF (ts : List Ty) (x : PV) (S : Store) : Res PV := match tyOf S x with | some t => .ok (.bl (ts.any (isaT t))) S | none => .bad
def partV (x : PV) (S : Store) : Res (Option Int) := match x with | .int i => .ok (some i) S | _ => .bad
def strIt (z : List Nat) : List PV := z.map fun c => .str [c]
def iterV (x : PV) (S : Store) : Res Ir := match x with
  | .tup xs => .ok (.vals xs) S
  | .ltc xs => .ok (.vals xs) S
  | .str z => .ok (.vals (strIt z)) S
  | .ref n => .ok (.live n) S
  | _ => .bad
def enuV (x : PV) (S : Store) : Res Ir := match x with
  | .tup xs => .ok (.enu (.vals xs)) S
  | .ltc xs => .ok (.enu (.vals xs)) S
  | .ref n => .ok (.enu (.live n)) S
  | _ => .bad
def rngL (lo : Int) (n : Nat) : List PV := (List.range n).map fun (k : Nat) => .int (lo + (k : Int))
def rngD (lo : Int) (n : Nat) : List PV := (List.range n).map fun (k : Nat) => .int (lo - (k : Int))
def big62 : Int := 4611686018427387904
def rngV (xs : List PV) (S : Store) : Res Ir := match xs with
  | [.int j] => if -big62 ≤ j ∧ j < big62 then .ok (.vals (rngL 0 j.toNat)) S else .bad
  | [.int i, .int j] => if -big62 ≤ i ∧ i < big62 ∧ -big62 ≤ j ∧ j < big62 then .ok (.vals (rngL i (j - i).toNat)) S else .bad
  | [.int i, .int j, .int c] => if c = -1 ∧ -big62 ≤ i ∧ i < big62 ∧ -big62 ≤ j ∧ j < big62 then .ok (.vals (rngD i (i - j).toNat)) S else .bad
  | _ => .bad
/-- list(range(..)), tuple(range(..)) -/
def lrgV (tp : Bool) (lo : Option Int) (y : PV) (S : Store) : Res PV := match y with
  | .int j => if -big62 ≤ lo.getD 0 ∧ lo.getD 0 < big62 ∧ -big62 ≤ j ∧ j < big62 ∧ (j - lo.getD 0).toNat ≤ lim then
      (if tp = true then .ok (.tup (rngL (lo.getD 0) (j - lo.getD 0).toNat)) S else .ok (.ref S.length) (S ++ [.lst (rngL (lo.getD 0) (j - lo.getD 0).toNat)])) else .bad
  | _ => .bad
/-- o[i] = v -/
def setV (o i v : PV) (S : Store) : Res Unit := match o, i with
  | .ref n, .int k => match S[n]? with
    | some (.lst xs) => match ixN xs.length k with | some j => .ok () (S.set n (.lst (xs.set j v))) | none => .bad
    | _ => .bad
  | _, _ => .bad
def wipeL (ρ : Loc) : List Nat → Loc
  | [] => ρ
  | v :: vs => (wipeL ρ vs).set v none
def setMany : Loc → List Nat → List PV → Option Loc
  | ρ, [], [] => some ρ
  | ρ, i :: is, v :: vs => setMany (ρ.set i (some v)) is vs
  | _, _, _ => none

/-- a pattern's slots; its binding -/
def Pt.slots : Pt → List Nat
  | .name i => [i]
  | .nil => []
  | .cons p ps => p.slots ++ ps.slots
  | .tup ps => ps.slots
mutual
def asP : Pt → PV → Store → Loc → Option Loc
  | .name i, v, _, ρ => some (ρ.set i (some v))
  | .tup ps, v, S, ρ => match itemsOf S v with | some xs => asPs ps xs S ρ | none => none
  | _, _, _, _ => none
def asPs : Pt → List PV → Store → Loc → Option Loc
  | .nil, xs, _, ρ => match xs with | [] => some ρ | _ => none
  | .cons p ps, xs, S, ρ => match xs with | [] => none | x :: r => (asP p x S ρ).bind fun ρ1 => asPs ps r S ρ1
  | _, _, _, _ => none
end
def asPR (p : Pt) (v : PV) (ρ : Loc) (S : Store) : Res Loc := match asP p v S ρ with | some ρ1 => .ok ρ1 S | none => .bad
def mtTy : Mt → Ty
  | .append => .list | .extend => .list | .pop => .list | .index => .list | .sindex => .str | .join => .str | .ljust => .str

/-- the calls: a def by its number -/
abbrev Calls := Nat → List PV → Store → Res PV
section
variable (c : Calls)
/-- a comprehension's turns: k left, i the next -/
def lcN (it : Ir) (turn : PV → Store → Res (Option PV)) : Nat → Nat → List PV → Store → Res (List PV)
  | 0, _, _, _ => .bad
  | k + 1, i, acc, S => match it.get S i with
    | some x => (turn x S).bind fun r S1 => match r with
      | some y => if acc.length < lim then lcN it turn k (i + 1) (acc ++ [y]) S1 else .bad
      | none => lcN it turn k (i + 1) acc S1
    | none => if it.fin S i = true then .ok acc S else .bad
mutual
def evE : E → Loc → Store → Res PV
  | .var i, ρ, S => getL ρ i S
  | .cst v, _, S => .ok v S
  | .bin op a b, ρ, S => (evE a ρ S).bind fun x S1 => (evE b ρ S1).bind fun y S2 => binV op x y S2
  | .neg a, ρ, S => (evE a ρ S).bind fun x S1 => negV x S1
  | .cmp op a b, ρ, S => (evE a ρ S).bind fun x S1 => (evE b ρ S1).bind fun y S2 => cmpV op x y S2
  | .chain op op' a b d, ρ, S => (evE a ρ S).bind fun x S1 => (evE b ρ S1).bind fun y S2 => (cmpV op x y S2).bind fun z S3 => match z with
    | .bl true => (evE d ρ S3).bind fun w S4 => cmpV op' y w S4
    | .bl false => .ok (.bl false) S3
    | _ => .bad
  | .and a b, ρ, S => (evE a ρ S).bind fun x S1 => (tru x S1).bind fun t S2 => if t = true then evE b ρ S2 else .ok x S2
  | .or a b, ρ, S => (evE a ρ S).bind fun x S1 => (tru x S1).bind fun t S2 => if t = true then .ok x S2 else evE b ρ S2
  | .not a, ρ, S => (evE a ρ S).bind fun x S1 => (tru x S1).bind fun t S2 => .ok (.bl (!t)) S2
  | .ite d a b, ρ, S => (evE d ρ S).bind fun x S1 => (tru x S1).bind fun t S2 => if t = true then evE a ρ S2 else evE b ρ S2
  | .tup es, ρ, S => (evEs es ρ S).bind fun xs S1 => if xs.length ≤ lim then .ok (.tup xs) S1 else .bad
  | .lst es, ρ, S => (evEs es ρ S).bind fun xs S1 => if xs.length ≤ lim then .ok (.ref S1.length) (S1 ++ [.lst xs]) else .bad
  | .ix a b, ρ, S => (evE a ρ S).bind fun x S1 => (evE b ρ S1).bind fun y S2 => ixV x y S2
  | .sl a lo hi, ρ, S => (evE a ρ S).bind fun x S1 => (evO lo ρ S1).bind fun l S2 => (evO hi ρ S2).bind fun h S3 => slV x l h S3
  | .call f es, ρ, S => (evEs es ρ S).bind fun xs S1 => c f xs S1
  | .bt b es, ρ, S => (evEs es ρ S).bind fun xs S1 => btF b xs S1
  | .mt m o es, ρ, S => (evE o ρ S).bind fun x S1 => if tyOf S1 x = some (mtTy m) then (evEs es ρ S1).bind fun xs S2 => mtF m x xs S2 else .bad
  | .isi a ts, ρ, S => (evE a ρ S).bind fun x S1 => isiF ts x S1
  | .lc own it tg d elt, ρ, S => (evI it ρ S).bind fun r S1 =>
    (lcN r (fun x S2 => (asPR tg x (wipeL ρ own) S2).bind fun ρ1 S3 => (evC d ρ1 S3).bind fun t S4 => if t = true then (evE elt ρ1 S4).bind fun y S5 => .ok (some y) S5 else .ok none S4) (r.len S1 + 1) 0 [] S1).bind
      fun ys S6 => .ok (.ref S6.length) (S6 ++ [.lst ys])
  | .lrg tp lo hi, ρ, S => (evO lo ρ S).bind fun l S1 => (evE hi ρ S1).bind fun y S2 => lrgV tp l y S2
def evEs : Es → Loc → Store → Res (List PV)
  | .nil, _, S => .ok [] S
  | .cons e es, ρ, S => (evE e ρ S).bind fun x S1 => (evEs es ρ S1).bind fun xs S2 => .ok (x :: xs) S2
def evO : Oe → Loc → Store → Res (Option Int)
  | .none, _, S => .ok none S
  | .some e, ρ, S => (evE e ρ S).bind fun x S1 => partV x S1
/-- a clause's test -/
def evC : Oe → Loc → Store → Res Bool
  | .none, _, S => .ok true S
  | .some e, ρ, S => (evE e ρ S).bind fun x S1 => tru x S1
def evI : It → Loc → Store → Res Ir
  | .e a, ρ, S => (evE a ρ S).bind fun x S1 => iterV x S1
  | .rng es, ρ, S => (evEs es ρ S).bind fun xs S1 => rngV xs S1
  | .enu a, ρ, S => (evE a ρ S).bind fun x S1 => enuV x S1
end
def asG : Tg → PV → Loc → Store → Res Loc
  | .pat p, v, ρ, S => asPR p v ρ S
  | .sub o i, v, ρ, S => (evE c o ρ S).bind fun x S1 => (evE c i ρ S1).bind fun y S2 => (setV x y v S2).bind fun _ S3 => .ok ρ S3
/-- a while's turns -/
def whlN (test : Loc → Store → Res Bool) (body : Loc → Store → Res Fl) : Nat → Loc → Store → Res Fl
  | 0, _, _ => .bad
  | k + 1, ρ, S => (test ρ S).bind fun t S1 => if t = true then (body ρ S1).bind fun f S2 => match f with
      | .next ρ' => whlN test body k ρ' S2
      | .cont ρ' => whlN test body k ρ' S2
      | .brk ρ' => .ok (.next ρ') S2
      | .ret v => .ok (.ret v) S2
    else .ok (.next ρ) S1
/-- a for's turns -/
def forN (it : Ir) (body : PV → Loc → Store → Res Fl) : Nat → Nat → Loc → Store → Res Fl
  | 0, _, _, _ => .bad
  | k + 1, i, ρ, S => match it.get S i with
    | some x => (body x ρ S).bind fun f S2 => match f with
      | .next ρ' => forN it body k (i + 1) ρ' S2
      | .cont ρ' => forN it body k (i + 1) ρ' S2
      | .brk ρ' => .ok (.next ρ') S2
      | .ret v => .ok (.ret v) S2
    | none => if it.fin S i = true then .ok (.next ρ) S else .bad
variable (fu : Nat)
mutual
def exT : T → Loc → Store → Res Fl
  | .pass, ρ, S => .ok (.next ρ) S
  | .expr e, ρ, S => (evE c e ρ S).bind fun _ S1 => .ok (.next ρ) S1
  | .ret e, ρ, S => (evE c e ρ S).bind fun x S1 => .ok (.ret x) S1
  | .retN, ρ, S => .ok (.ret .non) S
  | .asg t e, ρ, S => (evE c e ρ S).bind fun x S1 => (asG c t x ρ S1).bind fun ρ1 S2 => .ok (.next ρ1) S2
  | .par is es, ρ, S => (evEs c es ρ S).bind fun xs S1 => match setMany ρ is xs with | some ρ1 => .ok (.next ρ1) S1 | none => .bad
  | .aug i op e, ρ, S => (getL ρ i S).bind fun x S0 => (evE c e ρ S0).bind fun y S1 => (ibinV op x y S1).bind fun z S2 => .ok (.next (ρ.set i (some z))) S2
  | .augS op o i e, ρ, S => (evE c o ρ S).bind fun x S1 => (evE c i ρ S1).bind fun y S2 => (ixV x y S2).bind fun z S3 => (evE c e ρ S3).bind fun u S4 => (ibinV op z u S4).bind fun w S5 =>
      (setV x y w S5).bind fun _ S6 => .ok (.next ρ) S6
  | .ite d a b, ρ, S => (evE c d ρ S).bind fun x S1 => (tru x S1).bind fun t S2 => if t = true then exTs a ρ S2 else exTs b ρ S2
  | .whl d b, ρ, S => whlN (fun ρ S => (evE c d ρ S).bind fun x S1 => tru x S1) (exTs b) fu ρ S
  | .frr it t b, ρ, S => (evI c it ρ S).bind fun r S1 => forN r (fun x ρ S => (asG c t x ρ S).bind fun ρ1 S2 => exTs b ρ1 S2) (r.len S1 + 1) 0 ρ S1
  | .brk, ρ, S => .ok (.brk ρ) S
  | .cont, ρ, S => .ok (.cont ρ) S
  | .never, _, _ => .bad
def exTs : Ts → Loc → Store → Res Fl
  | .nil, ρ, S => .ok (.next ρ) S
  | .cons t ts, ρ, S => (exT t ρ S).bind fun f S1 => match f with
    | .next ρ1 => exTs ts ρ1 S1
    | f => .ok f S1
end
end
/-- a def: how many slots, its body -/
structure Fn where
  slots : Nat
  pars : Nat
  body : Ts
def runFn (c : Calls) (fu : Nat) (f : Fn) (xs : List PV) (S : Store) : Res PV :=
  if xs.length = f.pars then (exTs c fu f.body (xs.map some ++ List.replicate (f.slots - xs.length) none) S).bind fun r S1 => match r with
    | .next _ => .ok .non S1
    | .ret v => .ok v S1
    | _ => .bad
  else .bad
/-- calls, k deep -/
def callN (fs : List Fn) (fu : Nat) : Nat → Calls
  | 0, _, _, _ => .bad
  | k + 1, i, xs, S => match fs[i]? with
    | some f => runFn (callN fs fu k) fu f xs S
    | none => .bad
end Mp

/-! Mp5: expressions: what the evaluator says of them holds. -/
namespace Mp
open PySem PySem.Spec PyProof.Rows L2

def tIT (K : PySem.W.Frag) (f : Loc → Store → Res Bool) : TT := fun σ H Q => ∃ φ ρ S b S', Rel K φ H S ∧ RelL K φ H ρ σ ∧ f ρ S = .ok b S' ∧
  ∀ (φ' : List Addr) (H' : Hp), Ext φ H φ' H' → Rel K φ' H' S' → Q b H'
def tIO (K : PySem.W.Frag) (f : Loc → Store → Res (Option Int)) : TO := fun σ H Q => ∃ φ ρ S b S', Rel K φ H S ∧ RelL K φ H ρ σ ∧ f ρ S = .ok b S' ∧
  ∀ (φ' : List Addr) (H' : Hp), Ext φ H φ' H' → Rel K φ' H' S' → Q b H'
section
variable {K : PySem.W.Frag} {φ : List Addr} {H : Hp} {S S' : Store} {ρ : Loc} {σ : L2.St}
theorem tIT_step {β : Type} {f : Loc → Store → Res Bool} {g : Bool → Store → Res β} {r : β} {Q1 : Bool → Hp → Prop} (R : Rel K φ H S) (L : RelL K φ H ρ σ) (h : (f ρ S).bind g = .ok r S')
    (k : ∀ x S1, f ρ S = .ok x S1 → g x S1 = .ok r S' → ∀ φ1 H1, Ext φ H φ1 H1 → Rel K φ1 H1 S1 → RelL K φ1 H1 ρ σ → Q1 x H1) : tIT K f σ H Q1 := by
  obtain ⟨x, S1, e1, e2⟩ := bind_inv h
  exact ⟨φ, ρ, S, x, S1, R, L, e1, fun φ1 H1 E1 R1 => k x S1 e1 e2 φ1 H1 E1 R1 (L.ext R E1 R1)⟩
theorem tIO_step {β : Type} {f : Loc → Store → Res (Option Int)} {g : Option Int → Store → Res β} {r : β} {Q1 : Option Int → Hp → Prop} (R : Rel K φ H S) (L : RelL K φ H ρ σ) (h : (f ρ S).bind g = .ok r S')
    (k : ∀ x S1, f ρ S = .ok x S1 → g x S1 = .ok r S' → ∀ φ1 H1, Ext φ H φ1 H1 → Rel K φ1 H1 S1 → RelL K φ1 H1 ρ σ → Q1 x H1) : tIO K f σ H Q1 := by
  obtain ⟨x, S1, e1, e2⟩ := bind_inv h
  exact ⟨φ, ρ, S, x, S1, R, L, e1, fun φ1 H1 E1 R1 => k x S1 e1 e2 φ1 H1 E1 R1 (L.ext R E1 R1)⟩
theorem tru_inv {x : PV} {S S' : Store} {b : Bool} (h : tru x S = .ok b S') : truB S x = some b ∧ S' = S := by
  unfold tru at h
  split at h
  · rename_i e; cases h; exact ⟨e, rfl⟩
  · cases h
end
abbrev PEI (X : Cx) (e : Expr) (f : Loc → Store → Res PV) : Prop := PE X e (tI X.K f)
abbrev PTI (X : Cx) (e : Expr) (f : Loc → Store → Res Bool) : Prop := PT X e (tIT X.K f)
abbrev PAI (X : Cx) (es : List Expr) (f : Loc → Store → Res (List PV)) : Prop := PA X es (tIA X.K f)
abbrev POI (X : Cx) (e : Option Expr) (f : Loc → Store → Res (Option Int)) : Prop := PO X e (tIO X.K f)
theorem ite_law {α : Type} (r : Res PV) (F G : Store → Res α) : (r.bind fun x S1 => (tru x S1).bind fun t S2 => if t = true then F S2 else G S2) = (r.bind fun x S1 => tru x S1).bind fun t S2 => if t = true then F S2 else G S2 := by
  cases r <;> rfl
theorem and_law (r : Res PV) (F : Store → Res PV) : (r.bind fun x S1 => (tru x S1).bind fun t S2 => if t = true then F S2 else .ok x S2).bind (fun x S => tru x S) =
    (r.bind fun x S1 => tru x S1).bind fun t S2 => if t = true then (F S2).bind (fun x S => tru x S) else .ok false S2 := by
  cases r with
  | ok x S1 =>
    simp only [Res.bind_ok]
    cases h2 : tru x S1 with
    | ok t S2 =>
      simp only [Res.bind_ok]
      cases t with
      | true => rfl
      | false =>
        obtain ⟨g1, rfl⟩ := tru_inv h2
        simp only [Bool.false_eq_true, if_false, Res.bind_ok, h2]
    | exc => rfl
    | bad => rfl
  | exc => rfl
  | bad => rfl
theorem or_law (r : Res PV) (F : Store → Res PV) : (r.bind fun x S1 => (tru x S1).bind fun t S2 => if t = true then .ok x S2 else F S2).bind (fun x S => tru x S) =
    (r.bind fun x S1 => tru x S1).bind fun t S2 => if t = true then .ok true S2 else (F S2).bind (fun x S => tru x S) := by
  cases r with
  | ok x S1 =>
    simp only [Res.bind_ok]
    cases h2 : tru x S1 with
    | ok t S2 =>
      simp only [Res.bind_ok]
      cases t with
      | false => rfl
      | true =>
        obtain ⟨g1, rfl⟩ := tru_inv h2
        simp only [if_true, Res.bind_ok, h2]
    | exc => rfl
    | bad => rfl
  | exc => rfl
  | bad => rfl
theorem not_law (r : Res PV) : (r.bind fun x S1 => (tru x S1).bind fun t S2 => .ok (.bl (!t)) S2).bind (fun x S => tru x S) = (r.bind fun x S1 => tru x S1).bind fun t S2 => .ok (!t) S2 := by
  cases r with
  | ok x S1 =>
    simp only [Res.bind_ok]
    cases tru x S1 <;> rfl
  | exc => rfl
  | bad => rfl
theorem ite2_law (r : Res PV) (F G : Store → Res PV) : (r.bind fun x S1 => (tru x S1).bind fun t S2 => if t = true then F S2 else G S2).bind (fun x S => tru x S) =
    (r.bind fun x S1 => tru x S1).bind fun t S2 => if t = true then (F S2).bind (fun x S => tru x S) else (G S2).bind (fun x S => tru x S) := by
  cases r with
  | ok x S1 =>
    simp only [Res.bind_ok]
    cases tru x S1 with
    | ok t S2 => cases t <;> rfl
    | exc => rfl
    | bad => rfl
  | exc => rfl
  | bad => rfl
/-- the truth of what f gives -/
def asT (f : Loc → Store → Res PV) : Loc → Store → Res Bool := fun ρ S => (f ρ S).bind fun x S1 => tru x S1
section
variable {X : Cx} {a b d : Expr} {fa fb fd : Loc → Store → Res PV} {pos : Pos} {c : Calls}

/-! ### names, constants -/
theorem pei_var {i : Nat} {x : Str} {p : Pos} (hN : X.N[i]? = some x) (hv : Vis X.env.scope x) (h1 : (x == ("__debug__" : Str)) = false) (h2 : (x == ("__classdict__" : Str)) = false) : PEI X (.Name x p) (fun ρ S => getL ρ i S) := by
  refine PE.imp (pe_var hN hv h1 h2) fun σ H Q ⟨φ, ρ, S, r, S', R, L, e, P⟩ => ?_
  have e : getL ρ i S = .ok r S' := e
  unfold getL at e
  split at e
  · rename_i v hv
    cases e
    obtain ⟨w, e1, r1⟩ := L.2 i _ hv
    exact ⟨w, e1, P.pure R r1⟩
  · cases e
theorem pei_cst {v : PV} {w : V} (h : PE X a (tC w)) (r : ∀ φ H, relV X.K φ H v w) : PEI X a (fun _ S => .ok v S) := by
  refine PE.imp h fun σ H Q ⟨φ, ρ, S, r', S', R, L, e, P⟩ => ?_
  cases e
  exact P.pure R (r φ H)
theorem pei_int {i : Int} {k : Nat} {p : Pos} : PEI X (.Constant (.int i) k p) (fun _ S => .ok (.int i) S) := pei_cst pe_int fun _ _ => rfl
theorem pei_bl {i : Bool} {k : Nat} {p : Pos} : PEI X (.Constant (.bool i) k p) (fun _ S => .ok (.bl i) S) := pei_cst pe_bl fun _ _ => rfl
theorem pei_non {k : Nat} {p : Pos} : PEI X (.Constant .none k p) (fun _ S => .ok .non S) := pei_cst pe_non fun _ _ => rfl
theorem pei_str {x : Str} {k : Nat} {p : Pos} : PEI X (.Constant (.str x) k p) (fun _ S => .ok (.str x.cps.toList) S) := pei_cst pe_str fun _ _ => by
  show V.str x = V.str ⟨x.cps.toList.toArray⟩
  simp

/-! ### operators -/
theorem pei_op {op : Operator} {g : PV → PV → Store → Res PV} (ho : OpR X (binaryOp op) (rI2 X.K g)) (ha : PEI X a fa) (hb : PEI X b fb) :
    PEI X (.BinOp a op b pos) (fun ρ S => (fa ρ S).bind fun x S1 => (fb ρ S1).bind fun y S2 => g x y S2) := by
  refine PE.imp (pe_op ho ha hb) fun σ H Q ⟨φ, ρ, S, r, S', R, L, e, P⟩ => ?_
  refine tI_step R L e fun x S1 _ e1 φ1 v1 H1 E1 R1 L1 r1 => ?_
  refine tI_step R1 L1 e1 fun y S2 _ e2 φ2 v2 H2 E2 R2 L2 r2 => ?_
  exact ⟨φ2, S2, x, y, r, S', R2, relV_ext R1 E2 R2 _ _ r1, r2, e2, P.ext (E1.trans E2)⟩
theorem pei_cmp {op : CmpOp} {g : PV → PV → Store → Res PV} (ho : OpR X (compareOp op) (rI2 X.K g)) (ha : PEI X a fa) (hb : PEI X b fb) (hm : behindInMarks op b = false) :
    PEI X (.Compare a [op] [b] pos) (fun ρ S => (fa ρ S).bind fun x S1 => (fb ρ S1).bind fun y S2 => g x y S2) := by
  refine PE.imp (pe_cmpR ho ha hb hm) fun σ H Q ⟨φ, ρ, S, r, S', R, L, e, P⟩ => ?_
  refine tI_step R L e fun x S1 _ e1 φ1 v1 H1 E1 R1 L1 r1 => ?_
  refine tI_step R1 L1 e1 fun y S2 _ e2 φ2 v2 H2 E2 R2 L2 r2 => ?_
  exact ⟨φ2, S2, x, y, r, S', R2, relV_ext R1 E2 R2 _ _ r1, r2, e2, P.ext (E1.trans E2)⟩
theorem bl_of {K : PySem.W.Frag} {φ : List Addr} {H : Hp} {S S' : Store} {z : PV} {b : Bool} (hz : (∃ c, z = .bl c) ∨ False) (h : tru z S = .ok b S') : z = .bl b ∧ S' = S := by
  rcases hz with ⟨c, rfl⟩ | h
  · cases h; exact ⟨rfl, rfl⟩
  · exact h.elim
/-- a comparison gives a bool -/
def Bools (g : PV → PV → Store → Res PV) : Prop := ∀ x y S r S', g x y S = .ok r S' → ∃ c, r = .bl c
theorem pti_cmp {op : CmpOp} {g : PV → PV → Store → Res PV} (hg : Bools g) (ho : OpR X (compareOp op) (rI2 X.K g)) (ha : PEI X a fa) (hb : PEI X b fb) (hm : behindInMarks op b = false) :
    PTI X (.Compare a [op] [b] pos) (asT fun ρ S => (fa ρ S).bind fun x S1 => (fb ρ S1).bind fun y S2 => g x y S2) := by
  refine PT.imp (pt_cmpR ho ha hb hm) fun σ H Q ⟨φ, ρ, S, r, S', R, L, e, P⟩ => ?_
  obtain ⟨z, S9, e9, e⟩ := bind_inv e
  refine tI_step R L e9 fun x S1 _ e1 φ1 v1 H1 E1 R1 L1 r1 => ?_
  refine tI_step R1 L1 e1 fun y S2 _ e2 φ2 v2 H2 E2 R2 L2 r2 => ?_
  refine ⟨φ2, S2, x, y, z, S9, R2, relV_ext R1 E2 R2 _ _ r1, r2, e2, fun φ3 v H3 E3 R3 r3 => ?_⟩
  obtain ⟨k, rfl⟩ := hg _ _ _ _ _ e2
  cases r3
  obtain ⟨h1, rfl⟩ := tru_inv e
  cases h1
  exact ⟨_, rfl, P φ3 H3 ((E1.trans E2).trans E3) R3⟩
theorem bools_ord {gi : Int → Int → Bool} {gs : List Nat → List Nat → Bool} {gz : Nat → Nat → Bool} {x y r : PV} {S S' : Store} (h : ordV gi gs gz x y S = .ok r S') : ∃ b, r = .bl b := by
  unfold ordV at h
  split at h
  · cases h; exact ⟨_, rfl⟩
  · cases h; exact ⟨_, rfl⟩
  · split at h
    · cases h; exact ⟨_, rfl⟩
    · cases h
theorem bools_cmp (op : CmpOp) : Bools (cmpV op) := by
  intro x y S r S' h
  cases op <;> simp only [cmpV] at h
  · obtain ⟨b, _, rfl, _⟩ := toB_inv h; exact ⟨_, rfl⟩
  · obtain ⟨b, _, rfl, _⟩ := toB_inv h; exact ⟨_, rfl⟩
  · exact bools_ord h
  · exact bools_ord h
  · exact bools_ord h
  · exact bools_ord h
  · unfold isV at h; split at h <;> cases h <;> exact ⟨_, rfl⟩
  · unfold isV at h; split at h <;> cases h <;> exact ⟨_, rfl⟩
  · unfold inV at h; split at h
    · cases h; exact ⟨_, rfl⟩
    · split at h
      · split at h <;> cases h; exact ⟨_, rfl⟩
      · cases h
  · unfold inV at h; split at h
    · cases h; exact ⟨_, rfl⟩
    · split at h
      · split at h <;> cases h; exact ⟨_, rfl⟩
      · cases h
theorem pei_chain {op op' : CmpOp} {g g' : PV → PV → Store → Res PV} (ho : OpR X (compareOp op) (rI2 X.K g)) (ho' : OpR X (compareOp op') (rI2 X.K g')) (ha : PEI X a fa) (hb : PEI X b fb) (hd : PEI X d fd) (hm : lastMarks [op, op'] [b, d] = false) :
    PEI X (.Compare a [op, op'] [b, d] pos) (fun ρ S => (fa ρ S).bind fun x S1 => (fb ρ S1).bind fun y S2 => (g x y S2).bind fun z S3 => match z with
      | .bl true => (fd ρ S3).bind fun w S4 => g' y w S4
      | .bl false => .ok (.bl false) S3
      | _ => .bad) := by
  refine PE.imp (pe_chain ho ho' ha hb hd hm) fun σ H Q ⟨φ, ρ, S, r, S', R, L, e, P⟩ => ?_
  refine tI_step R L e fun x S1 _ e1 φ1 v1 H1 E1 R1 L1 r1 => ?_
  refine tI_step R1 L1 e1 fun y S2 _ e2 φ2 v2 H2 E2 R2 L2 r2 => ?_
  obtain ⟨z, S3, e3, e4⟩ := bind_inv e2
  refine ⟨φ2, S2, x, y, z, S3, R2, relV_ext R1 E2 R2 _ _ r1, r2, e3, fun φ3 v3 H3 E3 R3 r3 => ?_⟩
  split at e4
  · cases r3
    refine ⟨true, rfl, ?_⟩
    rw [if_pos rfl]
    refine tI_step R3 (L2.ext R2 E3 R3) e4 fun w S4 _ e5 φ4 v4 H4 E4 R4 L4 r4 => ?_
    exact ⟨φ4, S4, y, w, r, S', R4, relV_ext R2 (E3.trans E4) R4 _ _ r2, r4, e5, P.ext (((E1.trans E2).trans E3).trans E4)⟩
  · cases e4
    cases r3
    refine ⟨false, rfl, ?_⟩
    rw [if_neg Bool.false_ne_true]
    exact P φ3 _ H3 ((E1.trans E2).trans E3) R3 rfl
  · cases e4
theorem pti_chain {op op' : CmpOp} {g g' : PV → PV → Store → Res PV} (hg' : Bools g') (ho : OpR X (compareOp op) (rI2 X.K g)) (ho' : OpR X (compareOp op') (rI2 X.K g')) (ha : PEI X a fa) (hb : PEI X b fb) (hd : PEI X d fd) (hm : lastMarks [op, op'] [b, d] = false) :
    PTI X (.Compare a [op, op'] [b, d] pos) (asT fun ρ S => (fa ρ S).bind fun x S1 => (fb ρ S1).bind fun y S2 => (g x y S2).bind fun z S3 => match z with
      | .bl true => (fd ρ S3).bind fun w S4 => g' y w S4
      | .bl false => .ok (.bl false) S3
      | _ => .bad) := by
  refine PT.imp (pt_chain ho ho' ha hb hd hm) fun σ H Q ⟨φ, ρ, S, r, S', R, L, e, P⟩ => ?_
  obtain ⟨z9, S9, e9, e⟩ := bind_inv e
  refine tI_step R L e9 fun x S1 _ e1 φ1 v1 H1 E1 R1 L1 r1 => ?_
  refine tI_step R1 L1 e1 fun y S2 _ e2 φ2 v2 H2 E2 R2 L2 r2 => ?_
  obtain ⟨z, S3, e3, e4⟩ := bind_inv e2
  refine ⟨φ2, S2, x, y, z, S3, R2, relV_ext R1 E2 R2 _ _ r1, r2, e3, fun φ3 v3 H3 E3 R3 r3 => ?_⟩
  split at e4
  · cases r3
    refine ⟨true, rfl, ?_⟩
    rw [if_pos rfl]
    refine tI_step R3 (L2.ext R2 E3 R3) e4 fun w S4 _ e5 φ4 v4 H4 E4 R4 L4 r4 => ?_
    refine ⟨φ4, S4, y, w, z9, S9, R4, relV_ext R2 (E3.trans E4) R4 _ _ r2, r4, e5, fun φ5 v5 H5 E5 R5 r5 => ?_⟩
    obtain ⟨k, rfl⟩ := hg' _ _ _ _ _ e5
    cases r5
    obtain ⟨h1, rfl⟩ := tru_inv e
    cases h1
    exact ⟨_, rfl, P φ5 H5 ((((E1.trans E2).trans E3).trans E4).trans E5) R5⟩
  · cases e4
    cases r3
    refine ⟨false, rfl, ?_⟩
    rw [if_neg Bool.false_ne_true]
    obtain ⟨h1, rfl⟩ := tru_inv e
    cases h1
    exact ⟨_, rfl, P φ3 H3 ((E1.trans E2).trans E3) R3⟩
  · cases e4
theorem pei_neg (ha : PEI X a fa) : PEI X (.UnaryOp .USub a pos) (fun ρ S => (fa ρ S).bind fun x S1 => negV x S1) := by
  refine PE.imp (pe_un un_negV ha) fun σ H Q ⟨φ, ρ, S, r, S', R, L, e, P⟩ => ?_
  refine tI_step R L e fun x S1 _ e1 φ1 v1 H1 E1 R1 L1 r1 => ?_
  exact ⟨φ1, S1, x, r, S', R1, r1, e1, P.ext E1⟩

/-! ### and, or, not, if -/
theorem pei_one {op : BoolOp} (ha : PEI X a fa) : PEI X (.BoolOp op [a] pos) fa := pe_one ha
theorem pei_and {rest : List Expr} (ha : PEI X a fa) (hb : PEI X (.BoolOp .And (b :: rest) pos) fb) : PEI X (.BoolOp .And (a :: b :: rest) pos) (fun ρ S => (fa ρ S).bind fun x S1 => (tru x S1).bind fun t S2 => if t = true then fb ρ S2 else .ok x S2) := by
  refine PE.imp (pe_andT ha hb) fun σ H Q ⟨φ, ρ, S, r, S', R, L, e, P⟩ => ?_
  refine tI_step R L e fun x S1 _ e1 φ1 v1 H1 E1 R1 L1 r1 => ?_
  obtain ⟨t, S2, e2, e3⟩ := bind_inv e1
  obtain ⟨h1, rfl⟩ := tru_inv e2
  refine ⟨t, tru_rel R1 h1 r1, ?_⟩
  split at e3
  · rename_i ht
    rw [if_pos ht]
    exact ⟨φ1, ρ, S2, r, S', R1, L1, e3, P.ext E1⟩
  · rename_i ht
    rw [if_neg ht]
    cases e3
    exact P φ1 _ _ E1 R1 r1
theorem pei_or {rest : List Expr} (ha : PEI X a fa) (hb : PEI X (.BoolOp .Or (b :: rest) pos) fb) : PEI X (.BoolOp .Or (a :: b :: rest) pos) (fun ρ S => (fa ρ S).bind fun x S1 => (tru x S1).bind fun t S2 => if t = true then .ok x S2 else fb ρ S2) := by
  refine PE.imp (pe_orT ha hb) fun σ H Q ⟨φ, ρ, S, r, S', R, L, e, P⟩ => ?_
  refine tI_step R L e fun x S1 _ e1 φ1 v1 H1 E1 R1 L1 r1 => ?_
  obtain ⟨t, S2, e2, e3⟩ := bind_inv e1
  obtain ⟨h1, rfl⟩ := tru_inv e2
  refine ⟨t, tru_rel R1 h1 r1, ?_⟩
  split at e3
  · rename_i ht
    rw [if_pos ht]
    cases e3
    exact P φ1 _ _ E1 R1 r1
  · rename_i ht
    rw [if_neg ht]
    exact ⟨φ1, ρ, S2, r, S', R1, L1, e3, P.ext E1⟩
theorem pei_not (ha : PEI X a fa) : PEI X (.UnaryOp .Not a pos) (fun ρ S => (fa ρ S).bind fun x S1 => (tru x S1).bind fun t S2 => .ok (.bl (!t)) S2) := by
  refine PE.imp (pe_notT ha) fun σ H Q ⟨φ, ρ, S, r, S', R, L, e, P⟩ => ?_
  refine tI_step R L e fun x S1 _ e1 φ1 v1 H1 E1 R1 L1 r1 => ?_
  obtain ⟨t, S2, e2, e3⟩ := bind_inv e1
  obtain ⟨h1, rfl⟩ := tru_inv e2
  cases e3
  exact ⟨t, tru_rel R1 h1 r1, P φ1 _ _ E1 R1 rfl⟩
theorem pei_ite (hd : PTI X d (asT fd)) (ha : PEI X a fa) (hb : PEI X b fb) : PEI X (.IfExp d a b pos) (fun ρ S => (fd ρ S).bind fun x S1 => (tru x S1).bind fun t S2 => if t = true then fa ρ S2 else fb ρ S2) := by
  refine PE.imp (pe_ifExp hd ha hb) fun σ H Q ⟨φ, ρ, S, r, S', R, L, e, P⟩ => ?_
  have e' : (asT fd ρ S).bind (fun t S2 => if t = true then fa ρ S2 else fb ρ S2) = .ok r S' := (ite_law _ _ _).symm.trans e
  refine tIT_step R L e' fun t S1 _ e1 φ1 H1 E1 R1 L1 => ?_
  split at e1
  · rename_i ht
    rw [if_pos ht]
    exact ⟨φ1, ρ, S1, r, S', R1, L1, e1, P.ext E1⟩
  · rename_i ht
    rw [if_neg ht]
    exact ⟨φ1, ρ, S1, r, S', R1, L1, e1, P.ext E1⟩
/-! ### tests -/
theorem pti_truth (ha : PEI X a fa) (he : ∀ whole, isTrue a X.env whole = (do let v ← whole; standAt a.pos; holding [v] (truthy v))) : PTI X a (asT fa) := by
  refine PT.imp (pt_truth ha he) fun σ H Q ⟨φ, ρ, S, r, S', R, L, e, P⟩ => ?_
  refine tI_step R L e fun x S1 _ e1 φ1 v1 H1 E1 R1 L1 r1 => ?_
  obtain ⟨h1, rfl⟩ := tru_inv e1
  exact ⟨r, tru_rel R1 h1 r1, P φ1 _ E1 R1⟩
structure PWI (X : Cx) (e : Expr) (f : Loc → Store → Res PV) : Prop where
  pw : PW X e (tIT X.K (asT f))
theorem pwi_and1 (ha : PTI X a (asT fa)) : PWI X (.BoolOp .And [a] pos) fa := ⟨pw_and1 ha⟩
theorem pwi_or1 (ha : PTI X a (asT fa)) : PWI X (.BoolOp .Or [a] pos) fa := ⟨pw_or1 ha⟩
theorem PW.imp {e : Expr} {t t' : TT} (h : PW X e t) (i : ∀ σ H Q, t' σ H Q → t σ H Q) : PW X e t' := ⟨fun whole pins s σ H Q I q => h.run whole pins s σ H Q I (i _ _ _ q)⟩
theorem pwi_and {rest : List Expr} (ha : PTI X a (asT fa)) (hb : PWI X (.BoolOp .And (b :: rest) pos) fb) : PWI X (.BoolOp .And (a :: b :: rest) pos) (fun ρ S => (fa ρ S).bind fun x S1 => (tru x S1).bind fun t S2 => if t = true then fb ρ S2 else .ok x S2) := by
  refine ⟨PW.imp (pw_and ha hb.pw) fun σ H Q ⟨φ, ρ, S, r, S', R, L, e, P⟩ => ?_⟩
  have e' : (asT fa ρ S).bind (fun t S2 => if t = true then asT fb ρ S2 else .ok false S2) = .ok r S' := (and_law _ _).symm.trans e
  refine tIT_step R L e' fun t S1 _ e1 φ1 H1 E1 R1 L1 => ?_
  split at e1
  · rename_i ht
    rw [if_pos ht]
    exact ⟨φ1, ρ, S1, r, S', R1, L1, e1, fun φ2 H2 E2 R2 => P φ2 H2 (E1.trans E2) R2⟩
  · rename_i ht
    rw [if_neg ht]
    cases e1
    exact P φ1 H1 E1 R1
theorem pwi_or {rest : List Expr} (ha : PTI X a (asT fa)) (hb : PWI X (.BoolOp .Or (b :: rest) pos) fb) : PWI X (.BoolOp .Or (a :: b :: rest) pos) (fun ρ S => (fa ρ S).bind fun x S1 => (tru x S1).bind fun t S2 => if t = true then .ok x S2 else fb ρ S2) := by
  refine ⟨PW.imp (pw_or ha hb.pw) fun σ H Q ⟨φ, ρ, S, r, S', R, L, e, P⟩ => ?_⟩
  have e' : (asT fa ρ S).bind (fun t S2 => if t = true then .ok true S2 else asT fb ρ S2) = .ok r S' := (or_law _ _).symm.trans e
  refine tIT_step R L e' fun t S1 _ e1 φ1 H1 E1 R1 L1 => ?_
  split at e1
  · rename_i ht
    rw [if_pos ht]
    cases e1
    exact P φ1 H1 E1 R1
  · rename_i ht
    rw [if_neg ht]
    exact ⟨φ1, ρ, S1, r, S', R1, L1, e1, fun φ2 H2 E2 R2 => P φ2 H2 (E1.trans E2) R2⟩
theorem PWI.pti {e : Expr} (h : PWI X e fa) : PTI X e (asT fa) := h.pw.pt
theorem pti_not (ha : PTI X a (asT fa)) : PTI X (.UnaryOp .Not a pos) (asT fun ρ S => (fa ρ S).bind fun x S1 => (tru x S1).bind fun t S2 => .ok (.bl (!t)) S2) := by
  refine PT.imp (pt_not ha) fun σ H Q ⟨φ, ρ, S, r, S', R, L, e, P⟩ => ?_
  have e' : (asT fa ρ S).bind (fun t S2 => .ok (!t) S2) = .ok r S' := (not_law _).symm.trans e
  refine tIT_step R L e' fun t S1 _ e1 φ1 H1 E1 R1 L1 => ?_
  cases e1
  exact P φ1 H1 E1 R1
theorem pti_ite (hd : PTI X d (asT fd)) (ha : PTI X a (asT fa)) (hb : PTI X b (asT fb)) : PTI X (.IfExp d a b pos) (asT fun ρ S => (fd ρ S).bind fun x S1 => (tru x S1).bind fun t S2 => if t = true then fa ρ S2 else fb ρ S2) := by
  refine ⟨fun pins s σ H Q I ⟨φ, ρ, S, r, S', R, L, e, P⟩ => ?_⟩
  have e' : (asT fd ρ S).bind (fun t S2 => if t = true then asT fa ρ S2 else asT fb ρ S2) = .ok r S' := (ite2_law _ _ _).symm.trans e
  refine isTrue_IfExp (thn (hd.run pins s σ H (fun t H1 => if t = true then tIT X.K (asT fa) σ H1 Q else tIT X.K (asT fb) σ H1 Q) I ?_) fun t s1 ⟨H1, I1, q1⟩ => ?_)
  · refine tIT_step R L e' fun t S1 _ e1 φ1 H1 E1 R1 L1 => ?_
    split at e1
    · rename_i ht
      rw [if_pos ht]
      exact ⟨φ1, ρ, S1, r, S', R1, L1, e1, fun φ2 H2 E2 R2 => P φ2 H2 (E1.trans E2) R2⟩
    · rename_i ht
      rw [if_neg ht]
      exact ⟨φ1, ρ, S1, r, S', R1, L1, e1, fun φ2 H2 E2 R2 => P φ2 H2 (E1.trans E2) R2⟩
  · cases t with
    | true => exact ha.run pins s1 σ H1 Q I1 (by simpa using q1)
    | false => exact hb.run pins s1 σ H1 Q I1 (by simpa using q1)
/-! ### displays, subscripts -/
variable {es : List Expr} {fs : Loc → Store → Res (List PV)}
theorem pai_nil : PAI X [] (fun _ S => .ok [] S) := by
  refine PA.imp pa_nil fun σ H Q ⟨φ, ρ, S, r, S', R, L, e, P⟩ => ?_
  cases e
  exact P φ _ H (Ext.refl _ _) R rfl
theorem pai_cons (ha : PEI X a fa) (hr : PAI X es fs) (hs : starEach (a :: es) X.env = (false, eval a X.env) :: starEach es X.env) :
    PAI X (a :: es) (fun ρ S => (fa ρ S).bind fun x S1 => (fs ρ S1).bind fun xs S2 => .ok (x :: xs) S2) := by
  refine PA.imp (pa_cons ha hr hs) fun σ H Q ⟨φ, ρ, S, r, S', R, L, e, P⟩ => ?_
  refine tI_step R L e fun x S1 _ e1 φ1 v1 H1 E1 R1 L1 r1 => ?_
  refine tIA_step R1 L1 e1 fun xs S2 _ e2 φ2 vs H2 E2 R2 L2 r2 => ?_
  cases e2
  exact P φ2 _ H2 (E1.trans E2) R2 ⟨v1, vs, rfl, relV_ext R1 E2 R2 _ _ r1, r2⟩
theorem pei_tup {k : Nat} (h : PAI X es fs) : PEI X (.Tuple es k pos) (fun ρ S => (fs ρ S).bind fun xs S1 => if xs.length ≤ lim then .ok (.tup xs) S1 else .bad) := by
  refine PE.imp (pe_tup h) fun σ H Q ⟨φ, ρ, S, r, S', R, L, e, P⟩ => ?_
  refine tIA_step R L e fun xs S1 _ e1 φ1 vs H1 E1 R1 L1 r1 => ?_
  split at e1
  · rename_i hl
    cases e1
    exact ⟨by rw [← relVs_len r1, lim_eq]; exact hl, (P.ext E1).newTup R1 r1⟩
  · cases e1
theorem pei_lst (h : PAI X es fs) : PEI X (.List es pos) (fun ρ S => (fs ρ S).bind fun xs S1 => if xs.length ≤ lim then .ok (.ref S1.length) (S1 ++ [.lst xs]) else .bad) := by
  refine PE.imp (pe_lst h) fun σ H Q ⟨φ, ρ, S, r, S', R, L, e, P⟩ => ?_
  refine tIA_step R L e fun xs S1 _ e1 φ1 vs H1 E1 R1 L1 r1 => ?_
  split at e1
  · rename_i hl
    cases e1
    exact ⟨by rw [← relVs_len r1, lim_eq]; exact hl, (P.ext E1).newLst R1 r1⟩
  · cases e1
theorem pei_ix (ha : PEI X a fa) (hb : PEI X b fb) (hs : PlainIx b) : PEI X (.Subscript a b pos) (fun ρ S => (fa ρ S).bind fun x S1 => (fb ρ S1).bind fun y S2 => ixV x y S2) := by
  refine PE.imp (pe_ix ix_V ha hb hs) fun σ H Q ⟨φ, ρ, S, r, S', R, L, e, P⟩ => ?_
  refine tI_step R L e fun x S1 _ e1 φ1 v1 H1 E1 R1 L1 r1 => ?_
  refine tI_step R1 L1 e1 fun y S2 _ e2 φ2 v2 H2 E2 R2 L2 r2 => ?_
  exact ⟨φ2, S2, x, y, r, S', R2, relV_ext R1 E2 R2 _ _ r1, r2, e2, P.ext (E1.trans E2)⟩
theorem PO.imp {e : Option Expr} {t t' : TO} (h : PO X e t) (i : ∀ σ H Q, t' σ H Q → t σ H Q) : PO X e t' := ⟨fun pins s σ H Q I q => h.run pins s σ H Q I (i _ _ _ q)⟩
theorem poi_none : POI X none (fun _ S => .ok none S) := by
  refine PO.imp po_none fun σ H Q ⟨φ, ρ, S, r, S', R, L, e, P⟩ => ?_
  cases e
  exact P φ H (Ext.refl _ _) R
theorem poi_some (h : PEI X a fa) : POI X (some a) (fun ρ S => (fa ρ S).bind fun x S1 => partV x S1) := by
  refine PO.imp (po_some h) fun σ H Q ⟨φ, ρ, S, r, S', R, L, e, P⟩ => ?_
  refine tI_step R L e fun x S1 _ e1 φ1 v1 H1 E1 R1 L1 r1 => ?_
  unfold partV at e1
  split at e1
  · cases e1; cases r1; exact ⟨_, rfl, P φ1 H1 E1 R1⟩
  · cases e1
theorem pei_sl {lo hi : Option Expr} {fl fh : Loc → Store → Res (Option Int)} {p2 : Pos} (ha : PEI X a fa) (hl : POI X lo fl) (hh : POI X hi fh) :
    PEI X (.Subscript a (.Slice lo hi none p2) pos) (fun ρ S => (fa ρ S).bind fun x S1 => (fl ρ S1).bind fun l S2 => (fh ρ S2).bind fun h S3 => slV x l h S3) := by
  refine PE.imp (pe_slice sl_V ha hl hh) fun σ H Q ⟨φ, ρ, S, r, S', R, L, e, P⟩ => ?_
  refine tI_step R L e fun x S1 _ e1 φ1 v1 H1 E1 R1 L1 r1 => ?_
  refine tIO_step R1 L1 e1 fun l S2 _ e2 φ2 H2 E2 R2 L2 => ?_
  refine tIO_step R2 L2 e2 fun u S3 _ e3 φ3 H3 E3 R3 L3 => ?_
  exact ⟨φ3, S3, x, r, S', R3, relV_ext R1 (E2.trans E3) R3 _ _ r1, e3, P.ext ((E1.trans E2).trans E3)⟩
/-! ### list(range(..)), tuple(range(..)) -/
theorem rel_map {K : PySem.W.Frag} {φ : List Addr} {H : Hp} {α : Type} {f : α → PV} {g : α → V} (h : ∀ x, relV K φ H (f x) (g x)) : ∀ l : List α, relVs K φ H (l.map f) (l.map g)
  | [] => rfl
  | x :: l => ⟨_, _, rfl, h x, rel_map h l⟩
theorem rg_rel {K : PySem.W.Frag} {φ : List Addr} {H : Hp} (a b : Int) : relVs K φ H (rngL a (b - a).toNat) (rgV a b) := by
  unfold rngL rgV
  exact rel_map (f := fun (k : Nat) => PV.int (a + (k : Int))) (g := fun (i : Nat) => V.int (a + (i : Nat))) (fun _ => rfl) _
theorem lrg_inv {tp : Bool} {l : Option Int} {y r : PV} {S S' : Store} (h : lrgV tp l y S = .ok r S') : ∃ j, y = .int j ∧ RgOk (l.getD 0) j ∧
    ((tp = true ∧ r = .tup (rngL (l.getD 0) (j - l.getD 0).toNat) ∧ S' = S) ∨ (tp = false ∧ r = .ref S.length ∧ S' = S ++ [.lst (rngL (l.getD 0) (j - l.getD 0).toNat)])) := by
  unfold lrgV at h
  split at h
  · rename_i j
    split at h
    · rename_i hc
      have hk : RgOk (l.getD 0) j := by
        obtain ⟨h1, h2, h3, h4, h5⟩ := hc
        unfold big62 at h1 h2 h3 h4
        unfold lim at h5
        exact ⟨by omega, by omega, by omega, by omega, by omega⟩
      refine ⟨j, rfl, hk, ?_⟩
      split at h
      · rename_i ht; cases h; exact .inl ⟨ht, rfl, rfl⟩
      · rename_i ht; cases h; exact .inr ⟨by simpa using ht, rfl, rfl⟩
    · cases h
  · cases h
theorem pei_lrg1 {p p1 pos1 : Pos} {nm : Str} {tp : Bool} (hn : nm = (if tp = true then ("tuple" : Str) else "list")) (hc : X.calm = true) (hg : Gl X nm) (hm : X.mg nm = none) (hgr : Gl X "range") (hmr : X.mg "range" = none) (ha : PEI X a fa) (na : starEach [a] X.env = (false, eval a X.env) :: starEach [] X.env) :
    PEI X (.Call (.Name nm p) [.Call (.Name "range" p1) [a] [] pos1] [] pos) (fun ρ S => (Res.ok none S : Res (Option Int)).bind fun l S1 => (fa ρ S1).bind fun y S2 => lrgV tp l y S2) := by
  cases tp with
  | true =>
    subst hn
    refine PE.imp (pe_tupRg hc hg hm (prg_1 hgr hmr ha na) rfl) fun σ H Q ⟨φ, ρ, S, r, S', R, L, e, P⟩ => ?_
    have e : ((fa ρ S).bind fun y S2 => lrgV true none y S2) = .ok r S' := e
    refine tI_step R L e fun y S2 _ e2 φ2 v2 H2 E2 R2 L2 r2 => ?_
    obtain ⟨j, rfl, hk, hr⟩ := lrg_inv e2
    cases r2
    refine ⟨j, rfl, hk, ?_⟩
    rcases hr with ⟨_, rfl, rfl⟩ | ⟨h, _⟩
    · exact (P.ext E2).newTup R2 (rg_rel _ _)
    · cases h
  | false =>
    subst hn
    refine PE.imp (pe_listRg hc hg hm (prg_1 hgr hmr ha na) rfl) fun σ H Q ⟨φ, ρ, S, r, S', R, L, e, P⟩ => ?_
    have e : ((fa ρ S).bind fun y S2 => lrgV false none y S2) = .ok r S' := e
    refine tI_step R L e fun y S2 _ e2 φ2 v2 H2 E2 R2 L2 r2 => ?_
    obtain ⟨j, rfl, hk, hr⟩ := lrg_inv e2
    cases r2
    refine ⟨j, rfl, hk, ?_⟩
    rcases hr with ⟨h, _⟩ | ⟨_, rfl, rfl⟩
    · cases h
    · exact (P.ext E2).newLst R2 (rg_rel _ _)
theorem pei_lrg2 {p p1 pos1 : Pos} {nm : Str} {tp : Bool} (hn : nm = (if tp = true then ("tuple" : Str) else "list")) (hc : X.calm = true) (hg : Gl X nm) (hm : X.mg nm = none) (hgr : Gl X "range") (hmr : X.mg "range" = none) (ha : PEI X a fa) (hb : PEI X b fb)
    (na : starEach [a, b] X.env = (false, eval a X.env) :: starEach [b] X.env) (nb : starEach [b] X.env = (false, eval b X.env) :: starEach [] X.env) (hp : (backTo pos1 (starEach [b] X.env)).any (·.1) = false) :
    PEI X (.Call (.Name nm p) [.Call (.Name "range" p1) [a, b] [] pos1] [] pos) (fun ρ S => ((fa ρ S).bind fun x S1 => partV x S1).bind fun l S1 => (fb ρ S1).bind fun y S2 => lrgV tp l y S2) := by
  have key : ∀ {σ H Q}, tI X.K (fun ρ S => ((fa ρ S).bind fun x S1 => partV x S1).bind fun l S1 => (fb ρ S1).bind fun y S2 => lrgV tp l y S2) σ H Q →
      tRg2 (tI X.K fa) (tI X.K fb) σ H fun i j H2 => RgOk i j ∧ ∀ q, H2 q = none → Q (.ref q) (upd H2 q (if tp = true then .tup (rgV i j) else .lst (rgV i j))) := by
    intro σ H Q ⟨φ, ρ, S, r, S', R, L, e, P⟩
    have e : ((fa ρ S).bind fun x S1 => ((partV x S1).bind fun l S1 => (fb ρ S1).bind fun y S2 => lrgV tp l y S2)) = .ok r S' := by
      rw [← e]
      show _ = ((fa ρ S).bind fun x S1 => partV x S1).bind _
      cases fa ρ S <;> rfl
    refine tI_step R L e fun x S1 _ e1 φ1 v1 H1 E1 R1 L1 r1 => ?_
    cases x with
    | int i =>
      have e1 : ((fb ρ S1).bind fun y S2 => lrgV tp (some i) y S2) = .ok r S' := e1
      refine tI_step R1 L1 e1 fun y S2 _ e2 φ2 v2 H2 E2 R2 L2 r2 => ?_
      obtain ⟨j, rfl, hk, hr⟩ := lrg_inv e2
      cases r1
      cases r2
      refine ⟨i, j, rfl, rfl, hk, ?_⟩
      rcases hr with ⟨rfl, rfl, rfl⟩ | ⟨rfl, rfl, rfl⟩
      · exact (P.ext (E1.trans E2)).newTup R2 (rg_rel _ _)
      · exact (P.ext (E1.trans E2)).newLst R2 (rg_rel _ _)
    | _ => cases e1
  cases tp with
  | true => subst hn; exact PE.imp (pe_tupRg hc hg hm (prg_2 hgr hmr ha hb na nb hp) rfl) fun σ H Q h => key h
  | false => subst hn; exact PE.imp (pe_listRg hc hg hm (prg_2 hgr hmr ha hb na nb hp) rfl) fun σ H Q h => key h
/-! ### built-in functions and methods -/
theorem pei_callB {x : Str} {p : Pos} {id : String} {g : List PV → Store → Res PV} (hc : CallR X (.builtin id) (rIA X.K g)) (hg : Gl X x) (hm : X.mg x = none) (hv : bootBuiltins x = some (.builtin id)) (ha : PAI X (a :: es) fs)
    (hn : x ≠ "__name__") (hdb : (x == ("__debug__" : Str)) = false) (he : starEach (a :: es) X.env = (false, eval a X.env) :: starEach es X.env) (hpl : (backTo pos (starEach es X.env)).any (·.1) = false) :
    PEI X (.Call (.Name x p) (a :: es) [] pos) (fun ρ S => (fs ρ S).bind fun xs S1 => g xs S1) := by
  refine PE.imp (pe_callB hc hg hm hv ha hn hdb he hpl) fun σ H Q ⟨φ, ρ, S, r, S', R, L, e, P⟩ => ?_
  refine tIA_step R L e fun xs S1 _ e1 φ1 vs H1 E1 R1 L1 r1 => ?_
  exact ⟨φ1, S1, xs, r, S', R1, r1, e1, P.ext E1⟩
theorem pei_callG {x : Str} {p : Pos} {id : String} {g : List PV → Store → Res PV} (hc : CallR X (.builtin id) (rIA X.K g)) (hg : Gl X x) (hm : X.mg x = some (.builtin id)) (ha : PAI X (a :: es) fs) (hdb : (x == ("__debug__" : Str)) = false)
    (he : starEach (a :: es) X.env = (false, eval a X.env) :: starEach es X.env) (hpl : (backTo pos (starEach es X.env)).any (·.1) = false) : PEI X (.Call (.Name x p) (a :: es) [] pos) (fun ρ S => (fs ρ S).bind fun xs S1 => g xs S1) := by
  refine PE.imp (pe_callBfun hc hg hm ha hdb he hpl) fun σ H Q ⟨φ, ρ, S, r, S', R, L, e, P⟩ => ?_
  refine tIA_step R L e fun xs S1 _ e1 φ1 vs H1 E1 R1 L1 r1 => ?_
  exact ⟨φ1, S1, xs, r, S', R1, r1, e1, P.ext E1⟩
theorem pei_callTy {x : Str} {p : Pos} {id : String} {g : List PV → Store → Res PV} (hc : CallR X (.type id) (rIA X.K g)) (hg : Gl X x) (hm : X.mg x = none) (hv : bootBuiltins x = some (.type id)) (ha : PAI X (a :: es) fs)
    (hn : x ≠ "__name__") (hdb : (x == ("__debug__" : Str)) = false) (he : starEach (a :: es) X.env = (false, eval a X.env) :: starEach es X.env) (hpl : (backTo pos (starEach es X.env)).any (·.1) = false) :
    PEI X (.Call (.Name x p) (a :: es) [] pos) (fun ρ S => (fs ρ S).bind fun xs S1 => g xs S1) := by
  refine PE.imp (pe_callTy hc hg hm hv ha hn hdb he hpl) fun σ H Q ⟨φ, ρ, S, r, S', R, L, e, P⟩ => ?_
  refine tIA_step R L e fun xs S1 _ e1 φ1 vs H1 E1 R1 L1 r1 => ?_
  exact ⟨φ1, S1, xs, r, S', R1, r1, e1, P.ext E1⟩
/-- a method of a built-in type -/
def Ty.nm : Ty → String
  | .none => "NoneType" | .bool => "bool" | .int => "int" | .str => "str" | .tuple => "tuple" | .list => "list" | .dict => "dict"
theorem tyV_of {K : PySem.W.Frag} {φ : List Addr} {H : Hp} {S : Store} {x : PV} {v : V} {t : Ty} (R : Rel K φ H S) (r : relV K φ H x v) (h : tyOf S x = some t) (ht : t = .list ∨ t = .str) : tyV K t.nm v H := by
  cases x with
  | str z => cases h; cases r; rfl
  | ltc xs => cases h; obtain ⟨a, vs, rfl, h1, _⟩ := r; exact .inl ⟨rfl, vs, h1.sq⟩
  | ref n =>
    simp only [tyOf] at h
    split at h
    · rename_i xs hs
      cases h
      obtain ⟨a, vs, rfl, _, h1, _⟩ := R.lst hs r
      exact .inl ⟨rfl, vs, SqL.of h1⟩
    · cases h
  | non => cases h; rcases ht with h | h <;> cases h
  | bl _ => cases h; rcases ht with h | h <;> cases h
  | int _ => cases h; rcases ht with h | h <;> cases h
  | tup _ => cases h; rcases ht with h | h <;> cases h
theorem pei_mt {o : Expr} {fo : Loc → Store → Res PV} {name : Str} {apos cpos : Pos} {T : Ty} {id : String} {g : PV → List PV → Store → Res PV} (pa : PlainAttrs T.nm) (slot : Slot T.nm name id) (hty : typeOf (.builtin id) = pure (.type "method_descriptor"))
    (hm : MtR X id (rIM X.K g)) (ho : PEI X o fo) (ha : PAI X (a :: es) fs) (hT : T = .list ∨ T = .str)
    (hbase : attributeBase o name X.env (eval o X.env) = eval o X.env)
    (hfew : ((backTo cpos (starEach (a :: es) X.env)).all (fun x => !x.1) && (backToKw cpos (keywordEach [] X.env)).all (fun x => x.1.isSome)
      && decide ((a :: es).length + ([] : List Keyword).length + (if ([] : List Keyword).isEmpty then 0 else 1) < 30)) = true)
    (hline : (apos.endLine == cpos.line) = true) (hs : starEach (a :: es) X.env = (false, eval a X.env) :: starEach es X.env) (hplain : (backTo cpos (starEach es X.env)).any (·.1) = false) :
    PEI X (.Call (.Attribute o name apos) (a :: es) [] cpos) (fun ρ S => (fo ρ S).bind fun x S1 => if tyOf S1 x = some T then (fs ρ S1).bind fun xs S2 => g x xs S2 else .bad) := by
  refine PE.imp (pe_bm pa slot hty hm ho ha hbase hfew hline hs hplain) fun σ H Q ⟨φ, ρ, S, r, S', R, L, e, P⟩ => ?_
  refine tI_step R L e fun x S1 _ e1 φ1 v1 H1 E1 R1 L1 r1 => ?_
  split at e1
  · rename_i ht
    refine ⟨tyV_of R1 r1 ht hT, ?_⟩
    refine tIA_step R1 L1 e1 fun xs S2 _ e2 φ2 vs H2 E2 R2 L2 r2 => ?_
    exact ⟨φ2, S2, x, xs, r, S', R2, relV_ext R1 E2 R2 _ _ r1, r2, e2, P.ext (E1.trans E2)⟩
  · cases e1
theorem pei_mt0 {o : Expr} {fo : Loc → Store → Res PV} {name : Str} {apos cpos : Pos} {T : Ty} {id : String} {g : PV → List PV → Store → Res PV} (pa : PlainAttrs T.nm) (slot : Slot T.nm name id) (hty : typeOf (.builtin id) = pure (.type "method_descriptor"))
    (hm : MtR X id (rIM X.K g)) (ho : PEI X o fo) (hT : T = .list ∨ T = .str)
    (hbase : attributeBase o name X.env (eval o X.env) = eval o X.env) (hline : (apos.endLine == cpos.line) = true) :
    PEI X (.Call (.Attribute o name apos) [] [] cpos) (fun ρ S => (fo ρ S).bind fun x S1 => if tyOf S1 x = some T then (Res.ok [] S1).bind fun xs S2 => g x xs S2 else .bad) := by
  refine PE.imp (pe_bm0 pa slot hty hm ho hbase hline) fun σ H Q ⟨φ, ρ, S, r, S', R, L, e, P⟩ => ?_
  refine tI_step R L e fun x S1 _ e1 φ1 v1 H1 E1 R1 L1 r1 => ?_
  split at e1
  · rename_i ht
    exact ⟨tyV_of R1 r1 ht hT, φ1, S1, x, [], r, S', R1, r1, rfl, e1, P.ext E1⟩
  · cases e1
/-! ### isinstance -/
theorem tyX_of {K : PySem.W.Frag} {φ : List Addr} {H : Hp} {S : Store} {x : PV} {v : V} {t : Ty} (R : Rel K φ H S) (r : relV K φ H x v) (h : tyOf S x = some t) : TyX K H v (.type t.nm) := by
  cases x with
  | non => cases h; cases r; exact .base .non
  | bl b => cases h; cases r; exact .base (.bl _)
  | int i => cases h; cases r; exact .base (.int _)
  | str z => cases h; cases r; exact .base (.str _)
  | tup xs =>
    cases h
    obtain ⟨a, vs, rfl, h1, _⟩ := r
    rcases h1 with (h1 | ⟨o, h1⟩) | ⟨o, its, n, h1, h2, _⟩
    · exact .base (.tup h1)
    · exact .fTuple h1
    · exact .kTuple h1 h2
  | ltc xs =>
    cases h
    obtain ⟨a, vs, rfl, h1, _⟩ := r
    rcases h1 with ⟨o, h1⟩ | (h1 | ⟨o, h1⟩) | ⟨o, its, n, h1, h2, _⟩
    · exact .base (.frz h1)
    · cases h1
    · cases h1
    · exact .kList h1 h2
  | ref n =>
    simp only [tyOf] at h
    split at h
    · rename_i xs hs
      cases h
      obtain ⟨a, vs, rfl, _, h1, _⟩ := R.lst hs r
      exact .base (.lst h1)
    · cases h
theorem kit_isa (a b : Ty) : kitB a.nm b.nm = some (isaT a b) := by
  cases a <;> cases b <;> decide +kernel
theorem kitOne_isa {K : PySem.W.Frag} (a b : Ty) : PySem.W.kitOne K (.type a.nm) (.type b.nm) = some (isaT a b) := kit_ty (kit_isa a b)
theorem kitAny_isa {K : PySem.W.Frag} (a : Ty) : ∀ ts : List Ty, PySem.W.kitAny K (.type a.nm) (ts.map fun t => .type t.nm) = some (ts.any (isaT a))
  | [] => kitAny_nil
  | t :: ts => kitAny_cons (kitOne_isa a t) (fun h => by rw [List.any_cons, h, Bool.false_or]; exact kitAny_isa a ts) (fun h => by rw [List.any_cons, h]; rfl)
/-- a name of a built-in type -/
structure TyName (X : Cx) (x : Str) (t : Ty) : Prop where
  gl : Gl X x
  mg : X.mg x = none
  bt : bootBuiltins x = some (.type t.nm)
  n1 : x ≠ "__name__"
  n2 : (x == ("__debug__" : Str)) = false
theorem TyName.pe {x : Str} {t : Ty} {p : Pos} (h : TyName X x t) : PE X (.Name x p) (tC (.ty t.nm)) := pe_bltn h.gl h.mg h.bt rfl h.n1 h.n2
theorem pei_isi1 {p p1 : Pos} {x : Str} {t : Ty} (ha : PEI X a fa) (hx : TyName X x t) (hg : Gl X "isinstance") (hm : X.mg "isinstance" = none) (hs : starEach [a, .Name x p1] X.env = (false, eval a X.env) :: starEach [.Name x p1] X.env) :
    PEI X (.Call (.Name "isinstance" p) [a, .Name x p1] [] pos) (fun ρ S => (fa ρ S).bind fun x S1 => isiF [t] x S1) := by
  refine PE.imp (pe_callB call_isi hg hm boot_isinstance (pa_cons ha (pa_cons hx.pe pa_nil) hs) (by decide) (by decide) hs (by rfl)) fun σ H Q ⟨φ, ρ, S, r, S', R, L, e, P⟩ => ?_
  refine tI_step R L e fun x S1 _ e1 φ1 v1 H1 E1 R1 L1 r1 => ?_
  unfold isiF at e1
  split at e1
  · rename_i t1 ht
    cases e1
    refine ⟨v1, .ty t.nm, _, _, isaT t1 t, rfl, .ty _, tyX_of R1 r1 ht, kitOne_isa _ _, ?_⟩
    have : List.any [t] (isaT t1) = isaT t1 t := by simp
    rw [this] at P
    exact P φ1 _ H1 E1 R1 rfl
  · cases e1
/-- types in a row -/
inductive TyNames (X : Cx) : List Expr → List Ty → Prop where
  | nil : TyNames X [] []
  | cons {x : Str} {p : Pos} {t : Ty} {es : List Expr} {ts : List Ty} : TyName X x t → TyNames X es ts → TyNames X (.Name x p :: es) (t :: ts)
theorem tyNames_pa : ∀ {es : List Expr} {ts : List Ty}, TyNames X es ts → PA X es (fun _ H Q => Q (ts.map fun t => .ty t.nm) H)
  | _, _, .nil => pa_nil
  | _, _, .cons h hs => PA.imp (pa_cons h.pe (tyNames_pa hs)) fun _ _ _ q => q
theorem clsV_all : ∀ ts : List Ty, Paired ClsV (ts.map fun t => V.ty t.nm) (ts.map fun t => Value.type t.nm)
  | [] => .nil
  | t :: ts => .cons (.ty _) (clsV_all ts)
theorem pei_isiT {p p1 : Pos} {k : Nat} {ns : List Expr} {ts : List Ty} (ha : PEI X a fa) (hx : TyNames X ns ts) (hl : ts.length ≤ 10) (hg : Gl X "isinstance") (hm : X.mg "isinstance" = none) (hs : starEach [a, .Tuple ns k p1] X.env = (false, eval a X.env) :: starEach [.Tuple ns k p1] X.env) :
    PEI X (.Call (.Name "isinstance" p) [a, .Tuple ns k p1] [] pos) (fun ρ S => (fa ρ S).bind fun x S1 => isiF ts x S1) := by
  refine PE.imp (pe_callB call_isiT hg hm boot_isinstance (pa_cons ha (pa_cons (pe_tup (tyNames_pa hx)) pa_nil) hs) (by decide) (by decide) hs (by rfl)) fun σ H Q ⟨φ, ρ, S, r, S', R, L, e, P⟩ => ?_
  refine tI_step R L e fun x S1 _ e1 φ1 v1 H1 E1 R1 L1 r1 => ?_
  refine ⟨by rw [List.length_map, lim_eq]; unfold lim; omega, fun q hq => ?_⟩
  unfold isiF at e1
  split at e1
  · rename_i t1 ht
    cases e1
    have n1 : ∀ w u, H1 q ≠ some (.frz w u) := by rw [hq]; intro _ _ z; cases z
    have n2 : ∀ ws, H1 q ≠ some (.tup ws) := by rw [hq]; intro _ z; cases z
    refine ⟨v1, q, _, _, _, ts.any (isaT t1), rfl, upd_same, clsV_all ts, tyX_of (R1.laid hq _) (relV_upd n1 n2 r1) ht, kitAny_isa _ _, ?_⟩
    exact P φ1 _ _ (E1.trans (Ext.laid hq _)) (R1.laid hq _) rfl
  · cases e1
/-! ### calls of defs -/
def spI (K : PySem.W.Frag) (n : Nat) (g : List PV → Store → Res PV) : Sp := fun vs H Q _ => vs.length = n ∧ ∃ φ S xs r S', Rel K φ H S ∧ relVs K φ H xs vs ∧ g xs S = .ok r S' ∧ Post K φ H Q r S'
/-- how many arguments -/
def Takes1 (n : Nat) (g : List PV → Store → Res PV) : Prop := ∀ xs S r S', g xs S = .ok r S' → xs.length = n
theorem pei_call {k n : Nat} {f : Addr} {fd : FuncData} {ps : List Str} {g : List PV → Store → Res PV} {x : Str} {p : Pos} (F : FnOk X.prog X.w X.K X.mg X.base CX0 k f fd ps (spI X.K n g)) (hl : Takes1 n g) (hr : Room k X.A) (hg : Gl X x) (hm : X.mg x = some (.ref f))
    (hk : PySem.W.keepIn X.K (.ref f) = true) (hb : Binds X.K fd ps []) (ha : PAI X (a :: es) fs) (hdb : (x == ("__debug__" : Str)) = false)
    (he : starEach (a :: es) X.env = (false, eval a X.env) :: starEach es X.env) (hpl : (backTo pos (starEach es X.env)).any (·.1) = false) :
    PEI X (.Call (.Name x p) (a :: es) [] pos) (fun ρ S => (fs ρ S).bind fun xs S1 => g xs S1) := by
  refine PE.imp (pe_call F hr hg hm hk hb .nil pass0 ha hdb he hpl) fun σ H Q ⟨φ, ρ, S, r, S', R, L, e, P⟩ => ?_
  refine tIA_step R L e fun xs S1 _ e1 φ1 vs H1 E1 R1 L1 r1 => ?_
  rw [List.append_nil]
  exact ⟨by rw [← relVs_len r1]; exact hl _ _ _ _ e1, φ1, S1, xs, r, S', R1, r1, e1, P.ext E1⟩
theorem pei_call0 {k n : Nat} {f : Addr} {fd : FuncData} {ps : List Str} {g : List PV → Store → Res PV} {x : Str} {p : Pos} (F : FnOk X.prog X.w X.K X.mg X.base CX0 k f fd ps (spI X.K n g)) (hl : Takes1 n g) (hr : Room k X.A) (hg : Gl X x) (hm : X.mg x = some (.ref f))
    (hk : PySem.W.keepIn X.K (.ref f) = true) (hb : Binds X.K fd ps []) (hdb : (x == ("__debug__" : Str)) = false) :
    PEI X (.Call (.Name x p) [] [] pos) (fun ρ S => (Res.ok [] S).bind fun xs S1 => g xs S1) := by
  refine PE.imp (pe_call0 F hr hg hm hk hb .nil pass0 hdb) fun σ H Q ⟨φ, ρ, S, r, S', R, L, e, P⟩ => ?_
  exact ⟨hl _ _ _ _ e, φ, S, [], r, S', R, rfl, e, P⟩
/-! keywords: all parameters, in their order -/
def KB (fd : FuncData) (ps : List Str) : Prop := ∀ (s : Shared) (ws : List Value), ws.length = ps.length → BindsTo s fd ⟨[], ps.zip ws⟩ (ps.zip ws)
theorem PK.imp {kws : List Keyword} {t t' : TA} (h : PK X kws t) (i : ∀ σ H Q, t' σ H Q → t σ H Q) : PK X kws t' := ⟨fun pos pins s σ H Q I q => h.run pos pins s σ H Q I (i _ _ _ q)⟩
theorem pki_nil : PK X [] (tIA X.K (fun _ S => .ok [] S)) := by
  refine PK.imp pk_nil fun σ H Q ⟨φ, ρ, S, r, S', R, L, e, P⟩ => ?_
  cases e
  exact P φ _ H (Ext.refl _ _) R rfl
theorem pki_cons {kws : List Keyword} {nm : Option Str} {kp : Pos} (ha : PEI X a fa) (hr : PK X kws (tIA X.K fs)) :
    PK X (⟨nm, a, kp⟩ :: kws) (tIA X.K (fun ρ S => (fa ρ S).bind fun x S1 => (fs ρ S1).bind fun xs S2 => .ok (x :: xs) S2)) := by
  refine PK.imp (pk_cons ha hr) fun σ H Q ⟨φ, ρ, S, r, S', R, L, e, P⟩ => ?_
  refine tI_step R L e fun x S1 _ e1 φ1 v1 H1 E1 R1 L1 r1 => ?_
  refine tIA_step R1 L1 e1 fun xs S2 _ e2 φ2 vs H2 E2 R2 L2 r2 => ?_
  cases e2
  exact P φ2 _ H2 (E1.trans E2) R2 ⟨v1, vs, rfl, relV_ext R1 E2 R2 _ _ r1, r2⟩
theorem kw_all {env : Env} : ∀ {kws : List Keyword} {ps : List Str}, kws.map (·.arg) = ps.map some → (backToKw pos (keywordEach kws env)).all (·.1.isSome) = true ∧ (backToKw pos (keywordEach kws env)).filterMap (·.1) = ps ∧ (backToKw pos (keywordEach kws env)).any (·.1.isNone) = false
  | [], ps, h => by
    cases ps with
    | nil => exact ⟨rfl, rfl, rfl⟩
    | cons _ _ => cases h
  | ⟨nm, e, kp⟩ :: kws, ps, h => by
    cases ps with
    | nil => cases h
    | cons q ps =>
      rw [List.map_cons, List.map_cons] at h
      obtain ⟨h1, h2⟩ := List.cons.inj h
      obtain ⟨g1, g2, g3⟩ := kw_all (kws := kws) h2
      have h1 : nm = some q := h1
      subst h1
      refine ⟨?_, ?_, ?_⟩
      · show (true && (backToKw pos (keywordEach kws env)).all (·.1.isSome)) = true
        rw [g1]; rfl
      · show q :: (backToKw pos (keywordEach kws env)).filterMap (·.1) = _
        rw [g2]
      · show (false || (backToKw pos (keywordEach kws env)).any (·.1.isNone)) = false
        rw [g3]; rfl
theorem pei_callK0 {k : Nat} {f : Addr} {fd : FuncData} {ps : List Str} {g : List PV → Store → Res PV} {x : Str} {p : Pos} {kws : List Keyword} (F : FnOk X.prog X.w X.K X.mg X.base CX0 k f fd ps (spI X.K ps.length g)) (hl : Takes1 ps.length g) (hr : Room k X.A) (hg : Gl X x) (hm : X.mg x = some (.ref f))
    (hk : PySem.W.keepIn X.K (.ref f) = true) (hb : KB fd ps) (hkw : PK X kws (tIA X.K fs)) (hks : kws.map (·.arg) = ps.map some) (hdb : (x == ("__debug__" : Str)) = false) :
    PEI X (.Call (.Name x p) [] kws pos) (fun ρ S => (fs ρ S).bind fun xs S1 => g xs S1) := by
  obtain ⟨k1, k2, k3⟩ := kw_all (pos := pos) (env := X.env) hks
  refine ⟨fun pins s σ H Q I ⟨φ, ρ, S, r, S', R, L, e, P⟩ => ?_⟩
  refine wpAny_Call_Name_kw (ld_glob I hg hm ?_ hdb)
  refine PySem.W.callWith_KW0 (h₀ := X.base) I.ok.mod.kin hk k1 ?_ (by rw [k3]; rfl)
  refine thn (hkw.run pos pins s σ H (fun vs H1 => spI X.K ps.length g vs H1 Q (fun _ _ _ => False)) I ?_) fun ws s2 ⟨zs, H2, I2, rz, q2⟩ => ⟨I2.kIn, ?_⟩
  · refine tIA_step R L e fun xs S1 _ e1 φ1 vs H1 E1 R1 L1 r1 => ?_
    exact ⟨by rw [← relVs_len r1]; exact hl _ _ _ _ e1, φ1, S1, xs, r, S', R1, r1, e1, P.ext E1⟩
  · rw [k2]
    have hl2 : ws.length = ps.length := by rw [← rz.length]; exact q2.1
    refine wpAny_call (codeAny_mono (F.run X.A X.stack s2 H2 ⟨[], ps.zip ws⟩ ws zs Q (fun _ _ _ => False) hr I2.env0 (hb s2 ws hl2) rz q2) fun r s' hq => ?_)
    cases r with
    | error e => exact hq.elim
    | ok fl =>
      cases fl with
      | ret u => exact I2.after hq
      | next => exact False.elim hq
      | brk => exact False.elim hq
      | cont => exact False.elim hq
end
end Mp

/-! Mp6: what is walked, patterns, comprehensions, statements. -/
namespace Mp
open PySem PySem.Spec PyProof.Rows L2

/-! ### iterators -/
structure IrOk (K : PySem.W.Frag) (φ : List Addr) (H : Hp) (r : Ir) (J : L2.It) : Prop where
  go : ∀ φ2 H2 S2 i x, Ext φ H φ2 H2 → Rel K φ2 H2 S2 → r.get S2 i = some x → J.go i H2 ∧ ∀ v H3, J.yld i H2 v H3 → Ext φ2 H2 φ2 H3 ∧ Rel K φ2 H3 S2 ∧ relV K φ2 H3 x v
  stop : ∀ φ2 H2 S2 i, Ext φ H φ2 H2 → Rel K φ2 H2 S2 → r.fin S2 i = true → J.stop i H2
def tII (K : PySem.W.Frag) (f : Loc → Store → Res Ir) : TI := fun σ H Q => ∃ φ ρ S r S', Rel K φ H S ∧ RelL K φ H ρ σ ∧ f ρ S = .ok r S' ∧
  ∀ (φ' : List Addr) (H' : Hp) (J : L2.It), Ext φ H φ' H' → Rel K φ' H' S' → IrOk K φ' H' r J → Q J H'
abbrev PII (X : Cx) (tg it : Expr) (f : Loc → Store → Res Ir) : Prop := PI X tg it (tII X.K f)
theorem irok_tup {K : PySem.W.Frag} {φ : List Addr} {H : Hp} {S : Store} {xs : List PV} {a : Addr} {vs : List V} (R : Rel K φ H S) (h1 : SqT K H a vs) (h2 : relVs K φ H xs vs) : IrOk K φ H (.vals xs) (Itt K a) where
  go := fun φ2 H2 S2 i x E R2 e => by
    have q := sqT_ext R E h1
    obtain ⟨v, hv, r⟩ := relVs_get (relVs_ext R E R2 _ _ h2) e
    refine ⟨⟨vs, v, q, hv⟩, fun w H3 ⟨e3, hy⟩ => ?_⟩
    subst e3
    have := hy vs q
    rw [hv] at this; cases this
    exact ⟨Ext.refl _ _, R2, r⟩
  stop := fun φ2 H2 S2 i E R2 e => ⟨vs, sqT_ext R E h1, by rw [← relVs_len h2]; exact of_decide_eq_true e⟩
theorem imL_ext {K : PySem.W.Frag} {φ φ' : List Addr} {H H' : Hp} {S : Store} (R : Rel K φ H S) (E : Ext φ H φ' H') {a : Addr} {vs : List V} (h : imL K H a vs) : imL K H' a vs := by
  rcases h with ⟨o, h1⟩ | h1
  · exact .inl ⟨o, E.keep a _ h1 fun m => by obtain ⟨ws, e⟩ := R.mem_lst m; rw [h1] at e; cases e⟩
  · exact .inr h1
theorem irok_ltc {K : PySem.W.Frag} {φ : List Addr} {H : Hp} {S : Store} {xs : List PV} {a : Addr} {vs : List V} (R : Rel K φ H S) (h1 : imL K H a vs) (h2 : relVs K φ H xs vs) : IrOk K φ H (.vals xs) (Itl K a) where
  go := fun φ2 H2 S2 i x E R2 e => by
    have q := (imL_ext R E h1).sq
    obtain ⟨v, hv, r⟩ := relVs_get (relVs_ext R E R2 _ _ h2) e
    refine ⟨⟨vs, v, q, hv⟩, fun w H3 ⟨e3, hy⟩ => ?_⟩
    subst e3
    have := hy vs q
    rw [hv] at this; cases this
    exact ⟨Ext.refl _ _, R2, r⟩
  stop := fun φ2 H2 S2 i E R2 e => ⟨vs, (imL_ext R E h1).sq, by rw [← relVs_len h2]; exact of_decide_eq_true e⟩
theorem irok_live {K : PySem.W.Frag} {φ : List Addr} {H : Hp} {n : Nat} {a : Addr} (h1 : φ[n]? = some a) : IrOk K φ H (.live n) (Itl K a) := by
  have at2 : ∀ {φ2 H2}, Ext φ H φ2 H2 → φ2[n]? = some a := fun {φ2 H2} E => by
    obtain ⟨t, rfl⟩ := E.pre
    rw [List.getElem?_append_left (List.getElem?_eq_some_iff.mp h1).1]; exact h1
  refine ⟨fun φ2 H2 S2 i x E R2 e => ?_, fun φ2 H2 S2 i E R2 e => ?_⟩
  · simp only [Ir.get] at e
    split at e
    · rename_i xs hs
      obtain ⟨vs, e1, r1⟩ := R2.obj n a _ (at2 E) hs
      obtain ⟨v, hv, r⟩ := relVs_get r1 e
      refine ⟨⟨vs, v, SqL.of e1, hv⟩, fun w H3 ⟨e3, hy⟩ => ?_⟩
      subst e3
      have := hy vs (SqL.of e1)
      rw [hv] at this; cases this
      exact ⟨Ext.refl _ _, R2, r⟩
    · cases e
  · simp only [Ir.fin] at e
    split at e
    · rename_i xs hs
      obtain ⟨vs, e1, r1⟩ := R2.obj n a _ (at2 E) hs
      exact ⟨vs, SqL.of e1, by rw [← relVs_len r1]; exact of_decide_eq_true e⟩
    · cases e
theorem irok_str {K : PySem.W.Frag} {φ : List Addr} {H : Hp} {z : List Nat} : IrOk K φ H (.vals (strIt z)) (Its ⟨z.toArray⟩) where
  go := fun φ2 H2 S2 i x E R2 e => by
    have e : (strIt z)[i]? = some x := e
    unfold strIt at e
    rw [List.getElem?_map] at e
    obtain ⟨c, hc, rfl⟩ := Option.map_eq_some_iff.mp e
    have hl : i < z.length := (List.getElem?_eq_some_iff.mp hc).1
    refine ⟨by show i < z.toArray.size; simpa using hl, fun w H3 ⟨e3, d, hd, hw⟩ => ?_⟩
    subst e3
    have hd : z.toArray[i]? = some d := hd
    rw [List.getElem?_toArray, hc] at hd
    cases hd
    exact ⟨Ext.refl _ _, R2, hw⟩
  stop := fun φ2 H2 S2 i E R2 e => by
    have := of_decide_eq_true e
    show z.toArray.size ≤ i
    unfold strIt at this
    simpa using this
theorem pii_e {X : Cx} {tg a : Expr} {fa : Loc → Store → Res PV} (ha : PEI X a fa) : PII X tg a (fun ρ S => (fa ρ S).bind fun x S1 => iterV x S1) := by
  refine ⟨fun pins s σ H Q I ⟨φ, ρ, S, r, S', R, L, e, k⟩ => ?_⟩
  obtain ⟨x, S1, e1, e2⟩ := bind_inv e
  unfold iterV at e2
  split at e2
  · cases e2
    refine (pi_tup ha).run pins s σ H Q I ⟨φ, ρ, S, _, _, R, L, e1, fun φ1 v1 H1 E1 R1 r1 => ?_⟩
    obtain ⟨a, vs, rfl, h1, h2⟩ := r1
    exact ⟨a, rfl, ⟨vs, h1⟩, k φ1 H1 _ E1 R1 (irok_tup R1 h1 h2)⟩
  · cases e2
    refine (pi_list ha).run pins s σ H Q I ⟨φ, ρ, S, _, _, R, L, e1, fun φ1 v1 H1 E1 R1 r1 => ?_⟩
    obtain ⟨a, vs, rfl, h1, h2⟩ := r1
    exact ⟨a, rfl, ⟨vs, h1.sq⟩, k φ1 H1 _ E1 R1 (irok_ltc R1 h1 h2)⟩
  · cases e2
    refine (pi_str ha).run pins s σ H Q I ⟨φ, ρ, S, _, _, R, L, e1, fun φ1 v1 H1 E1 R1 r1 => ?_⟩
    cases r1
    exact ⟨_, rfl, k φ1 H1 _ E1 R1 irok_str⟩
  · cases e2
    refine (pi_list ha).run pins s σ H Q I ⟨φ, ρ, S, _, _, R, L, e1, fun φ1 v1 H1 E1 R1 r1 => ?_⟩
    obtain ⟨a, rfl, h1⟩ := r1
    obtain ⟨o, _, ho⟩ := R1.get h1
    cases o with
    | lst xs =>
      obtain ⟨vs, h2, _⟩ := ho
      exact ⟨a, rfl, ⟨vs, SqL.of h2⟩, k φ1 H1 _ E1 R1 (irok_live h1)⟩
  · cases e2
theorem irok_rng {K : PySem.W.Frag} {φ : List Addr} {H : Hp} {lo : Int} {n : Nat} : IrOk K φ H (.vals (rngL lo n)) (Itr lo n) where
  go := fun φ2 H2 S2 i x E R2 e => by
    have e : (rngL lo n)[i]? = some x := e
    unfold rngL at e
    rw [List.getElem?_map] at e
    obtain ⟨c, hc, rfl⟩ := Option.map_eq_some_iff.mp e
    obtain ⟨hl, hv⟩ := List.getElem?_eq_some_iff.mp hc
    rw [List.getElem_range] at hv
    subst hv
    refine ⟨by show i < n; simpa using hl, fun w H3 ⟨e3, hw⟩ => ?_⟩
    subst e3
    exact ⟨Ext.refl _ _, R2, hw⟩
  stop := fun φ2 H2 S2 i E R2 e => by
    have := of_decide_eq_true e
    show n ≤ i
    unfold rngL at this
    simpa using this
theorem irok_rngD {K : PySem.W.Frag} {φ : List Addr} {H : Hp} {lo : Int} {n : Nat} : IrOk K φ H (.vals (rngD lo n)) (Itc lo (-1) n) where
  go := fun φ2 H2 S2 i x E R2 e => by
    have e : (rngD lo n)[i]? = some x := e
    unfold rngD at e
    rw [List.getElem?_map] at e
    obtain ⟨c, hc, rfl⟩ := Option.map_eq_some_iff.mp e
    obtain ⟨hl, hv⟩ := List.getElem?_eq_some_iff.mp hc
    rw [List.getElem_range] at hv
    subst hv
    refine ⟨by show i < n; simpa using hl, fun w H3 ⟨e3, hw⟩ => ?_⟩
    subst e3
    refine ⟨Ext.refl _ _, R2, ?_⟩
    rw [hw]
    show V.int _ = V.int _
    congr 1
    omega
  stop := fun φ2 H2 S2 i E R2 e => by
    have := of_decide_eq_true e
    show n ≤ i
    unfold rngD at this
    simpa using this
section
variable {X : Cx} {tg a b d : Expr} {pos p : Pos} {fs : Loc → Store → Res (List PV)}
theorem big62_eq : big62 = 2 ^ 62 := by decide +kernel
theorem pii_rng1 (hg : Gl X "range") (hm : X.mg "range" = none) (ha : PAI X [a] fs) (hs : starEach [a] X.env = [(false, eval a X.env)]) : PII X tg (.Call (.Name "range" p) [a] [] pos) (fun ρ S => (fs ρ S).bind fun xs S1 => if xs.length = 1 then rngV xs S1 else .bad) := by
  refine ⟨fun pins s σ H Q I ⟨φ, ρ, S, r, S', R, L, e, k⟩ => ?_⟩
  refine (pi_range1 hg hm ha hs).run pins s σ H Q I ?_
  refine tIA_step R L e fun xs S1 _ e1 φ1 vs H1 E1 R1 L1 r1 => ?_
  split at e1
  · unfold rngV at e1
    split at e1
    · split at e1
      · rename_i hb
        cases e1
        obtain ⟨v, rfl, r2⟩ := rel1 r1
        cases r2
        rw [big62_eq] at hb
        exact ⟨_, rfl, hb.1, hb.2, k φ1 H1 _ E1 R1 irok_rng⟩
      · cases e1
    · rename_i hl; simp at hl
    · rename_i hl; simp at hl
    · cases e1
  · cases e1
theorem pii_rng2 (hg : Gl X "range") (hm : X.mg "range" = none) (ha : PAI X [a, b] fs) (hs : starEach [a, b] X.env = [(false, eval a X.env), (false, eval b X.env)]) (hs2 : starEach [b] X.env = [(false, eval b X.env)]) : PII X tg (.Call (.Name "range" p) [a, b] [] pos) (fun ρ S => (fs ρ S).bind fun xs S1 => if xs.length = 2 then rngV xs S1 else .bad) := by
  refine ⟨fun pins s σ H Q I ⟨φ, ρ, S, r, S', R, L, e, k⟩ => ?_⟩
  refine (pi_range2 hg hm ha hs hs2).run pins s σ H Q I ?_
  refine tIA_step R L e fun xs S1 _ e1 φ1 vs H1 E1 R1 L1 r1 => ?_
  split at e1
  · unfold rngV at e1
    split at e1
    · rename_i hl; simp at hl
    · split at e1
      · rename_i hb
        cases e1
        obtain ⟨v, w, rfl, r2, r3⟩ := rel2 r1
        cases r2; cases r3
        rw [big62_eq] at hb
        exact ⟨_, _, rfl, hb, k φ1 H1 _ E1 R1 irok_rng⟩
      · cases e1
    · rename_i hl; simp at hl
    · cases e1
  · cases e1
theorem rel3 {K : PySem.W.Frag} {φ : List Addr} {H : Hp} {x y z : PV} {vs : List V} (h : relVs K φ H [x, y, z] vs) : ∃ v w u, vs = [v, w, u] ∧ relV K φ H x v ∧ relV K φ H y w ∧ relV K φ H z u := by
  obtain ⟨v, ws, rfl, h1, h2⟩ := h; obtain ⟨w, u, rfl, h3, h4⟩ := rel2 h2; exact ⟨v, w, u, rfl, h1, h3, h4⟩
theorem pii_rng3 (hg : Gl X "range") (hm : X.mg "range" = none) (ha : PAI X [a, b, d] fs) (hs : starEach [a, b, d] X.env = (false, eval a X.env) :: starEach [b, d] X.env) (hpl : (backTo pos (starEach [b, d] X.env)).any (·.1) = false) :
    PII X tg (.Call (.Name "range" p) [a, b, d] [] pos) (fun ρ S => (fs ρ S).bind fun xs S1 => if xs.length = 3 then rngV xs S1 else .bad) := by
  refine ⟨fun pins s σ H Q I ⟨φ, ρ, S, r, S', R, L, e, k⟩ => ?_⟩
  refine (pi_range3 hg hm ha hs hpl).run pins s σ H Q I ?_
  refine tIA_step R L e fun xs S1 _ e1 φ1 vs H1 E1 R1 L1 r1 => ?_
  split at e1
  · unfold rngV at e1
    split at e1
    · rename_i hl; simp at hl
    · rename_i hl; simp at hl
    · split at e1
      · rename_i hb
        cases e1
        obtain ⟨v, w, u, rfl, r2, r3, r4⟩ := rel3 r1
        cases r2; cases r3; cases r4
        rw [big62_eq] at hb
        obtain ⟨rfl, h1, h2, h3, h4⟩ := hb
        exact ⟨_, _, _, _, rfl, RgC.neg h1 h2 h3 h4, k φ1 H1 _ E1 R1 irok_rngD⟩
      · cases e1
    · cases e1
  · cases e1
end
/-! ### patterns -/
theorem wipe_get (σ : L2.St) : ∀ (vs : List Nat) (j : Nat), (wipe σ vs)[j]? = if j ∈ vs then (σ[j]?).map (fun _ => none) else σ[j]?
  | [], j => by simp [wipe]
  | v :: vs, j => by
    unfold wipe
    rw [List.getElem?_set]
    by_cases h : v = j
    · subst h
      rw [if_pos rfl, if_pos (List.mem_cons_self)]
      split
      · rename_i hl
        rw [wipe_length] at hl
        rw [List.getElem?_eq_getElem hl]; rfl
      · rename_i hl
        rw [wipe_length] at hl
        rw [List.getElem?_eq_none (by omega)]; rfl
    · rw [if_neg h, wipe_get σ vs j]
      have : (j ∈ v :: vs) ↔ j ∈ vs := by simp [Ne.symm h]
      simp only [this]
theorem wipe_set {σ : L2.St} {vs : List Nat} {i : Nat} {x : Option V} (h : i ∈ vs) : wipe (σ.set i x) vs = wipe σ vs := by
  apply List.ext_getElem?
  intro j
  rw [wipe_get, wipe_get]
  by_cases hj : j ∈ vs
  · rw [if_pos hj, if_pos hj, List.getElem?_set]
    split
    · subst j
      split
      · rename_i hl
        rw [List.getElem?_eq_getElem hl]; rfl
      · rename_i hl
        rw [List.getElem?_eq_none (by omega)]
    · rfl
  · rw [if_neg hj, if_neg hj, List.getElem?_set_ne (fun e => hj (by rw [← e]; exact h))]
theorem wipe_wipe (σ : L2.St) (vs : List Nat) : wipe (wipe σ vs) vs = wipe σ vs := by
  apply List.ext_getElem?
  intro j
  rw [wipe_get, wipe_get]
  split
  · cases σ[j]? <;> rfl
  · rfl
theorem wipeL_get (ρ : Loc) : ∀ (vs : List Nat) (j : Nat), (wipeL ρ vs)[j]? = if j ∈ vs then (ρ[j]?).map (fun _ => none) else ρ[j]?
  | [], j => by simp [wipeL]
  | v :: vs, j => by
    have hlen : ∀ vs : List Nat, (wipeL ρ vs).length = ρ.length := by
      intro vs; induction vs with
      | nil => rfl
      | cons a b ih => unfold wipeL; rw [List.length_set, ih]
    unfold wipeL
    rw [List.getElem?_set]
    by_cases h : v = j
    · subst h
      rw [if_pos rfl, if_pos (List.mem_cons_self)]
      split
      · rename_i hl
        rw [hlen] at hl
        rw [List.getElem?_eq_getElem hl]; rfl
      · rename_i hl
        rw [hlen] at hl
        rw [List.getElem?_eq_none (by omega)]; rfl
    · rw [if_neg h, wipeL_get ρ vs j]
      have : (j ∈ v :: vs) ↔ j ∈ vs := by simp [Ne.symm h]
      simp only [this]
theorem wipeL_length (ρ : Loc) : ∀ vs : List Nat, (wipeL ρ vs).length = ρ.length
  | [] => rfl
  | a :: b => by unfold wipeL; rw [List.length_set, wipeL_length ρ b]
theorem RelL.wipe {K : PySem.W.Frag} {φ : List Addr} {H : Hp} {ρ : Loc} {σ : L2.St} (L : RelL K φ H ρ σ) (vs : List Nat) : RelL K φ H (wipeL ρ vs) (L2.wipe σ vs) := by
  refine ⟨by rw [wipeL_length, wipe_length]; exact L.1, fun i x h => ?_⟩
  rw [wipeL_get] at h
  rw [wipe_get]
  split at h
  · cases q : ρ[i]? <;> rw [q] at h <;> cases h
  · rename_i hi
    rw [if_neg hi]
    exact L.2 i x h
/-- a pattern's reading -/
def gP (K : PySem.W.Frag) (p : Pt) : TG := fun v σ H Q => ∃ φ ρ S x ρ', Rel K φ H S ∧ RelL K φ H ρ σ ∧ relV K φ H x v ∧ asP p x S ρ = some ρ' ∧
  ∀ σ', RelL K φ H ρ' σ' → (∀ vs : List Nat, (∀ i ∈ p.slots, i ∈ vs) → wipe σ' vs = wipe σ vs) → Q σ' H
def gPs (K : PySem.W.Frag) (p : Pt) : TGs := fun vs σ H Q => ∃ φ ρ S xs ρ', Rel K φ H S ∧ RelL K φ H ρ σ ∧ relVs K φ H xs vs ∧ asPs p xs S ρ = some ρ' ∧
  ∀ σ', RelL K φ H ρ' σ' → (∀ vs : List Nat, (∀ i ∈ p.slots, i ∈ vs) → wipe σ' vs = wipe σ vs) → Q σ' H
theorem PG.imp {X : Cx} {e : Expr} {t t' : TG} (h : PG X e t) (i : ∀ v σ H Q, t' v σ H Q → t v σ H Q) : PG X e t' := ⟨fun pins s σ H v u Q I r q => h.run pins s σ H v u Q I r (i _ _ _ _ q)⟩
theorem PGs.imp {X : Cx} {e : List Expr} {t t' : TGs} (h : PGs X e t) (i : ∀ v σ H Q, t' v σ H Q → t v σ H Q) : PGs X e t' := ⟨fun pins s σ H v u Q I r q => h.run pins s σ H v u Q I r (i _ _ _ _ q)⟩
section
variable {X : Cx} {pos : Pos}
theorem pgp_name {i : Nat} {x : Str} (hN : X.N.Nodup) (hi : X.N[i]? = some x) (hx : L2.Loc X.env.scope x) (hf : X.fn x = true ∨ X.env.scope.names.lookup x = some .local) : PG X (.Name x pos) (gP X.K (.name i)) := by
  refine PG.imp (pg_name hN hi hx hf) fun v σ H Q ⟨φ, ρ, S, x, ρ', R, L, r, e, k⟩ => ?_
  cases e
  exact k _ (L.set i r) fun vs h => wipe_set (h i (by simp [Pt.slots]))
theorem pgps_nil : PGs X [] (gPs X.K .nil) := by
  refine PGs.imp pgs_nil fun v σ H Q ⟨φ, ρ, S, xs, ρ', R, L, r, e, k⟩ => ?_
  simp only [asPs] at e
  split at e
  · cases e; cases r; exact ⟨rfl, k _ L fun _ _ => rfl⟩
  · cases e
theorem pgps_cons {e : Expr} {es : List Expr} {p ps : Pt} (h1 : PG X e (gP X.K p)) (h2 : PGs X es (gPs X.K ps)) (hs : (assignEach (e :: es) X.env).map (·.2) = assign e X.env :: (assignEach es X.env).map (·.2)) : PGs X (e :: es) (gPs X.K (.cons p ps)) := by
  refine PGs.imp (pgs_cons h1 h2 hs) fun v σ H Q ⟨φ, ρ, S, xs, ρ', R, L, r, e, k⟩ => ?_
  simp only [asPs] at e
  split at e
  · cases e
  · rename_i x ys
    obtain ⟨ρ1, e1, e2⟩ := Option.bind_eq_some_iff.mp e
    obtain ⟨w, ws, rfl, r1, r2⟩ := r
    refine ⟨w, ws, rfl, φ, ρ, S, x, ρ1, R, L, r1, e1, fun σ1 L1 k1 => ⟨φ, ρ1, S, ys, ρ', R, L1, r2, e2, fun σ2 L2 k2 => k σ2 L2 fun vs h => ?_⟩⟩
    simp only [Pt.slots, List.mem_append] at h
    rw [k2 vs fun i hi => h i (.inr hi), k1 vs fun i hi => h i (.inl hi)]
theorem asPs_len : ∀ {p : Pt} {xs : List PV} {S : Store} {ρ ρ' : Loc} {n : Nat}, asPs p xs S ρ = some ρ' → (∃ es : List Expr, es.length = n) → True := fun _ _ => trivial
/-- how many items a row of patterns takes -/
def Pt.cnt : Pt → Nat
  | .cons _ ps => ps.cnt + 1
  | _ => 0
theorem asPs_cnt : ∀ {p : Pt} {xs : List PV} {S : Store} {ρ ρ' : Loc}, asPs p xs S ρ = some ρ' → xs.length = p.cnt
  | .nil, xs, _, _, _, e => by
    simp only [asPs] at e
    split at e
    · rfl
    · cases e
  | .cons p ps, xs, _, _, _, e => by
    simp only [asPs] at e
    split at e
    · cases e
    · obtain ⟨ρ1, _, e2⟩ := Option.bind_eq_some_iff.mp e
      simp [Pt.cnt, asPs_cnt e2]
  | .name _, _, _, _, _, e => by cases e
  | .tup _, _, _, _, _, e => by cases e
theorem PG.or {e : Expr} {t t' : TG} (h : PG X e t) (h' : PG X e t') : PG X e (fun v σ H Q => t v σ H Q ∨ t' v σ H Q) := ⟨fun pins s σ H v u Q I r q => q.elim (h.run pins s σ H v u Q I r) (h'.run pins s σ H v u Q I r)⟩
theorem pgp_tup {es : List Expr} {k : Nat} {ps : Pt} (hc : X.calm = true) (h : PGs X es (gPs X.K ps)) (hn : (assignEach es X.env).length = ps.cnt) (hst : (assignEach es X.env).findIdx? (·.1) = none) : PG X (.Tuple es k pos) (gP X.K (.tup ps)) := by
  refine PG.imp (PG.or (pg_tup (n := ps.cnt) hc h hn hst) (pg_unl (n := ps.cnt) hc h hn hst)) fun v σ H Q ⟨φ, ρ, S, x, ρ', R, L, r, e, k⟩ => ?_
  simp only [asP] at e
  split at e
  · rename_i xs hx
    obtain ⟨a, vs, rfl, h1, h2⟩ := items_rel R hx r
    rcases h1 with h1 | h1
    · exact .inr ⟨a, vs, rfl, h1, by rw [← relVs_len h2]; exact asPs_cnt e, φ, ρ, S, _, ρ', R, L, h2, e, k⟩
    · exact .inl ⟨a, vs, rfl, h1, by rw [← relVs_len h2]; exact asPs_cnt e, φ, ρ, S, _, ρ', R, L, h2, e, k⟩
  · cases e
end
/-! ### comprehensions -/
structure PTsI (X : Cx) (ifs : List Expr) (f : Loc → Store → Res Bool) : Prop where
  pts : PTs X ifs (tIT X.K f)
theorem ptsi_nil {X : Cx} : PTsI X [] (fun _ S => .ok true S) := ⟨⟨fun pins s σ H Q I ⟨φ, ρ, S, r, S', R, L, e, k⟩ => by
  cases e
  exact pts_nil.run pins s σ H Q I (k φ H (Ext.refl _ _) R)⟩⟩
theorem ptsi_one {X : Cx} {c : Expr} {f : Loc → Store → Res PV} (h : PTI X c (asT f)) : PTsI X [c] (asT f) := ⟨pts_one h⟩
theorem pei_lc {X : Cx} {elt tg iter : Expr} {ifs : List Expr} {scope : Scope} {own : List (Str × Nat)} {pos : Pos} {fi : Loc → Store → Res Ir} {p : Pt} {ft : Loc → Store → Res Bool} {fe : Loc → Store → Res PV}
    (hc : X.calm = true) (hN : X.N.Nodup) (hi : PII X tg iter fi) (ok : BlkOk X.N X.env.scope scope own) (hp : ∀ i ∈ p.slots, i ∈ own.map (·.2))
    (hg : ∀ (s : Shared) (H : Hp) (C : Addr) (cl : List (Str × Addr)) (fp : List Addr), PG (X.blk s H scope (compEnvC scope cl C X.env) fp) tg (gP X.K p))
    (ht : ∀ (s : Shared) (H : Hp) (C : Addr) (cl : List (Str × Addr)) (fp : List Addr), PTsI (X.blk s H scope (compEnvC scope cl C X.env) fp) ifs ft)
    (he : ∀ (s : Shared) (H : Hp) (C : Addr) (cl : List (Str × Addr)) (fp : List Addr), PEI (X.blk s H scope (compEnvC scope cl C X.env) fp) elt fe) (hs : ∀ x, foldedSetIterable iter X.env x = pure x) :
    (PEI X (.ListComp elt [⟨tg, iter, ifs, 0⟩] scope pos) (fun ρ S => (fi ρ S).bind fun r S1 =>
      (lcN r (fun x S2 => (asPR p x (wipeL ρ (own.map (·.2))) S2).bind fun ρ1 S3 => (ft ρ1 S3).bind fun t S4 => if t = true then (fe ρ1 S4).bind fun y S5 => .ok (some y) S5 else .ok none S4) (r.len S1 + 1) 0 [] S1).bind
        fun ys S6 => .ok (.ref S6.length) (S6 ++ [.lst ys]))) ∧
    (∀ σ H Q, tI X.K (fun ρ S => (fi ρ S).bind fun r S1 =>
      (lcN r (fun x S2 => (asPR p x (wipeL ρ (own.map (·.2))) S2).bind fun ρ1 S3 => (ft ρ1 S3).bind fun t S4 => if t = true then (fe ρ1 S4).bind fun y S5 => .ok (some y) S5 else .ok none S4) (r.len S1 + 1) 0 [] S1).bind
        fun ys S6 => .ok (.ref S6.length) (S6 ++ [.lst ys])) σ H Q → tLc (tII X.K fi) (gP X.K p) (tIT X.K ft) (tI X.K fe) (own.map (·.2)) σ H Q) := by
  have key : ∀ σ H Q, tI X.K (fun ρ S => (fi ρ S).bind fun r S1 =>
      (lcN r (fun x S2 => (asPR p x (wipeL ρ (own.map (·.2))) S2).bind fun ρ1 S3 => (ft ρ1 S3).bind fun t S4 => if t = true then (fe ρ1 S4).bind fun y S5 => .ok (some y) S5 else .ok none S4) (r.len S1 + 1) 0 [] S1).bind
        fun ys S6 => .ok (.ref S6.length) (S6 ++ [.lst ys])) σ H Q → tLc (tII X.K fi) (gP X.K p) (tIT X.K ft) (tI X.K fe) (own.map (·.2)) σ H Q := by
    intro σ H Q ⟨φ, ρ, S, r, S', R, L, e, P⟩
    obtain ⟨ir, S1, e1, e2⟩ := bind_inv e
    refine ⟨φ, ρ, S, ir, S1, R, L, e1, fun φ1 H1 J E1 R1 ok1 D hD => ?_⟩
    obtain ⟨ys, S6, e3, e4⟩ := bind_inv e2
    cases e4
    generalize hturn : (fun (x : PV) (S2 : Store) => (asPR p x (wipeL ρ (own.map (·.2))) S2).bind fun ρ1 S3 => (ft ρ1 S3).bind fun t S4 => if t = true then (fe ρ1 S4).bind fun y S5 => Res.ok (some y) S5 else .ok none S4) = turn at e3
    refine ⟨fun i m H2 => ∃ φ2 S2 acc vacc, Ext φ1 H1 φ2 H2 ∧ Rel X.K φ2 H2 S2 ∧ H2 D = some (.lst vacc) ∧ D ∉ φ2 ∧ relVs X.K φ2 H2 acc vacc ∧ lcN ir turn m i acc S2 = .ok ys S6, ⟨ir.len S1 + 1, φ1, S1, [], [], ?_, R1.laid hD _, upd_same, notin_of_none R1 hD, rfl, e3⟩, ?_⟩
    · exact Ext.laid hD _
    rintro i m H2 ⟨φ2, S2, acc, vacc, E2, R2, hDv, hDn, ra, el⟩
    cases m with
    | zero => cases el
    | succ m =>
      unfold lcN at el
      split at el
      · rename_i x hx
        obtain ⟨hgo, hy⟩ := ok1.go φ2 H2 S2 i x E2 R2 hx
        obtain ⟨ro, S3, e5, e6⟩ := bind_inv el
        refine .inr ⟨hgo, fun H' => ∃ φ2 S2 acc vacc, Ext φ1 H1 φ2 H' ∧ Rel X.K φ2 H' S2 ∧ H' D = some (.lst vacc) ∧ D ∉ φ2 ∧ relVs X.K φ2 H' acc vacc ∧ lcN ir turn m (i + 1) acc S2 = .ok ys S6, fun H' h' => ⟨m, Nat.lt_succ_self _, h'⟩, fun v H3 hv => ?_⟩
        obtain ⟨E3, R3, rv⟩ := hy v H3 hv
        have E13 := E2.trans E3
        have L3 : RelL X.K φ2 H3 (wipeL ρ (own.map (·.2))) (wipe σ (own.map (·.2))) := ((L.ext R E1 R1).ext R1 E13 R3).wipe _
        rw [← hturn] at e5
        obtain ⟨ρ1, S3', e7, e8⟩ := bind_inv e5
        unfold asPR at e7
        split at e7
        · rename_i ρ2 hρ
          cases e7
          refine ⟨φ2, _, S2, x, ρ1, R3, L3, rv, hρ, fun σ2 L4 k4 => ?_⟩
          refine ⟨by rw [k4 _ hp, wipe_wipe], ?_⟩
          have D3 : H3 D = some (.lst vacc) := E3.keep D _ hDv hDn
          have ra3 := relVs_ext R2 E3 R3 _ _ ra
          refine tIT_step R3 L4 e8 fun t S4 _ e9 φ4 H4 E4 R4 L5 => ?_
          have D4 : H4 D = some (.lst vacc) := E4.keep D _ D3 hDn
          have Dn4 : D ∉ φ4 := fun m4 => by
            have := E4.new D m4 hDn
            rw [D3] at this; cases this
          have ra4 := relVs_ext R3 E4 R4 _ _ ra3
          split at e9
          · rename_i ht
            rw [if_pos ht]
            refine tI_step R4 L5 e9 fun y S5 _ e10 φ5 w H5 E5 R5 L6 rw5 => ?_
            cases e10
            have D5 : H5 D = some (.lst vacc) := E5.keep D _ D4 Dn4
            have Dn5 : D ∉ φ5 := fun m5 => by
              have := E5.new D m5 Dn4
              rw [D4] at this; cases this
            have ra5 := relVs_ext R4 E5 R5 _ _ ra4
            simp only at e6
            split at e6
            · rename_i hl
              have n1 : ∀ o u, H5 D ≠ some (.frz o u) := by rw [D5]; intro _ _ z; cases z
              have n2 : ∀ ws, H5 D ≠ some (.tup ws) := by rw [D5]; intro _ z; cases z
              refine ⟨vacc, D5, by rw [← relVs_len ra5, lim_eq]; exact hl, φ5, S3, acc ++ [y], vacc ++ [w], ?_, ?_, upd_same, Dn5, ?_, e6⟩
              · have E15 := (E13.trans E4).trans E5
                refine ⟨E15.pre, fun a o h n => ?_, E15.new⟩
                rw [upd_ne (ne_of_none h hD)]
                exact E15.keep a o h n
              · exact R5.keep (fun a m => upd_ne fun e => Dn5 (e ▸ m)) fun xs vs => relVs_upd n1 n2
              · exact relVs_upd n1 n2 (relVs_app ra5 ⟨w, [], rfl, rw5, rfl⟩)
            · cases e6
          · rename_i ht
            rw [if_neg ht]
            cases e9
            exact ⟨φ4, S3, acc, vacc, (E13.trans E4), R4, D4, Dn4, ra4, e6⟩
        · cases e7
      · split at el
        · rename_i hf
          cases el
          refine .inl ⟨ok1.stop φ2 H2 _ i E2 R2 hf, ?_⟩
          refine P (φ2 ++ [D]) _ H2 (E1.trans ⟨E2.pre.trans (List.prefix_append _ _), E2.keep, fun a m n => ?_⟩) ?_ ⟨D, rfl, by rw [← R2.len]; simp⟩
          · rcases List.mem_append.mp m with m | m
            · exact E2.new a m n
            · simp at m; subst m; exact hD
          · refine ⟨by simp [R2.len], ?_, fun n a o g1 g2 => ?_⟩
            · rw [List.nodup_append]
              refine ⟨R2.nd, by simp, fun a ha b hb => ?_⟩
              simp at hb; subst hb
              exact fun e => hDn (e ▸ ha)
            · have up : ∀ {xs vs}, relVs X.K φ2 H2 xs vs → relVs X.K (φ2 ++ [D]) H2 xs vs := fun {xs vs} q => relVs_sub (fun _ _ h => h) (fun _ _ h => h) (List.prefix_append _ _) xs vs q
              by_cases hn : n < φ2.length
              · rw [List.getElem?_append_left hn] at g1
                rw [List.getElem?_append_left (by rw [← R2.len]; exact hn)] at g2
                have r2 := R2.obj n a o g1 g2
                cases o with
                | lst zs =>
                  obtain ⟨ws, e, r2⟩ := r2
                  exact ⟨ws, e, up r2⟩
              · rw [List.getElem?_append_right (by omega)] at g1
                rw [List.getElem?_append_right (by rw [← R2.len]; omega), ← R2.len] at g2
                have hz : n - φ2.length = 0 := by
                  have := (List.getElem?_eq_some_iff.mp g1).1
                  simp at this; omega
                rw [hz] at g1 g2
                simp at g1 g2
                subst g1; subst g2
                exact ⟨vacc, hDv, up ra⟩
        · cases el
  exact ⟨PE.imp (pe_lc hc hN hi ok hg (fun s H C cl fp => (ht s H C cl fp).pts) he hs) key, key⟩
end Mp

/-! Mp6e: enumerate over a list or a tuple; ljust with a sign. -/
namespace Mp
open PySem PySem.Spec PyProof.Rows L2
open PySem.AutoSeq1 (wpAny_loadPart')

/-! ### enumerate(tuple) -/
/-- the tuple's items, each in a new pair with its place -/
def IeT (K : PySem.W.Frag) (a : Addr) : L2.It where
  go i H := ∃ (vs : List V) (v : V), SqT K H a vs ∧ vs[i]? = some v
  yld i H r H' := ∃ (q : Addr) (v : V), r = .ref q ∧ H q = none ∧ H' = upd H q (.tup [.int (i : Nat), v]) ∧ ∀ vs, SqT K H a vs → vs[i]? = some v
  stop i H := ∃ vs : List V, SqT K H a vs ∧ vs.length ≤ i
abbrev tItO (t : Addr) : Obj := { cls := .type "tuple_iterator", data := .fields #[.ref t, .int 0 0] }
abbrev enO (it : Addr) : Obj := { cls := .type "enumerate", data := .fields #[.none, .bool false, .ref it, rawInt 0, .none, .none] }
set_option maxHeartbeats 1000000 in
theorem meets_enumT (t : Addr) (its : Array Value) :
    Meets (Builtin.«enumerate.__new__» ⟨[.type "enumerate", .ref t], []⟩) (fun _ R z => z.heap.IsTuple t its ∧
      R (.ok (.ret (.ref (z.heap.push (tItO t)).objs.size))) { z with heap := (z.heap.push (tItO t)).push (enO z.heap.objs.size) }) := by
  refine .of_wp fun prog w A R z hyp => ?_
  obtain ⟨hp, g, d, tk, os⟩ := z
  obtain ⟨ht, fin_⟩ := hyp
  have sub := sub_enumerate
  have tup : Heap.IsTuple (Shared.heap ⟨hp, g, d, tk, os⟩) t its := ht
  have itr : ∀ {A2 : Around} {E2 : Value → Shared → Prop} {Q2 : Value → Shared → Prop}, Q2 (.ref hp.objs.size) ⟨hp.push (tItO t), g, d, tk, os⟩ →
      wpAny (model prog w) A2 (pyIter (.ref t)) Q2 E2 ⟨hp, g, d, tk, os⟩ := fun q2 => wpAny_pyIter_tuple tup q2
  wp_walk using itr
  refine wpAny_stack_any fun frames => wpAny_pure ?_
  split
  · rename_i cc _ _ _ _ _
    by_cases hcc : (cc == Value.type "enumerate") = true
    · rw [hcc]; wp_walk using itr; exact ⟨_, rfl, fin_⟩
    · rw [Bool.not_eq_true] at hcc; rw [hcc]; wp_walk using itr; exact ⟨_, rfl, fin_⟩
  · wp_walk using itr; exact ⟨_, rfl, fin_⟩
section
variable {prog : Program} {w : World} {A : Around} {E : Value → Shared → Prop} {s : Shared}
theorem call_enumT {t : Addr} {its : Array Value} {Q : Value → Shared → Prop} (ht : s.heap.IsTuple t its)
    (k : ∀ hp2, IsEnum hp2 (s.heap.objs.size + 1) s.heap.objs.size 0 .none → hp2.IsTupleIter s.heap.objs.size t 0 → (∀ b o, s.heap.get? b = some o → hp2.get? b = some o) → Q (.ref (s.heap.objs.size + 1)) { s with heap := hp2 }) :
    wpAny (model prog w) A (call (.type "enumerate") [.ref t]) Q E s := by
  refine callType_new F.called_enumerate (by decide) (F.typeCall_enumerate_1 _) (F.newCall_enumerate_1 _)
    (fun made => F.args_object_init_2 made _) F.entry_enumerate_new (meets_enumT t its) ⟨ht, ?_⟩
  have sz : (s.heap.push (tItO t)).objs.size = s.heap.objs.size + 1 := Heap.size_push ..
  show _ ∧ _
  rw [sz]
  have en : IsEnum ((s.heap.push (tItO t)).push (enO s.heap.objs.size)) (s.heap.objs.size + 1) s.heap.objs.size 0 .none := by
    rw [← sz]; exact Heap.get?_push_size _ rfl
  exact ⟨⟨_, en, rfl⟩, k _ en ⟨tItO t, Heap.get?_push_of_some _ (Heap.get?_push_size _ rfl), rfl, rfl⟩ fun b o y => Heap.get?_push_of_some _ (Heap.get?_push_of_some _ y)⟩
end
theorem turn_enT {P : Program} {w : World} {K : PySem.W.Frag} {elts : List Expr} {kk : Nat} {tpos : Pos} (a e it : Addr) :
    Turn P w K (.Tuple elts kk tpos) (IeT K a) [e, it] e (fun i h => (∃ old, IsEnum h e it ((i : Nat) : Int) old) ∧ h.IsTupleIter it a i ∧ e ≠ it ∧ a ≠ it ∧ e ≠ a) where
  mem := List.mem_cons_self ..
  obj := fun i h st b hb => by
    obtain ⟨⟨old, en⟩, ⟨o, ho, _, od⟩, _⟩ := st
    rcases List.mem_cons.mp hb with rfl | hb
    · exact ⟨_, en, fun v z => nomatch z⟩
    · rw [List.mem_singleton] at hb
      subst hb
      exact ⟨o, ho, fun v z => by rw [od] at z; cases z⟩
  keep := fun i h h' st kp => ⟨st.1.imp fun old en => kp e (List.mem_cons_self ..) _ en, st.2.1.at fun o z => kp it (List.mem_cons_of_mem _ (List.mem_singleton.mpr rfl)) o z, st.2.2⟩
  item := by
    intro X hP hw hK hc i pins s σ H E I hf st hg
    subst hP hw hK
    obtain ⟨⟨old, en⟩, ti, d1, d2, d3⟩ := st
    obtain ⟨vs, v, hq, hv⟩ := hg
    obtain ⟨its, rv, tp, hz⟩ := I.tuple hq
    obtain ⟨u, hu, ru⟩ := rv.get hv
    have hlt : i < its.toArray.size := by
      have := (List.getElem?_eq_some_iff.mp hu).1
      simpa using this
    have el : e < s.heap.objs.size := Heap.lt_size en
    have D := Draws.tuple (prog := X.prog) (w := X.w) (A := X.A.in1) (I.ok.hd hc) it a d2 its.toArray
    refine wpAny_pyNext_enum_itemD D en ⟨ti, tp⟩ hlt d1 (fun m => by
      rcases List.mem_cons.mp m with m | m
      · exact d1 m
      · exact d3 (List.mem_singleton.mp m)) fun u2 h2 tk pu out st2 hT sz kp => ?_
    have e2 : u2 = u := by
      have pu : its.toArray[i]? = some u2 := pu
      rw [List.getElem?_toArray, hu] at pu
      exact (Option.some.inj pu).symm
    subst e2
    refine ⟨_, rfl, wpAny_letOwnedTupleGo_enum (s := { s with heap := h2, toks := tk + 1 }) out fun h3 en3 sb => ?_⟩
    have hT3 : h3.get? s.heap.objs.size = some { cls := .type "tuple", data := .seq #[.int i tk, u2] } := (sb.2 _ (Nat.ne_of_gt el)).trans hT
    have new : ObjOk X.prog X.w (upd H s.heap.objs.size (.tup [.int (i : Nat), v])) h3 s.heap.objs.size (.tup [.int (i : Nat), v]) :=
      ⟨show 2 ≤ sizeLine by decide, [.int i tk, u2], .cons ⟨_, rfl⟩ (.cons ru .nil), ⟨_, hT3, rfl, _, rfl⟩⟩
    have I3 : Inv X pins σ (upd H s.heap.objs.size (.tup [.int (i : Nat), v])) { s with heap := h3, toks := tk + 1 } :=
      I.turnedNew (ch := [e, it]) (fun b o hb q => (sb.2 b fun z => hb (by rw [z]; exact List.mem_cons_self ..)).trans
        (kp b o (fun z => hb (by rw [z]; exact List.mem_cons_self ..)) (fun z => hb (by rw [z]; exact List.mem_cons_of_mem _ (List.mem_singleton.mpr rfl))) q)) hf (Nat.le_refl _) new
    refine ⟨.ref s.heap.objs.size, _, I3, rfl, ⟨_, v, rfl, I.hok.fresh (Nat.le_refl _), rfl, fun ys hy => by rw [I.tuple_inj hy hq]; exact hv⟩,
      ⟨⟨u2, ?_⟩, st2.1.at fun o z => (sb.2 it (Ne.symm d1)).trans z, d1, d2, d3⟩, fun b hb => ?_⟩
    · rw [show ((i + 1 : Nat) : Int) = (i : Int) + 1 by omega]; exact en3
    · have lt : b < s.heap.objs.size := by
        rcases List.mem_cons.mp hb with rfl | hb
        · exact el
        · rw [List.mem_singleton] at hb
          subst hb
          obtain ⟨_, z, _⟩ := ti
          exact Heap.lt_size z
      rw [upd_ne (Nat.ne_of_lt lt)]
      exact (hf b hb).1
  done := by
    intro X hP hw hK hc i pins s σ H E I hf st hg
    subst hP hw hK
    obtain ⟨⟨old, en⟩, ti, d1, d2, d3⟩ := st
    obtain ⟨vs, hq, hv⟩ := hg
    obtain ⟨its, rv, tp, hz⟩ := I.tuple hq
    obtain ⟨f0, f1, f2, f3, f4, f5⟩ := hf it (List.mem_cons_of_mem _ (List.mem_singleton.mpr rfl))
    have hnone : its.toArray[i]? = none := by
      have := rv.length
      rw [List.getElem?_toArray, List.getElem?_eq_none_iff]; omega
    have D : Draws X.prog X.w X.A.in1 it [it, a] i (fun _ _ => True) (fun j h => j = i ∧ h.IsTupleIter it a i ∧ h.IsTuple a its.toArray) :=
      { live := fun j h st => by obtain ⟨_, ⟨o, ho, _⟩, _⟩ := st; exact ⟨o, ho⟩
        frame := fun j h h' st kp => ⟨st.1, st.2.1.at fun o z => kp it (List.mem_cons_self ..) o z, st.2.2.at fun o z => kp a (List.mem_cons_of_mem _ (List.mem_singleton.mpr rfl)) o z⟩
        item := fun j s Q E lt st _ => absurd st.1 (Nat.ne_of_lt lt)
        done := fun s Q E st hE => wpAny_nextOf_tuple_end (I.ok.hd hc) st.2.1 st.2.2 hnone hE }
    exact wpAny_pyNext_enum_endD D en ⟨rfl, ti, tp⟩ fun h' eb => ⟨rfl, I.turned (t' := s.toks) (fun b o hb z => eb b o hb z) f0 f1 f3 f4 f5⟩
  self := fun A i s Q E st h => by
    obtain ⟨⟨old, en⟩, _⟩ := st
    exact wpAny_pyIter_enum en h
theorem pi_enE {X : Cx} {e : Expr} {ta : TA} {p pos tpos : Pos} {elts : List Expr} {kk : Nat} (hg : Gl X "enumerate") (hm : X.mg "enumerate" = none) (ha : PA X [e] ta) (hs : starEach [e] X.env = [(false, eval e X.env)]) :
    PI X (.Tuple elts kk tpos) (.Call (.Name "enumerate" p) [e] [] pos) (fun σ H R => ta σ H fun vs H1 => ∃ a, vs = [.ref a] ∧ ((∃ xs, SqL X.K H1 a xs ∧ R (Ite X.K a) H1) ∨ ∃ xs, SqT X.K H1 a xs ∧ R (IeT X.K a) H1)) := by
  constructor
  intro pins s σ H R I h
  refine Call_ (ld_blt I hg hm boot_enumerate (PyProof.Rows.callWith_type1 (thn (ha.run pos pins s σ H _ I h) fun us z ⟨vs, G, IZ, rr, a, ev, alt⟩ => ?_) hs rfl))
  subst ev
  obtain ⟨u, rest, rfl, ru, rrest⟩ : ∃ u rest, us = u :: rest ∧ RelV (.ref a) u ∧ Vals [] rest := by cases rr with | cons r1 r2 => exact ⟨_, _, rfl, r1, r2⟩
  cases rrest
  cases ru
  have fresh : ∀ b, b ∈ [z.heap.objs.size + 1, z.heap.objs.size] → z.heap.objs.size ≤ b := fun b hb => by
    rcases List.mem_cons.mp hb with rfl | hb
    · exact Nat.le_succ _
    · rw [List.mem_singleton] at hb; rw [hb]; exact Nat.le_refl _
  rcases alt with ⟨xs, q, r⟩ | ⟨xs, q, r⟩
  · obtain ⟨its, _, tl, _⟩ := IZ.list q
    refine call_enumerate_list tl.isList fun hp2 en li _ kp => wpAny_pyIter_enum en ⟨z.heap.objs.size + 1, [z.heap.objs.size + 1, z.heap.objs.size], _, _, G, rfl, IZ.kept (t' := z.toks) kp,
      turn_enum a (z.heap.objs.size + 1) z.heap.objs.size, ⟨⟨.none, en⟩, li, Nat.succ_ne_self _⟩, fun b hb => IZ.fpOk (fresh b hb) (IZ.hok.fresh (fresh b hb)), r⟩
  · obtain ⟨its, _, tp, _⟩ := IZ.tuple q
    have lt : a < z.heap.objs.size := by
      obtain ⟨o, ho, _⟩ := id tp
      exact Heap.lt_size ho
    refine call_enumT tp fun hp2 en ti kp => wpAny_pyIter_enum en ⟨z.heap.objs.size + 1, [z.heap.objs.size + 1, z.heap.objs.size], _, _, G, rfl, IZ.kept (t' := z.toks) kp,
      turn_enT a (z.heap.objs.size + 1) z.heap.objs.size, ⟨⟨.none, en⟩, ti, Nat.succ_ne_self _, Nat.ne_of_lt lt, fun z2 => absurd lt (by rw [← z2]; exact Nat.not_lt.mpr (Nat.le_succ _))⟩, fun b hb => IZ.fpOk (fresh b hb) (IZ.hok.fresh (fresh b hb)), r⟩
theorem pair_rel {K : PySem.W.Frag} {φ2 : List Addr} {H2 : Hp} {S2 : Store} (R2 : Rel K φ2 H2 S2) {T : Addr} {i : Nat} {x : PV} {v : V} (hT : H2 T = none) (r : relV K φ2 H2 x v) :
    Ext φ2 H2 φ2 (upd H2 T (.tup [.int (i : Nat), v])) ∧ Rel K φ2 (upd H2 T (.tup [.int (i : Nat), v])) S2 ∧ relV K φ2 (upd H2 T (.tup [.int (i : Nat), v])) (.tup [.int (i : Int), x]) (.ref T) :=
  ⟨Ext.laid hT _, R2.laid hT _, T, _, rfl, SqT.of upd_same, _, _, rfl, rfl, _, _, rfl, relV_upd (by rw [hT]; intro _ _ z; cases z) (by rw [hT]; intro _ z; cases z) r, rfl⟩
theorem irok_enL {K : PySem.W.Frag} {φ : List Addr} {H : Hp} {r : Ir} {a : Addr} (h : IrOk K φ H r (Itl K a)) : IrOk K φ H (.enu r) (Ite K a) where
  go := fun φ2 H2 S2 i x E R2 e => by
    obtain ⟨y, hy, rfl⟩ := Option.map_eq_some_iff.mp (show (r.get S2 i).map (fun x => PV.tup [.int (i : Int), x]) = some x from e)
    obtain ⟨g, k⟩ := h.go φ2 H2 S2 i y E R2 hy
    refine ⟨g, fun v H3 ⟨T, u, ev, hT, e3, hu⟩ => ?_⟩
    subst ev e3
    exact pair_rel R2 hT (k u H2 ⟨rfl, hu⟩).2.2
  stop := fun φ2 H2 S2 i E R2 e => h.stop φ2 H2 S2 i E R2 e
theorem irok_enT {K : PySem.W.Frag} {φ : List Addr} {H : Hp} {r : Ir} {a : Addr} (h : IrOk K φ H r (Itt K a)) : IrOk K φ H (.enu r) (IeT K a) where
  go := fun φ2 H2 S2 i x E R2 e => by
    obtain ⟨y, hy, rfl⟩ := Option.map_eq_some_iff.mp (show (r.get S2 i).map (fun x => PV.tup [.int (i : Int), x]) = some x from e)
    obtain ⟨g, k⟩ := h.go φ2 H2 S2 i y E R2 hy
    refine ⟨g, fun v H3 ⟨T, u, ev, hT, e3, hu⟩ => ?_⟩
    subst ev e3
    exact pair_rel R2 hT (k u H2 ⟨rfl, hu⟩).2.2
  stop := fun φ2 H2 S2 i E R2 e => h.stop φ2 H2 S2 i E R2 e
theorem pii_enu {X : Cx} {a : Expr} {fa : Loc → Store → Res PV} {p pos tpos : Pos} {elts : List Expr} {kk : Nat} (hg : Gl X "enumerate") (hm : X.mg "enumerate" = none) (ha : PEI X a fa) (hs : starEach [a] X.env = (false, eval a X.env) :: starEach [] X.env) :
    PII X (.Tuple elts kk tpos) (.Call (.Name "enumerate" p) [a] [] pos) (fun ρ S => (fa ρ S).bind fun x S1 => enuV x S1) := by
  refine ⟨fun pins s σ H Q I ⟨φ, ρ, S, r, S', R, L, e, k⟩ => (pi_enE hg hm (pai_cons ha pai_nil hs) hs).run pins s σ H Q I ?_⟩
  obtain ⟨x, S1, e1, e2⟩ := bind_inv e
  refine ⟨φ, ρ, S, [x], S1, R, L, (by show (fa ρ S).bind _ = _; rw [e1]; rfl), fun φ1 vs H1 E1 R1 r1 => ?_⟩
  obtain ⟨v, rfl, r2⟩ := rel1 r1
  unfold enuV at e2
  split at e2
  · cases e2
    obtain ⟨b, ws, rfl, h1, h2⟩ := r2
    exact ⟨b, rfl, .inr ⟨ws, h1, k φ1 H1 _ E1 R1 (irok_enT (irok_tup R1 h1 h2))⟩⟩
  · cases e2
    obtain ⟨b, ws, rfl, h1, h2⟩ := r2
    exact ⟨b, rfl, .inl ⟨ws, h1.sq, k φ1 H1 _ E1 R1 (irok_enL (irok_ltc R1 h1 h2))⟩⟩
  · cases e2
    obtain ⟨b, rfl, h1⟩ := r2
    obtain ⟨o, _, ho⟩ := R1.get h1
    cases o with
    | lst xs =>
      obtain ⟨ws, h2, _⟩ := ho
      exact ⟨b, rfl, .inl ⟨ws, SqL.of h2, k φ1 H1 _ E1 R1 (irok_enL (irok_live h1))⟩⟩
  · cases e2
end Mp

/-! Mp7: statements. -/
namespace Mp
open PySem PySem.Spec PyProof.Rows L2

def PostL (K : PySem.W.Frag) (φ : List Addr) (H : Hp) (N : L2.St → Hp → Prop) (ρ : Loc) (S : Store) : Prop :=
  ∀ (φ' : List Addr) (σ' : L2.St) (H' : Hp), Ext φ H φ' H' → Rel K φ' H' S → RelL K φ' H' ρ σ' → N σ' H'
theorem PostL.ext {K : PySem.W.Frag} {φ φ' : List Addr} {H H' : Hp} {N : L2.St → Hp → Prop} {ρ : Loc} {S : Store} (P : PostL K φ H N ρ S) (E : Ext φ H φ' H') : PostL K φ' H' N ρ S :=
  fun φ2 σ H2 E2 R L => P φ2 σ H2 (E.trans E2) R L
def PostF (K : PySem.W.Frag) (φ : List Addr) (H : Hp) (D : Ends) (r : Fl) (S : Store) : Prop := match r with
  | .next ρ => PostL K φ H D.nx ρ S
  | .brk ρ => PostL K φ H D.bk ρ S
  | .cont ρ => PostL K φ H D.ct ρ S
  | .ret v => Post K φ H D.rt v S
theorem PostF.ext {K : PySem.W.Frag} {φ φ' : List Addr} {H H' : Hp} {D : Ends} {r : Fl} {S : Store} (P : PostF K φ H D r S) (E : Ext φ H φ' H') : PostF K φ' H' D r S := by
  cases r with
  | next ρ => exact PostL.ext (show PostL K φ H D.nx ρ S from P) E
  | brk ρ => exact PostL.ext (show PostL K φ H D.bk ρ S from P) E
  | cont ρ => exact PostL.ext (show PostL K φ H D.ct ρ S from P) E
  | ret v => exact Post.ext (show Post K φ H D.rt v S from P) E
def tIS (K : PySem.W.Frag) (f : Loc → Store → Res Fl) : TS := fun D σ H => ∃ φ ρ S r S', Rel K φ H S ∧ RelL K φ H ρ σ ∧ f ρ S = .ok r S' ∧ PostF K φ H D r S'
abbrev PSI (X : Cx) (st : Stmt) (f : Loc → Store → Res Fl) : Prop := PS X st (tIS X.K f)
abbrev PSsI (X : Cx) (st : List Stmt) (f : Loc → Store → Res Fl) : Prop := PSs X st (tIS X.K f)
theorem PS.imp {X : Cx} {st : Stmt} {t t' : TS} (h : PS X st t) (i : ∀ D σ H, t' D σ H → t D σ H) : PS X st t' := ⟨fun pins s σ H D I q => h.run pins s σ H D I (i _ _ _ q)⟩
theorem PSs.imp {X : Cx} {st : List Stmt} {t t' : TS} (h : PSs X st t) (i : ∀ D σ H, t' D σ H → t D σ H) : PSs X st t' := ⟨fun pins s σ H D I q => h.run pins s σ H D I (i _ _ _ q)⟩
section
variable {X : Cx} {a b d : Expr} {fa fb fd : Loc → Store → Res PV} {pos : Pos} {st : Stmt} {sts : List Stmt} {f g : Loc → Store → Res Fl}
theorem pssi_nil : PSsI X [] (fun ρ S => .ok (.next ρ) S) := PSs.imp pss_nil fun D σ H ⟨φ, ρ, S, r, S', R, L, e, P⟩ => by
  cases e
  exact P φ σ H (Ext.refl _ _) R L
/-- the block goes on behind a statement that ends next -/
theorem pssi_cons (h1 : PSI X st f) (h2 : PSsI X sts g) : PSsI X (st :: sts) (fun ρ S => (f ρ S).bind fun r S1 => match r with
    | .next ρ1 => g ρ1 S1
    | r => .ok r S1) := by
  refine PSs.imp (pss_cons h1 h2) fun D σ H ⟨φ, ρ, S, r, S', R, L, e, P⟩ => ?_
  obtain ⟨r1, S1, e1, e2⟩ := bind_inv e
  refine ⟨φ, ρ, S, r1, S1, R, L, e1, ?_⟩
  cases r1 with
  | next ρ1 =>
    intro φ1 σ1 H1 E1 R1 L1
    exact ⟨φ1, ρ1, S1, r, S', R1, L1, e2, P.ext E1⟩
  | brk ρ1 => cases e2; exact P
  | cont ρ1 => cases e2; exact P
  | ret v => cases e2; exact P
theorem psi_pass : PSI X (.Pass pos) (fun ρ S => .ok (.next ρ) S) := PS.imp ps_pass fun D σ H ⟨φ, ρ, S, r, S', R, L, e, P⟩ => by
  cases e
  exact P φ σ H (Ext.refl _ _) R L
theorem psi_brk : PSI X (.Break pos) (fun ρ S => .ok (.brk ρ) S) := PS.imp ps_break fun D σ H ⟨φ, ρ, S, r, S', R, L, e, P⟩ => by
  cases e
  exact P φ σ H (Ext.refl _ _) R L
theorem psi_cont : PSI X (.Continue pos) (fun ρ S => .ok (.cont ρ) S) := PS.imp ps_continue fun D σ H ⟨φ, ρ, S, r, S', R, L, e, P⟩ => by
  cases e
  exact P φ σ H (Ext.refl _ _) R L
theorem psi_doc {x : Str} {k : Nat} {p : Pos} : PSI X (.Expr (.Constant (.str x) k p) pos) (fun ρ S => .ok (.next ρ) S) := PS.imp ps_doc fun D σ H ⟨φ, ρ, S, r, S', R, L, e, P⟩ => by
  cases e
  exact P φ σ H (Ext.refl _ _) R L
theorem psi_never : PSI X st (fun _ _ => .bad) := PS.imp ps_never fun D σ H ⟨φ, ρ, S, r, S', R, L, e, P⟩ => by cases e
theorem psi_expr (ha : PEI X a fa) (hs : swapsWith a none pos.line X.env = pure false) : PSI X (.Expr a pos) (fun ρ S => (fa ρ S).bind fun _ S1 => .ok (.next ρ) S1) := by
  refine PS.imp (ps_expr ha hs) fun D σ H ⟨φ, ρ, S, r, S', R, L, e, P⟩ => ?_
  refine tI_step R L e fun x S1 _ e1 φ1 v1 H1 E1 R1 L1 r1 => ?_
  cases e1
  exact P φ1 σ H1 E1 R1 L1
theorem psi_ret (ha : PEI X a fa) : PSI X (.Return (some a) pos) (fun ρ S => (fa ρ S).bind fun x S1 => .ok (.ret x) S1) := by
  refine PS.imp (ps_ret ha) fun D σ H ⟨φ, ρ, S, r, S', R, L, e, P⟩ => ?_
  refine tI_step R L e fun x S1 _ e1 φ1 v1 H1 E1 R1 L1 r1 => ?_
  cases e1
  exact P φ1 _ H1 E1 R1 r1
theorem psi_retN : PSI X (.Return none pos) (fun ρ S => .ok (.ret .non) S) := by
  refine PS.imp ps_retN fun D σ H ⟨φ, ρ, S, r, S', R, L, e, P⟩ => ?_
  cases e
  exact P φ _ H (Ext.refl _ _) R rfl
theorem psi_if (hd : PTI X d (asT fd)) (h1 : PSsI X sts f) {sts2 : List Stmt} (h2 : PSsI X sts2 g) : PSI X (.If d sts sts2 pos) (fun ρ S => (fd ρ S).bind fun x S1 => (tru x S1).bind fun t S2 => if t = true then f ρ S2 else g ρ S2) := by
  refine PS.imp (ps_if hd h1 h2) fun D σ H ⟨φ, ρ, S, r, S', R, L, e, P⟩ => ?_
  have e' : (asT fd ρ S).bind (fun t S2 => if t = true then f ρ S2 else g ρ S2) = .ok r S' := (ite_law _ _ _).symm.trans e
  refine tIT_step R L e' fun t S1 _ e1 φ1 H1 E1 R1 L1 => ?_
  split at e1
  · rename_i ht
    rw [if_pos ht]
    exact ⟨φ1, ρ, S1, r, S', R1, L1, e1, P.ext E1⟩
  · rename_i ht
    rw [if_neg ht]
    exact ⟨φ1, ρ, S1, r, S', R1, L1, e1, P.ext E1⟩
/-! ### stores -/
theorem asPR_inv {p : Pt} {v : PV} {ρ ρ' : Loc} {S S' : Store} (h : asPR p v ρ S = .ok ρ' S') : asP p v S ρ = some ρ' ∧ S' = S := by
  unfold asPR at h
  split at h
  · rename_i e; cases h; exact ⟨e, rfl⟩
  · cases h
theorem psi_asg {tg : Expr} {p : Pt} (ha : PEI X a fa) (hg : PG X tg (gP X.K p)) (hs : swapsWithSole [tg] a pos.line X.env = pure false) (hw : swappedStores [tg] a X.env = pure none) (h1 : (assignEach [tg] X.env).map (·.2) = [assign tg X.env]) :
    PSI X (.Assign [tg] a pos) (fun ρ S => (fa ρ S).bind fun x S1 => (asPR p x ρ S1).bind fun ρ1 S2 => .ok (.next ρ1) S2) := by
  refine PS.imp (ps_asg ha hg hs hw h1) fun D σ H ⟨φ, ρ, S, r, S', R, L, e, P⟩ => ?_
  refine tI_step R L e fun x S1 _ e1 φ1 v1 H1 E1 R1 L1 r1 => ?_
  obtain ⟨ρ1, S2, e2, e3⟩ := bind_inv e1
  obtain ⟨g2, rfl⟩ := asPR_inv e2
  cases e3
  exact ⟨φ1, ρ, _, x, ρ1, R1, L1, r1, g2, fun σ2 L2 _ => P φ1 σ2 H1 E1 R1 L2⟩
theorem psi_asgS {o i : Expr} {fo fi : Loc → Store → Res PV} {tp : Pos} (ha : PEI X a fa) (ho : PEI X o fo) (hi : PEI X i fi) (hs : swapsWithSole [.Subscript o i tp] a pos.line X.env = pure false) (hw : swappedStores [.Subscript o i tp] a X.env = pure none) (h1 : (assignEach [.Subscript o i tp] X.env).map (·.2) = [assign (.Subscript o i tp) X.env])
    (hsub : ∀ v, assign (.Subscript o i tp) X.env v = (do
      let ov ← holding [v] (eval o X.env)
      let iv ← holding [v, ov] (eval i X.env)
      standAt tp
      holding [v, ov, iv] (setItem ov iv v)
      release [v, ov, iv] [])) :
    PSI X (.Assign [.Subscript o i tp] a pos) (fun ρ S => (fa ρ S).bind fun x S1 => ((fo ρ S1).bind fun y S2 => (fi ρ S2).bind fun z S3 => (setV y z x S3).bind fun _ S4 => .ok ρ S4).bind fun ρ1 S2 => .ok (.next ρ1) S2) := by
  refine PS.imp (ps_asg ha (pg_sub ho hi set_list hsub) hs hw h1) fun D σ H ⟨φ, ρ, S, r, S', R, L, e, P⟩ => ?_
  refine tI_step R L e fun x S1 _ e1 φ1 v1 H1 E1 R1 L1 r1 => ?_
  obtain ⟨ρ1, S9, e2, e3⟩ := bind_inv e1
  cases e3
  refine tI_step R1 L1 e2 fun y S2 _ e4 φ2 v2 H2 E2 R2 L2 r2 => ?_
  refine tI_step R2 L2 e4 fun z S3 _ e5 φ3 v3 H3 E3 R3 L3 r3 => ?_
  obtain ⟨u, S4, e6, e7⟩ := bind_inv e5
  cases e7
  unfold setV at e6
  split at e6
  · split at e6
    · rename_i xs hx
      split at e6
      · rename_i j hj
        cases e6
        obtain ⟨p, vs, rfl, hn, h2, h3⟩ := R3.lst hx (relV_ext R2 E3 R3 _ _ r2)
        cases r3
        have rx := relV_ext R1 (E2.trans E3) R3 _ _ r1
        refine ⟨p, vs, _, j, rfl, rfl, h2, by rw [← relVs_len h3]; exact hj, ?_⟩
        refine P φ3 σ _ (((E1.trans E2).trans E3).trans (Ext.write R3 hn _)) (R3.write hn (relVs_set j h3 rx)) ?_
        exact ⟨L3.1, fun i x h => let ⟨v, e, r⟩ := L3.2 i x h; ⟨v, e, R3.upL hn r⟩⟩
      · cases e6
    · cases e6
  · cases e6
theorem psi_aug {op : Operator} {i : Nat} {x : Str} {p : Pos} {h : PV → PV → Store → Res PV} (hN : X.N.Nodup) (hi : X.N[i]? = some x) (hx : L2.Loc X.env.scope x) (ha : PEI X a fa) (ho : OpR X (inplaceOp op) (rI2 X.K h)) (hf : X.fn x = true ∨ X.env.scope.names.lookup x = some .local) :
    PSI X (.AugAssign (.Name x p) op a pos) (fun ρ S => (getL ρ i S).bind fun x S0 => (fa ρ S0).bind fun y S1 => (h x y S1).bind fun z S2 => .ok (.next (ρ.set i (some z))) S2) := by
  refine PS.imp (ps_aug hN hi hx ha (ti := rI2 X.K h) ho hf) fun D σ H ⟨φ, ρ, S, r, S', R, L, e, P⟩ => ?_
  obtain ⟨x0, S0, e0, e1⟩ := bind_inv e
  unfold getL at e0
  split at e0
  · rename_i v hv
    cases e0
    obtain ⟨w, e2, r0⟩ := L.2 i _ hv
    refine ⟨w, e2, ?_⟩
    refine tI_step R L e1 fun y S1 _ e3 φ1 v1 H1 E1 R1 L1 r1 => ?_
    obtain ⟨z, S2, e4, e5⟩ := bind_inv e3
    cases e5
    refine ⟨φ1, S1, x0, y, z, _, R1, relV_ext R E1 R1 _ _ r0, r1, e4, fun φ2 v2 H2 E2 R2 r2 => ?_⟩
    exact P φ2 _ H2 (E1.trans E2) R2 ((L1.ext R1 E2 R2).set i r2)
  · cases e0
/-- a, b = x, y: plain local names -/
theorem setMany2 {i j : Nat} {xs : List PV} {ρ ρ' : Loc} (h : setMany ρ [i, j] xs = some ρ') : ∃ x y, xs = [x, y] ∧ ρ' = (ρ.set i (some x)).set j (some y) := by
  match xs, h with
  | [x, y], h => simp only [setMany] at h; cases h; exact ⟨x, y, rfl, rfl⟩
theorem setMany3 {i j l : Nat} {xs : List PV} {ρ ρ' : Loc} (h : setMany ρ [i, j, l] xs = some ρ') : ∃ x y z, xs = [x, y, z] ∧ ρ' = ((ρ.set i (some x)).set j (some y)).set l (some z) := by
  match xs, h with
  | [x, y, z], h => simp only [setMany] at h; cases h; exact ⟨x, y, z, rfl, rfl⟩
theorem psi_par {i j : Nat} {x y : Str} {px py pt : Pos} {kt k2 : Nat} {pt2 : Pos} {fs : Loc → Store → Res (List PV)} (hc : X.calm = true) (hN : X.N.Nodup) (hi : X.N[i]? = some x) (hj : X.N[j]? = some y) (hij : i ≠ j)
    (hx : X.env.scope.names.lookup x = some .local) (hy : X.env.scope.names.lookup y = some .local) (ha : PAI X [a, b] fs)
    (hw : swappedStores [.Tuple [.Name x px, .Name y py] kt pt] (.Tuple [a, b] k2 pt2) X.env = pure (some [x, y]))
    (hs : swapsWithSole [.Tuple [.Name x px, .Name y py] kt pt] (.Tuple [a, b] k2 pt2) pos.line X.env = pure false) :
    PSI X (.Assign [.Tuple [.Name x px, .Name y py] kt pt] (.Tuple [a, b] k2 pt2) pos) (fun ρ S => (fs ρ S).bind fun xs S1 => match setMany ρ [i, j] xs with | some ρ1 => .ok (.next ρ1) S1 | none => .bad) := by
  refine PS.imp (ps_par hc hN hi hj hij hx hy ha hw hs) fun D σ H ⟨φ, ρ, S, r, S', R, L, e, P⟩ => ?_
  refine tIA_step R L e fun xs S1 _ e1 φ1 vs H1 E1 R1 L1 r1 => ?_
  split at e1
  · rename_i ρ1 hρ
    cases e1
    obtain ⟨x1, y1, rfl, rfl⟩ := setMany2 hρ
    obtain ⟨v, w, rfl, r2, r3⟩ := rel2 r1
    exact ⟨v, w, rfl, P φ1 _ H1 E1 R1 ((L1.set i r2).set j r3)⟩
  · cases e1
theorem psi_par3 {i j l : Nat} {x y z : Str} {px py pz pt : Pos} {kt k2 : Nat} {pt2 : Pos} {fs : Loc → Store → Res (List PV)} (hc : X.calm = true) (hN : X.N.Nodup) (hi : X.N[i]? = some x) (hj : X.N[j]? = some y) (hl : X.N[l]? = some z) (hij : i ≠ j) (hil : i ≠ l) (hjl : j ≠ l)
    (hx : X.env.scope.names.lookup x = some .local) (hy : X.env.scope.names.lookup y = some .local) (hz : X.env.scope.names.lookup z = some .local) (ha : PAI X [a, b, d] fs)
    (hw : swappedStores [.Tuple [.Name x px, .Name y py, .Name z pz] kt pt] (.Tuple [a, b, d] k2 pt2) X.env = pure (some [x, y, z]))
    (hs : swapsWithSole [.Tuple [.Name x px, .Name y py, .Name z pz] kt pt] (.Tuple [a, b, d] k2 pt2) pos.line X.env = pure false) :
    PSI X (.Assign [.Tuple [.Name x px, .Name y py, .Name z pz] kt pt] (.Tuple [a, b, d] k2 pt2) pos) (fun ρ S => (fs ρ S).bind fun xs S1 => match setMany ρ [i, j, l] xs with | some ρ1 => .ok (.next ρ1) S1 | none => .bad) := by
  refine PS.imp (ps_par3 hc hN hi hj hl hij hil hjl hx hy hz ha hw hs) fun D σ H ⟨φ, ρ, S, r, S', R, L, e, P⟩ => ?_
  refine tIA_step R L e fun xs S1 _ e1 φ1 vs H1 E1 R1 L1 r1 => ?_
  split at e1
  · rename_i ρ1 hρ
    cases e1
    obtain ⟨x1, y1, z1, rfl, rfl⟩ := setMany3 hρ
    obtain ⟨v, w, u, rfl, r2, r3, r4⟩ := rel3 r1
    exact ⟨v, w, u, rfl, P φ1 _ H1 E1 R1 (((L1.set i r2).set j r3).set l r4)⟩
  · cases e1
/-! ### loops -/
theorem psi_whl {fu : Nat} (hp : PassesOwn (model X.prog X.w) X.A X.env X.xe) (hd : PTI X d (asT fd)) (h1 : PSsI X sts f) : PSI X (.While d sts [] pos) (fun ρ S => whlN (asT fd) f fu ρ S) := by
  refine PS.imp (ps_while hp hd h1) fun D σ H ⟨φ, ρ, S, r, S', R, L, e, P⟩ => ?_
  refine ⟨fun m σ2 H2 => ∃ φ2 ρ2 S2, Ext φ H φ2 H2 ∧ Rel X.K φ2 H2 S2 ∧ RelL X.K φ2 H2 ρ2 σ2 ∧ whlN (asT fd) f m ρ2 S2 = .ok r S', ⟨fu, φ, ρ, S, Ext.refl _ _, R, L, e⟩, ?_⟩
  rintro m σ2 H2 ⟨φ2, ρ2, S2, E2, R2, L2, e2⟩
  cases m with
  | zero => cases e2
  | succ m =>
    unfold whlN at e2
    refine tIT_step R2 L2 e2 fun t S3 _ e3 φ3 H3 E3 R3 L3 => ?_
    split at e3
    · rename_i ht
      rw [if_pos ht]
      refine ⟨fun σ' H' => ∃ φ2 ρ2 S2, Ext φ H φ2 H' ∧ Rel X.K φ2 H' S2 ∧ RelL X.K φ2 H' ρ2 σ' ∧ whlN (asT fd) f m ρ2 S2 = .ok r S', fun σ' H' h => ⟨m, Nat.lt_succ_self _, h⟩, ?_⟩
      obtain ⟨r1, S4, e4, e5⟩ := bind_inv e3
      refine ⟨φ3, ρ2, S3, r1, S4, R3, L3, e4, ?_⟩
      have E23 := E2.trans E3
      cases r1 with
      | next ρ' => exact fun φ4 σ4 H4 E4 R4 L4 => ⟨φ4, ρ', S4, E23.trans E4, R4, L4, e5⟩
      | cont ρ' => exact fun φ4 σ4 H4 E4 R4 L4 => ⟨φ4, ρ', S4, E23.trans E4, R4, L4, e5⟩
      | brk ρ' => cases e5; exact fun φ4 σ4 H4 E4 R4 L4 => P φ4 σ4 H4 (E23.trans E4) R4 L4
      | ret v => cases e5; exact fun φ4 v4 H4 E4 R4 r4 => P φ4 v4 H4 (E23.trans E4) R4 r4
    · rename_i ht
      rw [if_neg ht]
      cases e3
      exact P φ3 σ2 H3 (E2.trans E3) R3 L3
theorem psi_for {tg it : Expr} {fi : Loc → Store → Res Ir} {p : Pt} (hp : PassesOwn (model X.prog X.w) X.A X.env X.xe) (hc : X.calm = true) (hi : PII X tg it fi) (hg : PG X tg (gP X.K p)) (h1 : PSsI X sts f) (hsx : ∀ x, foldedSetIterable it X.env x = pure x) :
    PSI X (.For tg it sts [] pos) (fun ρ S => (fi ρ S).bind fun r S1 => forN r (fun x ρ S => (asPR p x ρ S).bind fun ρ1 S2 => f ρ1 S2) (r.len S1 + 1) 0 ρ S1) := by
  refine PS.imp (ps_for hp hc hi hg h1 (hs := hsx)) fun D σ H ⟨φ, ρ, S, r, S', R, L, e, P⟩ => ?_
  obtain ⟨ir, S1, e1, e2⟩ := bind_inv e
  refine ⟨φ, ρ, S, ir, S1, R, L, e1, fun φ1 H1 J E1 R1 ok1 => ?_⟩
  refine ⟨fun i m σ2 H2 => ∃ φ2 ρ2 S2, Ext φ1 H1 φ2 H2 ∧ Rel X.K φ2 H2 S2 ∧ RelL X.K φ2 H2 ρ2 σ2 ∧ forN ir (fun x ρ S => (asPR p x ρ S).bind fun ρ1 S2 => f ρ1 S2) m i ρ2 S2 = .ok r S', ⟨ir.len S1 + 1, φ1, ρ, S1, Ext.refl _ _, R1, L.ext R E1 R1, e2⟩, ?_⟩
  rintro i m σ2 H2 ⟨φ2, ρ2, S2, E2, R2, L2, e3⟩
  cases m with
  | zero => cases e3
  | succ m =>
    unfold forN at e3
    split at e3
    · rename_i x hx
      obtain ⟨hgo, hy⟩ := ok1.go φ2 H2 S2 i x E2 R2 hx
      refine .inr ⟨hgo, fun σ' H' => ∃ φ2 ρ2 S2, Ext φ1 H1 φ2 H' ∧ Rel X.K φ2 H' S2 ∧ RelL X.K φ2 H' ρ2 σ' ∧ forN ir (fun x ρ S => (asPR p x ρ S).bind fun ρ1 S2 => f ρ1 S2) m (i + 1) ρ2 S2 = .ok r S', fun σ' H' h => ⟨m, Nat.lt_succ_self _, h⟩, fun v H3 hv => ?_⟩
      obtain ⟨E3, R3, rv⟩ := hy v H3 hv
      obtain ⟨r1, S4, e4, e5⟩ := bind_inv e3
      obtain ⟨ρ1, S3, e6, e7⟩ := bind_inv e4
      obtain ⟨g6, rfl⟩ := asPR_inv e6
      refine ⟨φ2, ρ2, _, x, ρ1, R3, L2.ext R2 E3 R3, rv, g6, fun σ3 L4 _ => ?_⟩
      refine ⟨φ2, ρ1, _, r1, S4, R3, L4, e7, ?_⟩
      have E23 := E2.trans E3
      cases r1 with
      | next ρ' => exact fun φ4 σ4 H4 E4 R4 L4 => ⟨φ4, ρ', S4, E23.trans E4, R4, L4, e5⟩
      | cont ρ' => exact fun φ4 σ4 H4 E4 R4 L4 => ⟨φ4, ρ', S4, E23.trans E4, R4, L4, e5⟩
      | brk ρ' => cases e5; exact fun φ4 σ4 H4 E4 R4 L4 => P φ4 σ4 H4 (E1.trans (E23.trans E4)) R4 L4
      | ret v => cases e5; exact fun φ4 v4 H4 E4 R4 r4 => P φ4 v4 H4 (E1.trans (E23.trans E4)) R4 r4
    · split at e3
      · rename_i hf
        cases e3
        exact .inl ⟨ok1.stop φ2 H2 _ i E2 R2 hf, P φ2 σ2 H2 (E1.trans E2) R2 L2⟩
      · cases e3
/-- name = a comprehension, on one line -/
theorem psi_setLc {i : Nat} {y : Str} {py : Pos} {elt tg iter : Expr} {ifs : List Expr} {scope : Scope} {own : List (Str × Nat)} {lpos : Pos} {fi : Loc → Store → Res Ir} {p : Pt} {ft : Loc → Store → Res Bool} {fe : Loc → Store → Res PV}
    (hc : X.calm = true) (hN : X.N.Nodup) (hy : X.N[i]? = some y) (hyl : X.env.scope.names.lookup y = some .local) (hsw : swapsWith (.ListComp elt [⟨tg, iter, ifs, 0⟩] scope lpos) (some (.Name y py)) pos.line X.env = pure true)
    (hi : PII X tg iter fi) (ok : BlkOk X.N X.env.scope scope own) (hp : ∀ i ∈ p.slots, i ∈ own.map (·.2))
    (hg : ∀ (s : Shared) (H : Hp) (C : Addr) (cl : List (Str × Addr)) (fp : List Addr), PG (X.blk s H scope (compEnvC scope cl C X.env) fp) tg (gP X.K p))
    (ht : ∀ (s : Shared) (H : Hp) (C : Addr) (cl : List (Str × Addr)) (fp : List Addr), PTsI (X.blk s H scope (compEnvC scope cl C X.env) fp) ifs ft)
    (he : ∀ (s : Shared) (H : Hp) (C : Addr) (cl : List (Str × Addr)) (fp : List Addr), PEI (X.blk s H scope (compEnvC scope cl C X.env) fp) elt fe) (hs : ∀ x, foldedSetIterable iter X.env x = pure x) :
    PSI X (.Assign [.Name y py] (.ListComp elt [⟨tg, iter, ifs, 0⟩] scope lpos) pos) (fun ρ S => ((fi ρ S).bind fun r S1 =>
      (lcN r (fun x S2 => (asPR p x (wipeL ρ (own.map (·.2))) S2).bind fun ρ1 S3 => (ft ρ1 S3).bind fun t S4 => if t = true then (fe ρ1 S4).bind fun y S5 => .ok (some y) S5 else .ok none S4) (r.len S1 + 1) 0 [] S1).bind
        fun ys S6 => .ok (.ref S6.length) (S6 ++ [.lst ys])).bind fun x S1 => (asPR (.name i) x ρ S1).bind fun ρ1 S2 => .ok (.next ρ1) S2) := by
  refine PS.imp (ps_setLc (tt := tIT X.K ft) (te := tI X.K fe) hc hN hy hyl hsw hi ok hg (fun s H C cl fp => (ht s H C cl fp).pts) he hs) fun D σ H ⟨φ, ρ, S, r, S', R, L, e, P⟩ => ?_
  refine (pei_lc (pos := lpos) hc hN hi ok hp hg ht he hs).2 σ H _ ?_
  refine tI_step R L e fun x S1 _ e1 φ1 v1 H1 E1 R1 L1 r1 => ?_
  cases e1
  exact P φ1 _ H1 E1 R1 (L1.set i r1)
end
end Mp

/-! Mp8: from the program's text to the small language; it holds of the text what holds of the small one. -/
namespace Mp
open PySem PySem.Spec PyProof.Rows L2

/-! ### looks at the text -/
def isStar : Expr → Bool
  | .Starred _ _ => true
  | _ => false
theorem star_one {a : Expr} (h : isStar a = false) (es : List Expr) (env : Env) : starEach (a :: es) env = (false, eval a env) :: starEach es env := by
  cases a <;> first | rfl | cases h
theorem star_none {pos : Pos} {env : Env} : ∀ {es : List Expr}, es.all (fun e => !isStar e) = true → (backTo pos (starEach es env)).any (·.1) = false
  | [], _ => rfl
  | a :: es, h => by
    rw [List.all_cons, Bool.and_eq_true] at h
    rw [star_one (by simpa using h.1)]
    show (false || (backTo pos (starEach es env)).any (·.1)) = false
    rw [star_none h.2]; rfl
theorem star_all {pos : Pos} {env : Env} : ∀ {es : List Expr}, es.all (fun e => !isStar e) = true → (backTo pos (starEach es env)).all (fun x => !x.1) = true
  | [], _ => rfl
  | a :: es, h => by
    rw [List.all_cons, Bool.and_eq_true] at h
    rw [star_one (by simpa using h.1)]
    show (true && (backTo pos (starEach es env)).all (fun x => !x.1)) = true
    rw [star_all h.2]; rfl
theorem few_ok {pos : Pos} {env : Env} {es : List Expr} (h : es.all (fun e => !isStar e) = true) (hl : es.length < 29) :
    ((backTo pos (starEach es env)).all (fun x => !x.1) && (backToKw pos (keywordEach [] env)).all (fun x => x.1.isSome) && decide (es.length + ([] : List Keyword).length + (if ([] : List Keyword).isEmpty then 0 else 1) < 30)) = true := by
  rw [star_all h]
  have : decide (es.length + ([] : List Keyword).length + (if ([] : List Keyword).isEmpty then 0 else 1) < 30) = true := by
    rw [decide_eq_true_eq]
    show es.length + 0 + 0 < 30
    omega
  rw [this]; rfl
/-- a receiver that is no call of a name with nothing -/
def plainBase : Expr → Bool
  | .Call (.Name x _) [] [] _ => x != ("super" : Str)
  | _ => true
theorem base_ok {o : Expr} (h : plainBase o = true) (name : Str) (env : Env) : attributeBase o name env (eval o env) = eval o env := by
  unfold attributeBase
  split
  · have h : (_ != ("super" : Str)) = true := h
    rw [h]
    simp
  · rfl
def isSlice : Expr → Bool
  | .Slice _ _ _ _ => true
  | _ => false
theorem plainIx_ok {b : Expr} (h : isSlice b = false) : PlainIx b := by
  intro o i
  cases b <;> first | rfl | cases h
def isSet : Expr → Bool
  | .Set _ _ _ => true
  | _ => false
theorem folded_ok {e : Expr} (h : isSet e = false) (env : Env) (x : Value) : foldedSetIterable e env x = pure x := by
  cases e <;> first | rfl | cases h
def isLc : Expr → Bool
  | .ListComp _ _ _ _ => true | .SetComp _ _ _ _ => true | .DictComp _ _ _ _ _ => true
  | _ => false
theorem swaps_plain {e : Expr} (h : isLc e = false) (t : Option Expr) (l : Nat) (env : Env) : swapsWith e t l env = pure false := by
  cases e <;> first | rfl | cases h
theorem swaps_sub {o i : Expr} {p : Pos} (e : Expr) (l : Nat) (env : Env) : swapsWith e (some (.Subscript o i p)) l env = pure false := by
  cases e <;> rfl
theorem swaps_tup {ts : List Expr} {k : Nat} {p : Pos} (e : Expr) (l : Nat) (env : Env) : swapsWith e (some (.Tuple ts k p)) l env = pure false := by
  cases e <;> rfl
def bkOf (sc : Scope) : ScopeKind := if sc.kind.isAnnotationScope then .function else sc.kind
/-- name = [..]: does the comprehension hand its list straight to the name -/
def lcSwap (sc : Scope) (y : Str) (py lp : Pos) (scope : Scope) : Bool := bkOf sc == .function && sc.names.lookup y == some .local && py.line == lp.line && !(scope.names.any fun (n, k) => n == y && (k == .local || k == .cell))
theorem lcSwap_ok {elt : Expr} {gs : List Comprehension} {scope : Scope} {lp py : Pos} {y : Str} {l : Nat} {env : Env} : swapsWith (.ListComp elt gs scope lp) (some (.Name y py)) l env = pure (lcSwap env.scope y py lp scope) := rfl
/-- a, b = x, y -/
def swS (sc : Scope) (ts vs : List Expr) : Option (Option (List Str)) :=
  if !(ts.length == 2 || ts.length == 3) || vs.length != ts.length || bkOf sc != .function then some none
  else if vs.any fun | .Starred .. => true | _ => false then some none
  else
    let line := (ts.head?.map (·.pos.line)).getD 0
    let names := ts.filterMap fun
      | .Name id pos => if sc.names.lookup id == some .local && pos.line == line then some id else none
      | _ => none
    if names.length != ts.length || names.eraseDups.length != names.length then some none
    else if vs.all (foldedForSure 8) then some none
    else if vs.all (constantsAlone 8) then none
    else some (some names)
theorem swS_ok {ts vs : List Expr} {k k2 : Nat} {p p2 : Pos} {env : Env} {r : Option (List Str)} (h : swS env.scope ts vs = some r) : swappedStores [.Tuple ts k p] (.Tuple vs k2 p2) env = pure r := by
  unfold swS at h
  unfold swappedStores
  split at h
  · rename_i c1
    cases h
    exact if_pos c1
  · rename_i c1
    refine Eq.trans (if_neg c1) ?_
    split at h
    · rename_i c2
      cases h
      exact if_pos c2
    · rename_i c2
      refine Eq.trans (if_neg c2) ?_
      dsimp only at h
      split at h
      · rename_i c3
        cases h
        exact if_pos c3
      · rename_i c3
        refine Eq.trans (if_neg c3) ?_
        split at h
        · rename_i c4
          cases h
          exact if_pos c4
        · rename_i c4
          refine Eq.trans (if_neg c4) ?_
          split at h
          · cases h
          · rename_i c5
            cases h
            exact if_neg c5
def isTup : Expr → Bool
  | .Tuple _ _ _ => true
  | _ => false
theorem sw_plainV {t e : Expr} (h : isTup e = false) (env : Env) : swappedStores [t] e env = pure none := by
  unfold swappedStores
  cases e <;> first | (cases t <;> rfl) | cases h
theorem sw_name {y : Str} {p : Pos} (e : Expr) (env : Env) : swappedStores [.Name y p] e env = pure none := by
  unfold swappedStores
  cases e <;> rfl
theorem sw_sub {o i : Expr} {p : Pos} (e : Expr) (env : Env) : swappedStores [.Subscript o i p] e env = pure none := by
  unfold swappedStores
  cases e <;> rfl
theorem asgE_one {t : Expr} (h : isStar t = false) (es : List Expr) (env : Env) : (assignEach (t :: es) env).map (·.2) = assign t env :: (assignEach es env).map (·.2) := by
  cases t <;> first | rfl | cases h
theorem asgE_len {env : Env} : ∀ es : List Expr, (assignEach es env).length = es.length
  | [] => rfl
  | t :: es => by
    have : (assignEach (t :: es) env).length = (assignEach es env).length + 1 := by cases t <;> rfl
    rw [this, asgE_len es]; rfl
theorem asgE_star {env : Env} : ∀ {es : List Expr}, es.all (fun e => !isStar e) = true → (assignEach es env).findIdx? (·.1) = none
  | [], _ => rfl
  | t :: es, h => by
    rw [List.all_cons, Bool.and_eq_true] at h
    have : assignEach (t :: es) env = (false, assign t env) :: assignEach es env := by
      have h1 : isStar t = false := by simpa using h.1
      cases t <;> first | rfl | cases h1
    rw [this, List.findIdx?_cons]
    simp only [Bool.false_eq_true, if_false]
    rw [asgE_star h.2]; rfl
/-! ### what is known where one stands -/
def btName0 : Str → Option Bt := fun x =>
  if x = "len" then some .len else if x = "int" then some .int else if x = "abs" then some .abs else if x = "ord" then some .ord else if x = "str" then some .str else if x = "tuple" then some .tuple
  else if x = "list" then some .list else if x = "sum" then some .sum else if x = "max" then some .max else if x = "min" then some .min else if x = "all" then some .all else if x = "any" then some .any else none
def btName (x : Str) : Option Bt := if x = "sorted" then some .sorted else btName0 x
def tyName : Str → Option Ty := fun x =>
  if x = "int" then some .int else if x = "str" then some .str else if x = "tuple" then some .tuple else if x = "list" then some .list else if x = "bool" then some .bool else if x = "dict" then some .dict else none
def mtName (six : Bool) : Str → Option Mt := fun x =>
  if x = "append" then some .append else if x = "extend" then some .extend else if x = "pop" then some .pop else if x = "index" then some (if six = true then .sindex else .index) else if x = "join" then some .join else if x = "ljust" then some .ljust else none
/-- the program's names: its defs (by number), its constants, the built-in names that it does not hide -/
structure Tab where
  fns : List (Str × (Nat × List Str))
  cts : List (Str × PV)
  bts : List Str
  six : Bool := false
  gcd : Bool := false
structure CC where
  N : List Str
  sc : Scope
  fn : Str → Bool
structure Glob (X : Cx) (G : Tab) (k : Nat) (c : Calls) : Prop where
  fns : ∀ x i ps, G.fns.lookup x = some (i, ps) → ∃ (f : Addr) (fd : FuncData), FnOk X.prog X.w X.K X.mg X.base CX0 k f fd ps (spI X.K ps.length (c i)) ∧ Takes1 ps.length (c i) ∧ X.mg x = some (.ref f) ∧ PySem.W.keepIn X.K (.ref f) = true ∧ Binds X.K fd ps [] ∧ KB fd ps
  cts : ∀ x v, G.cts.lookup x = some v → ∃ (u : Value) (w : V), X.mg x = some u ∧ RelV w u ∧ ∀ φ H, relV X.K φ H v w
  bts : ∀ x, G.bts.contains x = true → X.mg x = none
  gcd : G.gcd = true → X.mg ("gcd" : Str) = some (.builtin "math.gcd")
structure Ag (X : Cx) (c : CC) (k : Nat) : Prop where
  N : X.N = c.N
  nd : c.N.Nodup
  sc : X.env.scope = c.sc
  fn : ∀ x, c.fn x = true → X.fn x = true
  calm : X.calm = true
  room : Room k X.A
def isVis (sc : Scope) (x : Str) : Bool := match sc.names.lookup x with
  | some .local => true | some .cell => true | some .free => true | _ => false
def isGl (sc : Scope) (x : Str) : Bool := match sc.names.lookup x with
  | some .globalImplicit => true | _ => false
def isLoc (c : CC) (x : Str) : Bool := match c.sc.names.lookup x with
  | some .local => true | some .cell => c.fn x | _ => false
def slotOf (N : List Str) (x : Str) : Option Nat := match N.findIdx? (· == x) with
  | some i => if N[i]? = some x then some i else none
  | none => none
theorem slot_ok {N : List Str} {x : Str} {i : Nat} (h : slotOf N x = some i) : N[i]? = some x := by
  unfold slotOf at h
  split at h
  · split at h
    · rename_i e; cases h; exact e
    · cases h
  · cases h
section
variable {X : Cx} {c : CC} {k : Nat}
theorem vis_ok {sc : Scope} {x : Str} (h : isVis sc x = true) : Vis sc x := by
  unfold isVis at h
  split at h
  · rename_i e; exact .inl e
  · rename_i e; exact .inr (.inl e)
  · rename_i e; exact .inr (.inr e)
  · cases h
theorem gl_ok (A : Ag X c k) {x : Str} (h : isGl c.sc x = true) : Gl X x := by
  unfold isGl at h
  split at h
  · rename_i e
    show X.env.scope.names.lookup x = some .globalImplicit
    rw [A.sc]; exact e
  · cases h
theorem loc_ok (A : Ag X c k) {x : Str} (h : isLoc c x = true) : L2.Loc X.env.scope x ∧ (X.fn x = true ∨ X.env.scope.names.lookup x = some .local) := by
  unfold isLoc at h
  rw [A.sc]
  split at h
  · rename_i e; exact ⟨.inl e, .inr e⟩
  · rename_i e; exact ⟨.inr e, .inl (A.fn x h)⟩
  · cases h
end
/-! ### the translation -/
def okNm (x : Str) : Bool := !(x == ("__debug__" : Str)) && !(x == ("__classdict__" : Str)) && decide (x ≠ "__name__")
def cOwn (N : List Str) (scope : Scope) : List (Str × Nat) := scope.names.filterMap fun y => match y.2 with
  | .local => (slotOf N y.1).map fun i => (y.1, i)
  | .cell => (slotOf N y.1).map fun i => (y.1, i)
  | _ => none
def subC (c : CC) (scope : Scope) : CC := ⟨c.N, relS scope c.sc, fun x => scope.names.lookup x == some .cell⟩
def cPt (c : CC) : Nat → Expr → Option Pt
  | 0, _ => none
  | n + 1, e => match e with
    | .Name x _ => if isLoc c x = true then (slotOf c.N x).map .name else none
    | .Tuple es _ _ => if es.all (fun e => !isStar e) = true then (go n es).map .tup else none
    | _ => none
where go (n : Nat) : List Expr → Option Pt
  | [] => some .nil
  | e :: es => match cPt c n e, go n es with
    | some p, some ps => some (.cons p ps)
    | _, _ => none
variable (G : Tab)
/-- the one argument is range(..) -/
def isRg (sc : Scope) : List Expr → Bool
  | [.Call (.Name y _) _ [] _] => y == ("range" : Str) && isGl sc y
  | _ => false
mutual
def cE : Nat → CC → Expr → Option E
  | 0, _, _ => none
  | n + 1, c, e => match e with
    | .Name x _ => if okNm x = true then (if isVis c.sc x = true then (slotOf c.N x).map .var else if isGl c.sc x = true then (G.cts.lookup x).map .cst else none) else none
    | .Constant k _ _ => match k with
      | .int i => some (.cst (.int i)) | .bool b => some (.cst (.bl b)) | .none => some (.cst .non) | .str x => some (.cst (.str x.cps.toList)) | _ => none
    | .BinOp a op b _ => match cE n c a, cE n c b with
      | some A, some B => some (.bin op A B) | _, _ => none
    | .UnaryOp op a _ => match op, cE n c a with
      | .USub, some A => some (.neg A) | .Not, some A => some (.not A) | _, _ => none
    | .Compare a ops bs _ => match ops, bs with
      | [op], [b] => if behindInMarks op b = false then (match cE n c a, cE n c b with | some A, some B => some (.cmp op A B) | _, _ => none) else none
      | [op, op'], [b, d] => if lastMarks [op, op'] [b, d] = false then (match cE n c a, cE n c b, cE n c d with | some A, some B, some D => some (.chain op op' A B D) | _, _, _ => none) else none
      | _, _ => none
    | .BoolOp op es pos => match es with
      | [] => none
      | [a] => cE n c a
      | a :: b :: rest => match cE n c a, cE n c (.BoolOp op (b :: rest) pos) with
        | some A, some B => some (match op with | .And => .and A B | .Or => .or A B) | _, _ => none
    | .IfExp t a b _ => match cE n c t, cE n c a, cE n c b with
      | some D, some A, some B => some (.ite D A B) | _, _, _ => none
    | .Tuple es _ _ => (cEs n c es).map .tup
    | .List es _ => (cEs n c es).map .lst
    | .Subscript a i _ => match i with
      | .Slice lo hi none _ => match cE n c a, cO n c lo, cO n c hi with
        | some A, some L, some H => some (.sl A L H) | _, _, _ => none
      | i => if isSlice i = false then (match cE n c a, cE n c i with | some A, some I => some (.ix A I) | _, _ => none) else none
    | .Call f es kws cpos => match kws with
      | [] => match f with
        | .Name x _ => if okNm x = true ∧ isGl c.sc x = true then
            (match G.fns.lookup x with
            | some i => (cEs n c es).map (.call i.1)
            | none => if x = "gcd" ∧ G.gcd = true then (match es with
                | [] => none
                | a :: r => (cEs n c (a :: r)).map (.bt .gcd)) else if G.bts.contains x = true then
                (if (x = "list" ∨ x = "tuple") ∧ isRg c.sc es = true ∧ G.bts.contains ("range" : Str) = true ∧ G.fns.lookup ("range" : Str) = none then (match es with
                  | [.Call _ es2 _ _] => (match es2 with
                    | [a] => if isStar a = false then (cE n c a).map (.lrg (decide (x = "tuple")) .none) else none
                    | [a, b] => if isStar a = false ∧ isStar b = false then (match cE n c a, cE n c b with | some A, some B => some (.lrg (decide (x = "tuple")) (.some A) B) | _, _ => none) else none
                    | _ => none)
                  | _ => none)
                else if x = "isinstance" then (match es with
                  | [a, t] => (match t with
                    | .Name y _ => (match cE n c a, cTy c y with | some A, some T => if isStar a = false then some (.isi A [T]) else none | _, _ => none)
                    | .Tuple ns _ _ => (match cE n c a, cTys c ns with | some A, some Ts => if isStar a = false ∧ Ts.length ≤ 10 then some (.isi A Ts) else none | _, _ => none)
                    | _ => none)
                  | _ => none)
                else match es with
                  | [] => none
                  | a :: r => match btName x, cEs n c (a :: r) with | some b, some Es => some (.bt b Es) | _, _ => none)
              else none) else none
        | .Attribute o name apos => if plainBase o = true ∧ (apos.endLine == cpos.line) = true ∧ es.length < 29 then
            (match mtName G.six name, cE n c o, cEs n c es with | some m, some O, some Es => some (.mt m O Es) | _, _, _ => none) else none
        | _ => none
      | kw :: kws => match f, es with
        | .Name x _, [] => if okNm x = true ∧ isGl c.sc x = true then
            (match G.fns.lookup x with
            | some i => if (kw :: kws).map (·.arg) = i.2.map some then (cEs n c ((kw :: kws).map (·.value))).map (.call i.1) else none
            | none => none) else none
        | _, _ => none
    | .ListComp elt gs scope _ => match gs with
      | [⟨tg, iter, ifs, 0⟩] => if blkC c.N c.sc scope (cOwn c.N scope) = true ∧ isSet iter = false then
          (match cI n c (isTup tg) iter, cPt (subC c scope) n tg, cC n (subC c scope) ifs, cE n (subC c scope) elt with
          | some I, some p, some t, some L => if p.slots.all (fun i => decide (i ∈ (cOwn c.N scope).map (·.2))) = true then some (.lc ((cOwn c.N scope).map (·.2)) I p t L) else none
          | _, _, _, _ => none) else none
      | _ => none
    | _ => none
def cEs : Nat → CC → List Expr → Option Es
  | 0, _, _ => none
  | n + 1, c, es => match es with
    | [] => some .nil
    | e :: r => if isStar e = false then (match cE n c e, cEs n c r with | some A, some R => some (.cons A R) | _, _ => none) else none
def cO : Nat → CC → Option Expr → Option Oe
  | 0, _, _ => none
  | n + 1, c, o => match o with
    | none => some .none
    | some e => (cE n c e).map .some
def cC : Nat → CC → List Expr → Option Oe
  | 0, _, _ => none
  | n + 1, c, o => match o with
    | [] => some .none
    | [e] => (cE n c e).map .some
    | _ => none
def cTy (c : CC) (y : Str) : Option Ty := if okNm y = true ∧ isGl c.sc y = true ∧ G.bts.contains y = true then tyName y else none
def cTys (c : CC) : List Expr → Option (List Ty)
  | [] => some []
  | e :: r => match e with
    | .Name y _ => match cTy c y, cTys c r with | some t, some ts => some (t :: ts) | _, _ => none
    | _ => none
def cI : Nat → CC → Bool → Expr → Option It
  | 0, _, _, _ => none
  | n + 1, c, tp, e => match e with
    | .Call f es kws pos => match f, kws with
      | .Name x _, [] => if x = "range" then (if isGl c.sc x = true ∧ G.bts.contains x = true ∧ G.fns.lookup x = none ∧ 1 ≤ es.length ∧ es.length ≤ 3 then (cEs n c es).map .rng else none)
        else if x = "enumerate" ∧ tp = true then (if isGl c.sc x = true ∧ G.bts.contains x = true then (match es with
          | [a] => if isStar a = false then (cE n c a).map .enu else none
          | _ => none) else none)
        else (cE n c (.Call f es kws pos)).map .e
      | f, kws => (cE n c (.Call f es kws pos)).map .e
    | e => (cE n c e).map .e
end
end Mp

/-! Mp9: the translation of expressions is sound. -/
namespace Mp
open PySem PySem.Spec PyProof.Rows L2

section
variable {X : Cx} {pos p : Pos} {a : Expr} {es : List Expr} {fs : Loc → Store → Res (List PV)}
set_option maxHeartbeats 4000000 in
theorem bt_call {x : Str} {b : Bt} (h : btName x = some b) (hc : X.calm = true) (hg : Gl X x) (hm : X.mg x = none) (ha : PAI X (a :: es) fs) (hs : isStar a = false) (hss : es.all (fun e => !isStar e) = true) :
    PEI X (.Call (.Name x p) (a :: es) [] pos) (fun ρ S => (fs ρ S).bind fun xs S1 => btF b xs S1) := by
  unfold btName at h
  split at h
  · rename_i e; subst e; cases h; exact pei_callB call_sortedF hg hm (by decide +kernel) ha (by decide +kernel) (by decide +kernel) (star_one hs _ _) (star_none hss)
  unfold btName0 at h
  split at h
  · rename_i e; subst e; cases h; exact pei_callB call_lenF hg hm (by decide +kernel) ha (by decide +kernel) (by decide +kernel) (star_one hs _ _) (star_none hss)
  split at h
  · rename_i e; subst e; cases h; exact pei_callTy call_intF hg hm (by decide +kernel) ha (by decide +kernel) (by decide +kernel) (star_one hs _ _) (star_none hss)
  split at h
  · rename_i e; subst e; cases h; exact pei_callB call_absF hg hm (by decide +kernel) ha (by decide +kernel) (by decide +kernel) (star_one hs _ _) (star_none hss)
  split at h
  · rename_i e; subst e; cases h; exact pei_callB call_ordF hg hm (by decide +kernel) ha (by decide +kernel) (by decide +kernel) (star_one hs _ _) (star_none hss)
  split at h
  · rename_i e; subst e; cases h; exact pei_callTy call_strF hg hm (by decide +kernel) ha (by decide +kernel) (by decide +kernel) (star_one hs _ _) (star_none hss)
  split at h
  · rename_i e; subst e; cases h; exact pei_callTy call_tupleF hg hm (by decide +kernel) ha (by decide +kernel) (by decide +kernel) (star_one hs _ _) (star_none hss)
  split at h
  · rename_i e; subst e; cases h; exact pei_callTy call_listF hg hm (by decide +kernel) ha (by decide +kernel) (by decide +kernel) (star_one hs _ _) (star_none hss)
  split at h
  · rename_i e; subst e; cases h; exact pei_callB (call_sumF hc) hg hm (by decide +kernel) ha (by decide +kernel) (by decide +kernel) (star_one hs _ _) (star_none hss)
  split at h
  · rename_i e; subst e; cases h; exact pei_callB (call_maxF hc) hg hm (by decide +kernel) ha (by decide +kernel) (by decide +kernel) (star_one hs _ _) (star_none hss)
  split at h
  · rename_i e; subst e; cases h; exact pei_callB (call_minF hc) hg hm (by decide +kernel) ha (by decide +kernel) (by decide +kernel) (star_one hs _ _) (star_none hss)
  split at h
  · rename_i e; subst e; cases h; exact pei_callB (call_allF hc) hg hm (by decide +kernel) ha (by decide +kernel) (by decide +kernel) (star_one hs _ _) (star_none hss)
  split at h
  · rename_i e; subst e; cases h; exact pei_callB (call_anyF hc) hg hm (by decide +kernel) ha (by decide +kernel) (by decide +kernel) (star_one hs _ _) (star_none hss)
  · cases h
set_option maxHeartbeats 4000000 in
theorem mt_call {six : Bool} {x : Str} {m : Mt} {o : Expr} {fo : Loc → Store → Res PV} {apos : Pos} (h : mtName six x = some m) (ho : PEI X o fo) (ha : PAI X es fs) (hss : es.all (fun e => !isStar e) = true) (hb : plainBase o = true) (hl : (apos.endLine == pos.line) = true) (hn : es.length < 29)
    (hnil : es = [] → fs = fun _ S => .ok [] S) :
    PEI X (.Call (.Attribute o x apos) es [] pos) (fun ρ S => (fo ρ S).bind fun x S1 => if tyOf S1 x = some (mtTy m) then (fs ρ S1).bind fun xs S2 => mtF m x xs S2 else .bad) := by
  cases es with
  | nil =>
    rw [hnil rfl]
    unfold mtName at h
    split at h
    · rename_i e; subst e; cases h; exact pei_mt0 (T := .list) PySem.F.plainAttrs_list PySem.F.slot_list_append PySem.F.type_list_append mt_appendM ho (.inl rfl) (base_ok hb _ _) hl
    split at h
    · rename_i e; subst e; cases h; exact pei_mt0 (T := .list) PySem.F.plainAttrs_list PySem.F.slot_list_extend PySem.F.type_list_extend mt_extendM ho (.inl rfl) (base_ok hb _ _) hl
    split at h
    · rename_i e; subst e; cases h; exact pei_mt0 (T := .list) PySem.F.plainAttrs_list PySem.F.slot_list_pop PySem.F.type_list_pop mt_popM ho (.inl rfl) (base_ok hb _ _) hl
    split at h
    · rename_i e
      subst e
      cases six with
      | false => cases h; exact pei_mt0 (T := .list) PySem.F.plainAttrs_list PySem.F.slot_list_index PySem.F.type_list_index mt_indexM ho (.inl rfl) (base_ok hb _ _) hl
      | true => cases h; exact pei_mt0 (T := .str) PySem.F.plainAttrs_str PySem.F.slot_str_index PySem.F.type_str_index mt_sindexM ho (.inr rfl) (base_ok hb _ _) hl
    split at h
    · rename_i e; subst e; cases h; exact pei_mt0 (T := .str) PySem.F.plainAttrs_str PySem.F.slot_str_join PySem.F.type_str_join mt_joinM ho (.inr rfl) (base_ok hb _ _) hl
    split at h
    · rename_i e; subst e; cases h; exact pei_mt0 (T := .str) PySem.F.plainAttrs_str PySem.F.slot_str_ljust PySem.F.type_str_ljust mt_ljustM ho (.inr rfl) (base_ok hb _ _) hl
    · cases h
  | cons a es =>
    have hs : isStar a = false := by
      rw [List.all_cons, Bool.and_eq_true] at hss; simpa using hss.1
    have hr : es.all (fun e => !isStar e) = true := by
      rw [List.all_cons, Bool.and_eq_true] at hss; exact hss.2
    unfold mtName at h
    split at h
    · rename_i e; subst e; cases h; exact pei_mt (T := .list) PySem.F.plainAttrs_list PySem.F.slot_list_append PySem.F.type_list_append mt_appendM ho ha (.inl rfl) (base_ok hb _ _) (few_ok hss hn) hl (star_one hs _ _) (star_none hr)
    split at h
    · rename_i e; subst e; cases h; exact pei_mt (T := .list) PySem.F.plainAttrs_list PySem.F.slot_list_extend PySem.F.type_list_extend mt_extendM ho ha (.inl rfl) (base_ok hb _ _) (few_ok hss hn) hl (star_one hs _ _) (star_none hr)
    split at h
    · rename_i e; subst e; cases h; exact pei_mt (T := .list) PySem.F.plainAttrs_list PySem.F.slot_list_pop PySem.F.type_list_pop mt_popM ho ha (.inl rfl) (base_ok hb _ _) (few_ok hss hn) hl (star_one hs _ _) (star_none hr)
    split at h
    · rename_i e
      subst e
      cases six with
      | false => cases h; exact pei_mt (T := .list) PySem.F.plainAttrs_list PySem.F.slot_list_index PySem.F.type_list_index mt_indexM ho ha (.inl rfl) (base_ok hb _ _) (few_ok hss hn) hl (star_one hs _ _) (star_none hr)
      | true => cases h; exact pei_mt (T := .str) PySem.F.plainAttrs_str PySem.F.slot_str_index PySem.F.type_str_index mt_sindexM ho ha (.inr rfl) (base_ok hb _ _) (few_ok hss hn) hl (star_one hs _ _) (star_none hr)
    split at h
    · rename_i e; subst e; cases h; exact pei_mt (T := .str) PySem.F.plainAttrs_str PySem.F.slot_str_join PySem.F.type_str_join mt_joinM ho ha (.inr rfl) (base_ok hb _ _) (few_ok hss hn) hl (star_one hs _ _) (star_none hr)
    split at h
    · rename_i e; subst e; cases h; exact pei_mt (T := .str) PySem.F.plainAttrs_str PySem.F.slot_str_ljust PySem.F.type_str_ljust mt_ljustM ho ha (.inr rfl) (base_ok hb _ _) (few_ok hss hn) hl (star_one hs _ _) (star_none hr)
    · cases h
end
/-! ### the evaluator's rows -/
section
variable (c : Calls)
theorem ev_var (i : Nat) : evE c (.var i) = fun ρ S => getL ρ i S := by funext ρ S; simp only [evE]
theorem ev_cst (v : PV) : evE c (.cst v) = fun _ S => .ok v S := by funext ρ S; simp only [evE]
theorem ev_bin (op : Operator) (a b : E) : evE c (.bin op a b) = fun ρ S => (evE c a ρ S).bind fun x S1 => (evE c b ρ S1).bind fun y S2 => binV op x y S2 := by funext ρ S; simp only [evE]
theorem ev_neg (a : E) : evE c (.neg a) = fun ρ S => (evE c a ρ S).bind fun x S1 => negV x S1 := by funext ρ S; simp only [evE]
theorem ev_cmp (op : CmpOp) (a b : E) : evE c (.cmp op a b) = fun ρ S => (evE c a ρ S).bind fun x S1 => (evE c b ρ S1).bind fun y S2 => cmpV op x y S2 := by funext ρ S; simp only [evE]
theorem ev_chain (op op' : CmpOp) (a b d : E) : evE c (.chain op op' a b d) = fun ρ S => (evE c a ρ S).bind fun x S1 => (evE c b ρ S1).bind fun y S2 => (cmpV op x y S2).bind fun z S3 => match z with
    | .bl true => (evE c d ρ S3).bind fun w S4 => cmpV op' y w S4
    | .bl false => .ok (.bl false) S3
    | _ => .bad := by funext ρ S; simp only [evE] <;> rfl
theorem ev_and (a b : E) : evE c (.and a b) = fun ρ S => (evE c a ρ S).bind fun x S1 => (tru x S1).bind fun t S2 => if t = true then evE c b ρ S2 else .ok x S2 := by funext ρ S; simp only [evE]
theorem ev_or (a b : E) : evE c (.or a b) = fun ρ S => (evE c a ρ S).bind fun x S1 => (tru x S1).bind fun t S2 => if t = true then .ok x S2 else evE c b ρ S2 := by funext ρ S; simp only [evE]
theorem ev_not (a : E) : evE c (.not a) = fun ρ S => (evE c a ρ S).bind fun x S1 => (tru x S1).bind fun t S2 => .ok (.bl (!t)) S2 := by funext ρ S; simp only [evE]
theorem ev_ite (d a b : E) : evE c (.ite d a b) = fun ρ S => (evE c d ρ S).bind fun x S1 => (tru x S1).bind fun t S2 => if t = true then evE c a ρ S2 else evE c b ρ S2 := by funext ρ S; simp only [evE]
theorem ev_tup (es : Es) : evE c (.tup es) = fun ρ S => (evEs c es ρ S).bind fun xs S1 => if xs.length ≤ lim then .ok (.tup xs) S1 else .bad := by funext ρ S; simp only [evE]
theorem ev_lst (es : Es) : evE c (.lst es) = fun ρ S => (evEs c es ρ S).bind fun xs S1 => if xs.length ≤ lim then .ok (.ref S1.length) (S1 ++ [.lst xs]) else .bad := by funext ρ S; simp only [evE]
theorem ev_ix (a b : E) : evE c (.ix a b) = fun ρ S => (evE c a ρ S).bind fun x S1 => (evE c b ρ S1).bind fun y S2 => ixV x y S2 := by funext ρ S; simp only [evE]
theorem ev_sl (a : E) (lo hi : Oe) : evE c (.sl a lo hi) = fun ρ S => (evE c a ρ S).bind fun x S1 => (evO c lo ρ S1).bind fun l S2 => (evO c hi ρ S2).bind fun h S3 => slV x l h S3 := by funext ρ S; simp only [evE]
theorem ev_call (f : Nat) (es : Es) : evE c (.call f es) = fun ρ S => (evEs c es ρ S).bind fun xs S1 => c f xs S1 := by funext ρ S; simp only [evE]
theorem ev_bt (b : Bt) (es : Es) : evE c (.bt b es) = fun ρ S => (evEs c es ρ S).bind fun xs S1 => btF b xs S1 := by funext ρ S; simp only [evE]
theorem ev_mt (m : Mt) (o : E) (es : Es) : evE c (.mt m o es) = fun ρ S => (evE c o ρ S).bind fun x S1 => if tyOf S1 x = some (mtTy m) then (evEs c es ρ S1).bind fun xs S2 => mtF m x xs S2 else .bad := by funext ρ S; simp only [evE]
theorem ev_isi (a : E) (ts : List Ty) : evE c (.isi a ts) = fun ρ S => (evE c a ρ S).bind fun x S1 => isiF ts x S1 := by funext ρ S; simp only [evE]
theorem ev_lc (own : List Nat) (it : It) (tg : Pt) (d : Oe) (elt : E) : evE c (.lc own it tg d elt) = fun ρ S => (evI c it ρ S).bind fun r S1 =>
    (lcN r (fun x S2 => (asPR tg x (wipeL ρ own) S2).bind fun ρ1 S3 => (evC c d ρ1 S3).bind fun t S4 => if t = true then (evE c elt ρ1 S4).bind fun y S5 => .ok (some y) S5 else .ok none S4) (r.len S1 + 1) 0 [] S1).bind
      fun ys S6 => .ok (.ref S6.length) (S6 ++ [.lst ys]) := by funext ρ S; simp only [evE]
theorem ev_lrg (tp : Bool) (lo : Oe) (hi : E) : evE c (.lrg tp lo hi) = fun ρ S => (evO c lo ρ S).bind fun l S1 => (evE c hi ρ S1).bind fun y S2 => lrgV tp l y S2 := by funext ρ S; simp only [evE]
theorem ev_nil : evEs c .nil = fun _ S => .ok [] S := by funext ρ S; simp only [evEs]
theorem ev_cons (e : E) (es : Es) : evEs c (.cons e es) = fun ρ S => (evE c e ρ S).bind fun x S1 => (evEs c es ρ S1).bind fun xs S2 => .ok (x :: xs) S2 := by funext ρ S; simp only [evEs]
theorem ev_onone : evO c .none = fun _ S => .ok none S := by funext ρ S; simp only [evO]
theorem ev_osome (e : E) : evO c (.some e) = fun ρ S => (evE c e ρ S).bind fun x S1 => partV x S1 := by funext ρ S; simp only [evO]
theorem ev_cnone : evC c .none = fun _ S => .ok true S := by funext ρ S; simp only [evC]
theorem ev_csome (e : E) : evC c (.some e) = asT (evE c e) := by funext ρ S; simp only [evC, asT]
theorem ev_ie (e : E) : evI c (.e e) = fun ρ S => (evE c e ρ S).bind fun x S1 => iterV x S1 := by funext ρ S; simp only [evI]
theorem ev_enu (a : E) : evI c (.enu a) = fun ρ S => (evE c a ρ S).bind fun x S1 => enuV x S1 := by funext ρ S; simp only [evI]
theorem ev_rng (es : Es) : evI c (.rng es) = fun ρ S => (evEs c es ρ S).bind fun xs S1 => rngV xs S1 := by funext ρ S; simp only [evI]
end
/-! ### patterns -/
theorem Ag.cal {X : Cx} {c : CC} {k : Nat} (A : Ag X c k) {x : Str} {i : Nat} (h : slotOf c.N x = some i) : X.N[i]? = some x := by rw [A.N]; exact slot_ok h
theorem cPt_go_nil (c : CC) (n : Nat) : cPt.go c n [] = some .nil := by unfold cPt.go; rfl
theorem pt_sound {X : Cx} {c : CC} {k : Nat} (A : Ag X c k) : ∀ (n : Nat) (e : Expr) (p : Pt), cPt c n e = some p → PG X e (gP X.K p)
  | 0, _, _, h => by unfold cPt at h; cases h
  | n + 1, e, p, h => by
    unfold cPt at h
    split at h
    · split at h
      · rename_i hl
        obtain ⟨i, hi, rfl⟩ := Option.map_eq_some_iff.mp h
        obtain ⟨h1, h2⟩ := loc_ok A hl
        exact pgp_name (by rw [A.N]; exact A.nd) (A.cal hi) h1 h2
      · cases h
    · rename_i es _ _
      split at h
      · rename_i hs
        obtain ⟨ps, hp, rfl⟩ := Option.map_eq_some_iff.mp h
        have key : ∀ (es : List Expr) (ps : Pt), cPt.go c n es = some ps → es.all (fun e => !isStar e) = true → PGs X es (gPs X.K ps) ∧ ps.cnt = es.length := by
          intro es
          induction es with
          | nil => intro ps h _; rw [cPt_go_nil] at h; cases h; exact ⟨pgps_nil, rfl⟩
          | cons a r ih =>
            intro ps h hs
            unfold cPt.go at h
            split at h
            · rename_i q qs h1 h2
              cases h
              rw [List.all_cons, Bool.and_eq_true] at hs
              obtain ⟨g1, g2⟩ := ih _ h2 hs.2
              exact ⟨pgps_cons (pt_sound A n a q h1) g1 (asgE_one (by simpa using hs.1) _ _), by simp [Pt.cnt, g2]⟩
            · cases h
        obtain ⟨g1, g2⟩ := key es ps hp hs
        exact pgp_tup A.calm g1 (by rw [asgE_len, g2]) (asgE_star hs)
      · cases h
    · cases h
/-! ### expressions -/
structure Snd (G : Tab) (n : Nat) : Prop where
  e : ∀ c e E, cE G n c e = some E → ∀ X k cl, Ag X c k → Glob X G k cl → PEI X e (evE cl E) ∧ PTI X e (asT (evE cl E))
  es : ∀ c es Es, cEs G n c es = some Es → ∀ X k cl, Ag X c k → Glob X G k cl → PAI X es (evEs cl Es)
  o : ∀ c o O, cO G n c o = some O → ∀ X k cl, Ag X c k → Glob X G k cl → POI X o (evO cl O)
  c : ∀ c o O, cC G n c o = some O → ∀ X k cl, Ag X c k → Glob X G k cl → PTsI X o (evC cl O)
  i : ∀ c tp e I, cI G n c tp e = some I → ∀ X k cl, Ag X c k → Glob X G k cl → ∀ tg, (tp = true → isTup tg = true) → PII X tg e (evI cl I)
  ks : ∀ c (kws : List Keyword) Es, cEs G n c (kws.map (·.value)) = some Es → ∀ X k cl, Ag X c k → Glob X G k cl → PK X kws (tIA X.K (evEs cl Es))
  star : ∀ c es Es, cEs G n c es = some Es → es.all (fun e => !isStar e) = true
  b : ∀ c op a rest pos E, cE G n c (.BoolOp op (a :: rest) pos) = some E → ∀ X k cl, Ag X c k → Glob X G k cl → PWI X (.BoolOp op (a :: rest) pos) (evE cl E)
/-- the length of what an argument list gives -/
def Es.len : Es → Nat
  | .nil => 0
  | .cons _ es => es.len + 1
theorem evEs_len {cl : Calls} : ∀ {es : Es} {ρ : Loc} {S S' : Store} {xs : List PV}, evEs cl es ρ S = .ok xs S' → xs.length = es.len
  | .nil, _, _, _, _, h => by unfold evEs at h; cases h; rfl
  | .cons e es, _, _, _, _, h => by
    unfold evEs at h
    obtain ⟨x, S1, _, h2⟩ := bind_inv h
    obtain ⟨ys, S2, h3, h4⟩ := bind_inv h2
    cases h4
    simp [Es.len, evEs_len h3]
theorem PI.imp {X : Cx} {tg e : Expr} {t t' : TI} (h : PI X tg e t) (i : ∀ σ H Q, t' σ H Q → t σ H Q) : PI X tg e t' := ⟨fun pins s σ H Q I q => h.run pins s σ H Q I (i _ _ _ q)⟩
theorem len_if {cl : Calls} {es : Es} {n : Nat} (h : es.len = n) (ρ : Loc) (S : Store) : ((evEs cl es ρ S).bind fun xs S1 => rngV xs S1) = (evEs cl es ρ S).bind fun xs S1 => if xs.length = n then rngV xs S1 else .bad := by
  cases e : evEs cl es ρ S with
  | ok xs S1 =>
    simp only [Res.bind_ok]
    rw [if_pos (by rw [evEs_len e, h])]
  | exc => rfl
  | bad => rfl
theorem blk_ag {X : Cx} {c : CC} {k : Nat} {scope : Scope} (A : Ag X c k) (s : Shared) (H : Hp) (C : Addr) (cl : List (Str × Addr)) (fp : List Addr) : Ag (X.blk s H scope (compEnvC scope cl C X.env) fp) (subC c scope) k where
  N := A.N
  nd := A.nd
  sc := by
    show relS scope X.env.scope = relS scope c.sc
    rw [A.sc]
  fn := fun x h => h
  calm := A.calm
  room := A.room
theorem blk_glob {X : Cx} {G : Tab} {k : Nat} {cls : Calls} {scope : Scope} (A : Glob X G k cls) (s : Shared) (H : Hp) (C : Addr) (cl : List (Str × Addr)) (fp : List Addr) : Glob (X.blk s H scope (compEnvC scope cl C X.env) fp) G k cls where
  fns := A.fns
  cts := A.cts
  bts := A.bts
  gcd := A.gcd
theorem ty_ok {G : Tab} {X : Cx} {c : CC} {k : Nat} {cl : Calls} (A : Ag X c k) (B : Glob X G k cl) {y : Str} {t : Ty} (h : cTy G c y = some t) : TyName X y t := by
  unfold cTy at h
  split at h
  · rename_i hc
    have h1 := hc.1
    unfold okNm at h1
    simp only [Bool.and_eq_true, Bool.not_eq_true', decide_eq_true_eq] at h1
    refine ⟨gl_ok A hc.2.1, B.bts _ hc.2.2, ?_, h1.2, h1.1.1⟩
    unfold tyName at h
    split at h
    · rename_i e; subst e; cases h; decide +kernel
    split at h
    · rename_i e; subst e; cases h; decide +kernel
    split at h
    · rename_i e; subst e; cases h; decide +kernel
    split at h
    · rename_i e; subst e; cases h; decide +kernel
    split at h
    · rename_i e; subst e; cases h; decide +kernel
    split at h
    · rename_i e; subst e; cases h; decide +kernel
    · cases h
  · cases h
theorem tys_ok {G : Tab} {X : Cx} {c : CC} {k : Nat} {cl : Calls} (A : Ag X c k) (B : Glob X G k cl) : ∀ {es : List Expr} {ts : List Ty}, cTys G c es = some ts → TyNames X es ts
  | [], _, h => by unfold cTys at h; cases h; exact .nil
  | e :: r, _, h => by
    unfold cTys at h
    split at h
    · split at h
      · rename_i t ts h1 h2
        cases h
        exact .cons (ty_ok A B h1) (tys_ok A B h2)
      · cases h
    · cases h
theorem nm_ok {x : Str} (h : okNm x = true) : (x == ("__debug__" : Str)) = false ∧ (x == ("__classdict__" : Str)) = false ∧ x ≠ "__name__" := by
  unfold okNm at h
  simp only [Bool.and_eq_true, Bool.not_eq_true', decide_eq_true_eq] at h
  exact ⟨h.1.1, h.1.2, h.2⟩
theorem pti_of {X : Cx} {e : Expr} {f : Loc → Store → Res PV} (h : PEI X e f) (he : ∀ whole, isTrue e X.env whole = (do let v ← whole; standAt e.pos; holding [v] (truthy v))) : PEI X e f ∧ PTI X e (asT f) := ⟨h, pti_truth h he⟩
theorem snd_zero (G : Tab) : Snd G 0 where
  e := fun _ _ _ h => by unfold cE at h; cases h
  es := fun _ _ _ h => by unfold cEs at h; cases h
  o := fun _ _ _ h => by unfold cO at h; cases h
  c := fun _ _ _ h => by unfold cC at h; cases h
  i := fun _ _ _ _ h => by unfold cI at h; cases h
  ks := fun _ _ _ h => by unfold cEs at h; cases h
  star := fun _ _ _ h => by unfold cEs at h; cases h
  b := fun _ _ _ _ _ _ h => by unfold cE at h; cases h
theorem sound_call {G : Tab} {n : Nat} (ih : Snd G n) {c : CC} {x : Str} {np cpos : Pos} {es : List Expr} {E1 : E} (h : cE G (n + 1) c (.Call (.Name x np) es [] cpos) = some E1) {X : Cx} {k : Nat} {cl : Calls} (A : Ag X c k) (B : Glob X G k cl) : PEI X (.Call (.Name x np) es [] cpos) (evE cl E1) := by
  unfold cE at h
  dsimp only at h
  split at h
  · rename_i hx
    obtain ⟨n1, n2, n3⟩ := nm_ok hx.1
    have hg := gl_ok A hx.2
    split at h
    · rename_i i hi
      obtain ⟨Es, he, rfl⟩ := Option.map_eq_some_iff.mp h
      obtain ⟨f, fd, F, hl, hm, hk, hb, _⟩ := B.fns x i.1 i.2 hi
      cases es with
      | nil =>
        have : Es = .nil := by
          cases n with
          | zero => unfold cEs at he; cases he
          | succ n => unfold cEs at he; cases he; rfl
        subst this
        rw [ev_call]
        exact PE.imp (pei_call0 F hl A.room hg hm hk hb n1) fun σ H Q ⟨φ, ρ, S, r, S', R, L, e, P⟩ => ⟨φ, ρ, S, r, S', R, L, by rw [← e]; simp only [evEs], P⟩
      | cons a r =>
        have hs := ih.star c _ _ he
        rw [List.all_cons, Bool.and_eq_true] at hs
        rw [ev_call]
        exact pei_call F hl A.room hg hm hk hb (ih.es c _ _ he X k cl A B) n1 (star_one (by simpa using hs.1) _ _) (star_none hs.2)
    · split at h
      · rename_i hgc
        obtain ⟨hgx, hgt⟩ := hgc
        subst hgx
        split at h
        · cases h
        · obtain ⟨Es, he, rfl⟩ := Option.map_eq_some_iff.mp h
          have hs := ih.star c _ _ he
          rw [List.all_cons, Bool.and_eq_true] at hs
          rw [ev_bt]
          exact pei_callG call_gcdF hg (B.gcd hgt) (ih.es c _ _ he X k cl A B) n1 (star_one (by simpa using hs.1) _ _) (star_none hs.2)
      split at h
      · rename_i hbt
        have hm := B.bts _ hbt
        split at h
        · rename_i hrg
          obtain ⟨hnm, hr, hbr, hfr⟩ := hrg
          have hmr := B.bts _ hbr
          have hname : x = (if (decide (x = ("tuple" : Str))) = true then ("tuple" : Str) else "list") := by
            rcases hnm with rfl | rfl <;> decide +kernel
          split at h
          · rename_i f2 es2 kw2 p2
            unfold isRg at hr
            split at hr
            · rename_i heq
              injection heq with heq _
              injection heq with q1 q2 q3 q4
              subst q1 q3
              obtain ⟨hy, hgy⟩ := (Bool.and_eq_true ..).mp hr
              have hy := eq_of_beq hy
              subst hy
              have hgr := gl_ok A hgy
              split at h
              · rename_i a
                split at h
                · rename_i hst
                  obtain ⟨A1, h1, rfl⟩ := Option.map_eq_some_iff.mp h
                  rw [ev_lrg, ev_onone]
                  exact pei_lrg1 hname A.calm hg hm hgr hmr (ih.e _ _ _ h1 X k cl A B).1 (star_one hst _ _)
                · cases h
              · rename_i a b
                split at h
                · rename_i hst
                  split at h
                  · rename_i A1 B1 h1 h2
                    cases h
                    rw [ev_lrg, ev_osome]
                    exact pei_lrg2 hname A.calm hg hm hgr hmr (ih.e _ _ _ h1 X k cl A B).1 (ih.e _ _ _ h2 X k cl A B).1 (star_one hst.1 _ _) (star_one hst.2 _ _) (star_none (by rw [List.all_cons, hst.2]; rfl))
                  · cases h
                · cases h
              · cases h
            · cases hr
          · cases h
        split at h
        · rename_i e
          subst e
          split at h
          · split at h
            · split at h
              · rename_i A1 T1 h1 h2
                split at h
                · rename_i hst
                  cases h
                  rw [ev_isi]
                  exact pei_isi1 (ih.e _ _ _ h1 X k cl A B).1 (ty_ok A B h2) hg hm (star_one hst _ _)
                · cases h
              · cases h
            · split at h
              · rename_i A1 T1 h1 h2
                split at h
                · rename_i hst
                  cases h
                  rw [ev_isi]
                  exact pei_isiT (ih.e _ _ _ h1 X k cl A B).1 (tys_ok A B h2) hst.2 hg hm (star_one hst.1 _ _)
                · cases h
              · cases h
            · cases h
          · cases h
        · split at h
          · cases h
          · split at h
            · rename_i b Es hb he
              cases h
              have hs := ih.star c _ _ he
              rw [List.all_cons, Bool.and_eq_true] at hs
              rw [ev_bt]
              exact bt_call hb A.calm hg hm (ih.es c _ _ he X k cl A B) (by simpa using hs.1) hs.2
            · cases h
      · cases h
  · cases h
end Mp

/-! Mp10: the translation of expressions is sound: all at once. -/
namespace Mp
open PySem PySem.Spec PyProof.Rows L2

theorem sound_call2 {G : Tab} {n : Nat} (ih : Snd G n) {c : CC} {f : Expr} {es : List Expr} {kws : List Keyword} {cpos : Pos} {E1 : E} (h : cE G (n + 1) c (.Call f es kws cpos) = some E1) {X : Cx} {k : Nat} {cl : Calls} (A : Ag X c k) (B : Glob X G k cl) : PEI X (.Call f es kws cpos) (evE cl E1) := by
  cases kws with
  | cons kw kws =>
    cases f with
    | Name x np =>
      cases es with
      | nil =>
        unfold cE at h
        dsimp only at h
        split at h
        · rename_i hx
          obtain ⟨n1, n2, n3⟩ := nm_ok hx.1
          have hg := gl_ok A hx.2
          split at h
          · rename_i i hi
            split at h
            · rename_i hks
              obtain ⟨Es, he, rfl⟩ := Option.map_eq_some_iff.mp h
              obtain ⟨f, fd, F, hl, hm, hk, _, hb⟩ := B.fns x i.1 i.2 hi
              rw [ev_call]
              exact pei_callK0 F hl A.room hg hm hk hb (ih.ks _ _ _ he X k cl A B) hks n1
            · cases h
          · cases h
        · cases h
      | cons _ _ => unfold cE at h; cases h
    | _ => unfold cE at h; cases h
  | nil =>
    cases f with
    | Name x np => exact sound_call ih h A B
    | Attribute o name apos =>
      unfold cE at h
      dsimp only at h
      split at h
      · rename_i hc
        split at h
        · rename_i m O Es h1 h2 h3
          cases h
          rw [ev_mt]
          refine mt_call h1 (ih.e _ _ _ h2 X k cl A B).1 (ih.es _ _ _ h3 X k cl A B) (ih.star _ _ _ h3) hc.1 hc.2.1 hc.2.2 fun e => ?_
          subst e
          have : Es = .nil := by
            cases n with
            | zero => unfold cEs at h3; cases h3
            | succ n => unfold cEs at h3; cases h3; rfl
          rw [this, ev_nil]
        · cases h
      · cases h
    | _ => simp only [cE] at h; cases h
theorem sound_bool {G : Tab} {n : Nat} (ih : Snd G n) {c : CC} {op : BoolOp} {a : Expr} {rest : List Expr} {pos : Pos} {E1 : E} (h : cE G (n + 1) c (.BoolOp op (a :: rest) pos) = some E1) {X : Cx} {k : Nat} {cl : Calls} (A : Ag X c k) (B : Glob X G k cl) :
    PEI X (.BoolOp op (a :: rest) pos) (evE cl E1) ∧ PWI X (.BoolOp op (a :: rest) pos) (evE cl E1) := by
  cases rest with
  | nil =>
    have h : cE G n c a = some E1 := by unfold cE at h; exact h
    obtain ⟨h1, h2⟩ := ih.e _ _ _ h X k cl A B
    refine ⟨pei_one h1, ?_⟩
    cases op with
    | And => exact pwi_and1 h2
    | Or => exact pwi_or1 h2
  | cons b rest =>
    unfold cE at h
    dsimp only at h
    split at h
    · rename_i A1 B1 h1 h2
      cases h
      obtain ⟨g1, g2⟩ := ih.e _ _ _ h1 X k cl A B
      obtain ⟨g3, _⟩ := ih.e _ _ _ h2 X k cl A B
      have g4 := ih.b _ _ _ _ _ _ h2 X k cl A B
      cases op with
      | And => rw [ev_and]; exact ⟨pei_and g1 g3, pwi_and g2 g4⟩
      | Or => rw [ev_or]; exact ⟨pei_or g1 g3, pwi_or g2 g4⟩
    · cases h
theorem cmp_hu {X : Cx} {c : CC} {k : Nat} (A : Ag X c k) : X.A.units + 100 < cLine := by have := A.room.un; omega
theorem sound_lc {G : Tab} {n : Nat} (ih : Snd G n) {c : CC} {elt tg iter : Expr} {ifs : List Expr} {scope : Scope} {lpos : Pos} {E1 : E} (h : cE G (n + 1) c (.ListComp elt [⟨tg, iter, ifs, 0⟩] scope lpos) = some E1) :
    ∃ I p t L, E1 = .lc ((cOwn c.N scope).map (·.2)) I p t L ∧ ∀ X k cl, Ag X c k → Glob X G k cl →
      (PII X tg iter (evI cl I) ∧ BlkOk X.N X.env.scope scope (cOwn c.N scope) ∧ (∀ i ∈ p.slots, i ∈ (cOwn c.N scope).map (·.2)) ∧
      (∀ (s : Shared) (H : Hp) (C : Addr) (ce : List (Str × Addr)) (fp : List Addr), PG (X.blk s H scope (compEnvC scope ce C X.env) fp) tg (gP X.K p)) ∧
      (∀ (s : Shared) (H : Hp) (C : Addr) (ce : List (Str × Addr)) (fp : List Addr), PTsI (X.blk s H scope (compEnvC scope ce C X.env) fp) ifs (evC cl t)) ∧
      (∀ (s : Shared) (H : Hp) (C : Addr) (ce : List (Str × Addr)) (fp : List Addr), PEI (X.blk s H scope (compEnvC scope ce C X.env) fp) elt (evE cl L)) ∧ (∀ x, foldedSetIterable iter X.env x = pure x)) := by
  unfold cE at h
  dsimp only at h
  split at h
  · rename_i heq
    cases heq
    split at h
    · rename_i hc
      split at h
      · rename_i I p t L h1 h2 h3 h4
        split at h
        · rename_i hp
          cases h
          refine ⟨I, p, t, L, rfl, fun X k cl A B => ⟨ih.i _ _ _ _ h1 X k cl A B tg (fun h => h), ?_, ?_, fun s H C ce fp => ?_, fun s H C ce fp => ?_, fun s H C ce fp => ?_, folded_ok hc.2 _⟩⟩
          · rw [A.N, A.sc]; exact blkOk_by hc.1
          · intro i hi
            exact of_decide_eq_true (List.all_eq_true.mp hp i hi)
          · exact pt_sound (blk_ag A s H C ce fp) n tg p h2
          · exact ih.c _ _ _ h3 _ k cl (blk_ag A s H C ce fp) (blk_glob B s H C ce fp)
          · exact (ih.e _ _ _ h4 _ k cl (blk_ag A s H C ce fp) (blk_glob B s H C ce fp)).1
        · cases h
      · cases h
    · cases h
  · cases h
theorem sound_e {G : Tab} {n : Nat} (ih : Snd G n) {c : CC} {e : Expr} {E1 : E} (h : cE G (n + 1) c e = some E1) {X : Cx} {k : Nat} {cl : Calls} (A : Ag X c k) (B : Glob X G k cl) : PEI X e (evE cl E1) ∧ PTI X e (asT (evE cl E1)) := by
  cases e with
  | Name x p =>
    refine pti_of ?_ fun _ => rfl
    unfold cE at h
    dsimp only at h
    split at h
    · rename_i hn
      obtain ⟨n1, n2, n3⟩ := nm_ok hn
      split at h
      · rename_i hv
        obtain ⟨i, hi, rfl⟩ := Option.map_eq_some_iff.mp h
        rw [ev_var]
        exact pei_var (A.cal hi) (by rw [A.sc]; exact vis_ok hv) n1 n2
      · split at h
        · rename_i hg
          obtain ⟨v, hv, rfl⟩ := Option.map_eq_some_iff.mp h
          rw [ev_cst]
          obtain ⟨u, w, h1, h2, h3⟩ := B.cts x v hv
          exact pei_cst (pe_glob (gl_ok A hg) h1 h2 n1) h3
        · cases h
    · cases h
  | Constant v j p =>
    refine pti_of ?_ fun _ => rfl
    unfold cE at h
    dsimp only at h
    split at h
    · cases h; rw [ev_cst]; exact pei_int
    · cases h; rw [ev_cst]; exact pei_bl
    · cases h; rw [ev_cst]; exact pei_non
    · cases h; rw [ev_cst]; exact pei_str
    · cases h
  | BinOp a op b p =>
    refine pti_of ?_ fun _ => rfl
    unfold cE at h
    dsimp only at h
    split at h
    · rename_i A1 B1 h1 h2
      cases h
      rw [ev_bin]
      exact pei_op (op_binV op) (ih.e _ _ _ h1 X k cl A B).1 (ih.e _ _ _ h2 X k cl A B).1
    · cases h
  | UnaryOp op a p =>
    unfold cE at h
    dsimp only at h
    split at h
    · rename_i A1 h1
      cases h
      refine pti_of ?_ fun _ => rfl
      rw [ev_neg]
      exact pei_neg (ih.e _ _ _ h1 X k cl A B).1
    · rename_i A1 h1
      cases h
      rw [ev_not]
      exact ⟨pei_not (ih.e _ _ _ h1 X k cl A B).1, pti_not (ih.e _ _ _ h1 X k cl A B).2⟩
    · cases h
  | Compare a ops bs p =>
    unfold cE at h
    dsimp only at h
    split at h
    · split at h
      · rename_i hm
        split at h
        · rename_i A1 B1 h1 h2
          cases h
          rw [ev_cmp]
          exact ⟨pei_cmp (op_cmpV (cmp_hu A) _) (ih.e _ _ _ h1 X k cl A B).1 (ih.e _ _ _ h2 X k cl A B).1 hm, pti_cmp (bools_cmp _) (op_cmpV (cmp_hu A) _) (ih.e _ _ _ h1 X k cl A B).1 (ih.e _ _ _ h2 X k cl A B).1 hm⟩
        · cases h
      · cases h
    · split at h
      · rename_i hm
        split at h
        · rename_i A1 B1 D1 h1 h2 h3
          cases h
          rw [ev_chain]
          exact ⟨pei_chain (op_cmpV (cmp_hu A) _) (op_cmpV (cmp_hu A) _) (ih.e _ _ _ h1 X k cl A B).1 (ih.e _ _ _ h2 X k cl A B).1 (ih.e _ _ _ h3 X k cl A B).1 hm,
            pti_chain (bools_cmp _) (op_cmpV (cmp_hu A) _) (op_cmpV (cmp_hu A) _) (ih.e _ _ _ h1 X k cl A B).1 (ih.e _ _ _ h2 X k cl A B).1 (ih.e _ _ _ h3 X k cl A B).1 hm⟩
        · cases h
      · cases h
    · cases h
  | BoolOp op es p =>
    cases es with
    | nil => unfold cE at h; cases h
    | cons a rest =>
      obtain ⟨h1, h2⟩ := sound_bool ih h A B
      exact ⟨h1, h2.pti⟩
  | IfExp t a b p =>
    unfold cE at h
    dsimp only at h
    split at h
    · rename_i D1 A1 B1 h1 h2 h3
      cases h
      rw [ev_ite]
      exact ⟨pei_ite (ih.e _ _ _ h1 X k cl A B).2 (ih.e _ _ _ h2 X k cl A B).1 (ih.e _ _ _ h3 X k cl A B).1, pti_ite (ih.e _ _ _ h1 X k cl A B).2 (ih.e _ _ _ h2 X k cl A B).2 (ih.e _ _ _ h3 X k cl A B).2⟩
    · cases h
  | Tuple es j p =>
    refine pti_of ?_ fun _ => rfl
    unfold cE at h
    obtain ⟨Es, h1, rfl⟩ := Option.map_eq_some_iff.mp h
    rw [ev_tup]
    exact pei_tup (ih.es _ _ _ h1 X k cl A B)
  | List es p =>
    refine pti_of ?_ fun _ => rfl
    unfold cE at h
    obtain ⟨Es, h1, rfl⟩ := Option.map_eq_some_iff.mp h
    rw [ev_lst]
    exact pei_lst (ih.es _ _ _ h1 X k cl A B)
  | Subscript a i p =>
    refine pti_of ?_ fun _ => rfl
    unfold cE at h
    dsimp only at h
    split at h
    · split at h
      · rename_i A1 L1 H1 h1 h2 h3
        cases h
        rw [ev_sl]
        exact pei_sl (ih.e _ _ _ h1 X k cl A B).1 (ih.o _ _ _ h2 X k cl A B) (ih.o _ _ _ h3 X k cl A B)
      · cases h
    · split at h
      · rename_i hs
        split at h
        · rename_i A1 I1 h1 h2
          cases h
          rw [ev_ix]
          exact pei_ix (ih.e _ _ _ h1 X k cl A B).1 (ih.e _ _ _ h2 X k cl A B).1 (plainIx_ok hs)
        · cases h
      · cases h
  | Call f es kws p => exact pti_of (sound_call2 ih h A B) fun _ => rfl
  | ListComp elt gs scope p =>
    refine pti_of ?_ fun _ => rfl
    match gs, h with
    | [⟨tg, iter, ifs, 0⟩], h =>
      obtain ⟨I, q, t, L, rfl, hh⟩ := sound_lc ih h
      obtain ⟨h1, h2, h3, h4, h5, h6, h7⟩ := hh X k cl A B
      rw [ev_lc]
      exact (pei_lc A.calm (by rw [A.N]; exact A.nd) h1 h2 h3 h4 h5 h6 h7).1
    | [], h => unfold cE at h; cases h
    | ⟨_, _, _, .ofNat (_ + 1)⟩ :: [], h => unfold cE at h; cases h
    | ⟨_, _, _, .negSucc _⟩ :: [], h => unfold cE at h; cases h
    | _ :: _ :: _, h => unfold cE at h; simp only at h; cases h
  | _ => unfold cE at h; cases h
theorem snd_succ (G : Tab) (n : Nat) (ih : Snd G n) : Snd G (n + 1) where
  e := fun c e E h X k cl A B => sound_e ih h A B
  es := fun c es Es h X k cl A B => by
    unfold cEs at h
    cases es with
    | nil => cases h; rw [ev_nil]; exact pai_nil
    | cons a r =>
      dsimp only at h
      split at h
      · rename_i hs
        split at h
        · rename_i A1 R1 h1 h2
          cases h
          rw [ev_cons]
          exact pai_cons (ih.e _ _ _ h1 X k cl A B).1 (ih.es _ _ _ h2 X k cl A B) (star_one hs _ _)
        · cases h
      · cases h
  o := fun c o O h X k cl A B => by
    unfold cO at h
    cases o with
    | none => cases h; rw [ev_onone]; exact poi_none
    | some e =>
      obtain ⟨E1, h1, rfl⟩ := Option.map_eq_some_iff.mp h
      rw [ev_osome]
      exact poi_some (ih.e _ _ _ h1 X k cl A B).1
  c := fun c o O h X k cl A B => by
    unfold cC at h
    match o, h with
    | [], h => cases h; rw [ev_cnone]; exact ptsi_nil
    | [e], h =>
      obtain ⟨E1, h1, rfl⟩ := Option.map_eq_some_iff.mp h
      rw [ev_csome]
      exact ptsi_one (ih.e _ _ _ h1 X k cl A B).2
    | _ :: _ :: _, h => cases h
  i := fun c tp e I h X k cl A B tg htp => by
    have plain : ∀ {e : Expr}, (cE G n c e).map It.e = some I → PII X tg e (evI cl I) := fun {e} h => by
      obtain ⟨E1, h1, rfl⟩ := Option.map_eq_some_iff.mp h
      rw [ev_ie]
      exact pii_e (ih.e _ _ _ h1 X k cl A B).1
    cases e with
    | Call f es kws pos =>
      cases f with
      | Name x np =>
        cases kws with
        | nil =>
          unfold cI at h
          dsimp only at h
          split at h
          · rename_i hx
            subst hx
            split at h
            · rename_i hc
              obtain ⟨Es, h1, rfl⟩ := Option.map_eq_some_iff.mp h
              have hg := gl_ok A hc.1
              have hm := B.bts _ hc.2.1
              have ha := ih.es _ _ _ h1 X k cl A B
              have hst := ih.star _ _ _ h1
              rw [ev_rng]
              match es, hc.2.2.2.1, hc.2.2.2.2, h1, ha, hst with
              | [a], _, _, h1, ha, hst =>
                have h0 : Es.len = 1 := by
                  cases n with
                  | zero => unfold cEs at h1; cases h1
                  | succ n =>
                    unfold cEs at h1; dsimp only at h1
                    split at h1
                    · split at h1
                      · rename_i h3; cases h1
                        cases n with
                        | zero => unfold cEs at h3; cases h3
                        | succ n => unfold cEs at h3; cases h3; rfl
                      · cases h1
                    · cases h1
                rw [List.all_cons, Bool.and_eq_true] at hst
                refine PI.imp (pii_rng1 hg hm ha (star_one (by simpa using hst.1) _ _)) fun σ H Q ⟨φ, ρ, S, r, S', R, L, e, P⟩ => ⟨φ, ρ, S, r, S', R, L, ?_, P⟩
                rw [← e]; exact (len_if h0 ρ S).symm
              | [a, b], _, _, h1, ha, hst =>
                have h0 : Es.len = 2 := by
                  cases n with
                  | zero => unfold cEs at h1; cases h1
                  | succ n =>
                    unfold cEs at h1; dsimp only at h1
                    split at h1
                    · split at h1
                      · rename_i h3; cases h1
                        cases n with
                        | zero => unfold cEs at h3; cases h3
                        | succ n =>
                          unfold cEs at h3; dsimp only at h3
                          split at h3
                          · split at h3
                            · rename_i h4; cases h3
                              cases n with
                              | zero => unfold cEs at h4; cases h4
                              | succ n => unfold cEs at h4; cases h4; rfl
                            · cases h3
                          · cases h3
                      · cases h1
                    · cases h1
                rw [List.all_cons, List.all_cons, Bool.and_eq_true, Bool.and_eq_true] at hst
                have s1 : isStar a = false := by simpa using hst.1
                have s2 : isStar b = false := by simpa using hst.2.1
                refine PI.imp (pii_rng2 hg hm ha (by rw [star_one s1, star_one s2]; rfl) (star_one s2 _ _)) fun σ H Q ⟨φ, ρ, S, r, S', R, L, e, P⟩ => ⟨φ, ρ, S, r, S', R, L, ?_, P⟩
                rw [← e]; exact (len_if h0 ρ S).symm
              | [a, b, d], _, _, h1, ha, hst =>
                have h0 : Es.len = 3 := by
                  cases n with
                  | zero => unfold cEs at h1; cases h1
                  | succ n =>
                    unfold cEs at h1; dsimp only at h1
                    split at h1
                    · split at h1
                      · rename_i h3; cases h1
                        cases n with
                        | zero => unfold cEs at h3; cases h3
                        | succ n =>
                          unfold cEs at h3; dsimp only at h3
                          split at h3
                          · split at h3
                            · rename_i h4; cases h3
                              cases n with
                              | zero => unfold cEs at h4; cases h4
                              | succ n =>
                                unfold cEs at h4; dsimp only at h4
                                split at h4
                                · split at h4
                                  · rename_i h5; cases h4
                                    cases n with
                                    | zero => unfold cEs at h5; cases h5
                                    | succ n => unfold cEs at h5; cases h5; rfl
                                  · cases h4
                                · cases h4
                            · cases h3
                          · cases h3
                      · cases h1
                    · cases h1
                have hst' := hst
                rw [List.all_cons, Bool.and_eq_true] at hst
                have s1 : isStar a = false := by simpa using hst.1
                refine PI.imp (pii_rng3 hg hm ha (star_one s1 _ _) (star_none hst.2)) fun σ H Q ⟨φ, ρ, S, r, S', R, L, e, P⟩ => ⟨φ, ρ, S, r, S', R, L, ?_, P⟩
                rw [← e]; exact (len_if h0 ρ S).symm
              | _ :: _ :: _ :: _ :: _, _, hl, _, _, _ => simp at hl
            · cases h
          · split at h
            · rename_i hx
              obtain ⟨hx, htp2⟩ := hx
              subst hx
              split at h
              · rename_i hc
                have hg := gl_ok A hc.1
                have hm := B.bts _ hc.2
                split at h
                · rename_i a
                  split at h
                  · rename_i hst
                    obtain ⟨A1, h1, rfl⟩ := Option.map_eq_some_iff.mp h
                    have htup := htp htp2
                    cases tg with
                    | Tuple elts kk tpos =>
                      rw [ev_enu]
                      exact pii_enu hg hm (ih.e _ _ _ h1 X k cl A B).1 (star_one hst _ _)
                    | _ => cases htup
                  · cases h
                · cases h
              · cases h
            · exact plain h
        | cons _ _ => exact plain (by unfold cI at h; exact h)
      | _ => exact plain (by unfold cI at h; exact h)
    | _ => exact plain (by unfold cI at h; exact h)
  ks := fun c kws Es h X k cl A B => by
    cases kws with
    | nil => unfold cEs at h; cases h; rw [ev_nil]; exact pki_nil
    | cons kw kws =>
      obtain ⟨nm, e, kp⟩ := kw
      have h : cEs G (n + 1) c (e :: kws.map (·.value)) = some Es := h
      unfold cEs at h
      dsimp only at h
      split at h
      · rename_i hs
        split at h
        · rename_i A1 R1 h1 h2
          cases h
          rw [ev_cons]
          exact pki_cons (ih.e _ _ _ h1 X k cl A B).1 (ih.ks _ _ _ h2 X k cl A B)
        · cases h
      · cases h
  star := fun c es Es h => by
    unfold cEs at h
    cases es with
    | nil => rfl
    | cons a r =>
      dsimp only at h
      split at h
      · rename_i hs
        split at h
        · rename_i A1 R1 h1 h2
          rw [List.all_cons, hs, ih.star _ _ _ h2]; rfl
        · cases h
      · cases h
  b := fun c op a rest pos E h X k cl A B => (sound_bool ih h A B).2
theorem sound_all (G : Tab) : ∀ n, Snd G n
  | 0 => snd_zero G
  | n + 1 => snd_succ G n (sound_all G n)
end Mp

/-! Mp11: statements and defs. -/
namespace Mp
open PySem PySem.Spec PyProof.Rows L2

section
variable (G : Tab)
mutual
def cT : Nat → CC → Stmt → Option T
  | 0, _, _ => none
  | n + 1, c, st => match st with
    | .Pass _ => some .pass
    | .Break _ => some .brk
    | .Continue _ => some .cont
    | .Return o _ => match o with
      | some e => (cE G n c e).map .ret
      | none => some .retN
    | .Expr e _ => match e with
      | .Constant (.str _) _ _ => some .pass
      | e => if isLc e = false then (cE G n c e).map .expr else none
    | .Raise _ _ _ => some .never
    | .Assign ts e _ => match ts with
      | [t] => match t with
        | .Name y py => match cPt c n (.Name y py), cE G n c e with
          | some p, some A => (match e with
            | .ListComp _ gs scope lp => (match gs with
              | [⟨_, _, _, 0⟩] => if lcSwap c.sc y py lp scope = true then (if c.sc.names.lookup y = some .local then some (.asg (.pat p) A) else none) else some (.asg (.pat p) A)
              | _ => none)
            | e => if isLc e = false then some (.asg (.pat p) A) else none)
          | _, _ => none
        | .Tuple xs k tp => match e with
          | .Tuple vs _ _ => match swS c.sc xs vs with
            | some none => (match cPt c n (.Tuple xs k tp), cE G n c e with | some p, some A => some (.asg (.pat p) A) | _, _ => none)
            | some (some names) => (match xs, vs, cEs G n c vs with
              | [.Name x _, .Name y _], [_, _], some Es => if names = [x, y] ∧ c.sc.names.lookup x = some .local ∧ c.sc.names.lookup y = some .local then
                  (match slotOf c.N x, slotOf c.N y with | some i, some j => if i ≠ j then some (.par [i, j] Es) else none | _, _ => none) else none
              | [.Name x _, .Name y _, .Name z _], [_, _, _], some Es => if names = [x, y, z] ∧ c.sc.names.lookup x = some .local ∧ c.sc.names.lookup y = some .local ∧ c.sc.names.lookup z = some .local then
                  (match slotOf c.N x, slotOf c.N y, slotOf c.N z with | some i, some j, some l => if i ≠ j ∧ i ≠ l ∧ j ≠ l then some (.par [i, j, l] Es) else none | _, _, _ => none) else none
              | _, _, _ => none)
            | none => none
          | e => if isTup e = false then (match cPt c n (.Tuple xs k tp), cE G n c e with | some p, some A => some (.asg (.pat p) A) | _, _ => none) else none
        | .Subscript o i _ => if isSlice i = false then (match cE G n c o, cE G n c i, cE G n c e with | some O, some I, some A => some (.asg (.sub O I) A) | _, _, _ => none) else none
        | _ => none
      | _ => none
    | .AugAssign t op e _ => match t with
      | .Name x _ => if isLoc c x = true then (match slotOf c.N x, cE G n c e with | some i, some A => some (.aug i op A) | _, _ => none) else none
      | _ => none
    | .If d a b _ => match cE G n c d, cTs n c a, cTs n c b with
      | some D, some A, some B => some (.ite D A B) | _, _, _ => none
    | .While d b orelse _ => match orelse with
      | [] => (match cE G n c d, cTs n c b with | some D, some B => some (.whl D B) | _, _ => none)
      | _ => none
    | .For t it b orelse _ => match orelse with
      | [] => if isSet it = false then (match cI G n c (isTup t) it, cPt c n t, cTs n c b with | some I, some p, some B => some (.frr I (.pat p) B) | _, _, _ => none) else none
      | _ => none
    | _ => none
def cTs : Nat → CC → List Stmt → Option Ts
  | 0, _, _ => none
  | n + 1, c, sts => match sts with
    | [] => some .nil
    | s :: r => match cT n c s, cTs n c r with | some A, some R => some (.cons A R) | _, _ => none
end
end
section
variable (c : Calls) (fu : Nat)
theorem ex_asg (p : Pt) (e : E) : exT c fu (.asg (.pat p) e) = fun ρ S => (evE c e ρ S).bind fun x S1 => (asPR p x ρ S1).bind fun ρ1 S2 => .ok (.next ρ1) S2 := by funext ρ S; simp only [exT, asG]
theorem ex_asgS (o i e : E) : exT c fu (.asg (.sub o i) e) = fun ρ S => (evE c e ρ S).bind fun x S1 => ((evE c o ρ S1).bind fun y S2 => (evE c i ρ S2).bind fun z S3 => (setV y z x S3).bind fun _ S4 => .ok ρ S4).bind fun ρ1 S2 => .ok (.next ρ1) S2 := by funext ρ S; simp only [exT, asG]
theorem ex_par (is : List Nat) (es : Es) : exT c fu (.par is es) = fun ρ S => (evEs c es ρ S).bind fun xs S1 => match setMany ρ is xs with | some ρ1 => .ok (.next ρ1) S1 | none => .bad := by funext ρ S; simp only [exT] <;> rfl
theorem ex_aug (i : Nat) (op : Operator) (e : E) : exT c fu (.aug i op e) = fun ρ S => (getL ρ i S).bind fun x S0 => (evE c e ρ S0).bind fun y S1 => (ibinV op x y S1).bind fun z S2 => .ok (.next (ρ.set i (some z))) S2 := by funext ρ S; simp only [exT]
theorem ex_ite (d : E) (a b : Ts) : exT c fu (.ite d a b) = fun ρ S => (evE c d ρ S).bind fun x S1 => (tru x S1).bind fun t S2 => if t = true then exTs c fu a ρ S2 else exTs c fu b ρ S2 := by funext ρ S; simp only [exT]
theorem ex_whl (d : E) (b : Ts) : exT c fu (.whl d b) = fun ρ S => whlN (asT (evE c d)) (exTs c fu b) fu ρ S := by funext ρ S; simp only [exT]; rfl
theorem ex_for (it : It) (p : Pt) (b : Ts) : exT c fu (.frr it (.pat p) b) = fun ρ S => (evI c it ρ S).bind fun r S1 => forN r (fun x ρ S => (asPR p x ρ S).bind fun ρ1 S2 => exTs c fu b ρ1 S2) (r.len S1 + 1) 0 ρ S1 := by funext ρ S; simp only [exT, asG]
theorem ex_expr (e : E) : exT c fu (.expr e) = fun ρ S => (evE c e ρ S).bind fun _ S1 => .ok (.next ρ) S1 := by funext ρ S; simp only [exT]
theorem ex_ret (e : E) : exT c fu (.ret e) = fun ρ S => (evE c e ρ S).bind fun x S1 => .ok (.ret x) S1 := by funext ρ S; simp only [exT]
theorem ex_retN : exT c fu .retN = fun _ S => .ok (.ret .non) S := by funext ρ S; simp only [exT]
theorem ex_pass : exT c fu .pass = fun ρ S => .ok (.next ρ) S := by funext ρ S; simp only [exT]
theorem ex_brk : exT c fu .brk = fun ρ S => .ok (.brk ρ) S := by funext ρ S; simp only [exT]
theorem ex_cont : exT c fu .cont = fun ρ S => .ok (.cont ρ) S := by funext ρ S; simp only [exT]
theorem ex_never : exT c fu .never = fun _ _ => .bad := by funext ρ S; simp only [exT]
theorem ex_nil : exTs c fu .nil = fun ρ S => .ok (.next ρ) S := by funext ρ S; simp only [exTs]
theorem ex_cons (t : T) (ts : Ts) : exTs c fu (.cons t ts) = fun ρ S => (exT c fu t ρ S).bind fun f S1 => match f with
    | .next ρ1 => exTs c fu ts ρ1 S1
    | f => .ok f S1 := by
  funext ρ S; simp only [exTs] <;> rfl
end
theorem sole_eq (t e : Expr) (l : Nat) (env : Env) : swapsWithSole [t] e l env = swapsWith e (some t) l env := by
  unfold swapsWithSole
  rfl
structure SndT (G : Tab) (n : Nat) : Prop where
  t : ∀ c st B, cT G n c st = some B → ∀ X k cl fu, Ag X c k → Glob X G k cl → PassesOwn (model X.prog X.w) X.A X.env X.xe → PSI X st (exT cl fu B)
  ts : ∀ c sts B, cTs G n c sts = some B → ∀ X k cl fu, Ag X c k → Glob X G k cl → PassesOwn (model X.prog X.w) X.A X.env X.xe → PSsI X sts (exTs cl fu B)
theorem pt_name {c : CC} {n : Nat} {y : Str} {py : Pos} {p : Pt} (h : cPt c n (.Name y py) = some p) : ∃ i, slotOf c.N y = some i ∧ p = .name i := by
  cases n with
  | zero => unfold cPt at h; cases h
  | succ n =>
    unfold cPt at h
    dsimp only at h
    split at h
    · obtain ⟨i, hi, rfl⟩ := Option.map_eq_some_iff.mp h
      exact ⟨i, hi, rfl⟩
    · cases h
theorem snd_asg {G : Tab} {n : Nat} {c : CC} {t e : Expr} {sp : Pos} {B : T} (h : cT G (n + 1) c (.Assign [t] e sp) = some B) {X : Cx} {k : Nat} {cl : Calls} {fu : Nat} (A : Ag X c k) (C : Glob X G k cl) : PSI X (.Assign [t] e sp) (exT cl fu B) := by
  have S := sound_all G n
  cases t with
  | Name y py =>
    unfold cT at h
    dsimp only at h
    split at h
    · rename_i p A1 h1 h2
      have hp := pt_sound A n _ _ h1
      have gen : swapsWithSole [.Name y py] e sp.line X.env = pure false → PSI X (.Assign [.Name y py] e sp) (exT cl fu (.asg (.pat p) A1)) := fun hs => by
        rw [ex_asg]
        exact psi_asg (S.e _ _ _ h2 X k cl A C).1 hp hs (sw_name _ _) (asgE_one rfl _ _)
      split at h
      · split at h
        · rename_i elt scope lp gs tg iter ifs
          split at h
          · rename_i hsw
            split at h
            · rename_i hl
              cases h
              obtain ⟨i, hi, rfl⟩ := pt_name h1
              cases n with
              | zero => unfold cE at h2; cases h2
              | succ n =>
                obtain ⟨I, q, t1, L, rfl, hh⟩ := sound_lc (sound_all G n) h2
                obtain ⟨g1, g2, g3, g4, g5, g6, g7⟩ := hh X k cl A C
                rw [ex_asg, ev_lc]
                refine psi_setLc A.calm (by rw [A.N]; exact A.nd) (A.cal hi) (by rw [A.sc]; exact hl) ?_ g1 g2 g3 g4 g5 g6 g7
                rw [lcSwap_ok, A.sc, hsw]
            · cases h
          · rename_i hsw
            cases h
            refine gen ?_
            rw [sole_eq, lcSwap_ok, A.sc]
            cases hq : lcSwap c.sc y py lp scope with
            | true => exact absurd hq hsw
            | false => rfl
        · cases h
      · split at h
        · rename_i hl
          cases h
          exact gen (by rw [sole_eq]; exact swaps_plain hl _ _ _)
        · cases h
    · cases h
  | Tuple xs j tp =>
    unfold cT at h
    dsimp only at h
    split at h
    · rename_i vs j2 p2
      split at h
      · rename_i hsw
        split at h
        · rename_i p A1 h1 h2
          cases h
          rw [ex_asg]
          exact psi_asg (S.e _ _ _ h2 X k cl A C).1 (pt_sound A n _ _ h1) (by rw [sole_eq]; exact swaps_tup _ _ _) (swS_ok (by rw [A.sc]; exact hsw)) (asgE_one rfl _ _)
        · cases h
      · rename_i names hsw
        split at h
        · rename_i x px y py a b Es h1
          split at h
          · rename_i hc
            split at h
            · rename_i i j hi hj
              split at h
              · rename_i hij
                cases h
                rw [ex_par]
                refine psi_par A.calm (by rw [A.N]; exact A.nd) (A.cal hi) (A.cal hj) hij (by rw [A.sc]; exact hc.2.1) (by rw [A.sc]; exact hc.2.2) (S.es _ _ _ h1 X k cl A C) ?_ (by rw [sole_eq]; exact swaps_tup _ _ _)
                have := swS_ok (env := X.env) (k := j) (k2 := j2) (p := tp) (p2 := p2) (by rw [A.sc]; exact hsw)
                rw [hc.1] at this
                exact this
              · cases h
            · cases h
          · cases h
        · rename_i x px y py z pz a b d Es h1
          split at h
          · rename_i hc
            split at h
            · rename_i i j l hi hj hl
              split at h
              · rename_i hij
                cases h
                rw [ex_par]
                refine psi_par3 A.calm (by rw [A.N]; exact A.nd) (A.cal hi) (A.cal hj) (A.cal hl) hij.1 hij.2.1 hij.2.2 (by rw [A.sc]; exact hc.2.1) (by rw [A.sc]; exact hc.2.2.1) (by rw [A.sc]; exact hc.2.2.2) (S.es _ _ _ h1 X k cl A C) ?_ (by rw [sole_eq]; exact swaps_tup _ _ _)
                have := swS_ok (env := X.env) (k := j) (k2 := j2) (p := tp) (p2 := p2) (by rw [A.sc]; exact hsw)
                rw [hc.1] at this
                exact this
              · cases h
            · cases h
          · cases h
        · cases h
      · cases h
    · split at h
      · rename_i ht
        split at h
        · rename_i p A1 h1 h2
          cases h
          rw [ex_asg]
          exact psi_asg (S.e _ _ _ h2 X k cl A C).1 (pt_sound A n _ _ h1) (by rw [sole_eq]; exact swaps_tup _ _ _) (sw_plainV ht _) (asgE_one rfl _ _)
        · cases h
      · cases h
  | Subscript o i tp =>
    unfold cT at h
    dsimp only at h
    split at h
    · rename_i hs
      split at h
      · rename_i O I A1 h1 h2 h3
        cases h
        rw [ex_asgS]
        refine psi_asgS (S.e _ _ _ h3 X k cl A C).1 (S.e _ _ _ h1 X k cl A C).1 (S.e _ _ _ h2 X k cl A C).1 (by rw [sole_eq]; exact swaps_sub _ _ _) (sw_sub _ _) (asgE_one rfl _ _) ?_
        intro v
        cases i <;> first | rfl | cases hs
      · cases h
    · cases h
  | _ => unfold cT at h; cases h
theorem snd_t {G : Tab} {n : Nat} (ih : SndT G n) : SndT G (n + 1) where
  ts := fun c sts B h X k cl fu A C hp => by
    unfold cTs at h
    cases sts with
    | nil => cases h; rw [ex_nil]; exact pssi_nil
    | cons s r =>
      dsimp only at h
      split at h
      · rename_i A1 R1 h1 h2
        cases h
        rw [ex_cons]
        exact pssi_cons (ih.t _ _ _ h1 X k cl fu A C hp) (ih.ts _ _ _ h2 X k cl fu A C hp)
      · cases h
  t := fun c st B h X k cl fu A C hp => by
    have S := sound_all G n
    cases st with
    | Pass p => unfold cT at h; cases h; rw [ex_pass]; exact psi_pass
    | Break p => unfold cT at h; cases h; rw [ex_brk]; exact psi_brk
    | Continue p => unfold cT at h; cases h; rw [ex_cont]; exact psi_cont
    | Raise a b p => unfold cT at h; cases h; rw [ex_never]; exact psi_never
    | Return o p =>
      unfold cT at h
      cases o with
      | none => cases h; rw [ex_retN]; exact psi_retN
      | some e =>
        obtain ⟨E1, h1, rfl⟩ := Option.map_eq_some_iff.mp h
        rw [ex_ret]
        exact psi_ret (S.e _ _ _ h1 X k cl A C).1
    | Expr e p =>
      unfold cT at h
      dsimp only at h
      split at h
      · cases h; rw [ex_pass]; exact psi_doc
      · split at h
        · rename_i hl
          obtain ⟨E1, h1, rfl⟩ := Option.map_eq_some_iff.mp h
          rw [ex_expr]
          exact psi_expr (S.e _ _ _ h1 X k cl A C).1 (swaps_plain hl _ _ _)
        · cases h
    | Assign ts e p =>
      match ts, h with
      | [t], h => exact snd_asg h A C
      | [], h => unfold cT at h; cases h
      | _ :: _ :: _, h => unfold cT at h; cases h
    | AugAssign t op e p =>
      cases t with
      | Name x np =>
        unfold cT at h
        dsimp only at h
        split at h
        · rename_i hl
          split at h
          · rename_i i A1 hi h1
            cases h
            obtain ⟨g1, g2⟩ := loc_ok A hl
            rw [ex_aug]
            exact psi_aug (by rw [A.N]; exact A.nd) (A.cal hi) g1 (S.e _ _ _ h1 X k cl A C).1 (op_ibinV op) g2
          · cases h
        · cases h
      | _ => unfold cT at h; cases h
    | If d a b p =>
      unfold cT at h
      dsimp only at h
      split at h
      · rename_i D1 A1 B1 h1 h2 h3
        cases h
        rw [ex_ite]
        exact psi_if (S.e _ _ _ h1 X k cl A C).2 (ih.ts _ _ _ h2 X k cl fu A C hp) (ih.ts _ _ _ h3 X k cl fu A C hp)
      · cases h
    | While d b orelse p =>
      cases orelse with
      | nil =>
        unfold cT at h
        dsimp only at h
        split at h
        · rename_i D1 B1 h1 h2
          cases h
          rw [ex_whl]
          exact psi_whl hp (S.e _ _ _ h1 X k cl A C).2 (ih.ts _ _ _ h2 X k cl fu A C hp)
        · cases h
      | cons _ _ => unfold cT at h; cases h
    | For t it b orelse p =>
      cases orelse with
      | nil =>
        unfold cT at h
        dsimp only at h
        split at h
        · rename_i hs
          split at h
          · rename_i I p B1 h1 h2 h3
            cases h
            rw [ex_for]
            exact psi_for hp A.calm (S.i _ _ _ _ h1 X k cl A C t (fun h => h)) (pt_sound A n _ _ h2) (ih.ts _ _ _ h3 X k cl fu A C hp) (folded_ok hs _)
          · cases h
        · cases h
      | cons _ _ => unfold cT at h; cases h
    | _ => unfold cT at h; cases h
theorem sndT_all (G : Tab) : ∀ n, SndT G n
  | 0 => { t := fun _ _ _ h => (by unfold cT at h; cases h), ts := fun _ _ _ h => (by unfold cTs at h; cases h) }
  | n + 1 => snd_t (sndT_all G n)
/-! ### defs -/
structure PDef where
  name : Str
  qual : Str
  st : Stmt
  N : List Str
  ps : List Str
  B : Ts
def PDef.fn (d : PDef) : Fn := ⟨d.N.length, d.ps.length, d.B⟩
def scopeB (N P : List Str) (sc : Scope) : Bool :=
  (match sc.kind with | .function => true | _ => false) && !sc.isCoroutine && !sc.isGenerator && decide N.Nodup && decide (N.take P.length = P) &&
  (P.all fun x => match sc.names.lookup x with | some .local => true | some .cell => true | _ => false) && (sc.names.all fun y => match y.2 with | .free => false | _ => true)
theorem scopeB_ok {N P : List Str} {sc : Scope} (h : scopeB N P sc = true) : FnScope N P sc := by
  unfold scopeB at h
  simp only [Bool.and_eq_true, List.all_eq_true, decide_eq_true_eq, Bool.not_eq_true'] at h
  obtain ⟨⟨⟨⟨⟨⟨h1, h2⟩, h3⟩, h4⟩, h5⟩, h6⟩, h7⟩ := h
  refine ⟨?_, h2, h3, h4, h5, fun x hx => ?_, fun y hy e => ?_⟩
  · split at h1
    · assumption
    · cases h1
  · have := h6 x hx
    split at this
    · left; assumption
    · right; assumption
    · cases this
  · have := h7 y hy
    rw [e] at this; cases this
theorem start_rel {K : PySem.W.Frag} {φ : List Addr} {H : Hp} : ∀ {xs : List PV} {vs : List V} (N : List Str), relVs K φ H xs vs → RelL K φ H (xs.map some ++ List.replicate (N.length - xs.length) none) (L2.start N vs) := by
  intro xs vs N r
  have hl := relVs_len r
  refine ⟨by unfold L2.start; simp [hl], fun i x h => ?_⟩
  by_cases hi : i < xs.length
  · rw [List.getElem?_append_left (by simpa using hi), List.getElem?_map] at h
    obtain ⟨y, hy, e⟩ := Option.map_eq_some_iff.mp h
    cases e
    obtain ⟨v, hv, rv⟩ := relVs_get r hy
    refine ⟨v, ?_, rv⟩
    unfold L2.start
    rw [List.getElem?_append_left (by simpa [← hl] using hi), List.getElem?_map, hv]; rfl
  · rw [List.getElem?_append_right (by simpa using hi), List.getElem?_replicate] at h
    split at h <;> cases h
theorem run_takes {c : Calls} {fu : Nat} {f : Fn} : Takes1 f.pars (runFn c fu f) := by
  intro xs S r S' h
  unfold runFn at h
  split at h
  · assumption
  · cases h
section
variable {P : Program} {w : World} {K : PySem.W.Frag} {mg : Str → Option Value} {base : Heap}
theorem def_ok {G : Tab} {n : Nat} {d : PDef} {f : Addr} {fd : FuncData} {k fu : Nat} {cl : Calls} (F : Fun K d.name d.qual d.st f fd) (hS : scopeB d.N d.ps (defScope d.st) = true) (hB : cTs G n ⟨d.N, defScope d.st, fun _ => true⟩ (defBody d.st) = some d.B)
    (hG : ∀ X : Cx, X.prog = P → X.w = w → X.K = K → X.mg = mg → X.base = base → Glob X G k cl) : FnOk P w K mg base CX0 (k + 1) f fd d.ps (spI K d.ps.length (runFn cl fu d.fn)) := by
  have S := scopeB_ok hS
  refine F.ok S (fun vs H Q E h => h.1) fun cdv A outer s H vs Q E hr h => ?_
  obtain ⟨hl, φ, S0, xs, r, S', R, rv, e, P0⟩ := h
  refine ⟨_, (sndT_all G n).ts _ _ _ hB (cxOf CX0 P w K mg base d.N d.qual (defScope d.st) f cdv A outer s H E).nox k cl fu ⟨rfl, S.nd, rfl, fun _ _ => rfl, rfl, hr⟩ (hG _ rfl rfl rfl rfl rfl) PassesOwn.never, ?_⟩
  unfold runFn at e
  split at e
  · obtain ⟨fl, S1, e1, e2⟩ := bind_inv e
    refine ⟨φ, _, S0, fl, S1, R, start_rel d.N rv, e1, ?_⟩
    cases fl with
    | next ρ => cases e2; exact fun φ' σ' H' E' R' _ => P0 φ' _ H' E' R' rfl
    | ret v => cases e2; exact P0
    | brk ρ => cases e2
    | cont ρ => cases e2
  · cases e
/-- what one must know of a program -/
structure Prog (P : Program) (w : World) (K : PySem.W.Frag) (mg : Str → Option Value) (ds : List PDef) (G : Tab) (n : Nat) : Prop where
  fun_ : ∀ (i : Nat) (d : PDef), ds[i]? = some d → ∃ (f : Addr) (fd : FuncData), Fun K d.name d.qual d.st f fd ∧ mg d.name = some (.ref f) ∧ Binds K fd d.ps [] ∧ KB fd d.ps
  scope : ∀ d ∈ ds, scopeB d.N d.ps (defScope d.st) = true
  body : ∀ d ∈ ds, cTs G n ⟨d.N, defScope d.st, fun _ => true⟩ (defBody d.st) = some d.B
  names : ∀ x i ps, G.fns.lookup x = some (i, ps) → ∃ d : PDef, ds[i]? = some d ∧ d.name = x ∧ d.ps = ps
  cts : ∀ x v, G.cts.lookup x = some v → ∃ (u : Value) (z : V), mg x = some u ∧ RelV z u ∧ ∀ φ H, relV K φ H v z
  bts : ∀ x, G.bts.contains x = true → mg x = none
  gcd : G.gcd = true → mg ("gcd" : Str) = some (.builtin "math.gcd")
theorem callN_takes {fs : List Fn} {fu k i : Nat} {f : Fn} (h : fs[i]? = some f) : Takes1 f.pars (callN fs fu k i) := by
  intro xs S r S' e
  cases k with
  | zero => cases e
  | succ k =>
    simp only [callN, h] at e
    exact run_takes xs S r S' e
theorem prog_ok {ds : List PDef} {G : Tab} {n fu : Nat} (T : Prog P w K mg ds G n) : ∀ (k i : Nat) (d : PDef), ds[i]? = some d → ∀ (f : Addr) (fd : FuncData), Fun K d.name d.qual d.st f fd → FnOk P w K mg base CX0 k f fd d.ps (spI K d.ps.length (callN (ds.map PDef.fn) fu k i)) := by
  intro k
  induction k with
  | zero => exact fun i d hd f fd F => ⟨fun vs H Q E h => h.1, fun A outer s H args us vs Q E hr e0 hb hv h => by
      obtain ⟨_, _, _, _, _, _, _, _, e, _⟩ := h
      cases e⟩
  | succ k ih =>
    intro i d hd f fd F
    have hm := List.mem_of_getElem? hd
    have hf : (ds.map PDef.fn)[i]? = some d.fn := by rw [List.getElem?_map, hd]; rfl
    have e : callN (ds.map PDef.fn) fu (k + 1) i = runFn (callN (ds.map PDef.fn) fu k) fu d.fn := by
      funext xs S
      simp only [callN, hf]
    rw [e]
    refine def_ok F (T.scope d hm) (T.body d hm) fun X hP hw hK hmg hbase => ?_
    subst hP hw hK hmg hbase
    refine ⟨fun x j ps hx => ?_, T.cts, T.bts, T.gcd⟩
    obtain ⟨d', hd', rfl, rfl⟩ := T.names x j ps hx
    obtain ⟨f', fd', F', g1, g2, g3⟩ := T.fun_ j d' hd'
    refine ⟨f', fd', ih j d' hd' f' fd' F', ?_, g1, F'.kp, g2, g3⟩
    exact callN_takes (f := d'.fn) (by rw [List.getElem?_map, hd']; rfl)
end
end Mp

/-! Mp12: a law's end. -/
namespace Mp
open PySem PySem.Spec PyProof.Rows L2

theorem mk_fun {K : PySem.W.Frag} {mg : Str → Option Value} {h : Heap} {name qual : Str} {st : Stmt} {ps : List Str} {f : Addr} {oc kV doc pm cdv ct : Value} {od an : Option Addr} {osl : Array (Option Value)}
    (X : K.In h) (G : h.Ns mainGlobals mg) (a : PySem.W.nsIn K mainGlobals name = some (some (.ref f)))
    (l : K.lookup f = some ⟨oc, od, .func (PySem.W.fnOf name qual (defArgs st) (defBody st) (defScope st) .none kV doc pm an cdv ct), osl⟩) (c : PySem.W.codeIn K cdv qual = true) (k : PySem.W.keepIn K (.ref f) = true)
    (hb : ∀ (kV doc pm : Value) (an : Option Addr) (cdv ct : Value) (us : List Value), us.length = ps.length → bindArgs (PySem.W.fnOf name qual (defArgs st) (defBody st) (defScope st) .none kV doc pm an cdv ct) ⟨us, []⟩ = pure (ps.zip us))
    (hk : ∀ (kV doc pm : Value) (an : Option Addr) (cdv ct : Value) (us : List Value), us.length = ps.length → bindArgs (PySem.W.fnOf name qual (defArgs st) (defBody st) (defScope st) .none kV doc pm an cdv ct) ⟨[], ps.zip us⟩ = pure (ps.zip us)) :
    ∃ (f : Addr) (fd : FuncData), Fun K name qual st f fd ∧ mg name = some (.ref f) ∧ Binds K fd ps [] ∧ KB fd ps := by
  have F := fun_mk (st := st) l c k
  exact ⟨f, _, F, PySem.W.mg_of X G a, F.binds hb, fun s ws hl => .of_eq (hk _ _ _ _ _ _ ws hl)⟩
theorem only_frz {K : PySem.W.Frag} {H : Hp} {a : Addr} {xs : List V} (hO : Only H) (h : SqL K H a xs) : imL K H a xs := by
  rcases h with (h | h) | h
  · rcases hO a with e | ⟨o, ys, e⟩
    · rw [h] at e; cases e
    · rw [h] at e; cases e
  · exact .inl h
  · exact .inr (.inr h)
theorem ints_relV {K : PySem.W.Frag} {φ : List Addr} {H : Hp} : ∀ ns : List Int, relVs K φ H (ns.map PV.int) (ns.map V.int)
  | [] => rfl
  | n :: ns => ⟨_, _, rfl, rfl, ints_relV ns⟩
/-- the end: from what is known of the program and the evaluator's answer -/
theorem law_end {l : PySem.W.OpenLaw} {q : Program} {loose : List Str} {XP : (Str → Option Value) → Heap → Prop} {YP : World → Heap → Prop} {d : DefRec} {K : Params → PySem.W.Frag} {ds : List PDef} {G : Tab} {n fu k iL : Nat} {dL : PDef}
    (hn : l.most = some 63) (hdf : d.params.defaults = []) (hY : ∀ (w : World) (h : Heap), YP w h → (K w.params).In h)
    (hL : ds[iL]? = some dL) (hps : dL.ps = [("script" : Str)]) (hname : d.name = dL.name) (hr : Room k callerA)
    (T : ∀ (w : World) (mg : Str → Option Value) (h : Heap), (K w.params).In h → h.Ns mainGlobals mg → Prog l.prog w (K w.params) mg ds G n)
    (hb : ∀ (kV doc pm : Value) (an : Option Addr) (cdv ct u : Value), bindArgs (PySem.W.fnOf dL.name dL.qual (defArgs dL.st) (defBody dL.st) (defScope dL.st) .none kV doc pm an cdv ct) ⟨[u], []⟩ = pure [(("script" : Str), u)])
    (pure_ : ∀ ns : List Int, ns.length ≤ 63 → ∃ S', callN (ds.map PDef.fn) fu k iL [.ltc (ns.map .int)] [] = .ok (.bl true) S') :
    PySem.W.WalkO q loose XP YP l.row.toRowW d [] (fun f vs => PySem.call f vs) := by
  refine L2.walk_of (n := 63) (k := k) (x := "script") (CX := fun _ => CX0) (sp := fun w => spI (K w.params) 1 (callN (ds.map PDef.fn) fu k iL)) hn (by rw [lim_eq]; decide) hdf hr hY (fun w mg fa h KX Gh hfa => ?_) (fun w H a ns hl hO hS => ?_) fun _ _ _ _ _ z => z
  · have TT := T w mg h KX Gh
    obtain ⟨f, fd, F, hm, _, _⟩ := TT.fun_ iL dL hL
    have hfa' : mg dL.name = some (.ref fa) := by rw [← hname]; exact hfa
    rw [hm] at hfa'
    cases hfa'
    obtain ⟨oc, od, kV, doc, pm, an, cdv, ct, osl, efd, lk, hcd⟩ := id F.ex
    refine ⟨fd, fun s u => .of_eq (by rw [efd]; exact hb _ _ _ _ _ _ _), fun base hKb hGb => ?_⟩
    have := prog_ok (P := l.prog) (w := w) (K := K w.params) (mg := mg) (base := base) (fu := fu) TT k iL dL hL _ fd F
    rw [hps] at this
    exact this
  · obtain ⟨S', e⟩ := pure_ ns hl
    refine ⟨rfl, [], [], [.ltc (ns.map .int)], .bl true, S', ⟨rfl, by simp, fun _ _ _ h => by simp at h⟩, ⟨_, [], rfl, ⟨a, _, rfl, only_frz hO hS, ints_relV ns⟩, rfl⟩, e, fun φ' v H' _ _ r => r⟩
/-! ### the module's constants -/
def CtV (K : PySem.W.Frag) (v : PV) (u : Value) : Prop := ∃ z : V, RelV z u ∧ ∀ φ H, relV K φ H v z
def CtVs (K : PySem.W.Frag) (vs : List PV) (us : List Value) : Prop := ∃ zs : List V, Vals zs us ∧ ∀ φ H, relVs K φ H vs zs
theorem ctv_int {K : PySem.W.Frag} {i : Int} {t : Tok} : CtV K (.int i) (.int i t) := ⟨.int i, ⟨t, rfl⟩, fun _ _ => rfl⟩
theorem ctv_str {K : PySem.W.Frag} {x : List Nat} {t : Tok} : CtV K (.str x) (.str ⟨x.toArray⟩ t) := ⟨.str ⟨x.toArray⟩, ⟨t, rfl⟩, fun _ _ => rfl⟩
theorem ctv_bl {K : PySem.W.Frag} {b : Bool} : CtV K (.bl b) (.bool b) := ⟨.bl b, rfl, fun _ _ => rfl⟩
theorem ctv_non {K : PySem.W.Frag} : CtV K .non .none := ⟨.non, rfl, fun _ _ => rfl⟩
theorem ctvs_nil {K : PySem.W.Frag} : CtVs K [] [] := ⟨[], .nil, fun _ _ => rfl⟩
theorem ctvs_cons {K : PySem.W.Frag} {v : PV} {vs : List PV} {u : Value} {us : List Value} (h : CtV K v u) (t : CtVs K vs us) : CtVs K (v :: vs) (u :: us) := by
  obtain ⟨z, r, q⟩ := h
  obtain ⟨zs, rs, qs⟩ := t
  exact ⟨z :: zs, .cons r rs, fun φ H => ⟨z, zs, rfl, q φ H, qs φ H⟩⟩
theorem ctv_tup {K : PySem.W.Frag} {a : Addr} {xs : List PV} {od : Option Addr} {its : Array Value} {n : Nat} {sl : Array (Option Value)} (l : K.lookup a = some ⟨.type "tuple", od, .seq its n, sl⟩) (hs : its.size ≤ sizeLine) (h : CtVs K xs its.toList) : CtV K (.tup xs) (.ref a) := by
  obtain ⟨zs, rs, qs⟩ := h
  exact ⟨.ref a, rfl, fun φ H => ⟨a, zs, rfl, .inr ⟨_, its, n, l, rfl, rfl, hs, rs⟩, qs φ H⟩⟩
theorem ct_of {K : PySem.W.Frag} {mg : Str → Option Value} {h : Heap} {n : Str} {v : PV} {u : Value} (X : K.In h) (G : h.Ns mainGlobals mg) (a : PySem.W.nsIn K mainGlobals n = some (some u)) (c : CtV K v u) :
    ∃ (u : Value) (z : V), mg n = some u ∧ RelV z u ∧ ∀ φ H, relV K φ H v z := by
  obtain ⟨z, r, q⟩ := c
  exact ⟨u, z, PySem.W.mg_of X G a, r, q⟩
theorem lookup_mem {β : Type} {x : Str} {v : β} : ∀ {l : List (Str × β)}, l.lookup x = some v → (x, v) ∈ l
  | [], h => by cases h
  | (y, w) :: l, h => by
    rw [List.lookup_cons] at h
    split at h
    · rename_i e
      cases h
      have : x = y := by simpa using e
      subst this
      exact List.mem_cons_self ..
    · exact List.mem_cons_of_mem _ (lookup_mem h)
def namesB (ds : List PDef) (fns : List (Str × (Nat × List Str))) : Bool := fns.all fun p => match ds[p.2.1]? with
  | some d => decide (d.name = p.1) && decide (d.ps = p.2.2)
  | none => false
theorem names_ok {ds : List PDef} {G : Tab} (h : namesB ds G.fns = true) {x : Str} {i : Nat} {ps : List Str} (hx : G.fns.lookup x = some (i, ps)) : ∃ d : PDef, ds[i]? = some d ∧ d.name = x ∧ d.ps = ps := by
  have := List.all_eq_true.mp h _ (lookup_mem hx)
  dsimp only at this
  split at this
  · rename_i d e
    obtain ⟨h1, h2⟩ := (Bool.and_eq_true ..).mp this
    exact ⟨d, e, of_decide_eq_true h1, of_decide_eq_true h2⟩
  · cases this
end Mp

/-! Mq0: what a run gives: W, its rules; the store as it is kept. -/
namespace Mp
open PySem PySem.Spec L2
structure W {α : Type} (r : Res α) (Q : α → Store → Prop) : Prop where
  get : ∃ a S, r = .ok a S ∧ Q a S
theorem W_ok {α : Type} {a : α} {S : Store} {Q : α → Store → Prop} : W (.ok a S) Q ↔ Q a S :=
  ⟨fun ⟨b, S1, e, q⟩ => by cases e; exact q, fun q => ⟨a, S, rfl, q⟩⟩
theorem W.ok {α : Type} {a : α} {S : Store} {Q : α → Store → Prop} (q : Q a S) : W (.ok a S) Q := ⟨a, S, rfl, q⟩
theorem W_bind {α β : Type} {r : Res α} {f : α → Store → Res β} {Q : β → Store → Prop} : W (r.bind f) Q ↔ W r (fun a S => W (f a S) Q) :=
  ⟨fun ⟨b, S1, e, q⟩ => by
    obtain ⟨a, S2, e1, e2⟩ := bind_inv e
    exact ⟨a, S2, e1, b, S1, e2, q⟩, fun ⟨a, S2, e1, b, S1, e2, q⟩ => ⟨b, S1, by rw [e1]; exact e2, q⟩⟩
theorem W.mono {α : Type} {r : Res α} {P Q : α → Store → Prop} (h : W r P) (i : ∀ a S, P a S → Q a S) : W r Q := by
  obtain ⟨a, S, e, p⟩ := h
  exact ⟨a, S, e, i a S p⟩
theorem bnd_ok {α β : Type} (a : α) (S : Store) (f : α → Store → Res β) : (Res.ok a S).bind f = f a S := (rfl)
theorem W_if {α : Type} {p : Prop} [Decidable p] {a b : Res α} {Q : α → Store → Prop} : W (if p then a else b) Q ↔ (p → W a Q) ∧ (¬p → W b Q) := by
  by_cases h : p
  · rw [if_pos h]; exact ⟨fun x => ⟨fun _ => x, fun n => absurd h n⟩, fun x => x.1 h⟩
  · rw [if_neg h]; exact ⟨fun x => ⟨fun n => absurd n h, fun _ => x⟩, fun x => x.2 h⟩
def fin (Q : PV → Store → Prop) : Fl → Store → Prop
  | .next _, S => Q .non S
  | .ret v, S => Q v S
  | _, _ => False
theorem fin_ret {Q : PV → Store → Prop} {v : PV} {S : Store} : fin Q (.ret v) S ↔ Q v S := Iff.rfl
theorem fin_next {Q : PV → Store → Prop} {ρ : Loc} {S : Store} : fin Q (.next ρ) S ↔ Q .non S := Iff.rfl
theorem W_fn {fs : List Fn} {fu k i : Nat} {f : Fn} {xs : List PV} {S : Store} {Q : PV → Store → Prop} (hf : fs[i]? = some f) (hp : xs.length = f.pars)
    (h : W (exTs (callN fs fu k) fu f.body (xs.map some ++ List.replicate (f.slots - xs.length) none) S) (fin Q)) : W (callN fs fu (k + 1) i xs S) Q := by
  simp only [callN, hf, runFn]
  rw [if_pos hp, W_bind]
  refine h.mono fun r S1 q => ?_
  cases r with
  | next ρ => exact .ok q
  | ret v => exact .ok q
  | brk ρ => exact q.elim
  | cont ρ => exact q.elim
/-! ### ends of steps -/
def chK (z : PV) (r : Res PV) (S : Store) : Res PV := match z with
  | .bl true => r
  | .bl false => .ok (.bl false) S
  | _ => .bad
theorem chK_bl {b : Bool} {r : Res PV} {S : Store} : chK (.bl b) r S = if b = true then r else .ok (.bl false) S := by cases b <;> rfl
def sqK (c : Calls) (fu : Nat) (ts : Ts) (f : Fl) (S : Store) : Res Fl := match f with
  | .next ρ => exTs c fu ts ρ S
  | f => .ok f S
section
variable {c : Calls} {fu : Nat} {ts : Ts} {ρ : Loc} {S : Store} {v : PV}
theorem sq_next : sqK c fu ts (.next ρ) S = exTs c fu ts ρ S := (rfl)
theorem sq_ret : sqK c fu ts (.ret v) S = .ok (.ret v) S := (rfl)
theorem sq_brk : sqK c fu ts (.brk ρ) S = .ok (.brk ρ) S := (rfl)
theorem sq_cont : sqK c fu ts (.cont ρ) S = .ok (.cont ρ) S := (rfl)
theorem ex_cons' (t : T) (ts : Ts) : exTs c fu (.cons t ts) ρ S = (exT c fu t ρ S).bind fun f S1 => sqK c fu ts f S1 := by
  rw [ex_cons]
  show (exT c fu t ρ S).bind _ = _
  refine congrArg _ (funext fun f => funext fun S1 => ?_)
  cases f <;> rfl
theorem ev_chain' (op op' : CmpOp) (a b d : E) : evE c (.chain op op' a b d) ρ S = (evE c a ρ S).bind fun x S1 => (evE c b ρ S1).bind fun y S2 => (cmpV op x y S2).bind fun z S3 => chK z ((evE c d ρ S3).bind fun w S4 => cmpV op' y w S4) S3 := by
  rw [ev_chain]
  show (evE c a ρ S).bind _ = _
  refine congrArg _ (funext fun x => funext fun S1 => congrArg _ (funext fun y => funext fun S2 => congrArg _ (funext fun z => funext fun S3 => ?_)))
  cases z with
  | bl b => cases b <;> rfl
  | _ => rfl
end
section
variable {i j : Int} {S : Store}
theorem b_add : binV .Add (.int i) (.int j) S = .ok (.int (i + j)) S := (rfl)
theorem b_sub : binV .Sub (.int i) (.int j) S = .ok (.int (i - j)) S := (rfl)
theorem b_mul (h : -18446744073709551616 < j ∧ j < 18446744073709551616) : binV .Mult (.int i) (.int j) S = .ok (.int (i * j)) S := by
  show (if cMul i j = true then _ else _) = _
  exact if_pos (decide_eq_true (.inl h))
theorem b_mulL (h : -18446744073709551616 < i ∧ i < 18446744073709551616) : binV .Mult (.int i) (.int j) S = .ok (.int (i * j)) S := by
  show (if cMul i j = true then _ else _) = _
  exact if_pos (decide_eq_true (.inr (.inl h)))
theorem b_mod (h : 0 < j) : binV .Mod (.int i) (.int j) S = .ok (.int (i % j)) S := by
  show (if cMod i j = true then _ else _) = _
  exact if_pos (decide_eq_true h)
theorem b_div (h : 0 < j ∧ j < 1073741824) : binV .FloorDiv (.int i) (.int j) S = .ok (.int (i / j)) S := by
  show (if cDiv i j = true then _ else _) = _
  exact if_pos (decide_eq_true ⟨h.1, .inl h.2⟩)
theorem i_add : ibinV .Add (.int i) (.int j) S = .ok (.int (i + j)) S := (rfl)
theorem i_sub : ibinV .Sub (.int i) (.int j) S = .ok (.int (i - j)) S := (rfl)
theorem c_lt : cmpV .Lt (.int i) (.int j) S = .ok (.bl (decide (i < j))) S := (rfl)
theorem c_le : cmpV .LtE (.int i) (.int j) S = .ok (.bl (decide (i ≤ j))) S := (rfl)
theorem c_gt : cmpV .Gt (.int i) (.int j) S = .ok (.bl (decide (j < i))) S := (rfl)
theorem c_ge : cmpV .GtE (.int i) (.int j) S = .ok (.bl (decide (j ≤ i))) S := (rfl)
theorem c_eq : cmpV .Eq (.int i) (.int j) S = .ok (.bl (decide (i = j))) S := (rfl)
theorem c_ne : cmpV .NotEq (.int i) (.int j) S = .ok (.bl (!decide (i = j))) S := (rfl)
theorem c_eqs {a b : List Nat} : cmpV .Eq (.str a) (.str b) S = .ok (.bl (decide (a = b))) S := (rfl)
theorem c_nes {a b : List Nat} : cmpV .NotEq (.str a) (.str b) S = .ok (.bl (!decide (a = b))) S := (rfl)
theorem c_eqb {a b : Bool} : cmpV .Eq (.bl a) (.bl b) S = .ok (.bl (decide (a = b))) S := (rfl)
theorem t_bl {b : Bool} : tru (.bl b) S = .ok b S := (rfl)
theorem t_int : tru (.int i) S = .ok (i != 0) S := (rfl)
theorem t_non : tru .non S = .ok false S := (rfl)
theorem p_int : partV (.int i) S = .ok (some i) S := (rfl)
theorem f_int : btF .int [.int i] S = .ok (.int i) S := (rfl)
theorem r_1 (h : -big62 ≤ i ∧ i < big62) : rngV [.int i] S = .ok (.vals (rngL 0 i.toNat)) S := if_pos h
theorem r_2 (h : -big62 ≤ i ∧ i < big62 ∧ -big62 ≤ j ∧ j < big62) : rngV [.int i, .int j] S = .ok (.vals (rngL i (j - i).toNat)) S := if_pos h
theorem as_t2 {p q : Nat} {v w : PV} {ρ : Loc} : asPR (.tup (.cons (.name p) (.cons (.name q) .nil))) (.tup [v, w]) ρ S = .ok ((ρ.set p (some v)).set q (some w)) S := by simp [asPR, asP, asPs, itemsOf]
theorem as_t3 {p q r : Nat} {v w u : PV} {ρ : Loc} : asPR (.tup (.cons (.name p) (.cons (.name q) (.cons (.name r) .nil)))) (.tup [v, w, u]) ρ S = .ok (((ρ.set p (some v)).set q (some w)).set r (some u)) S := by simp [asPR, asP, asPs, itemsOf]
theorem W_as2 {p q : Nat} {x v w : PV} {ρ : Loc} {Q : Loc → Store → Prop} (h : itemsOf S x = some [v, w]) (k : Q ((ρ.set p (some v)).set q (some w)) S) : W (asPR (.tup (.cons (.name p) (.cons (.name q) .nil))) x ρ S) Q := by
  have : asPR (.tup (.cons (.name p) (.cons (.name q) .nil))) x ρ S = .ok ((ρ.set p (some v)).set q (some w)) S := by simp [asPR, asP, asPs, h]
  rw [this]; exact .ok k
theorem W_r1 {Q : Ir → Store → Prop} (h : -big62 ≤ i ∧ i < big62) (q : Q (.vals (rngL 0 i.toNat)) S) : W (rngV [.int i] S) Q := by rw [r_1 h]; exact .ok q
theorem W_r2 {Q : Ir → Store → Prop} (h : -big62 ≤ i ∧ i < big62 ∧ -big62 ≤ j ∧ j < big62) (q : Q (.vals (rngL i (j - i).toNat)) S) : W (rngV [.int i, .int j] S) Q := by rw [r_2 h]; exact .ok q
theorem tl0 {α : Type} {x y : α} : (if ([] : List PV).length ≤ lim then x else y) = x := if_pos (show 0 ≤ lim by decide)
theorem tl1 {α : Type} {a : PV} {x y : α} : (if ([a] : List PV).length ≤ lim then x else y) = x := if_pos (show 1 ≤ lim by decide)
theorem tl2 {α : Type} {a b : PV} {x y : α} : (if ([a, b] : List PV).length ≤ lim then x else y) = x := if_pos (show 2 ≤ lim by decide)
theorem tl3 {α : Type} {a b c : PV} {x y : α} : (if ([a, b, c] : List PV).length ≤ lim then x else y) = x := if_pos (show 3 ≤ lim by decide)
theorem tl4 {α : Type} {a b c d : PV} {x y : α} : (if ([a, b, c, d] : List PV).length ≤ lim then x else y) = x := if_pos (show 4 ≤ lim by decide)
theorem tl5 {α : Type} {a b c d e : PV} {x y : α} : (if ([a, b, c, d, e] : List PV).length ≤ lim then x else y) = x := if_pos (show 5 ≤ lim by decide)
theorem tl6 {α : Type} {a b c d e f : PV} {x y : α} : (if ([a, b, c, d, e, f] : List PV).length ≤ lim then x else y) = x := if_pos (show 6 ≤ lim by decide)
theorem as_n {p : Nat} {v : PV} {ρ : Loc} : asPR (.name p) v ρ S = .ok (ρ.set p (some v)) S := by simp [asPR, asP]
end
/-! ### what is kept -/
/-- all that stood stands, but at p -/
def Kp (p : Nat → Prop) (S S' : Store) : Prop := ∀ n o, p n → S[n]? = some o → S'[n]? = some o
abbrev Sub (S S' : Store) : Prop := Kp (fun _ => True) S S'
section
variable {p : Nat → Prop} {S S1 S' : Store}
theorem Kp.refl : Kp p S S := fun _ _ _ h => h
theorem Kp.trans (a : Kp p S S1) (b : Kp p S1 S') : Kp p S S' := fun n o h e => b n o h (a n o h e)
theorem Kp.of (h : Sub S S') : Kp p S S' := fun n o _ e => h n o trivial e
theorem Kp.push {o : SO} : Kp p S (S ++ [o]) := fun n o' _ e => by
  have : n < S.length := (List.getElem?_eq_some_iff.mp e).1
  rw [List.getElem?_append_left this]; exact e
theorem Kp.set {n : Nat} {o : SO} (h : ¬p n) : Kp p S (S.set n o) := fun m o' hp e => by
  rw [List.getElem?_set_ne (fun q => h (by rw [q]; exact hp))]; exact e
theorem at_push {o : SO} : (S ++ [o])[S.length]? = some o := by simp
/-- not the written one -/
def NotR (p : Nat → Prop) : PV → Prop
  | .ref n => p n
  | _ => True
theorem items_kp {x : PV} {xs : List PV} (k : Kp p S S') (hx : NotR p x) (h : itemsOf S x = some xs) : itemsOf S' x = some xs := by
  cases x with
  | ref n =>
    unfold itemsOf at h ⊢
    dsimp only at h ⊢
    split at h
    · rename_i ys e
      rw [k n _ hx e]; exact h
    · cases h
  | _ => exact h
theorem items_sub {x : PV} {xs : List PV} (k : Sub S S') (h : itemsOf S x = some xs) : itemsOf S' x = some xs := items_kp k (by cases x <;> exact trivial) h
theorem items_ref {n : Nat} {xs : List PV} (h : S[n]? = some (.lst xs)) : itemsOf S (.ref n) = some xs := by unfold itemsOf; dsimp only; rw [h]
theorem items_tup {xs : List PV} : itemsOf S (.tup xs) = some xs := rfl
theorem not_str {x : PV} {xs : List PV} (h : itemsOf S x = some xs) : ∀ z, x ≠ .str z := by intro z e; rw [e] at h; cases h
theorem f_len {x : PV} {xs : List PV} (h : itemsOf S x = some xs) : btF .len [x] S = .ok (.int xs.length) S := by
  show lenF [x] S = _
  unfold lenF
  split
  · rename_i e; cases e; cases h
  · rename_i e; cases e; rw [h]
  · rename_i h1 h2; exact absurd rfl (h2 x)
theorem f_lens {a : List Nat} (h : a.length ≤ lim) : btF .len [.str a] S = .ok (.int a.length) S := by
  show lenF [.str a] S = _
  unfold lenF
  dsimp only
  rw [if_pos h]
theorem f_tuple {x : PV} {xs : List PV} (h : itemsOf S x = some xs) : btF .tuple [x] S = .ok (.tup xs) S := by show tupleF [x] S = _; unfold tupleF; dsimp only; rw [h]
theorem f_list {x : PV} {xs : List PV} (h : itemsOf S x = some xs) : btF .list [x] S = .ok (.ref S.length) (S ++ [.lst xs]) := by show listF [x] S = _; unfold listF; dsimp only; rw [h]
theorem ints_of : ∀ ns : List Int, intsOf (ns.map .int) = some ns
  | [] => rfl
  | n :: ns => by
    show intsOf (.int n :: ns.map .int) = _
    unfold intsOf
    rw [ints_of ns]; rfl
theorem bls_of : ∀ ns : List Bool, blsOf (ns.map .bl) = some ns
  | [] => rfl
  | n :: ns => by
    show blsOf (.bl n :: ns.map .bl) = _
    unfold blsOf
    rw [bls_of ns]; rfl
theorem lit_ref {n : Nat} {xs : List PV} (h : S[n]? = some (.lst xs)) : litems S (.ref n) = some xs := by unfold litems; dsimp only; rw [h]
theorem f_sum {n : Nat} {ns : List Int} (h : S[n]? = some (.lst (ns.map .int))) : btF .sum [.ref n] S = .ok (.int ns.sum) S := by
  show sumF [.ref n] S = _
  unfold sumF
  dsimp only
  rw [lit_ref h, Option.bind_some, ints_of]
theorem f_max {n : Nat} {ns : List Int} (h : S[n]? = some (.lst (ns.map .int))) (h0 : 0 < ns.length) : btF .max [.ref n] S = .ok (.int (maxL ns)) S := by
  show maxF [.ref n] S = _
  unfold maxF
  dsimp only
  rw [lit_ref h, Option.bind_some, ints_of]
  exact if_pos h0
theorem f_min {n : Nat} {ns : List Int} (h : S[n]? = some (.lst (ns.map .int))) (h0 : 0 < ns.length) : btF .min [.ref n] S = .ok (.int (minL ns)) S := by
  show minF [.ref n] S = _
  unfold minF
  dsimp only
  rw [lit_ref h, Option.bind_some, ints_of]
  exact if_pos h0
theorem f_all {n : Nat} {ns : List Bool} (h : S[n]? = some (.lst (ns.map .bl))) : btF .all [.ref n] S = .ok (.bl (ns.all id)) S := by
  show boolsF _ [.ref n] S = _
  unfold boolsF
  dsimp only
  rw [lit_ref h, Option.bind_some, bls_of]
theorem f_any {n : Nat} {ns : List Bool} (h : S[n]? = some (.lst (ns.map .bl))) : btF .any [.ref n] S = .ok (.bl (ns.any id)) S := by
  show boolsF _ [.ref n] S = _
  unfold boolsF
  dsimp only
  rw [lit_ref h, Option.bind_some, bls_of]
theorem at_nat {α : Type} {xs : List α} {i : Int} (h0 : 0 ≤ i) (h1 : i < xs.length) : atI xs i = xs[i.toNat]? := by
  unfold atI ixN
  rw [if_pos h0, if_pos h1]
  rfl
theorem ix_at {x v : PV} {xs : List PV} {i : Int} (h : itemsOf S x = some xs) (h0 : 0 ≤ i) (e : xs[i.toNat]? = some v) : ixV x (.int i) S = .ok v S := by
  have h1 : i < xs.length := by have := (List.getElem?_eq_some_iff.mp e).1; omega
  unfold ixV
  dsimp only
  split
  · cases h
  · rw [h]; dsimp only; rw [at_nat h0 h1, e]
theorem sl_items {x : PV} {xs : List PV} {lo hi : Option Int} (h : itemsOf S x = some xs) : W (slV x lo hi S) (fun y S' => Sub S S' ∧ itemsOf S' y = some (cut xs lo hi)) := by
  cases x with
  | tup ys => cases h; exact .ok ⟨.refl, rfl⟩
  | ltc ys => cases h; exact .ok ⟨.push, items_ref at_push⟩
  | ref n =>
    unfold itemsOf at h
    dsimp only at h
    split at h
    · rename_i ys e
      cases h
      unfold slV
      dsimp only
      rw [e]
      exact .ok ⟨.push, items_ref at_push⟩
    · cases h
  | _ => cases h
theorem m_append {n : Nat} {xs : List PV} {y : PV} (h : S[n]? = some (.lst xs)) (hl : xs.length < lim) : mtF .append (.ref n) [y] S = .ok .non (S.set n (.lst (xs ++ [y]))) := by
  show appendM (.ref n) [y] S = _
  unfold appendM
  dsimp only
  rw [h]
  exact if_pos hl
theorem ty_ref {n : Nat} {xs : List PV} (h : S[n]? = some (.lst xs)) : tyOf S (.ref n) = some .list := by unfold tyOf; dsimp only; rw [h]
theorem ty_items {x : PV} {xs : List PV} (h : itemsOf S x = some xs) : tyOf S x = some .tuple ∨ tyOf S x = some .list := by
  cases x with
  | tup ys => exact .inl rfl
  | ltc ys => exact .inr rfl
  | ref n =>
    unfold itemsOf at h
    dsimp only at h
    split at h
    · rename_i ys e
      exact .inr (ty_ref e)
    · cases h
  | _ => cases h
theorem set_at {n : Nat} {xs : List PV} {k : Int} {v : PV} (h : S[n]? = some (.lst xs)) (h0 : 0 ≤ k) (h1 : k < xs.length) : setV (.ref n) (.int k) v S = .ok () (S.set n (.lst (xs.set k.toNat v))) := by
  unfold setV
  dsimp only
  rw [h]
  dsimp only [ixN]
  rw [if_pos h0, if_pos h1]
end
/-! ### turns -/
/-- the items with their places -/
def enumL (ys : List PV) : List PV := ys.mapIdx fun i x => .tup [.int (i : Int), x]
/-- an iterator that gives xs -/
def IrIs (S : Store) : Ir → List PV → Prop
  | .vals ys, xs => ys = xs
  | .live n, xs => S[n]? = some (.lst xs)
  | .enu r, xs => ∃ ys, IrIs S r ys ∧ xs = enumL ys
section
variable {p : Nat → Prop} {S S' : Store} {it : Ir} {xs : List PV}
def NotI (p : Nat → Prop) : Ir → Prop
  | .vals _ => True
  | .live n => p n
  | .enu r => NotI p r
theorem IrIs.kp : ∀ {it : Ir} {xs : List PV}, IrIs S it xs → NotI p it → Kp p S S' → IrIs S' it xs
  | .vals ys, _, h, _, _ => h
  | .live n, _, h, hp, k => k n _ hp h
  | .enu r, _, h, hp, k => by
    obtain ⟨ys, h1, h2⟩ := h
    exact ⟨ys, IrIs.kp h1 hp k, h2⟩
theorem IrIs.get : ∀ {it : Ir} {xs : List PV}, IrIs S it xs → ∀ i : Nat, it.get S i = xs[i]?
  | .vals ys, _, h, i => by cases h; rfl
  | .live n, xs, h, i => by show (match S[n]? with | some (.lst xs) => xs[i]? | _ => none) = _; rw [show S[n]? = _ from h]
  | .enu r, _, h, i => by
    obtain ⟨ys, h1, rfl⟩ := h
    show (r.get S i).map _ = _
    rw [IrIs.get h1 i]
    unfold enumL
    rw [List.getElem?_mapIdx]
theorem IrIs.fin : ∀ {it : Ir} {xs : List PV}, IrIs S it xs → ∀ i : Nat, it.fin S i = decide (xs.length ≤ i)
  | .vals ys, _, h, i => by cases h; rfl
  | .live n, xs, h, i => by show (match S[n]? with | some (.lst xs) => decide (xs.length ≤ i) | _ => false) = _; rw [show S[n]? = _ from h]
  | .enu r, _, h, i => by
    obtain ⟨ys, h1, rfl⟩ := h
    show r.fin S i = _
    rw [IrIs.fin h1 i]
    unfold enumL
    rw [List.length_mapIdx]
theorem IrIs.len : ∀ {it : Ir} {xs : List PV}, IrIs S it xs → it.len S = xs.length
  | .vals ys, _, h => by cases h; rfl
  | .live n, xs, h => by show (match S[n]? with | some (.lst xs) => xs.length | _ => 0) = _; rw [show S[n]? = _ from h]
  | .enu r, _, h => by
    obtain ⟨ys, h1, rfl⟩ := h
    show r.len S = _
    rw [IrIs.len h1]
    unfold enumL
    rw [List.length_mapIdx]
theorem it_items {x : PV} (h : itemsOf S x = some xs) : W (iterV x S) (fun r S' => S' = S ∧ IrIs S r xs ∧ ∀ p, NotR p x → NotI p r) := by
  cases x with
  | tup ys => cases h; exact .ok ⟨rfl, rfl, fun _ _ => trivial⟩
  | ltc ys => cases h; exact .ok ⟨rfl, rfl, fun _ _ => trivial⟩
  | ref n =>
    unfold itemsOf at h
    dsimp only at h
    split at h
    · rename_i ys e
      cases h
      exact .ok ⟨rfl, e, fun _ h => h⟩
    · cases h
  | _ => cases h
theorem W_lcI {turn : PV → Store → Res (Option PV)} (I : Nat → List PV → Store → Prop) (hg : ∀ i acc S, I i acc S → IrIs S it xs)
    (hs : ∀ i x acc S, xs[i]? = some x → I i acc S → W (turn x S) (fun r S' => match r with | some y => acc.length < lim ∧ I (i + 1) (acc ++ [y]) S' | none => I (i + 1) acc S')) :
    ∀ (k i : Nat) (acc : List PV) (S : Store), i ≤ xs.length → xs.length < k + i → I i acc S → W (lcN it turn k i acc S) (fun ys S' => I xs.length ys S')
  | 0, i, acc, S, h1, h2, _ => by omega
  | k + 1, i, acc, S, h1, h2, h => by
    have hi := hg i acc S h
    unfold lcN
    rw [hi.get]
    by_cases hl : i < xs.length
    · have e : xs[i]? = some xs[i] := List.getElem?_eq_getElem hl
      rw [e]
      dsimp only
      rw [W_bind]
      refine (hs i _ acc S e h).mono fun r S' q => ?_
      cases r with
      | some y => dsimp only at q ⊢; rw [if_pos q.1]; exact W_lcI I hg hs k (i + 1) _ S' hl (by omega) q.2
      | none => exact W_lcI I hg hs k (i + 1) _ S' hl (by omega) q
    · have e : xs[i]? = none := List.getElem?_eq_none_iff.mpr (by omega)
      rw [e]
      dsimp only
      rw [hi.fin, if_pos (decide_eq_true (by omega))]
      have : i = xs.length := by omega
      subst this
      exact .ok h
/-- a comprehension whose turns write nothing that stood -/
theorem W_lc {turn : PV → Store → Res (Option PV)} (f : PV → Option PV) (hi : IrIs S it xs) (hp : NotI p it) (hl : xs.length ≤ lim)
    (h : ∀ x, x ∈ xs → ∀ S1, Kp p S S1 → W (turn x S1) (fun r S2 => r = f x ∧ Kp p S1 S2)) :
    W (lcN it turn (it.len S + 1) 0 [] S) (fun ys S' => ys = xs.filterMap f ∧ Kp p S S') := by
  rw [hi.len]
  refine (W_lcI (it := it) (xs := xs) (fun i acc S1 => acc = (xs.take i).filterMap f ∧ Kp p S S1 ∧ i ≤ xs.length) (fun i acc S1 q => hi.kp hp q.2.1) (fun i x acc S1 e q => ?_) (xs.length + 1) 0 [] S (Nat.zero_le _) (by omega) ⟨by simp, .refl, Nat.zero_le _⟩).mono fun ys S' q => ⟨by rw [q.1, List.take_length], q.2.1⟩
  have hx := List.mem_of_getElem? e
  have hlt := (List.getElem?_eq_some_iff.mp e).1
  have hal : acc.length ≤ i := by rw [q.1]; exact Nat.le_trans (List.length_filterMap_le _ _) (by rw [List.length_take]; omega)
  refine (h x hx S1 q.2.1).mono fun r S2 q2 => ?_
  have ht : xs.take (i + 1) = xs.take i ++ [x] := by rw [List.take_add_one, e]; rfl
  have hf : (xs.take (i + 1)).filterMap f = acc ++ (f x).toList := by
    rw [ht, List.filterMap_append, ← q.1]
    simp [List.filterMap_cons]
    cases f x <;> rfl
  rw [q2.1] at *
  cases hfx : f x with
  | some y => rw [hfx] at hf; exact ⟨by omega, hf.symm, q.2.1.trans q2.2, hlt⟩
  | none => rw [hfx] at hf; exact ⟨by rw [hf]; simp, q.2.1.trans q2.2, hlt⟩
/-- a for's turns -/
theorem W_for {body : PV → Loc → Store → Res Fl} {Q : Fl → Store → Prop} (I : Nat → Loc → Store → Prop) (hg : ∀ i ρ S, I i ρ S → IrIs S it xs)
    (hs : ∀ i x ρ S, xs[i]? = some x → I i ρ S → W (body x ρ S) (fun f S' => match f with | .next ρ' => I (i + 1) ρ' S' | .cont ρ' => I (i + 1) ρ' S' | .brk ρ' => Q (.next ρ') S' | .ret v => Q (.ret v) S'))
    (he : ∀ ρ S, I xs.length ρ S → Q (.next ρ) S) :
    ∀ (k i : Nat) (ρ : Loc) (S : Store), i ≤ xs.length → xs.length < k + i → I i ρ S → W (forN it body k i ρ S) Q
  | 0, i, ρ, S, h1, h2, _ => by omega
  | k + 1, i, ρ, S, h1, h2, h => by
    have hi := hg i ρ S h
    unfold forN
    rw [hi.get]
    by_cases hl : i < xs.length
    · have e : xs[i]? = some xs[i] := List.getElem?_eq_getElem hl
      rw [e]
      dsimp only
      rw [W_bind]
      refine (hs i _ ρ S e h).mono fun f S' q => ?_
      cases f with
      | next ρ' => exact W_for I hg hs he k (i + 1) _ S' hl (by omega) q
      | cont ρ' => exact W_for I hg hs he k (i + 1) _ S' hl (by omega) q
      | brk ρ' => exact .ok q
      | ret v => exact .ok q
    · have e : xs[i]? = none := List.getElem?_eq_none_iff.mpr (by omega)
      rw [e]
      dsimp only
      rw [hi.fin, if_pos (decide_eq_true (by omega))]
      have : i = xs.length := by omega
      subst this
      exact .ok (he ρ S h)
theorem W_for0 {body : PV → Loc → Store → Res Fl} {Q : Fl → Store → Prop} {ρ : Loc} (hi : IrIs S it xs) (I : Nat → Loc → Store → Prop) (h0 : I 0 ρ S) (hg : ∀ i ρ S, I i ρ S → IrIs S it xs)
    (hs : ∀ i x ρ S, xs[i]? = some x → I i ρ S → W (body x ρ S) (fun f S' => match f with | .next ρ' => I (i + 1) ρ' S' | .cont ρ' => I (i + 1) ρ' S' | .brk ρ' => Q (.next ρ') S' | .ret v => Q (.ret v) S'))
    (he : ∀ ρ S, I xs.length ρ S → Q (.next ρ) S) : W (forN it body (it.len S + 1) 0 ρ S) Q := by
  rw [hi.len]
  exact W_for I hg hs he _ 0 ρ S (Nat.zero_le _) (by omega) h0
end
end Mp

/-! Mq1: the small defs that all the laws share. -/
namespace Mp
open PySem PySem.Spec L2
theorem eq_of_W {r : Res PV} {S : Store} {v : PV} (h : W r (fun v' S' => v' = v ∧ S' = S)) : r = .ok v S := by
  obtain ⟨a, S1, e, rfl, rfl⟩ := h.get
  exact e
theorem W_fn2 {fs : List Fn} {fu k i n m : Nat} {b : Ts} {xs : List PV} {ρ : Loc} {S : Store} {Q : PV → Store → Prop} (hf : fs[i]? = some ⟨n, m, b⟩) (hp : xs.length = m) (hρ : xs.map some ++ List.replicate (n - xs.length) none = ρ)
    (h : W (exTs (callN fs fu k) fu b ρ S) (fin Q)) : W (callN fs fu (k + 1) i xs S) Q := W_fn hf hp (by subst hρ; exact h)
def bDemand : Ts := Ts.cons (T.ite (E.not (E.var 0)) (Ts.cons (T.never) (Ts.nil)) (Ts.nil)) (Ts.nil)
def bIsInteger : Ts := Ts.cons (T.ret (E.and (E.isi (E.var 0) [Ty.int]) (E.not (E.isi (E.var 0) [Ty.bool])))) (Ts.nil)
def bIsWithin (i : Nat) : Ts := Ts.cons (T.ret (E.and (E.call i (Es.cons (E.var 0) (Es.nil))) (E.chain (CmpOp.LtE) (CmpOp.LtE) (E.var 1) (E.var 0) (E.var 2)))) (Ts.nil)
def bIsSequence : Ts := Ts.cons (T.ret (E.isi (E.var 0) [Ty.list, Ty.tuple])) (Ts.nil)
def bIsRow (i : Nat) : Ts := Ts.cons (T.ret (E.and (E.call i (Es.cons (E.var 0) (Es.nil))) (E.chain (CmpOp.LtE) (CmpOp.LtE) (E.var 1) (E.bt (Bt.len) (Es.cons (E.var 0) (Es.nil))) (E.var 2)))) (Ts.nil)
def bSo (i : Nat) : Ts := Ts.cons (T.ite (E.cmp (CmpOp.Is) (E.var 1) (E.cst (PV.non))) (Ts.cons (T.ret (E.cmp (CmpOp.Is) (E.var 0) (E.cst (PV.non)))) (Ts.nil)) (Ts.nil)) (Ts.cons (T.ite (E.isi (E.var 1) [Ty.tuple]) (Ts.cons (T.ite (E.or (E.not (E.isi (E.var 0) [Ty.tuple])) (E.cmp (CmpOp.NotEq) (E.bt (Bt.len) (Es.cons (E.var 0) (Es.nil))) (E.bt (Bt.len) (Es.cons (E.var 1) (Es.nil))))) (Ts.cons (T.ret (E.cst (PV.bl false))) (Ts.nil)) (Ts.nil)) (Ts.cons (T.frr (It.rng (Es.cons (E.bt (Bt.len) (Es.cons (E.var 1) (Es.nil))) (Es.nil))) (Tg.pat (Pt.name 2)) (Ts.cons (T.ite (E.not (E.call i (Es.cons (E.ix (E.var 0) (E.var 2)) (Es.cons (E.ix (E.var 1) (E.var 2)) (Es.nil))))) (Ts.cons (T.ret (E.cst (PV.bl false))) (Ts.nil)) (Ts.nil)) (Ts.nil))) (Ts.cons (T.ret (E.cst (PV.bl true))) (Ts.nil)))) (Ts.nil)) (Ts.cons (T.ite (E.or (E.isi (E.var 1) [Ty.bool]) (E.isi (E.var 0) [Ty.bool])) (Ts.cons (T.ret (E.and (E.isi (E.var 1) [Ty.bool]) (E.and (E.isi (E.var 0) [Ty.bool]) (E.cmp (CmpOp.Eq) (E.var 0) (E.var 1))))) (Ts.nil)) (Ts.nil)) (Ts.cons (T.ite (E.isi (E.var 1) [Ty.int]) (Ts.cons (T.ret (E.and (E.isi (E.var 0) [Ty.int]) (E.cmp (CmpOp.Eq) (E.var 0) (E.var 1)))) (Ts.nil)) (Ts.nil)) (Ts.cons (T.ret (E.and (E.isi (E.var 1) [Ty.str]) (E.and (E.isi (E.var 0) [Ty.str]) (E.cmp (CmpOp.Eq) (E.var 0) (E.var 1))))) (Ts.nil)))))
def bNumbers : Ts := Ts.cons (T.asg (Tg.pat (Pt.name 1)) (E.lst (Es.nil))) (Ts.cons (T.frr (It.e (E.sl (E.var 0) (Oe.none) (Oe.some (E.cst (PV.int 63))))) (Tg.pat (Pt.name 2)) (Ts.cons (T.ite (E.cmp (CmpOp.GtE) (E.var 2) (E.bin (Operator.Pow) (E.cst (PV.int 10)) (E.cst (PV.int 18)))) (Ts.cons (T.asg (Tg.pat (Pt.name 3)) (E.var 2)) (Ts.cons (T.frr (It.rng (Es.cons (E.cst (PV.int 60)) (Es.nil))) (Tg.pat (Pt.name 4)) (Ts.cons (T.ite (E.cmp (CmpOp.Eq) (E.var 3) (E.cst (PV.int 0))) (Ts.cons (T.brk) (Ts.nil)) (Ts.nil)) (Ts.cons (T.expr (E.mt (Mt.append) (E.var 1) (Es.cons (E.bin (Operator.Mod) (E.bt (Bt.int) (Es.cons (E.var 3) (Es.nil))) (E.cst (PV.int 997))) (Es.nil)))) (Ts.cons (T.asg (Tg.pat (Pt.name 3)) (E.bin (Operator.FloorDiv) (E.var 3) (E.cst (PV.int 997)))) (Ts.nil))))) (Ts.nil))) (Ts.cons (T.frr (It.rng (Es.cons (E.cst (PV.int 4)) (Es.nil))) (Tg.pat (Pt.name 4)) (Ts.cons (T.asg (Tg.pat (Pt.name 5)) (E.bin (Operator.Mod) (E.bt (Bt.int) (Es.cons (E.bin (Operator.Add) (E.bin (Operator.Add) (E.bin (Operator.Mult) (E.var 2) (E.cst (PV.int 48271))) (E.bin (Operator.Mult) (E.var 4) (E.cst (PV.int 69621)))) (E.cst (PV.int 11))) (Es.nil))) (E.cst (PV.int 2147483647)))) (Ts.cons (T.expr (E.mt (Mt.append) (E.var 1) (Es.cons (E.bin (Operator.Mod) (E.bt (Bt.int) (Es.cons (E.bin (Operator.Add) (E.bin (Operator.Mult) (E.var 5) (E.cst (PV.int 16807))) (E.var 4)) (Es.nil))) (E.cst (PV.int 2147483629))) (Es.nil)))) (Ts.nil)))) (Ts.nil))) (Ts.nil))) (Ts.cons (T.ite (E.cmp (CmpOp.Eq) (E.bt (Bt.len) (Es.cons (E.var 1) (Es.nil))) (E.cst (PV.int 0))) (Ts.cons (T.expr (E.mt (Mt.append) (E.var 1) (Es.cons (E.cst (PV.int 0)) (Es.nil)))) (Ts.nil)) (Ts.nil)) (Ts.cons (T.ret (E.var 1)) (Ts.nil))))
def bDraw : Ts := Ts.cons (T.ite (E.cmp (CmpOp.Lt) (E.var 1) (E.bt (Bt.len) (Es.cons (E.var 0) (Es.nil)))) (Ts.cons (T.ret (E.bin (Operator.Mod) (E.bt (Bt.int) (Es.cons (E.ix (E.var 0) (E.var 1)) (Es.nil))) (E.var 2))) (Ts.nil)) (Ts.nil)) (Ts.cons (T.asg (Tg.pat (Pt.name 3)) (E.bin (Operator.Mod) (E.bt (Bt.int) (Es.cons (E.bin (Operator.Add) (E.bin (Operator.Add) (E.bin (Operator.Mult) (E.ix (E.var 0) (E.bin (Operator.Mod) (E.bt (Bt.int) (Es.cons (E.var 1) (Es.nil))) (E.bt (Bt.len) (Es.cons (E.var 0) (Es.nil))))) (E.cst (PV.int 40692))) (E.bin (Operator.Mult) (E.var 1) (E.cst (PV.int 7919)))) (E.cst (PV.int 3))) (Es.nil))) (E.cst (PV.int 2147483399)))) (Ts.cons (T.ret (E.bin (Operator.Mod) (E.bt (Bt.int) (Es.cons (E.bin (Operator.Mod) (E.bt (Bt.int) (Es.cons (E.bin (Operator.Add) (E.bin (Operator.Mult) (E.var 3) (E.cst (PV.int 48271))) (E.var 1)) (Es.nil))) (E.cst (PV.int 2147483647))) (Es.nil))) (E.var 2))) (Ts.nil)))
def bTake (i : Nat) : Ts := Ts.cons (T.asg (Tg.sub (E.var 1) (E.cst (PV.int 0))) (E.bin (Operator.Add) (E.ix (E.var 1) (E.cst (PV.int 0))) (E.cst (PV.int 1)))) (Ts.cons (T.ret (E.call i (Es.cons (E.var 0) (Es.cons (E.bin (Operator.Sub) (E.ix (E.var 1) (E.cst (PV.int 0))) (E.cst (PV.int 1))) (Es.cons (E.var 2) (Es.nil)))))) (Ts.nil))
def bListed (i : Nat) : Ts := Ts.cons (T.ite (E.isi (E.var 0) [Ty.tuple]) (Ts.cons (T.ret (E.lc [1] (It.e (E.var 0)) (Pt.name 1) (Oe.none) (E.call i (Es.cons (E.var 1) (Es.nil))))) (Ts.nil)) (Ts.nil)) (Ts.cons (T.ret (E.var 0)) (Ts.nil))
def bHanded (i j : Nat) : Ts := Ts.cons (T.ret (E.ite (E.cmp (CmpOp.Eq) (E.call i (Es.cons (E.var 0) (Es.cons (E.var 1) (Es.cons (E.cst (PV.int 2)) (Es.nil))))) (E.cst (PV.int 0))) (E.call j (Es.cons (E.var 2) (Es.nil))) (E.var 2))) (Ts.nil)
section
variable {fs : List Fn} {fu k i j : Nat} {S : Store}
theorem demand_eq (hf : fs[i]? = some ⟨2, 2, bDemand⟩) {a : PV} : callN fs fu (k + 1) i [.bl true, a] S = .ok .non S := by
  refine eq_of_W ?_
  refine W_fn2 hf rfl rfl ?_; simp only [List.map_cons, List.map_nil, List.length_cons, List.length_nil, List.cons_append, List.nil_append, List.append_nil, List.replicate_succ, List.replicate_zero, Nat.reduceAdd, Nat.reduceSub, Nat.zero_add]
  unfold bDemand
  simp only [ev_var, ev_cst, ev_bin, ev_neg, ev_cmp, ev_chain', ev_and, ev_or, ev_not, ev_ite, ev_tup, ev_lst, ev_ix, ev_sl, ev_call, ev_bt, ev_mt, ev_isi, ev_lc, ev_nil, ev_cons, ev_onone, ev_osome, ev_cnone, ev_csome, ev_ie, ev_rng, ev_enu, asT, ex_asg, ex_asgS, ex_par, ex_aug, ex_ite, ex_whl, ex_for, ex_expr, ex_ret, ex_retN, ex_pass, ex_brk, ex_cont, ex_never, ex_nil, ex_cons', W_ok, W_bind, fin_ret, fin_next, chK_bl, sq_next, sq_ret, sq_brk, sq_cont, bnd_ok, b_add, b_sub, i_add, i_sub, c_lt, c_le, c_gt, c_ge, c_eq, c_ne, c_eqs, c_nes, c_eqb, t_bl, t_int, t_non, p_int, f_int, as_n, as_t2, as_t3, setMany, getL, List.getElem?_cons_zero, List.getElem?_cons_succ, List.set_cons_zero, List.set_cons_succ, wipeL, tl0, tl1, tl2, tl3, tl4, tl5, tl6, Bool.not_true, Bool.not_false, decide_eq_true_eq, if_true, if_false, ite_true, ite_false, eq_self, Bool.false_eq_true, and_self]
theorem is_integer_eq (hf : fs[i]? = some ⟨1, 1, bIsInteger⟩) {n : Int} : callN fs fu (k + 1) i [.int n] S = .ok (.bl true) S := by
  refine eq_of_W ?_
  refine W_fn2 hf rfl rfl ?_; simp only [List.map_cons, List.map_nil, List.length_cons, List.length_nil, List.cons_append, List.nil_append, List.append_nil, List.replicate_succ, List.replicate_zero, Nat.reduceAdd, Nat.reduceSub, Nat.zero_add]
  unfold bIsInteger
  simp only [ev_var, ev_cst, ev_bin, ev_neg, ev_cmp, ev_chain', ev_and, ev_or, ev_not, ev_ite, ev_tup, ev_lst, ev_ix, ev_sl, ev_call, ev_bt, ev_mt, ev_isi, ev_lc, ev_nil, ev_cons, ev_onone, ev_osome, ev_cnone, ev_csome, ev_ie, ev_rng, ev_enu, asT, ex_asg, ex_asgS, ex_par, ex_aug, ex_ite, ex_whl, ex_for, ex_expr, ex_ret, ex_retN, ex_pass, ex_brk, ex_cont, ex_never, ex_nil, ex_cons', W_ok, W_bind, fin_ret, fin_next, chK_bl, sq_next, sq_ret, sq_brk, sq_cont, bnd_ok, b_add, b_sub, i_add, i_sub, c_lt, c_le, c_gt, c_ge, c_eq, c_ne, c_eqs, c_nes, c_eqb, t_bl, t_int, t_non, p_int, f_int, as_n, as_t2, as_t3, setMany, getL, List.getElem?_cons_zero, List.getElem?_cons_succ, List.set_cons_zero, List.set_cons_succ, wipeL, tl0, tl1, tl2, tl3, tl4, tl5, tl6, Bool.not_true, Bool.not_false, decide_eq_true_eq, if_true, if_false, ite_true, ite_false, eq_self, Bool.false_eq_true, isiF, tyOf, List.any_cons, List.any_nil, isaT, Bool.or_false, decide_true, and_self]
  exact ⟨rfl, trivial⟩
theorem is_within_eq (hf : fs[i]? = some ⟨3, 3, bIsWithin j⟩) (hj : fs[j]? = some ⟨1, 1, bIsInteger⟩) {n lo hi : Int} : callN fs fu (k + 2) i [.int n, .int lo, .int hi] S = .ok (.bl (decide (lo ≤ n ∧ n ≤ hi))) S := by
  refine eq_of_W ?_
  refine W_fn2 hf rfl rfl ?_; simp only [List.map_cons, List.map_nil, List.length_cons, List.length_nil, List.cons_append, List.nil_append, List.append_nil, List.replicate_succ, List.replicate_zero, Nat.reduceAdd, Nat.reduceSub, Nat.zero_add]
  unfold bIsWithin
  simp only [ev_var, ev_cst, ev_bin, ev_neg, ev_cmp, ev_chain', ev_and, ev_or, ev_not, ev_ite, ev_tup, ev_lst, ev_ix, ev_sl, ev_call, ev_bt, ev_mt, ev_isi, ev_lc, ev_nil, ev_cons, ev_onone, ev_osome, ev_cnone, ev_csome, ev_ie, ev_rng, ev_enu, asT, ex_asg, ex_asgS, ex_par, ex_aug, ex_ite, ex_whl, ex_for, ex_expr, ex_ret, ex_retN, ex_pass, ex_brk, ex_cont, ex_never, ex_nil, ex_cons', W_ok, W_bind, fin_ret, fin_next, chK_bl, sq_next, sq_ret, sq_brk, sq_cont, bnd_ok, b_add, b_sub, i_add, i_sub, c_lt, c_le, c_gt, c_ge, c_eq, c_ne, c_eqs, c_nes, c_eqb, t_bl, t_int, t_non, p_int, f_int, as_n, as_t2, as_t3, setMany, getL, List.getElem?_cons_zero, List.getElem?_cons_succ, List.set_cons_zero, List.set_cons_succ, wipeL, tl0, tl1, tl2, tl3, tl4, tl5, tl6, Bool.not_true, Bool.not_false, decide_eq_true_eq, if_true, if_false, ite_true, ite_false, eq_self, Bool.false_eq_true, is_integer_eq hj]
  by_cases h : lo ≤ n
  · rw [if_pos h]; try simp only [ev_var, ev_cst, ev_bin, ev_neg, ev_cmp, ev_chain', ev_and, ev_or, ev_not, ev_ite, ev_tup, ev_lst, ev_ix, ev_sl, ev_call, ev_bt, ev_mt, ev_isi, ev_lc, ev_nil, ev_cons, ev_onone, ev_osome, ev_cnone, ev_csome, ev_ie, ev_rng, ev_enu, asT, ex_asg, ex_asgS, ex_par, ex_aug, ex_ite, ex_whl, ex_for, ex_expr, ex_ret, ex_retN, ex_pass, ex_brk, ex_cont, ex_never, ex_nil, ex_cons', W_ok, W_bind, fin_ret, fin_next, chK_bl, sq_next, sq_ret, sq_brk, sq_cont, bnd_ok, b_add, b_sub, i_add, i_sub, c_lt, c_le, c_gt, c_ge, c_eq, c_ne, c_eqs, c_nes, c_eqb, t_bl, t_int, t_non, p_int, f_int, as_n, as_t2, as_t3, setMany, getL, List.getElem?_cons_zero, List.getElem?_cons_succ, List.set_cons_zero, List.set_cons_succ, wipeL, tl0, tl1, tl2, tl3, tl4, tl5, tl6, Bool.not_true, Bool.not_false, decide_eq_true_eq, if_true, if_false, ite_true, ite_false, eq_self, Bool.false_eq_true]; simp [h]
  · rw [if_neg h]; try simp only [ev_var, ev_cst, ev_bin, ev_neg, ev_cmp, ev_chain', ev_and, ev_or, ev_not, ev_ite, ev_tup, ev_lst, ev_ix, ev_sl, ev_call, ev_bt, ev_mt, ev_isi, ev_lc, ev_nil, ev_cons, ev_onone, ev_osome, ev_cnone, ev_csome, ev_ie, ev_rng, ev_enu, asT, ex_asg, ex_asgS, ex_par, ex_aug, ex_ite, ex_whl, ex_for, ex_expr, ex_ret, ex_retN, ex_pass, ex_brk, ex_cont, ex_never, ex_nil, ex_cons', W_ok, W_bind, fin_ret, fin_next, chK_bl, sq_next, sq_ret, sq_brk, sq_cont, bnd_ok, b_add, b_sub, i_add, i_sub, c_lt, c_le, c_gt, c_ge, c_eq, c_ne, c_eqs, c_nes, c_eqb, t_bl, t_int, t_non, p_int, f_int, as_n, as_t2, as_t3, setMany, getL, List.getElem?_cons_zero, List.getElem?_cons_succ, List.set_cons_zero, List.set_cons_succ, wipeL, tl0, tl1, tl2, tl3, tl4, tl5, tl6, Bool.not_true, Bool.not_false, decide_eq_true_eq, if_true, if_false, ite_true, ite_false, eq_self, Bool.false_eq_true]; simp [h]
theorem is_sequence_eq (hf : fs[i]? = some ⟨1, 1, bIsSequence⟩) {x : PV} {xs : List PV} (h : itemsOf S x = some xs) : callN fs fu (k + 1) i [x] S = .ok (.bl true) S := by
  refine eq_of_W ?_
  refine W_fn2 hf rfl rfl ?_; simp only [List.map_cons, List.map_nil, List.length_cons, List.length_nil, List.cons_append, List.nil_append, List.append_nil, List.replicate_succ, List.replicate_zero, Nat.reduceAdd, Nat.reduceSub, Nat.zero_add]
  unfold bIsSequence
  simp only [ev_var, ev_cst, ev_bin, ev_neg, ev_cmp, ev_chain', ev_and, ev_or, ev_not, ev_ite, ev_tup, ev_lst, ev_ix, ev_sl, ev_call, ev_bt, ev_mt, ev_isi, ev_lc, ev_nil, ev_cons, ev_onone, ev_osome, ev_cnone, ev_csome, ev_ie, ev_rng, ev_enu, asT, ex_asg, ex_asgS, ex_par, ex_aug, ex_ite, ex_whl, ex_for, ex_expr, ex_ret, ex_retN, ex_pass, ex_brk, ex_cont, ex_never, ex_nil, ex_cons', W_ok, W_bind, fin_ret, fin_next, chK_bl, sq_next, sq_ret, sq_brk, sq_cont, bnd_ok, b_add, b_sub, i_add, i_sub, c_lt, c_le, c_gt, c_ge, c_eq, c_ne, c_eqs, c_nes, c_eqb, t_bl, t_int, t_non, p_int, f_int, as_n, as_t2, as_t3, setMany, getL, List.getElem?_cons_zero, List.getElem?_cons_succ, List.set_cons_zero, List.set_cons_succ, wipeL, tl0, tl1, tl2, tl3, tl4, tl5, tl6, Bool.not_true, Bool.not_false, decide_eq_true_eq, if_true, if_false, ite_true, ite_false, eq_self, Bool.false_eq_true, isiF]
  rcases ty_items h with e | e <;> rw [e] <;> exact .ok ⟨rfl, rfl⟩
theorem is_row_eq (hf : fs[i]? = some ⟨3, 3, bIsRow j⟩) (hj : fs[j]? = some ⟨1, 1, bIsSequence⟩) {x : PV} {xs : List PV} {lo hi : Int} (h : itemsOf S x = some xs) : callN fs fu (k + 2) i [x, .int lo, .int hi] S = .ok (.bl (decide (lo ≤ (xs.length : Int) ∧ (xs.length : Int) ≤ hi))) S := by
  refine eq_of_W ?_
  refine W_fn2 hf rfl rfl ?_; simp only [List.map_cons, List.map_nil, List.length_cons, List.length_nil, List.cons_append, List.nil_append, List.append_nil, List.replicate_succ, List.replicate_zero, Nat.reduceAdd, Nat.reduceSub, Nat.zero_add]
  unfold bIsRow
  simp only [ev_var, ev_cst, ev_bin, ev_neg, ev_cmp, ev_chain', ev_and, ev_or, ev_not, ev_ite, ev_tup, ev_lst, ev_ix, ev_sl, ev_call, ev_bt, ev_mt, ev_isi, ev_lc, ev_nil, ev_cons, ev_onone, ev_osome, ev_cnone, ev_csome, ev_ie, ev_rng, ev_enu, asT, ex_asg, ex_asgS, ex_par, ex_aug, ex_ite, ex_whl, ex_for, ex_expr, ex_ret, ex_retN, ex_pass, ex_brk, ex_cont, ex_never, ex_nil, ex_cons', W_ok, W_bind, fin_ret, fin_next, chK_bl, sq_next, sq_ret, sq_brk, sq_cont, bnd_ok, b_add, b_sub, i_add, i_sub, c_lt, c_le, c_gt, c_ge, c_eq, c_ne, c_eqs, c_nes, c_eqb, t_bl, t_int, t_non, p_int, f_int, as_n, as_t2, as_t3, setMany, getL, List.getElem?_cons_zero, List.getElem?_cons_succ, List.set_cons_zero, List.set_cons_succ, wipeL, tl0, tl1, tl2, tl3, tl4, tl5, tl6, Bool.not_true, Bool.not_false, decide_eq_true_eq, if_true, if_false, ite_true, ite_false, eq_self, Bool.false_eq_true, is_sequence_eq hj h, f_len h]
  by_cases h : lo ≤ (xs.length : Int)
  · rw [if_pos h]; try simp only [ev_var, ev_cst, ev_bin, ev_neg, ev_cmp, ev_chain', ev_and, ev_or, ev_not, ev_ite, ev_tup, ev_lst, ev_ix, ev_sl, ev_call, ev_bt, ev_mt, ev_isi, ev_lc, ev_nil, ev_cons, ev_onone, ev_osome, ev_cnone, ev_csome, ev_ie, ev_rng, ev_enu, asT, ex_asg, ex_asgS, ex_par, ex_aug, ex_ite, ex_whl, ex_for, ex_expr, ex_ret, ex_retN, ex_pass, ex_brk, ex_cont, ex_never, ex_nil, ex_cons', W_ok, W_bind, fin_ret, fin_next, chK_bl, sq_next, sq_ret, sq_brk, sq_cont, bnd_ok, b_add, b_sub, i_add, i_sub, c_lt, c_le, c_gt, c_ge, c_eq, c_ne, c_eqs, c_nes, c_eqb, t_bl, t_int, t_non, p_int, f_int, as_n, as_t2, as_t3, setMany, getL, List.getElem?_cons_zero, List.getElem?_cons_succ, List.set_cons_zero, List.set_cons_succ, wipeL, tl0, tl1, tl2, tl3, tl4, tl5, tl6, Bool.not_true, Bool.not_false, decide_eq_true_eq, if_true, if_false, ite_true, ite_false, eq_self, Bool.false_eq_true]; simp [h]
  · rw [if_neg h]; try simp only [ev_var, ev_cst, ev_bin, ev_neg, ev_cmp, ev_chain', ev_and, ev_or, ev_not, ev_ite, ev_tup, ev_lst, ev_ix, ev_sl, ev_call, ev_bt, ev_mt, ev_isi, ev_lc, ev_nil, ev_cons, ev_onone, ev_osome, ev_cnone, ev_csome, ev_ie, ev_rng, ev_enu, asT, ex_asg, ex_asgS, ex_par, ex_aug, ex_ite, ex_whl, ex_for, ex_expr, ex_ret, ex_retN, ex_pass, ex_brk, ex_cont, ex_never, ex_nil, ex_cons', W_ok, W_bind, fin_ret, fin_next, chK_bl, sq_next, sq_ret, sq_brk, sq_cont, bnd_ok, b_add, b_sub, i_add, i_sub, c_lt, c_le, c_gt, c_ge, c_eq, c_ne, c_eqs, c_nes, c_eqb, t_bl, t_int, t_non, p_int, f_int, as_n, as_t2, as_t3, setMany, getL, List.getElem?_cons_zero, List.getElem?_cons_succ, List.set_cons_zero, List.set_cons_succ, wipeL, tl0, tl1, tl2, tl3, tl4, tl5, tl6, Bool.not_true, Bool.not_false, decide_eq_true_eq, if_true, if_false, ite_true, ite_false, eq_self, Bool.false_eq_true]; simp [h]
/-! ### _law_so -/
mutual
def plain : Nat → PV → Bool
  | _, .non => true
  | _, .bl _ => true
  | _, .int _ => true
  | _, .str _ => true
  | 0, .tup _ => false
  | n + 1, .tup xs => decide (xs.length ≤ lim) && plains n xs
  | _, _ => false
def plains : Nat → List PV → Bool
  | _, [] => true
  | n, x :: xs => plain n x && plains n xs
end
theorem plains_all {n : Nat} : ∀ {xs : List PV}, plains n xs = true ↔ ∀ x, x ∈ xs → plain n x = true
  | [] => by simp [plains]
  | x :: xs => by simp [plains, plains_all (xs := xs)]
theorem plain_tup {n : Nat} {xs : List PV} (hl : xs.length ≤ lim) (h : ∀ x, x ∈ xs → plain n x = true) : plain (n + 1) (.tup xs) = true := by
  unfold plain
  rw [decide_eq_true hl, plains_all.mpr h]
  rfl
theorem plain_ints {n : Nat} {ns : List Int} (hl : ns.length ≤ lim) : plain (n + 1) (.tup (ns.map .int)) = true := plain_tup (by simpa using hl) fun x hx => by
  obtain ⟨i, _, rfl⟩ := List.mem_map.mp hx
  cases n <;> rfl
theorem rngL_get {lo : Int} {n i : Nat} {x : PV} (h : (rngL lo n)[i]? = some x) : x = .int (lo + i) ∧ i < n := by
  unfold rngL at h
  rw [List.getElem?_map] at h
  obtain ⟨a, e, rfl⟩ := Option.map_eq_some_iff.mp h
  have := List.getElem?_eq_some_iff.mp e
  obtain ⟨hl, e2⟩ := this
  rw [List.length_range] at hl
  rw [List.getElem_range] at e2
  subst e2
  exact ⟨rfl, hl⟩
theorem rngL_len {lo : Int} {n : Nat} : (rngL lo n).length = n := by unfold rngL; rw [List.length_map, List.length_range]
end
end Mp

/-! Mq2: _law_so and the draws. -/
namespace Mp
open PySem PySem.Spec L2
section
variable {fs : List Fn} {fu k i j : Nat} {S : Store}
theorem so_scal (hf : fs[i]? = some ⟨3, 2, bSo i⟩) (v : PV) (h : scalar v = true) : callN fs fu (k + 1) i [v, v] S = .ok (.bl true) S := by
  refine eq_of_W ?_
  refine W_fn2 hf rfl rfl ?_; simp only [List.map_cons, List.map_nil, List.length_cons, List.length_nil, List.cons_append, List.nil_append, List.append_nil, List.replicate_succ, List.replicate_zero, Nat.reduceAdd, Nat.reduceSub, Nat.zero_add]
  unfold bSo
  cases v with
  | non => simp only [ev_var, ev_cst, ev_bin, ev_neg, ev_cmp, ev_chain', ev_and, ev_or, ev_not, ev_ite, ev_tup, ev_lst, ev_ix, ev_sl, ev_call, ev_bt, ev_mt, ev_isi, ev_lc, ev_nil, ev_cons, ev_onone, ev_osome, ev_cnone, ev_csome, ev_ie, ev_rng, ev_enu, asT, ex_asg, ex_asgS, ex_par, ex_aug, ex_ite, ex_whl, ex_for, ex_expr, ex_ret, ex_retN, ex_pass, ex_brk, ex_cont, ex_never, ex_nil, ex_cons', W_ok, W_bind, fin_ret, fin_next, chK_bl, sq_next, sq_ret, sq_brk, sq_cont, bnd_ok, b_add, b_sub, i_add, i_sub, c_lt, c_le, c_gt, c_ge, c_eq, c_ne, c_eqs, c_nes, c_eqb, t_bl, t_int, t_non, p_int, f_int, as_n, as_t2, as_t3, setMany, getL, List.getElem?_cons_zero, List.getElem?_cons_succ, List.set_cons_zero, List.set_cons_succ, wipeL, tl0, tl1, tl2, tl3, tl4, tl5, tl6, Bool.not_true, Bool.not_false, decide_eq_true_eq, if_true, if_false, ite_true, ite_false, eq_self, Bool.false_eq_true, cmpV, isV, isiF, tyOf, List.any_cons, List.any_nil, isaT]; exact ⟨trivial, trivial⟩
  | bl b => simp only [ev_var, ev_cst, ev_bin, ev_neg, ev_cmp, ev_chain', ev_and, ev_or, ev_not, ev_ite, ev_tup, ev_lst, ev_ix, ev_sl, ev_call, ev_bt, ev_mt, ev_isi, ev_lc, ev_nil, ev_cons, ev_onone, ev_osome, ev_cnone, ev_csome, ev_ie, ev_rng, ev_enu, asT, ex_asg, ex_asgS, ex_par, ex_aug, ex_ite, ex_whl, ex_for, ex_expr, ex_ret, ex_retN, ex_pass, ex_brk, ex_cont, ex_never, ex_nil, ex_cons', W_ok, W_bind, fin_ret, fin_next, chK_bl, sq_next, sq_ret, sq_brk, sq_cont, bnd_ok, b_add, b_sub, i_add, i_sub, c_lt, c_le, c_gt, c_ge, c_eq, c_ne, c_eqs, c_nes, c_eqb, t_bl, t_int, t_non, p_int, f_int, as_n, as_t2, as_t3, setMany, getL, List.getElem?_cons_zero, List.getElem?_cons_succ, List.set_cons_zero, List.set_cons_succ, wipeL, tl0, tl1, tl2, tl3, tl4, tl5, tl6, Bool.not_true, Bool.not_false, decide_eq_true_eq, if_true, if_false, ite_true, ite_false, eq_self, Bool.false_eq_true, cmpV, isV, isiF, tyOf, List.any_cons, List.any_nil, isaT, Bool.or_false, reduceCtorEq, decide_true, decide_false, eqV, eqB, toB]; exact ⟨trivial, trivial⟩
  | int b => simp only [ev_var, ev_cst, ev_bin, ev_neg, ev_cmp, ev_chain', ev_and, ev_or, ev_not, ev_ite, ev_tup, ev_lst, ev_ix, ev_sl, ev_call, ev_bt, ev_mt, ev_isi, ev_lc, ev_nil, ev_cons, ev_onone, ev_osome, ev_cnone, ev_csome, ev_ie, ev_rng, ev_enu, asT, ex_asg, ex_asgS, ex_par, ex_aug, ex_ite, ex_whl, ex_for, ex_expr, ex_ret, ex_retN, ex_pass, ex_brk, ex_cont, ex_never, ex_nil, ex_cons', W_ok, W_bind, fin_ret, fin_next, chK_bl, sq_next, sq_ret, sq_brk, sq_cont, bnd_ok, b_add, b_sub, i_add, i_sub, c_lt, c_le, c_gt, c_ge, c_eq, c_ne, c_eqs, c_nes, c_eqb, t_bl, t_int, t_non, p_int, f_int, as_n, as_t2, as_t3, setMany, getL, List.getElem?_cons_zero, List.getElem?_cons_succ, List.set_cons_zero, List.set_cons_succ, wipeL, tl0, tl1, tl2, tl3, tl4, tl5, tl6, Bool.not_true, Bool.not_false, decide_eq_true_eq, if_true, if_false, ite_true, ite_false, eq_self, Bool.false_eq_true, cmpV, isV, isiF, tyOf, List.any_cons, List.any_nil, isaT, Bool.or_false, reduceCtorEq, decide_true, decide_false, eqV, eqB, toB]; exact ⟨trivial, trivial⟩
  | str b => simp only [ev_var, ev_cst, ev_bin, ev_neg, ev_cmp, ev_chain', ev_and, ev_or, ev_not, ev_ite, ev_tup, ev_lst, ev_ix, ev_sl, ev_call, ev_bt, ev_mt, ev_isi, ev_lc, ev_nil, ev_cons, ev_onone, ev_osome, ev_cnone, ev_csome, ev_ie, ev_rng, ev_enu, asT, ex_asg, ex_asgS, ex_par, ex_aug, ex_ite, ex_whl, ex_for, ex_expr, ex_ret, ex_retN, ex_pass, ex_brk, ex_cont, ex_never, ex_nil, ex_cons', W_ok, W_bind, fin_ret, fin_next, chK_bl, sq_next, sq_ret, sq_brk, sq_cont, bnd_ok, b_add, b_sub, i_add, i_sub, c_lt, c_le, c_gt, c_ge, c_eq, c_ne, c_eqs, c_nes, c_eqb, t_bl, t_int, t_non, p_int, f_int, as_n, as_t2, as_t3, setMany, getL, List.getElem?_cons_zero, List.getElem?_cons_succ, List.set_cons_zero, List.set_cons_succ, wipeL, tl0, tl1, tl2, tl3, tl4, tl5, tl6, Bool.not_true, Bool.not_false, decide_eq_true_eq, if_true, if_false, ite_true, ite_false, eq_self, Bool.false_eq_true, cmpV, isV, isiF, tyOf, List.any_cons, List.any_nil, isaT, Bool.or_false, reduceCtorEq, decide_true, decide_false, eqV, eqB, toB]; exact ⟨trivial, trivial⟩
  | _ => cases h
theorem so_eq (hf : fs[i]? = some ⟨3, 2, bSo i⟩) : ∀ (n k : Nat) (v : PV), plain n v = true → callN fs fu (k + n + 1) i [v, v] S = .ok (.bl true) S := by
  intro n
  induction n with
  | zero =>
    intro k v hv
    exact so_scal hf v (by cases v <;> first | rfl | cases hv)
  | succ n ih =>
    intro k v hv
    cases v with
    | tup xs =>
      unfold plain at hv
      obtain ⟨hl, hv⟩ := (Bool.and_eq_true ..).mp hv
      have hl : xs.length ≤ lim := of_decide_eq_true hl
      have hi : itemsOf S (.tup xs) = some xs := rfl
      refine eq_of_W ?_
      rw [show k + (n + 1) + 1 = (k + n + 1) + 1 by omega]
      refine W_fn2 hf rfl rfl ?_; simp only [List.map_cons, List.map_nil, List.length_cons, List.length_nil, List.cons_append, List.nil_append, List.append_nil, List.replicate_succ, List.replicate_zero, Nat.reduceAdd, Nat.reduceSub, Nat.zero_add]
      unfold bSo
      simp only [ev_var, ev_cst, ev_bin, ev_neg, ev_cmp, ev_chain', ev_and, ev_or, ev_not, ev_ite, ev_tup, ev_lst, ev_ix, ev_sl, ev_call, ev_bt, ev_mt, ev_isi, ev_lc, ev_nil, ev_cons, ev_onone, ev_osome, ev_cnone, ev_csome, ev_ie, ev_rng, ev_enu, asT, ex_asg, ex_asgS, ex_par, ex_aug, ex_ite, ex_whl, ex_for, ex_expr, ex_ret, ex_retN, ex_pass, ex_brk, ex_cont, ex_never, ex_nil, ex_cons', W_ok, W_bind, fin_ret, fin_next, chK_bl, sq_next, sq_ret, sq_brk, sq_cont, bnd_ok, b_add, b_sub, i_add, i_sub, c_lt, c_le, c_gt, c_ge, c_eq, c_ne, c_eqs, c_nes, c_eqb, t_bl, t_int, t_non, p_int, f_int, as_n, as_t2, as_t3, setMany, getL, List.getElem?_cons_zero, List.getElem?_cons_succ, List.set_cons_zero, List.set_cons_succ, wipeL, tl0, tl1, tl2, tl3, tl4, tl5, tl6, Bool.not_true, Bool.not_false, decide_eq_true_eq, if_true, if_false, ite_true, ite_false, eq_self, Bool.false_eq_true, show cmpV .Is (.tup xs) .non S = .ok (.bl false) S from rfl, isiF, tyOf, List.any_cons, List.any_nil, isaT, Bool.or_false, reduceCtorEq, decide_true, decide_false, f_len hi, neV, eqB, toB]
      refine W_r1 (by unfold big62; unfold lim at hl; omega) ?_
      refine W_for0 (xs := rngL 0 xs.length) (by exact rfl) (fun i ρ S' => S' = S ∧ ∃ z, ρ = [some (.tup xs), some (.tup xs), z]) ⟨rfl, _, rfl⟩ (fun _ _ _ _ => rfl) (fun m x ρ S1 hx hI => ?_) fun ρ S1 hI => ?_
      · obtain ⟨rfl, z, rfl⟩ := hI
        obtain ⟨rfl, hm⟩ := rngL_get hx
        have hx : xs[((0 : Int) + (m : Int)).toNat]? = some xs[m] := by
          rw [show ((0 : Int) + (m : Int)).toNat = m by omega]; exact List.getElem?_eq_getElem hm
        have hpl := plains_all.mp hv _ (List.getElem_mem hm)
        have hix := ix_at (S := S1) (x := .tup xs) (xs := xs) (i := (0 : Int) + (m : Int)) rfl (by omega) hx
        simp only [ev_var, ev_cst, ev_bin, ev_neg, ev_cmp, ev_chain', ev_and, ev_or, ev_not, ev_ite, ev_tup, ev_lst, ev_ix, ev_sl, ev_call, ev_bt, ev_mt, ev_isi, ev_lc, ev_nil, ev_cons, ev_onone, ev_osome, ev_cnone, ev_csome, ev_ie, ev_rng, ev_enu, asT, ex_asg, ex_asgS, ex_par, ex_aug, ex_ite, ex_whl, ex_for, ex_expr, ex_ret, ex_retN, ex_pass, ex_brk, ex_cont, ex_never, ex_nil, ex_cons', W_ok, W_bind, fin_ret, fin_next, chK_bl, sq_next, sq_ret, sq_brk, sq_cont, bnd_ok, b_add, b_sub, i_add, i_sub, c_lt, c_le, c_gt, c_ge, c_eq, c_ne, c_eqs, c_nes, c_eqb, t_bl, t_int, t_non, p_int, f_int, as_n, as_t2, as_t3, setMany, getL, List.getElem?_cons_zero, List.getElem?_cons_succ, List.set_cons_zero, List.set_cons_succ, wipeL, tl0, tl1, tl2, tl3, tl4, tl5, tl6, Bool.not_true, Bool.not_false, decide_eq_true_eq, if_true, if_false, ite_true, ite_false, eq_self, Bool.false_eq_true, hix, ih k _ hpl]
        exact ⟨trivial, _, rfl⟩
      · obtain ⟨rfl, z, rfl⟩ := hI
        simp only [ev_var, ev_cst, ev_bin, ev_neg, ev_cmp, ev_chain', ev_and, ev_or, ev_not, ev_ite, ev_tup, ev_lst, ev_ix, ev_sl, ev_call, ev_bt, ev_mt, ev_isi, ev_lc, ev_nil, ev_cons, ev_onone, ev_osome, ev_cnone, ev_csome, ev_ie, ev_rng, ev_enu, asT, ex_asg, ex_asgS, ex_par, ex_aug, ex_ite, ex_whl, ex_for, ex_expr, ex_ret, ex_retN, ex_pass, ex_brk, ex_cont, ex_never, ex_nil, ex_cons', W_ok, W_bind, fin_ret, fin_next, chK_bl, sq_next, sq_ret, sq_brk, sq_cont, bnd_ok, b_add, b_sub, i_add, i_sub, c_lt, c_le, c_gt, c_ge, c_eq, c_ne, c_eqs, c_nes, c_eqb, t_bl, t_int, t_non, p_int, f_int, as_n, as_t2, as_t3, setMany, getL, List.getElem?_cons_zero, List.getElem?_cons_succ, List.set_cons_zero, List.set_cons_succ, wipeL, tl0, tl1, tl2, tl3, tl4, tl5, tl6, Bool.not_true, Bool.not_false, decide_eq_true_eq, if_true, if_false, ite_true, ite_false, eq_self, Bool.false_eq_true, and_self]
    | ltc xs => cases hv
    | ref m => cases hv
    | _ => exact so_scal hf _ rfl
end
end Mp

/-! Mq3: the draws. -/
namespace Mp
open PySem PySem.Spec L2
section
variable {fs : List Fn} {fu k i j : Nat} {S : Store}
/-! ### draws -/
theorem draw_ok (hf : fs[i]? = some ⟨4, 3, bDraw⟩) {rw_ : Nat} {R : List Int} (hr : S[rw_]? = some (.lst (R.map .int))) (hR : 0 < R.length) {at_ lim_ : Int} (h0 : 0 ≤ at_) (hl : 0 < lim_) :
    ∃ d : Int, (0 ≤ d ∧ d < lim_) ∧ callN fs fu (k + 1) i [.ref rw_, .int at_, .int lim_] S = .ok (.int d) S := by
  have hi := items_ref hr
  have key : W (callN fs fu (k + 1) i [.ref rw_, .int at_, .int lim_] S) (fun v S' => ∃ d : Int, (0 ≤ d ∧ d < lim_) ∧ v = .int d ∧ S' = S) := by
    refine W_fn2 hf rfl rfl ?_; simp only [List.map_cons, List.map_nil, List.length_cons, List.length_nil, List.cons_append, List.nil_append, List.append_nil, List.replicate_succ, List.replicate_zero, Nat.reduceAdd, Nat.reduceSub, Nat.zero_add]
    unfold bDraw
    have hlen : ((R.map PV.int).length : Int) = R.length := by rw [List.length_map]
    simp only [ev_var, ev_cst, ev_bin, ev_neg, ev_cmp, ev_chain', ev_and, ev_or, ev_not, ev_ite, ev_tup, ev_lst, ev_ix, ev_sl, ev_call, ev_bt, ev_mt, ev_isi, ev_lc, ev_nil, ev_cons, ev_onone, ev_osome, ev_cnone, ev_csome, ev_ie, ev_rng, ev_enu, asT, ex_asg, ex_asgS, ex_par, ex_aug, ex_ite, ex_whl, ex_for, ex_expr, ex_ret, ex_retN, ex_pass, ex_brk, ex_cont, ex_never, ex_nil, ex_cons', W_ok, W_bind, fin_ret, fin_next, chK_bl, sq_next, sq_ret, sq_brk, sq_cont, bnd_ok, b_add, b_sub, i_add, i_sub, c_lt, c_le, c_gt, c_ge, c_eq, c_ne, c_eqs, c_nes, c_eqb, t_bl, t_int, t_non, p_int, f_int, as_n, as_t2, as_t3, setMany, getL, List.getElem?_cons_zero, List.getElem?_cons_succ, List.set_cons_zero, List.set_cons_succ, wipeL, tl0, tl1, tl2, tl3, tl4, tl5, tl6, Bool.not_true, Bool.not_false, decide_eq_true_eq, if_true, if_false, ite_true, ite_false, eq_self, Bool.false_eq_true, f_len hi, hlen]
    by_cases h : at_ < (R.length : Int)
    · have e : (R.map PV.int)[at_.toNat]? = some (.int (R[at_.toNat]'(by omega))) := by rw [List.getElem?_map, List.getElem?_eq_getElem (by omega)]; rfl
      rw [if_pos h]
      simp only [ev_var, ev_cst, ev_bin, ev_neg, ev_cmp, ev_chain', ev_and, ev_or, ev_not, ev_ite, ev_tup, ev_lst, ev_ix, ev_sl, ev_call, ev_bt, ev_mt, ev_isi, ev_lc, ev_nil, ev_cons, ev_onone, ev_osome, ev_cnone, ev_csome, ev_ie, ev_rng, ev_enu, asT, ex_asg, ex_asgS, ex_par, ex_aug, ex_ite, ex_whl, ex_for, ex_expr, ex_ret, ex_retN, ex_pass, ex_brk, ex_cont, ex_never, ex_nil, ex_cons', W_ok, W_bind, fin_ret, fin_next, chK_bl, sq_next, sq_ret, sq_brk, sq_cont, bnd_ok, b_add, b_sub, i_add, i_sub, c_lt, c_le, c_gt, c_ge, c_eq, c_ne, c_eqs, c_nes, c_eqb, t_bl, t_int, t_non, p_int, f_int, as_n, as_t2, as_t3, setMany, getL, List.getElem?_cons_zero, List.getElem?_cons_succ, List.set_cons_zero, List.set_cons_succ, wipeL, tl0, tl1, tl2, tl3, tl4, tl5, tl6, Bool.not_true, Bool.not_false, decide_eq_true_eq, if_true, if_false, ite_true, ite_false, eq_self, Bool.false_eq_true, ix_at hi h0 e, b_mod hl]
      exact ⟨_, ⟨Int.emod_nonneg _ (by omega), Int.emod_lt_of_pos _ hl⟩, rfl, trivial⟩
    · rw [if_neg h]
      have hRp : (0 : Int) < R.length := by omega
      have hm0 : 0 ≤ at_ % (R.length : Int) := Int.emod_nonneg _ (by omega)
      have hm1 : at_ % (R.length : Int) < R.length := Int.emod_lt_of_pos _ hRp
      have e : (R.map PV.int)[(at_ % (R.length : Int)).toNat]? = some (.int (R[(at_ % (R.length : Int)).toNat]'(by omega))) := by rw [List.getElem?_map, List.getElem?_eq_getElem (by omega)]; rfl
      simp only [ev_var, ev_cst, ev_bin, ev_neg, ev_cmp, ev_chain', ev_and, ev_or, ev_not, ev_ite, ev_tup, ev_lst, ev_ix, ev_sl, ev_call, ev_bt, ev_mt, ev_isi, ev_lc, ev_nil, ev_cons, ev_onone, ev_osome, ev_cnone, ev_csome, ev_ie, ev_rng, ev_enu, asT, ex_asg, ex_asgS, ex_par, ex_aug, ex_ite, ex_whl, ex_for, ex_expr, ex_ret, ex_retN, ex_pass, ex_brk, ex_cont, ex_never, ex_nil, ex_cons', W_ok, W_bind, fin_ret, fin_next, chK_bl, sq_next, sq_ret, sq_brk, sq_cont, bnd_ok, b_add, b_sub, i_add, i_sub, c_lt, c_le, c_gt, c_ge, c_eq, c_ne, c_eqs, c_nes, c_eqb, t_bl, t_int, t_non, p_int, f_int, as_n, as_t2, as_t3, setMany, getL, List.getElem?_cons_zero, List.getElem?_cons_succ, List.set_cons_zero, List.set_cons_succ, wipeL, tl0, tl1, tl2, tl3, tl4, tl5, tl6, Bool.not_true, Bool.not_false, decide_eq_true_eq, if_true, if_false, ite_true, ite_false, eq_self, Bool.false_eq_true, f_len hi, hlen, b_mod hRp, ix_at hi hm0 e, b_mul (show (-18446744073709551616 : Int) < 40692 ∧ (40692 : Int) < 18446744073709551616 by decide), b_mul (show (-18446744073709551616 : Int) < 7919 ∧ (7919 : Int) < 18446744073709551616 by decide), b_mul (show (-18446744073709551616 : Int) < 48271 ∧ (48271 : Int) < 18446744073709551616 by decide), b_mod (show (0 : Int) < 2147483399 by decide), b_mod (show (0 : Int) < 2147483647 by decide), b_mod hl]
      exact ⟨_, ⟨Int.emod_nonneg _ (by omega), Int.emod_lt_of_pos _ hl⟩, rfl, trivial⟩
  obtain ⟨v, S', e, d, hd, rfl, rfl⟩ := key.get
  exact ⟨d, hd, e⟩
/-- the row and the spot -/
structure Dr (R : List Int) (rw_ sp : Nat) (S : Store) : Prop where
  row : S[rw_]? = some (.lst (R.map .int))
  pos : 0 < R.length
  ne : rw_ ≠ sp
  spot : ∃ s : Nat, S[sp]? = some (.lst [.int (s : Int)])
abbrev Ks (sp : Nat) (S S' : Store) : Prop := Kp (fun n => n ≠ sp) S S'
theorem Dr.kp {R : List Int} {rw_ sp : Nat} {S S' : Store} (D : Dr R rw_ sp S) (k : Sub S S') : Dr R rw_ sp S' := by
  obtain ⟨s, h⟩ := D.spot
  exact ⟨k _ _ trivial D.row, D.pos, D.ne, s, k _ _ trivial h⟩
theorem take_ok (hf : fs[i]? = some ⟨3, 3, bTake j⟩) (hj : fs[j]? = some ⟨4, 3, bDraw⟩) {rw_ sp : Nat} {R : List Int} (D : Dr R rw_ sp S) {lim_ : Int} (hl : 0 < lim_) :
    W (callN fs fu (k + 2) i [.ref rw_, .ref sp, .int lim_] S) (fun v S' => ∃ d : Int, v = .int d ∧ 0 ≤ d ∧ d < lim_ ∧ Dr R rw_ sp S' ∧ Ks sp S S') := by
  obtain ⟨s, hs⟩ := D.spot
  have hlt : sp < S.length := (List.getElem?_eq_some_iff.mp hs).1
  have hi := items_ref hs
  have hs' : (S.set sp (.lst [.int ((s : Int) + 1)]))[sp]? = some (.lst [.int ((s : Int) + 1)]) := by rw [List.getElem?_set_self hlt]
  have hD : Dr R rw_ sp (S.set sp (.lst [.int ((s : Int) + 1)])) := ⟨by rw [List.getElem?_set_ne (fun e => D.ne e.symm)]; exact D.row, D.pos, D.ne, s + 1, by rw [hs']; simp⟩
  obtain ⟨d, hd, e⟩ := draw_ok (fu := fu) (k := k) hj hD.row hD.pos (at_ := (s : Int) + 1 - 1) (lim_ := lim_) (by omega) hl
  refine W_fn2 hf rfl rfl ?_; simp only [List.map_cons, List.map_nil, List.length_cons, List.length_nil, List.cons_append, List.nil_append, List.append_nil, List.replicate_succ, List.replicate_zero, Nat.reduceAdd, Nat.reduceSub, Nat.zero_add]
  unfold bTake
  simp only [ev_var, ev_cst, ev_bin, ev_neg, ev_cmp, ev_chain', ev_and, ev_or, ev_not, ev_ite, ev_tup, ev_lst, ev_ix, ev_sl, ev_call, ev_bt, ev_mt, ev_isi, ev_lc, ev_nil, ev_cons, ev_onone, ev_osome, ev_cnone, ev_csome, ev_ie, ev_rng, ev_enu, asT, ex_asg, ex_asgS, ex_par, ex_aug, ex_ite, ex_whl, ex_for, ex_expr, ex_ret, ex_retN, ex_pass, ex_brk, ex_cont, ex_never, ex_nil, ex_cons', W_ok, W_bind, fin_ret, fin_next, chK_bl, sq_next, sq_ret, sq_brk, sq_cont, bnd_ok, b_add, b_sub, i_add, i_sub, c_lt, c_le, c_gt, c_ge, c_eq, c_ne, c_eqs, c_nes, c_eqb, t_bl, t_int, t_non, p_int, f_int, as_n, as_t2, as_t3, setMany, getL, List.getElem?_cons_zero, List.getElem?_cons_succ, List.set_cons_zero, List.set_cons_succ, wipeL, tl0, tl1, tl2, tl3, tl4, tl5, tl6, Bool.not_true, Bool.not_false, decide_eq_true_eq, if_true, if_false, ite_true, ite_false, eq_self, Bool.false_eq_true, ix_at hi (Int.le_refl 0) (show ([PV.int (s : Int)])[(0 : Int).toNat]? = some (.int (s : Int)) from rfl), set_at hs (Int.le_refl 0) (show (0 : Int) < (([PV.int (s : Int)]).length : Int) from Int.one_pos), Int.toNat_zero, ix_at (items_ref hs') (Int.le_refl 0) (show ([PV.int ((s : Int) + 1)])[(0 : Int).toNat]? = some (.int ((s : Int) + 1)) from rfl), e]
  exact ⟨d, rfl, hd.1, hd.2, hD, Kp.set (fun h => h rfl)⟩
end
end Mp

/-! Mq4: _law_numbers, _law_listed, _law_handed. -/
namespace Mp
open PySem PySem.Spec L2
section
variable {fs : List Fn} {fu k i j : Nat} {S : Store}
theorem cut_sub {α : Type} {xs : List α} {lo hi : Option Int} {x : α} (h : x ∈ cut xs lo hi) : x ∈ xs := List.mem_of_mem_drop (List.mem_of_mem_take h)
theorem cut_len {α : Type} {xs : List α} {lo hi : Option Int} : (cut xs lo hi).length ≤ xs.length := by
  unfold cut
  rw [List.length_take, List.length_drop]
  omega
theorem pow18 : binV .Pow (.int 10) (.int 18) S = .ok (.int (10 ^ 18)) S := by
  show (if cPow 10 18 = true then Res.ok (PV.int (10 ^ (18 : Int).toNat)) S else .bad) = _
  exact if_pos (by decide)
theorem sm (j : Int) (h : -18446744073709551616 < j ∧ j < 18446744073709551616 := by decide) : -18446744073709551616 < j ∧ j < 18446744073709551616 := h
theorem b62 (j : Int) (h : -4611686018427387904 ≤ j ∧ j < 4611686018427387904) : -big62 ≤ j ∧ j < big62 := h
theorem ty_at {n : Nat} {xs : List PV} (h : S[n]? = some (.lst xs)) : (tyOf S (.ref n) = some (mtTy .append)) = True := eq_true (ty_ref h)
theorem map_snoc (R : List Int) (x : Int) : R.map PV.int ++ [.int x] = (R ++ [x]).map PV.int := by simp
theorem numbers_ok (hf : fs[i]? = some ⟨6, 1, bNumbers⟩) {ns : List Int} (hn : ns.length ≤ 63) :
    W (callN fs fu (k + 1) i [.ltc (ns.map .int)] []) (fun v S' => ∃ (R : List Int) (ys : List PV), v = .ref 0 ∧ 0 < R.length ∧ S' = [.lst (R.map .int), .lst ys]) := by
  refine W_fn2 hf rfl rfl ?_; simp only [List.map_cons, List.map_nil, List.length_cons, List.length_nil, List.cons_append, List.nil_append, List.append_nil, List.replicate_succ, List.replicate_zero, Nat.reduceAdd, Nat.reduceSub, Nat.zero_add]
  unfold bNumbers
  simp only [ev_var, ev_cst, ev_bin, ev_neg, ev_cmp, ev_chain', ev_and, ev_or, ev_not, ev_ite, ev_tup, ev_lst, ev_ix, ev_sl, ev_call, ev_bt, ev_mt, ev_isi, ev_lc, ev_nil, ev_cons, ev_onone, ev_osome, ev_cnone, ev_csome, ev_ie, ev_rng, ev_enu, asT, ex_asg, ex_asgS, ex_par, ex_aug, ex_ite, ex_whl, ex_for, ex_expr, ex_ret, ex_retN, ex_pass, ex_brk, ex_cont, ex_never, ex_nil, ex_cons', W_ok, W_bind, fin_ret, fin_next, chK_bl, sq_next, sq_ret, sq_brk, sq_cont, bnd_ok, b_add, b_sub, i_add, i_sub, c_lt, c_le, c_gt, c_ge, c_eq, c_ne, c_eqs, c_nes, c_eqb, t_bl, t_int, t_non, p_int, f_int, as_n, as_t2, as_t3, setMany, getL, List.getElem?_cons_zero, List.getElem?_cons_succ, List.set_cons_zero, List.set_cons_succ, wipeL, tl0, tl1, tl2, tl3, tl4, tl5, tl6, Bool.not_true, Bool.not_false, decide_eq_true_eq, if_true, if_false, ite_true, ite_false, eq_self, Bool.false_eq_true, slV, List.length_nil, Nat.zero_le, List.nil_append, List.length_cons, Nat.zero_add, List.cons_append]
  generalize hxs : cut (ns.map PV.int) none (some 63) = xs
  have hxl : xs.length ≤ 63 := by rw [← hxs]; exact Nat.le_trans cut_len (by rw [List.length_map]; exact hn)
  have hxm : ∀ x, x ∈ xs → ∃ c : Int, x = .int c := fun x hx => by
    rw [← hxs] at hx
    obtain ⟨c, _, e⟩ := List.mem_map.mp (cut_sub hx)
    exact ⟨c, e.symm⟩
  have hit : IrIs [.lst [], .lst xs] (.live 1) xs := rfl
  simp only [ev_var, ev_cst, ev_bin, ev_neg, ev_cmp, ev_chain', ev_and, ev_or, ev_not, ev_ite, ev_tup, ev_lst, ev_ix, ev_sl, ev_call, ev_bt, ev_mt, ev_isi, ev_lc, ev_nil, ev_cons, ev_onone, ev_osome, ev_cnone, ev_csome, ev_ie, ev_rng, ev_enu, asT, ex_asg, ex_asgS, ex_par, ex_aug, ex_ite, ex_whl, ex_for, ex_expr, ex_ret, ex_retN, ex_pass, ex_brk, ex_cont, ex_never, ex_nil, ex_cons', W_ok, W_bind, fin_ret, fin_next, chK_bl, sq_next, sq_ret, sq_brk, sq_cont, bnd_ok, b_add, b_sub, i_add, i_sub, c_lt, c_le, c_gt, c_ge, c_eq, c_ne, c_eqs, c_nes, c_eqb, t_bl, t_int, t_non, p_int, f_int, as_n, as_t2, as_t3, setMany, getL, List.getElem?_cons_zero, List.getElem?_cons_succ, List.set_cons_zero, List.set_cons_succ, wipeL, tl0, tl1, tl2, tl3, tl4, tl5, tl6, Bool.not_true, Bool.not_false, decide_eq_true_eq, if_true, if_false, ite_true, ite_false, eq_self, Bool.false_eq_true, if_pos (show 0 ≤ lim by decide), List.nil_append, List.cons_append, List.length_cons, List.length_nil, Nat.zero_add, iterV]
  refine W_for0 hit (fun m ρ S' => ∃ (R : List Int) (z2 z3 z4 z5 : Option PV), S' = [.lst (R.map .int), .lst xs] ∧ R.length ≤ 60 * m ∧ ρ = [some (.ltc (ns.map .int)), some (.ref 0), z2, z3, z4, z5]) ⟨[], none, none, none, none, rfl, Nat.zero_le _, rfl⟩ (fun m ρ S' h => ?_) (fun m x ρ S' hx h => ?_) fun ρ S' h => ?_
  · obtain ⟨R, _, _, _, _, rfl, _, _⟩ := h; rfl
  · obtain ⟨R, z2, z3, z4, z5, rfl, hR, rfl⟩ := h
    obtain ⟨c, rfl⟩ := hxm x (List.mem_of_getElem? hx)
    have hm : m < 63 := by have := (List.getElem?_eq_some_iff.mp hx).1; omega
    simp only [ev_var, ev_cst, ev_bin, ev_neg, ev_cmp, ev_chain', ev_and, ev_or, ev_not, ev_ite, ev_tup, ev_lst, ev_ix, ev_sl, ev_call, ev_bt, ev_mt, ev_isi, ev_lc, ev_nil, ev_cons, ev_onone, ev_osome, ev_cnone, ev_csome, ev_ie, ev_rng, ev_enu, asT, ex_asg, ex_asgS, ex_par, ex_aug, ex_ite, ex_whl, ex_for, ex_expr, ex_ret, ex_retN, ex_pass, ex_brk, ex_cont, ex_never, ex_nil, ex_cons', W_ok, W_bind, fin_ret, fin_next, chK_bl, sq_next, sq_ret, sq_brk, sq_cont, bnd_ok, b_add, b_sub, i_add, i_sub, c_lt, c_le, c_gt, c_ge, c_eq, c_ne, c_eqs, c_nes, c_eqb, t_bl, t_int, t_non, p_int, f_int, as_n, as_t2, as_t3, setMany, getL, List.getElem?_cons_zero, List.getElem?_cons_succ, List.set_cons_zero, List.set_cons_succ, wipeL, tl0, tl1, tl2, tl3, tl4, tl5, tl6, Bool.not_true, Bool.not_false, decide_eq_true_eq, if_true, if_false, ite_true, ite_false, eq_self, Bool.false_eq_true, pow18]
    by_cases hc : (10 : Int) ^ 18 ≤ c
    · rw [if_pos hc]
      try simp only [ev_var, ev_cst, ev_bin, ev_neg, ev_cmp, ev_chain', ev_and, ev_or, ev_not, ev_ite, ev_tup, ev_lst, ev_ix, ev_sl, ev_call, ev_bt, ev_mt, ev_isi, ev_lc, ev_nil, ev_cons, ev_onone, ev_osome, ev_cnone, ev_csome, ev_ie, ev_rng, ev_enu, asT, ex_asg, ex_asgS, ex_par, ex_aug, ex_ite, ex_whl, ex_for, ex_expr, ex_ret, ex_retN, ex_pass, ex_brk, ex_cont, ex_never, ex_nil, ex_cons', W_ok, W_bind, fin_ret, fin_next, chK_bl, sq_next, sq_ret, sq_brk, sq_cont, bnd_ok, b_add, b_sub, i_add, i_sub, c_lt, c_le, c_gt, c_ge, c_eq, c_ne, c_eqs, c_nes, c_eqb, t_bl, t_int, t_non, p_int, f_int, as_n, as_t2, as_t3, setMany, getL, List.getElem?_cons_zero, List.getElem?_cons_succ, List.set_cons_zero, List.set_cons_succ, wipeL, tl0, tl1, tl2, tl3, tl4, tl5, tl6, Bool.not_true, Bool.not_false, decide_eq_true_eq, if_true, if_false, ite_true, ite_false, eq_self, Bool.false_eq_true]
      refine W_r1 (b62 _ (by decide)) ?_
      refine W_for0 (xs := rngL 0 60) (by exact rfl) (fun q ρ S' => ∃ (R1 : List Int) (r : Int) (z4 z5 : Option PV), S' = [.lst (R1.map .int), .lst xs] ∧ R1.length ≤ 60 * m + q ∧ ρ = [some (.ltc (ns.map .int)), some (.ref 0), some (.int c), some (.int r), z4, z5]) ⟨R, c, z4, z5, rfl, by omega, rfl⟩ (fun _ _ _ _ => rfl) (fun q x ρ S' hx h => ?_) fun ρ S' h => ?_
      · obtain ⟨R1, r, z4, z5, rfl, hR1, rfl⟩ := h
        obtain ⟨rfl, hq⟩ := rngL_get hx
        try simp only [ev_var, ev_cst, ev_bin, ev_neg, ev_cmp, ev_chain', ev_and, ev_or, ev_not, ev_ite, ev_tup, ev_lst, ev_ix, ev_sl, ev_call, ev_bt, ev_mt, ev_isi, ev_lc, ev_nil, ev_cons, ev_onone, ev_osome, ev_cnone, ev_csome, ev_ie, ev_rng, ev_enu, asT, ex_asg, ex_asgS, ex_par, ex_aug, ex_ite, ex_whl, ex_for, ex_expr, ex_ret, ex_retN, ex_pass, ex_brk, ex_cont, ex_never, ex_nil, ex_cons', W_ok, W_bind, fin_ret, fin_next, chK_bl, sq_next, sq_ret, sq_brk, sq_cont, bnd_ok, b_add, b_sub, i_add, i_sub, c_lt, c_le, c_gt, c_ge, c_eq, c_ne, c_eqs, c_nes, c_eqb, t_bl, t_int, t_non, p_int, f_int, as_n, as_t2, as_t3, setMany, getL, List.getElem?_cons_zero, List.getElem?_cons_succ, List.set_cons_zero, List.set_cons_succ, wipeL, tl0, tl1, tl2, tl3, tl4, tl5, tl6, Bool.not_true, Bool.not_false, decide_eq_true_eq, if_true, if_false, ite_true, ite_false, eq_self, Bool.false_eq_true]
        by_cases hr : r = 0
        · rw [if_pos hr]
          try simp only [ev_var, ev_cst, ev_bin, ev_neg, ev_cmp, ev_chain', ev_and, ev_or, ev_not, ev_ite, ev_tup, ev_lst, ev_ix, ev_sl, ev_call, ev_bt, ev_mt, ev_isi, ev_lc, ev_nil, ev_cons, ev_onone, ev_osome, ev_cnone, ev_csome, ev_ie, ev_rng, ev_enu, asT, ex_asg, ex_asgS, ex_par, ex_aug, ex_ite, ex_whl, ex_for, ex_expr, ex_ret, ex_retN, ex_pass, ex_brk, ex_cont, ex_never, ex_nil, ex_cons', W_ok, W_bind, fin_ret, fin_next, chK_bl, sq_next, sq_ret, sq_brk, sq_cont, bnd_ok, b_add, b_sub, i_add, i_sub, c_lt, c_le, c_gt, c_ge, c_eq, c_ne, c_eqs, c_nes, c_eqb, t_bl, t_int, t_non, p_int, f_int, as_n, as_t2, as_t3, setMany, getL, List.getElem?_cons_zero, List.getElem?_cons_succ, List.set_cons_zero, List.set_cons_succ, wipeL, tl0, tl1, tl2, tl3, tl4, tl5, tl6, Bool.not_true, Bool.not_false, decide_eq_true_eq, if_true, if_false, ite_true, ite_false, eq_self, Bool.false_eq_true]
          exact ⟨R1, _, _, _, _, rfl, by omega, rfl⟩
        · rw [if_neg hr]
          have hS : ([SO.lst (R1.map .int), .lst xs])[0]? = some (.lst (R1.map .int)) := rfl
          simp only [ev_var, ev_cst, ev_bin, ev_neg, ev_cmp, ev_chain', ev_and, ev_or, ev_not, ev_ite, ev_tup, ev_lst, ev_ix, ev_sl, ev_call, ev_bt, ev_mt, ev_isi, ev_lc, ev_nil, ev_cons, ev_onone, ev_osome, ev_cnone, ev_csome, ev_ie, ev_rng, ev_enu, asT, ex_asg, ex_asgS, ex_par, ex_aug, ex_ite, ex_whl, ex_for, ex_expr, ex_ret, ex_retN, ex_pass, ex_brk, ex_cont, ex_never, ex_nil, ex_cons', W_ok, W_bind, fin_ret, fin_next, chK_bl, sq_next, sq_ret, sq_brk, sq_cont, bnd_ok, b_add, b_sub, i_add, i_sub, c_lt, c_le, c_gt, c_ge, c_eq, c_ne, c_eqs, c_nes, c_eqb, t_bl, t_int, t_non, p_int, f_int, as_n, as_t2, as_t3, setMany, getL, List.getElem?_cons_zero, List.getElem?_cons_succ, List.set_cons_zero, List.set_cons_succ, wipeL, tl0, tl1, tl2, tl3, tl4, tl5, tl6, Bool.not_true, Bool.not_false, decide_eq_true_eq, if_true, if_false, ite_true, ite_false, eq_self, Bool.false_eq_true, if_pos (ty_ref hS), b_mod (show (0 : Int) < 997 by decide), b_div (show (0 : Int) < 997 ∧ (997 : Int) < 1073741824 by decide), mtTy, m_append hS (show (R1.map PV.int).length < lim by rw [List.length_map]; unfold lim; omega), map_snoc]
          exact ⟨_, _, _, _, rfl, by rw [List.length_append]; exact Nat.succ_le_succ hR1, rfl⟩
      · obtain ⟨R1, r, z4, z5, rfl, hR1, rfl⟩ := h
        rw [rngL_len] at hR1
        try simp only [ev_var, ev_cst, ev_bin, ev_neg, ev_cmp, ev_chain', ev_and, ev_or, ev_not, ev_ite, ev_tup, ev_lst, ev_ix, ev_sl, ev_call, ev_bt, ev_mt, ev_isi, ev_lc, ev_nil, ev_cons, ev_onone, ev_osome, ev_cnone, ev_csome, ev_ie, ev_rng, ev_enu, asT, ex_asg, ex_asgS, ex_par, ex_aug, ex_ite, ex_whl, ex_for, ex_expr, ex_ret, ex_retN, ex_pass, ex_brk, ex_cont, ex_never, ex_nil, ex_cons', W_ok, W_bind, fin_ret, fin_next, chK_bl, sq_next, sq_ret, sq_brk, sq_cont, bnd_ok, b_add, b_sub, i_add, i_sub, c_lt, c_le, c_gt, c_ge, c_eq, c_ne, c_eqs, c_nes, c_eqb, t_bl, t_int, t_non, p_int, f_int, as_n, as_t2, as_t3, setMany, getL, List.getElem?_cons_zero, List.getElem?_cons_succ, List.set_cons_zero, List.set_cons_succ, wipeL, tl0, tl1, tl2, tl3, tl4, tl5, tl6, Bool.not_true, Bool.not_false, decide_eq_true_eq, if_true, if_false, ite_true, ite_false, eq_self, Bool.false_eq_true]
        exact ⟨R1, _, _, _, _, rfl, by omega, rfl⟩
    · rw [if_neg hc]
      try simp only [ev_var, ev_cst, ev_bin, ev_neg, ev_cmp, ev_chain', ev_and, ev_or, ev_not, ev_ite, ev_tup, ev_lst, ev_ix, ev_sl, ev_call, ev_bt, ev_mt, ev_isi, ev_lc, ev_nil, ev_cons, ev_onone, ev_osome, ev_cnone, ev_csome, ev_ie, ev_rng, ev_enu, asT, ex_asg, ex_asgS, ex_par, ex_aug, ex_ite, ex_whl, ex_for, ex_expr, ex_ret, ex_retN, ex_pass, ex_brk, ex_cont, ex_never, ex_nil, ex_cons', W_ok, W_bind, fin_ret, fin_next, chK_bl, sq_next, sq_ret, sq_brk, sq_cont, bnd_ok, b_add, b_sub, i_add, i_sub, c_lt, c_le, c_gt, c_ge, c_eq, c_ne, c_eqs, c_nes, c_eqb, t_bl, t_int, t_non, p_int, f_int, as_n, as_t2, as_t3, setMany, getL, List.getElem?_cons_zero, List.getElem?_cons_succ, List.set_cons_zero, List.set_cons_succ, wipeL, tl0, tl1, tl2, tl3, tl4, tl5, tl6, Bool.not_true, Bool.not_false, decide_eq_true_eq, if_true, if_false, ite_true, ite_false, eq_self, Bool.false_eq_true]
      refine W_r1 (b62 _ (by decide)) ?_
      refine W_for0 (xs := rngL 0 4) (by exact rfl) (fun q ρ S' => ∃ (R1 : List Int) (z3 z4 z5 : Option PV), S' = [.lst (R1.map .int), .lst xs] ∧ R1.length ≤ 60 * m + q ∧ ρ = [some (.ltc (ns.map .int)), some (.ref 0), some (.int c), z3, z4, z5]) ⟨R, z3, z4, z5, rfl, by omega, rfl⟩ (fun _ _ _ _ => rfl) (fun q x ρ S' hx h => ?_) fun ρ S' h => ?_
      · obtain ⟨R1, z3, z4, z5, rfl, hR1, rfl⟩ := h
        obtain ⟨rfl, hq⟩ := rngL_get hx
        have hS : ([SO.lst (R1.map .int), .lst xs])[0]? = some (.lst (R1.map .int)) := rfl
        simp only [ev_var, ev_cst, ev_bin, ev_neg, ev_cmp, ev_chain', ev_and, ev_or, ev_not, ev_ite, ev_tup, ev_lst, ev_ix, ev_sl, ev_call, ev_bt, ev_mt, ev_isi, ev_lc, ev_nil, ev_cons, ev_onone, ev_osome, ev_cnone, ev_csome, ev_ie, ev_rng, ev_enu, asT, ex_asg, ex_asgS, ex_par, ex_aug, ex_ite, ex_whl, ex_for, ex_expr, ex_ret, ex_retN, ex_pass, ex_brk, ex_cont, ex_never, ex_nil, ex_cons', W_ok, W_bind, fin_ret, fin_next, chK_bl, sq_next, sq_ret, sq_brk, sq_cont, bnd_ok, b_add, b_sub, i_add, i_sub, c_lt, c_le, c_gt, c_ge, c_eq, c_ne, c_eqs, c_nes, c_eqb, t_bl, t_int, t_non, p_int, f_int, as_n, as_t2, as_t3, setMany, getL, List.getElem?_cons_zero, List.getElem?_cons_succ, List.set_cons_zero, List.set_cons_succ, wipeL, tl0, tl1, tl2, tl3, tl4, tl5, tl6, Bool.not_true, Bool.not_false, decide_eq_true_eq, if_true, if_false, ite_true, ite_false, eq_self, Bool.false_eq_true, if_pos (ty_ref hS), b_mul (sm 48271), b_mul (sm 69621), b_mul (sm 16807), b_mod (show (0 : Int) < 2147483647 by decide), b_mod (show (0 : Int) < 2147483629 by decide), mtTy, m_append hS (show (R1.map PV.int).length < lim by rw [List.length_map]; unfold lim; omega), map_snoc]
        exact ⟨_, _, _, _, rfl, by rw [List.length_append]; exact Nat.succ_le_succ hR1, rfl⟩
      · obtain ⟨R1, z3, z4, z5, rfl, hR1, rfl⟩ := h
        rw [rngL_len] at hR1
        try simp only [ev_var, ev_cst, ev_bin, ev_neg, ev_cmp, ev_chain', ev_and, ev_or, ev_not, ev_ite, ev_tup, ev_lst, ev_ix, ev_sl, ev_call, ev_bt, ev_mt, ev_isi, ev_lc, ev_nil, ev_cons, ev_onone, ev_osome, ev_cnone, ev_csome, ev_ie, ev_rng, ev_enu, asT, ex_asg, ex_asgS, ex_par, ex_aug, ex_ite, ex_whl, ex_for, ex_expr, ex_ret, ex_retN, ex_pass, ex_brk, ex_cont, ex_never, ex_nil, ex_cons', W_ok, W_bind, fin_ret, fin_next, chK_bl, sq_next, sq_ret, sq_brk, sq_cont, bnd_ok, b_add, b_sub, i_add, i_sub, c_lt, c_le, c_gt, c_ge, c_eq, c_ne, c_eqs, c_nes, c_eqb, t_bl, t_int, t_non, p_int, f_int, as_n, as_t2, as_t3, setMany, getL, List.getElem?_cons_zero, List.getElem?_cons_succ, List.set_cons_zero, List.set_cons_succ, wipeL, tl0, tl1, tl2, tl3, tl4, tl5, tl6, Bool.not_true, Bool.not_false, decide_eq_true_eq, if_true, if_false, ite_true, ite_false, eq_self, Bool.false_eq_true]
        exact ⟨R1, _, _, _, _, rfl, by omega, rfl⟩
  · obtain ⟨R, z2, z3, z4, z5, rfl, hR, rfl⟩ := h
    have hS : ([SO.lst (R.map .int), .lst xs])[0]? = some (.lst (R.map .int)) := rfl
    simp only [ev_var, ev_cst, ev_bin, ev_neg, ev_cmp, ev_chain', ev_and, ev_or, ev_not, ev_ite, ev_tup, ev_lst, ev_ix, ev_sl, ev_call, ev_bt, ev_mt, ev_isi, ev_lc, ev_nil, ev_cons, ev_onone, ev_osome, ev_cnone, ev_csome, ev_ie, ev_rng, ev_enu, asT, ex_asg, ex_asgS, ex_par, ex_aug, ex_ite, ex_whl, ex_for, ex_expr, ex_ret, ex_retN, ex_pass, ex_brk, ex_cont, ex_never, ex_nil, ex_cons', W_ok, W_bind, fin_ret, fin_next, chK_bl, sq_next, sq_ret, sq_brk, sq_cont, bnd_ok, b_add, b_sub, i_add, i_sub, c_lt, c_le, c_gt, c_ge, c_eq, c_ne, c_eqs, c_nes, c_eqb, t_bl, t_int, t_non, p_int, f_int, as_n, as_t2, as_t3, setMany, getL, List.getElem?_cons_zero, List.getElem?_cons_succ, List.set_cons_zero, List.set_cons_succ, wipeL, tl0, tl1, tl2, tl3, tl4, tl5, tl6, Bool.not_true, Bool.not_false, decide_eq_true_eq, if_true, if_false, ite_true, ite_false, eq_self, Bool.false_eq_true, f_len (items_ref hS), List.length_map]
    by_cases h0 : (R.length : Int) = 0
    · rw [if_pos h0]
      simp only [ev_var, ev_cst, ev_bin, ev_neg, ev_cmp, ev_chain', ev_and, ev_or, ev_not, ev_ite, ev_tup, ev_lst, ev_ix, ev_sl, ev_call, ev_bt, ev_mt, ev_isi, ev_lc, ev_nil, ev_cons, ev_onone, ev_osome, ev_cnone, ev_csome, ev_ie, ev_rng, ev_enu, asT, ex_asg, ex_asgS, ex_par, ex_aug, ex_ite, ex_whl, ex_for, ex_expr, ex_ret, ex_retN, ex_pass, ex_brk, ex_cont, ex_never, ex_nil, ex_cons', W_ok, W_bind, fin_ret, fin_next, chK_bl, sq_next, sq_ret, sq_brk, sq_cont, bnd_ok, b_add, b_sub, i_add, i_sub, c_lt, c_le, c_gt, c_ge, c_eq, c_ne, c_eqs, c_nes, c_eqb, t_bl, t_int, t_non, p_int, f_int, as_n, as_t2, as_t3, setMany, getL, List.getElem?_cons_zero, List.getElem?_cons_succ, List.set_cons_zero, List.set_cons_succ, wipeL, tl0, tl1, tl2, tl3, tl4, tl5, tl6, Bool.not_true, Bool.not_false, decide_eq_true_eq, if_true, if_false, ite_true, ite_false, eq_self, Bool.false_eq_true, if_pos (ty_ref hS), mtTy, m_append hS (show (R.map PV.int).length < lim by rw [List.length_map]; unfold lim; omega), map_snoc]
      exact ⟨_, _, trivial, by rw [List.length_append]; exact Nat.succ_pos _, rfl⟩
    · rw [if_neg h0]
      try simp only [ev_var, ev_cst, ev_bin, ev_neg, ev_cmp, ev_chain', ev_and, ev_or, ev_not, ev_ite, ev_tup, ev_lst, ev_ix, ev_sl, ev_call, ev_bt, ev_mt, ev_isi, ev_lc, ev_nil, ev_cons, ev_onone, ev_osome, ev_cnone, ev_csome, ev_ie, ev_rng, ev_enu, asT, ex_asg, ex_asgS, ex_par, ex_aug, ex_ite, ex_whl, ex_for, ex_expr, ex_ret, ex_retN, ex_pass, ex_brk, ex_cont, ex_never, ex_nil, ex_cons', W_ok, W_bind, fin_ret, fin_next, chK_bl, sq_next, sq_ret, sq_brk, sq_cont, bnd_ok, b_add, b_sub, i_add, i_sub, c_lt, c_le, c_gt, c_ge, c_eq, c_ne, c_eqs, c_nes, c_eqb, t_bl, t_int, t_non, p_int, f_int, as_n, as_t2, as_t3, setMany, getL, List.getElem?_cons_zero, List.getElem?_cons_succ, List.set_cons_zero, List.set_cons_succ, wipeL, tl0, tl1, tl2, tl3, tl4, tl5, tl6, Bool.not_true, Bool.not_false, decide_eq_true_eq, if_true, if_false, ite_true, ite_false, eq_self, Bool.false_eq_true]
      exact ⟨R, _, trivial, by omega, rfl⟩
/-! ### handed as a list or as it is -/
theorem scal_ty {x : PV} (h : scalar x = true) : ∃ t, tyOf S x = some t ∧ isaT t .tuple = false := by
  cases x with
  | non => exact ⟨_, rfl, rfl⟩
  | bl b => exact ⟨_, rfl, rfl⟩
  | int b => exact ⟨_, rfl, rfl⟩
  | str b => exact ⟨_, rfl, rfl⟩
  | _ => cases h
theorem listed_scal (hf : fs[i]? = some ⟨2, 1, bListed i⟩) {x : PV} (h : scalar x = true) : callN fs fu (k + 1) i [x] S = .ok x S := by
  refine eq_of_W ?_
  refine W_fn2 hf rfl rfl ?_; simp only [List.map_cons, List.map_nil, List.length_cons, List.length_nil, List.cons_append, List.nil_append, List.append_nil, List.replicate_succ, List.replicate_zero, Nat.reduceAdd, Nat.reduceSub, Nat.zero_add]
  unfold bListed
  obtain ⟨t, e1, e2⟩ := scal_ty (S := S) h
  simp only [ev_var, ev_cst, ev_bin, ev_neg, ev_cmp, ev_chain', ev_and, ev_or, ev_not, ev_ite, ev_tup, ev_lst, ev_ix, ev_sl, ev_call, ev_bt, ev_mt, ev_isi, ev_lc, ev_nil, ev_cons, ev_onone, ev_osome, ev_cnone, ev_csome, ev_ie, ev_rng, ev_enu, asT, ex_asg, ex_asgS, ex_par, ex_aug, ex_ite, ex_whl, ex_for, ex_expr, ex_ret, ex_retN, ex_pass, ex_brk, ex_cont, ex_never, ex_nil, ex_cons', W_ok, W_bind, fin_ret, fin_next, chK_bl, sq_next, sq_ret, sq_brk, sq_cont, bnd_ok, b_add, b_sub, i_add, i_sub, c_lt, c_le, c_gt, c_ge, c_eq, c_ne, c_eqs, c_nes, c_eqb, t_bl, t_int, t_non, p_int, f_int, as_n, as_t2, as_t3, setMany, getL, List.getElem?_cons_zero, List.getElem?_cons_succ, List.set_cons_zero, List.set_cons_succ, wipeL, tl0, tl1, tl2, tl3, tl4, tl5, tl6, Bool.not_true, Bool.not_false, decide_eq_true_eq, if_true, if_false, ite_true, ite_false, eq_self, Bool.false_eq_true, isiF, e1, List.any_cons, List.any_nil, e2, Bool.or_false, and_self]
theorem filterMap_some {α : Type} (xs : List α) : xs.filterMap some = xs := by
  induction xs with
  | nil => rfl
  | cons x xs ih => simp
theorem Kp.len {S S' : Store} (k : Sub S S') : S.length ≤ S'.length := by
  cases hS : S.length with
  | zero => omega
  | succ n =>
    have e : S[n]? = some S[n] := List.getElem?_eq_getElem (by omega)
    have := (List.getElem?_eq_some_iff.mp (k _ _ trivial e)).1
    omega
theorem listed_flat (hf : fs[i]? = some ⟨2, 1, bListed i⟩) {xs : List PV} (h : ∀ x, x ∈ xs → scalar x = true) (hl : xs.length ≤ lim) :
    W (callN fs fu (k + 2) i [.tup xs] S) (fun v S' => Sub S S' ∧ ∃ n, v = .ref n ∧ S'[n]? = some (.lst xs) ∧ S.length ≤ n) := by
  refine W_fn2 hf rfl rfl ?_; simp only [List.map_cons, List.map_nil, List.length_cons, List.length_nil, List.cons_append, List.nil_append, List.append_nil, List.replicate_succ, List.replicate_zero, Nat.reduceAdd, Nat.reduceSub, Nat.zero_add]
  unfold bListed
  simp only [ev_var, ev_cst, ev_bin, ev_neg, ev_cmp, ev_chain', ev_and, ev_or, ev_not, ev_ite, ev_tup, ev_lst, ev_ix, ev_sl, ev_call, ev_bt, ev_mt, ev_isi, ev_lc, ev_nil, ev_cons, ev_onone, ev_osome, ev_cnone, ev_csome, ev_ie, ev_rng, ev_enu, asT, ex_asg, ex_asgS, ex_par, ex_aug, ex_ite, ex_whl, ex_for, ex_expr, ex_ret, ex_retN, ex_pass, ex_brk, ex_cont, ex_never, ex_nil, ex_cons', W_ok, W_bind, fin_ret, fin_next, chK_bl, sq_next, sq_ret, sq_brk, sq_cont, bnd_ok, b_add, b_sub, i_add, i_sub, c_lt, c_le, c_gt, c_ge, c_eq, c_ne, c_eqs, c_nes, c_eqb, t_bl, t_int, t_non, p_int, f_int, as_n, as_t2, as_t3, setMany, getL, List.getElem?_cons_zero, List.getElem?_cons_succ, List.set_cons_zero, List.set_cons_succ, wipeL, tl0, tl1, tl2, tl3, tl4, tl5, tl6, Bool.not_true, Bool.not_false, decide_eq_true_eq, if_true, if_false, ite_true, ite_false, eq_self, Bool.false_eq_true, isiF, tyOf, List.any_cons, List.any_nil, isaT, decide_true, Bool.or_false, iterV]
  refine (W_lc (p := fun _ => True) (it := .vals xs) (xs := xs) some rfl trivial hl fun x hx S1 k1 => ?_).mono fun ys S' q => ?_
  · simp only [ev_var, ev_cst, ev_bin, ev_neg, ev_cmp, ev_chain', ev_and, ev_or, ev_not, ev_ite, ev_tup, ev_lst, ev_ix, ev_sl, ev_call, ev_bt, ev_mt, ev_isi, ev_lc, ev_nil, ev_cons, ev_onone, ev_osome, ev_cnone, ev_csome, ev_ie, ev_rng, ev_enu, asT, ex_asg, ex_asgS, ex_par, ex_aug, ex_ite, ex_whl, ex_for, ex_expr, ex_ret, ex_retN, ex_pass, ex_brk, ex_cont, ex_never, ex_nil, ex_cons', W_ok, W_bind, fin_ret, fin_next, chK_bl, sq_next, sq_ret, sq_brk, sq_cont, bnd_ok, b_add, b_sub, i_add, i_sub, c_lt, c_le, c_gt, c_ge, c_eq, c_ne, c_eqs, c_nes, c_eqb, t_bl, t_int, t_non, p_int, f_int, as_n, as_t2, as_t3, setMany, getL, List.getElem?_cons_zero, List.getElem?_cons_succ, List.set_cons_zero, List.set_cons_succ, wipeL, tl0, tl1, tl2, tl3, tl4, tl5, tl6, Bool.not_true, Bool.not_false, decide_eq_true_eq, if_true, if_false, ite_true, ite_false, eq_self, Bool.false_eq_true, listed_scal hf (h x hx)]
    exact ⟨trivial, .refl⟩
  · obtain ⟨rfl, k1⟩ := q
    exact ⟨k1.trans .push, _, rfl, by rw [filterMap_some]; exact at_push, k1.len⟩
theorem handed_flat {l t dr : Nat} (hf : fs[i]? = some ⟨3, 3, bHanded t l⟩) (ht : fs[t]? = some ⟨3, 3, bTake dr⟩) (hd : fs[dr]? = some ⟨4, 3, bDraw⟩) (hls : fs[l]? = some ⟨2, 1, bListed l⟩)
    {rw_ sp : Nat} {R : List Int} (D : Dr R rw_ sp S) {xs : List PV} (h : ∀ x, x ∈ xs → scalar x = true) (hl : xs.length ≤ lim) :
    W (callN fs fu (k + 3) i [.ref rw_, .ref sp, .tup xs] S) (fun v S' => itemsOf S' v = some xs ∧ NotR (fun n => n ≠ sp) v ∧ Dr R rw_ sp S' ∧ Ks sp S S') := by
  refine W_fn2 hf rfl rfl ?_; simp only [List.map_cons, List.map_nil, List.length_cons, List.length_nil, List.cons_append, List.nil_append, List.append_nil, List.replicate_succ, List.replicate_zero, Nat.reduceAdd, Nat.reduceSub, Nat.zero_add]
  unfold bHanded
  try simp only [ev_var, ev_cst, ev_bin, ev_neg, ev_cmp, ev_chain', ev_and, ev_or, ev_not, ev_ite, ev_tup, ev_lst, ev_ix, ev_sl, ev_call, ev_bt, ev_mt, ev_isi, ev_lc, ev_nil, ev_cons, ev_onone, ev_osome, ev_cnone, ev_csome, ev_ie, ev_rng, ev_enu, asT, ex_asg, ex_asgS, ex_par, ex_aug, ex_ite, ex_whl, ex_for, ex_expr, ex_ret, ex_retN, ex_pass, ex_brk, ex_cont, ex_never, ex_nil, ex_cons', W_ok, W_bind, fin_ret, fin_next, chK_bl, sq_next, sq_ret, sq_brk, sq_cont, bnd_ok, b_add, b_sub, i_add, i_sub, c_lt, c_le, c_gt, c_ge, c_eq, c_ne, c_eqs, c_nes, c_eqb, t_bl, t_int, t_non, p_int, f_int, as_n, as_t2, as_t3, setMany, getL, List.getElem?_cons_zero, List.getElem?_cons_succ, List.set_cons_zero, List.set_cons_succ, wipeL, tl0, tl1, tl2, tl3, tl4, tl5, tl6, Bool.not_true, Bool.not_false, decide_eq_true_eq, if_true, if_false, ite_true, ite_false, eq_self, Bool.false_eq_true]
  refine (take_ok ht hd D (show (0 : Int) < 2 by decide)).mono fun v S1 q => ?_
  obtain ⟨d, rfl, _, _, D1, k1⟩ := q
  try simp only [ev_var, ev_cst, ev_bin, ev_neg, ev_cmp, ev_chain', ev_and, ev_or, ev_not, ev_ite, ev_tup, ev_lst, ev_ix, ev_sl, ev_call, ev_bt, ev_mt, ev_isi, ev_lc, ev_nil, ev_cons, ev_onone, ev_osome, ev_cnone, ev_csome, ev_ie, ev_rng, ev_enu, asT, ex_asg, ex_asgS, ex_par, ex_aug, ex_ite, ex_whl, ex_for, ex_expr, ex_ret, ex_retN, ex_pass, ex_brk, ex_cont, ex_never, ex_nil, ex_cons', W_ok, W_bind, fin_ret, fin_next, chK_bl, sq_next, sq_ret, sq_brk, sq_cont, bnd_ok, b_add, b_sub, i_add, i_sub, c_lt, c_le, c_gt, c_ge, c_eq, c_ne, c_eqs, c_nes, c_eqb, t_bl, t_int, t_non, p_int, f_int, as_n, as_t2, as_t3, setMany, getL, List.getElem?_cons_zero, List.getElem?_cons_succ, List.set_cons_zero, List.set_cons_succ, wipeL, tl0, tl1, tl2, tl3, tl4, tl5, tl6, Bool.not_true, Bool.not_false, decide_eq_true_eq, if_true, if_false, ite_true, ite_false, eq_self, Bool.false_eq_true]
  by_cases hd0 : d = 0
  · rw [if_pos hd0]
    try simp only [ev_var, ev_cst, ev_bin, ev_neg, ev_cmp, ev_chain', ev_and, ev_or, ev_not, ev_ite, ev_tup, ev_lst, ev_ix, ev_sl, ev_call, ev_bt, ev_mt, ev_isi, ev_lc, ev_nil, ev_cons, ev_onone, ev_osome, ev_cnone, ev_csome, ev_ie, ev_rng, ev_enu, asT, ex_asg, ex_asgS, ex_par, ex_aug, ex_ite, ex_whl, ex_for, ex_expr, ex_ret, ex_retN, ex_pass, ex_brk, ex_cont, ex_never, ex_nil, ex_cons', W_ok, W_bind, fin_ret, fin_next, chK_bl, sq_next, sq_ret, sq_brk, sq_cont, bnd_ok, b_add, b_sub, i_add, i_sub, c_lt, c_le, c_gt, c_ge, c_eq, c_ne, c_eqs, c_nes, c_eqb, t_bl, t_int, t_non, p_int, f_int, as_n, as_t2, as_t3, setMany, getL, List.getElem?_cons_zero, List.getElem?_cons_succ, List.set_cons_zero, List.set_cons_succ, wipeL, tl0, tl1, tl2, tl3, tl4, tl5, tl6, Bool.not_true, Bool.not_false, decide_eq_true_eq, if_true, if_false, ite_true, ite_false, eq_self, Bool.false_eq_true]
    refine (listed_flat hls h hl).mono fun v S2 q => ?_
    obtain ⟨k2, n, rfl, e, hn⟩ := q
    obtain ⟨s, hs⟩ := D1.spot
    have := (List.getElem?_eq_some_iff.mp hs).1
    exact ⟨items_ref e, (by show n ≠ sp; omega), D1.kp k2, k1.trans (.of k2)⟩
  · rw [if_neg hd0]
    try simp only [ev_var, ev_cst, ev_bin, ev_neg, ev_cmp, ev_chain', ev_and, ev_or, ev_not, ev_ite, ev_tup, ev_lst, ev_ix, ev_sl, ev_call, ev_bt, ev_mt, ev_isi, ev_lc, ev_nil, ev_cons, ev_onone, ev_osome, ev_cnone, ev_csome, ev_ie, ev_rng, ev_enu, asT, ex_asg, ex_asgS, ex_par, ex_aug, ex_ite, ex_whl, ex_for, ex_expr, ex_ret, ex_retN, ex_pass, ex_brk, ex_cont, ex_never, ex_nil, ex_cons', W_ok, W_bind, fin_ret, fin_next, chK_bl, sq_next, sq_ret, sq_brk, sq_cont, bnd_ok, b_add, b_sub, i_add, i_sub, c_lt, c_le, c_gt, c_ge, c_eq, c_ne, c_eqs, c_nes, c_eqb, t_bl, t_int, t_non, p_int, f_int, as_n, as_t2, as_t3, setMany, getL, List.getElem?_cons_zero, List.getElem?_cons_succ, List.set_cons_zero, List.set_cons_succ, wipeL, tl0, tl1, tl2, tl3, tl4, tl5, tl6, Bool.not_true, Bool.not_false, decide_eq_true_eq, if_true, if_false, ite_true, ite_false, eq_self, Bool.false_eq_true]
    exact ⟨rfl, trivial, D1, k1⟩
end
end Mp

/-! Mq5: more for the pure goals: drawn lists, cuts, index. -/
namespace Mp
open PySem PySem.Spec L2
section
variable {fs : List Fn} {fu k i j : Nat} {S : Store}
theorem W_lcD {p : Nat → Prop} {it : Ir} {xs : List PV} {turn : PV → Store → Res (Option PV)} (Iv : Store → Prop) (P : PV → Prop) (h0 : Iv S) (hi : IrIs S it xs) (hp : NotI p it) (hl : xs.length ≤ lim)
    (h : ∀ x, x ∈ xs → ∀ S1, Iv S1 → Kp p S S1 → W (turn x S1) (fun r S2 => (∃ y, r = some y ∧ P y) ∧ Iv S2 ∧ Kp p S1 S2)) :
    W (lcN it turn (it.len S + 1) 0 [] S) (fun ys S' => ys.length = xs.length ∧ (∀ y, y ∈ ys → P y) ∧ Iv S' ∧ Kp p S S') := by
  rw [hi.len]
  refine (W_lcI (it := it) (xs := xs) (fun i acc S1 => acc.length = i ∧ (∀ y, y ∈ acc → P y) ∧ Iv S1 ∧ Kp p S S1 ∧ i ≤ xs.length) (fun i acc S1 q => hi.kp hp q.2.2.2.1) (fun i x acc S1 e q => ?_) (xs.length + 1) 0 [] S (Nat.zero_le _) (by omega) ⟨rfl, by simp, h0, .refl, Nat.zero_le _⟩).mono fun ys S' q => ⟨q.1, q.2.1, q.2.2.1, q.2.2.2.1⟩
  have hx := List.mem_of_getElem? e
  have hlt := (List.getElem?_eq_some_iff.mp e).1
  refine (h x hx S1 q.2.2.1 q.2.2.2.1).mono fun r S2 q2 => ?_
  obtain ⟨⟨y, rfl, hy⟩, i2, k2⟩ := q2
  refine ⟨by omega, by rw [List.length_append, q.1]; rfl, fun z hz => ?_, i2, q.2.2.2.1.trans k2, hlt⟩
  rcases List.mem_append.mp hz with hz | hz
  · exact q.2.1 z hz
  · rw [List.mem_singleton] at hz; rw [hz]; exact hy
/-- values that are ints -/
theorem ints_map {P : Int → Prop} : ∀ {ys : List PV}, (∀ y, y ∈ ys → ∃ d : Int, y = .int d ∧ P d) → ∃ ns : List Int, ys = ns.map .int ∧ ∀ n, n ∈ ns → P n
  | [], _ => ⟨[], rfl, by simp⟩
  | y :: ys, h => by
    obtain ⟨d, rfl, hd⟩ := h y (List.mem_cons_self ..)
    obtain ⟨ns, rfl, hn⟩ := ints_map (P := P) fun z hz => h z (List.mem_cons_of_mem _ hz)
    refine ⟨d :: ns, rfl, fun n hn' => ?_⟩
    rcases List.mem_cons.mp hn' with rfl | hn'
    · exact hd
    · exact hn n hn'
theorem cut_map {α β : Type} (f : α → β) (xs : List α) (lo hi : Option Int) : cut (xs.map f) lo hi = (cut xs lo hi).map f := by
  unfold cut
  rw [List.length_map, List.map_take, List.map_drop]
theorem maxL_mem : ∀ {ns : List Int}, 0 < ns.length → maxL ns ∈ ns
  | [a], _ => by simp [maxL]
  | a :: b :: r, _ => by
    have ih := maxL_mem (ns := b :: r) (by simp)
    unfold maxL
    split
    · exact List.mem_cons_self ..
    · exact List.mem_cons_of_mem _ ih
theorem findIx_int {m : Int} : ∀ {ns : List Int}, m ∈ ns → ∃ j, findIx (.int m) (ns.map .int) = some j
  | n :: ns, h => by
    by_cases e : n = m
    · exact ⟨0, by subst e; simp [findIx, seqv]⟩
    · obtain ⟨j, hj⟩ := findIx_int (m := m) (ns := ns) (by rcases List.mem_cons.mp h with h | h; exact absurd h.symm e; exact h)
      exact ⟨j + 1, by simp [findIx, seqv, e, hj]⟩
theorem scal_ints (ns : List Int) : (ns.map PV.int).all scalar = true := by
  rw [List.all_eq_true]
  intro x hx
  obtain ⟨n, _, rfl⟩ := List.mem_map.mp hx
  rfl
theorem scal_ints' (ns : List Int) : ∀ x, x ∈ ns.map PV.int → scalar x = true := fun x hx => by
  obtain ⟨n, _, rfl⟩ := List.mem_map.mp hx
  rfl
theorem m_index {n : Nat} {ns : List Int} {m : Int} {j : Nat} (h : S[n]? = some (.lst (ns.map .int))) (e : findIx (.int m) (ns.map .int) = some j) : mtF .index (.ref n) [.int m] S = .ok (.int (j : Int)) S := by
  show indexM (.ref n) [.int m] S = _
  unfold indexM
  dsimp only
  rw [lit_ref h]
  dsimp only
  rw [if_pos ⟨rfl, scal_ints ns⟩, e]
theorem W_sl {x : PV} {xs : List PV} {lo hi : Option Int} {Q : PV → Store → Prop} (h : itemsOf S x = some xs) (q : ∀ y S', Sub S S' → itemsOf S' y = some (cut xs lo hi) → Q y S') : W (slV x lo hi S) Q :=
  (sl_items h).mono fun y S' r => q y S' r.1 r.2
theorem W_it {x : PV} {xs : List PV} {Q : Ir → Store → Prop} (h : itemsOf S x = some xs) (q : ∀ r, IrIs S r xs → (∀ p, NotR p x → NotI p r) → Q r S) : W (iterV x S) Q :=
  (it_items h).mono fun r S' z => by obtain ⟨rfl, z1, z2⟩ := z; exact q r z1 z2
theorem ns_at {ns : List Int} {i : Int} (h0 : 0 ≤ i) (h1 : i < ns.length) : (ns.map PV.int)[i.toNat]? = some (.int (ns.getD i.toNat 0)) := by
  rw [List.getElem?_map, List.getD_eq_getElem?_getD, List.getElem?_eq_getElem (show i.toNat < ns.length by omega)]
  rfl
theorem plain_scal {n : Nat} {xs : List PV} (hl : xs.length ≤ lim) (h : ∀ x, x ∈ xs → scalar x = true) : plain (n + 1) (.tup xs) = true := plain_tup hl fun x hx => by
  have := h x hx
  cases x <;> first | (cases n <;> rfl) | cases this
theorem lit_items {x : PV} {xs : List PV} (h : itemsOf S x = some xs) (ht : ∀ ys, x ≠ .tup ys) : litems S x = some xs := by
  cases x with
  | tup ys => exact absurd rfl (ht ys)
  | ltc ys => exact h
  | ref n =>
    unfold itemsOf at h
    unfold litems
    exact h
  | _ => cases h
theorem sl_ref {n : Nat} {xs : List PV} {lo hi : Option Int} (h : S[n]? = some (.lst xs)) : slV (.ref n) lo hi S = .ok (.ref S.length) (S ++ [.lst (cut xs lo hi)]) := by
  unfold slV
  dsimp only
  rw [h]
/-- any truth: all of them -/
theorem all_true (xs : List PV) : xs.filterMap (fun _ => some (PV.bl true)) = (xs.map fun _ => true).map .bl := by
  induction xs with
  | nil => rfl
  | cons x xs ih => simp
theorem all_id (xs : List PV) : (xs.map fun _ => true).all id = true := by
  induction xs with
  | nil => rfl
  | cons x xs ih => simpa using ih
theorem sub_true {x : PV} : NotR (fun _ => True) x := by cases x <;> exact trivial
end
end Mp

/-! Mq6: texts, picks, lists of truths, like tuples. -/
namespace Mp
open PySem PySem.Spec L2
def bIsText : Ts := Ts.cons (T.ret (E.and (E.isi (E.var 0) [Ty.str]) (E.cmp (CmpOp.LtE) (E.bt (Bt.len) (Es.cons (E.var 0) (Es.nil))) (E.var 1)))) (Ts.nil)
def bIsLetters (i : Nat) : Ts := Ts.cons (T.ret (E.and (E.call i (Es.cons (E.var 0) (Es.cons (E.var 1) (Es.nil)))) (E.and (E.cmp (CmpOp.NotEq) (E.var 0) (E.cst (PV.str []))) (E.bt (Bt.all) (Es.cons (E.lc [2] (It.e (E.var 0)) (Pt.name 2) (Oe.none) (E.chain (CmpOp.LtE) (CmpOp.LtE) (E.cst (PV.str [97])) (E.var 2) (E.cst (PV.str [122])))) (Es.nil)))))) (Ts.nil)
def bIsWord (i : Nat) : Ts := Ts.cons (T.ret (E.call i (Es.cons (E.var 0) (Es.cons (E.cst (PV.int 20)) (Es.nil))))) (Ts.nil)
def bPick (i : Nat) : Ts := Ts.cons (T.ret (E.ix (E.var 2) (E.call i (Es.cons (E.var 0) (Es.cons (E.var 1) (Es.cons (E.bt (Bt.len) (Es.cons (E.var 2) (Es.nil))) (Es.nil))))))) (Ts.nil)
def bWide (i : Nat) : Ts := Ts.cons (T.asg (Tg.pat (Pt.name 3)) (E.call i (Es.cons (E.var 0) (Es.cons (E.var 1) (Es.cons (E.cst (PV.int 997)) (Es.nil)))))) (Ts.cons (T.asg (Tg.pat (Pt.name 4)) (E.call i (Es.cons (E.var 0) (Es.cons (E.var 1) (Es.cons (E.cst (PV.int 997)) (Es.nil)))))) (Ts.cons (T.asg (Tg.pat (Pt.name 5)) (E.call i (Es.cons (E.var 0) (Es.cons (E.var 1) (Es.cons (E.cst (PV.int 997)) (Es.nil)))))) (Ts.cons (T.ret (E.bin (Operator.Mod) (E.bt (Bt.int) (Es.cons (E.bin (Operator.Add) (E.bin (Operator.Add) (E.bin (Operator.Mult) (E.var 3) (E.cst (PV.int 994009))) (E.bin (Operator.Mult) (E.var 4) (E.cst (PV.int 997)))) (E.var 5)) (Es.nil))) (E.var 2))) (Ts.nil))))
section
variable {fs : List Fn} {fu k i j : Nat} {S : Store}
/-- a comprehension of truths -/
theorem W_lcB {p : Nat → Prop} {it : Ir} {xs : List PV} {turn : PV → Store → Res (Option PV)} (f : PV → Bool) (hi : IrIs S it xs) (hp : NotI p it) (hl : xs.length ≤ lim)
    (h : ∀ x, x ∈ xs → ∀ S1, Kp p S S1 → W (turn x S1) (fun r S2 => r = some (.bl (f x)) ∧ Kp p S1 S2)) :
    W (lcN it turn (it.len S + 1) 0 [] S) (fun ys S' => ys = (xs.map f).map .bl ∧ Kp p S S') :=
  (W_lc (fun x => some (.bl (f x))) hi hp hl h).mono fun ys S' q => ⟨by rw [q.1, List.map_map, ← List.filterMap_eq_map]; rfl, q.2⟩
theorem W_lcM {p : Nat → Prop} {it : Ir} {xs : List PV} {turn : PV → Store → Res (Option PV)} (f : PV → PV) (hi : IrIs S it xs) (hp : NotI p it) (hl : xs.length ≤ lim)
    (h : ∀ x, x ∈ xs → ∀ S1, Kp p S S1 → W (turn x S1) (fun r S2 => r = some (f x) ∧ Kp p S1 S2)) :
    W (lcN it turn (it.len S + 1) 0 [] S) (fun ys S' => ys = xs.map f ∧ Kp p S S') :=
  (W_lc (fun x => some (f x)) hi hp hl h).mono fun ys S' q => ⟨by rw [q.1, ← List.filterMap_eq_map]; rfl, q.2⟩
theorem c_les {a b : List Nat} : cmpV .LtE (.str a) (.str b) S = .ok (.bl (!decide (b < a))) S := (rfl)
theorem t_str {a : List Nat} (h : a.length ≤ lim) : tru (.str a) S = .ok ((a.length : Int) != 0) S := by
  unfold tru truB
  dsimp only
  rw [if_pos h]
theorem is_text_eq (hf : fs[i]? = some ⟨2, 2, bIsText⟩) {w : List Nat} {m : Int} (hl : w.length ≤ lim) : callN fs fu (k + 1) i [.str w, .int m] S = .ok (.bl (decide ((w.length : Int) ≤ m))) S := by
  refine eq_of_W ?_
  refine W_fn2 hf rfl rfl ?_; simp only [List.map_cons, List.map_nil, List.length_cons, List.length_nil, List.cons_append, List.nil_append, List.append_nil, List.replicate_succ, List.replicate_zero, Nat.reduceAdd, Nat.reduceSub, Nat.zero_add]
  unfold bIsText
  simp only [ev_var, ev_cst, ev_bin, ev_neg, ev_cmp, ev_chain', ev_and, ev_or, ev_not, ev_ite, ev_tup, ev_lst, ev_ix, ev_sl, ev_call, ev_bt, ev_mt, ev_isi, ev_lc, ev_nil, ev_cons, ev_onone, ev_osome, ev_cnone, ev_csome, ev_ie, ev_rng, ev_enu, asT, ex_asg, ex_asgS, ex_par, ex_aug, ex_ite, ex_whl, ex_for, ex_expr, ex_ret, ex_retN, ex_pass, ex_brk, ex_cont, ex_never, ex_nil, ex_cons', W_ok, W_bind, fin_ret, fin_next, chK_bl, sq_next, sq_ret, sq_brk, sq_cont, bnd_ok, b_add, b_sub, i_add, i_sub, c_lt, c_le, c_gt, c_ge, c_eq, c_ne, c_eqs, c_nes, c_eqb, t_bl, t_int, t_non, p_int, f_int, as_n, as_t2, as_t3, setMany, getL, List.getElem?_cons_zero, List.getElem?_cons_succ, List.set_cons_zero, List.set_cons_succ, wipeL, tl0, tl1, tl2, tl3, tl4, tl5, tl6, Bool.not_true, Bool.not_false, decide_eq_true_eq, if_true, if_false, ite_true, ite_false, eq_self, Bool.false_eq_true, isiF, tyOf, List.any_cons, List.any_nil, isaT, decide_true, Bool.or_false, f_lens hl, and_self]
/-- signs a to z -/
def Low (w : List Nat) : Prop := ∀ c, c ∈ w → 97 ≤ c ∧ c ≤ 122
theorem sign_le {a b : Nat} : (!decide (([b] : List Nat) < [a])) = decide (a ≤ b) := by
  by_cases h : a ≤ b
  · rw [decide_eq_true h]
    have : ¬([b] : List Nat) < [a] := by
      intro h1
      rw [List.cons_lt_cons_iff] at h1
      rcases h1 with h1 | ⟨_, h1⟩
      · omega
      · exact absurd h1 (by simp)
    simp [this]
  · rw [decide_eq_false h]
    have : ([b] : List Nat) < [a] := by
      rw [List.cons_lt_cons_iff]
      exact .inl (by omega)
    simp [this]
theorem strIt_len (w : List Nat) : (strIt w).length = w.length := by unfold strIt; rw [List.length_map]
theorem strIt_mem {w : List Nat} {x : PV} (h : x ∈ strIt w) : ∃ c, c ∈ w ∧ x = .str [c] := by
  obtain ⟨c, hc, rfl⟩ := List.mem_map.mp h
  exact ⟨c, hc, rfl⟩
theorem is_letters_ok (hf : fs[i]? = some ⟨3, 2, bIsLetters j⟩) (hj : fs[j]? = some ⟨2, 2, bIsText⟩) {w : List Nat} {m : Int} (hw : Low w) (h0 : 0 < w.length) (h1 : (w.length : Int) ≤ m) (hl : w.length ≤ lim) :
    W (callN fs fu (k + 2) i [.str w, .int m] S) (fun v S' => v = .bl true ∧ Sub S S') := by
  refine W_fn2 hf rfl rfl ?_; simp only [List.map_cons, List.map_nil, List.length_cons, List.length_nil, List.cons_append, List.nil_append, List.append_nil, List.replicate_succ, List.replicate_zero, Nat.reduceAdd, Nat.reduceSub, Nat.zero_add]
  unfold bIsLetters
  have hne : decide (w = []) = false := by rw [decide_eq_false_iff_not]; intro e; rw [e] at h0; cases h0
  simp only [ev_var, ev_cst, ev_bin, ev_neg, ev_cmp, ev_chain', ev_and, ev_or, ev_not, ev_ite, ev_tup, ev_lst, ev_ix, ev_sl, ev_call, ev_bt, ev_mt, ev_isi, ev_lc, ev_nil, ev_cons, ev_onone, ev_osome, ev_cnone, ev_csome, ev_ie, ev_rng, ev_enu, asT, ex_asg, ex_asgS, ex_par, ex_aug, ex_ite, ex_whl, ex_for, ex_expr, ex_ret, ex_retN, ex_pass, ex_brk, ex_cont, ex_never, ex_nil, ex_cons', W_ok, W_bind, fin_ret, fin_next, chK_bl, sq_next, sq_ret, sq_brk, sq_cont, bnd_ok, b_add, b_sub, i_add, i_sub, c_lt, c_le, c_gt, c_ge, c_eq, c_ne, c_eqs, c_nes, c_eqb, t_bl, t_int, t_non, p_int, f_int, as_n, as_t2, as_t3, setMany, getL, List.getElem?_cons_zero, List.getElem?_cons_succ, List.set_cons_zero, List.set_cons_succ, wipeL, tl0, tl1, tl2, tl3, tl4, tl5, tl6, Bool.not_true, Bool.not_false, decide_eq_true_eq, if_true, if_false, ite_true, ite_false, eq_self, Bool.false_eq_true, is_text_eq hj hl, h1, decide_true, hne, iterV]
  refine (W_lcB (p := fun _ => True) (it := .vals (strIt w)) (xs := strIt w) (fun _ => true) rfl trivial (by rw [strIt_len]; exact hl) fun x hx S1 k1 => ?_).mono fun ys S' q => ?_
  · obtain ⟨c, hc, rfl⟩ := strIt_mem hx
    simp only [ev_var, ev_cst, ev_bin, ev_neg, ev_cmp, ev_chain', ev_and, ev_or, ev_not, ev_ite, ev_tup, ev_lst, ev_ix, ev_sl, ev_call, ev_bt, ev_mt, ev_isi, ev_lc, ev_nil, ev_cons, ev_onone, ev_osome, ev_cnone, ev_csome, ev_ie, ev_rng, ev_enu, asT, ex_asg, ex_asgS, ex_par, ex_aug, ex_ite, ex_whl, ex_for, ex_expr, ex_ret, ex_retN, ex_pass, ex_brk, ex_cont, ex_never, ex_nil, ex_cons', W_ok, W_bind, fin_ret, fin_next, chK_bl, sq_next, sq_ret, sq_brk, sq_cont, bnd_ok, b_add, b_sub, i_add, i_sub, c_lt, c_le, c_gt, c_ge, c_eq, c_ne, c_eqs, c_nes, c_eqb, t_bl, t_int, t_non, p_int, f_int, as_n, as_t2, as_t3, setMany, getL, List.getElem?_cons_zero, List.getElem?_cons_succ, List.set_cons_zero, List.set_cons_succ, wipeL, tl0, tl1, tl2, tl3, tl4, tl5, tl6, Bool.not_true, Bool.not_false, decide_eq_true_eq, if_true, if_false, ite_true, ite_false, eq_self, Bool.false_eq_true, c_les, sign_le, (hw c hc).1, (hw c hc).2, decide_true]
    exact ⟨by trivial, .refl⟩
  · obtain ⟨rfl, k1⟩ := q
    simp only [ev_var, ev_cst, ev_bin, ev_neg, ev_cmp, ev_chain', ev_and, ev_or, ev_not, ev_ite, ev_tup, ev_lst, ev_ix, ev_sl, ev_call, ev_bt, ev_mt, ev_isi, ev_lc, ev_nil, ev_cons, ev_onone, ev_osome, ev_cnone, ev_csome, ev_ie, ev_rng, ev_enu, asT, ex_asg, ex_asgS, ex_par, ex_aug, ex_ite, ex_whl, ex_for, ex_expr, ex_ret, ex_retN, ex_pass, ex_brk, ex_cont, ex_never, ex_nil, ex_cons', W_ok, W_bind, fin_ret, fin_next, chK_bl, sq_next, sq_ret, sq_brk, sq_cont, bnd_ok, b_add, b_sub, i_add, i_sub, c_lt, c_le, c_gt, c_ge, c_eq, c_ne, c_eqs, c_nes, c_eqb, t_bl, t_int, t_non, p_int, f_int, as_n, as_t2, as_t3, setMany, getL, List.getElem?_cons_zero, List.getElem?_cons_succ, List.set_cons_zero, List.set_cons_succ, wipeL, tl0, tl1, tl2, tl3, tl4, tl5, tl6, Bool.not_true, Bool.not_false, decide_eq_true_eq, if_true, if_false, ite_true, ite_false, eq_self, Bool.false_eq_true, f_all at_push, all_id]
    exact ⟨by trivial, k1.trans .push⟩
theorem is_word_ok {t : Nat} (hf : fs[i]? = some ⟨1, 1, bIsWord j⟩) (hj : fs[j]? = some ⟨3, 2, bIsLetters t⟩) (ht : fs[t]? = some ⟨2, 2, bIsText⟩) {w : List Nat} (hw : Low w) (h0 : 0 < w.length) (h1 : w.length ≤ 20) :
    W (callN fs fu (k + 3) i [.str w] S) (fun v S' => v = .bl true ∧ Sub S S') := by
  refine W_fn2 hf rfl rfl ?_; simp only [List.map_cons, List.map_nil, List.length_cons, List.length_nil, List.cons_append, List.nil_append, List.append_nil, List.replicate_succ, List.replicate_zero, Nat.reduceAdd, Nat.reduceSub, Nat.zero_add]
  unfold bIsWord
  try simp only [ev_var, ev_cst, ev_bin, ev_neg, ev_cmp, ev_chain', ev_and, ev_or, ev_not, ev_ite, ev_tup, ev_lst, ev_ix, ev_sl, ev_call, ev_bt, ev_mt, ev_isi, ev_lc, ev_nil, ev_cons, ev_onone, ev_osome, ev_cnone, ev_csome, ev_ie, ev_rng, ev_enu, asT, ex_asg, ex_asgS, ex_par, ex_aug, ex_ite, ex_whl, ex_for, ex_expr, ex_ret, ex_retN, ex_pass, ex_brk, ex_cont, ex_never, ex_nil, ex_cons', W_ok, W_bind, fin_ret, fin_next, chK_bl, sq_next, sq_ret, sq_brk, sq_cont, bnd_ok, b_add, b_sub, i_add, i_sub, c_lt, c_le, c_gt, c_ge, c_eq, c_ne, c_eqs, c_nes, c_eqb, t_bl, t_int, t_non, p_int, f_int, as_n, as_t2, as_t3, setMany, getL, List.getElem?_cons_zero, List.getElem?_cons_succ, List.set_cons_zero, List.set_cons_succ, wipeL, tl0, tl1, tl2, tl3, tl4, tl5, tl6, Bool.not_true, Bool.not_false, decide_eq_true_eq, if_true, if_false, ite_true, ite_false, eq_self, Bool.false_eq_true]
  refine (is_letters_ok hj ht hw h0 (by omega) (by unfold lim; omega)).mono fun v S1 q => ?_
  try simp only [ev_var, ev_cst, ev_bin, ev_neg, ev_cmp, ev_chain', ev_and, ev_or, ev_not, ev_ite, ev_tup, ev_lst, ev_ix, ev_sl, ev_call, ev_bt, ev_mt, ev_isi, ev_lc, ev_nil, ev_cons, ev_onone, ev_osome, ev_cnone, ev_csome, ev_ie, ev_rng, ev_enu, asT, ex_asg, ex_asgS, ex_par, ex_aug, ex_ite, ex_whl, ex_for, ex_expr, ex_ret, ex_retN, ex_pass, ex_brk, ex_cont, ex_never, ex_nil, ex_cons', W_ok, W_bind, fin_ret, fin_next, chK_bl, sq_next, sq_ret, sq_brk, sq_cont, bnd_ok, b_add, b_sub, i_add, i_sub, c_lt, c_le, c_gt, c_ge, c_eq, c_ne, c_eqs, c_nes, c_eqb, t_bl, t_int, t_non, p_int, f_int, as_n, as_t2, as_t3, setMany, getL, List.getElem?_cons_zero, List.getElem?_cons_succ, List.set_cons_zero, List.set_cons_succ, wipeL, tl0, tl1, tl2, tl3, tl4, tl5, tl6, Bool.not_true, Bool.not_false, decide_eq_true_eq, if_true, if_false, ite_true, ite_false, eq_self, Bool.false_eq_true]
  exact q
/-- one of the things -/
theorem pick_ok {dr : Nat} (hf : fs[i]? = some ⟨3, 3, bPick j⟩) (hj : fs[j]? = some ⟨3, 3, bTake dr⟩) (hd : fs[dr]? = some ⟨4, 3, bDraw⟩) {rw_ sp : Nat} {R : List Int} (D : Dr R rw_ sp S) {x : PV} {xs : List PV} (h : itemsOf S x = some xs) (hn : NotR (fun n => n ≠ sp) x) (h0 : 0 < xs.length) :
    W (callN fs fu (k + 3) i [.ref rw_, .ref sp, x] S) (fun v S' => v ∈ xs ∧ Dr R rw_ sp S' ∧ Ks sp S S') := by
  refine W_fn2 hf rfl rfl ?_; simp only [List.map_cons, List.map_nil, List.length_cons, List.length_nil, List.cons_append, List.nil_append, List.append_nil, List.replicate_succ, List.replicate_zero, Nat.reduceAdd, Nat.reduceSub, Nat.zero_add]
  unfold bPick
  simp only [ev_var, ev_cst, ev_bin, ev_neg, ev_cmp, ev_chain', ev_and, ev_or, ev_not, ev_ite, ev_tup, ev_lst, ev_ix, ev_sl, ev_call, ev_bt, ev_mt, ev_isi, ev_lc, ev_nil, ev_cons, ev_onone, ev_osome, ev_cnone, ev_csome, ev_ie, ev_rng, ev_enu, asT, ex_asg, ex_asgS, ex_par, ex_aug, ex_ite, ex_whl, ex_for, ex_expr, ex_ret, ex_retN, ex_pass, ex_brk, ex_cont, ex_never, ex_nil, ex_cons', W_ok, W_bind, fin_ret, fin_next, chK_bl, sq_next, sq_ret, sq_brk, sq_cont, bnd_ok, b_add, b_sub, i_add, i_sub, c_lt, c_le, c_gt, c_ge, c_eq, c_ne, c_eqs, c_nes, c_eqb, t_bl, t_int, t_non, p_int, f_int, as_n, as_t2, as_t3, setMany, getL, List.getElem?_cons_zero, List.getElem?_cons_succ, List.set_cons_zero, List.set_cons_succ, wipeL, tl0, tl1, tl2, tl3, tl4, tl5, tl6, Bool.not_true, Bool.not_false, decide_eq_true_eq, if_true, if_false, ite_true, ite_false, eq_self, Bool.false_eq_true, f_len h]
  refine (take_ok hj hd D (show (0 : Int) < xs.length by omega)).mono fun v S1 q => ?_
  obtain ⟨d, rfl, hd0, hd1, D1, k1⟩ := q
  have hlt : d.toNat < xs.length := by omega
  simp only [ev_var, ev_cst, ev_bin, ev_neg, ev_cmp, ev_chain', ev_and, ev_or, ev_not, ev_ite, ev_tup, ev_lst, ev_ix, ev_sl, ev_call, ev_bt, ev_mt, ev_isi, ev_lc, ev_nil, ev_cons, ev_onone, ev_osome, ev_cnone, ev_csome, ev_ie, ev_rng, ev_enu, asT, ex_asg, ex_asgS, ex_par, ex_aug, ex_ite, ex_whl, ex_for, ex_expr, ex_ret, ex_retN, ex_pass, ex_brk, ex_cont, ex_never, ex_nil, ex_cons', W_ok, W_bind, fin_ret, fin_next, chK_bl, sq_next, sq_ret, sq_brk, sq_cont, bnd_ok, b_add, b_sub, i_add, i_sub, c_lt, c_le, c_gt, c_ge, c_eq, c_ne, c_eqs, c_nes, c_eqb, t_bl, t_int, t_non, p_int, f_int, as_n, as_t2, as_t3, setMany, getL, List.getElem?_cons_zero, List.getElem?_cons_succ, List.set_cons_zero, List.set_cons_succ, wipeL, tl0, tl1, tl2, tl3, tl4, tl5, tl6, Bool.not_true, Bool.not_false, decide_eq_true_eq, if_true, if_false, ite_true, ite_false, eq_self, Bool.false_eq_true, ix_at (items_kp k1 hn h) hd0 (List.getElem?_eq_getElem hlt)]
  exact ⟨List.getElem_mem _, D1, k1⟩
theorem wide_ok {dr : Nat} (hf : fs[i]? = some ⟨6, 3, bWide j⟩) (hj : fs[j]? = some ⟨3, 3, bTake dr⟩) (hd : fs[dr]? = some ⟨4, 3, bDraw⟩) {rw_ sp : Nat} {R : List Int} (D : Dr R rw_ sp S) {lim_ : Int} (hl : 0 < lim_) :
    W (callN fs fu (k + 3) i [.ref rw_, .ref sp, .int lim_] S) (fun v S' => ∃ d : Int, v = .int d ∧ 0 ≤ d ∧ d < lim_ ∧ Dr R rw_ sp S' ∧ Ks sp S S') := by
  refine W_fn2 hf rfl rfl ?_; simp only [List.map_cons, List.map_nil, List.length_cons, List.length_nil, List.cons_append, List.nil_append, List.append_nil, List.replicate_succ, List.replicate_zero, Nat.reduceAdd, Nat.reduceSub, Nat.zero_add]
  unfold bWide
  try simp only [ev_var, ev_cst, ev_bin, ev_neg, ev_cmp, ev_chain', ev_and, ev_or, ev_not, ev_ite, ev_tup, ev_lst, ev_ix, ev_sl, ev_call, ev_bt, ev_mt, ev_isi, ev_lc, ev_nil, ev_cons, ev_onone, ev_osome, ev_cnone, ev_csome, ev_ie, ev_rng, ev_enu, asT, ex_asg, ex_asgS, ex_par, ex_aug, ex_ite, ex_whl, ex_for, ex_expr, ex_ret, ex_retN, ex_pass, ex_brk, ex_cont, ex_never, ex_nil, ex_cons', W_ok, W_bind, fin_ret, fin_next, chK_bl, sq_next, sq_ret, sq_brk, sq_cont, bnd_ok, b_add, b_sub, i_add, i_sub, c_lt, c_le, c_gt, c_ge, c_eq, c_ne, c_eqs, c_nes, c_eqb, t_bl, t_int, t_non, p_int, f_int, as_n, as_t2, as_t3, setMany, getL, List.getElem?_cons_zero, List.getElem?_cons_succ, List.set_cons_zero, List.set_cons_succ, wipeL, tl0, tl1, tl2, tl3, tl4, tl5, tl6, Bool.not_true, Bool.not_false, decide_eq_true_eq, if_true, if_false, ite_true, ite_false, eq_self, Bool.false_eq_true]
  refine (take_ok hj hd D (show (0 : Int) < 997 by decide)).mono fun v S1 q => ?_
  obtain ⟨d1, rfl, _, _, D1, k1⟩ := q
  try simp only [ev_var, ev_cst, ev_bin, ev_neg, ev_cmp, ev_chain', ev_and, ev_or, ev_not, ev_ite, ev_tup, ev_lst, ev_ix, ev_sl, ev_call, ev_bt, ev_mt, ev_isi, ev_lc, ev_nil, ev_cons, ev_onone, ev_osome, ev_cnone, ev_csome, ev_ie, ev_rng, ev_enu, asT, ex_asg, ex_asgS, ex_par, ex_aug, ex_ite, ex_whl, ex_for, ex_expr, ex_ret, ex_retN, ex_pass, ex_brk, ex_cont, ex_never, ex_nil, ex_cons', W_ok, W_bind, fin_ret, fin_next, chK_bl, sq_next, sq_ret, sq_brk, sq_cont, bnd_ok, b_add, b_sub, i_add, i_sub, c_lt, c_le, c_gt, c_ge, c_eq, c_ne, c_eqs, c_nes, c_eqb, t_bl, t_int, t_non, p_int, f_int, as_n, as_t2, as_t3, setMany, getL, List.getElem?_cons_zero, List.getElem?_cons_succ, List.set_cons_zero, List.set_cons_succ, wipeL, tl0, tl1, tl2, tl3, tl4, tl5, tl6, Bool.not_true, Bool.not_false, decide_eq_true_eq, if_true, if_false, ite_true, ite_false, eq_self, Bool.false_eq_true]
  refine (take_ok hj hd D1 (show (0 : Int) < 997 by decide)).mono fun v S2 q => ?_
  obtain ⟨d2, rfl, _, _, D2, k2⟩ := q
  try simp only [ev_var, ev_cst, ev_bin, ev_neg, ev_cmp, ev_chain', ev_and, ev_or, ev_not, ev_ite, ev_tup, ev_lst, ev_ix, ev_sl, ev_call, ev_bt, ev_mt, ev_isi, ev_lc, ev_nil, ev_cons, ev_onone, ev_osome, ev_cnone, ev_csome, ev_ie, ev_rng, ev_enu, asT, ex_asg, ex_asgS, ex_par, ex_aug, ex_ite, ex_whl, ex_for, ex_expr, ex_ret, ex_retN, ex_pass, ex_brk, ex_cont, ex_never, ex_nil, ex_cons', W_ok, W_bind, fin_ret, fin_next, chK_bl, sq_next, sq_ret, sq_brk, sq_cont, bnd_ok, b_add, b_sub, i_add, i_sub, c_lt, c_le, c_gt, c_ge, c_eq, c_ne, c_eqs, c_nes, c_eqb, t_bl, t_int, t_non, p_int, f_int, as_n, as_t2, as_t3, setMany, getL, List.getElem?_cons_zero, List.getElem?_cons_succ, List.set_cons_zero, List.set_cons_succ, wipeL, tl0, tl1, tl2, tl3, tl4, tl5, tl6, Bool.not_true, Bool.not_false, decide_eq_true_eq, if_true, if_false, ite_true, ite_false, eq_self, Bool.false_eq_true]
  refine (take_ok hj hd D2 (show (0 : Int) < 997 by decide)).mono fun v S3 q => ?_
  obtain ⟨d3, rfl, _, _, D3, k3⟩ := q
  simp only [ev_var, ev_cst, ev_bin, ev_neg, ev_cmp, ev_chain', ev_and, ev_or, ev_not, ev_ite, ev_tup, ev_lst, ev_ix, ev_sl, ev_call, ev_bt, ev_mt, ev_isi, ev_lc, ev_nil, ev_cons, ev_onone, ev_osome, ev_cnone, ev_csome, ev_ie, ev_rng, ev_enu, asT, ex_asg, ex_asgS, ex_par, ex_aug, ex_ite, ex_whl, ex_for, ex_expr, ex_ret, ex_retN, ex_pass, ex_brk, ex_cont, ex_never, ex_nil, ex_cons', W_ok, W_bind, fin_ret, fin_next, chK_bl, sq_next, sq_ret, sq_brk, sq_cont, bnd_ok, b_add, b_sub, i_add, i_sub, c_lt, c_le, c_gt, c_ge, c_eq, c_ne, c_eqs, c_nes, c_eqb, t_bl, t_int, t_non, p_int, f_int, as_n, as_t2, as_t3, setMany, getL, List.getElem?_cons_zero, List.getElem?_cons_succ, List.set_cons_zero, List.set_cons_succ, wipeL, tl0, tl1, tl2, tl3, tl4, tl5, tl6, Bool.not_true, Bool.not_false, decide_eq_true_eq, if_true, if_false, ite_true, ite_false, eq_self, Bool.false_eq_true, b_mul (sm 994009), b_mul (sm 997), b_mod hl]
  exact ⟨_, rfl, Int.emod_nonneg _ (by omega), Int.emod_lt_of_pos _ hl, D3, (k1.trans k2).trans k3⟩
theorem flats_ints (g : Nat → Option PV) : ∀ ns : List Int, flats g (ns.map .int) = some (ns.map .int)
  | [] => rfl
  | n :: ns => by
    show flats g (.int n :: ns.map .int) = _
    unfold flats
    rw [flats_ints g ns]; rfl
theorem dOfs_ints : ∀ ns : List Int, dOfs (ns.map .int) = ns.map PyData.int
  | [] => rfl
  | n :: ns => by
    show dOfs (.int n :: ns.map .int) = _
    unfold dOfs
    rw [dOfs_ints ns]; rfl
theorem eqv_ints : ∀ ns ms : List Int, PyData.eqvAll (ns.map .int) (ms.map .int) = decide (ns = ms)
  | [], [] => rfl
  | [], _ :: _ => rfl
  | _ :: _, [] => rfl
  | n :: ns, m :: ms => by
    show (PyData.eqv (.int n) (.int m) && PyData.eqvAll (ns.map .int) (ms.map .int)) = _
    rw [eqv_ints ns ms]
    show ((n == m) && _) = _
    by_cases h : n = m <;> by_cases h2 : ns = ms <;> simp [h, h2]
theorem lay_ints : ∀ ns : List Int, PyData.canLayAll0 (ns.map .int) = true
  | [] => rfl
  | n :: ns => by
    show (PyData.canLay0 (.int n) && PyData.canLayAll0 (ns.map .int)) = true
    rw [lay_ints ns]; rfl
theorem depth_ints : ∀ ns : List Int, PyData.depthAll (ns.map .int) = 0
  | [] => rfl
  | n :: ns => by
    show max (PyData.depth (.int n)) (PyData.depthAll (ns.map .int)) = 0
    rw [depth_ints ns]; rfl
theorem eqB_ints (ns ms : List Int) : eqB S (.tup (ns.map .int)) (.tup (ms.map .int)) = some (decide (ns = ms)) := by
  have sh : ∀ ls : List Int, SeqAt.shaped (dOf (.tup (ls.map .int))) = true := fun ls => by
    unfold dOf
    rw [dOfs_ints]
    show (PyData.canLayAll0 (ls.map .int) && decide (PyData.depthAll (ls.map .int) + 1 ≤ 64)) = true
    rw [lay_ints, depth_ints]; rfl
  have fl : ∀ ls : List Int, flatS S (.tup (ls.map .int)) = some (.tup (ls.map .int)) := fun ls => by
    unfold flatS flat
    rw [flats_ints]; rfl
  unfold eqB
  dsimp only
  rw [fl, fl]
  dsimp only
  rw [if_pos ⟨sh ns, sh ms⟩]
  unfold dOf
  rw [dOfs_ints, dOfs_ints]
  exact congrArg some (eqv_ints ns ms)
theorem c_neT {ns ms : List Int} : cmpV .NotEq (.tup (ns.map .int)) (.tup (ms.map .int)) S = .ok (.bl (!decide (ns = ms))) S := by
  show toB (eqB S _ _) _ S = _
  rw [eqB_ints]; rfl
/-- a text in a list of texts -/
theorem scal_strs (ws : List (List Nat)) : (ws.map PV.str).all scalar = true := by
  rw [List.all_eq_true]
  intro x hx
  obtain ⟨n, _, rfl⟩ := List.mem_map.mp hx
  rfl
theorem any_str (w : List Nat) : ∀ ws : List (List Nat), ((ws.map PV.str).any fun y => seqv y (.str w)) = decide (w ∈ ws)
  | [] => by simp
  | x :: ws => by
    rw [List.map_cons, List.any_cons, any_str w ws]
    show ((x == w) || _) = _
    by_cases h : x = w
    · simp [h]
    · have : ¬w = x := fun e => h e.symm
      simp [h, this]
theorem any_int (w : Int) : ∀ ws : List Int, ((ws.map PV.int).any fun y => seqv y (.int w)) = decide (w ∈ ws)
  | [] => by simp
  | x :: ws => by
    rw [List.map_cons, List.any_cons, any_int w ws]
    show ((x == w) || _) = _
    by_cases h : x = w
    · simp [h]
    · have : ¬w = x := fun e => h e.symm
      simp [h, this]
theorem in_items {neg : Bool} {x y : PV} {xs : List PV} (h : itemsOf S y = some xs) (hx : scalar x = true) (ha : xs.all scalar = true) : inV neg x y S = .ok (.bl (if neg = true then !(xs.any fun y => seqv y x) else xs.any fun y => seqv y x)) S := by
  unfold inV
  split
  · cases h
  · rw [h]; exact if_pos ⟨hx, ha⟩
theorem c_inS {w : List Nat} {y : PV} {ws : List (List Nat)} (h : itemsOf S y = some (ws.map .str)) : cmpV .In (.str w) y S = .ok (.bl (decide (w ∈ ws))) S := by
  show inV false _ _ S = _
  rw [in_items h rfl (scal_strs ws), any_str]; rfl
theorem c_ninS {w : List Nat} {y : PV} {ws : List (List Nat)} (h : itemsOf S y = some (ws.map .str)) : cmpV .NotIn (.str w) y S = .ok (.bl (!decide (w ∈ ws))) S := by
  show inV true _ _ S = _
  rw [in_items h rfl (scal_strs ws), any_str]; rfl
theorem c_inI {w : Int} {y : PV} {ws : List Int} (h : itemsOf S y = some (ws.map .int)) : cmpV .In (.int w) y S = .ok (.bl (decide (w ∈ ws))) S := by
  rw [show cmpV .In (.int w) y S = inV false (.int w) y S from rfl, in_items h rfl (scal_ints ws), any_int]; rfl
theorem c_ninI {w : Int} {y : PV} {ws : List Int} (h : itemsOf S y = some (ws.map .int)) : cmpV .NotIn (.int w) y S = .ok (.bl (!decide (w ∈ ws))) S := by
  rw [show cmpV .NotIn (.int w) y S = inV true (.int w) y S from rfl, in_items h rfl (scal_ints ws), any_int]; rfl
theorem b_rep {a : Nat} {xs : List PV} {n : Int} (h : S[a]? = some (.lst xs)) (hc : 0 ≤ n ∧ n ≤ 1000000 ∧ xs.length * n.toNat ≤ lim) : binV .Mult (.ref a) (.int n) S = .ok (.ref S.length) (S ++ [.lst (List.replicate n.toNat xs).flatten]) := by
  rw [show binV .Mult (.ref a) (.int n) S = mulV (.ref a) (.int n) S from rfl]
  unfold mulV
  dsimp only
  rw [h]
  exact if_pos hc
theorem b_cat {a b : Nat} {xs ys : List PV} (h : S[a]? = some (.lst xs)) (h' : S[b]? = some (.lst ys)) (hl : xs.length + ys.length ≤ lim) : binV .Add (.ref a) (.ref b) S = .ok (.ref S.length) (S ++ [.lst (xs ++ ys)]) := by
  rw [show binV .Add (.ref a) (.ref b) S = addV (.ref a) (.ref b) S from rfl]
  unfold addV
  dsimp only
  rw [h, h']
  exact if_pos hl
theorem b_catT {xs ys : List PV} (hl : xs.length + ys.length ≤ lim) : binV .Add (.tup xs) (.tup ys) S = .ok (.tup (xs ++ ys)) S := by
  rw [show binV .Add (.tup xs) (.tup ys) S = addV (.tup xs) (.tup ys) S from rfl]
  unfold addV
  exact if_pos hl
theorem f_max2 {i j : Int} : btF .max [.int i, .int j] S = .ok (.int (if j > i then j else i)) S := (rfl)
theorem f_min2 {i j : Int} : btF .min [.int i, .int j] S = .ok (.int (if j < i then j else i)) S := (rfl)
theorem filt_map {α : Type} (g : α → PV) (p : α → Bool) (f : PV → Option PV) (h : ∀ x, f (g x) = if p x = true then some (g x) else none) : ∀ xs : List α, (xs.map g).filterMap f = (xs.filter p).map g
  | [] => rfl
  | x :: xs => by
    rw [List.map_cons, List.filterMap_cons, h, List.filter_cons, filt_map g p f h xs]
    by_cases q : p x = true
    · rw [if_pos q, if_pos q]; rfl
    · rw [if_neg q, if_neg q]
theorem b_pow {i j : Int} (h : cPow i j = true) : binV .Pow (.int i) (.int j) S = .ok (.int (i ^ j.toNat)) S := by
  show (if cPow i j = true then Res.ok (PV.int (i ^ j.toNat)) S else .bad) = _
  exact if_pos h
theorem if_len {α : Type} {xs : List PV} {x y : α} (h : xs.length ≤ lim) : (if xs.length ≤ lim then x else y) = x := if_pos h
/-- where a sign stands in a to z -/
abbrev abc : List Nat := [97, 98, 99, 100, 101, 102, 103, 104, 105, 106, 107, 108, 109, 110, 111, 112, 113, 114, 115, 116, 117, 118, 119, 120, 121, 122]
theorem abc_ix : ∀ n : Fin 26, Builtin.Str.occurrences ⟨abc.toArray⟩ ⟨#[97 + n.val]⟩ 0 (⟨abc.toArray⟩ : Str).length 1 = [n.val] := by decide +kernel
theorem m_abc {c : Nat} (h : 97 ≤ c ∧ c ≤ 122) : mtF .sindex (.str abc) [.str [c]] S = .ok (.int ((c : Int) - 97)) S := by
  show sindexM (.str abc) [.str [c]] S = _
  unfold sindexM
  dsimp only
  have := abc_ix ⟨c - 97, by omega⟩
  dsimp only at this
  rw [show 97 + (c - 97) = c by omega] at this
  rw [show ([c] : List Nat).toArray = #[c] from rfl, this]
  dsimp only
  rw [show ((c - 97 : Nat) : Int) = (c : Int) - 97 by omega]
end
end Mp

/-! Mq7: fractions, rows handed out. -/
namespace Mp
open PySem PySem.Spec L2
def bLawGcd : Ts := Ts.cons (T.asg (Tg.pat (Pt.name 0)) (E.ite (E.cmp (CmpOp.GtE) (E.var 0) (E.cst (PV.int 0))) (E.var 0) (E.neg (E.var 0)))) (Ts.cons (T.asg (Tg.pat (Pt.name 1)) (E.ite (E.cmp (CmpOp.GtE) (E.var 1) (E.cst (PV.int 0))) (E.var 1) (E.neg (E.var 1)))) (Ts.cons (T.frr (It.rng (Es.cons (E.cst (PV.int 4000)) (Es.nil))) (Tg.pat (Pt.name 2)) (Ts.cons (T.ite (E.cmp (CmpOp.Eq) (E.var 1) (E.cst (PV.int 0))) (Ts.cons (T.brk) (Ts.nil)) (Ts.nil)) (Ts.cons (T.asg (Tg.pat (Pt.name 3)) (E.bin (Operator.Mod) (E.bt (Bt.int) (Es.cons (E.var 0) (Es.nil))) (E.var 1))) (Ts.cons (T.asg (Tg.pat (Pt.name 0)) (E.var 1)) (Ts.cons (T.asg (Tg.pat (Pt.name 1)) (E.var 3)) (Ts.nil)))))) (Ts.cons (T.ret (E.var 0)) (Ts.nil))))
def bLawQ (i : Nat) : Ts := Ts.cons (T.ite (E.cmp (CmpOp.Lt) (E.var 1) (E.cst (PV.int 0))) (Ts.cons (T.asg (Tg.pat (Pt.name 0)) (E.neg (E.var 0))) (Ts.cons (T.asg (Tg.pat (Pt.name 1)) (E.neg (E.var 1))) (Ts.nil))) (Ts.nil)) (Ts.cons (T.asg (Tg.pat (Pt.name 2)) (E.call i (Es.cons (E.var 0) (Es.cons (E.var 1) (Es.nil))))) (Ts.cons (T.ret (E.ite (E.cmp (CmpOp.Gt) (E.var 2) (E.cst (PV.int 1))) (E.tup (Es.cons (E.bin (Operator.FloorDiv) (E.var 0) (E.var 2)) (Es.cons (E.bin (Operator.FloorDiv) (E.var 1) (E.var 2)) (Es.nil)))) (E.tup (Es.cons (E.var 0) (Es.cons (E.var 1) (Es.nil)))))) (Ts.nil)))
def bLowest : Ts := Ts.cons (T.asg (Tg.pat (Pt.name 2)) (E.bt (Bt.gcd) (Es.cons (E.var 0) (Es.cons (E.var 1) (Es.nil))))) (Ts.cons (T.ret (E.tup (Es.cons (E.bin (Operator.FloorDiv) (E.var 0) (E.var 2)) (Es.cons (E.bin (Operator.FloorDiv) (E.var 1) (E.var 2)) (Es.nil))))) (Ts.nil))
def bHandRows (i : Nat) : Ts := Ts.cons (T.asg (Tg.pat (Pt.name 3)) (E.lc [4] (It.e (E.var 2)) (Pt.name 4) (Oe.none) (E.ite (E.cmp (CmpOp.Eq) (E.call i (Es.cons (E.var 0) (Es.cons (E.var 1) (Es.cons (E.cst (PV.int 3)) (Es.nil))))) (E.cst (PV.int 0))) (E.bt (Bt.list) (Es.cons (E.var 4) (Es.nil))) (E.var 4)))) (Ts.cons (T.ret (E.ite (E.cmp (CmpOp.Eq) (E.call i (Es.cons (E.var 0) (Es.cons (E.var 1) (Es.cons (E.cst (PV.int 2)) (Es.nil))))) (E.cst (PV.int 0))) (E.var 3) (E.bt (Bt.tuple) (Es.cons (E.var 3) (Es.nil))))) (Ts.nil))
def bRising : Ts := Ts.cons (T.ret (E.bt (Bt.all) (Es.cons (E.lc [1] (It.rng (Es.cons (E.bin (Operator.Sub) (E.bt (Bt.len) (Es.cons (E.var 0) (Es.nil))) (E.cst (PV.int 1))) (Es.nil))) (Pt.name 1) (Oe.none) (E.cmp (CmpOp.Lt) (E.ix (E.var 0) (E.var 1)) (E.ix (E.var 0) (E.bin (Operator.Add) (E.var 1) (E.cst (PV.int 1)))))) (Es.nil)))) (Ts.nil)
section
variable {fs : List Fn} {fu k i j : Nat} {S : Store}
theorem bigI {n : Int} (h0 : -4000000000 ≤ n) (h1 : n ≤ 4000000000) : -big62 ≤ n ∧ n < big62 := by unfold big62; omega
theorem lt_of_at {S : Store} {n : Nat} {o : SO} (h : S[n]? = some o) : n < S.length := (List.getElem?_eq_some_iff.mp h).1
theorem spot_lt {R : List Int} {rw_ sp : Nat} (D : Dr R rw_ sp S) : sp < S.length := by obtain ⟨s, h⟩ := D.spot; exact lt_of_at h
theorem n_neg {i : Int} : negV (.int i) S = .ok (.int (-i)) S := (rfl)
theorem f_gcd {a b : Int} : btF .gcd [.int a, .int b] S = .ok (.int ((Nat.gcd a.natAbs b.natAbs : Nat) : Int)) S := (rfl)
def gI (n d : Int) : Int := ((Nat.gcd n.natAbs d.natAbs : Nat) : Int)
theorem gI_pos {n d : Int} (h : 0 < d) : 0 < gI n d := by
  unfold gI
  have : 0 < Nat.gcd n.natAbs d.natAbs := Nat.gcd_pos_of_pos_right _ (by omega)
  omega
theorem gI_le {n d : Int} (h : 0 < d) : gI n d ≤ d := by
  unfold gI
  have := Nat.gcd_le_right (m := n.natAbs) (n := d.natAbs) (by omega)
  omega
theorem law_gcd_eq (hf : fs[i]? = some ⟨4, 2, bLawGcd⟩) {a b : Int} (hb : b.natAbs < 4000) : callN fs fu (k + 1) i [.int a, .int b] S = .ok (.int (gI a b)) S := by
  refine eq_of_W ?_
  refine W_fn2 hf rfl rfl ?_; simp only [List.map_cons, List.map_nil, List.length_cons, List.length_nil, List.cons_append, List.nil_append, List.append_nil, List.replicate_succ, List.replicate_zero, Nat.reduceAdd, Nat.reduceSub, Nat.zero_add]
  unfold bLawGcd
  have habs : ∀ x : Int, (if 0 ≤ x then x else -x) = (x.natAbs : Int) := fun x => by split <;> omega
  have e1 : ∀ (x : Int) {Q : PV → Store → Prop}, W (if 0 ≤ x then Res.ok (PV.int x) S else Res.ok (PV.int (-x)) S) Q ↔ Q (.int (x.natAbs : Int)) S := fun x Q => by
    rw [← habs x]
    by_cases h : 0 ≤ x
    · rw [if_pos h, if_pos h, W_ok]
    · rw [if_neg h, if_neg h, W_ok]
  simp only [ev_var, ev_cst, ev_bin, ev_neg, ev_cmp, ev_chain', ev_and, ev_or, ev_not, ev_ite, ev_tup, ev_lst, ev_ix, ev_sl, ev_call, ev_bt, ev_mt, ev_isi, ev_lc, ev_nil, ev_cons, ev_onone, ev_osome, ev_cnone, ev_csome, ev_ie, ev_rng, ev_enu, asT, ex_asg, ex_asgS, ex_par, ex_aug, ex_ite, ex_whl, ex_for, ex_expr, ex_ret, ex_retN, ex_pass, ex_brk, ex_cont, ex_never, ex_nil, ex_cons', W_ok, W_bind, fin_ret, fin_next, chK_bl, sq_next, sq_ret, sq_brk, sq_cont, bnd_ok, b_add, b_sub, i_add, i_sub, c_lt, c_le, c_gt, c_ge, c_eq, c_ne, c_eqs, c_nes, c_eqb, t_bl, t_int, t_non, p_int, f_int, as_n, as_t2, as_t3, setMany, getL, List.getElem?_cons_zero, List.getElem?_cons_succ, List.set_cons_zero, List.set_cons_succ, wipeL, tl0, tl1, tl2, tl3, tl4, tl5, tl6, Bool.not_true, Bool.not_false, decide_eq_true_eq, if_true, if_false, ite_true, ite_false, eq_self, Bool.false_eq_true, n_neg, e1]
  refine W_r1 (bigI (by decide) (by decide)) ?_
  refine W_for0 (it := .vals (rngL 0 4000)) (xs := rngL 0 4000) (by exact rfl) (fun m ρ S' => S' = S ∧ ∃ (x y : Nat) (z2 z3 : Option PV), ρ = [some (.int x), some (.int y), z2, z3] ∧ Nat.gcd x y = Nat.gcd a.natAbs b.natAbs ∧ y + m < 4000) ⟨rfl, a.natAbs, b.natAbs, _, _, rfl, rfl, by omega⟩ (fun _ _ _ _ => rfl) (fun m x ρ S1 hx hI => ?_) fun ρ S1 hI => ?_
  · obtain ⟨rfl, x, y, z2, z3, rfl, hg, hy⟩ := hI
    obtain ⟨rfl, hm⟩ := rngL_get hx
    try simp only [ev_var, ev_cst, ev_bin, ev_neg, ev_cmp, ev_chain', ev_and, ev_or, ev_not, ev_ite, ev_tup, ev_lst, ev_ix, ev_sl, ev_call, ev_bt, ev_mt, ev_isi, ev_lc, ev_nil, ev_cons, ev_onone, ev_osome, ev_cnone, ev_csome, ev_ie, ev_rng, ev_enu, asT, ex_asg, ex_asgS, ex_par, ex_aug, ex_ite, ex_whl, ex_for, ex_expr, ex_ret, ex_retN, ex_pass, ex_brk, ex_cont, ex_never, ex_nil, ex_cons', W_ok, W_bind, fin_ret, fin_next, chK_bl, sq_next, sq_ret, sq_brk, sq_cont, bnd_ok, b_add, b_sub, i_add, i_sub, c_lt, c_le, c_gt, c_ge, c_eq, c_ne, c_eqs, c_nes, c_eqb, t_bl, t_int, t_non, p_int, f_int, as_n, as_t2, as_t3, setMany, getL, List.getElem?_cons_zero, List.getElem?_cons_succ, List.set_cons_zero, List.set_cons_succ, wipeL, tl0, tl1, tl2, tl3, tl4, tl5, tl6, Bool.not_true, Bool.not_false, decide_eq_true_eq, if_true, if_false, ite_true, ite_false, eq_self, Bool.false_eq_true]
    by_cases h0 : (y : Int) = 0
    · rw [if_pos h0]
      have hy0 : y = 0 := by omega
      subst hy0
      rw [Nat.gcd_zero_right] at hg
      try simp only [ev_var, ev_cst, ev_bin, ev_neg, ev_cmp, ev_chain', ev_and, ev_or, ev_not, ev_ite, ev_tup, ev_lst, ev_ix, ev_sl, ev_call, ev_bt, ev_mt, ev_isi, ev_lc, ev_nil, ev_cons, ev_onone, ev_osome, ev_cnone, ev_csome, ev_ie, ev_rng, ev_enu, asT, ex_asg, ex_asgS, ex_par, ex_aug, ex_ite, ex_whl, ex_for, ex_expr, ex_ret, ex_retN, ex_pass, ex_brk, ex_cont, ex_never, ex_nil, ex_cons', W_ok, W_bind, fin_ret, fin_next, chK_bl, sq_next, sq_ret, sq_brk, sq_cont, bnd_ok, b_add, b_sub, i_add, i_sub, c_lt, c_le, c_gt, c_ge, c_eq, c_ne, c_eqs, c_nes, c_eqb, t_bl, t_int, t_non, p_int, f_int, as_n, as_t2, as_t3, setMany, getL, List.getElem?_cons_zero, List.getElem?_cons_succ, List.set_cons_zero, List.set_cons_succ, wipeL, tl0, tl1, tl2, tl3, tl4, tl5, tl6, Bool.not_true, Bool.not_false, decide_eq_true_eq, if_true, if_false, ite_true, ite_false, eq_self, Bool.false_eq_true]
      refine ⟨?_, trivial⟩
      unfold gI
      rw [← hg]
    · rw [if_neg h0]
      have hyp : 0 < y := by omega
      simp only [ev_var, ev_cst, ev_bin, ev_neg, ev_cmp, ev_chain', ev_and, ev_or, ev_not, ev_ite, ev_tup, ev_lst, ev_ix, ev_sl, ev_call, ev_bt, ev_mt, ev_isi, ev_lc, ev_nil, ev_cons, ev_onone, ev_osome, ev_cnone, ev_csome, ev_ie, ev_rng, ev_enu, asT, ex_asg, ex_asgS, ex_par, ex_aug, ex_ite, ex_whl, ex_for, ex_expr, ex_ret, ex_retN, ex_pass, ex_brk, ex_cont, ex_never, ex_nil, ex_cons', W_ok, W_bind, fin_ret, fin_next, chK_bl, sq_next, sq_ret, sq_brk, sq_cont, bnd_ok, b_add, b_sub, i_add, i_sub, c_lt, c_le, c_gt, c_ge, c_eq, c_ne, c_eqs, c_nes, c_eqb, t_bl, t_int, t_non, p_int, f_int, as_n, as_t2, as_t3, setMany, getL, List.getElem?_cons_zero, List.getElem?_cons_succ, List.set_cons_zero, List.set_cons_succ, wipeL, tl0, tl1, tl2, tl3, tl4, tl5, tl6, Bool.not_true, Bool.not_false, decide_eq_true_eq, if_true, if_false, ite_true, ite_false, eq_self, Bool.false_eq_true, b_mod (show (0 : Int) < (y : Int) by omega)]
      refine ⟨trivial, y, x % y, some (.int (0 + (m : Int))), some (.int ((x % y : Nat) : Int)), ?_, ?_, ?_⟩
      · rw [Int.natCast_emod]
      · rw [Nat.gcd_comm, ← hg, Nat.gcd_comm x y, Nat.gcd_rec y x]
      · have := Nat.mod_lt x hyp; omega
  · obtain ⟨rfl, x, y, z2, z3, rfl, hg, hy⟩ := hI
    rw [rngL_len] at hy
    omega
theorem law_q_eq (hf : fs[i]? = some ⟨3, 2, bLawQ j⟩) (hj : fs[j]? = some ⟨4, 2, bLawGcd⟩) {n d : Int} (hd : 0 < d) (hd' : d < 4000) : callN fs fu (k + 2) i [.int n, .int d] S = .ok (.tup [.int (n / gI n d), .int (d / gI n d)]) S := by
  refine eq_of_W ?_
  refine W_fn2 hf rfl rfl ?_; simp only [List.map_cons, List.map_nil, List.length_cons, List.length_nil, List.cons_append, List.nil_append, List.append_nil, List.replicate_succ, List.replicate_zero, Nat.reduceAdd, Nat.reduceSub, Nat.zero_add]
  unfold bLawQ
  have hg := gI_pos (n := n) hd
  have hg2 := gI_le (n := n) hd
  simp only [ev_var, ev_cst, ev_bin, ev_neg, ev_cmp, ev_chain', ev_and, ev_or, ev_not, ev_ite, ev_tup, ev_lst, ev_ix, ev_sl, ev_call, ev_bt, ev_mt, ev_isi, ev_lc, ev_nil, ev_cons, ev_onone, ev_osome, ev_cnone, ev_csome, ev_ie, ev_rng, ev_enu, asT, ex_asg, ex_asgS, ex_par, ex_aug, ex_ite, ex_whl, ex_for, ex_expr, ex_ret, ex_retN, ex_pass, ex_brk, ex_cont, ex_never, ex_nil, ex_cons', W_ok, W_bind, fin_ret, fin_next, chK_bl, sq_next, sq_ret, sq_brk, sq_cont, bnd_ok, b_add, b_sub, i_add, i_sub, c_lt, c_le, c_gt, c_ge, c_eq, c_ne, c_eqs, c_nes, c_eqb, t_bl, t_int, t_non, p_int, f_int, as_n, as_t2, as_t3, setMany, getL, List.getElem?_cons_zero, List.getElem?_cons_succ, List.set_cons_zero, List.set_cons_succ, wipeL, tl0, tl1, tl2, tl3, tl4, tl5, tl6, Bool.not_true, Bool.not_false, decide_eq_true_eq, if_true, if_false, ite_true, ite_false, eq_self, Bool.false_eq_true, show (d < 0) = False from eq_false (by omega), decide_false, law_gcd_eq hj (show d.natAbs < 4000 by omega)]
  by_cases h1 : 1 < gI n d
  · rw [if_pos h1]
    simp only [ev_var, ev_cst, ev_bin, ev_neg, ev_cmp, ev_chain', ev_and, ev_or, ev_not, ev_ite, ev_tup, ev_lst, ev_ix, ev_sl, ev_call, ev_bt, ev_mt, ev_isi, ev_lc, ev_nil, ev_cons, ev_onone, ev_osome, ev_cnone, ev_csome, ev_ie, ev_rng, ev_enu, asT, ex_asg, ex_asgS, ex_par, ex_aug, ex_ite, ex_whl, ex_for, ex_expr, ex_ret, ex_retN, ex_pass, ex_brk, ex_cont, ex_never, ex_nil, ex_cons', W_ok, W_bind, fin_ret, fin_next, chK_bl, sq_next, sq_ret, sq_brk, sq_cont, bnd_ok, b_add, b_sub, i_add, i_sub, c_lt, c_le, c_gt, c_ge, c_eq, c_ne, c_eqs, c_nes, c_eqb, t_bl, t_int, t_non, p_int, f_int, as_n, as_t2, as_t3, setMany, getL, List.getElem?_cons_zero, List.getElem?_cons_succ, List.set_cons_zero, List.set_cons_succ, wipeL, tl0, tl1, tl2, tl3, tl4, tl5, tl6, Bool.not_true, Bool.not_false, decide_eq_true_eq, if_true, if_false, ite_true, ite_false, eq_self, Bool.false_eq_true, b_div (show 0 < gI n d ∧ gI n d < 1073741824 by omega), and_self]
  · have h1' : gI n d = 1 := by omega
    rw [if_neg h1]
    simp only [ev_var, ev_cst, ev_bin, ev_neg, ev_cmp, ev_chain', ev_and, ev_or, ev_not, ev_ite, ev_tup, ev_lst, ev_ix, ev_sl, ev_call, ev_bt, ev_mt, ev_isi, ev_lc, ev_nil, ev_cons, ev_onone, ev_osome, ev_cnone, ev_csome, ev_ie, ev_rng, ev_enu, asT, ex_asg, ex_asgS, ex_par, ex_aug, ex_ite, ex_whl, ex_for, ex_expr, ex_ret, ex_retN, ex_pass, ex_brk, ex_cont, ex_never, ex_nil, ex_cons', W_ok, W_bind, fin_ret, fin_next, chK_bl, sq_next, sq_ret, sq_brk, sq_cont, bnd_ok, b_add, b_sub, i_add, i_sub, c_lt, c_le, c_gt, c_ge, c_eq, c_ne, c_eqs, c_nes, c_eqb, t_bl, t_int, t_non, p_int, f_int, as_n, as_t2, as_t3, setMany, getL, List.getElem?_cons_zero, List.getElem?_cons_succ, List.set_cons_zero, List.set_cons_succ, wipeL, tl0, tl1, tl2, tl3, tl4, tl5, tl6, Bool.not_true, Bool.not_false, decide_eq_true_eq, if_true, if_false, ite_true, ite_false, eq_self, Bool.false_eq_true, h1', Int.ediv_one, and_self]
theorem lowest_eq (hf : fs[i]? = some ⟨3, 2, bLowest⟩) {n d : Int} (hd : 0 < d) (hd' : d < 1073741824) : callN fs fu (k + 1) i [.int n, .int d] S = .ok (.tup [.int (n / gI n d), .int (d / gI n d)]) S := by
  refine eq_of_W ?_
  refine W_fn2 hf rfl rfl ?_; simp only [List.map_cons, List.map_nil, List.length_cons, List.length_nil, List.cons_append, List.nil_append, List.append_nil, List.replicate_succ, List.replicate_zero, Nat.reduceAdd, Nat.reduceSub, Nat.zero_add]
  unfold bLowest
  have hg := gI_pos (n := n) hd
  have hg2 := gI_le (n := n) hd
  unfold gI at *
  simp only [ev_var, ev_cst, ev_bin, ev_neg, ev_cmp, ev_chain', ev_and, ev_or, ev_not, ev_ite, ev_tup, ev_lst, ev_ix, ev_sl, ev_call, ev_bt, ev_mt, ev_isi, ev_lc, ev_nil, ev_cons, ev_onone, ev_osome, ev_cnone, ev_csome, ev_ie, ev_rng, ev_enu, asT, ex_asg, ex_asgS, ex_par, ex_aug, ex_ite, ex_whl, ex_for, ex_expr, ex_ret, ex_retN, ex_pass, ex_brk, ex_cont, ex_never, ex_nil, ex_cons', W_ok, W_bind, fin_ret, fin_next, chK_bl, sq_next, sq_ret, sq_brk, sq_cont, bnd_ok, b_add, b_sub, i_add, i_sub, c_lt, c_le, c_gt, c_ge, c_eq, c_ne, c_eqs, c_nes, c_eqb, t_bl, t_int, t_non, p_int, f_int, as_n, as_t2, as_t3, setMany, getL, List.getElem?_cons_zero, List.getElem?_cons_succ, List.set_cons_zero, List.set_cons_succ, wipeL, tl0, tl1, tl2, tl3, tl4, tl5, tl6, Bool.not_true, Bool.not_false, decide_eq_true_eq, if_true, if_false, ite_true, ite_false, eq_self, Bool.false_eq_true, f_gcd, b_div (show 0 < ((Nat.gcd n.natAbs d.natAbs : Nat) : Int) ∧ ((Nat.gcd n.natAbs d.natAbs : Nat) : Int) < 1073741824 by omega), and_self]
theorem rising_ok (hf : fs[i]? = some ⟨2, 1, bRising⟩) {x : PV} {l : List Int} (h : itemsOf S x = some (l.map .int)) (hp : l.Pairwise (· < ·)) (hl : l.length ≤ 100) : W (callN fs fu (k + 1) i [x] S) (fun v S' => v = .bl true ∧ Mp.Sub S S') := by
  refine W_fn2 hf rfl rfl ?_; simp only [List.map_cons, List.map_nil, List.length_cons, List.length_nil, List.cons_append, List.nil_append, List.append_nil, List.replicate_succ, List.replicate_zero, Nat.reduceAdd, Nat.reduceSub, Nat.zero_add]
  unfold bRising
  simp only [ev_var, ev_cst, ev_bin, ev_neg, ev_cmp, ev_chain', ev_and, ev_or, ev_not, ev_ite, ev_tup, ev_lst, ev_ix, ev_sl, ev_call, ev_bt, ev_mt, ev_isi, ev_lc, ev_nil, ev_cons, ev_onone, ev_osome, ev_cnone, ev_csome, ev_ie, ev_rng, ev_enu, asT, ex_asg, ex_asgS, ex_par, ex_aug, ex_ite, ex_whl, ex_for, ex_expr, ex_ret, ex_retN, ex_pass, ex_brk, ex_cont, ex_never, ex_nil, ex_cons', W_ok, W_bind, fin_ret, fin_next, chK_bl, sq_next, sq_ret, sq_brk, sq_cont, bnd_ok, b_add, b_sub, i_add, i_sub, c_lt, c_le, c_gt, c_ge, c_eq, c_ne, c_eqs, c_nes, c_eqb, t_bl, t_int, t_non, p_int, f_int, as_n, as_t2, as_t3, setMany, getL, List.getElem?_cons_zero, List.getElem?_cons_succ, List.set_cons_zero, List.set_cons_succ, wipeL, tl0, tl1, tl2, tl3, tl4, tl5, tl6, Bool.not_true, Bool.not_false, decide_eq_true_eq, if_true, if_false, ite_true, ite_false, eq_self, Bool.false_eq_true, f_len h, List.length_map]
  refine W_r1 (bigI (by omega) (by omega)) ?_
  refine (W_lcB (p := fun _ => True) (it := .vals (rngL 0 ((l.length : Int) - 1).toNat)) (xs := rngL 0 ((l.length : Int) - 1).toNat) (fun _ => true) rfl trivial (by rw [rngL_len]; unfold lim; omega) fun y hy S1 k1 => ?_).mono fun ys S' q => ?_
  · obtain ⟨m, hm⟩ := List.getElem?_of_mem hy
    obtain ⟨rfl, hm'⟩ := rngL_get hm
    have i1 := ix_at (i := 0 + (m : Int)) (items_sub k1 h) (by omega) (ns_at (by omega) (by omega))
    have i2 := ix_at (i := 0 + (m : Int) + 1) (items_sub k1 h) (by omega) (ns_at (by omega) (by omega))
    have hlt : l.getD (0 + (m : Int)).toNat 0 < l.getD (0 + (m : Int) + 1).toNat 0 := by
      rw [show (0 + (m : Int)).toNat = m by omega, show (0 + (m : Int) + 1).toNat = m + 1 by omega, List.getD_eq_getElem?_getD, List.getD_eq_getElem?_getD, List.getElem?_eq_getElem (show m < l.length by omega), List.getElem?_eq_getElem (show m + 1 < l.length by omega)]
      exact List.pairwise_iff_getElem.mp hp m (m + 1) (by omega) (by omega) (by omega)
    simp only [ev_var, ev_cst, ev_bin, ev_neg, ev_cmp, ev_chain', ev_and, ev_or, ev_not, ev_ite, ev_tup, ev_lst, ev_ix, ev_sl, ev_call, ev_bt, ev_mt, ev_isi, ev_lc, ev_nil, ev_cons, ev_onone, ev_osome, ev_cnone, ev_csome, ev_ie, ev_rng, ev_enu, asT, ex_asg, ex_asgS, ex_par, ex_aug, ex_ite, ex_whl, ex_for, ex_expr, ex_ret, ex_retN, ex_pass, ex_brk, ex_cont, ex_never, ex_nil, ex_cons', W_ok, W_bind, fin_ret, fin_next, chK_bl, sq_next, sq_ret, sq_brk, sq_cont, bnd_ok, b_add, b_sub, i_add, i_sub, c_lt, c_le, c_gt, c_ge, c_eq, c_ne, c_eqs, c_nes, c_eqb, t_bl, t_int, t_non, p_int, f_int, as_n, as_t2, as_t3, setMany, getL, List.getElem?_cons_zero, List.getElem?_cons_succ, List.set_cons_zero, List.set_cons_succ, wipeL, tl0, tl1, tl2, tl3, tl4, tl5, tl6, Bool.not_true, Bool.not_false, decide_eq_true_eq, if_true, if_false, ite_true, ite_false, eq_self, Bool.false_eq_true, i1, i2, hlt, decide_true]
    exact ⟨by trivial, .refl⟩
  · obtain ⟨rfl, k1⟩ := q
    simp only [ev_var, ev_cst, ev_bin, ev_neg, ev_cmp, ev_chain', ev_and, ev_or, ev_not, ev_ite, ev_tup, ev_lst, ev_ix, ev_sl, ev_call, ev_bt, ev_mt, ev_isi, ev_lc, ev_nil, ev_cons, ev_onone, ev_osome, ev_cnone, ev_csome, ev_ie, ev_rng, ev_enu, asT, ex_asg, ex_asgS, ex_par, ex_aug, ex_ite, ex_whl, ex_for, ex_expr, ex_ret, ex_retN, ex_pass, ex_brk, ex_cont, ex_never, ex_nil, ex_cons', W_ok, W_bind, fin_ret, fin_next, chK_bl, sq_next, sq_ret, sq_brk, sq_cont, bnd_ok, b_add, b_sub, i_add, i_sub, c_lt, c_le, c_gt, c_ge, c_eq, c_ne, c_eqs, c_nes, c_eqb, t_bl, t_int, t_non, p_int, f_int, as_n, as_t2, as_t3, setMany, getL, List.getElem?_cons_zero, List.getElem?_cons_succ, List.set_cons_zero, List.set_cons_succ, wipeL, tl0, tl1, tl2, tl3, tl4, tl5, tl6, Bool.not_true, Bool.not_false, decide_eq_true_eq, if_true, if_false, ite_true, ite_false, eq_self, Bool.false_eq_true, f_all at_push, all_id]
    exact ⟨by trivial, k1.trans .push⟩
/-- v is a list or a tuple of rows, each a list or a tuple -/
def Rows (p : Nat → Prop) (S : Store) (v : PV) (rows : List (List PV)) : Prop :=
  ∃ xs : List PV, itemsOf S v = some xs ∧ NotR p v ∧ xs.length = rows.length ∧ ∀ (i : Nat) (r : List PV), rows[i]? = some r → ∃ x : PV, xs[i]? = some x ∧ itemsOf S x = some r ∧ NotR p x
theorem Rows.kp {p : Nat → Prop} {S S' : Store} {v : PV} {rows : List (List PV)} (h : Rows p S v rows) (k : Kp p S S') : Rows p S' v rows := by
  obtain ⟨xs, h1, h2, h3, h4⟩ := h
  refine ⟨xs, items_kp k h2 h1, h2, h3, fun i r hr => ?_⟩
  obtain ⟨x, e1, e2, e3⟩ := h4 i r hr
  exact ⟨x, e1, items_kp k e3 e2, e3⟩
theorem hand_rows_ok {t dr : Nat} (hf : fs[i]? = some ⟨5, 3, bHandRows t⟩) (ht : fs[t]? = some ⟨3, 3, bTake dr⟩) (hd : fs[dr]? = some ⟨4, 3, bDraw⟩) {rw_ sp : Nat} {R : List Int} (D : Dr R rw_ sp S) {rows : List (List PV)} (hl : rows.length ≤ lim) :
    W (callN fs fu (k + 3) i [.ref rw_, .ref sp, .tup (rows.map .tup)] S) (fun v S' => Rows (fun n => n ≠ sp) S' v rows ∧ Dr R rw_ sp S' ∧ Ks sp S S') := by
  refine W_fn2 hf rfl rfl ?_; simp only [List.map_cons, List.map_nil, List.length_cons, List.length_nil, List.cons_append, List.nil_append, List.append_nil, List.replicate_succ, List.replicate_zero, Nat.reduceAdd, Nat.reduceSub, Nat.zero_add]
  unfold bHandRows
  simp only [ev_var, ev_cst, ev_bin, ev_neg, ev_cmp, ev_chain', ev_and, ev_or, ev_not, ev_ite, ev_tup, ev_lst, ev_ix, ev_sl, ev_call, ev_bt, ev_mt, ev_isi, ev_lc, ev_nil, ev_cons, ev_onone, ev_osome, ev_cnone, ev_csome, ev_ie, ev_rng, ev_enu, asT, ex_asg, ex_asgS, ex_par, ex_aug, ex_ite, ex_whl, ex_for, ex_expr, ex_ret, ex_retN, ex_pass, ex_brk, ex_cont, ex_never, ex_nil, ex_cons', W_ok, W_bind, fin_ret, fin_next, chK_bl, sq_next, sq_ret, sq_brk, sq_cont, bnd_ok, b_add, b_sub, i_add, i_sub, c_lt, c_le, c_gt, c_ge, c_eq, c_ne, c_eqs, c_nes, c_eqb, t_bl, t_int, t_non, p_int, f_int, as_n, as_t2, as_t3, setMany, getL, List.getElem?_cons_zero, List.getElem?_cons_succ, List.set_cons_zero, List.set_cons_succ, wipeL, tl0, tl1, tl2, tl3, tl4, tl5, tl6, Bool.not_true, Bool.not_false, decide_eq_true_eq, if_true, if_false, ite_true, ite_false, eq_self, Bool.false_eq_true, iterV]
  rw [show (Ir.vals (rows.map PV.tup)).len S + 1 = rows.length + 1 from by show (rows.map PV.tup).length + 1 = _; rw [List.length_map]]
  refine (W_lcI (it := .vals (rows.map .tup)) (xs := rows.map .tup) (fun m acc S' => acc.length = m ∧ m ≤ rows.length ∧ (∀ (i : Nat) (r : List PV), i < m → rows[i]? = some r → ∃ x, acc[i]? = some x ∧ itemsOf S' x = some r ∧ NotR (fun n => n ≠ sp) x) ∧ Dr R rw_ sp S' ∧ Ks sp S S') (fun _ _ _ _ => rfl) (fun m x acc S1 hx h => ?_) (rows.length + 1) 0 [] S (Nat.zero_le _) (by rw [List.length_map]; omega) ⟨rfl, Nat.zero_le _, fun _ _ h => absurd h (Nat.not_lt_zero _), D, .refl⟩).mono fun acc S1 q => ?_
  · obtain ⟨hal, hm, hr, D1, k1⟩ := h
    rw [List.getElem?_map] at hx
    obtain ⟨r, hrm, rfl⟩ := Option.map_eq_some_iff.mp hx
    have hlt : m < rows.length := (List.getElem?_eq_some_iff.mp hrm).1
    try simp only [ev_var, ev_cst, ev_bin, ev_neg, ev_cmp, ev_chain', ev_and, ev_or, ev_not, ev_ite, ev_tup, ev_lst, ev_ix, ev_sl, ev_call, ev_bt, ev_mt, ev_isi, ev_lc, ev_nil, ev_cons, ev_onone, ev_osome, ev_cnone, ev_csome, ev_ie, ev_rng, ev_enu, asT, ex_asg, ex_asgS, ex_par, ex_aug, ex_ite, ex_whl, ex_for, ex_expr, ex_ret, ex_retN, ex_pass, ex_brk, ex_cont, ex_never, ex_nil, ex_cons', W_ok, W_bind, fin_ret, fin_next, chK_bl, sq_next, sq_ret, sq_brk, sq_cont, bnd_ok, b_add, b_sub, i_add, i_sub, c_lt, c_le, c_gt, c_ge, c_eq, c_ne, c_eqs, c_nes, c_eqb, t_bl, t_int, t_non, p_int, f_int, as_n, as_t2, as_t3, setMany, getL, List.getElem?_cons_zero, List.getElem?_cons_succ, List.set_cons_zero, List.set_cons_succ, wipeL, tl0, tl1, tl2, tl3, tl4, tl5, tl6, Bool.not_true, Bool.not_false, decide_eq_true_eq, if_true, if_false, ite_true, ite_false, eq_self, Bool.false_eq_true]
    refine (take_ok ht hd D1 (show (0 : Int) < 3 by decide)).mono fun v S2 q => ?_
    obtain ⟨d, rfl, hd0, hd1, D2, k2⟩ := q
    have fin : ∀ (x : PV) (S' : Store), Mp.Sub S2 S' → itemsOf S' x = some r → NotR (fun n => n ≠ sp) x → acc.length < lim ∧ (acc ++ [x]).length = m + 1 ∧ m + 1 ≤ rows.length ∧ (∀ (i : Nat) (r : List PV), i < m + 1 → rows[i]? = some r → ∃ x', (acc ++ [x])[i]? = some x' ∧ itemsOf S' x' = some r ∧ NotR (fun n => n ≠ sp) x') ∧ Dr R rw_ sp S' ∧ Ks sp S S' := by
      intro x S' kk hxx hn
      refine ⟨by omega, by rw [List.length_append, hal]; rfl, hlt, fun i r' hi hr' => ?_, D2.kp kk, (k1.trans k2).trans (.of kk)⟩
      by_cases e : i = m
      · subst e
        rw [hrm] at hr'
        cases hr'
        exact ⟨x, by rw [List.getElem?_append_right (by omega), hal, Nat.sub_self]; rfl, hxx, hn⟩
      · obtain ⟨x', g1, g2, g3⟩ := hr i r' (by omega) hr'
        exact ⟨x', by rw [List.getElem?_append_left (by omega)]; exact g1, items_kp (k2.trans (.of kk)) g3 g2, g3⟩
    try simp only [ev_var, ev_cst, ev_bin, ev_neg, ev_cmp, ev_chain', ev_and, ev_or, ev_not, ev_ite, ev_tup, ev_lst, ev_ix, ev_sl, ev_call, ev_bt, ev_mt, ev_isi, ev_lc, ev_nil, ev_cons, ev_onone, ev_osome, ev_cnone, ev_csome, ev_ie, ev_rng, ev_enu, asT, ex_asg, ex_asgS, ex_par, ex_aug, ex_ite, ex_whl, ex_for, ex_expr, ex_ret, ex_retN, ex_pass, ex_brk, ex_cont, ex_never, ex_nil, ex_cons', W_ok, W_bind, fin_ret, fin_next, chK_bl, sq_next, sq_ret, sq_brk, sq_cont, bnd_ok, b_add, b_sub, i_add, i_sub, c_lt, c_le, c_gt, c_ge, c_eq, c_ne, c_eqs, c_nes, c_eqb, t_bl, t_int, t_non, p_int, f_int, as_n, as_t2, as_t3, setMany, getL, List.getElem?_cons_zero, List.getElem?_cons_succ, List.set_cons_zero, List.set_cons_succ, wipeL, tl0, tl1, tl2, tl3, tl4, tl5, tl6, Bool.not_true, Bool.not_false, decide_eq_true_eq, if_true, if_false, ite_true, ite_false, eq_self, Bool.false_eq_true]
    by_cases h0 : d = 0
    · rw [if_pos h0]
      simp only [ev_var, ev_cst, ev_bin, ev_neg, ev_cmp, ev_chain', ev_and, ev_or, ev_not, ev_ite, ev_tup, ev_lst, ev_ix, ev_sl, ev_call, ev_bt, ev_mt, ev_isi, ev_lc, ev_nil, ev_cons, ev_onone, ev_osome, ev_cnone, ev_csome, ev_ie, ev_rng, ev_enu, asT, ex_asg, ex_asgS, ex_par, ex_aug, ex_ite, ex_whl, ex_for, ex_expr, ex_ret, ex_retN, ex_pass, ex_brk, ex_cont, ex_never, ex_nil, ex_cons', W_ok, W_bind, fin_ret, fin_next, chK_bl, sq_next, sq_ret, sq_brk, sq_cont, bnd_ok, b_add, b_sub, i_add, i_sub, c_lt, c_le, c_gt, c_ge, c_eq, c_ne, c_eqs, c_nes, c_eqb, t_bl, t_int, t_non, p_int, f_int, as_n, as_t2, as_t3, setMany, getL, List.getElem?_cons_zero, List.getElem?_cons_succ, List.set_cons_zero, List.set_cons_succ, wipeL, tl0, tl1, tl2, tl3, tl4, tl5, tl6, Bool.not_true, Bool.not_false, decide_eq_true_eq, if_true, if_false, ite_true, ite_false, eq_self, Bool.false_eq_true, f_list (show itemsOf S2 (.tup r) = some r from rfl)]
      have := spot_lt D2
      exact fin _ _ .push (items_ref at_push) (show S2.length ≠ sp by omega)
    · rw [if_neg h0]
      try simp only [ev_var, ev_cst, ev_bin, ev_neg, ev_cmp, ev_chain', ev_and, ev_or, ev_not, ev_ite, ev_tup, ev_lst, ev_ix, ev_sl, ev_call, ev_bt, ev_mt, ev_isi, ev_lc, ev_nil, ev_cons, ev_onone, ev_osome, ev_cnone, ev_csome, ev_ie, ev_rng, ev_enu, asT, ex_asg, ex_asgS, ex_par, ex_aug, ex_ite, ex_whl, ex_for, ex_expr, ex_ret, ex_retN, ex_pass, ex_brk, ex_cont, ex_never, ex_nil, ex_cons', W_ok, W_bind, fin_ret, fin_next, chK_bl, sq_next, sq_ret, sq_brk, sq_cont, bnd_ok, b_add, b_sub, i_add, i_sub, c_lt, c_le, c_gt, c_ge, c_eq, c_ne, c_eqs, c_nes, c_eqb, t_bl, t_int, t_non, p_int, f_int, as_n, as_t2, as_t3, setMany, getL, List.getElem?_cons_zero, List.getElem?_cons_succ, List.set_cons_zero, List.set_cons_succ, wipeL, tl0, tl1, tl2, tl3, tl4, tl5, tl6, Bool.not_true, Bool.not_false, decide_eq_true_eq, if_true, if_false, ite_true, ite_false, eq_self, Bool.false_eq_true]
      exact fin _ _ .refl rfl trivial
  · obtain ⟨hal, _, hr, D1, k1⟩ := q
    rw [List.length_map] at hal hr
    have h1 := spot_lt D1
    have hacc := at_push (S := S1) (o := .lst acc)
    have D2 := D1.kp (.push (o := .lst acc))
    have hr2 : ∀ (i : Nat) (r : List PV), rows[i]? = some r → ∃ x, acc[i]? = some x ∧ itemsOf (S1 ++ [.lst acc]) x = some r ∧ NotR (fun n => n ≠ sp) x := fun i r h => by
      obtain ⟨x, g1, g2, g3⟩ := hr i r (List.getElem?_eq_some_iff.mp h).1 h
      exact ⟨x, g1, items_sub .push g2, g3⟩
    have hne : S1.length ≠ sp := by omega
    have k2 := k1.trans (.push (o := .lst acc))
    generalize S1.length = a at hacc hne ⊢
    generalize S1 ++ [SO.lst acc] = S2 at hacc D2 hr2 k2 ⊢
    try simp only [ev_var, ev_cst, ev_bin, ev_neg, ev_cmp, ev_chain', ev_and, ev_or, ev_not, ev_ite, ev_tup, ev_lst, ev_ix, ev_sl, ev_call, ev_bt, ev_mt, ev_isi, ev_lc, ev_nil, ev_cons, ev_onone, ev_osome, ev_cnone, ev_csome, ev_ie, ev_rng, ev_enu, asT, ex_asg, ex_asgS, ex_par, ex_aug, ex_ite, ex_whl, ex_for, ex_expr, ex_ret, ex_retN, ex_pass, ex_brk, ex_cont, ex_never, ex_nil, ex_cons', W_ok, W_bind, fin_ret, fin_next, chK_bl, sq_next, sq_ret, sq_brk, sq_cont, bnd_ok, b_add, b_sub, i_add, i_sub, c_lt, c_le, c_gt, c_ge, c_eq, c_ne, c_eqs, c_nes, c_eqb, t_bl, t_int, t_non, p_int, f_int, as_n, as_t2, as_t3, setMany, getL, List.getElem?_cons_zero, List.getElem?_cons_succ, List.set_cons_zero, List.set_cons_succ, wipeL, tl0, tl1, tl2, tl3, tl4, tl5, tl6, Bool.not_true, Bool.not_false, decide_eq_true_eq, if_true, if_false, ite_true, ite_false, eq_self, Bool.false_eq_true]
    refine (take_ok ht hd D2 (show (0 : Int) < 2 by decide)).mono fun v S3 q => ?_
    obtain ⟨d, rfl, hd0, hd1, D3, k3⟩ := q
    have hacc3 := k3 _ _ hne hacc
    have hr3 : ∀ (i : Nat) (r : List PV), rows[i]? = some r → ∃ x, acc[i]? = some x ∧ itemsOf S3 x = some r ∧ NotR (fun n => n ≠ sp) x := fun i r h => by
      obtain ⟨x, g1, g2, g3⟩ := hr2 i r h
      exact ⟨x, g1, items_kp k3 g3 g2, g3⟩
    try simp only [ev_var, ev_cst, ev_bin, ev_neg, ev_cmp, ev_chain', ev_and, ev_or, ev_not, ev_ite, ev_tup, ev_lst, ev_ix, ev_sl, ev_call, ev_bt, ev_mt, ev_isi, ev_lc, ev_nil, ev_cons, ev_onone, ev_osome, ev_cnone, ev_csome, ev_ie, ev_rng, ev_enu, asT, ex_asg, ex_asgS, ex_par, ex_aug, ex_ite, ex_whl, ex_for, ex_expr, ex_ret, ex_retN, ex_pass, ex_brk, ex_cont, ex_never, ex_nil, ex_cons', W_ok, W_bind, fin_ret, fin_next, chK_bl, sq_next, sq_ret, sq_brk, sq_cont, bnd_ok, b_add, b_sub, i_add, i_sub, c_lt, c_le, c_gt, c_ge, c_eq, c_ne, c_eqs, c_nes, c_eqb, t_bl, t_int, t_non, p_int, f_int, as_n, as_t2, as_t3, setMany, getL, List.getElem?_cons_zero, List.getElem?_cons_succ, List.set_cons_zero, List.set_cons_succ, wipeL, tl0, tl1, tl2, tl3, tl4, tl5, tl6, Bool.not_true, Bool.not_false, decide_eq_true_eq, if_true, if_false, ite_true, ite_false, eq_self, Bool.false_eq_true]
    by_cases h0 : d = 0
    · rw [if_pos h0]
      try simp only [ev_var, ev_cst, ev_bin, ev_neg, ev_cmp, ev_chain', ev_and, ev_or, ev_not, ev_ite, ev_tup, ev_lst, ev_ix, ev_sl, ev_call, ev_bt, ev_mt, ev_isi, ev_lc, ev_nil, ev_cons, ev_onone, ev_osome, ev_cnone, ev_csome, ev_ie, ev_rng, ev_enu, asT, ex_asg, ex_asgS, ex_par, ex_aug, ex_ite, ex_whl, ex_for, ex_expr, ex_ret, ex_retN, ex_pass, ex_brk, ex_cont, ex_never, ex_nil, ex_cons', W_ok, W_bind, fin_ret, fin_next, chK_bl, sq_next, sq_ret, sq_brk, sq_cont, bnd_ok, b_add, b_sub, i_add, i_sub, c_lt, c_le, c_gt, c_ge, c_eq, c_ne, c_eqs, c_nes, c_eqb, t_bl, t_int, t_non, p_int, f_int, as_n, as_t2, as_t3, setMany, getL, List.getElem?_cons_zero, List.getElem?_cons_succ, List.set_cons_zero, List.set_cons_succ, wipeL, tl0, tl1, tl2, tl3, tl4, tl5, tl6, Bool.not_true, Bool.not_false, decide_eq_true_eq, if_true, if_false, ite_true, ite_false, eq_self, Bool.false_eq_true]
      exact ⟨⟨acc, items_ref hacc3, hne, hal, hr3⟩, D3, k2.trans k3⟩
    · rw [if_neg h0]
      simp only [ev_var, ev_cst, ev_bin, ev_neg, ev_cmp, ev_chain', ev_and, ev_or, ev_not, ev_ite, ev_tup, ev_lst, ev_ix, ev_sl, ev_call, ev_bt, ev_mt, ev_isi, ev_lc, ev_nil, ev_cons, ev_onone, ev_osome, ev_cnone, ev_csome, ev_ie, ev_rng, ev_enu, asT, ex_asg, ex_asgS, ex_par, ex_aug, ex_ite, ex_whl, ex_for, ex_expr, ex_ret, ex_retN, ex_pass, ex_brk, ex_cont, ex_never, ex_nil, ex_cons', W_ok, W_bind, fin_ret, fin_next, chK_bl, sq_next, sq_ret, sq_brk, sq_cont, bnd_ok, b_add, b_sub, i_add, i_sub, c_lt, c_le, c_gt, c_ge, c_eq, c_ne, c_eqs, c_nes, c_eqb, t_bl, t_int, t_non, p_int, f_int, as_n, as_t2, as_t3, setMany, getL, List.getElem?_cons_zero, List.getElem?_cons_succ, List.set_cons_zero, List.set_cons_succ, wipeL, tl0, tl1, tl2, tl3, tl4, tl5, tl6, Bool.not_true, Bool.not_false, decide_eq_true_eq, if_true, if_false, ite_true, ite_false, eq_self, Bool.false_eq_true, f_tuple (items_ref hacc3)]
      exact ⟨⟨acc, rfl, trivial, hal, hr3⟩, D3, k2.trans k3⟩
end
end Mp

namespace Kk12
open PySem PySem.Spec PyProof.Rows L2 Mp
def top (i : Nat) : Stmt := PySem.Challenge.pw_tidings_k12_asking_whole_waits.main.body.getD i (.Pass ⟨0, 0, 0, 0⟩)
def G : Tab where
  fns := ([(("demand" : Str), ((0 : Nat), (["good", "at"] : List Str))), (("is_integer" : Str), ((1 : Nat), (["value"] : List Str))), (("is_within" : Str), ((2 : Nat), (["value", "low", "high"] : List Str))), (("is_sequence" : Str), ((3 : Nat), (["value"] : List Str))), (("is_row" : Str), ((4 : Nat), (["value", "low", "high"] : List Str))), (("is_second" : Str), ((5 : Nat), (["value"] : List Str))), (("is_number" : Str), ((6 : Nat), (["value"] : List Str))), (("are_rising" : Str), ((7 : Nat), (["values"] : List Str))), (("lowest" : Str), ((8 : Nat), (["above", "below"] : List Str))), (("number_of" : Str), ((9 : Nat), (["value"] : List Str))), (("is_answer" : Str), ((10 : Nat), (["value"] : List Str))), (("are_answers" : Str), ((11 : Nat), (["value"] : List Str))), (("demand_answers" : Str), ((12 : Nat), (["answers", "least", "most"] : List Str))), (("unchecked_waits" : Str), ((13 : Nat), (["answers", "least", "most"] : List Str))), (("after" : Str), ((14 : Nat), (["answers", "least", "most"] : List Str))), (("waits_of" : Str), ((15 : Nat), (["answers", "least", "most"] : List Str))), (("health" : Str), ((16 : Nat), (["answers"] : List Str))), (("are_seconds" : Str), ((17 : Nat), (["value"] : List Str))), (("twice_middle" : Str), ((18 : Nat), (["gaps"] : List Str))), (("silent" : Str), ((19 : Nat), (["seconds", "now", "times"] : List Str))), (("_law_so" : Str), ((20 : Nat), (["found", "meant"] : List Str))), (("_law_numbers" : Str), ((21 : Nat), (["script"] : List Str))), (("_law_draw" : Str), ((22 : Nat), (["row", "at", "limit"] : List Str))), (("_law_take" : Str), ((23 : Nat), (["row", "spot", "limit"] : List Str))), (("_law_listed" : Str), ((24 : Nat), (["thing"] : List Str))), (("_law_handed" : Str), ((25 : Nat), (["row", "spot", "thing"] : List Str))), (("_law_pick" : Str), ((26 : Nat), (["row", "spot", "things"] : List Str))), (("_law_gcd" : Str), ((27 : Nat), (["a", "b"] : List Str))), (("_law_q" : Str), ((28 : Nat), (["n", "d"] : List Str))), (("_law_mulq" : Str), ((29 : Nat), (["a", "b"] : List Str))), (("_law_cmp" : Str), ((30 : Nat), (["a", "b"] : List Str))), (("_law_given" : Str), ((31 : Nat), (["row", "spot", "v"] : List Str))), (("_law_hand_rows" : Str), ((32 : Nat), (["row", "spot", "rows"] : List Str))), (("_law_some_answers" : Str), ((33 : Nat), (["row", "spot", "most"] : List Str))), (("_law_waits" : Str), ((34 : Nat), (["answers", "low", "high"] : List Str))), (("law" : Str), ((35 : Nat), (["script"] : List Str)))] : List (Str × (Nat × List Str)))
  cts := [("LAST_SECOND", (.int (10000000000))), ("MOST_ANSWERS", (.int (40))), ("MOST_WAIT", (.int (1000000))), ("KINDS", (.tup [(.str [110, 101, 119]), (.str [115, 97, 109, 101]), (.str [102, 97, 105, 108]), (.str [103, 111, 110, 101])]))]
  bts := ["all", "bool", "int", "isinstance", "len", "list", "max", "min", "range", "sorted", "str", "tuple"]
  gcd := true
abbrev st_demand : Stmt := top 6
abbrev N_demand : List Str := ["good", "at"]
abbrev ps_demand : List Str := ["good", "at"]
abbrev st_is_integer : Stmt := top 7
abbrev N_is_integer : List Str := ["value"]
abbrev ps_is_integer : List Str := ["value"]
abbrev st_is_within : Stmt := top 8
abbrev N_is_within : List Str := ["value", "low", "high"]
abbrev ps_is_within : List Str := ["value", "low", "high"]
abbrev st_is_sequence : Stmt := top 9
abbrev N_is_sequence : List Str := ["value"]
abbrev ps_is_sequence : List Str := ["value"]
abbrev st_is_row : Stmt := top 10
abbrev N_is_row : List Str := ["value", "low", "high"]
abbrev ps_is_row : List Str := ["value", "low", "high"]
abbrev st_is_second : Stmt := top 11
abbrev N_is_second : List Str := ["value"]
abbrev ps_is_second : List Str := ["value"]
abbrev st_is_number : Stmt := top 12
abbrev N_is_number : List Str := ["value"]
abbrev ps_is_number : List Str := ["value"]
abbrev st_are_rising : Stmt := top 13
abbrev N_are_rising : List Str := ["values", "at"]
abbrev ps_are_rising : List Str := ["values"]
abbrev st_lowest : Stmt := top 15
abbrev N_lowest : List Str := ["above", "below", "common"]
abbrev ps_lowest : List Str := ["above", "below"]
abbrev st_number_of : Stmt := top 16
abbrev N_number_of : List Str := ["value"]
abbrev ps_number_of : List Str := ["value"]
abbrev st_is_answer : Stmt := top 21
abbrev N_is_answer : List Str := ["value"]
abbrev ps_is_answer : List Str := ["value"]
abbrev st_are_answers : Stmt := top 22
abbrev N_are_answers : List Str := ["value", "answer"]
abbrev ps_are_answers : List Str := ["value"]
abbrev st_demand_answers : Stmt := top 23
abbrev N_demand_answers : List Str := ["answers", "least", "most"]
abbrev ps_demand_answers : List Str := ["answers", "least", "most"]
abbrev st_unchecked_waits : Stmt := top 24
abbrev N_unchecked_waits : List Str := ["answers", "least", "most", "waits", "wait", "_", "kind"]
abbrev ps_unchecked_waits : List Str := ["answers", "least", "most"]
abbrev st_after : Stmt := top 25
abbrev N_after : List Str := ["answers", "least", "most", "waits", "second", "kind"]
abbrev ps_after : List Str := ["answers", "least", "most"]
abbrev st_waits_of : Stmt := top 26
abbrev N_waits_of : List Str := ["answers", "least", "most"]
abbrev ps_waits_of : List Str := ["answers", "least", "most"]
abbrev st_health : Stmt := top 27
abbrev N_health : List Str := ["answers", "kinds", "answer", "fresh", "kind", "heard", "fails"]
abbrev ps_health : List Str := ["answers"]
abbrev st_are_seconds : Stmt := top 28
abbrev N_are_seconds : List Str := ["value", "second"]
abbrev ps_are_seconds : List Str := ["value"]
abbrev st_twice_middle : Stmt := top 29
abbrev N_twice_middle : List Str := ["gaps", "ordered", "half"]
abbrev ps_twice_middle : List Str := ["gaps"]
abbrev st_silent : Stmt := top 30
abbrev N_silent : List Str := ["seconds", "now", "times", "factor", "gaps", "at"]
abbrev ps_silent : List Str := ["seconds", "now", "times"]
abbrev st__law_so : Stmt := top 32
abbrev N__law_so : List Str := ["found", "meant", "k"]
abbrev ps__law_so : List Str := ["found", "meant"]
abbrev st__law_numbers : Stmt := top 33
abbrev N__law_numbers : List Str := ["script", "row", "cell", "rest", "k", "stirred"]
abbrev ps__law_numbers : List Str := ["script"]
abbrev st__law_draw : Stmt := top 34
abbrev N__law_draw : List Str := ["row", "at", "limit", "stirred"]
abbrev ps__law_draw : List Str := ["row", "at", "limit"]
abbrev st__law_take : Stmt := top 35
abbrev N__law_take : List Str := ["row", "spot", "limit"]
abbrev ps__law_take : List Str := ["row", "spot", "limit"]
abbrev st__law_listed : Stmt := top 36
abbrev N__law_listed : List Str := ["thing", "one"]
abbrev ps__law_listed : List Str := ["thing"]
abbrev st__law_handed : Stmt := top 37
abbrev N__law_handed : List Str := ["row", "spot", "thing"]
abbrev ps__law_handed : List Str := ["row", "spot", "thing"]
abbrev st__law_pick : Stmt := top 38
abbrev N__law_pick : List Str := ["row", "spot", "things"]
abbrev ps__law_pick : List Str := ["row", "spot", "things"]
abbrev st__law_gcd : Stmt := top 39
abbrev N__law_gcd : List Str := ["a", "b", "k", "kept"]
abbrev ps__law_gcd : List Str := ["a", "b"]
abbrev st__law_q : Stmt := top 40
abbrev N__law_q : List Str := ["n", "d", "g"]
abbrev ps__law_q : List Str := ["n", "d"]
abbrev st__law_mulq : Stmt := top 41
abbrev N__law_mulq : List Str := ["a", "b"]
abbrev ps__law_mulq : List Str := ["a", "b"]
abbrev st__law_cmp : Stmt := top 42
abbrev N__law_cmp : List Str := ["a", "b", "d"]
abbrev ps__law_cmp : List Str := ["a", "b"]
abbrev st__law_given : Stmt := top 43
abbrev N__law_given : List Str := ["row", "spot", "v", "k", "made"]
abbrev ps__law_given : List Str := ["row", "spot", "v"]
abbrev st__law_hand_rows : Stmt := top 44
abbrev N__law_hand_rows : List Str := ["row", "spot", "rows", "made", "one"]
abbrev ps__law_hand_rows : List Str := ["row", "spot", "rows"]
abbrev st__law_some_answers : Stmt := top 45
abbrev N__law_some_answers : List Str := ["row", "spot", "most", "made", "now", "k", "kind"]
abbrev ps__law_some_answers : List Str := ["row", "spot", "most"]
abbrev st__law_waits : Stmt := top 46
abbrev N__law_waits : List Str := ["answers", "low", "high", "wait", "made", "m", "kind"]
abbrev ps__law_waits : List Str := ["answers", "low", "high"]
abbrev st_law : Stmt := top 47
abbrev N_law : List Str := ["script", "row", "spot", "answers", "low", "high", "waits_here", "handed", "meant", "m", "kind", "a", "b", "bad", "k", "marks", "gaps_here", "n", "mid", "now", "f"]
abbrev ps_law : List Str := ["script"]
def B_demand : Ts := Ts.cons (T.ite (E.not (E.var 0)) (Ts.cons (T.never) (Ts.nil)) (Ts.nil)) (Ts.nil)
def B_is_integer : Ts := Ts.cons (T.ret (E.and (E.isi (E.var 0) [Ty.int]) (E.not (E.isi (E.var 0) [Ty.bool])))) (Ts.nil)
def B_is_within : Ts := Ts.cons (T.ret (E.and (E.call 1 (Es.cons (E.var 0) (Es.nil))) (E.chain (PySem.CmpOp.LtE) (PySem.CmpOp.LtE) (E.var 1) (E.var 0) (E.var 2)))) (Ts.nil)
def B_is_sequence : Ts := Ts.cons (T.ret (E.isi (E.var 0) [Ty.list, Ty.tuple])) (Ts.nil)
def B_is_row : Ts := Ts.cons (T.ret (E.and (E.call 3 (Es.cons (E.var 0) (Es.nil))) (E.chain (PySem.CmpOp.LtE) (PySem.CmpOp.LtE) (E.var 1) (E.bt (Bt.len) (Es.cons (E.var 0) (Es.nil))) (E.var 2)))) (Ts.nil)
def B_is_second : Ts := Ts.cons (T.ret (E.call 2 (Es.cons (E.var 0) (Es.cons (E.cst (PV.int 0)) (Es.cons (E.cst (PV.int 10000000000)) (Es.nil)))))) (Ts.nil)
def B_is_number : Ts := Ts.cons (T.ite (E.call 1 (Es.cons (E.var 0) (Es.nil))) (Ts.cons (T.ret (E.cst (PV.bl true))) (Ts.nil)) (Ts.nil)) (Ts.cons (T.ret (E.and (E.call 4 (Es.cons (E.var 0) (Es.cons (E.cst (PV.int 2)) (Es.cons (E.cst (PV.int 2)) (Es.nil))))) (E.and (E.call 1 (Es.cons (E.ix (E.var 0) (E.cst (PV.int 0))) (Es.nil))) (E.and (E.call 1 (Es.cons (E.ix (E.var 0) (E.cst (PV.int 1))) (Es.nil))) (E.cmp (PySem.CmpOp.GtE) (E.ix (E.var 0) (E.cst (PV.int 1))) (E.cst (PV.int 1))))))) (Ts.nil))
def B_are_rising : Ts := Ts.cons (T.ret (E.bt (Bt.all) (Es.cons (E.lc [1] (It.rng (Es.cons (E.bin (PySem.Operator.Sub) (E.bt (Bt.len) (Es.cons (E.var 0) (Es.nil))) (E.cst (PV.int 1))) (Es.nil))) (Pt.name 1) (Oe.none) (E.cmp (PySem.CmpOp.Lt) (E.ix (E.var 0) (E.var 1)) (E.ix (E.var 0) (E.bin (PySem.Operator.Add) (E.var 1) (E.cst (PV.int 1)))))) (Es.nil)))) (Ts.nil)
def B_lowest : Ts := Ts.cons (T.asg (Tg.pat (Pt.name 2)) (E.bt (Bt.gcd) (Es.cons (E.var 0) (Es.cons (E.var 1) (Es.nil))))) (Ts.cons (T.ret (E.tup (Es.cons (E.bin (PySem.Operator.FloorDiv) (E.var 0) (E.var 2)) (Es.cons (E.bin (PySem.Operator.FloorDiv) (E.var 1) (E.var 2)) (Es.nil))))) (Ts.nil))
def B_number_of : Ts := Ts.cons (T.ite (E.isi (E.var 0) [Ty.int]) (Ts.cons (T.ret (E.tup (Es.cons (E.var 0) (Es.cons (E.cst (PV.int 1)) (Es.nil))))) (Ts.nil)) (Ts.nil)) (Ts.cons (T.ret (E.call 8 (Es.cons (E.ix (E.var 0) (E.cst (PV.int 0))) (Es.cons (E.ix (E.var 0) (E.cst (PV.int 1))) (Es.nil))))) (Ts.nil))
def B_is_answer : Ts := Ts.cons (T.ite (E.or (E.not (E.call 4 (Es.cons (E.var 0) (Es.cons (E.cst (PV.int 2)) (Es.cons (E.cst (PV.int 2)) (Es.nil)))))) (E.not (E.call 5 (Es.cons (E.ix (E.var 0) (E.cst (PV.int 0))) (Es.nil))))) (Ts.cons (T.ret (E.cst (PV.bl false))) (Ts.nil)) (Ts.nil)) (Ts.cons (T.ret (E.or (E.cmp (PySem.CmpOp.In) (E.ix (E.var 0) (E.cst (PV.int 1))) (E.cst (PV.tup [PV.str [110, 101, 119], PV.str [115, 97, 109, 101], PV.str [102, 97, 105, 108], PV.str [103, 111, 110, 101]]))) (E.call 2 (Es.cons (E.ix (E.var 0) (E.cst (PV.int 1))) (Es.cons (E.cst (PV.int 1)) (Es.cons (E.cst (PV.int 1000000)) (Es.nil))))))) (Ts.nil))
def B_are_answers : Ts := Ts.cons (T.ite (E.or (E.not (E.call 4 (Es.cons (E.var 0) (Es.cons (E.cst (PV.int 0)) (Es.cons (E.cst (PV.int 40)) (Es.nil)))))) (E.not (E.bt (Bt.all) (Es.cons (E.lc [1] (It.e (E.var 0)) (Pt.name 1) (Oe.none) (E.call 10 (Es.cons (E.var 1) (Es.nil)))) (Es.nil))))) (Ts.cons (T.ret (E.cst (PV.bl false))) (Ts.nil)) (Ts.nil)) (Ts.cons (T.ret (E.call 7 (Es.cons (E.lc [1] (It.e (E.var 0)) (Pt.name 1) (Oe.none) (E.ix (E.var 1) (E.cst (PV.int 0)))) (Es.nil)))) (Ts.nil))
def B_demand_answers : Ts := Ts.cons (T.expr (E.call 0 (Es.cons (E.call 11 (Es.cons (E.var 0) (Es.nil))) (Es.cons (E.cst (PV.int 0)) (Es.nil))))) (Ts.cons (T.expr (E.call 0 (Es.cons (E.call 2 (Es.cons (E.var 1) (Es.cons (E.cst (PV.int 1)) (Es.cons (E.cst (PV.int 1000000)) (Es.nil))))) (Es.cons (E.cst (PV.int 1)) (Es.nil))))) (Ts.cons (T.expr (E.call 0 (Es.cons (E.and (E.call 2 (Es.cons (E.var 2) (Es.cons (E.cst (PV.int 1)) (Es.cons (E.cst (PV.int 1000000)) (Es.nil))))) (E.cmp (PySem.CmpOp.GtE) (E.var 2) (E.var 1))) (Es.cons (E.cst (PV.int 2)) (Es.nil))))) (Ts.nil)))
def B_unchecked_waits : Ts := Ts.cons (T.asg (Tg.pat (Pt.name 3)) (E.lst (Es.nil))) (Ts.cons (T.asg (Tg.pat (Pt.name 4)) (E.var 1)) (Ts.cons (T.frr (It.e (E.var 0)) (Tg.pat (Pt.tup (Pt.cons (Pt.name 5) (Pt.cons (Pt.name 6) (Pt.nil))))) (Ts.cons (T.ite (E.cmp (PySem.CmpOp.Eq) (E.var 6) (E.cst (PV.str [103, 111, 110, 101]))) (Ts.cons (T.brk) (Ts.nil)) (Ts.nil)) (Ts.cons (T.ite (E.cmp (PySem.CmpOp.Eq) (E.var 6) (E.cst (PV.str [110, 101, 119]))) (Ts.cons (T.asg (Tg.pat (Pt.name 4)) (E.bt (Bt.max) (Es.cons (E.var 1) (Es.cons (E.bin (PySem.Operator.FloorDiv) (E.var 4) (E.cst (PV.int 2))) (Es.nil))))) (Ts.nil)) (Ts.cons (T.ite (E.cmp (PySem.CmpOp.Eq) (E.var 6) (E.cst (PV.str [115, 97, 109, 101]))) (Ts.cons (T.asg (Tg.pat (Pt.name 4)) (E.bt (Bt.min) (Es.cons (E.var 2) (Es.cons (E.bin (PySem.Operator.Mult) (E.var 4) (E.cst (PV.int 2))) (Es.nil))))) (Ts.nil)) (Ts.cons (T.ite (E.cmp (PySem.CmpOp.Eq) (E.var 6) (E.cst (PV.str [102, 97, 105, 108]))) (Ts.cons (T.asg (Tg.pat (Pt.name 4)) (E.bt (Bt.min) (Es.cons (E.var 2) (Es.cons (E.bin (PySem.Operator.Mult) (E.var 4) (E.cst (PV.int 4))) (Es.nil))))) (Ts.nil)) (Ts.nil)) (Ts.nil))) (Ts.nil))) (Ts.cons (T.expr (E.mt (Mt.append) (E.var 3) (Es.cons (E.var 4) (Es.nil)))) (Ts.nil))))) (Ts.cons (T.ret (E.var 3)) (Ts.nil))))
def B_after : Ts := Ts.cons (T.expr (E.call 12 (Es.cons (E.var 0) (Es.cons (E.var 1) (Es.cons (E.var 2) (Es.nil)))))) (Ts.cons (T.ite (E.cmp (PySem.CmpOp.Eq) (E.bt (Bt.len) (Es.cons (E.var 0) (Es.nil))) (E.cst (PV.int 0))) (Ts.cons (T.ret (E.cst (PV.int 0))) (Ts.nil)) (Ts.nil)) (Ts.cons (T.asg (Tg.pat (Pt.name 3)) (E.call 13 (Es.cons (E.var 0) (Es.cons (E.var 1) (Es.cons (E.var 2) (Es.nil)))))) (Ts.cons (T.ite (E.cmp (PySem.CmpOp.Lt) (E.bt (Bt.len) (Es.cons (E.var 3) (Es.nil))) (E.bt (Bt.len) (Es.cons (E.var 0) (Es.nil)))) (Ts.cons (T.ret (E.cst (PV.non))) (Ts.nil)) (Ts.nil)) (Ts.cons (T.asg (Tg.pat (Pt.tup (Pt.cons (Pt.name 4) (Pt.cons (Pt.name 5) (Pt.nil))))) (E.ix (E.var 0) (E.neg (E.cst (PV.int 1))))) (Ts.cons (T.ite (E.call 1 (Es.cons (E.var 5) (Es.nil))) (Ts.cons (T.ret (E.bin (PySem.Operator.Add) (E.var 4) (E.bt (Bt.max) (Es.cons (E.var 5) (Es.cons (E.ix (E.var 3) (E.neg (E.cst (PV.int 1)))) (Es.nil)))))) (Ts.nil)) (Ts.nil)) (Ts.cons (T.ret (E.bin (PySem.Operator.Add) (E.var 4) (E.ix (E.var 3) (E.neg (E.cst (PV.int 1)))))) (Ts.nil)))))))
def B_waits_of : Ts := Ts.cons (T.expr (E.call 12 (Es.cons (E.var 0) (Es.cons (E.var 1) (Es.cons (E.var 2) (Es.nil)))))) (Ts.cons (T.ret (E.bt (Bt.tuple) (Es.cons (E.call 13 (Es.cons (E.var 0) (Es.cons (E.var 1) (Es.cons (E.var 2) (Es.nil))))) (Es.nil)))) (Ts.nil))
def B_health : Ts := Ts.cons (T.expr (E.call 0 (Es.cons (E.call 11 (Es.cons (E.var 0) (Es.nil))) (Es.cons (E.cst (PV.int 0)) (Es.nil))))) (Ts.cons (T.asg (Tg.pat (Pt.name 1)) (E.lc [2] (It.e (E.var 0)) (Pt.name 2) (Oe.none) (E.ix (E.var 2) (E.cst (PV.int 1))))) (Ts.cons (T.asg (Tg.pat (Pt.name 3)) (E.bt (Bt.len) (Es.cons (E.lc [4] (It.e (E.var 1)) (Pt.name 4) (Oe.some (E.cmp (PySem.CmpOp.Eq) (E.var 4) (E.cst (PV.str [110, 101, 119])))) (E.var 4)) (Es.nil)))) (Ts.cons (T.asg (Tg.pat (Pt.name 5)) (E.bt (Bt.len) (Es.cons (E.lc [4] (It.e (E.var 1)) (Pt.name 4) (Oe.some (E.cmp (PySem.CmpOp.In) (E.var 4) (E.tup (Es.cons (E.cst (PV.str [110, 101, 119])) (Es.cons (E.cst (PV.str [115, 97, 109, 101])) (Es.nil)))))) (E.var 4)) (Es.nil)))) (Ts.cons (T.asg (Tg.pat (Pt.name 6)) (E.cst (PV.int 0))) (Ts.cons (T.whl (E.and (E.cmp (PySem.CmpOp.Lt) (E.var 6) (E.bt (Bt.len) (Es.cons (E.var 1) (Es.nil)))) (E.cmp (PySem.CmpOp.Eq) (E.ix (E.var 1) (E.bin (PySem.Operator.Sub) (E.bin (PySem.Operator.Sub) (E.bt (Bt.len) (Es.cons (E.var 1) (Es.nil))) (E.cst (PV.int 1))) (E.var 6))) (E.cst (PV.str [102, 97, 105, 108])))) (Ts.cons (T.aug 6 (PySem.Operator.Add) (E.cst (PV.int 1))) (Ts.nil))) (Ts.cons (T.ite (E.cmp (PySem.CmpOp.Eq) (E.var 5) (E.cst (PV.int 0))) (Ts.cons (T.ret (E.tup (Es.cons (E.cst (PV.non)) (Es.cons (E.var 6) (Es.nil))))) (Ts.nil)) (Ts.nil)) (Ts.cons (T.ret (E.tup (Es.cons (E.call 8 (Es.cons (E.var 3) (Es.cons (E.var 5) (Es.nil)))) (Es.cons (E.var 6) (Es.nil))))) (Ts.nil))))))))
def B_are_seconds : Ts := Ts.cons (T.ret (E.and (E.call 4 (Es.cons (E.var 0) (Es.cons (E.cst (PV.int 2)) (Es.cons (E.cst (PV.int 50)) (Es.nil))))) (E.and (E.bt (Bt.all) (Es.cons (E.lc [1] (It.e (E.var 0)) (Pt.name 1) (Oe.none) (E.call 5 (Es.cons (E.var 1) (Es.nil)))) (Es.nil))) (E.call 7 (Es.cons (E.var 0) (Es.nil)))))) (Ts.nil)
def B_twice_middle : Ts := Ts.cons (T.asg (Tg.pat (Pt.name 1)) (E.bt (Bt.sorted) (Es.cons (E.var 0) (Es.nil)))) (Ts.cons (T.asg (Tg.pat (Pt.name 2)) (E.bin (PySem.Operator.FloorDiv) (E.bt (Bt.len) (Es.cons (E.var 1) (Es.nil))) (E.cst (PV.int 2)))) (Ts.cons (T.ite (E.cmp (PySem.CmpOp.Eq) (E.bin (PySem.Operator.Mod) (E.bt (Bt.len) (Es.cons (E.var 1) (Es.nil))) (E.cst (PV.int 2))) (E.cst (PV.int 1))) (Ts.cons (T.ret (E.bin (PySem.Operator.Mult) (E.cst (PV.int 2)) (E.ix (E.var 1) (E.var 2)))) (Ts.nil)) (Ts.nil)) (Ts.cons (T.ret (E.bin (PySem.Operator.Add) (E.ix (E.var 1) (E.bin (PySem.Operator.Sub) (E.var 2) (E.cst (PV.int 1)))) (E.ix (E.var 1) (E.var 2)))) (Ts.nil))))
def B_silent : Ts := Ts.cons (T.expr (E.call 0 (Es.cons (E.call 17 (Es.cons (E.var 0) (Es.nil))) (Es.cons (E.cst (PV.int 0)) (Es.nil))))) (Ts.cons (T.expr (E.call 0 (Es.cons (E.and (E.call 5 (Es.cons (E.var 1) (Es.nil))) (E.cmp (PySem.CmpOp.GtE) (E.var 1) (E.ix (E.var 0) (E.neg (E.cst (PV.int 1)))))) (Es.cons (E.cst (PV.int 1)) (Es.nil))))) (Ts.cons (T.expr (E.call 0 (Es.cons (E.and (E.call 6 (Es.cons (E.var 2) (Es.nil))) (E.cmp (PySem.CmpOp.Gt) (E.ix (E.call 9 (Es.cons (E.var 2) (Es.nil))) (E.cst (PV.int 0))) (E.cst (PV.int 0)))) (Es.cons (E.cst (PV.int 2)) (Es.nil))))) (Ts.cons (T.asg (Tg.pat (Pt.name 3)) (E.call 9 (Es.cons (E.var 2) (Es.nil)))) (Ts.cons (T.asg (Tg.pat (Pt.name 4)) (E.lc [5] (It.rng (Es.cons (E.bin (PySem.Operator.Sub) (E.bt (Bt.len) (Es.cons (E.var 0) (Es.nil))) (E.cst (PV.int 1))) (Es.nil))) (Pt.name 5) (Oe.none) (E.bin (PySem.Operator.Sub) (E.ix (E.var 0) (E.bin (PySem.Operator.Add) (E.var 5) (E.cst (PV.int 1)))) (E.ix (E.var 0) (E.var 5))))) (Ts.cons (T.ret (E.cmp (PySem.CmpOp.Gt) (E.bin (PySem.Operator.Mult) (E.bin (PySem.Operator.Mult) (E.bin (PySem.Operator.Sub) (E.var 1) (E.ix (E.var 0) (E.neg (E.cst (PV.int 1))))) (E.cst (PV.int 2))) (E.ix (E.var 3) (E.cst (PV.int 1)))) (E.bin (PySem.Operator.Mult) (E.ix (E.var 3) (E.cst (PV.int 0))) (E.call 18 (Es.cons (E.var 4) (Es.nil)))))) (Ts.nil))))))
def B__law_so : Ts := Ts.cons (T.ite (E.cmp (PySem.CmpOp.Is) (E.var 1) (E.cst (PV.non))) (Ts.cons (T.ret (E.cmp (PySem.CmpOp.Is) (E.var 0) (E.cst (PV.non)))) (Ts.nil)) (Ts.nil)) (Ts.cons (T.ite (E.isi (E.var 1) [Ty.tuple]) (Ts.cons (T.ite (E.or (E.not (E.isi (E.var 0) [Ty.tuple])) (E.cmp (PySem.CmpOp.NotEq) (E.bt (Bt.len) (Es.cons (E.var 0) (Es.nil))) (E.bt (Bt.len) (Es.cons (E.var 1) (Es.nil))))) (Ts.cons (T.ret (E.cst (PV.bl false))) (Ts.nil)) (Ts.nil)) (Ts.cons (T.frr (It.rng (Es.cons (E.bt (Bt.len) (Es.cons (E.var 1) (Es.nil))) (Es.nil))) (Tg.pat (Pt.name 2)) (Ts.cons (T.ite (E.not (E.call 20 (Es.cons (E.ix (E.var 0) (E.var 2)) (Es.cons (E.ix (E.var 1) (E.var 2)) (Es.nil))))) (Ts.cons (T.ret (E.cst (PV.bl false))) (Ts.nil)) (Ts.nil)) (Ts.nil))) (Ts.cons (T.ret (E.cst (PV.bl true))) (Ts.nil)))) (Ts.nil)) (Ts.cons (T.ite (E.or (E.isi (E.var 1) [Ty.bool]) (E.isi (E.var 0) [Ty.bool])) (Ts.cons (T.ret (E.and (E.isi (E.var 1) [Ty.bool]) (E.and (E.isi (E.var 0) [Ty.bool]) (E.cmp (PySem.CmpOp.Eq) (E.var 0) (E.var 1))))) (Ts.nil)) (Ts.nil)) (Ts.cons (T.ite (E.isi (E.var 1) [Ty.int]) (Ts.cons (T.ret (E.and (E.isi (E.var 0) [Ty.int]) (E.cmp (PySem.CmpOp.Eq) (E.var 0) (E.var 1)))) (Ts.nil)) (Ts.nil)) (Ts.cons (T.ret (E.and (E.isi (E.var 1) [Ty.str]) (E.and (E.isi (E.var 0) [Ty.str]) (E.cmp (PySem.CmpOp.Eq) (E.var 0) (E.var 1))))) (Ts.nil)))))
def B__law_numbers : Ts := Ts.cons (T.asg (Tg.pat (Pt.name 1)) (E.lst (Es.nil))) (Ts.cons (T.frr (It.e (E.sl (E.var 0) (Oe.none) (Oe.some (E.cst (PV.int 63))))) (Tg.pat (Pt.name 2)) (Ts.cons (T.ite (E.cmp (PySem.CmpOp.GtE) (E.var 2) (E.bin (PySem.Operator.Pow) (E.cst (PV.int 10)) (E.cst (PV.int 18)))) (Ts.cons (T.asg (Tg.pat (Pt.name 3)) (E.var 2)) (Ts.cons (T.frr (It.rng (Es.cons (E.cst (PV.int 60)) (Es.nil))) (Tg.pat (Pt.name 4)) (Ts.cons (T.ite (E.cmp (PySem.CmpOp.Eq) (E.var 3) (E.cst (PV.int 0))) (Ts.cons (T.brk) (Ts.nil)) (Ts.nil)) (Ts.cons (T.expr (E.mt (Mt.append) (E.var 1) (Es.cons (E.bin (PySem.Operator.Mod) (E.bt (Bt.int) (Es.cons (E.var 3) (Es.nil))) (E.cst (PV.int 997))) (Es.nil)))) (Ts.cons (T.asg (Tg.pat (Pt.name 3)) (E.bin (PySem.Operator.FloorDiv) (E.var 3) (E.cst (PV.int 997)))) (Ts.nil))))) (Ts.nil))) (Ts.cons (T.frr (It.rng (Es.cons (E.cst (PV.int 4)) (Es.nil))) (Tg.pat (Pt.name 4)) (Ts.cons (T.asg (Tg.pat (Pt.name 5)) (E.bin (PySem.Operator.Mod) (E.bt (Bt.int) (Es.cons (E.bin (PySem.Operator.Add) (E.bin (PySem.Operator.Add) (E.bin (PySem.Operator.Mult) (E.var 2) (E.cst (PV.int 48271))) (E.bin (PySem.Operator.Mult) (E.var 4) (E.cst (PV.int 69621)))) (E.cst (PV.int 11))) (Es.nil))) (E.cst (PV.int 2147483647)))) (Ts.cons (T.expr (E.mt (Mt.append) (E.var 1) (Es.cons (E.bin (PySem.Operator.Mod) (E.bt (Bt.int) (Es.cons (E.bin (PySem.Operator.Add) (E.bin (PySem.Operator.Mult) (E.var 5) (E.cst (PV.int 16807))) (E.var 4)) (Es.nil))) (E.cst (PV.int 2147483629))) (Es.nil)))) (Ts.nil)))) (Ts.nil))) (Ts.nil))) (Ts.cons (T.ite (E.cmp (PySem.CmpOp.Eq) (E.bt (Bt.len) (Es.cons (E.var 1) (Es.nil))) (E.cst (PV.int 0))) (Ts.cons (T.expr (E.mt (Mt.append) (E.var 1) (Es.cons (E.cst (PV.int 0)) (Es.nil)))) (Ts.nil)) (Ts.nil)) (Ts.cons (T.ret (E.var 1)) (Ts.nil))))
def B__law_draw : Ts := Ts.cons (T.ite (E.cmp (PySem.CmpOp.Lt) (E.var 1) (E.bt (Bt.len) (Es.cons (E.var 0) (Es.nil)))) (Ts.cons (T.ret (E.bin (PySem.Operator.Mod) (E.bt (Bt.int) (Es.cons (E.ix (E.var 0) (E.var 1)) (Es.nil))) (E.var 2))) (Ts.nil)) (Ts.nil)) (Ts.cons (T.asg (Tg.pat (Pt.name 3)) (E.bin (PySem.Operator.Mod) (E.bt (Bt.int) (Es.cons (E.bin (PySem.Operator.Add) (E.bin (PySem.Operator.Add) (E.bin (PySem.Operator.Mult) (E.ix (E.var 0) (E.bin (PySem.Operator.Mod) (E.bt (Bt.int) (Es.cons (E.var 1) (Es.nil))) (E.bt (Bt.len) (Es.cons (E.var 0) (Es.nil))))) (E.cst (PV.int 40692))) (E.bin (PySem.Operator.Mult) (E.var 1) (E.cst (PV.int 7919)))) (E.cst (PV.int 3))) (Es.nil))) (E.cst (PV.int 2147483399)))) (Ts.cons (T.ret (E.bin (PySem.Operator.Mod) (E.bt (Bt.int) (Es.cons (E.bin (PySem.Operator.Mod) (E.bt (Bt.int) (Es.cons (E.bin (PySem.Operator.Add) (E.bin (PySem.Operator.Mult) (E.var 3) (E.cst (PV.int 48271))) (E.var 1)) (Es.nil))) (E.cst (PV.int 2147483647))) (Es.nil))) (E.var 2))) (Ts.nil)))
def B__law_take : Ts := Ts.cons (T.asg (Tg.sub (E.var 1) (E.cst (PV.int 0))) (E.bin (PySem.Operator.Add) (E.ix (E.var 1) (E.cst (PV.int 0))) (E.cst (PV.int 1)))) (Ts.cons (T.ret (E.call 22 (Es.cons (E.var 0) (Es.cons (E.bin (PySem.Operator.Sub) (E.ix (E.var 1) (E.cst (PV.int 0))) (E.cst (PV.int 1))) (Es.cons (E.var 2) (Es.nil)))))) (Ts.nil))
def B__law_listed : Ts := Ts.cons (T.ite (E.isi (E.var 0) [Ty.tuple]) (Ts.cons (T.ret (E.lc [1] (It.e (E.var 0)) (Pt.name 1) (Oe.none) (E.call 24 (Es.cons (E.var 1) (Es.nil))))) (Ts.nil)) (Ts.nil)) (Ts.cons (T.ret (E.var 0)) (Ts.nil))
def B__law_handed : Ts := Ts.cons (T.ret (E.ite (E.cmp (PySem.CmpOp.Eq) (E.call 23 (Es.cons (E.var 0) (Es.cons (E.var 1) (Es.cons (E.cst (PV.int 2)) (Es.nil))))) (E.cst (PV.int 0))) (E.call 24 (Es.cons (E.var 2) (Es.nil))) (E.var 2))) (Ts.nil)
def B__law_pick : Ts := Ts.cons (T.ret (E.ix (E.var 2) (E.call 23 (Es.cons (E.var 0) (Es.cons (E.var 1) (Es.cons (E.bt (Bt.len) (Es.cons (E.var 2) (Es.nil))) (Es.nil))))))) (Ts.nil)
def B__law_gcd : Ts := Ts.cons (T.asg (Tg.pat (Pt.name 0)) (E.ite (E.cmp (PySem.CmpOp.GtE) (E.var 0) (E.cst (PV.int 0))) (E.var 0) (E.neg (E.var 0)))) (Ts.cons (T.asg (Tg.pat (Pt.name 1)) (E.ite (E.cmp (PySem.CmpOp.GtE) (E.var 1) (E.cst (PV.int 0))) (E.var 1) (E.neg (E.var 1)))) (Ts.cons (T.frr (It.rng (Es.cons (E.cst (PV.int 4000)) (Es.nil))) (Tg.pat (Pt.name 2)) (Ts.cons (T.ite (E.cmp (PySem.CmpOp.Eq) (E.var 1) (E.cst (PV.int 0))) (Ts.cons (T.brk) (Ts.nil)) (Ts.nil)) (Ts.cons (T.asg (Tg.pat (Pt.name 3)) (E.bin (PySem.Operator.Mod) (E.bt (Bt.int) (Es.cons (E.var 0) (Es.nil))) (E.var 1))) (Ts.cons (T.asg (Tg.pat (Pt.name 0)) (E.var 1)) (Ts.cons (T.asg (Tg.pat (Pt.name 1)) (E.var 3)) (Ts.nil)))))) (Ts.cons (T.ret (E.var 0)) (Ts.nil))))
def B__law_q : Ts := Ts.cons (T.ite (E.cmp (PySem.CmpOp.Lt) (E.var 1) (E.cst (PV.int 0))) (Ts.cons (T.asg (Tg.pat (Pt.name 0)) (E.neg (E.var 0))) (Ts.cons (T.asg (Tg.pat (Pt.name 1)) (E.neg (E.var 1))) (Ts.nil))) (Ts.nil)) (Ts.cons (T.asg (Tg.pat (Pt.name 2)) (E.call 27 (Es.cons (E.var 0) (Es.cons (E.var 1) (Es.nil))))) (Ts.cons (T.ret (E.ite (E.cmp (PySem.CmpOp.Gt) (E.var 2) (E.cst (PV.int 1))) (E.tup (Es.cons (E.bin (PySem.Operator.FloorDiv) (E.var 0) (E.var 2)) (Es.cons (E.bin (PySem.Operator.FloorDiv) (E.var 1) (E.var 2)) (Es.nil)))) (E.tup (Es.cons (E.var 0) (Es.cons (E.var 1) (Es.nil)))))) (Ts.nil)))
def B__law_mulq : Ts := Ts.cons (T.ret (E.call 28 (Es.cons (E.bin (PySem.Operator.Mult) (E.ix (E.var 0) (E.cst (PV.int 0))) (E.ix (E.var 1) (E.cst (PV.int 0)))) (Es.cons (E.bin (PySem.Operator.Mult) (E.ix (E.var 0) (E.cst (PV.int 1))) (E.ix (E.var 1) (E.cst (PV.int 1)))) (Es.nil))))) (Ts.nil)
def B__law_cmp : Ts := Ts.cons (T.ite (E.or (E.cmp (PySem.CmpOp.Is) (E.var 0) (E.cst (PV.non))) (E.cmp (PySem.CmpOp.Is) (E.var 1) (E.cst (PV.non)))) (Ts.cons (T.ret (E.bin (PySem.Operator.Sub) (E.ite (E.cmp (PySem.CmpOp.Is) (E.var 0) (E.cst (PV.non))) (E.cst (PV.int 1)) (E.cst (PV.int 0))) (E.ite (E.cmp (PySem.CmpOp.Is) (E.var 1) (E.cst (PV.non))) (E.cst (PV.int 1)) (E.cst (PV.int 0))))) (Ts.nil)) (Ts.nil)) (Ts.cons (T.asg (Tg.pat (Pt.name 2)) (E.bin (PySem.Operator.Sub) (E.bin (PySem.Operator.Mult) (E.ix (E.var 0) (E.cst (PV.int 0))) (E.ix (E.var 1) (E.cst (PV.int 1)))) (E.bin (PySem.Operator.Mult) (E.ix (E.var 1) (E.cst (PV.int 0))) (E.ix (E.var 0) (E.cst (PV.int 1)))))) (Ts.cons (T.ret (E.ite (E.cmp (PySem.CmpOp.Gt) (E.var 2) (E.cst (PV.int 0))) (E.cst (PV.int 1)) (E.ite (E.cmp (PySem.CmpOp.Lt) (E.var 2) (E.cst (PV.int 0))) (E.neg (E.cst (PV.int 1))) (E.cst (PV.int 0))))) (Ts.nil)))
def B__law_given : Ts := Ts.cons (T.ite (E.cmp (PySem.CmpOp.Is) (E.var 2) (E.cst (PV.non))) (Ts.cons (T.ret (E.cst (PV.non))) (Ts.nil)) (Ts.nil)) (Ts.cons (T.ite (E.and (E.cmp (PySem.CmpOp.Eq) (E.ix (E.var 2) (E.cst (PV.int 1))) (E.cst (PV.int 1))) (E.cmp (PySem.CmpOp.Eq) (E.call 23 (Es.cons (E.var 0) (Es.cons (E.var 1) (Es.cons (E.cst (PV.int 2)) (Es.nil))))) (E.cst (PV.int 0)))) (Ts.cons (T.ret (E.ix (E.var 2) (E.cst (PV.int 0)))) (Ts.nil)) (Ts.nil)) (Ts.cons (T.asg (Tg.pat (Pt.name 3)) (E.bin (PySem.Operator.Add) (E.cst (PV.int 1)) (E.ite (E.cmp (PySem.CmpOp.Eq) (E.call 23 (Es.cons (E.var 0) (Es.cons (E.var 1) (Es.cons (E.cst (PV.int 4)) (Es.nil))))) (E.cst (PV.int 0))) (E.call 23 (Es.cons (E.var 0) (Es.cons (E.var 1) (Es.cons (E.cst (PV.int 3)) (Es.nil))))) (E.cst (PV.int 0))))) (Ts.cons (T.asg (Tg.pat (Pt.name 4)) (E.tup (Es.cons (E.bin (PySem.Operator.Mult) (E.ix (E.var 2) (E.cst (PV.int 0))) (E.var 3)) (Es.cons (E.bin (PySem.Operator.Mult) (E.ix (E.var 2) (E.cst (PV.int 1))) (E.var 3)) (Es.nil))))) (Ts.cons (T.ret (E.ite (E.cmp (PySem.CmpOp.Eq) (E.call 23 (Es.cons (E.var 0) (Es.cons (E.var 1) (Es.cons (E.cst (PV.int 3)) (Es.nil))))) (E.cst (PV.int 0))) (E.lst (Es.cons (E.ix (E.var 4) (E.cst (PV.int 0))) (Es.cons (E.ix (E.var 4) (E.cst (PV.int 1))) (Es.nil)))) (E.var 4))) (Ts.nil)))))
def B__law_hand_rows : Ts := Ts.cons (T.asg (Tg.pat (Pt.name 3)) (E.lc [4] (It.e (E.var 2)) (Pt.name 4) (Oe.none) (E.ite (E.cmp (PySem.CmpOp.Eq) (E.call 23 (Es.cons (E.var 0) (Es.cons (E.var 1) (Es.cons (E.cst (PV.int 3)) (Es.nil))))) (E.cst (PV.int 0))) (E.bt (Bt.list) (Es.cons (E.var 4) (Es.nil))) (E.var 4)))) (Ts.cons (T.ret (E.ite (E.cmp (PySem.CmpOp.Eq) (E.call 23 (Es.cons (E.var 0) (Es.cons (E.var 1) (Es.cons (E.cst (PV.int 2)) (Es.nil))))) (E.cst (PV.int 0))) (E.var 3) (E.bt (Bt.tuple) (Es.cons (E.var 3) (Es.nil))))) (Ts.nil))
def B__law_some_answers : Ts := Ts.cons (T.par [3, 4] (Es.cons (E.lst (Es.nil)) (Es.cons (E.call 23 (Es.cons (E.var 0) (Es.cons (E.var 1) (Es.cons (E.cst (PV.int 20)) (Es.nil))))) (Es.nil)))) (Ts.cons (T.frr (It.rng (Es.cons (E.call 23 (Es.cons (E.var 0) (Es.cons (E.var 1) (Es.cons (E.bin (PySem.Operator.Add) (E.var 2) (E.cst (PV.int 1))) (Es.nil))))) (Es.nil))) (Tg.pat (Pt.name 5)) (Ts.cons (T.asg (Tg.pat (Pt.name 6)) (E.call 26 (Es.cons (E.var 0) (Es.cons (E.var 1) (Es.cons (E.lst (Es.cons (E.cst (PV.str [110, 101, 119])) (Es.cons (E.cst (PV.str [110, 101, 119])) (Es.cons (E.cst (PV.str [115, 97, 109, 101])) (Es.cons (E.cst (PV.str [115, 97, 109, 101])) (Es.cons (E.cst (PV.str [102, 97, 105, 108])) (Es.cons (E.cst (PV.str [103, 111, 110, 101])) (Es.cons (E.cst (PV.int 5)) (Es.cons (E.cst (PV.int 100)) (Es.cons (E.cst (PV.int 1000)) (Es.nil))))))))))) (Es.nil)))))) (Ts.cons (T.expr (E.mt (Mt.append) (E.var 3) (Es.cons (E.tup (Es.cons (E.var 4) (Es.cons (E.var 6) (Es.nil)))) (Es.nil)))) (Ts.cons (T.asg (Tg.pat (Pt.name 4)) (E.bin (PySem.Operator.Add) (E.bin (PySem.Operator.Add) (E.var 4) (E.cst (PV.int 1))) (E.call 23 (Es.cons (E.var 0) (Es.cons (E.var 1) (Es.cons (E.cst (PV.int 50)) (Es.nil))))))) (Ts.nil))))) (Ts.cons (T.ret (E.bt (Bt.tuple) (Es.cons (E.var 3) (Es.nil)))) (Ts.nil)))
def B__law_waits : Ts := Ts.cons (T.par [3, 4] (Es.cons (E.var 1) (Es.cons (E.lst (Es.nil)) (Es.nil)))) (Ts.cons (T.frr (It.e (E.var 0)) (Tg.pat (Pt.tup (Pt.cons (Pt.name 5) (Pt.cons (Pt.name 6) (Pt.nil))))) (Ts.cons (T.ite (E.cmp (PySem.CmpOp.Eq) (E.var 6) (E.cst (PV.str [103, 111, 110, 101]))) (Ts.cons (T.brk) (Ts.nil)) (Ts.nil)) (Ts.cons (T.ite (E.cmp (PySem.CmpOp.Eq) (E.var 6) (E.cst (PV.str [110, 101, 119]))) (Ts.cons (T.asg (Tg.pat (Pt.name 3)) (E.bt (Bt.max) (Es.cons (E.var 1) (Es.cons (E.bin (PySem.Operator.FloorDiv) (E.var 3) (E.cst (PV.int 2))) (Es.nil))))) (Ts.nil)) (Ts.cons (T.ite (E.cmp (PySem.CmpOp.Eq) (E.var 6) (E.cst (PV.str [115, 97, 109, 101]))) (Ts.cons (T.asg (Tg.pat (Pt.name 3)) (E.bt (Bt.min) (Es.cons (E.var 2) (Es.cons (E.bin (PySem.Operator.Mult) (E.var 3) (E.cst (PV.int 2))) (Es.nil))))) (Ts.nil)) (Ts.cons (T.ite (E.cmp (PySem.CmpOp.Eq) (E.var 6) (E.cst (PV.str [102, 97, 105, 108]))) (Ts.cons (T.asg (Tg.pat (Pt.name 3)) (E.bt (Bt.min) (Es.cons (E.var 2) (Es.cons (E.bin (PySem.Operator.Mult) (E.var 3) (E.cst (PV.int 4))) (Es.nil))))) (Ts.nil)) (Ts.nil)) (Ts.nil))) (Ts.nil))) (Ts.cons (T.expr (E.mt (Mt.append) (E.var 4) (Es.cons (E.var 3) (Es.nil)))) (Ts.nil))))) (Ts.cons (T.ret (E.var 4)) (Ts.nil)))
def B_law : Ts := Ts.cons (T.asg (Tg.pat (Pt.name 1)) (E.call 21 (Es.cons (E.var 0) (Es.nil)))) (Ts.cons (T.asg (Tg.pat (Pt.name 2)) (E.lst (Es.cons (E.cst (PV.int 0)) (Es.nil)))) (Ts.cons (T.asg (Tg.pat (Pt.name 3)) (E.call 33 (Es.cons (E.var 1) (Es.cons (E.var 2) (Es.cons (E.cst (PV.int 9)) (Es.nil)))))) (Ts.cons (T.asg (Tg.pat (Pt.name 4)) (E.bin (PySem.Operator.Add) (E.cst (PV.int 1)) (E.call 23 (Es.cons (E.var 1) (Es.cons (E.var 2) (Es.cons (E.cst (PV.int 60)) (Es.nil))))))) (Ts.cons (T.asg (Tg.pat (Pt.name 5)) (E.bin (PySem.Operator.Add) (E.var 4) (E.call 23 (Es.cons (E.var 1) (Es.cons (E.var 2) (Es.cons (E.cst (PV.int 400)) (Es.nil))))))) (Ts.cons (T.asg (Tg.pat (Pt.name 6)) (E.call 34 (Es.cons (E.var 3) (Es.cons (E.var 4) (Es.cons (E.var 5) (Es.nil)))))) (Ts.cons (T.asg (Tg.pat (Pt.name 7)) (E.call 32 (Es.cons (E.var 1) (Es.cons (E.var 2) (Es.cons (E.var 3) (Es.nil)))))) (Ts.cons (T.ite (E.not (E.call 20 (Es.cons (E.call 15 (Es.cons (E.var 7) (Es.cons (E.var 4) (Es.cons (E.var 5) (Es.nil))))) (Es.cons (E.bt (Bt.tuple) (Es.cons (E.var 6) (Es.nil))) (Es.nil))))) (Ts.cons (T.ret (E.cst (PV.bl false))) (Ts.nil)) (Ts.nil)) (Ts.cons (T.ite (E.cmp (PySem.CmpOp.Eq) (E.bt (Bt.len) (Es.cons (E.var 3) (Es.nil))) (E.cst (PV.int 0))) (Ts.cons (T.asg (Tg.pat (Pt.name 8)) (E.cst (PV.int 0))) (Ts.nil)) (Ts.cons (T.ite (E.cmp (PySem.CmpOp.In) (E.cst (PV.str [103, 111, 110, 101])) (E.lc [9, 10] (It.e (E.var 3)) (Pt.tup (Pt.cons (Pt.name 9) (Pt.cons (Pt.name 10) (Pt.nil)))) (Oe.none) (E.var 10))) (Ts.cons (T.asg (Tg.pat (Pt.name 8)) (E.cst (PV.non))) (Ts.nil)) (Ts.cons (T.asg (Tg.pat (Pt.tup (Pt.cons (Pt.name 9) (Pt.cons (Pt.name 10) (Pt.nil))))) (E.ix (E.var 3) (E.neg (E.cst (PV.int 1))))) (Ts.cons (T.asg (Tg.pat (Pt.name 8)) (E.bin (PySem.Operator.Add) (E.var 9) (E.ite (E.isi (E.var 10) [Ty.int]) (E.bt (Bt.max) (Es.cons (E.var 10) (Es.cons (E.ix (E.var 6) (E.neg (E.cst (PV.int 1)))) (Es.nil)))) (E.ix (E.var 6) (E.neg (E.cst (PV.int 1))))))) (Ts.nil)))) (Ts.nil))) (Ts.cons (T.ite (E.not (E.call 20 (Es.cons (E.call 14 (Es.cons (E.var 7) (Es.cons (E.var 4) (Es.cons (E.var 5) (Es.nil))))) (Es.cons (E.var 8) (Es.nil))))) (Ts.cons (T.ret (E.cst (PV.bl false))) (Ts.nil)) (Ts.nil)) (Ts.cons (T.par [11, 12] (Es.cons (E.bt (Bt.len) (Es.cons (E.lc [9, 10] (It.e (E.var 3)) (Pt.tup (Pt.cons (Pt.name 9) (Pt.cons (Pt.name 10) (Pt.nil)))) (Oe.some (E.cmp (PySem.CmpOp.Eq) (E.var 10) (E.cst (PV.str [110, 101, 119])))) (E.cst (PV.int 1))) (Es.nil))) (Es.cons (E.bt (Bt.len) (Es.cons (E.lc [9, 10] (It.e (E.var 3)) (Pt.tup (Pt.cons (Pt.name 9) (Pt.cons (Pt.name 10) (Pt.nil)))) (Oe.some (E.cmp (PySem.CmpOp.Eq) (E.var 10) (E.cst (PV.str [115, 97, 109, 101])))) (E.cst (PV.int 1))) (Es.nil))) (Es.nil)))) (Ts.cons (T.asg (Tg.pat (Pt.name 13)) (E.cst (PV.int 0))) (Ts.cons (T.frr (It.rng (Es.cons (E.bt (Bt.len) (Es.cons (E.var 3) (Es.nil))) (Es.nil))) (Tg.pat (Pt.name 14)) (Ts.cons (T.ite (E.cmp (PySem.CmpOp.NotEq) (E.ix (E.ix (E.var 3) (E.bin (PySem.Operator.Sub) (E.bin (PySem.Operator.Sub) (E.bt (Bt.len) (Es.cons (E.var 3) (Es.nil))) (E.cst (PV.int 1))) (E.var 14))) (E.cst (PV.int 1))) (E.cst (PV.str [102, 97, 105, 108]))) (Ts.cons (T.brk) (Ts.nil)) (Ts.nil)) (Ts.cons (T.asg (Tg.pat (Pt.name 13)) (E.bin (PySem.Operator.Add) (E.var 13) (E.cst (PV.int 1)))) (Ts.nil)))) (Ts.cons (T.ite (E.not (E.call 20 (Es.cons (E.call 16 (Es.cons (E.var 7) (Es.nil))) (Es.cons (E.tup (Es.cons (E.ite (E.cmp (PySem.CmpOp.Eq) (E.bin (PySem.Operator.Add) (E.var 11) (E.var 12)) (E.cst (PV.int 0))) (E.cst (PV.non)) (E.call 28 (Es.cons (E.var 11) (Es.cons (E.bin (PySem.Operator.Add) (E.var 11) (E.var 12)) (Es.nil))))) (Es.cons (E.var 13) (Es.nil)))) (Es.nil))))) (Ts.cons (T.ret (E.cst (PV.bl false))) (Ts.nil)) (Ts.nil)) (Ts.cons (T.asg (Tg.pat (Pt.name 15)) (E.lst (Es.cons (E.call 23 (Es.cons (E.var 1) (Es.cons (E.var 2) (Es.cons (E.cst (PV.int 5)) (Es.nil))))) (Es.nil)))) (Ts.cons (T.frr (It.rng (Es.cons (E.bin (PySem.Operator.Add) (E.cst (PV.int 1)) (E.call 23 (Es.cons (E.var 1) (Es.cons (E.var 2) (Es.cons (E.cst (PV.int 8)) (Es.nil)))))) (Es.nil))) (Tg.pat (Pt.name 14)) (Ts.cons (T.expr (E.mt (Mt.append) (E.var 15) (Es.cons (E.bin (PySem.Operator.Add) (E.bin (PySem.Operator.Add) (E.ix (E.var 15) (E.neg (E.cst (PV.int 1)))) (E.cst (PV.int 1))) (E.call 23 (Es.cons (E.var 1) (Es.cons (E.var 2) (Es.cons (E.cst (PV.int 30)) (Es.nil)))))) (Es.nil)))) (Ts.nil))) (Ts.cons (T.asg (Tg.pat (Pt.name 16)) (E.bt (Bt.sorted) (Es.cons (E.lc [14] (It.rng (Es.cons (E.cst (PV.int 1)) (Es.cons (E.bt (Bt.len) (Es.cons (E.var 15) (Es.nil))) (Es.nil)))) (Pt.name 14) (Oe.none) (E.bin (PySem.Operator.Sub) (E.ix (E.var 15) (E.var 14)) (E.ix (E.var 15) (E.bin (PySem.Operator.Sub) (E.var 14) (E.cst (PV.int 1)))))) (Es.nil)))) (Ts.cons (T.asg (Tg.pat (Pt.name 17)) (E.bt (Bt.len) (Es.cons (E.var 16) (Es.nil)))) (Ts.cons (T.asg (Tg.pat (Pt.name 18)) (E.ite (E.cmp (PySem.CmpOp.Eq) (E.bin (PySem.Operator.Mod) (E.bt (Bt.int) (Es.cons (E.var 17) (Es.nil))) (E.cst (PV.int 2))) (E.cst (PV.int 1))) (E.tup (Es.cons (E.ix (E.var 16) (E.bin (PySem.Operator.FloorDiv) (E.var 17) (E.cst (PV.int 2)))) (Es.cons (E.cst (PV.int 1)) (Es.nil)))) (E.call 28 (Es.cons (E.bin (PySem.Operator.Add) (E.ix (E.var 16) (E.bin (PySem.Operator.Sub) (E.bin (PySem.Operator.FloorDiv) (E.var 17) (E.cst (PV.int 2))) (E.cst (PV.int 1)))) (E.ix (E.var 16) (E.bin (PySem.Operator.FloorDiv) (E.var 17) (E.cst (PV.int 2))))) (Es.cons (E.cst (PV.int 2)) (Es.nil)))))) (Ts.cons (T.asg (Tg.pat (Pt.name 19)) (E.bin (PySem.Operator.Add) (E.ix (E.var 15) (E.neg (E.cst (PV.int 1)))) (E.call 23 (Es.cons (E.var 1) (Es.cons (E.var 2) (Es.cons (E.cst (PV.int 90)) (Es.nil))))))) (Ts.cons (T.asg (Tg.pat (Pt.name 20)) (E.call 28 (Es.cons (E.bin (PySem.Operator.Add) (E.cst (PV.int 1)) (E.call 23 (Es.cons (E.var 1) (Es.cons (E.var 2) (Es.cons (E.cst (PV.int 9)) (Es.nil)))))) (Es.cons (E.cst (PV.int 2)) (Es.nil))))) (Ts.cons (T.ret (E.call 20 (Es.cons (E.call 19 (Es.cons (E.call 25 (Es.cons (E.var 1) (Es.cons (E.var 2) (Es.cons (E.bt (Bt.tuple) (Es.cons (E.var 15) (Es.nil))) (Es.nil))))) (Es.cons (E.var 19) (Es.cons (E.call 31 (Es.cons (E.var 1) (Es.cons (E.var 2) (Es.cons (E.var 20) (Es.nil))))) (Es.nil))))) (Es.cons (E.cmp (PySem.CmpOp.Gt) (E.call 30 (Es.cons (E.tup (Es.cons (E.bin (PySem.Operator.Sub) (E.var 19) (E.ix (E.var 15) (E.neg (E.cst (PV.int 1))))) (Es.cons (E.cst (PV.int 1)) (Es.nil)))) (Es.cons (E.call 29 (Es.cons (E.var 18) (Es.cons (E.var 20) (Es.nil)))) (Es.nil)))) (E.cst (PV.int 0))) (Es.nil))))) (Ts.nil))))))))))))))))))))))
abbrev d_demand : PDef := ⟨"demand", "demand", st_demand, N_demand, ps_demand, B_demand⟩
abbrev d_is_integer : PDef := ⟨"is_integer", "is_integer", st_is_integer, N_is_integer, ps_is_integer, B_is_integer⟩
abbrev d_is_within : PDef := ⟨"is_within", "is_within", st_is_within, N_is_within, ps_is_within, B_is_within⟩
abbrev d_is_sequence : PDef := ⟨"is_sequence", "is_sequence", st_is_sequence, N_is_sequence, ps_is_sequence, B_is_sequence⟩
abbrev d_is_row : PDef := ⟨"is_row", "is_row", st_is_row, N_is_row, ps_is_row, B_is_row⟩
abbrev d_is_second : PDef := ⟨"is_second", "is_second", st_is_second, N_is_second, ps_is_second, B_is_second⟩
abbrev d_is_number : PDef := ⟨"is_number", "is_number", st_is_number, N_is_number, ps_is_number, B_is_number⟩
abbrev d_are_rising : PDef := ⟨"are_rising", "are_rising", st_are_rising, N_are_rising, ps_are_rising, B_are_rising⟩
abbrev d_lowest : PDef := ⟨"lowest", "lowest", st_lowest, N_lowest, ps_lowest, B_lowest⟩
abbrev d_number_of : PDef := ⟨"number_of", "number_of", st_number_of, N_number_of, ps_number_of, B_number_of⟩
abbrev d_is_answer : PDef := ⟨"is_answer", "is_answer", st_is_answer, N_is_answer, ps_is_answer, B_is_answer⟩
abbrev d_are_answers : PDef := ⟨"are_answers", "are_answers", st_are_answers, N_are_answers, ps_are_answers, B_are_answers⟩
abbrev d_demand_answers : PDef := ⟨"demand_answers", "demand_answers", st_demand_answers, N_demand_answers, ps_demand_answers, B_demand_answers⟩
abbrev d_unchecked_waits : PDef := ⟨"unchecked_waits", "unchecked_waits", st_unchecked_waits, N_unchecked_waits, ps_unchecked_waits, B_unchecked_waits⟩
abbrev d_after : PDef := ⟨"after", "after", st_after, N_after, ps_after, B_after⟩
abbrev d_waits_of : PDef := ⟨"waits_of", "waits_of", st_waits_of, N_waits_of, ps_waits_of, B_waits_of⟩
abbrev d_health : PDef := ⟨"health", "health", st_health, N_health, ps_health, B_health⟩
abbrev d_are_seconds : PDef := ⟨"are_seconds", "are_seconds", st_are_seconds, N_are_seconds, ps_are_seconds, B_are_seconds⟩
abbrev d_twice_middle : PDef := ⟨"twice_middle", "twice_middle", st_twice_middle, N_twice_middle, ps_twice_middle, B_twice_middle⟩
abbrev d_silent : PDef := ⟨"silent", "silent", st_silent, N_silent, ps_silent, B_silent⟩
abbrev d__law_so : PDef := ⟨"_law_so", "_law_so", st__law_so, N__law_so, ps__law_so, B__law_so⟩
abbrev d__law_numbers : PDef := ⟨"_law_numbers", "_law_numbers", st__law_numbers, N__law_numbers, ps__law_numbers, B__law_numbers⟩
abbrev d__law_draw : PDef := ⟨"_law_draw", "_law_draw", st__law_draw, N__law_draw, ps__law_draw, B__law_draw⟩
abbrev d__law_take : PDef := ⟨"_law_take", "_law_take", st__law_take, N__law_take, ps__law_take, B__law_take⟩
abbrev d__law_listed : PDef := ⟨"_law_listed", "_law_listed", st__law_listed, N__law_listed, ps__law_listed, B__law_listed⟩
abbrev d__law_handed : PDef := ⟨"_law_handed", "_law_handed", st__law_handed, N__law_handed, ps__law_handed, B__law_handed⟩
abbrev d__law_pick : PDef := ⟨"_law_pick", "_law_pick", st__law_pick, N__law_pick, ps__law_pick, B__law_pick⟩
abbrev d__law_gcd : PDef := ⟨"_law_gcd", "_law_gcd", st__law_gcd, N__law_gcd, ps__law_gcd, B__law_gcd⟩
abbrev d__law_q : PDef := ⟨"_law_q", "_law_q", st__law_q, N__law_q, ps__law_q, B__law_q⟩
abbrev d__law_mulq : PDef := ⟨"_law_mulq", "_law_mulq", st__law_mulq, N__law_mulq, ps__law_mulq, B__law_mulq⟩
abbrev d__law_cmp : PDef := ⟨"_law_cmp", "_law_cmp", st__law_cmp, N__law_cmp, ps__law_cmp, B__law_cmp⟩
abbrev d__law_given : PDef := ⟨"_law_given", "_law_given", st__law_given, N__law_given, ps__law_given, B__law_given⟩
abbrev d__law_hand_rows : PDef := ⟨"_law_hand_rows", "_law_hand_rows", st__law_hand_rows, N__law_hand_rows, ps__law_hand_rows, B__law_hand_rows⟩
abbrev d__law_some_answers : PDef := ⟨"_law_some_answers", "_law_some_answers", st__law_some_answers, N__law_some_answers, ps__law_some_answers, B__law_some_answers⟩
abbrev d__law_waits : PDef := ⟨"_law_waits", "_law_waits", st__law_waits, N__law_waits, ps__law_waits, B__law_waits⟩
abbrev d_law : PDef := ⟨"law", "law", st_law, N_law, ps_law, B_law⟩
abbrev ds : List PDef := [d_demand, d_is_integer, d_is_within, d_is_sequence, d_is_row, d_is_second, d_is_number, d_are_rising, d_lowest, d_number_of, d_is_answer, d_are_answers, d_demand_answers, d_unchecked_waits, d_after, d_waits_of, d_health, d_are_seconds, d_twice_middle, d_silent, d__law_so, d__law_numbers, d__law_draw, d__law_take, d__law_listed, d__law_handed, d__law_pick, d__law_gcd, d__law_q, d__law_mulq, d__law_cmp, d__law_given, d__law_hand_rows, d__law_some_answers, d__law_waits, d_law]
theorem c_demand : cTs G 60 ⟨N_demand, defScope st_demand, fun _ => true⟩ (defBody st_demand) = some B_demand := by kernel_rfl
theorem s_demand : scopeB N_demand ps_demand (defScope st_demand) = true := by decide +kernel
theorem b_demand (kV doc pm : Value) (an : Option Addr) (cdv ct : Value) (us : List Value) (hl : us.length = ps_demand.length) : bindArgs (PySem.W.fnOf "demand" "demand" (defArgs st_demand) (defBody st_demand) (defScope st_demand) .none kV doc pm an cdv ct) ⟨us, []⟩ = pure (List.zip ps_demand us) := match us, hl with | [_, _], _ => rfl
theorem k_demand (kV doc pm : Value) (an : Option Addr) (cdv ct : Value) (us : List Value) (hl : us.length = ps_demand.length) : bindArgs (PySem.W.fnOf "demand" "demand" (defArgs st_demand) (defBody st_demand) (defScope st_demand) .none kV doc pm an cdv ct) ⟨[], List.zip ps_demand us⟩ = pure (List.zip ps_demand us) := match us, hl with | [_, _], _ => rfl
theorem c_is_integer : cTs G 60 ⟨N_is_integer, defScope st_is_integer, fun _ => true⟩ (defBody st_is_integer) = some B_is_integer := by kernel_rfl
theorem s_is_integer : scopeB N_is_integer ps_is_integer (defScope st_is_integer) = true := by decide +kernel
theorem b_is_integer (kV doc pm : Value) (an : Option Addr) (cdv ct : Value) (us : List Value) (hl : us.length = ps_is_integer.length) : bindArgs (PySem.W.fnOf "is_integer" "is_integer" (defArgs st_is_integer) (defBody st_is_integer) (defScope st_is_integer) .none kV doc pm an cdv ct) ⟨us, []⟩ = pure (List.zip ps_is_integer us) := match us, hl with | [_], _ => rfl
theorem k_is_integer (kV doc pm : Value) (an : Option Addr) (cdv ct : Value) (us : List Value) (hl : us.length = ps_is_integer.length) : bindArgs (PySem.W.fnOf "is_integer" "is_integer" (defArgs st_is_integer) (defBody st_is_integer) (defScope st_is_integer) .none kV doc pm an cdv ct) ⟨[], List.zip ps_is_integer us⟩ = pure (List.zip ps_is_integer us) := match us, hl with | [_], _ => rfl
theorem c_is_within : cTs G 60 ⟨N_is_within, defScope st_is_within, fun _ => true⟩ (defBody st_is_within) = some B_is_within := by kernel_rfl
theorem s_is_within : scopeB N_is_within ps_is_within (defScope st_is_within) = true := by decide +kernel
theorem b_is_within (kV doc pm : Value) (an : Option Addr) (cdv ct : Value) (us : List Value) (hl : us.length = ps_is_within.length) : bindArgs (PySem.W.fnOf "is_within" "is_within" (defArgs st_is_within) (defBody st_is_within) (defScope st_is_within) .none kV doc pm an cdv ct) ⟨us, []⟩ = pure (List.zip ps_is_within us) := match us, hl with | [_, _, _], _ => rfl
theorem k_is_within (kV doc pm : Value) (an : Option Addr) (cdv ct : Value) (us : List Value) (hl : us.length = ps_is_within.length) : bindArgs (PySem.W.fnOf "is_within" "is_within" (defArgs st_is_within) (defBody st_is_within) (defScope st_is_within) .none kV doc pm an cdv ct) ⟨[], List.zip ps_is_within us⟩ = pure (List.zip ps_is_within us) := match us, hl with | [_, _, _], _ => rfl
theorem c_is_sequence : cTs G 60 ⟨N_is_sequence, defScope st_is_sequence, fun _ => true⟩ (defBody st_is_sequence) = some B_is_sequence := by kernel_rfl
theorem s_is_sequence : scopeB N_is_sequence ps_is_sequence (defScope st_is_sequence) = true := by decide +kernel
theorem b_is_sequence (kV doc pm : Value) (an : Option Addr) (cdv ct : Value) (us : List Value) (hl : us.length = ps_is_sequence.length) : bindArgs (PySem.W.fnOf "is_sequence" "is_sequence" (defArgs st_is_sequence) (defBody st_is_sequence) (defScope st_is_sequence) .none kV doc pm an cdv ct) ⟨us, []⟩ = pure (List.zip ps_is_sequence us) := match us, hl with | [_], _ => rfl
theorem k_is_sequence (kV doc pm : Value) (an : Option Addr) (cdv ct : Value) (us : List Value) (hl : us.length = ps_is_sequence.length) : bindArgs (PySem.W.fnOf "is_sequence" "is_sequence" (defArgs st_is_sequence) (defBody st_is_sequence) (defScope st_is_sequence) .none kV doc pm an cdv ct) ⟨[], List.zip ps_is_sequence us⟩ = pure (List.zip ps_is_sequence us) := match us, hl with | [_], _ => rfl
theorem c_is_row : cTs G 60 ⟨N_is_row, defScope st_is_row, fun _ => true⟩ (defBody st_is_row) = some B_is_row := by kernel_rfl
theorem s_is_row : scopeB N_is_row ps_is_row (defScope st_is_row) = true := by decide +kernel
theorem b_is_row (kV doc pm : Value) (an : Option Addr) (cdv ct : Value) (us : List Value) (hl : us.length = ps_is_row.length) : bindArgs (PySem.W.fnOf "is_row" "is_row" (defArgs st_is_row) (defBody st_is_row) (defScope st_is_row) .none kV doc pm an cdv ct) ⟨us, []⟩ = pure (List.zip ps_is_row us) := match us, hl with | [_, _, _], _ => rfl
theorem k_is_row (kV doc pm : Value) (an : Option Addr) (cdv ct : Value) (us : List Value) (hl : us.length = ps_is_row.length) : bindArgs (PySem.W.fnOf "is_row" "is_row" (defArgs st_is_row) (defBody st_is_row) (defScope st_is_row) .none kV doc pm an cdv ct) ⟨[], List.zip ps_is_row us⟩ = pure (List.zip ps_is_row us) := match us, hl with | [_, _, _], _ => rfl
theorem c_is_second : cTs G 60 ⟨N_is_second, defScope st_is_second, fun _ => true⟩ (defBody st_is_second) = some B_is_second := by kernel_rfl
theorem s_is_second : scopeB N_is_second ps_is_second (defScope st_is_second) = true := by decide +kernel
theorem b_is_second (kV doc pm : Value) (an : Option Addr) (cdv ct : Value) (us : List Value) (hl : us.length = ps_is_second.length) : bindArgs (PySem.W.fnOf "is_second" "is_second" (defArgs st_is_second) (defBody st_is_second) (defScope st_is_second) .none kV doc pm an cdv ct) ⟨us, []⟩ = pure (List.zip ps_is_second us) := match us, hl with | [_], _ => rfl
theorem k_is_second (kV doc pm : Value) (an : Option Addr) (cdv ct : Value) (us : List Value) (hl : us.length = ps_is_second.length) : bindArgs (PySem.W.fnOf "is_second" "is_second" (defArgs st_is_second) (defBody st_is_second) (defScope st_is_second) .none kV doc pm an cdv ct) ⟨[], List.zip ps_is_second us⟩ = pure (List.zip ps_is_second us) := match us, hl with | [_], _ => rfl
theorem c_is_number : cTs G 60 ⟨N_is_number, defScope st_is_number, fun _ => true⟩ (defBody st_is_number) = some B_is_number := by kernel_rfl
theorem s_is_number : scopeB N_is_number ps_is_number (defScope st_is_number) = true := by decide +kernel
theorem b_is_number (kV doc pm : Value) (an : Option Addr) (cdv ct : Value) (us : List Value) (hl : us.length = ps_is_number.length) : bindArgs (PySem.W.fnOf "is_number" "is_number" (defArgs st_is_number) (defBody st_is_number) (defScope st_is_number) .none kV doc pm an cdv ct) ⟨us, []⟩ = pure (List.zip ps_is_number us) := match us, hl with | [_], _ => rfl
theorem k_is_number (kV doc pm : Value) (an : Option Addr) (cdv ct : Value) (us : List Value) (hl : us.length = ps_is_number.length) : bindArgs (PySem.W.fnOf "is_number" "is_number" (defArgs st_is_number) (defBody st_is_number) (defScope st_is_number) .none kV doc pm an cdv ct) ⟨[], List.zip ps_is_number us⟩ = pure (List.zip ps_is_number us) := match us, hl with | [_], _ => rfl
theorem c_are_rising : cTs G 60 ⟨N_are_rising, defScope st_are_rising, fun _ => true⟩ (defBody st_are_rising) = some B_are_rising := by kernel_rfl
theorem s_are_rising : scopeB N_are_rising ps_are_rising (defScope st_are_rising) = true := by decide +kernel
theorem b_are_rising (kV doc pm : Value) (an : Option Addr) (cdv ct : Value) (us : List Value) (hl : us.length = ps_are_rising.length) : bindArgs (PySem.W.fnOf "are_rising" "are_rising" (defArgs st_are_rising) (defBody st_are_rising) (defScope st_are_rising) .none kV doc pm an cdv ct) ⟨us, []⟩ = pure (List.zip ps_are_rising us) := match us, hl with | [_], _ => rfl
theorem k_are_rising (kV doc pm : Value) (an : Option Addr) (cdv ct : Value) (us : List Value) (hl : us.length = ps_are_rising.length) : bindArgs (PySem.W.fnOf "are_rising" "are_rising" (defArgs st_are_rising) (defBody st_are_rising) (defScope st_are_rising) .none kV doc pm an cdv ct) ⟨[], List.zip ps_are_rising us⟩ = pure (List.zip ps_are_rising us) := match us, hl with | [_], _ => rfl
theorem c_lowest : cTs G 60 ⟨N_lowest, defScope st_lowest, fun _ => true⟩ (defBody st_lowest) = some B_lowest := by kernel_rfl
theorem s_lowest : scopeB N_lowest ps_lowest (defScope st_lowest) = true := by decide +kernel
theorem b_lowest (kV doc pm : Value) (an : Option Addr) (cdv ct : Value) (us : List Value) (hl : us.length = ps_lowest.length) : bindArgs (PySem.W.fnOf "lowest" "lowest" (defArgs st_lowest) (defBody st_lowest) (defScope st_lowest) .none kV doc pm an cdv ct) ⟨us, []⟩ = pure (List.zip ps_lowest us) := match us, hl with | [_, _], _ => rfl
theorem k_lowest (kV doc pm : Value) (an : Option Addr) (cdv ct : Value) (us : List Value) (hl : us.length = ps_lowest.length) : bindArgs (PySem.W.fnOf "lowest" "lowest" (defArgs st_lowest) (defBody st_lowest) (defScope st_lowest) .none kV doc pm an cdv ct) ⟨[], List.zip ps_lowest us⟩ = pure (List.zip ps_lowest us) := match us, hl with | [_, _], _ => rfl
theorem c_number_of : cTs G 60 ⟨N_number_of, defScope st_number_of, fun _ => true⟩ (defBody st_number_of) = some B_number_of := by kernel_rfl
theorem s_number_of : scopeB N_number_of ps_number_of (defScope st_number_of) = true := by decide +kernel
theorem b_number_of (kV doc pm : Value) (an : Option Addr) (cdv ct : Value) (us : List Value) (hl : us.length = ps_number_of.length) : bindArgs (PySem.W.fnOf "number_of" "number_of" (defArgs st_number_of) (defBody st_number_of) (defScope st_number_of) .none kV doc pm an cdv ct) ⟨us, []⟩ = pure (List.zip ps_number_of us) := match us, hl with | [_], _ => rfl
theorem k_number_of (kV doc pm : Value) (an : Option Addr) (cdv ct : Value) (us : List Value) (hl : us.length = ps_number_of.length) : bindArgs (PySem.W.fnOf "number_of" "number_of" (defArgs st_number_of) (defBody st_number_of) (defScope st_number_of) .none kV doc pm an cdv ct) ⟨[], List.zip ps_number_of us⟩ = pure (List.zip ps_number_of us) := match us, hl with | [_], _ => rfl
theorem c_is_answer : cTs G 60 ⟨N_is_answer, defScope st_is_answer, fun _ => true⟩ (defBody st_is_answer) = some B_is_answer := by kernel_rfl
theorem s_is_answer : scopeB N_is_answer ps_is_answer (defScope st_is_answer) = true := by decide +kernel
theorem b_is_answer (kV doc pm : Value) (an : Option Addr) (cdv ct : Value) (us : List Value) (hl : us.length = ps_is_answer.length) : bindArgs (PySem.W.fnOf "is_answer" "is_answer" (defArgs st_is_answer) (defBody st_is_answer) (defScope st_is_answer) .none kV doc pm an cdv ct) ⟨us, []⟩ = pure (List.zip ps_is_answer us) := match us, hl with | [_], _ => rfl
theorem k_is_answer (kV doc pm : Value) (an : Option Addr) (cdv ct : Value) (us : List Value) (hl : us.length = ps_is_answer.length) : bindArgs (PySem.W.fnOf "is_answer" "is_answer" (defArgs st_is_answer) (defBody st_is_answer) (defScope st_is_answer) .none kV doc pm an cdv ct) ⟨[], List.zip ps_is_answer us⟩ = pure (List.zip ps_is_answer us) := match us, hl with | [_], _ => rfl
theorem c_are_answers : cTs G 60 ⟨N_are_answers, defScope st_are_answers, fun _ => true⟩ (defBody st_are_answers) = some B_are_answers := by kernel_rfl
theorem s_are_answers : scopeB N_are_answers ps_are_answers (defScope st_are_answers) = true := by decide +kernel
theorem b_are_answers (kV doc pm : Value) (an : Option Addr) (cdv ct : Value) (us : List Value) (hl : us.length = ps_are_answers.length) : bindArgs (PySem.W.fnOf "are_answers" "are_answers" (defArgs st_are_answers) (defBody st_are_answers) (defScope st_are_answers) .none kV doc pm an cdv ct) ⟨us, []⟩ = pure (List.zip ps_are_answers us) := match us, hl with | [_], _ => rfl
theorem k_are_answers (kV doc pm : Value) (an : Option Addr) (cdv ct : Value) (us : List Value) (hl : us.length = ps_are_answers.length) : bindArgs (PySem.W.fnOf "are_answers" "are_answers" (defArgs st_are_answers) (defBody st_are_answers) (defScope st_are_answers) .none kV doc pm an cdv ct) ⟨[], List.zip ps_are_answers us⟩ = pure (List.zip ps_are_answers us) := match us, hl with | [_], _ => rfl
theorem c_demand_answers : cTs G 60 ⟨N_demand_answers, defScope st_demand_answers, fun _ => true⟩ (defBody st_demand_answers) = some B_demand_answers := by kernel_rfl
theorem s_demand_answers : scopeB N_demand_answers ps_demand_answers (defScope st_demand_answers) = true := by decide +kernel
theorem b_demand_answers (kV doc pm : Value) (an : Option Addr) (cdv ct : Value) (us : List Value) (hl : us.length = ps_demand_answers.length) : bindArgs (PySem.W.fnOf "demand_answers" "demand_answers" (defArgs st_demand_answers) (defBody st_demand_answers) (defScope st_demand_answers) .none kV doc pm an cdv ct) ⟨us, []⟩ = pure (List.zip ps_demand_answers us) := match us, hl with | [_, _, _], _ => rfl
theorem k_demand_answers (kV doc pm : Value) (an : Option Addr) (cdv ct : Value) (us : List Value) (hl : us.length = ps_demand_answers.length) : bindArgs (PySem.W.fnOf "demand_answers" "demand_answers" (defArgs st_demand_answers) (defBody st_demand_answers) (defScope st_demand_answers) .none kV doc pm an cdv ct) ⟨[], List.zip ps_demand_answers us⟩ = pure (List.zip ps_demand_answers us) := match us, hl with | [_, _, _], _ => rfl
theorem c_unchecked_waits : cTs G 60 ⟨N_unchecked_waits, defScope st_unchecked_waits, fun _ => true⟩ (defBody st_unchecked_waits) = some B_unchecked_waits := by kernel_rfl
theorem s_unchecked_waits : scopeB N_unchecked_waits ps_unchecked_waits (defScope st_unchecked_waits) = true := by decide +kernel
theorem b_unchecked_waits (kV doc pm : Value) (an : Option Addr) (cdv ct : Value) (us : List Value) (hl : us.length = ps_unchecked_waits.length) : bindArgs (PySem.W.fnOf "unchecked_waits" "unchecked_waits" (defArgs st_unchecked_waits) (defBody st_unchecked_waits) (defScope st_unchecked_waits) .none kV doc pm an cdv ct) ⟨us, []⟩ = pure (List.zip ps_unchecked_waits us) := match us, hl with | [_, _, _], _ => rfl
theorem k_unchecked_waits (kV doc pm : Value) (an : Option Addr) (cdv ct : Value) (us : List Value) (hl : us.length = ps_unchecked_waits.length) : bindArgs (PySem.W.fnOf "unchecked_waits" "unchecked_waits" (defArgs st_unchecked_waits) (defBody st_unchecked_waits) (defScope st_unchecked_waits) .none kV doc pm an cdv ct) ⟨[], List.zip ps_unchecked_waits us⟩ = pure (List.zip ps_unchecked_waits us) := match us, hl with | [_, _, _], _ => rfl
theorem c_after : cTs G 60 ⟨N_after, defScope st_after, fun _ => true⟩ (defBody st_after) = some B_after := by kernel_rfl
theorem s_after : scopeB N_after ps_after (defScope st_after) = true := by decide +kernel
theorem b_after (kV doc pm : Value) (an : Option Addr) (cdv ct : Value) (us : List Value) (hl : us.length = ps_after.length) : bindArgs (PySem.W.fnOf "after" "after" (defArgs st_after) (defBody st_after) (defScope st_after) .none kV doc pm an cdv ct) ⟨us, []⟩ = pure (List.zip ps_after us) := match us, hl with | [_, _, _], _ => rfl
theorem k_after (kV doc pm : Value) (an : Option Addr) (cdv ct : Value) (us : List Value) (hl : us.length = ps_after.length) : bindArgs (PySem.W.fnOf "after" "after" (defArgs st_after) (defBody st_after) (defScope st_after) .none kV doc pm an cdv ct) ⟨[], List.zip ps_after us⟩ = pure (List.zip ps_after us) := match us, hl with | [_, _, _], _ => rfl
theorem c_waits_of : cTs G 60 ⟨N_waits_of, defScope st_waits_of, fun _ => true⟩ (defBody st_waits_of) = some B_waits_of := by kernel_rfl
theorem s_waits_of : scopeB N_waits_of ps_waits_of (defScope st_waits_of) = true := by decide +kernel
theorem b_waits_of (kV doc pm : Value) (an : Option Addr) (cdv ct : Value) (us : List Value) (hl : us.length = ps_waits_of.length) : bindArgs (PySem.W.fnOf "waits_of" "waits_of" (defArgs st_waits_of) (defBody st_waits_of) (defScope st_waits_of) .none kV doc pm an cdv ct) ⟨us, []⟩ = pure (List.zip ps_waits_of us) := match us, hl with | [_, _, _], _ => rfl
theorem k_waits_of (kV doc pm : Value) (an : Option Addr) (cdv ct : Value) (us : List Value) (hl : us.length = ps_waits_of.length) : bindArgs (PySem.W.fnOf "waits_of" "waits_of" (defArgs st_waits_of) (defBody st_waits_of) (defScope st_waits_of) .none kV doc pm an cdv ct) ⟨[], List.zip ps_waits_of us⟩ = pure (List.zip ps_waits_of us) := match us, hl with | [_, _, _], _ => rfl
theorem c_health : cTs G 60 ⟨N_health, defScope st_health, fun _ => true⟩ (defBody st_health) = some B_health := by kernel_rfl
theorem s_health : scopeB N_health ps_health (defScope st_health) = true := by decide +kernel
theorem b_health (kV doc pm : Value) (an : Option Addr) (cdv ct : Value) (us : List Value) (hl : us.length = ps_health.length) : bindArgs (PySem.W.fnOf "health" "health" (defArgs st_health) (defBody st_health) (defScope st_health) .none kV doc pm an cdv ct) ⟨us, []⟩ = pure (List.zip ps_health us) := match us, hl with | [_], _ => rfl
theorem k_health (kV doc pm : Value) (an : Option Addr) (cdv ct : Value) (us : List Value) (hl : us.length = ps_health.length) : bindArgs (PySem.W.fnOf "health" "health" (defArgs st_health) (defBody st_health) (defScope st_health) .none kV doc pm an cdv ct) ⟨[], List.zip ps_health us⟩ = pure (List.zip ps_health us) := match us, hl with | [_], _ => rfl
theorem c_are_seconds : cTs G 60 ⟨N_are_seconds, defScope st_are_seconds, fun _ => true⟩ (defBody st_are_seconds) = some B_are_seconds := by kernel_rfl
theorem s_are_seconds : scopeB N_are_seconds ps_are_seconds (defScope st_are_seconds) = true := by decide +kernel
theorem b_are_seconds (kV doc pm : Value) (an : Option Addr) (cdv ct : Value) (us : List Value) (hl : us.length = ps_are_seconds.length) : bindArgs (PySem.W.fnOf "are_seconds" "are_seconds" (defArgs st_are_seconds) (defBody st_are_seconds) (defScope st_are_seconds) .none kV doc pm an cdv ct) ⟨us, []⟩ = pure (List.zip ps_are_seconds us) := match us, hl with | [_], _ => rfl
theorem k_are_seconds (kV doc pm : Value) (an : Option Addr) (cdv ct : Value) (us : List Value) (hl : us.length = ps_are_seconds.length) : bindArgs (PySem.W.fnOf "are_seconds" "are_seconds" (defArgs st_are_seconds) (defBody st_are_seconds) (defScope st_are_seconds) .none kV doc pm an cdv ct) ⟨[], List.zip ps_are_seconds us⟩ = pure (List.zip ps_are_seconds us) := match us, hl with | [_], _ => rfl
theorem c_twice_middle : cTs G 60 ⟨N_twice_middle, defScope st_twice_middle, fun _ => true⟩ (defBody st_twice_middle) = some B_twice_middle := by kernel_rfl
theorem s_twice_middle : scopeB N_twice_middle ps_twice_middle (defScope st_twice_middle) = true := by decide +kernel
theorem b_twice_middle (kV doc pm : Value) (an : Option Addr) (cdv ct : Value) (us : List Value) (hl : us.length = ps_twice_middle.length) : bindArgs (PySem.W.fnOf "twice_middle" "twice_middle" (defArgs st_twice_middle) (defBody st_twice_middle) (defScope st_twice_middle) .none kV doc pm an cdv ct) ⟨us, []⟩ = pure (List.zip ps_twice_middle us) := match us, hl with | [_], _ => rfl
theorem k_twice_middle (kV doc pm : Value) (an : Option Addr) (cdv ct : Value) (us : List Value) (hl : us.length = ps_twice_middle.length) : bindArgs (PySem.W.fnOf "twice_middle" "twice_middle" (defArgs st_twice_middle) (defBody st_twice_middle) (defScope st_twice_middle) .none kV doc pm an cdv ct) ⟨[], List.zip ps_twice_middle us⟩ = pure (List.zip ps_twice_middle us) := match us, hl with | [_], _ => rfl
theorem c_silent : cTs G 60 ⟨N_silent, defScope st_silent, fun _ => true⟩ (defBody st_silent) = some B_silent := by kernel_rfl
theorem s_silent : scopeB N_silent ps_silent (defScope st_silent) = true := by decide +kernel
theorem b_silent (kV doc pm : Value) (an : Option Addr) (cdv ct : Value) (us : List Value) (hl : us.length = ps_silent.length) : bindArgs (PySem.W.fnOf "silent" "silent" (defArgs st_silent) (defBody st_silent) (defScope st_silent) .none kV doc pm an cdv ct) ⟨us, []⟩ = pure (List.zip ps_silent us) := match us, hl with | [_, _, _], _ => rfl
theorem k_silent (kV doc pm : Value) (an : Option Addr) (cdv ct : Value) (us : List Value) (hl : us.length = ps_silent.length) : bindArgs (PySem.W.fnOf "silent" "silent" (defArgs st_silent) (defBody st_silent) (defScope st_silent) .none kV doc pm an cdv ct) ⟨[], List.zip ps_silent us⟩ = pure (List.zip ps_silent us) := match us, hl with | [_, _, _], _ => rfl
theorem c__law_so : cTs G 60 ⟨N__law_so, defScope st__law_so, fun _ => true⟩ (defBody st__law_so) = some B__law_so := by kernel_rfl
theorem s__law_so : scopeB N__law_so ps__law_so (defScope st__law_so) = true := by decide +kernel
theorem b__law_so (kV doc pm : Value) (an : Option Addr) (cdv ct : Value) (us : List Value) (hl : us.length = ps__law_so.length) : bindArgs (PySem.W.fnOf "_law_so" "_law_so" (defArgs st__law_so) (defBody st__law_so) (defScope st__law_so) .none kV doc pm an cdv ct) ⟨us, []⟩ = pure (List.zip ps__law_so us) := match us, hl with | [_, _], _ => rfl
theorem k__law_so (kV doc pm : Value) (an : Option Addr) (cdv ct : Value) (us : List Value) (hl : us.length = ps__law_so.length) : bindArgs (PySem.W.fnOf "_law_so" "_law_so" (defArgs st__law_so) (defBody st__law_so) (defScope st__law_so) .none kV doc pm an cdv ct) ⟨[], List.zip ps__law_so us⟩ = pure (List.zip ps__law_so us) := match us, hl with | [_, _], _ => rfl
theorem c__law_numbers : cTs G 60 ⟨N__law_numbers, defScope st__law_numbers, fun _ => true⟩ (defBody st__law_numbers) = some B__law_numbers := by kernel_rfl
theorem s__law_numbers : scopeB N__law_numbers ps__law_numbers (defScope st__law_numbers) = true := by decide +kernel
theorem b__law_numbers (kV doc pm : Value) (an : Option Addr) (cdv ct : Value) (us : List Value) (hl : us.length = ps__law_numbers.length) : bindArgs (PySem.W.fnOf "_law_numbers" "_law_numbers" (defArgs st__law_numbers) (defBody st__law_numbers) (defScope st__law_numbers) .none kV doc pm an cdv ct) ⟨us, []⟩ = pure (List.zip ps__law_numbers us) := match us, hl with | [_], _ => rfl
theorem k__law_numbers (kV doc pm : Value) (an : Option Addr) (cdv ct : Value) (us : List Value) (hl : us.length = ps__law_numbers.length) : bindArgs (PySem.W.fnOf "_law_numbers" "_law_numbers" (defArgs st__law_numbers) (defBody st__law_numbers) (defScope st__law_numbers) .none kV doc pm an cdv ct) ⟨[], List.zip ps__law_numbers us⟩ = pure (List.zip ps__law_numbers us) := match us, hl with | [_], _ => rfl
theorem c__law_draw : cTs G 60 ⟨N__law_draw, defScope st__law_draw, fun _ => true⟩ (defBody st__law_draw) = some B__law_draw := by kernel_rfl
theorem s__law_draw : scopeB N__law_draw ps__law_draw (defScope st__law_draw) = true := by decide +kernel
theorem b__law_draw (kV doc pm : Value) (an : Option Addr) (cdv ct : Value) (us : List Value) (hl : us.length = ps__law_draw.length) : bindArgs (PySem.W.fnOf "_law_draw" "_law_draw" (defArgs st__law_draw) (defBody st__law_draw) (defScope st__law_draw) .none kV doc pm an cdv ct) ⟨us, []⟩ = pure (List.zip ps__law_draw us) := match us, hl with | [_, _, _], _ => rfl
theorem k__law_draw (kV doc pm : Value) (an : Option Addr) (cdv ct : Value) (us : List Value) (hl : us.length = ps__law_draw.length) : bindArgs (PySem.W.fnOf "_law_draw" "_law_draw" (defArgs st__law_draw) (defBody st__law_draw) (defScope st__law_draw) .none kV doc pm an cdv ct) ⟨[], List.zip ps__law_draw us⟩ = pure (List.zip ps__law_draw us) := match us, hl with | [_, _, _], _ => rfl
theorem c__law_take : cTs G 60 ⟨N__law_take, defScope st__law_take, fun _ => true⟩ (defBody st__law_take) = some B__law_take := by kernel_rfl
theorem s__law_take : scopeB N__law_take ps__law_take (defScope st__law_take) = true := by decide +kernel
theorem b__law_take (kV doc pm : Value) (an : Option Addr) (cdv ct : Value) (us : List Value) (hl : us.length = ps__law_take.length) : bindArgs (PySem.W.fnOf "_law_take" "_law_take" (defArgs st__law_take) (defBody st__law_take) (defScope st__law_take) .none kV doc pm an cdv ct) ⟨us, []⟩ = pure (List.zip ps__law_take us) := match us, hl with | [_, _, _], _ => rfl
theorem k__law_take (kV doc pm : Value) (an : Option Addr) (cdv ct : Value) (us : List Value) (hl : us.length = ps__law_take.length) : bindArgs (PySem.W.fnOf "_law_take" "_law_take" (defArgs st__law_take) (defBody st__law_take) (defScope st__law_take) .none kV doc pm an cdv ct) ⟨[], List.zip ps__law_take us⟩ = pure (List.zip ps__law_take us) := match us, hl with | [_, _, _], _ => rfl
theorem c__law_listed : cTs G 60 ⟨N__law_listed, defScope st__law_listed, fun _ => true⟩ (defBody st__law_listed) = some B__law_listed := by kernel_rfl
theorem s__law_listed : scopeB N__law_listed ps__law_listed (defScope st__law_listed) = true := by decide +kernel
theorem b__law_listed (kV doc pm : Value) (an : Option Addr) (cdv ct : Value) (us : List Value) (hl : us.length = ps__law_listed.length) : bindArgs (PySem.W.fnOf "_law_listed" "_law_listed" (defArgs st__law_listed) (defBody st__law_listed) (defScope st__law_listed) .none kV doc pm an cdv ct) ⟨us, []⟩ = pure (List.zip ps__law_listed us) := match us, hl with | [_], _ => rfl
theorem k__law_listed (kV doc pm : Value) (an : Option Addr) (cdv ct : Value) (us : List Value) (hl : us.length = ps__law_listed.length) : bindArgs (PySem.W.fnOf "_law_listed" "_law_listed" (defArgs st__law_listed) (defBody st__law_listed) (defScope st__law_listed) .none kV doc pm an cdv ct) ⟨[], List.zip ps__law_listed us⟩ = pure (List.zip ps__law_listed us) := match us, hl with | [_], _ => rfl
theorem c__law_handed : cTs G 60 ⟨N__law_handed, defScope st__law_handed, fun _ => true⟩ (defBody st__law_handed) = some B__law_handed := by kernel_rfl
theorem s__law_handed : scopeB N__law_handed ps__law_handed (defScope st__law_handed) = true := by decide +kernel
theorem b__law_handed (kV doc pm : Value) (an : Option Addr) (cdv ct : Value) (us : List Value) (hl : us.length = ps__law_handed.length) : bindArgs (PySem.W.fnOf "_law_handed" "_law_handed" (defArgs st__law_handed) (defBody st__law_handed) (defScope st__law_handed) .none kV doc pm an cdv ct) ⟨us, []⟩ = pure (List.zip ps__law_handed us) := match us, hl with | [_, _, _], _ => rfl
theorem k__law_handed (kV doc pm : Value) (an : Option Addr) (cdv ct : Value) (us : List Value) (hl : us.length = ps__law_handed.length) : bindArgs (PySem.W.fnOf "_law_handed" "_law_handed" (defArgs st__law_handed) (defBody st__law_handed) (defScope st__law_handed) .none kV doc pm an cdv ct) ⟨[], List.zip ps__law_handed us⟩ = pure (List.zip ps__law_handed us) := match us, hl with | [_, _, _], _ => rfl
theorem c__law_pick : cTs G 60 ⟨N__law_pick, defScope st__law_pick, fun _ => true⟩ (defBody st__law_pick) = some B__law_pick := by kernel_rfl
theorem s__law_pick : scopeB N__law_pick ps__law_pick (defScope st__law_pick) = true := by decide +kernel
theorem b__law_pick (kV doc pm : Value) (an : Option Addr) (cdv ct : Value) (us : List Value) (hl : us.length = ps__law_pick.length) : bindArgs (PySem.W.fnOf "_law_pick" "_law_pick" (defArgs st__law_pick) (defBody st__law_pick) (defScope st__law_pick) .none kV doc pm an cdv ct) ⟨us, []⟩ = pure (List.zip ps__law_pick us) := match us, hl with | [_, _, _], _ => rfl
theorem k__law_pick (kV doc pm : Value) (an : Option Addr) (cdv ct : Value) (us : List Value) (hl : us.length = ps__law_pick.length) : bindArgs (PySem.W.fnOf "_law_pick" "_law_pick" (defArgs st__law_pick) (defBody st__law_pick) (defScope st__law_pick) .none kV doc pm an cdv ct) ⟨[], List.zip ps__law_pick us⟩ = pure (List.zip ps__law_pick us) := match us, hl with | [_, _, _], _ => rfl
theorem c__law_gcd : cTs G 60 ⟨N__law_gcd, defScope st__law_gcd, fun _ => true⟩ (defBody st__law_gcd) = some B__law_gcd := by kernel_rfl
theorem s__law_gcd : scopeB N__law_gcd ps__law_gcd (defScope st__law_gcd) = true := by decide +kernel
theorem b__law_gcd (kV doc pm : Value) (an : Option Addr) (cdv ct : Value) (us : List Value) (hl : us.length = ps__law_gcd.length) : bindArgs (PySem.W.fnOf "_law_gcd" "_law_gcd" (defArgs st__law_gcd) (defBody st__law_gcd) (defScope st__law_gcd) .none kV doc pm an cdv ct) ⟨us, []⟩ = pure (List.zip ps__law_gcd us) := match us, hl with | [_, _], _ => rfl
theorem k__law_gcd (kV doc pm : Value) (an : Option Addr) (cdv ct : Value) (us : List Value) (hl : us.length = ps__law_gcd.length) : bindArgs (PySem.W.fnOf "_law_gcd" "_law_gcd" (defArgs st__law_gcd) (defBody st__law_gcd) (defScope st__law_gcd) .none kV doc pm an cdv ct) ⟨[], List.zip ps__law_gcd us⟩ = pure (List.zip ps__law_gcd us) := match us, hl with | [_, _], _ => rfl
theorem c__law_q : cTs G 60 ⟨N__law_q, defScope st__law_q, fun _ => true⟩ (defBody st__law_q) = some B__law_q := by kernel_rfl
theorem s__law_q : scopeB N__law_q ps__law_q (defScope st__law_q) = true := by decide +kernel
theorem b__law_q (kV doc pm : Value) (an : Option Addr) (cdv ct : Value) (us : List Value) (hl : us.length = ps__law_q.length) : bindArgs (PySem.W.fnOf "_law_q" "_law_q" (defArgs st__law_q) (defBody st__law_q) (defScope st__law_q) .none kV doc pm an cdv ct) ⟨us, []⟩ = pure (List.zip ps__law_q us) := match us, hl with | [_, _], _ => rfl
theorem k__law_q (kV doc pm : Value) (an : Option Addr) (cdv ct : Value) (us : List Value) (hl : us.length = ps__law_q.length) : bindArgs (PySem.W.fnOf "_law_q" "_law_q" (defArgs st__law_q) (defBody st__law_q) (defScope st__law_q) .none kV doc pm an cdv ct) ⟨[], List.zip ps__law_q us⟩ = pure (List.zip ps__law_q us) := match us, hl with | [_, _], _ => rfl
theorem c__law_mulq : cTs G 60 ⟨N__law_mulq, defScope st__law_mulq, fun _ => true⟩ (defBody st__law_mulq) = some B__law_mulq := by kernel_rfl
theorem s__law_mulq : scopeB N__law_mulq ps__law_mulq (defScope st__law_mulq) = true := by decide +kernel
theorem b__law_mulq (kV doc pm : Value) (an : Option Addr) (cdv ct : Value) (us : List Value) (hl : us.length = ps__law_mulq.length) : bindArgs (PySem.W.fnOf "_law_mulq" "_law_mulq" (defArgs st__law_mulq) (defBody st__law_mulq) (defScope st__law_mulq) .none kV doc pm an cdv ct) ⟨us, []⟩ = pure (List.zip ps__law_mulq us) := match us, hl with | [_, _], _ => rfl
theorem k__law_mulq (kV doc pm : Value) (an : Option Addr) (cdv ct : Value) (us : List Value) (hl : us.length = ps__law_mulq.length) : bindArgs (PySem.W.fnOf "_law_mulq" "_law_mulq" (defArgs st__law_mulq) (defBody st__law_mulq) (defScope st__law_mulq) .none kV doc pm an cdv ct) ⟨[], List.zip ps__law_mulq us⟩ = pure (List.zip ps__law_mulq us) := match us, hl with | [_, _], _ => rfl
theorem c__law_cmp : cTs G 60 ⟨N__law_cmp, defScope st__law_cmp, fun _ => true⟩ (defBody st__law_cmp) = some B__law_cmp := by kernel_rfl
theorem s__law_cmp : scopeB N__law_cmp ps__law_cmp (defScope st__law_cmp) = true := by decide +kernel
theorem b__law_cmp (kV doc pm : Value) (an : Option Addr) (cdv ct : Value) (us : List Value) (hl : us.length = ps__law_cmp.length) : bindArgs (PySem.W.fnOf "_law_cmp" "_law_cmp" (defArgs st__law_cmp) (defBody st__law_cmp) (defScope st__law_cmp) .none kV doc pm an cdv ct) ⟨us, []⟩ = pure (List.zip ps__law_cmp us) := match us, hl with | [_, _], _ => rfl
theorem k__law_cmp (kV doc pm : Value) (an : Option Addr) (cdv ct : Value) (us : List Value) (hl : us.length = ps__law_cmp.length) : bindArgs (PySem.W.fnOf "_law_cmp" "_law_cmp" (defArgs st__law_cmp) (defBody st__law_cmp) (defScope st__law_cmp) .none kV doc pm an cdv ct) ⟨[], List.zip ps__law_cmp us⟩ = pure (List.zip ps__law_cmp us) := match us, hl with | [_, _], _ => rfl
theorem c__law_given : cTs G 60 ⟨N__law_given, defScope st__law_given, fun _ => true⟩ (defBody st__law_given) = some B__law_given := by kernel_rfl
theorem s__law_given : scopeB N__law_given ps__law_given (defScope st__law_given) = true := by decide +kernel
theorem b__law_given (kV doc pm : Value) (an : Option Addr) (cdv ct : Value) (us : List Value) (hl : us.length = ps__law_given.length) : bindArgs (PySem.W.fnOf "_law_given" "_law_given" (defArgs st__law_given) (defBody st__law_given) (defScope st__law_given) .none kV doc pm an cdv ct) ⟨us, []⟩ = pure (List.zip ps__law_given us) := match us, hl with | [_, _, _], _ => rfl
theorem k__law_given (kV doc pm : Value) (an : Option Addr) (cdv ct : Value) (us : List Value) (hl : us.length = ps__law_given.length) : bindArgs (PySem.W.fnOf "_law_given" "_law_given" (defArgs st__law_given) (defBody st__law_given) (defScope st__law_given) .none kV doc pm an cdv ct) ⟨[], List.zip ps__law_given us⟩ = pure (List.zip ps__law_given us) := match us, hl with | [_, _, _], _ => rfl
theorem c__law_hand_rows : cTs G 60 ⟨N__law_hand_rows, defScope st__law_hand_rows, fun _ => true⟩ (defBody st__law_hand_rows) = some B__law_hand_rows := by kernel_rfl
theorem s__law_hand_rows : scopeB N__law_hand_rows ps__law_hand_rows (defScope st__law_hand_rows) = true := by decide +kernel
theorem b__law_hand_rows (kV doc pm : Value) (an : Option Addr) (cdv ct : Value) (us : List Value) (hl : us.length = ps__law_hand_rows.length) : bindArgs (PySem.W.fnOf "_law_hand_rows" "_law_hand_rows" (defArgs st__law_hand_rows) (defBody st__law_hand_rows) (defScope st__law_hand_rows) .none kV doc pm an cdv ct) ⟨us, []⟩ = pure (List.zip ps__law_hand_rows us) := match us, hl with | [_, _, _], _ => rfl
theorem k__law_hand_rows (kV doc pm : Value) (an : Option Addr) (cdv ct : Value) (us : List Value) (hl : us.length = ps__law_hand_rows.length) : bindArgs (PySem.W.fnOf "_law_hand_rows" "_law_hand_rows" (defArgs st__law_hand_rows) (defBody st__law_hand_rows) (defScope st__law_hand_rows) .none kV doc pm an cdv ct) ⟨[], List.zip ps__law_hand_rows us⟩ = pure (List.zip ps__law_hand_rows us) := match us, hl with | [_, _, _], _ => rfl
theorem c__law_some_answers : cTs G 60 ⟨N__law_some_answers, defScope st__law_some_answers, fun _ => true⟩ (defBody st__law_some_answers) = some B__law_some_answers := by kernel_rfl
theorem s__law_some_answers : scopeB N__law_some_answers ps__law_some_answers (defScope st__law_some_answers) = true := by decide +kernel
theorem b__law_some_answers (kV doc pm : Value) (an : Option Addr) (cdv ct : Value) (us : List Value) (hl : us.length = ps__law_some_answers.length) : bindArgs (PySem.W.fnOf "_law_some_answers" "_law_some_answers" (defArgs st__law_some_answers) (defBody st__law_some_answers) (defScope st__law_some_answers) .none kV doc pm an cdv ct) ⟨us, []⟩ = pure (List.zip ps__law_some_answers us) := match us, hl with | [_, _, _], _ => rfl
theorem k__law_some_answers (kV doc pm : Value) (an : Option Addr) (cdv ct : Value) (us : List Value) (hl : us.length = ps__law_some_answers.length) : bindArgs (PySem.W.fnOf "_law_some_answers" "_law_some_answers" (defArgs st__law_some_answers) (defBody st__law_some_answers) (defScope st__law_some_answers) .none kV doc pm an cdv ct) ⟨[], List.zip ps__law_some_answers us⟩ = pure (List.zip ps__law_some_answers us) := match us, hl with | [_, _, _], _ => rfl
theorem c__law_waits : cTs G 60 ⟨N__law_waits, defScope st__law_waits, fun _ => true⟩ (defBody st__law_waits) = some B__law_waits := by kernel_rfl
theorem s__law_waits : scopeB N__law_waits ps__law_waits (defScope st__law_waits) = true := by decide +kernel
theorem b__law_waits (kV doc pm : Value) (an : Option Addr) (cdv ct : Value) (us : List Value) (hl : us.length = ps__law_waits.length) : bindArgs (PySem.W.fnOf "_law_waits" "_law_waits" (defArgs st__law_waits) (defBody st__law_waits) (defScope st__law_waits) .none kV doc pm an cdv ct) ⟨us, []⟩ = pure (List.zip ps__law_waits us) := match us, hl with | [_, _, _], _ => rfl
theorem k__law_waits (kV doc pm : Value) (an : Option Addr) (cdv ct : Value) (us : List Value) (hl : us.length = ps__law_waits.length) : bindArgs (PySem.W.fnOf "_law_waits" "_law_waits" (defArgs st__law_waits) (defBody st__law_waits) (defScope st__law_waits) .none kV doc pm an cdv ct) ⟨[], List.zip ps__law_waits us⟩ = pure (List.zip ps__law_waits us) := match us, hl with | [_, _, _], _ => rfl
theorem c_law : cTs G 60 ⟨N_law, defScope st_law, fun _ => true⟩ (defBody st_law) = some B_law := by kernel_rfl
theorem s_law : scopeB N_law ps_law (defScope st_law) = true := by decide +kernel
theorem b_law (kV doc pm : Value) (an : Option Addr) (cdv ct : Value) (us : List Value) (hl : us.length = ps_law.length) : bindArgs (PySem.W.fnOf "law" "law" (defArgs st_law) (defBody st_law) (defScope st_law) .none kV doc pm an cdv ct) ⟨us, []⟩ = pure (List.zip ps_law us) := match us, hl with | [_], _ => rfl
theorem k_law (kV doc pm : Value) (an : Option Addr) (cdv ct : Value) (us : List Value) (hl : us.length = ps_law.length) : bindArgs (PySem.W.fnOf "law" "law" (defArgs st_law) (defBody st_law) (defScope st_law) .none kV doc pm an cdv ct) ⟨[], List.zip ps_law us⟩ = pure (List.zip ps_law us) := match us, hl with | [_], _ => rfl
def fs : List Fn := ds.map PDef.fn
theorem F_demand : fs[0]? = some ⟨2, 2, bDemand⟩ := rfl
theorem F_is_integer : fs[1]? = some ⟨1, 1, bIsInteger⟩ := rfl
theorem F_is_within : fs[2]? = some ⟨3, 3, (bIsWithin 1)⟩ := rfl
theorem F_is_sequence : fs[3]? = some ⟨1, 1, bIsSequence⟩ := rfl
theorem F_is_row : fs[4]? = some ⟨3, 3, (bIsRow 3)⟩ := rfl
theorem F_is_second : fs[5]? = some ⟨1, 1, B_is_second⟩ := rfl
theorem F_is_number : fs[6]? = some ⟨1, 1, B_is_number⟩ := rfl
theorem F_are_rising : fs[7]? = some ⟨2, 1, bRising⟩ := rfl
theorem F_lowest : fs[8]? = some ⟨3, 2, bLowest⟩ := rfl
theorem F_number_of : fs[9]? = some ⟨1, 1, B_number_of⟩ := rfl
theorem F_is_answer : fs[10]? = some ⟨1, 1, B_is_answer⟩ := rfl
theorem F_are_answers : fs[11]? = some ⟨2, 1, B_are_answers⟩ := rfl
theorem F_demand_answers : fs[12]? = some ⟨3, 3, B_demand_answers⟩ := rfl
theorem F_unchecked_waits : fs[13]? = some ⟨7, 3, B_unchecked_waits⟩ := rfl
theorem F_after : fs[14]? = some ⟨6, 3, B_after⟩ := rfl
theorem F_waits_of : fs[15]? = some ⟨3, 3, B_waits_of⟩ := rfl
theorem F_health : fs[16]? = some ⟨7, 1, B_health⟩ := rfl
theorem F_are_seconds : fs[17]? = some ⟨2, 1, B_are_seconds⟩ := rfl
theorem F_twice_middle : fs[18]? = some ⟨3, 1, B_twice_middle⟩ := rfl
theorem F_silent : fs[19]? = some ⟨6, 3, B_silent⟩ := rfl
theorem F__law_so : fs[20]? = some ⟨3, 2, (bSo 20)⟩ := rfl
theorem F__law_numbers : fs[21]? = some ⟨6, 1, bNumbers⟩ := rfl
theorem F__law_draw : fs[22]? = some ⟨4, 3, bDraw⟩ := rfl
theorem F__law_take : fs[23]? = some ⟨3, 3, (bTake 22)⟩ := rfl
theorem F__law_listed : fs[24]? = some ⟨2, 1, (bListed 24)⟩ := rfl
theorem F__law_handed : fs[25]? = some ⟨3, 3, (bHanded 23 24)⟩ := rfl
theorem F__law_pick : fs[26]? = some ⟨3, 3, (bPick 23)⟩ := rfl
theorem F__law_gcd : fs[27]? = some ⟨4, 2, bLawGcd⟩ := rfl
theorem F__law_q : fs[28]? = some ⟨3, 2, (bLawQ 27)⟩ := rfl
theorem F__law_mulq : fs[29]? = some ⟨2, 2, B__law_mulq⟩ := rfl
theorem F__law_cmp : fs[30]? = some ⟨3, 2, B__law_cmp⟩ := rfl
theorem F__law_given : fs[31]? = some ⟨5, 3, B__law_given⟩ := rfl
theorem F__law_hand_rows : fs[32]? = some ⟨5, 3, (bHandRows 23)⟩ := rfl
theorem F__law_some_answers : fs[33]? = some ⟨7, 3, B__law_some_answers⟩ := rfl
theorem F__law_waits : fs[34]? = some ⟨7, 3, B__law_waits⟩ := rfl
theorem F_law : fs[35]? = some ⟨21, 1, B_law⟩ := rfl
/-- what the law's run gives, by the evaluator -/
def Pure (fu k : Nat) : Prop := ∀ ns : List Int, ns.length ≤ 63 → ∃ S', callN (ds.map PDef.fn) fu k 35 [.ltc (ns.map .int)] [] = .ok (.bl true) S'
theorem room : L2.Room 100 callerA := ⟨rfl, by decide, by decide⟩
end Kk12

namespace Kk12
open PySem PySem.Spec L2 Mp
abbrev NEW : List Nat := [110, 101, 119]
abbrev SAME : List Nat := [115, 97, 109, 101]
abbrev FAIL : List Nat := [102, 97, 105, 108]
abbrev GONE : List Nat := [103, 111, 110, 101]
def Kd (v : PV) : Prop := v = .str NEW ∨ v = .str SAME ∨ v = .str FAIL ∨ v = .str GONE ∨ v = .int 5 ∨ v = .int 100 ∨ v = .int 1000
def Wd (w : List Nat) : Prop := w = NEW ∨ w = SAME ∨ w = FAIL ∨ w = GONE
/-- the kind is that text -/
def kb (w : List Nat) : PV → Bool
  | .str z => decide (z = w)
  | _ => false
section
variable {fu k : Nat} {S : Store}
theorem shp {w : List Nat} (hw : Wd w) : SeqAt.shaped (dOf (.str w)) = true := by
  rcases hw with rfl | rfl | rfl | rfl <;> decide +kernel
theorem eq_is {i : Int} {w : List Nat} (hw : Wd w) : eqB S (.int i) (.str w) = some false := by
  show (match flatS S (.int i), flatS S (.str w) with | some a, some b => if SeqAt.shaped (dOf a) = true ∧ SeqAt.shaped (dOf b) = true then some (PyData.eqv (dOf a) (dOf b)) else none | _, _ => none) = _
  have e1 : flatS S (.int i) = some (.int i) := by unfold flatS flat; rfl
  have e2 : flatS S (.str w) = some (.str w) := by unfold flatS flat; rfl
  rw [e1, e2]
  dsimp only
  rw [if_pos ⟨by unfold dOf; rfl, shp hw⟩]
  unfold dOf
  rfl
theorem k_eqB {v : PV} {w : List Nat} (hv : Kd v) (hw : Wd w) : eqB S v (.str w) = some (kb w v) := by
  rcases hv with rfl | rfl | rfl | rfl | rfl | rfl | rfl
  all_goals first | rfl | exact eq_is hw
theorem k_eq {v : PV} {w : List Nat} (hv : Kd v) (hw : Wd w) : cmpV .Eq v (.str w) S = .ok (.bl (kb w v)) S := by
  show toB (eqB S v (.str w)) (fun b => b) S = _
  rw [k_eqB hv hw]; rfl
theorem k_ne {v : PV} {w : List Nat} (hv : Kd v) (hw : Wd w) : cmpV .NotEq v (.str w) S = .ok (.bl (!kb w v)) S := by
  show toB (eqB S v (.str w)) (fun b => !b) S = _
  rw [k_eqB hv hw]; rfl
/-- an int's own kind -/
def ki : PV → Option Int
  | .int i => some i
  | _ => none
theorem k_in4 {v : PV} (hv : Kd v) : cmpV .In v (.tup [.str NEW, .str SAME, .str FAIL, .str GONE]) S = .ok (.bl (ki v).isNone) S := by
  rcases hv with rfl | rfl | rfl | rfl | rfl | rfl | rfl <;> rfl
theorem k_in2 {v : PV} (hv : Kd v) : cmpV .In v (.tup [.str NEW, .str SAME]) S = .ok (.bl (kb NEW v || kb SAME v)) S := by
  rcases hv with rfl | rfl | rfl | rfl | rfl | rfl | rfl <;> rfl
theorem k_int {v : PV} (hv : Kd v) : callN fs fu (k + 1) 1 [v] S = .ok (.bl (ki v).isSome) S := by
  refine eq_of_W ?_
  refine W_fn2 F_is_integer rfl rfl ?_; simp only [List.map_cons, List.map_nil, List.length_cons, List.length_nil, List.cons_append, List.nil_append, List.append_nil, List.replicate_succ, List.replicate_zero, Nat.reduceAdd, Nat.reduceSub, Nat.zero_add]
  unfold bIsInteger
  rcases hv with rfl | rfl | rfl | rfl | rfl | rfl | rfl
  all_goals simp only [ev_var, ev_cst, ev_bin, ev_neg, ev_cmp, ev_chain', ev_and, ev_or, ev_not, ev_ite, ev_tup, ev_lst, ev_ix, ev_sl, ev_call, ev_bt, ev_mt, ev_isi, ev_lc, ev_nil, ev_cons, ev_onone, ev_osome, ev_cnone, ev_csome, ev_ie, ev_rng, ev_enu, asT, ex_asg, ex_asgS, ex_par, ex_aug, ex_ite, ex_whl, ex_for, ex_expr, ex_ret, ex_retN, ex_pass, ex_brk, ex_cont, ex_never, ex_nil, ex_cons', W_ok, W_bind, fin_ret, fin_next, chK_bl, sq_next, sq_ret, sq_brk, sq_cont, bnd_ok, b_add, b_sub, i_add, i_sub, c_lt, c_le, c_gt, c_ge, c_eq, c_ne, c_eqs, c_nes, c_eqb, t_bl, t_int, t_non, p_int, f_int, as_n, as_t2, as_t3, setMany, getL, List.getElem?_cons_zero, List.getElem?_cons_succ, List.set_cons_zero, List.set_cons_succ, wipeL, tl0, tl1, tl2, tl3, tl4, tl5, tl6, Bool.not_true, Bool.not_false, decide_eq_true_eq, if_true, if_false, ite_true, ite_false, eq_self, Bool.false_eq_true, isiF, tyOf, List.any_cons, List.any_nil, isaT, Bool.or_false, reduceCtorEq, decide_true, decide_false, and_self]
  all_goals exact ⟨rfl, trivial⟩
theorem is_second_eq {n : Int} (h : 0 ≤ n ∧ n ≤ 10000000000) : callN fs fu (k + 3) 5 [.int n] S = .ok (.bl true) S := by
  refine eq_of_W ?_
  refine W_fn2 F_is_second rfl rfl ?_; simp only [List.map_cons, List.map_nil, List.length_cons, List.length_nil, List.cons_append, List.nil_append, List.append_nil, List.replicate_succ, List.replicate_zero, Nat.reduceAdd, Nat.reduceSub, Nat.zero_add]
  unfold B_is_second
  simp only [ev_var, ev_cst, ev_bin, ev_neg, ev_cmp, ev_chain', ev_and, ev_or, ev_not, ev_ite, ev_tup, ev_lst, ev_ix, ev_sl, ev_call, ev_bt, ev_mt, ev_isi, ev_lc, ev_nil, ev_cons, ev_onone, ev_osome, ev_cnone, ev_csome, ev_ie, ev_rng, ev_enu, asT, ex_asg, ex_asgS, ex_par, ex_aug, ex_ite, ex_whl, ex_for, ex_expr, ex_ret, ex_retN, ex_pass, ex_brk, ex_cont, ex_never, ex_nil, ex_cons', W_ok, W_bind, fin_ret, fin_next, chK_bl, sq_next, sq_ret, sq_brk, sq_cont, bnd_ok, b_add, b_sub, i_add, i_sub, c_lt, c_le, c_gt, c_ge, c_eq, c_ne, c_eqs, c_nes, c_eqb, t_bl, t_int, t_non, p_int, f_int, as_n, as_t2, as_t3, setMany, getL, List.getElem?_cons_zero, List.getElem?_cons_succ, List.set_cons_zero, List.set_cons_succ, wipeL, tl0, tl1, tl2, tl3, tl4, tl5, tl6, Bool.not_true, Bool.not_false, decide_eq_true_eq, if_true, if_false, ite_true, ite_false, eq_self, Bool.false_eq_true, is_within_eq F_is_within F_is_integer, h, and_self, decide_true]
/-- an answer -/
structure Ans where
  at_ : Int
  kd : PV
def Ans.row (a : Ans) : List PV := [.int a.at_, a.kd]
def Ans.ok (a : Ans) : Prop := Kd a.kd ∧ 0 ≤ a.at_ ∧ a.at_ ≤ 100000
theorem is_answer_eq {x : PV} {a : Ans} (hx : itemsOf S x = some a.row) (ha : a.ok) : callN fs fu (k + 4) 10 [x] S = .ok (.bl true) S := by
  refine eq_of_W ?_
  refine W_fn2 F_is_answer rfl rfl ?_; simp only [List.map_cons, List.map_nil, List.length_cons, List.length_nil, List.cons_append, List.nil_append, List.append_nil, List.replicate_succ, List.replicate_zero, Nat.reduceAdd, Nat.reduceSub, Nat.zero_add]
  unfold B_is_answer
  have i0 : ixV x (.int 0) S = .ok (.int a.at_) S := ix_at hx (by decide) rfl
  have i1 : ixV x (.int 1) S = .ok a.kd S := ix_at hx (by decide) rfl
  have hr : (2 : Int) ≤ (a.row.length : Int) ∧ (a.row.length : Int) ≤ 2 := ⟨Int.le_refl 2, Int.le_refl 2⟩
  simp only [ev_var, ev_cst, ev_bin, ev_neg, ev_cmp, ev_chain', ev_and, ev_or, ev_not, ev_ite, ev_tup, ev_lst, ev_ix, ev_sl, ev_call, ev_bt, ev_mt, ev_isi, ev_lc, ev_nil, ev_cons, ev_onone, ev_osome, ev_cnone, ev_csome, ev_ie, ev_rng, ev_enu, asT, ex_asg, ex_asgS, ex_par, ex_aug, ex_ite, ex_whl, ex_for, ex_expr, ex_ret, ex_retN, ex_pass, ex_brk, ex_cont, ex_never, ex_nil, ex_cons', W_ok, W_bind, fin_ret, fin_next, chK_bl, sq_next, sq_ret, sq_brk, sq_cont, bnd_ok, b_add, b_sub, i_add, i_sub, c_lt, c_le, c_gt, c_ge, c_eq, c_ne, c_eqs, c_nes, c_eqb, t_bl, t_int, t_non, p_int, f_int, as_n, as_t2, as_t3, setMany, getL, List.getElem?_cons_zero, List.getElem?_cons_succ, List.set_cons_zero, List.set_cons_succ, wipeL, tl0, tl1, tl2, tl3, tl4, tl5, tl6, Bool.not_true, Bool.not_false, decide_eq_true_eq, if_true, if_false, ite_true, ite_false, eq_self, Bool.false_eq_true, is_row_eq F_is_row F_is_sequence hx, hr, and_self, decide_true, i0, i1, is_second_eq (show 0 ≤ a.at_ ∧ a.at_ ≤ 10000000000 from ⟨ha.2.1, Int.le_trans ha.2.2 (by decide)⟩), k_in4 ha.1]
  rcases ha.1 with h | h | h | h | h | h | h <;> rw [h]
  all_goals simp only [ev_var, ev_cst, ev_bin, ev_neg, ev_cmp, ev_chain', ev_and, ev_or, ev_not, ev_ite, ev_tup, ev_lst, ev_ix, ev_sl, ev_call, ev_bt, ev_mt, ev_isi, ev_lc, ev_nil, ev_cons, ev_onone, ev_osome, ev_cnone, ev_csome, ev_ie, ev_rng, ev_enu, asT, ex_asg, ex_asgS, ex_par, ex_aug, ex_ite, ex_whl, ex_for, ex_expr, ex_ret, ex_retN, ex_pass, ex_brk, ex_cont, ex_never, ex_nil, ex_cons', W_ok, W_bind, fin_ret, fin_next, chK_bl, sq_next, sq_ret, sq_brk, sq_cont, bnd_ok, b_add, b_sub, i_add, i_sub, c_lt, c_le, c_gt, c_ge, c_eq, c_ne, c_eqs, c_nes, c_eqb, t_bl, t_int, t_non, p_int, f_int, as_n, as_t2, as_t3, setMany, getL, List.getElem?_cons_zero, List.getElem?_cons_succ, List.set_cons_zero, List.set_cons_succ, wipeL, tl0, tl1, tl2, tl3, tl4, tl5, tl6, Bool.not_true, Bool.not_false, decide_eq_true_eq, if_true, if_false, ite_true, ite_false, eq_self, Bool.false_eq_true, ki, Option.isNone_none, Option.isNone_some, is_within_eq F_is_within F_is_integer, and_self]
  all_goals exact ⟨rfl, trivial⟩
/-- the answers, handed as v -/
def An (p : Nat → Prop) (S : Store) (v : PV) (as : List Ans) : Prop := Rows p S v (as.map Ans.row)
theorem An.at {p : Nat → Prop} {v : PV} {as : List Ans} (h : An p S v as) : ∃ xs : List PV, itemsOf S v = some xs ∧ xs.length = as.length ∧ ∀ (i : Nat) (a : Ans), as[i]? = some a → ∃ x, xs[i]? = some x ∧ itemsOf S x = some a.row ∧ NotR p x := by
  obtain ⟨xs, h1, h2, h3, h4⟩ := h
  refine ⟨xs, h1, by rw [h3, List.length_map], fun i a ha => h4 i a.row ?_⟩
  rw [List.getElem?_map, ha]; rfl
theorem An.kp {p : Nat → Prop} {S S' : Store} {v : PV} {as : List Ans} (h : An p S v as) (k : Kp p S S') : An p S' v as := Rows.kp h k
theorem An.sub {p : Nat → Prop} {S S' : Store} {v : PV} {as : List Ans} (h : An p S v as) (k : Mp.Sub S S') : An p S' v as := Rows.kp h (.of k)
/-- the first | second items of the rows -/
def colF (S : Store) (n : Nat) (x : PV) : PV := match itemsOf S x with | some r => r.getD n .non | none => .non
theorem col_map {S : Store} {n : Nat} {xs : List PV} {as : List Ans} (hl : xs.length = as.length) (h : ∀ (i : Nat) (a : Ans), as[i]? = some a → ∃ x, xs[i]? = some x ∧ itemsOf S x = some a.row) : xs.map (colF S n) = as.map fun a => a.row.getD n .non := by
  apply List.ext_getElem?
  intro i
  rw [List.getElem?_map, List.getElem?_map]
  cases ha : as[i]? with
  | none =>
    have := List.getElem?_eq_none_iff.mp ha
    rw [List.getElem?_eq_none (by omega)]; rfl
  | some a =>
    obtain ⟨x, h1, h2⟩ := h i a ha
    rw [h1]
    show some (colF S n x) = some _
    unfold colF
    rw [h2]
def Rise (as : List Ans) : Prop := (as.map Ans.at_).Pairwise (· < ·)
theorem mem_row {S : Store} {xs : List PV} {as : List Ans} (hl : xs.length = as.length) (h : ∀ (i : Nat) (a : Ans), as[i]? = some a → ∃ x, xs[i]? = some x ∧ itemsOf S x = some a.row) {x : PV} (hx : x ∈ xs) : ∃ a, a ∈ as ∧ itemsOf S x = some a.row := by
  obtain ⟨i, hi⟩ := List.getElem?_of_mem hx
  have hlt := (List.getElem?_eq_some_iff.mp hi).1
  have e : as[i]? = some (as[i]'(by omega)) := List.getElem?_eq_getElem (by omega)
  obtain ⟨x', h1, h2⟩ := h i _ e
  rw [hi] at h1
  cases h1
  exact ⟨_, List.getElem_mem _, h2⟩
theorem are_answers_ok {p : Nat → Prop} {v : PV} {as : List Ans} (h : An p S v as) (hl : as.length ≤ 40) (ho : ∀ a, a ∈ as → a.ok) (hr : Rise as) : W (callN fs fu (k + 5) 11 [v] S) (fun r S' => r = .bl true ∧ Mp.Sub S S') := by
  refine W_fn2 F_are_answers rfl rfl ?_; simp only [List.map_cons, List.map_nil, List.length_cons, List.length_nil, List.cons_append, List.nil_append, List.append_nil, List.replicate_succ, List.replicate_zero, Nat.reduceAdd, Nat.reduceSub, Nat.zero_add]
  unfold B_are_answers
  obtain ⟨xs, hx, hxl, hxa⟩ := h.at
  have hxa' : ∀ (i : Nat) (a : Ans), as[i]? = some a → ∃ x, xs[i]? = some x ∧ itemsOf S x = some a.row := fun i a ha => by obtain ⟨x, h1, h2, _⟩ := hxa i a ha; exact ⟨x, h1, h2⟩
  have hrow : (0 : Int) ≤ (xs.length : Int) ∧ (xs.length : Int) ≤ 40 := by omega
  simp only [ev_var, ev_cst, ev_bin, ev_neg, ev_cmp, ev_chain', ev_and, ev_or, ev_not, ev_ite, ev_tup, ev_lst, ev_ix, ev_sl, ev_call, ev_bt, ev_mt, ev_isi, ev_lc, ev_nil, ev_cons, ev_onone, ev_osome, ev_cnone, ev_csome, ev_ie, ev_rng, ev_enu, asT, ex_asg, ex_asgS, ex_par, ex_aug, ex_ite, ex_whl, ex_for, ex_expr, ex_ret, ex_retN, ex_pass, ex_brk, ex_cont, ex_never, ex_nil, ex_cons', W_ok, W_bind, fin_ret, fin_next, chK_bl, sq_next, sq_ret, sq_brk, sq_cont, bnd_ok, b_add, b_sub, i_add, i_sub, c_lt, c_le, c_gt, c_ge, c_eq, c_ne, c_eqs, c_nes, c_eqb, t_bl, t_int, t_non, p_int, f_int, as_n, as_t2, as_t3, setMany, getL, List.getElem?_cons_zero, List.getElem?_cons_succ, List.set_cons_zero, List.set_cons_succ, wipeL, tl0, tl1, tl2, tl3, tl4, tl5, tl6, Bool.not_true, Bool.not_false, decide_eq_true_eq, if_true, if_false, ite_true, ite_false, eq_self, Bool.false_eq_true, is_row_eq F_is_row F_is_sequence hx, hrow, and_self, decide_true]
  refine W_it hx fun r hi hpn => ?_
  refine (W_lcB (p := fun _ => True) (fun _ => true) hi (hpn _ sub_true) (by unfold lim; omega) fun y hy S1 k1 => ?_).mono fun ys S1 q => ?_
  · obtain ⟨a, ham, hrow⟩ := mem_row hxl hxa' hy
    simp only [ev_var, ev_cst, ev_bin, ev_neg, ev_cmp, ev_chain', ev_and, ev_or, ev_not, ev_ite, ev_tup, ev_lst, ev_ix, ev_sl, ev_call, ev_bt, ev_mt, ev_isi, ev_lc, ev_nil, ev_cons, ev_onone, ev_osome, ev_cnone, ev_csome, ev_ie, ev_rng, ev_enu, asT, ex_asg, ex_asgS, ex_par, ex_aug, ex_ite, ex_whl, ex_for, ex_expr, ex_ret, ex_retN, ex_pass, ex_brk, ex_cont, ex_never, ex_nil, ex_cons', W_ok, W_bind, fin_ret, fin_next, chK_bl, sq_next, sq_ret, sq_brk, sq_cont, bnd_ok, b_add, b_sub, i_add, i_sub, c_lt, c_le, c_gt, c_ge, c_eq, c_ne, c_eqs, c_nes, c_eqb, t_bl, t_int, t_non, p_int, f_int, as_n, as_t2, as_t3, setMany, getL, List.getElem?_cons_zero, List.getElem?_cons_succ, List.set_cons_zero, List.set_cons_succ, wipeL, tl0, tl1, tl2, tl3, tl4, tl5, tl6, Bool.not_true, Bool.not_false, decide_eq_true_eq, if_true, if_false, ite_true, ite_false, eq_self, Bool.false_eq_true, is_answer_eq (items_sub k1 hrow) (ho a ham)]
    exact ⟨by trivial, .refl⟩
  obtain ⟨rfl, k1⟩ := q
  have k2 := k1.trans (.push (o := .lst ((xs.map fun _ => true).map .bl)))
  simp only [ev_var, ev_cst, ev_bin, ev_neg, ev_cmp, ev_chain', ev_and, ev_or, ev_not, ev_ite, ev_tup, ev_lst, ev_ix, ev_sl, ev_call, ev_bt, ev_mt, ev_isi, ev_lc, ev_nil, ev_cons, ev_onone, ev_osome, ev_cnone, ev_csome, ev_ie, ev_rng, ev_enu, asT, ex_asg, ex_asgS, ex_par, ex_aug, ex_ite, ex_whl, ex_for, ex_expr, ex_ret, ex_retN, ex_pass, ex_brk, ex_cont, ex_never, ex_nil, ex_cons', W_ok, W_bind, fin_ret, fin_next, chK_bl, sq_next, sq_ret, sq_brk, sq_cont, bnd_ok, b_add, b_sub, i_add, i_sub, c_lt, c_le, c_gt, c_ge, c_eq, c_ne, c_eqs, c_nes, c_eqb, t_bl, t_int, t_non, p_int, f_int, as_n, as_t2, as_t3, setMany, getL, List.getElem?_cons_zero, List.getElem?_cons_succ, List.set_cons_zero, List.set_cons_succ, wipeL, tl0, tl1, tl2, tl3, tl4, tl5, tl6, Bool.not_true, Bool.not_false, decide_eq_true_eq, if_true, if_false, ite_true, ite_false, eq_self, Bool.false_eq_true, f_all at_push, all_id]
  refine W_it (items_sub k2 hx) fun r2 hi2 hpn2 => ?_
  refine (W_lcM (p := fun _ => True) (colF S 0) hi2 (hpn2 _ sub_true) (by unfold lim; omega) fun y hy S3 k3 => ?_).mono fun ys S3 q => ?_
  · obtain ⟨a, ham, hrow⟩ := mem_row hxl hxa' hy
    have i0 : ixV y (.int 0) S3 = .ok (.int a.at_) S3 := ix_at (items_sub (k2.trans k3) hrow) (by decide) rfl
    simp only [ev_var, ev_cst, ev_bin, ev_neg, ev_cmp, ev_chain', ev_and, ev_or, ev_not, ev_ite, ev_tup, ev_lst, ev_ix, ev_sl, ev_call, ev_bt, ev_mt, ev_isi, ev_lc, ev_nil, ev_cons, ev_onone, ev_osome, ev_cnone, ev_csome, ev_ie, ev_rng, ev_enu, asT, ex_asg, ex_asgS, ex_par, ex_aug, ex_ite, ex_whl, ex_for, ex_expr, ex_ret, ex_retN, ex_pass, ex_brk, ex_cont, ex_never, ex_nil, ex_cons', W_ok, W_bind, fin_ret, fin_next, chK_bl, sq_next, sq_ret, sq_brk, sq_cont, bnd_ok, b_add, b_sub, i_add, i_sub, c_lt, c_le, c_gt, c_ge, c_eq, c_ne, c_eqs, c_nes, c_eqb, t_bl, t_int, t_non, p_int, f_int, as_n, as_t2, as_t3, setMany, getL, List.getElem?_cons_zero, List.getElem?_cons_succ, List.set_cons_zero, List.set_cons_succ, wipeL, tl0, tl1, tl2, tl3, tl4, tl5, tl6, Bool.not_true, Bool.not_false, decide_eq_true_eq, if_true, if_false, ite_true, ite_false, eq_self, Bool.false_eq_true, i0]
    refine ⟨?_, .refl⟩
    unfold colF
    rw [hrow]; rfl
  obtain ⟨rfl, k3⟩ := q
  have ec : xs.map (colF S 0) = (as.map Ans.at_).map .int := by rw [col_map hxl hxa', List.map_map]; rfl
  rw [ec]
  refine (rising_ok F_are_rising (items_ref at_push) hr (by rw [List.length_map]; omega)).mono fun r4 S4 q => ?_
  try simp only [ev_var, ev_cst, ev_bin, ev_neg, ev_cmp, ev_chain', ev_and, ev_or, ev_not, ev_ite, ev_tup, ev_lst, ev_ix, ev_sl, ev_call, ev_bt, ev_mt, ev_isi, ev_lc, ev_nil, ev_cons, ev_onone, ev_osome, ev_cnone, ev_csome, ev_ie, ev_rng, ev_enu, asT, ex_asg, ex_asgS, ex_par, ex_aug, ex_ite, ex_whl, ex_for, ex_expr, ex_ret, ex_retN, ex_pass, ex_brk, ex_cont, ex_never, ex_nil, ex_cons', W_ok, W_bind, fin_ret, fin_next, chK_bl, sq_next, sq_ret, sq_brk, sq_cont, bnd_ok, b_add, b_sub, i_add, i_sub, c_lt, c_le, c_gt, c_ge, c_eq, c_ne, c_eqs, c_nes, c_eqb, t_bl, t_int, t_non, p_int, f_int, as_n, as_t2, as_t3, setMany, getL, List.getElem?_cons_zero, List.getElem?_cons_succ, List.set_cons_zero, List.set_cons_succ, wipeL, tl0, tl1, tl2, tl3, tl4, tl5, tl6, Bool.not_true, Bool.not_false, decide_eq_true_eq, if_true, if_false, ite_true, ite_false, eq_self, Bool.false_eq_true]
  exact ⟨q.1, ((k2.trans k3).trans .push).trans q.2⟩
theorem demand_answers_ok {p : Nat → Prop} {v : PV} {as : List Ans} {lo hi : Int} (h : An p S v as) (hl : as.length ≤ 40) (ho : ∀ a, a ∈ as → a.ok) (hr : Rise as) (h1 : 1 ≤ lo) (h2 : lo ≤ hi) (h3 : hi ≤ 1000000) : W (callN fs fu (k + 6) 12 [v, .int lo, .int hi] S) (fun r S' => r = .non ∧ Mp.Sub S S') := by
  refine W_fn2 F_demand_answers rfl rfl ?_; simp only [List.map_cons, List.map_nil, List.length_cons, List.length_nil, List.cons_append, List.nil_append, List.append_nil, List.replicate_succ, List.replicate_zero, Nat.reduceAdd, Nat.reduceSub, Nat.zero_add]
  unfold B_demand_answers
  try simp only [ev_var, ev_cst, ev_bin, ev_neg, ev_cmp, ev_chain', ev_and, ev_or, ev_not, ev_ite, ev_tup, ev_lst, ev_ix, ev_sl, ev_call, ev_bt, ev_mt, ev_isi, ev_lc, ev_nil, ev_cons, ev_onone, ev_osome, ev_cnone, ev_csome, ev_ie, ev_rng, ev_enu, asT, ex_asg, ex_asgS, ex_par, ex_aug, ex_ite, ex_whl, ex_for, ex_expr, ex_ret, ex_retN, ex_pass, ex_brk, ex_cont, ex_never, ex_nil, ex_cons', W_ok, W_bind, fin_ret, fin_next, chK_bl, sq_next, sq_ret, sq_brk, sq_cont, bnd_ok, b_add, b_sub, i_add, i_sub, c_lt, c_le, c_gt, c_ge, c_eq, c_ne, c_eqs, c_nes, c_eqb, t_bl, t_int, t_non, p_int, f_int, as_n, as_t2, as_t3, setMany, getL, List.getElem?_cons_zero, List.getElem?_cons_succ, List.set_cons_zero, List.set_cons_succ, wipeL, tl0, tl1, tl2, tl3, tl4, tl5, tl6, Bool.not_true, Bool.not_false, decide_eq_true_eq, if_true, if_false, ite_true, ite_false, eq_self, Bool.false_eq_true]
  refine (are_answers_ok h hl ho hr).mono fun r S1 q => ?_
  obtain ⟨rfl, k1⟩ := q
  simp only [ev_var, ev_cst, ev_bin, ev_neg, ev_cmp, ev_chain', ev_and, ev_or, ev_not, ev_ite, ev_tup, ev_lst, ev_ix, ev_sl, ev_call, ev_bt, ev_mt, ev_isi, ev_lc, ev_nil, ev_cons, ev_onone, ev_osome, ev_cnone, ev_csome, ev_ie, ev_rng, ev_enu, asT, ex_asg, ex_asgS, ex_par, ex_aug, ex_ite, ex_whl, ex_for, ex_expr, ex_ret, ex_retN, ex_pass, ex_brk, ex_cont, ex_never, ex_nil, ex_cons', W_ok, W_bind, fin_ret, fin_next, chK_bl, sq_next, sq_ret, sq_brk, sq_cont, bnd_ok, b_add, b_sub, i_add, i_sub, c_lt, c_le, c_gt, c_ge, c_eq, c_ne, c_eqs, c_nes, c_eqb, t_bl, t_int, t_non, p_int, f_int, as_n, as_t2, as_t3, setMany, getL, List.getElem?_cons_zero, List.getElem?_cons_succ, List.set_cons_zero, List.set_cons_succ, wipeL, tl0, tl1, tl2, tl3, tl4, tl5, tl6, Bool.not_true, Bool.not_false, decide_eq_true_eq, if_true, if_false, ite_true, ite_false, eq_self, Bool.false_eq_true, demand_eq F_demand, is_within_eq F_is_within F_is_integer, show 1 ≤ lo ∧ lo ≤ 1000000 from ⟨h1, Int.le_trans h2 h3⟩, show 1 ≤ hi ∧ hi ≤ 1000000 from ⟨Int.le_trans h1 h2, h3⟩, h2, and_self, decide_true]
  exact ⟨trivial, k1⟩
/-! ### the waits -/
def nextW (lo hi w : Int) (kd : PV) : Int :=
  if kb NEW kd = true then (if w / 2 > lo then w / 2 else lo) else if kb SAME kd = true then (if w * 2 < hi then w * 2 else hi) else if kb FAIL kd = true then (if w * 4 < hi then w * 4 else hi) else w
def waits (lo hi : Int) : Int → List Ans → List Int
  | _, [] => []
  | w, a :: as => if kb GONE a.kd = true then [] else nextW lo hi w a.kd :: waits lo hi (nextW lo hi w a.kd) as
theorem waits_cons (lo hi w : Int) (a : Ans) (as : List Ans) : waits lo hi w (a :: as) = if kb GONE a.kd = true then [] else nextW lo hi w a.kd :: waits lo hi (nextW lo hi w a.kd) as := rfl
theorem waits_len (lo hi : Int) : ∀ (as : List Ans) (w : Int), (waits lo hi w as).length ≤ as.length
  | [], _ => Nat.le_refl _
  | a :: as, w => by
    unfold waits
    split
    · exact Nat.zero_le _
    · rw [List.length_cons, List.length_cons]
      exact Nat.succ_le_succ (waits_len lo hi as _)
theorem sub_of_kp {S S1 S' : Store} {f : Nat} (a : Mp.Sub S S1) (b : Kp (fun m => m ≠ f) S1 S') (h : S.length ≤ f) : Mp.Sub S S' := fun n o _ e => b n o (by have := (List.getElem?_eq_some_iff.mp e).1; omega) (a n o trivial e)
theorem not_of_lt {x : PV} {xs : List PV} {f : Nat} (h : itemsOf S x = some xs) (hf : S.length ≤ f) : NotR (fun m => m ≠ f) x := by
  cases x with
  | ref n =>
    unfold itemsOf at h
    dsimp only at h
    split at h
    · rename_i ys e
      have := lt_of_at e
      show n ≠ f
      omega
    · cases h
  | _ => exact trivial
theorem wdN : Wd NEW := .inl rfl
theorem wdS : Wd SAME := .inr (.inl rfl)
theorem wdF : Wd FAIL := .inr (.inr (.inl rfl))
theorem wdG : Wd GONE := .inr (.inr (.inr rfl))
theorem unchecked_waits_ok {p : Nat → Prop} {v : PV} {as : List Ans} {lo hi : Int} (h : An p S v as) (hl : as.length ≤ 40) (ho : ∀ a, a ∈ as → a.ok) :
    W (callN fs fu (k + 1) 13 [v, .int lo, .int hi] S) (fun r S' => ∃ f, r = .ref f ∧ S'[f]? = some (.lst ((waits lo hi lo as).map .int)) ∧ S.length ≤ f ∧ Mp.Sub S S') := by
  refine W_fn2 F_unchecked_waits rfl rfl ?_; simp only [List.map_cons, List.map_nil, List.length_cons, List.length_nil, List.cons_append, List.nil_append, List.append_nil, List.replicate_succ, List.replicate_zero, Nat.reduceAdd, Nat.reduceSub, Nat.zero_add]
  unfold B_unchecked_waits
  obtain ⟨xs, hx, hxl, hxa⟩ := h.at
  try simp only [ev_var, ev_cst, ev_bin, ev_neg, ev_cmp, ev_chain', ev_and, ev_or, ev_not, ev_ite, ev_tup, ev_lst, ev_ix, ev_sl, ev_call, ev_bt, ev_mt, ev_isi, ev_lc, ev_nil, ev_cons, ev_onone, ev_osome, ev_cnone, ev_csome, ev_ie, ev_rng, ev_enu, asT, ex_asg, ex_asgS, ex_par, ex_aug, ex_ite, ex_whl, ex_for, ex_expr, ex_ret, ex_retN, ex_pass, ex_brk, ex_cont, ex_never, ex_nil, ex_cons', W_ok, W_bind, fin_ret, fin_next, chK_bl, sq_next, sq_ret, sq_brk, sq_cont, bnd_ok, b_add, b_sub, i_add, i_sub, c_lt, c_le, c_gt, c_ge, c_eq, c_ne, c_eqs, c_nes, c_eqb, t_bl, t_int, t_non, p_int, f_int, as_n, as_t2, as_t3, setMany, getL, List.getElem?_cons_zero, List.getElem?_cons_succ, List.set_cons_zero, List.set_cons_succ, wipeL, tl0, tl1, tl2, tl3, tl4, tl5, tl6, Bool.not_true, Bool.not_false, decide_eq_true_eq, if_true, if_false, ite_true, ite_false, eq_self, Bool.false_eq_true]
  have k0 : Mp.Sub S (S ++ [SO.lst []]) := .push
  have hf0 := at_push (S := S) (o := SO.lst [])
  have hnx : NotR (fun m => m ≠ S.length) v := not_of_lt hx (Nat.le_refl _)
  have hrow0 : ∀ (i : Nat) (a : Ans), as[i]? = some a → ∃ x, xs[i]? = some x ∧ itemsOf (S ++ [SO.lst []]) x = some a.row ∧ NotR (fun m => m ≠ S.length) x := fun i a ha => by
    obtain ⟨x, h1, h2, _⟩ := hxa i a ha
    exact ⟨x, h1, items_sub k0 h2, not_of_lt h2 (Nat.le_refl _)⟩
  have hx0 := items_sub k0 hx
  have hfl : S.length ≤ S.length := Nat.le_refl _
  generalize hf : S.length = f at hf0 hnx hrow0 ⊢
  generalize S ++ [SO.lst []] = S1 at k0 hf0 hrow0 hx0 ⊢
  refine W_it hx0 fun r hi1 hpn => ?_
  refine W_for0 hi1 (fun m ρ S' => Kp (fun n => n ≠ f) S1 S' ∧ ∃ (ws : List Int) (w : Int) (z5 z6 : Option PV), S'[f]? = some (.lst (ws.map .int)) ∧ ws.length ≤ m ∧ m ≤ 40 ∧ waits lo hi lo as = ws ++ waits lo hi w (as.drop m) ∧ ρ = [some v, some (.int lo), some (.int hi), some (.ref f), some (.int w), z5, z6])
    ⟨.refl, [], lo, _, _, hf0, Nat.le_refl _, by omega, rfl, rfl⟩ (fun m ρ S' h => hi1.kp (hpn _ hnx) h.1) (fun m x ρ S2 hxm hI => ?_) fun ρ S2 hI => ?_
  · obtain ⟨k2, ws, w, z5, z6, hws, hwl, hm, heq, rfl⟩ := hI
    have hlt := (List.getElem?_eq_some_iff.mp hxm).1
    have ea : as[m]? = some (as[m]'(by omega)) := List.getElem?_eq_getElem (by omega)
    generalize as[m]'(by omega) = a at ea
    obtain ⟨x', g1, g2, g3⟩ := hrow0 m a ea
    rw [hxm] at g1
    cases g1
    have hok := ho a (List.mem_of_getElem? ea)
    have hd : as.drop m = a :: as.drop (m + 1) := by
      rw [List.drop_eq_getElem_cons (show m < as.length by omega)]
      rw [List.getElem?_eq_getElem (show m < as.length by omega)] at ea
      rw [Option.some.inj ea]
    rw [hd, waits_cons] at heq
    try simp only [ev_var, ev_cst, ev_bin, ev_neg, ev_cmp, ev_chain', ev_and, ev_or, ev_not, ev_ite, ev_tup, ev_lst, ev_ix, ev_sl, ev_call, ev_bt, ev_mt, ev_isi, ev_lc, ev_nil, ev_cons, ev_onone, ev_osome, ev_cnone, ev_csome, ev_ie, ev_rng, ev_enu, asT, ex_asg, ex_asgS, ex_par, ex_aug, ex_ite, ex_whl, ex_for, ex_expr, ex_ret, ex_retN, ex_pass, ex_brk, ex_cont, ex_never, ex_nil, ex_cons', W_ok, W_bind, fin_ret, fin_next, chK_bl, sq_next, sq_ret, sq_brk, sq_cont, bnd_ok, b_add, b_sub, i_add, i_sub, c_lt, c_le, c_gt, c_ge, c_eq, c_ne, c_eqs, c_nes, c_eqb, t_bl, t_int, t_non, p_int, f_int, as_n, as_t2, as_t3, setMany, getL, List.getElem?_cons_zero, List.getElem?_cons_succ, List.set_cons_zero, List.set_cons_succ, wipeL, tl0, tl1, tl2, tl3, tl4, tl5, tl6, Bool.not_true, Bool.not_false, decide_eq_true_eq, if_true, if_false, ite_true, ite_false, eq_self, Bool.false_eq_true]
    refine W_as2 (items_kp k2 g3 g2) ?_
    simp only [ev_var, ev_cst, ev_bin, ev_neg, ev_cmp, ev_chain', ev_and, ev_or, ev_not, ev_ite, ev_tup, ev_lst, ev_ix, ev_sl, ev_call, ev_bt, ev_mt, ev_isi, ev_lc, ev_nil, ev_cons, ev_onone, ev_osome, ev_cnone, ev_csome, ev_ie, ev_rng, ev_enu, asT, ex_asg, ex_asgS, ex_par, ex_aug, ex_ite, ex_whl, ex_for, ex_expr, ex_ret, ex_retN, ex_pass, ex_brk, ex_cont, ex_never, ex_nil, ex_cons', W_ok, W_bind, fin_ret, fin_next, chK_bl, sq_next, sq_ret, sq_brk, sq_cont, bnd_ok, b_add, b_sub, i_add, i_sub, c_lt, c_le, c_gt, c_ge, c_eq, c_ne, c_eqs, c_nes, c_eqb, t_bl, t_int, t_non, p_int, f_int, as_n, as_t2, as_t3, setMany, getL, List.getElem?_cons_zero, List.getElem?_cons_succ, List.set_cons_zero, List.set_cons_succ, wipeL, tl0, tl1, tl2, tl3, tl4, tl5, tl6, Bool.not_true, Bool.not_false, decide_eq_true_eq, if_true, if_false, ite_true, ite_false, eq_self, Bool.false_eq_true, k_eq hok.1 wdG]
    by_cases hg : kb GONE a.kd = true
    · rw [if_pos hg] at heq ⊢
      try simp only [ev_var, ev_cst, ev_bin, ev_neg, ev_cmp, ev_chain', ev_and, ev_or, ev_not, ev_ite, ev_tup, ev_lst, ev_ix, ev_sl, ev_call, ev_bt, ev_mt, ev_isi, ev_lc, ev_nil, ev_cons, ev_onone, ev_osome, ev_cnone, ev_csome, ev_ie, ev_rng, ev_enu, asT, ex_asg, ex_asgS, ex_par, ex_aug, ex_ite, ex_whl, ex_for, ex_expr, ex_ret, ex_retN, ex_pass, ex_brk, ex_cont, ex_never, ex_nil, ex_cons', W_ok, W_bind, fin_ret, fin_next, chK_bl, sq_next, sq_ret, sq_brk, sq_cont, bnd_ok, b_add, b_sub, i_add, i_sub, c_lt, c_le, c_gt, c_ge, c_eq, c_ne, c_eqs, c_nes, c_eqb, t_bl, t_int, t_non, p_int, f_int, as_n, as_t2, as_t3, setMany, getL, List.getElem?_cons_zero, List.getElem?_cons_succ, List.set_cons_zero, List.set_cons_succ, wipeL, tl0, tl1, tl2, tl3, tl4, tl5, tl6, Bool.not_true, Bool.not_false, decide_eq_true_eq, if_true, if_false, ite_true, ite_false, eq_self, Bool.false_eq_true]
      rw [List.append_nil] at heq
      refine ⟨f, rfl, by rw [heq]; exact hws, by omega, ?_⟩
      exact sub_of_kp k0 k2 (by omega)
    · rw [if_neg hg] at heq ⊢
      have hl2 : (ws.map PV.int).length < lim := by rw [List.length_map]; unfold lim; omega
      have hdone : Kp (fun n => n ≠ f) S1 (S2.set f (.lst ((ws ++ [nextW lo hi w a.kd]).map .int))) ∧ (S2.set f (.lst ((ws ++ [nextW lo hi w a.kd]).map .int)))[f]? = some (.lst ((ws ++ [nextW lo hi w a.kd]).map .int)) :=
        ⟨k2.trans (.set fun h => h rfl), List.getElem?_set_self (lt_of_at hws)⟩
      have heq2 : waits lo hi lo as = (ws ++ [nextW lo hi w a.kd]) ++ waits lo hi (nextW lo hi w a.kd) (as.drop (m + 1)) := by rw [heq]; simp
      have hlen2 : (ws ++ [nextW lo hi w a.kd]).length ≤ m + 1 := by rw [List.length_append]; show _ + 1 ≤ _; omega
      have hm2 : m + 1 ≤ 40 := by omega
      generalize hnw : nextW lo hi w a.kd = nw at hdone heq2 hlen2
      unfold nextW at hnw
      simp only [ev_var, ev_cst, ev_bin, ev_neg, ev_cmp, ev_chain', ev_and, ev_or, ev_not, ev_ite, ev_tup, ev_lst, ev_ix, ev_sl, ev_call, ev_bt, ev_mt, ev_isi, ev_lc, ev_nil, ev_cons, ev_onone, ev_osome, ev_cnone, ev_csome, ev_ie, ev_rng, ev_enu, asT, ex_asg, ex_asgS, ex_par, ex_aug, ex_ite, ex_whl, ex_for, ex_expr, ex_ret, ex_retN, ex_pass, ex_brk, ex_cont, ex_never, ex_nil, ex_cons', W_ok, W_bind, fin_ret, fin_next, chK_bl, sq_next, sq_ret, sq_brk, sq_cont, bnd_ok, b_add, b_sub, i_add, i_sub, c_lt, c_le, c_gt, c_ge, c_eq, c_ne, c_eqs, c_nes, c_eqb, t_bl, t_int, t_non, p_int, f_int, as_n, as_t2, as_t3, setMany, getL, List.getElem?_cons_zero, List.getElem?_cons_succ, List.set_cons_zero, List.set_cons_succ, wipeL, tl0, tl1, tl2, tl3, tl4, tl5, tl6, Bool.not_true, Bool.not_false, decide_eq_true_eq, if_true, if_false, ite_true, ite_false, eq_self, Bool.false_eq_true, k_eq hok.1 wdN]
      by_cases h1 : kb NEW a.kd = true
      · rw [if_pos h1] at hnw ⊢
        simp only [ev_var, ev_cst, ev_bin, ev_neg, ev_cmp, ev_chain', ev_and, ev_or, ev_not, ev_ite, ev_tup, ev_lst, ev_ix, ev_sl, ev_call, ev_bt, ev_mt, ev_isi, ev_lc, ev_nil, ev_cons, ev_onone, ev_osome, ev_cnone, ev_csome, ev_ie, ev_rng, ev_enu, asT, ex_asg, ex_asgS, ex_par, ex_aug, ex_ite, ex_whl, ex_for, ex_expr, ex_ret, ex_retN, ex_pass, ex_brk, ex_cont, ex_never, ex_nil, ex_cons', W_ok, W_bind, fin_ret, fin_next, chK_bl, sq_next, sq_ret, sq_brk, sq_cont, bnd_ok, b_add, b_sub, i_add, i_sub, c_lt, c_le, c_gt, c_ge, c_eq, c_ne, c_eqs, c_nes, c_eqb, t_bl, t_int, t_non, p_int, f_int, as_n, as_t2, as_t3, setMany, getL, List.getElem?_cons_zero, List.getElem?_cons_succ, List.set_cons_zero, List.set_cons_succ, wipeL, tl0, tl1, tl2, tl3, tl4, tl5, tl6, Bool.not_true, Bool.not_false, decide_eq_true_eq, if_true, if_false, ite_true, ite_false, eq_self, Bool.false_eq_true, b_div (show (0 : Int) < 2 ∧ (2 : Int) < 1073741824 by decide), f_max2, hnw, mtTy, ty_ref hws, m_append hws hl2, map_snoc]
        exact ⟨hdone.1, _, nw, _, _, hdone.2, hlen2, hm2, heq2, rfl⟩
      · rw [if_neg h1] at hnw ⊢
        simp only [ev_var, ev_cst, ev_bin, ev_neg, ev_cmp, ev_chain', ev_and, ev_or, ev_not, ev_ite, ev_tup, ev_lst, ev_ix, ev_sl, ev_call, ev_bt, ev_mt, ev_isi, ev_lc, ev_nil, ev_cons, ev_onone, ev_osome, ev_cnone, ev_csome, ev_ie, ev_rng, ev_enu, asT, ex_asg, ex_asgS, ex_par, ex_aug, ex_ite, ex_whl, ex_for, ex_expr, ex_ret, ex_retN, ex_pass, ex_brk, ex_cont, ex_never, ex_nil, ex_cons', W_ok, W_bind, fin_ret, fin_next, chK_bl, sq_next, sq_ret, sq_brk, sq_cont, bnd_ok, b_add, b_sub, i_add, i_sub, c_lt, c_le, c_gt, c_ge, c_eq, c_ne, c_eqs, c_nes, c_eqb, t_bl, t_int, t_non, p_int, f_int, as_n, as_t2, as_t3, setMany, getL, List.getElem?_cons_zero, List.getElem?_cons_succ, List.set_cons_zero, List.set_cons_succ, wipeL, tl0, tl1, tl2, tl3, tl4, tl5, tl6, Bool.not_true, Bool.not_false, decide_eq_true_eq, if_true, if_false, ite_true, ite_false, eq_self, Bool.false_eq_true, k_eq hok.1 wdS]
        by_cases h2 : kb SAME a.kd = true
        · rw [if_pos h2] at hnw ⊢
          simp only [ev_var, ev_cst, ev_bin, ev_neg, ev_cmp, ev_chain', ev_and, ev_or, ev_not, ev_ite, ev_tup, ev_lst, ev_ix, ev_sl, ev_call, ev_bt, ev_mt, ev_isi, ev_lc, ev_nil, ev_cons, ev_onone, ev_osome, ev_cnone, ev_csome, ev_ie, ev_rng, ev_enu, asT, ex_asg, ex_asgS, ex_par, ex_aug, ex_ite, ex_whl, ex_for, ex_expr, ex_ret, ex_retN, ex_pass, ex_brk, ex_cont, ex_never, ex_nil, ex_cons', W_ok, W_bind, fin_ret, fin_next, chK_bl, sq_next, sq_ret, sq_brk, sq_cont, bnd_ok, b_add, b_sub, i_add, i_sub, c_lt, c_le, c_gt, c_ge, c_eq, c_ne, c_eqs, c_nes, c_eqb, t_bl, t_int, t_non, p_int, f_int, as_n, as_t2, as_t3, setMany, getL, List.getElem?_cons_zero, List.getElem?_cons_succ, List.set_cons_zero, List.set_cons_succ, wipeL, tl0, tl1, tl2, tl3, tl4, tl5, tl6, Bool.not_true, Bool.not_false, decide_eq_true_eq, if_true, if_false, ite_true, ite_false, eq_self, Bool.false_eq_true, b_mul (sm 2), f_min2, hnw, mtTy, ty_ref hws, m_append hws hl2, map_snoc]
          exact ⟨hdone.1, _, nw, _, _, hdone.2, hlen2, hm2, heq2, rfl⟩
        · rw [if_neg h2] at hnw ⊢
          simp only [ev_var, ev_cst, ev_bin, ev_neg, ev_cmp, ev_chain', ev_and, ev_or, ev_not, ev_ite, ev_tup, ev_lst, ev_ix, ev_sl, ev_call, ev_bt, ev_mt, ev_isi, ev_lc, ev_nil, ev_cons, ev_onone, ev_osome, ev_cnone, ev_csome, ev_ie, ev_rng, ev_enu, asT, ex_asg, ex_asgS, ex_par, ex_aug, ex_ite, ex_whl, ex_for, ex_expr, ex_ret, ex_retN, ex_pass, ex_brk, ex_cont, ex_never, ex_nil, ex_cons', W_ok, W_bind, fin_ret, fin_next, chK_bl, sq_next, sq_ret, sq_brk, sq_cont, bnd_ok, b_add, b_sub, i_add, i_sub, c_lt, c_le, c_gt, c_ge, c_eq, c_ne, c_eqs, c_nes, c_eqb, t_bl, t_int, t_non, p_int, f_int, as_n, as_t2, as_t3, setMany, getL, List.getElem?_cons_zero, List.getElem?_cons_succ, List.set_cons_zero, List.set_cons_succ, wipeL, tl0, tl1, tl2, tl3, tl4, tl5, tl6, Bool.not_true, Bool.not_false, decide_eq_true_eq, if_true, if_false, ite_true, ite_false, eq_self, Bool.false_eq_true, k_eq hok.1 wdF]
          by_cases h3 : kb FAIL a.kd = true
          · rw [if_pos h3] at hnw ⊢
            simp only [ev_var, ev_cst, ev_bin, ev_neg, ev_cmp, ev_chain', ev_and, ev_or, ev_not, ev_ite, ev_tup, ev_lst, ev_ix, ev_sl, ev_call, ev_bt, ev_mt, ev_isi, ev_lc, ev_nil, ev_cons, ev_onone, ev_osome, ev_cnone, ev_csome, ev_ie, ev_rng, ev_enu, asT, ex_asg, ex_asgS, ex_par, ex_aug, ex_ite, ex_whl, ex_for, ex_expr, ex_ret, ex_retN, ex_pass, ex_brk, ex_cont, ex_never, ex_nil, ex_cons', W_ok, W_bind, fin_ret, fin_next, chK_bl, sq_next, sq_ret, sq_brk, sq_cont, bnd_ok, b_add, b_sub, i_add, i_sub, c_lt, c_le, c_gt, c_ge, c_eq, c_ne, c_eqs, c_nes, c_eqb, t_bl, t_int, t_non, p_int, f_int, as_n, as_t2, as_t3, setMany, getL, List.getElem?_cons_zero, List.getElem?_cons_succ, List.set_cons_zero, List.set_cons_succ, wipeL, tl0, tl1, tl2, tl3, tl4, tl5, tl6, Bool.not_true, Bool.not_false, decide_eq_true_eq, if_true, if_false, ite_true, ite_false, eq_self, Bool.false_eq_true, b_mul (sm 4), f_min2, hnw, mtTy, ty_ref hws, m_append hws hl2, map_snoc]
            exact ⟨hdone.1, _, nw, _, _, hdone.2, hlen2, hm2, heq2, rfl⟩
          · rw [if_neg h3] at hnw ⊢
            simp only [ev_var, ev_cst, ev_bin, ev_neg, ev_cmp, ev_chain', ev_and, ev_or, ev_not, ev_ite, ev_tup, ev_lst, ev_ix, ev_sl, ev_call, ev_bt, ev_mt, ev_isi, ev_lc, ev_nil, ev_cons, ev_onone, ev_osome, ev_cnone, ev_csome, ev_ie, ev_rng, ev_enu, asT, ex_asg, ex_asgS, ex_par, ex_aug, ex_ite, ex_whl, ex_for, ex_expr, ex_ret, ex_retN, ex_pass, ex_brk, ex_cont, ex_never, ex_nil, ex_cons', W_ok, W_bind, fin_ret, fin_next, chK_bl, sq_next, sq_ret, sq_brk, sq_cont, bnd_ok, b_add, b_sub, i_add, i_sub, c_lt, c_le, c_gt, c_ge, c_eq, c_ne, c_eqs, c_nes, c_eqb, t_bl, t_int, t_non, p_int, f_int, as_n, as_t2, as_t3, setMany, getL, List.getElem?_cons_zero, List.getElem?_cons_succ, List.set_cons_zero, List.set_cons_succ, wipeL, tl0, tl1, tl2, tl3, tl4, tl5, tl6, Bool.not_true, Bool.not_false, decide_eq_true_eq, if_true, if_false, ite_true, ite_false, eq_self, Bool.false_eq_true, hnw, mtTy, ty_ref hws, m_append hws hl2, map_snoc]
            exact ⟨hdone.1, _, nw, _, _, hdone.2, hlen2, hm2, heq2, rfl⟩
  · obtain ⟨k2, ws, w, z5, z6, hws, hwl, hm, heq, rfl⟩ := hI
    rw [hxl, List.drop_length] at heq
    have heq : waits lo hi lo as = ws := by rw [heq]; show ws ++ [] = ws; simp
    try simp only [ev_var, ev_cst, ev_bin, ev_neg, ev_cmp, ev_chain', ev_and, ev_or, ev_not, ev_ite, ev_tup, ev_lst, ev_ix, ev_sl, ev_call, ev_bt, ev_mt, ev_isi, ev_lc, ev_nil, ev_cons, ev_onone, ev_osome, ev_cnone, ev_csome, ev_ie, ev_rng, ev_enu, asT, ex_asg, ex_asgS, ex_par, ex_aug, ex_ite, ex_whl, ex_for, ex_expr, ex_ret, ex_retN, ex_pass, ex_brk, ex_cont, ex_never, ex_nil, ex_cons', W_ok, W_bind, fin_ret, fin_next, chK_bl, sq_next, sq_ret, sq_brk, sq_cont, bnd_ok, b_add, b_sub, i_add, i_sub, c_lt, c_le, c_gt, c_ge, c_eq, c_ne, c_eqs, c_nes, c_eqb, t_bl, t_int, t_non, p_int, f_int, as_n, as_t2, as_t3, setMany, getL, List.getElem?_cons_zero, List.getElem?_cons_succ, List.set_cons_zero, List.set_cons_succ, wipeL, tl0, tl1, tl2, tl3, tl4, tl5, tl6, Bool.not_true, Bool.not_false, decide_eq_true_eq, if_true, if_false, ite_true, ite_false, eq_self, Bool.false_eq_true]
    exact ⟨f, rfl, by rw [heq]; exact hws, by omega, sub_of_kp k0 k2 (by omega)⟩
theorem law_waits_ok {p : Nat → Prop} {v : PV} {as : List Ans} {lo hi : Int} (h : An p S v as) (hl : as.length ≤ 40) (ho : ∀ a, a ∈ as → a.ok) :
    W (callN fs fu (k + 1) 34 [v, .int lo, .int hi] S) (fun r S' => ∃ f, r = .ref f ∧ S'[f]? = some (.lst ((waits lo hi lo as).map .int)) ∧ S.length ≤ f ∧ Mp.Sub S S') := by
  refine W_fn2 F__law_waits rfl rfl ?_; simp only [List.map_cons, List.map_nil, List.length_cons, List.length_nil, List.cons_append, List.nil_append, List.append_nil, List.replicate_succ, List.replicate_zero, Nat.reduceAdd, Nat.reduceSub, Nat.zero_add]
  unfold B__law_waits
  obtain ⟨xs, hx, hxl, hxa⟩ := h.at
  try simp only [ev_var, ev_cst, ev_bin, ev_neg, ev_cmp, ev_chain', ev_and, ev_or, ev_not, ev_ite, ev_tup, ev_lst, ev_ix, ev_sl, ev_call, ev_bt, ev_mt, ev_isi, ev_lc, ev_nil, ev_cons, ev_onone, ev_osome, ev_cnone, ev_csome, ev_ie, ev_rng, ev_enu, asT, ex_asg, ex_asgS, ex_par, ex_aug, ex_ite, ex_whl, ex_for, ex_expr, ex_ret, ex_retN, ex_pass, ex_brk, ex_cont, ex_never, ex_nil, ex_cons', W_ok, W_bind, fin_ret, fin_next, chK_bl, sq_next, sq_ret, sq_brk, sq_cont, bnd_ok, b_add, b_sub, i_add, i_sub, c_lt, c_le, c_gt, c_ge, c_eq, c_ne, c_eqs, c_nes, c_eqb, t_bl, t_int, t_non, p_int, f_int, as_n, as_t2, as_t3, setMany, getL, List.getElem?_cons_zero, List.getElem?_cons_succ, List.set_cons_zero, List.set_cons_succ, wipeL, tl0, tl1, tl2, tl3, tl4, tl5, tl6, Bool.not_true, Bool.not_false, decide_eq_true_eq, if_true, if_false, ite_true, ite_false, eq_self, Bool.false_eq_true]
  have k0 : Mp.Sub S (S ++ [SO.lst []]) := .push
  have hf0 := at_push (S := S) (o := SO.lst [])
  have hnx : NotR (fun m => m ≠ S.length) v := not_of_lt hx (Nat.le_refl _)
  have hrow0 : ∀ (i : Nat) (a : Ans), as[i]? = some a → ∃ x, xs[i]? = some x ∧ itemsOf (S ++ [SO.lst []]) x = some a.row ∧ NotR (fun m => m ≠ S.length) x := fun i a ha => by
    obtain ⟨x, h1, h2, _⟩ := hxa i a ha
    exact ⟨x, h1, items_sub k0 h2, not_of_lt h2 (Nat.le_refl _)⟩
  have hx0 := items_sub k0 hx
  have hfl : S.length ≤ S.length := Nat.le_refl _
  generalize hf : S.length = f at hf0 hnx hrow0 ⊢
  generalize S ++ [SO.lst []] = S1 at k0 hf0 hrow0 hx0 ⊢
  refine W_it hx0 fun r hi1 hpn => ?_
  refine W_for0 hi1 (fun m ρ S' => Kp (fun n => n ≠ f) S1 S' ∧ ∃ (ws : List Int) (w : Int) (z5 z6 : Option PV), S'[f]? = some (.lst (ws.map .int)) ∧ ws.length ≤ m ∧ m ≤ 40 ∧ waits lo hi lo as = ws ++ waits lo hi w (as.drop m) ∧ ρ = [some v, some (.int lo), some (.int hi), some (.int w), some (.ref f), z5, z6])
    ⟨.refl, [], lo, _, _, hf0, Nat.le_refl _, by omega, rfl, rfl⟩ (fun m ρ S' h => hi1.kp (hpn _ hnx) h.1) (fun m x ρ S2 hxm hI => ?_) fun ρ S2 hI => ?_
  · obtain ⟨k2, ws, w, z5, z6, hws, hwl, hm, heq, rfl⟩ := hI
    have hlt := (List.getElem?_eq_some_iff.mp hxm).1
    have ea : as[m]? = some (as[m]'(by omega)) := List.getElem?_eq_getElem (by omega)
    generalize as[m]'(by omega) = a at ea
    obtain ⟨x', g1, g2, g3⟩ := hrow0 m a ea
    rw [hxm] at g1
    cases g1
    have hok := ho a (List.mem_of_getElem? ea)
    have hd : as.drop m = a :: as.drop (m + 1) := by
      rw [List.drop_eq_getElem_cons (show m < as.length by omega)]
      rw [List.getElem?_eq_getElem (show m < as.length by omega)] at ea
      rw [Option.some.inj ea]
    rw [hd, waits_cons] at heq
    try simp only [ev_var, ev_cst, ev_bin, ev_neg, ev_cmp, ev_chain', ev_and, ev_or, ev_not, ev_ite, ev_tup, ev_lst, ev_ix, ev_sl, ev_call, ev_bt, ev_mt, ev_isi, ev_lc, ev_nil, ev_cons, ev_onone, ev_osome, ev_cnone, ev_csome, ev_ie, ev_rng, ev_enu, asT, ex_asg, ex_asgS, ex_par, ex_aug, ex_ite, ex_whl, ex_for, ex_expr, ex_ret, ex_retN, ex_pass, ex_brk, ex_cont, ex_never, ex_nil, ex_cons', W_ok, W_bind, fin_ret, fin_next, chK_bl, sq_next, sq_ret, sq_brk, sq_cont, bnd_ok, b_add, b_sub, i_add, i_sub, c_lt, c_le, c_gt, c_ge, c_eq, c_ne, c_eqs, c_nes, c_eqb, t_bl, t_int, t_non, p_int, f_int, as_n, as_t2, as_t3, setMany, getL, List.getElem?_cons_zero, List.getElem?_cons_succ, List.set_cons_zero, List.set_cons_succ, wipeL, tl0, tl1, tl2, tl3, tl4, tl5, tl6, Bool.not_true, Bool.not_false, decide_eq_true_eq, if_true, if_false, ite_true, ite_false, eq_self, Bool.false_eq_true]
    refine W_as2 (items_kp k2 g3 g2) ?_
    simp only [ev_var, ev_cst, ev_bin, ev_neg, ev_cmp, ev_chain', ev_and, ev_or, ev_not, ev_ite, ev_tup, ev_lst, ev_ix, ev_sl, ev_call, ev_bt, ev_mt, ev_isi, ev_lc, ev_nil, ev_cons, ev_onone, ev_osome, ev_cnone, ev_csome, ev_ie, ev_rng, ev_enu, asT, ex_asg, ex_asgS, ex_par, ex_aug, ex_ite, ex_whl, ex_for, ex_expr, ex_ret, ex_retN, ex_pass, ex_brk, ex_cont, ex_never, ex_nil, ex_cons', W_ok, W_bind, fin_ret, fin_next, chK_bl, sq_next, sq_ret, sq_brk, sq_cont, bnd_ok, b_add, b_sub, i_add, i_sub, c_lt, c_le, c_gt, c_ge, c_eq, c_ne, c_eqs, c_nes, c_eqb, t_bl, t_int, t_non, p_int, f_int, as_n, as_t2, as_t3, setMany, getL, List.getElem?_cons_zero, List.getElem?_cons_succ, List.set_cons_zero, List.set_cons_succ, wipeL, tl0, tl1, tl2, tl3, tl4, tl5, tl6, Bool.not_true, Bool.not_false, decide_eq_true_eq, if_true, if_false, ite_true, ite_false, eq_self, Bool.false_eq_true, k_eq hok.1 wdG]
    by_cases hg : kb GONE a.kd = true
    · rw [if_pos hg] at heq ⊢
      try simp only [ev_var, ev_cst, ev_bin, ev_neg, ev_cmp, ev_chain', ev_and, ev_or, ev_not, ev_ite, ev_tup, ev_lst, ev_ix, ev_sl, ev_call, ev_bt, ev_mt, ev_isi, ev_lc, ev_nil, ev_cons, ev_onone, ev_osome, ev_cnone, ev_csome, ev_ie, ev_rng, ev_enu, asT, ex_asg, ex_asgS, ex_par, ex_aug, ex_ite, ex_whl, ex_for, ex_expr, ex_ret, ex_retN, ex_pass, ex_brk, ex_cont, ex_never, ex_nil, ex_cons', W_ok, W_bind, fin_ret, fin_next, chK_bl, sq_next, sq_ret, sq_brk, sq_cont, bnd_ok, b_add, b_sub, i_add, i_sub, c_lt, c_le, c_gt, c_ge, c_eq, c_ne, c_eqs, c_nes, c_eqb, t_bl, t_int, t_non, p_int, f_int, as_n, as_t2, as_t3, setMany, getL, List.getElem?_cons_zero, List.getElem?_cons_succ, List.set_cons_zero, List.set_cons_succ, wipeL, tl0, tl1, tl2, tl3, tl4, tl5, tl6, Bool.not_true, Bool.not_false, decide_eq_true_eq, if_true, if_false, ite_true, ite_false, eq_self, Bool.false_eq_true]
      rw [List.append_nil] at heq
      refine ⟨f, rfl, by rw [heq]; exact hws, by omega, ?_⟩
      exact sub_of_kp k0 k2 (by omega)
    · rw [if_neg hg] at heq ⊢
      have hl2 : (ws.map PV.int).length < lim := by rw [List.length_map]; unfold lim; omega
      have hdone : Kp (fun n => n ≠ f) S1 (S2.set f (.lst ((ws ++ [nextW lo hi w a.kd]).map .int))) ∧ (S2.set f (.lst ((ws ++ [nextW lo hi w a.kd]).map .int)))[f]? = some (.lst ((ws ++ [nextW lo hi w a.kd]).map .int)) :=
        ⟨k2.trans (.set fun h => h rfl), List.getElem?_set_self (lt_of_at hws)⟩
      have heq2 : waits lo hi lo as = (ws ++ [nextW lo hi w a.kd]) ++ waits lo hi (nextW lo hi w a.kd) (as.drop (m + 1)) := by rw [heq]; simp
      have hlen2 : (ws ++ [nextW lo hi w a.kd]).length ≤ m + 1 := by rw [List.length_append]; show _ + 1 ≤ _; omega
      have hm2 : m + 1 ≤ 40 := by omega
      generalize hnw : nextW lo hi w a.kd = nw at hdone heq2 hlen2
      unfold nextW at hnw
      simp only [ev_var, ev_cst, ev_bin, ev_neg, ev_cmp, ev_chain', ev_and, ev_or, ev_not, ev_ite, ev_tup, ev_lst, ev_ix, ev_sl, ev_call, ev_bt, ev_mt, ev_isi, ev_lc, ev_nil, ev_cons, ev_onone, ev_osome, ev_cnone, ev_csome, ev_ie, ev_rng, ev_enu, asT, ex_asg, ex_asgS, ex_par, ex_aug, ex_ite, ex_whl, ex_for, ex_expr, ex_ret, ex_retN, ex_pass, ex_brk, ex_cont, ex_never, ex_nil, ex_cons', W_ok, W_bind, fin_ret, fin_next, chK_bl, sq_next, sq_ret, sq_brk, sq_cont, bnd_ok, b_add, b_sub, i_add, i_sub, c_lt, c_le, c_gt, c_ge, c_eq, c_ne, c_eqs, c_nes, c_eqb, t_bl, t_int, t_non, p_int, f_int, as_n, as_t2, as_t3, setMany, getL, List.getElem?_cons_zero, List.getElem?_cons_succ, List.set_cons_zero, List.set_cons_succ, wipeL, tl0, tl1, tl2, tl3, tl4, tl5, tl6, Bool.not_true, Bool.not_false, decide_eq_true_eq, if_true, if_false, ite_true, ite_false, eq_self, Bool.false_eq_true, k_eq hok.1 wdN]
      by_cases h1 : kb NEW a.kd = true
      · rw [if_pos h1] at hnw ⊢
        simp only [ev_var, ev_cst, ev_bin, ev_neg, ev_cmp, ev_chain', ev_and, ev_or, ev_not, ev_ite, ev_tup, ev_lst, ev_ix, ev_sl, ev_call, ev_bt, ev_mt, ev_isi, ev_lc, ev_nil, ev_cons, ev_onone, ev_osome, ev_cnone, ev_csome, ev_ie, ev_rng, ev_enu, asT, ex_asg, ex_asgS, ex_par, ex_aug, ex_ite, ex_whl, ex_for, ex_expr, ex_ret, ex_retN, ex_pass, ex_brk, ex_cont, ex_never, ex_nil, ex_cons', W_ok, W_bind, fin_ret, fin_next, chK_bl, sq_next, sq_ret, sq_brk, sq_cont, bnd_ok, b_add, b_sub, i_add, i_sub, c_lt, c_le, c_gt, c_ge, c_eq, c_ne, c_eqs, c_nes, c_eqb, t_bl, t_int, t_non, p_int, f_int, as_n, as_t2, as_t3, setMany, getL, List.getElem?_cons_zero, List.getElem?_cons_succ, List.set_cons_zero, List.set_cons_succ, wipeL, tl0, tl1, tl2, tl3, tl4, tl5, tl6, Bool.not_true, Bool.not_false, decide_eq_true_eq, if_true, if_false, ite_true, ite_false, eq_self, Bool.false_eq_true, b_div (show (0 : Int) < 2 ∧ (2 : Int) < 1073741824 by decide), f_max2, hnw, mtTy, ty_ref hws, m_append hws hl2, map_snoc]
        exact ⟨hdone.1, _, nw, _, _, hdone.2, hlen2, hm2, heq2, rfl⟩
      · rw [if_neg h1] at hnw ⊢
        simp only [ev_var, ev_cst, ev_bin, ev_neg, ev_cmp, ev_chain', ev_and, ev_or, ev_not, ev_ite, ev_tup, ev_lst, ev_ix, ev_sl, ev_call, ev_bt, ev_mt, ev_isi, ev_lc, ev_nil, ev_cons, ev_onone, ev_osome, ev_cnone, ev_csome, ev_ie, ev_rng, ev_enu, asT, ex_asg, ex_asgS, ex_par, ex_aug, ex_ite, ex_whl, ex_for, ex_expr, ex_ret, ex_retN, ex_pass, ex_brk, ex_cont, ex_never, ex_nil, ex_cons', W_ok, W_bind, fin_ret, fin_next, chK_bl, sq_next, sq_ret, sq_brk, sq_cont, bnd_ok, b_add, b_sub, i_add, i_sub, c_lt, c_le, c_gt, c_ge, c_eq, c_ne, c_eqs, c_nes, c_eqb, t_bl, t_int, t_non, p_int, f_int, as_n, as_t2, as_t3, setMany, getL, List.getElem?_cons_zero, List.getElem?_cons_succ, List.set_cons_zero, List.set_cons_succ, wipeL, tl0, tl1, tl2, tl3, tl4, tl5, tl6, Bool.not_true, Bool.not_false, decide_eq_true_eq, if_true, if_false, ite_true, ite_false, eq_self, Bool.false_eq_true, k_eq hok.1 wdS]
        by_cases h2 : kb SAME a.kd = true
        · rw [if_pos h2] at hnw ⊢
          simp only [ev_var, ev_cst, ev_bin, ev_neg, ev_cmp, ev_chain', ev_and, ev_or, ev_not, ev_ite, ev_tup, ev_lst, ev_ix, ev_sl, ev_call, ev_bt, ev_mt, ev_isi, ev_lc, ev_nil, ev_cons, ev_onone, ev_osome, ev_cnone, ev_csome, ev_ie, ev_rng, ev_enu, asT, ex_asg, ex_asgS, ex_par, ex_aug, ex_ite, ex_whl, ex_for, ex_expr, ex_ret, ex_retN, ex_pass, ex_brk, ex_cont, ex_never, ex_nil, ex_cons', W_ok, W_bind, fin_ret, fin_next, chK_bl, sq_next, sq_ret, sq_brk, sq_cont, bnd_ok, b_add, b_sub, i_add, i_sub, c_lt, c_le, c_gt, c_ge, c_eq, c_ne, c_eqs, c_nes, c_eqb, t_bl, t_int, t_non, p_int, f_int, as_n, as_t2, as_t3, setMany, getL, List.getElem?_cons_zero, List.getElem?_cons_succ, List.set_cons_zero, List.set_cons_succ, wipeL, tl0, tl1, tl2, tl3, tl4, tl5, tl6, Bool.not_true, Bool.not_false, decide_eq_true_eq, if_true, if_false, ite_true, ite_false, eq_self, Bool.false_eq_true, b_mul (sm 2), f_min2, hnw, mtTy, ty_ref hws, m_append hws hl2, map_snoc]
          exact ⟨hdone.1, _, nw, _, _, hdone.2, hlen2, hm2, heq2, rfl⟩
        · rw [if_neg h2] at hnw ⊢
          simp only [ev_var, ev_cst, ev_bin, ev_neg, ev_cmp, ev_chain', ev_and, ev_or, ev_not, ev_ite, ev_tup, ev_lst, ev_ix, ev_sl, ev_call, ev_bt, ev_mt, ev_isi, ev_lc, ev_nil, ev_cons, ev_onone, ev_osome, ev_cnone, ev_csome, ev_ie, ev_rng, ev_enu, asT, ex_asg, ex_asgS, ex_par, ex_aug, ex_ite, ex_whl, ex_for, ex_expr, ex_ret, ex_retN, ex_pass, ex_brk, ex_cont, ex_never, ex_nil, ex_cons', W_ok, W_bind, fin_ret, fin_next, chK_bl, sq_next, sq_ret, sq_brk, sq_cont, bnd_ok, b_add, b_sub, i_add, i_sub, c_lt, c_le, c_gt, c_ge, c_eq, c_ne, c_eqs, c_nes, c_eqb, t_bl, t_int, t_non, p_int, f_int, as_n, as_t2, as_t3, setMany, getL, List.getElem?_cons_zero, List.getElem?_cons_succ, List.set_cons_zero, List.set_cons_succ, wipeL, tl0, tl1, tl2, tl3, tl4, tl5, tl6, Bool.not_true, Bool.not_false, decide_eq_true_eq, if_true, if_false, ite_true, ite_false, eq_self, Bool.false_eq_true, k_eq hok.1 wdF]
          by_cases h3 : kb FAIL a.kd = true
          · rw [if_pos h3] at hnw ⊢
            simp only [ev_var, ev_cst, ev_bin, ev_neg, ev_cmp, ev_chain', ev_and, ev_or, ev_not, ev_ite, ev_tup, ev_lst, ev_ix, ev_sl, ev_call, ev_bt, ev_mt, ev_isi, ev_lc, ev_nil, ev_cons, ev_onone, ev_osome, ev_cnone, ev_csome, ev_ie, ev_rng, ev_enu, asT, ex_asg, ex_asgS, ex_par, ex_aug, ex_ite, ex_whl, ex_for, ex_expr, ex_ret, ex_retN, ex_pass, ex_brk, ex_cont, ex_never, ex_nil, ex_cons', W_ok, W_bind, fin_ret, fin_next, chK_bl, sq_next, sq_ret, sq_brk, sq_cont, bnd_ok, b_add, b_sub, i_add, i_sub, c_lt, c_le, c_gt, c_ge, c_eq, c_ne, c_eqs, c_nes, c_eqb, t_bl, t_int, t_non, p_int, f_int, as_n, as_t2, as_t3, setMany, getL, List.getElem?_cons_zero, List.getElem?_cons_succ, List.set_cons_zero, List.set_cons_succ, wipeL, tl0, tl1, tl2, tl3, tl4, tl5, tl6, Bool.not_true, Bool.not_false, decide_eq_true_eq, if_true, if_false, ite_true, ite_false, eq_self, Bool.false_eq_true, b_mul (sm 4), f_min2, hnw, mtTy, ty_ref hws, m_append hws hl2, map_snoc]
            exact ⟨hdone.1, _, nw, _, _, hdone.2, hlen2, hm2, heq2, rfl⟩
          · rw [if_neg h3] at hnw ⊢
            simp only [ev_var, ev_cst, ev_bin, ev_neg, ev_cmp, ev_chain', ev_and, ev_or, ev_not, ev_ite, ev_tup, ev_lst, ev_ix, ev_sl, ev_call, ev_bt, ev_mt, ev_isi, ev_lc, ev_nil, ev_cons, ev_onone, ev_osome, ev_cnone, ev_csome, ev_ie, ev_rng, ev_enu, asT, ex_asg, ex_asgS, ex_par, ex_aug, ex_ite, ex_whl, ex_for, ex_expr, ex_ret, ex_retN, ex_pass, ex_brk, ex_cont, ex_never, ex_nil, ex_cons', W_ok, W_bind, fin_ret, fin_next, chK_bl, sq_next, sq_ret, sq_brk, sq_cont, bnd_ok, b_add, b_sub, i_add, i_sub, c_lt, c_le, c_gt, c_ge, c_eq, c_ne, c_eqs, c_nes, c_eqb, t_bl, t_int, t_non, p_int, f_int, as_n, as_t2, as_t3, setMany, getL, List.getElem?_cons_zero, List.getElem?_cons_succ, List.set_cons_zero, List.set_cons_succ, wipeL, tl0, tl1, tl2, tl3, tl4, tl5, tl6, Bool.not_true, Bool.not_false, decide_eq_true_eq, if_true, if_false, ite_true, ite_false, eq_self, Bool.false_eq_true, hnw, mtTy, ty_ref hws, m_append hws hl2, map_snoc]
            exact ⟨hdone.1, _, nw, _, _, hdone.2, hlen2, hm2, heq2, rfl⟩
  · obtain ⟨k2, ws, w, z5, z6, hws, hwl, hm, heq, rfl⟩ := hI
    rw [hxl, List.drop_length] at heq
    have heq : waits lo hi lo as = ws := by rw [heq]; show ws ++ [] = ws; simp
    try simp only [ev_var, ev_cst, ev_bin, ev_neg, ev_cmp, ev_chain', ev_and, ev_or, ev_not, ev_ite, ev_tup, ev_lst, ev_ix, ev_sl, ev_call, ev_bt, ev_mt, ev_isi, ev_lc, ev_nil, ev_cons, ev_onone, ev_osome, ev_cnone, ev_csome, ev_ie, ev_rng, ev_enu, asT, ex_asg, ex_asgS, ex_par, ex_aug, ex_ite, ex_whl, ex_for, ex_expr, ex_ret, ex_retN, ex_pass, ex_brk, ex_cont, ex_never, ex_nil, ex_cons', W_ok, W_bind, fin_ret, fin_next, chK_bl, sq_next, sq_ret, sq_brk, sq_cont, bnd_ok, b_add, b_sub, i_add, i_sub, c_lt, c_le, c_gt, c_ge, c_eq, c_ne, c_eqs, c_nes, c_eqb, t_bl, t_int, t_non, p_int, f_int, as_n, as_t2, as_t3, setMany, getL, List.getElem?_cons_zero, List.getElem?_cons_succ, List.set_cons_zero, List.set_cons_succ, wipeL, tl0, tl1, tl2, tl3, tl4, tl5, tl6, Bool.not_true, Bool.not_false, decide_eq_true_eq, if_true, if_false, ite_true, ite_false, eq_self, Bool.false_eq_true]
    exact ⟨f, rfl, by rw [heq]; exact hws, by omega, sub_of_kp k0 k2 (by omega)⟩
theorem ix_lastP {x v : PV} {xs : List PV} (h : itemsOf S x = some xs) (e : xs[xs.length - 1]? = some v) : ixV x (.int (-1)) S = .ok v S := by
  have h1 := (List.getElem?_eq_some_iff.mp e).1
  unfold ixV
  dsimp only
  split
  · cases h
  · rw [h]
    have e2 : atI xs (-1) = some v := by
      unfold atI ixN
      rw [if_neg (by decide), if_pos (by omega)]
      show xs[(-1 + (xs.length : Int)).toNat]? = _
      rw [show (-1 + (xs.length : Int)).toNat = xs.length - 1 by omega]
      exact e
    dsimp only
    rw [e2]
theorem waits_of_ok {p : Nat → Prop} {v : PV} {as : List Ans} {lo hi : Int} (h : An p S v as) (hl : as.length ≤ 40) (ho : ∀ a, a ∈ as → a.ok) (hr : Rise as) (h1 : 1 ≤ lo) (h2 : lo ≤ hi) (h3 : hi ≤ 1000000) : W (callN fs fu (k + 7) 15 [v, .int lo, .int hi] S) (fun r S' => r = .tup ((waits lo hi lo as).map .int) ∧ Mp.Sub S S') := by
  refine W_fn2 F_waits_of rfl rfl ?_; simp only [List.map_cons, List.map_nil, List.length_cons, List.length_nil, List.cons_append, List.nil_append, List.append_nil, List.replicate_succ, List.replicate_zero, Nat.reduceAdd, Nat.reduceSub, Nat.zero_add]
  unfold B_waits_of
  try simp only [ev_var, ev_cst, ev_bin, ev_neg, ev_cmp, ev_chain', ev_and, ev_or, ev_not, ev_ite, ev_tup, ev_lst, ev_ix, ev_sl, ev_call, ev_bt, ev_mt, ev_isi, ev_lc, ev_nil, ev_cons, ev_onone, ev_osome, ev_cnone, ev_csome, ev_ie, ev_rng, ev_enu, asT, ex_asg, ex_asgS, ex_par, ex_aug, ex_ite, ex_whl, ex_for, ex_expr, ex_ret, ex_retN, ex_pass, ex_brk, ex_cont, ex_never, ex_nil, ex_cons', W_ok, W_bind, fin_ret, fin_next, chK_bl, sq_next, sq_ret, sq_brk, sq_cont, bnd_ok, b_add, b_sub, i_add, i_sub, c_lt, c_le, c_gt, c_ge, c_eq, c_ne, c_eqs, c_nes, c_eqb, t_bl, t_int, t_non, p_int, f_int, as_n, as_t2, as_t3, setMany, getL, List.getElem?_cons_zero, List.getElem?_cons_succ, List.set_cons_zero, List.set_cons_succ, wipeL, tl0, tl1, tl2, tl3, tl4, tl5, tl6, Bool.not_true, Bool.not_false, decide_eq_true_eq, if_true, if_false, ite_true, ite_false, eq_self, Bool.false_eq_true]
  refine (demand_answers_ok h hl ho hr h1 h2 h3).mono fun r S1 q => ?_
  obtain ⟨rfl, k1⟩ := q
  try simp only [ev_var, ev_cst, ev_bin, ev_neg, ev_cmp, ev_chain', ev_and, ev_or, ev_not, ev_ite, ev_tup, ev_lst, ev_ix, ev_sl, ev_call, ev_bt, ev_mt, ev_isi, ev_lc, ev_nil, ev_cons, ev_onone, ev_osome, ev_cnone, ev_csome, ev_ie, ev_rng, ev_enu, asT, ex_asg, ex_asgS, ex_par, ex_aug, ex_ite, ex_whl, ex_for, ex_expr, ex_ret, ex_retN, ex_pass, ex_brk, ex_cont, ex_never, ex_nil, ex_cons', W_ok, W_bind, fin_ret, fin_next, chK_bl, sq_next, sq_ret, sq_brk, sq_cont, bnd_ok, b_add, b_sub, i_add, i_sub, c_lt, c_le, c_gt, c_ge, c_eq, c_ne, c_eqs, c_nes, c_eqb, t_bl, t_int, t_non, p_int, f_int, as_n, as_t2, as_t3, setMany, getL, List.getElem?_cons_zero, List.getElem?_cons_succ, List.set_cons_zero, List.set_cons_succ, wipeL, tl0, tl1, tl2, tl3, tl4, tl5, tl6, Bool.not_true, Bool.not_false, decide_eq_true_eq, if_true, if_false, ite_true, ite_false, eq_self, Bool.false_eq_true]
  refine (unchecked_waits_ok (h.sub k1) hl ho).mono fun r S2 q => ?_
  obtain ⟨f, rfl, hf, _, k2⟩ := q
  simp only [ev_var, ev_cst, ev_bin, ev_neg, ev_cmp, ev_chain', ev_and, ev_or, ev_not, ev_ite, ev_tup, ev_lst, ev_ix, ev_sl, ev_call, ev_bt, ev_mt, ev_isi, ev_lc, ev_nil, ev_cons, ev_onone, ev_osome, ev_cnone, ev_csome, ev_ie, ev_rng, ev_enu, asT, ex_asg, ex_asgS, ex_par, ex_aug, ex_ite, ex_whl, ex_for, ex_expr, ex_ret, ex_retN, ex_pass, ex_brk, ex_cont, ex_never, ex_nil, ex_cons', W_ok, W_bind, fin_ret, fin_next, chK_bl, sq_next, sq_ret, sq_brk, sq_cont, bnd_ok, b_add, b_sub, i_add, i_sub, c_lt, c_le, c_gt, c_ge, c_eq, c_ne, c_eqs, c_nes, c_eqb, t_bl, t_int, t_non, p_int, f_int, as_n, as_t2, as_t3, setMany, getL, List.getElem?_cons_zero, List.getElem?_cons_succ, List.set_cons_zero, List.set_cons_succ, wipeL, tl0, tl1, tl2, tl3, tl4, tl5, tl6, Bool.not_true, Bool.not_false, decide_eq_true_eq, if_true, if_false, ite_true, ite_false, eq_self, Bool.false_eq_true, f_tuple (items_ref hf)]
  exact ⟨trivial, k1.trans k2⟩
def lastW (lo hi : Int) (as : List Ans) : Int := (waits lo hi lo as).getD ((waits lo hi lo as).length - 1) 0
def kPlus (wl : Int) (kd : PV) : Int := match ki kd with | some i => if wl > i then wl else i | none => wl
def afterV (lo hi : Int) (as : List Ans) : PV :=
  if as.length = 0 then .int 0 else if (waits lo hi lo as).length < as.length then .non else match as[as.length - 1]? with | some a => .int (a.at_ + kPlus (lastW lo hi as) a.kd) | none => .non
theorem after_ok {p : Nat → Prop} {v : PV} {as : List Ans} {lo hi : Int} (h : An p S v as) (hl : as.length ≤ 40) (ho : ∀ a, a ∈ as → a.ok) (hr : Rise as) (h1 : 1 ≤ lo) (h2 : lo ≤ hi) (h3 : hi ≤ 1000000) : W (callN fs fu (k + 7) 14 [v, .int lo, .int hi] S) (fun r S' => r = afterV lo hi as ∧ Mp.Sub S S') := by
  refine W_fn2 F_after rfl rfl ?_; simp only [List.map_cons, List.map_nil, List.length_cons, List.length_nil, List.cons_append, List.nil_append, List.append_nil, List.replicate_succ, List.replicate_zero, Nat.reduceAdd, Nat.reduceSub, Nat.zero_add]
  unfold B_after afterV
  try simp only [ev_var, ev_cst, ev_bin, ev_neg, ev_cmp, ev_chain', ev_and, ev_or, ev_not, ev_ite, ev_tup, ev_lst, ev_ix, ev_sl, ev_call, ev_bt, ev_mt, ev_isi, ev_lc, ev_nil, ev_cons, ev_onone, ev_osome, ev_cnone, ev_csome, ev_ie, ev_rng, ev_enu, asT, ex_asg, ex_asgS, ex_par, ex_aug, ex_ite, ex_whl, ex_for, ex_expr, ex_ret, ex_retN, ex_pass, ex_brk, ex_cont, ex_never, ex_nil, ex_cons', W_ok, W_bind, fin_ret, fin_next, chK_bl, sq_next, sq_ret, sq_brk, sq_cont, bnd_ok, b_add, b_sub, i_add, i_sub, c_lt, c_le, c_gt, c_ge, c_eq, c_ne, c_eqs, c_nes, c_eqb, t_bl, t_int, t_non, p_int, f_int, as_n, as_t2, as_t3, setMany, getL, List.getElem?_cons_zero, List.getElem?_cons_succ, List.set_cons_zero, List.set_cons_succ, wipeL, tl0, tl1, tl2, tl3, tl4, tl5, tl6, Bool.not_true, Bool.not_false, decide_eq_true_eq, if_true, if_false, ite_true, ite_false, eq_self, Bool.false_eq_true]
  refine (demand_answers_ok h hl ho hr h1 h2 h3).mono fun r S1 q => ?_
  obtain ⟨rfl, k1⟩ := q
  have hA := h.sub k1
  obtain ⟨xs, hx, hxl, hxa⟩ := hA.at
  simp only [ev_var, ev_cst, ev_bin, ev_neg, ev_cmp, ev_chain', ev_and, ev_or, ev_not, ev_ite, ev_tup, ev_lst, ev_ix, ev_sl, ev_call, ev_bt, ev_mt, ev_isi, ev_lc, ev_nil, ev_cons, ev_onone, ev_osome, ev_cnone, ev_csome, ev_ie, ev_rng, ev_enu, asT, ex_asg, ex_asgS, ex_par, ex_aug, ex_ite, ex_whl, ex_for, ex_expr, ex_ret, ex_retN, ex_pass, ex_brk, ex_cont, ex_never, ex_nil, ex_cons', W_ok, W_bind, fin_ret, fin_next, chK_bl, sq_next, sq_ret, sq_brk, sq_cont, bnd_ok, b_add, b_sub, i_add, i_sub, c_lt, c_le, c_gt, c_ge, c_eq, c_ne, c_eqs, c_nes, c_eqb, t_bl, t_int, t_non, p_int, f_int, as_n, as_t2, as_t3, setMany, getL, List.getElem?_cons_zero, List.getElem?_cons_succ, List.set_cons_zero, List.set_cons_succ, wipeL, tl0, tl1, tl2, tl3, tl4, tl5, tl6, Bool.not_true, Bool.not_false, decide_eq_true_eq, if_true, if_false, ite_true, ite_false, eq_self, Bool.false_eq_true, f_len hx]
  by_cases h0 : as.length = 0
  · rw [if_pos (show (xs.length : Int) = 0 by omega), if_pos h0]
    try simp only [ev_var, ev_cst, ev_bin, ev_neg, ev_cmp, ev_chain', ev_and, ev_or, ev_not, ev_ite, ev_tup, ev_lst, ev_ix, ev_sl, ev_call, ev_bt, ev_mt, ev_isi, ev_lc, ev_nil, ev_cons, ev_onone, ev_osome, ev_cnone, ev_csome, ev_ie, ev_rng, ev_enu, asT, ex_asg, ex_asgS, ex_par, ex_aug, ex_ite, ex_whl, ex_for, ex_expr, ex_ret, ex_retN, ex_pass, ex_brk, ex_cont, ex_never, ex_nil, ex_cons', W_ok, W_bind, fin_ret, fin_next, chK_bl, sq_next, sq_ret, sq_brk, sq_cont, bnd_ok, b_add, b_sub, i_add, i_sub, c_lt, c_le, c_gt, c_ge, c_eq, c_ne, c_eqs, c_nes, c_eqb, t_bl, t_int, t_non, p_int, f_int, as_n, as_t2, as_t3, setMany, getL, List.getElem?_cons_zero, List.getElem?_cons_succ, List.set_cons_zero, List.set_cons_succ, wipeL, tl0, tl1, tl2, tl3, tl4, tl5, tl6, Bool.not_true, Bool.not_false, decide_eq_true_eq, if_true, if_false, ite_true, ite_false, eq_self, Bool.false_eq_true]
    exact ⟨trivial, k1⟩
  · rw [if_neg (show ¬(xs.length : Int) = 0 by omega), if_neg h0]
    try simp only [ev_var, ev_cst, ev_bin, ev_neg, ev_cmp, ev_chain', ev_and, ev_or, ev_not, ev_ite, ev_tup, ev_lst, ev_ix, ev_sl, ev_call, ev_bt, ev_mt, ev_isi, ev_lc, ev_nil, ev_cons, ev_onone, ev_osome, ev_cnone, ev_csome, ev_ie, ev_rng, ev_enu, asT, ex_asg, ex_asgS, ex_par, ex_aug, ex_ite, ex_whl, ex_for, ex_expr, ex_ret, ex_retN, ex_pass, ex_brk, ex_cont, ex_never, ex_nil, ex_cons', W_ok, W_bind, fin_ret, fin_next, chK_bl, sq_next, sq_ret, sq_brk, sq_cont, bnd_ok, b_add, b_sub, i_add, i_sub, c_lt, c_le, c_gt, c_ge, c_eq, c_ne, c_eqs, c_nes, c_eqb, t_bl, t_int, t_non, p_int, f_int, as_n, as_t2, as_t3, setMany, getL, List.getElem?_cons_zero, List.getElem?_cons_succ, List.set_cons_zero, List.set_cons_succ, wipeL, tl0, tl1, tl2, tl3, tl4, tl5, tl6, Bool.not_true, Bool.not_false, decide_eq_true_eq, if_true, if_false, ite_true, ite_false, eq_self, Bool.false_eq_true]
    refine (unchecked_waits_ok hA hl ho).mono fun r S2 q => ?_
    obtain ⟨f, rfl, hf, _, k2⟩ := q
    have k12 := k1.trans k2
    simp only [ev_var, ev_cst, ev_bin, ev_neg, ev_cmp, ev_chain', ev_and, ev_or, ev_not, ev_ite, ev_tup, ev_lst, ev_ix, ev_sl, ev_call, ev_bt, ev_mt, ev_isi, ev_lc, ev_nil, ev_cons, ev_onone, ev_osome, ev_cnone, ev_csome, ev_ie, ev_rng, ev_enu, asT, ex_asg, ex_asgS, ex_par, ex_aug, ex_ite, ex_whl, ex_for, ex_expr, ex_ret, ex_retN, ex_pass, ex_brk, ex_cont, ex_never, ex_nil, ex_cons', W_ok, W_bind, fin_ret, fin_next, chK_bl, sq_next, sq_ret, sq_brk, sq_cont, bnd_ok, b_add, b_sub, i_add, i_sub, c_lt, c_le, c_gt, c_ge, c_eq, c_ne, c_eqs, c_nes, c_eqb, t_bl, t_int, t_non, p_int, f_int, as_n, as_t2, as_t3, setMany, getL, List.getElem?_cons_zero, List.getElem?_cons_succ, List.set_cons_zero, List.set_cons_succ, wipeL, tl0, tl1, tl2, tl3, tl4, tl5, tl6, Bool.not_true, Bool.not_false, decide_eq_true_eq, if_true, if_false, ite_true, ite_false, eq_self, Bool.false_eq_true, f_len (items_ref hf), f_len (items_sub k2 hx), List.length_map]
    by_cases hlt : (waits lo hi lo as).length < as.length
    · rw [if_pos (show ((waits lo hi lo as).length : Int) < (xs.length : Int) by omega), if_pos hlt]
      try simp only [ev_var, ev_cst, ev_bin, ev_neg, ev_cmp, ev_chain', ev_and, ev_or, ev_not, ev_ite, ev_tup, ev_lst, ev_ix, ev_sl, ev_call, ev_bt, ev_mt, ev_isi, ev_lc, ev_nil, ev_cons, ev_onone, ev_osome, ev_cnone, ev_csome, ev_ie, ev_rng, ev_enu, asT, ex_asg, ex_asgS, ex_par, ex_aug, ex_ite, ex_whl, ex_for, ex_expr, ex_ret, ex_retN, ex_pass, ex_brk, ex_cont, ex_never, ex_nil, ex_cons', W_ok, W_bind, fin_ret, fin_next, chK_bl, sq_next, sq_ret, sq_brk, sq_cont, bnd_ok, b_add, b_sub, i_add, i_sub, c_lt, c_le, c_gt, c_ge, c_eq, c_ne, c_eqs, c_nes, c_eqb, t_bl, t_int, t_non, p_int, f_int, as_n, as_t2, as_t3, setMany, getL, List.getElem?_cons_zero, List.getElem?_cons_succ, List.set_cons_zero, List.set_cons_succ, wipeL, tl0, tl1, tl2, tl3, tl4, tl5, tl6, Bool.not_true, Bool.not_false, decide_eq_true_eq, if_true, if_false, ite_true, ite_false, eq_self, Bool.false_eq_true]
      exact ⟨trivial, k12⟩
    · rw [if_neg (show ¬((waits lo hi lo as).length : Int) < (xs.length : Int) by omega), if_neg hlt]
      have ea : as[as.length - 1]? = some (as[as.length - 1]'(by omega)) := List.getElem?_eq_getElem (by omega)
      generalize as[as.length - 1]'(by omega) = a at ea
      obtain ⟨y, g1, g2, _⟩ := hxa _ a ea
      have hok := ho a (List.mem_of_getElem? ea)
      have hwl : 0 < (waits lo hi lo as).length := by omega
      have il := ix_lastP (items_sub k2 hx) (show xs[xs.length - 1]? = some y by rw [hxl]; exact g1)
      have iw : ixV (.ref f) (.int (-1)) S2 = .ok (.int (lastW lo hi as)) S2 := ix_lastP (items_ref hf) (by
        rw [List.length_map, List.getElem?_map, List.getElem?_eq_getElem (by omega)]
        unfold lastW
        rw [List.getD_eq_getElem?_getD, List.getElem?_eq_getElem (show (waits lo hi lo as).length - 1 < (waits lo hi lo as).length by omega)]
        rfl)
      rw [ea]
      dsimp only
      simp only [ev_var, ev_cst, ev_bin, ev_neg, ev_cmp, ev_chain', ev_and, ev_or, ev_not, ev_ite, ev_tup, ev_lst, ev_ix, ev_sl, ev_call, ev_bt, ev_mt, ev_isi, ev_lc, ev_nil, ev_cons, ev_onone, ev_osome, ev_cnone, ev_csome, ev_ie, ev_rng, ev_enu, asT, ex_asg, ex_asgS, ex_par, ex_aug, ex_ite, ex_whl, ex_for, ex_expr, ex_ret, ex_retN, ex_pass, ex_brk, ex_cont, ex_never, ex_nil, ex_cons', W_ok, W_bind, fin_ret, fin_next, chK_bl, sq_next, sq_ret, sq_brk, sq_cont, bnd_ok, b_add, b_sub, i_add, i_sub, c_lt, c_le, c_gt, c_ge, c_eq, c_ne, c_eqs, c_nes, c_eqb, t_bl, t_int, t_non, p_int, f_int, as_n, as_t2, as_t3, setMany, getL, List.getElem?_cons_zero, List.getElem?_cons_succ, List.set_cons_zero, List.set_cons_succ, wipeL, tl0, tl1, tl2, tl3, tl4, tl5, tl6, Bool.not_true, Bool.not_false, decide_eq_true_eq, if_true, if_false, ite_true, ite_false, eq_self, Bool.false_eq_true, n_neg, il]
      refine W_as2 (items_sub k2 g2) ?_
      simp only [ev_var, ev_cst, ev_bin, ev_neg, ev_cmp, ev_chain', ev_and, ev_or, ev_not, ev_ite, ev_tup, ev_lst, ev_ix, ev_sl, ev_call, ev_bt, ev_mt, ev_isi, ev_lc, ev_nil, ev_cons, ev_onone, ev_osome, ev_cnone, ev_csome, ev_ie, ev_rng, ev_enu, asT, ex_asg, ex_asgS, ex_par, ex_aug, ex_ite, ex_whl, ex_for, ex_expr, ex_ret, ex_retN, ex_pass, ex_brk, ex_cont, ex_never, ex_nil, ex_cons', W_ok, W_bind, fin_ret, fin_next, chK_bl, sq_next, sq_ret, sq_brk, sq_cont, bnd_ok, b_add, b_sub, i_add, i_sub, c_lt, c_le, c_gt, c_ge, c_eq, c_ne, c_eqs, c_nes, c_eqb, t_bl, t_int, t_non, p_int, f_int, as_n, as_t2, as_t3, setMany, getL, List.getElem?_cons_zero, List.getElem?_cons_succ, List.set_cons_zero, List.set_cons_succ, wipeL, tl0, tl1, tl2, tl3, tl4, tl5, tl6, Bool.not_true, Bool.not_false, decide_eq_true_eq, if_true, if_false, ite_true, ite_false, eq_self, Bool.false_eq_true, k_int hok.1]
      unfold kPlus
      cases hk : ki a.kd with
      | none =>
        simp only [ev_var, ev_cst, ev_bin, ev_neg, ev_cmp, ev_chain', ev_and, ev_or, ev_not, ev_ite, ev_tup, ev_lst, ev_ix, ev_sl, ev_call, ev_bt, ev_mt, ev_isi, ev_lc, ev_nil, ev_cons, ev_onone, ev_osome, ev_cnone, ev_csome, ev_ie, ev_rng, ev_enu, asT, ex_asg, ex_asgS, ex_par, ex_aug, ex_ite, ex_whl, ex_for, ex_expr, ex_ret, ex_retN, ex_pass, ex_brk, ex_cont, ex_never, ex_nil, ex_cons', W_ok, W_bind, fin_ret, fin_next, chK_bl, sq_next, sq_ret, sq_brk, sq_cont, bnd_ok, b_add, b_sub, i_add, i_sub, c_lt, c_le, c_gt, c_ge, c_eq, c_ne, c_eqs, c_nes, c_eqb, t_bl, t_int, t_non, p_int, f_int, as_n, as_t2, as_t3, setMany, getL, List.getElem?_cons_zero, List.getElem?_cons_succ, List.set_cons_zero, List.set_cons_succ, wipeL, tl0, tl1, tl2, tl3, tl4, tl5, tl6, Bool.not_true, Bool.not_false, decide_eq_true_eq, if_true, if_false, ite_true, ite_false, eq_self, Bool.false_eq_true, Option.isSome_none, n_neg, iw]
        exact ⟨trivial, k12⟩
      | some i =>
        have ekd : a.kd = .int i := by
          cases hz : a.kd with
          | int j => rw [hz] at hk; exact congrArg PV.int (Option.some.inj hk)
          | _ => rw [hz] at hk; cases hk
        simp only [ev_var, ev_cst, ev_bin, ev_neg, ev_cmp, ev_chain', ev_and, ev_or, ev_not, ev_ite, ev_tup, ev_lst, ev_ix, ev_sl, ev_call, ev_bt, ev_mt, ev_isi, ev_lc, ev_nil, ev_cons, ev_onone, ev_osome, ev_cnone, ev_csome, ev_ie, ev_rng, ev_enu, asT, ex_asg, ex_asgS, ex_par, ex_aug, ex_ite, ex_whl, ex_for, ex_expr, ex_ret, ex_retN, ex_pass, ex_brk, ex_cont, ex_never, ex_nil, ex_cons', W_ok, W_bind, fin_ret, fin_next, chK_bl, sq_next, sq_ret, sq_brk, sq_cont, bnd_ok, b_add, b_sub, i_add, i_sub, c_lt, c_le, c_gt, c_ge, c_eq, c_ne, c_eqs, c_nes, c_eqb, t_bl, t_int, t_non, p_int, f_int, as_n, as_t2, as_t3, setMany, getL, List.getElem?_cons_zero, List.getElem?_cons_succ, List.set_cons_zero, List.set_cons_succ, wipeL, tl0, tl1, tl2, tl3, tl4, tl5, tl6, Bool.not_true, Bool.not_false, decide_eq_true_eq, if_true, if_false, ite_true, ite_false, eq_self, Bool.false_eq_true, Option.isSome_some, ekd, n_neg, iw, f_max2]
        exact ⟨trivial, k12⟩
/-! ### health -/
theorem W_whl {test : Mp.Loc → Store → Res Bool} {body : Mp.Loc → Store → Res Fl} {Q : Fl → Store → Prop} (I : Nat → Mp.Loc → Store → Prop)
    (hs : ∀ m ρ S, I m ρ S → W (test ρ S) (fun b S1 => (b = true → 0 < m ∧ W (body ρ S1) (fun f S2 => match f with | .next ρ' => I (m - 1) ρ' S2 | .cont ρ' => I (m - 1) ρ' S2 | .brk ρ' => Q (.next ρ') S2 | .ret v => Q (.ret v) S2)) ∧ (b = false → Q (.next ρ) S1))) :
    ∀ (k m : Nat) (ρ : Mp.Loc) (S : Store), m < k → I m ρ S → W (whlN test body k ρ S) Q
  | 0, m, ρ, S, h, _ => by omega
  | k + 1, m, ρ, S, h, hI => by
    unfold whlN
    rw [W_bind]
    refine (hs m ρ S hI).mono fun b S1 q => ?_
    cases b with
    | true =>
      obtain ⟨hm, hb⟩ := q.1 rfl
      rw [if_pos rfl, W_bind]
      refine hb.mono fun f S2 q2 => ?_
      cases f with
      | next ρ' => exact W_whl I hs k (m - 1) ρ' S2 (by omega) q2
      | cont ρ' => exact W_whl I hs k (m - 1) ρ' S2 (by omega) q2
      | brk ρ' => exact .ok q2
      | ret v => exact .ok q2
    | false =>
      rw [if_neg (by simp)]
      exact .ok (q.2 rfl)
theorem tw_at {α : Type} (p : α → Bool) : ∀ (l : List α) (n : Nat), n < (l.takeWhile p).length → ∃ a, l[n]? = some a ∧ p a = true
  | [], n, h => by simp at h
  | a :: l, n, h => by
    rw [List.takeWhile_cons] at h
    split at h
    · rename_i ha
      cases n with
      | zero => exact ⟨a, rfl, ha⟩
      | succ n => exact tw_at p l n (by simpa using h)
    · simp at h
theorem tw_stop {α : Type} (p : α → Bool) : ∀ (l : List α), (l.takeWhile p).length < l.length → ∃ a, l[(l.takeWhile p).length]? = some a ∧ p a = false
  | [], h => by simp at h
  | a :: l, h => by
    by_cases ha : p a = true
    · have e : (a :: l).takeWhile p = a :: l.takeWhile p := by rw [List.takeWhile_cons, if_pos ha]
      rw [e] at h ⊢
      exact tw_stop p l (by simpa using h)
    · have e : (a :: l).takeWhile p = [] := by rw [List.takeWhile_cons, if_neg ha]
      rw [e]
      exact ⟨a, rfl, by simpa using ha⟩
def tf (as : List Ans) : Nat := (as.reverse.takeWhile fun a => kb FAIL a.kd).length
theorem tf_le (as : List Ans) : tf as ≤ as.length := by
  unfold tf
  have := (List.takeWhile_prefix (fun a : Ans => kb FAIL a.kd) (l := as.reverse)).length_le
  rw [List.length_reverse] at this
  exact this
theorem tf_at {as : List Ans} {n : Nat} (h : n < tf as) : ∃ a, as[as.length - 1 - n]? = some a ∧ kb FAIL a.kd = true := by
  obtain ⟨a, h1, h2⟩ := tw_at _ _ _ h
  have := tf_le as
  rw [List.getElem?_reverse (by omega)] at h1
  exact ⟨a, h1, h2⟩
theorem tf_stop {as : List Ans} (h : tf as < as.length) : ∃ a, as[as.length - 1 - tf as]? = some a ∧ kb FAIL a.kd = false := by
  obtain ⟨a, h1, h2⟩ := tw_stop (fun a : Ans => kb FAIL a.kd) as.reverse (by rw [List.length_reverse]; exact h)
  rw [show (as.reverse.takeWhile fun a => kb FAIL a.kd).length = tf as from rfl, List.getElem?_reverse h] at h1
  exact ⟨a, h1, h2⟩
def nN (as : List Ans) : Nat := (as.filter fun a => kb NEW a.kd).length
def nS (as : List Ans) : Nat := (as.filter fun a => kb SAME a.kd).length
theorem nH {as : List Ans} (ho : ∀ a, a ∈ as → a.ok) : (as.filter fun a => kb NEW a.kd || kb SAME a.kd).length = nN as + nS as := by
  induction as with
  | nil => rfl
  | cons a as ih =>
    have ih := ih fun b hb => ho b (List.mem_cons_of_mem _ hb)
    unfold nN nS at *
    rw [List.filter_cons, List.filter_cons, List.filter_cons]
    have hx : kb NEW a.kd = true → kb SAME a.kd = false := by
      rcases (ho a (List.mem_cons_self ..)).1 with h | h | h | h | h | h | h <;> rw [h] <;> decide
    cases h1 : kb NEW a.kd with
    | true =>
      rw [hx h1]
      simp only [Bool.true_or, if_true, Bool.false_eq_true, if_false, List.length_cons, ih]
      omega
    | false =>
      cases h2 : kb SAME a.kd with
      | true =>
        simp only [Bool.or_true, if_true, Bool.false_eq_true, if_false, List.length_cons, ih]
        omega
      | false =>
        simp only [Bool.or_false, Bool.false_eq_true, if_false, ih]
theorem filt_kd (g : PV → Bool) (f : PV → Option PV) (hf : ∀ v, f v = if g v = true then some v else none) : ∀ as : List Ans, ((as.map Ans.kd).filterMap f).length = (as.filter fun a => g a.kd).length
  | [] => rfl
  | a :: as => by
    rw [List.map_cons, List.filterMap_cons, hf, List.filter_cons]
    by_cases h : g a.kd = true
    · rw [if_pos h, if_pos h]
      show (a.kd :: (as.map Ans.kd).filterMap f).length = _
      rw [List.length_cons, List.length_cons, filt_kd g f hf as]
    · rw [if_neg h, if_neg h]
      exact filt_kd g f hf as
def healthV (as : List Ans) : PV := .tup [if nN as + nS as = 0 then .non else .tup [.int ((nN as : Int) / gI (nN as) ((nN as : Int) + nS as)), .int (((nN as : Int) + nS as) / gI (nN as) ((nN as : Int) + nS as))], .int (tf as)]
theorem health_ok {p : Nat → Prop} {v : PV} {as : List Ans} (h : An p S v as) (hl : as.length ≤ 40) (ho : ∀ a, a ∈ as → a.ok) (hr : Rise as) (hfu : 100 ≤ fu) : W (callN fs fu (k + 6) 16 [v] S) (fun r S' => r = healthV as ∧ Mp.Sub S S') := by
  refine W_fn2 F_health rfl rfl ?_; simp only [List.map_cons, List.map_nil, List.length_cons, List.length_nil, List.cons_append, List.nil_append, List.append_nil, List.replicate_succ, List.replicate_zero, Nat.reduceAdd, Nat.reduceSub, Nat.zero_add]
  unfold B_health
  try simp only [ev_var, ev_cst, ev_bin, ev_neg, ev_cmp, ev_chain', ev_and, ev_or, ev_not, ev_ite, ev_tup, ev_lst, ev_ix, ev_sl, ev_call, ev_bt, ev_mt, ev_isi, ev_lc, ev_nil, ev_cons, ev_onone, ev_osome, ev_cnone, ev_csome, ev_ie, ev_rng, ev_enu, asT, ex_asg, ex_asgS, ex_par, ex_aug, ex_ite, ex_whl, ex_for, ex_expr, ex_ret, ex_retN, ex_pass, ex_brk, ex_cont, ex_never, ex_nil, ex_cons', W_ok, W_bind, fin_ret, fin_next, chK_bl, sq_next, sq_ret, sq_brk, sq_cont, bnd_ok, b_add, b_sub, i_add, i_sub, c_lt, c_le, c_gt, c_ge, c_eq, c_ne, c_eqs, c_nes, c_eqb, t_bl, t_int, t_non, p_int, f_int, as_n, as_t2, as_t3, setMany, getL, List.getElem?_cons_zero, List.getElem?_cons_succ, List.set_cons_zero, List.set_cons_succ, wipeL, tl0, tl1, tl2, tl3, tl4, tl5, tl6, Bool.not_true, Bool.not_false, decide_eq_true_eq, if_true, if_false, ite_true, ite_false, eq_self, Bool.false_eq_true]
  refine (are_answers_ok h hl ho hr).mono fun r S1 q => ?_
  obtain ⟨rfl, k1⟩ := q
  have hA := h.sub k1
  obtain ⟨xs, hx, hxl, hxa⟩ := hA.at
  have hxa' : ∀ (i : Nat) (a : Ans), as[i]? = some a → ∃ x, xs[i]? = some x ∧ itemsOf S1 x = some a.row := fun i a ha => by obtain ⟨x, h1, h2, _⟩ := hxa i a ha; exact ⟨x, h1, h2⟩
  simp only [ev_var, ev_cst, ev_bin, ev_neg, ev_cmp, ev_chain', ev_and, ev_or, ev_not, ev_ite, ev_tup, ev_lst, ev_ix, ev_sl, ev_call, ev_bt, ev_mt, ev_isi, ev_lc, ev_nil, ev_cons, ev_onone, ev_osome, ev_cnone, ev_csome, ev_ie, ev_rng, ev_enu, asT, ex_asg, ex_asgS, ex_par, ex_aug, ex_ite, ex_whl, ex_for, ex_expr, ex_ret, ex_retN, ex_pass, ex_brk, ex_cont, ex_never, ex_nil, ex_cons', W_ok, W_bind, fin_ret, fin_next, chK_bl, sq_next, sq_ret, sq_brk, sq_cont, bnd_ok, b_add, b_sub, i_add, i_sub, c_lt, c_le, c_gt, c_ge, c_eq, c_ne, c_eqs, c_nes, c_eqb, t_bl, t_int, t_non, p_int, f_int, as_n, as_t2, as_t3, setMany, getL, List.getElem?_cons_zero, List.getElem?_cons_succ, List.set_cons_zero, List.set_cons_succ, wipeL, tl0, tl1, tl2, tl3, tl4, tl5, tl6, Bool.not_true, Bool.not_false, decide_eq_true_eq, if_true, if_false, ite_true, ite_false, eq_self, Bool.false_eq_true, demand_eq F_demand]
  refine W_it hx fun r hi hpn => ?_
  refine (W_lcM (p := fun _ => True) (colF S1 1) hi (hpn _ sub_true) (by unfold lim; omega) fun y hy S3 k3 => ?_).mono fun ys S3 q => ?_
  · obtain ⟨a, ham, hrow⟩ := mem_row hxl hxa' hy
    have i0 : ixV y (.int 1) S3 = .ok a.kd S3 := ix_at (items_sub k3 hrow) (by decide) rfl
    simp only [ev_var, ev_cst, ev_bin, ev_neg, ev_cmp, ev_chain', ev_and, ev_or, ev_not, ev_ite, ev_tup, ev_lst, ev_ix, ev_sl, ev_call, ev_bt, ev_mt, ev_isi, ev_lc, ev_nil, ev_cons, ev_onone, ev_osome, ev_cnone, ev_csome, ev_ie, ev_rng, ev_enu, asT, ex_asg, ex_asgS, ex_par, ex_aug, ex_ite, ex_whl, ex_for, ex_expr, ex_ret, ex_retN, ex_pass, ex_brk, ex_cont, ex_never, ex_nil, ex_cons', W_ok, W_bind, fin_ret, fin_next, chK_bl, sq_next, sq_ret, sq_brk, sq_cont, bnd_ok, b_add, b_sub, i_add, i_sub, c_lt, c_le, c_gt, c_ge, c_eq, c_ne, c_eqs, c_nes, c_eqb, t_bl, t_int, t_non, p_int, f_int, as_n, as_t2, as_t3, setMany, getL, List.getElem?_cons_zero, List.getElem?_cons_succ, List.set_cons_zero, List.set_cons_succ, wipeL, tl0, tl1, tl2, tl3, tl4, tl5, tl6, Bool.not_true, Bool.not_false, decide_eq_true_eq, if_true, if_false, ite_true, ite_false, eq_self, Bool.false_eq_true, i0]
    refine ⟨?_, .refl⟩
    unfold colF
    rw [hrow]; rfl
  obtain ⟨rfl, k3⟩ := q
  have ec : xs.map (colF S1 1) = as.map Ans.kd := by rw [col_map hxl hxa']; rfl
  rw [ec]
  have hkk := at_push (S := S3) (o := .lst (as.map Ans.kd))
  have k4 : Mp.Sub S (S3 ++ [SO.lst (as.map Ans.kd)]) := (k1.trans k3).trans .push
  generalize S3.length = kk at hkk ⊢
  generalize S3 ++ [SO.lst (as.map Ans.kd)] = S4 at hkk k4 ⊢
  have hkd : ∀ y, y ∈ as.map Ans.kd → Kd y := fun y hy => by obtain ⟨a, ha, rfl⟩ := List.mem_map.mp hy; exact (ho a ha).1
  simp only [ev_var, ev_cst, ev_bin, ev_neg, ev_cmp, ev_chain', ev_and, ev_or, ev_not, ev_ite, ev_tup, ev_lst, ev_ix, ev_sl, ev_call, ev_bt, ev_mt, ev_isi, ev_lc, ev_nil, ev_cons, ev_onone, ev_osome, ev_cnone, ev_csome, ev_ie, ev_rng, ev_enu, asT, ex_asg, ex_asgS, ex_par, ex_aug, ex_ite, ex_whl, ex_for, ex_expr, ex_ret, ex_retN, ex_pass, ex_brk, ex_cont, ex_never, ex_nil, ex_cons', W_ok, W_bind, fin_ret, fin_next, chK_bl, sq_next, sq_ret, sq_brk, sq_cont, bnd_ok, b_add, b_sub, i_add, i_sub, c_lt, c_le, c_gt, c_ge, c_eq, c_ne, c_eqs, c_nes, c_eqb, t_bl, t_int, t_non, p_int, f_int, as_n, as_t2, as_t3, setMany, getL, List.getElem?_cons_zero, List.getElem?_cons_succ, List.set_cons_zero, List.set_cons_succ, wipeL, tl0, tl1, tl2, tl3, tl4, tl5, tl6, Bool.not_true, Bool.not_false, decide_eq_true_eq, if_true, if_false, ite_true, ite_false, eq_self, Bool.false_eq_true, iterV]
  refine (W_lc (p := fun _ => True) (it := .live kk) (xs := as.map Ans.kd) (fun v => if kb NEW v = true then some v else none) hkk trivial (by rw [List.length_map]; unfold lim; omega) fun y hy S5 k5 => ?_).mono fun ys S5 q => ?_
  · simp only [ev_var, ev_cst, ev_bin, ev_neg, ev_cmp, ev_chain', ev_and, ev_or, ev_not, ev_ite, ev_tup, ev_lst, ev_ix, ev_sl, ev_call, ev_bt, ev_mt, ev_isi, ev_lc, ev_nil, ev_cons, ev_onone, ev_osome, ev_cnone, ev_csome, ev_ie, ev_rng, ev_enu, asT, ex_asg, ex_asgS, ex_par, ex_aug, ex_ite, ex_whl, ex_for, ex_expr, ex_ret, ex_retN, ex_pass, ex_brk, ex_cont, ex_never, ex_nil, ex_cons', W_ok, W_bind, fin_ret, fin_next, chK_bl, sq_next, sq_ret, sq_brk, sq_cont, bnd_ok, b_add, b_sub, i_add, i_sub, c_lt, c_le, c_gt, c_ge, c_eq, c_ne, c_eqs, c_nes, c_eqb, t_bl, t_int, t_non, p_int, f_int, as_n, as_t2, as_t3, setMany, getL, List.getElem?_cons_zero, List.getElem?_cons_succ, List.set_cons_zero, List.set_cons_succ, wipeL, tl0, tl1, tl2, tl3, tl4, tl5, tl6, Bool.not_true, Bool.not_false, decide_eq_true_eq, if_true, if_false, ite_true, ite_false, eq_self, Bool.false_eq_true, k_eq (hkd y hy) wdN]
    by_cases hb : kb NEW y = true
    · rw [if_pos hb, if_pos hb]; try simp only [ev_var, ev_cst, ev_bin, ev_neg, ev_cmp, ev_chain', ev_and, ev_or, ev_not, ev_ite, ev_tup, ev_lst, ev_ix, ev_sl, ev_call, ev_bt, ev_mt, ev_isi, ev_lc, ev_nil, ev_cons, ev_onone, ev_osome, ev_cnone, ev_csome, ev_ie, ev_rng, ev_enu, asT, ex_asg, ex_asgS, ex_par, ex_aug, ex_ite, ex_whl, ex_for, ex_expr, ex_ret, ex_retN, ex_pass, ex_brk, ex_cont, ex_never, ex_nil, ex_cons', W_ok, W_bind, fin_ret, fin_next, chK_bl, sq_next, sq_ret, sq_brk, sq_cont, bnd_ok, b_add, b_sub, i_add, i_sub, c_lt, c_le, c_gt, c_ge, c_eq, c_ne, c_eqs, c_nes, c_eqb, t_bl, t_int, t_non, p_int, f_int, as_n, as_t2, as_t3, setMany, getL, List.getElem?_cons_zero, List.getElem?_cons_succ, List.set_cons_zero, List.set_cons_succ, wipeL, tl0, tl1, tl2, tl3, tl4, tl5, tl6, Bool.not_true, Bool.not_false, decide_eq_true_eq, if_true, if_false, ite_true, ite_false, eq_self, Bool.false_eq_true]; exact ⟨by trivial, .refl⟩
    · rw [if_neg hb, if_neg hb]; try simp only [ev_var, ev_cst, ev_bin, ev_neg, ev_cmp, ev_chain', ev_and, ev_or, ev_not, ev_ite, ev_tup, ev_lst, ev_ix, ev_sl, ev_call, ev_bt, ev_mt, ev_isi, ev_lc, ev_nil, ev_cons, ev_onone, ev_osome, ev_cnone, ev_csome, ev_ie, ev_rng, ev_enu, asT, ex_asg, ex_asgS, ex_par, ex_aug, ex_ite, ex_whl, ex_for, ex_expr, ex_ret, ex_retN, ex_pass, ex_brk, ex_cont, ex_never, ex_nil, ex_cons', W_ok, W_bind, fin_ret, fin_next, chK_bl, sq_next, sq_ret, sq_brk, sq_cont, bnd_ok, b_add, b_sub, i_add, i_sub, c_lt, c_le, c_gt, c_ge, c_eq, c_ne, c_eqs, c_nes, c_eqb, t_bl, t_int, t_non, p_int, f_int, as_n, as_t2, as_t3, setMany, getL, List.getElem?_cons_zero, List.getElem?_cons_succ, List.set_cons_zero, List.set_cons_succ, wipeL, tl0, tl1, tl2, tl3, tl4, tl5, tl6, Bool.not_true, Bool.not_false, decide_eq_true_eq, if_true, if_false, ite_true, ite_false, eq_self, Bool.false_eq_true]; exact ⟨by trivial, .refl⟩
  obtain ⟨rfl, k5⟩ := q
  have l1 : (((as.map Ans.kd).filterMap fun v => if kb NEW v = true then some v else none).length : Int) = nN as := by rw [filt_kd (kb NEW) _ (fun _ => rfl)]; rfl
  simp only [ev_var, ev_cst, ev_bin, ev_neg, ev_cmp, ev_chain', ev_and, ev_or, ev_not, ev_ite, ev_tup, ev_lst, ev_ix, ev_sl, ev_call, ev_bt, ev_mt, ev_isi, ev_lc, ev_nil, ev_cons, ev_onone, ev_osome, ev_cnone, ev_csome, ev_ie, ev_rng, ev_enu, asT, ex_asg, ex_asgS, ex_par, ex_aug, ex_ite, ex_whl, ex_for, ex_expr, ex_ret, ex_retN, ex_pass, ex_brk, ex_cont, ex_never, ex_nil, ex_cons', W_ok, W_bind, fin_ret, fin_next, chK_bl, sq_next, sq_ret, sq_brk, sq_cont, bnd_ok, b_add, b_sub, i_add, i_sub, c_lt, c_le, c_gt, c_ge, c_eq, c_ne, c_eqs, c_nes, c_eqb, t_bl, t_int, t_non, p_int, f_int, as_n, as_t2, as_t3, setMany, getL, List.getElem?_cons_zero, List.getElem?_cons_succ, List.set_cons_zero, List.set_cons_succ, wipeL, tl0, tl1, tl2, tl3, tl4, tl5, tl6, Bool.not_true, Bool.not_false, decide_eq_true_eq, if_true, if_false, ite_true, ite_false, eq_self, Bool.false_eq_true, f_len (items_ref at_push), l1]
  have k6 := k4.trans (k5.trans (.push (o := .lst ((as.map Ans.kd).filterMap fun v => if kb NEW v = true then some v else none))))
  have hkk := (k5.trans (.push (o := .lst ((as.map Ans.kd).filterMap fun v => if kb NEW v = true then some v else none)))) _ _ trivial hkk
  generalize S5 ++ [SO.lst ((as.map Ans.kd).filterMap fun v => if kb NEW v = true then some v else none)] = S6 at k6 hkk ⊢
  refine (W_lc (p := fun _ => True) (it := .live kk) (xs := as.map Ans.kd) (fun v => if (kb NEW v || kb SAME v) = true then some v else none) hkk trivial (by rw [List.length_map]; unfold lim; omega) fun y hy S7 k7 => ?_).mono fun ys S7 q => ?_
  · simp only [ev_var, ev_cst, ev_bin, ev_neg, ev_cmp, ev_chain', ev_and, ev_or, ev_not, ev_ite, ev_tup, ev_lst, ev_ix, ev_sl, ev_call, ev_bt, ev_mt, ev_isi, ev_lc, ev_nil, ev_cons, ev_onone, ev_osome, ev_cnone, ev_csome, ev_ie, ev_rng, ev_enu, asT, ex_asg, ex_asgS, ex_par, ex_aug, ex_ite, ex_whl, ex_for, ex_expr, ex_ret, ex_retN, ex_pass, ex_brk, ex_cont, ex_never, ex_nil, ex_cons', W_ok, W_bind, fin_ret, fin_next, chK_bl, sq_next, sq_ret, sq_brk, sq_cont, bnd_ok, b_add, b_sub, i_add, i_sub, c_lt, c_le, c_gt, c_ge, c_eq, c_ne, c_eqs, c_nes, c_eqb, t_bl, t_int, t_non, p_int, f_int, as_n, as_t2, as_t3, setMany, getL, List.getElem?_cons_zero, List.getElem?_cons_succ, List.set_cons_zero, List.set_cons_succ, wipeL, tl0, tl1, tl2, tl3, tl4, tl5, tl6, Bool.not_true, Bool.not_false, decide_eq_true_eq, if_true, if_false, ite_true, ite_false, eq_self, Bool.false_eq_true, k_in2 (hkd y hy)]
    by_cases hb : (kb NEW y || kb SAME y) = true
    · rw [if_pos hb, if_pos hb]; try simp only [ev_var, ev_cst, ev_bin, ev_neg, ev_cmp, ev_chain', ev_and, ev_or, ev_not, ev_ite, ev_tup, ev_lst, ev_ix, ev_sl, ev_call, ev_bt, ev_mt, ev_isi, ev_lc, ev_nil, ev_cons, ev_onone, ev_osome, ev_cnone, ev_csome, ev_ie, ev_rng, ev_enu, asT, ex_asg, ex_asgS, ex_par, ex_aug, ex_ite, ex_whl, ex_for, ex_expr, ex_ret, ex_retN, ex_pass, ex_brk, ex_cont, ex_never, ex_nil, ex_cons', W_ok, W_bind, fin_ret, fin_next, chK_bl, sq_next, sq_ret, sq_brk, sq_cont, bnd_ok, b_add, b_sub, i_add, i_sub, c_lt, c_le, c_gt, c_ge, c_eq, c_ne, c_eqs, c_nes, c_eqb, t_bl, t_int, t_non, p_int, f_int, as_n, as_t2, as_t3, setMany, getL, List.getElem?_cons_zero, List.getElem?_cons_succ, List.set_cons_zero, List.set_cons_succ, wipeL, tl0, tl1, tl2, tl3, tl4, tl5, tl6, Bool.not_true, Bool.not_false, decide_eq_true_eq, if_true, if_false, ite_true, ite_false, eq_self, Bool.false_eq_true]; exact ⟨by trivial, .refl⟩
    · rw [if_neg hb, if_neg hb]; try simp only [ev_var, ev_cst, ev_bin, ev_neg, ev_cmp, ev_chain', ev_and, ev_or, ev_not, ev_ite, ev_tup, ev_lst, ev_ix, ev_sl, ev_call, ev_bt, ev_mt, ev_isi, ev_lc, ev_nil, ev_cons, ev_onone, ev_osome, ev_cnone, ev_csome, ev_ie, ev_rng, ev_enu, asT, ex_asg, ex_asgS, ex_par, ex_aug, ex_ite, ex_whl, ex_for, ex_expr, ex_ret, ex_retN, ex_pass, ex_brk, ex_cont, ex_never, ex_nil, ex_cons', W_ok, W_bind, fin_ret, fin_next, chK_bl, sq_next, sq_ret, sq_brk, sq_cont, bnd_ok, b_add, b_sub, i_add, i_sub, c_lt, c_le, c_gt, c_ge, c_eq, c_ne, c_eqs, c_nes, c_eqb, t_bl, t_int, t_non, p_int, f_int, as_n, as_t2, as_t3, setMany, getL, List.getElem?_cons_zero, List.getElem?_cons_succ, List.set_cons_zero, List.set_cons_succ, wipeL, tl0, tl1, tl2, tl3, tl4, tl5, tl6, Bool.not_true, Bool.not_false, decide_eq_true_eq, if_true, if_false, ite_true, ite_false, eq_self, Bool.false_eq_true]; exact ⟨by trivial, .refl⟩
  obtain ⟨rfl, k7⟩ := q
  have l2 : (((as.map Ans.kd).filterMap fun v => if (kb NEW v || kb SAME v) = true then some v else none).length : Int) = (nN as : Int) + nS as := by
    rw [filt_kd (fun v => kb NEW v || kb SAME v) _ (fun _ => rfl), nH ho]; omega
  simp only [ev_var, ev_cst, ev_bin, ev_neg, ev_cmp, ev_chain', ev_and, ev_or, ev_not, ev_ite, ev_tup, ev_lst, ev_ix, ev_sl, ev_call, ev_bt, ev_mt, ev_isi, ev_lc, ev_nil, ev_cons, ev_onone, ev_osome, ev_cnone, ev_csome, ev_ie, ev_rng, ev_enu, asT, ex_asg, ex_asgS, ex_par, ex_aug, ex_ite, ex_whl, ex_for, ex_expr, ex_ret, ex_retN, ex_pass, ex_brk, ex_cont, ex_never, ex_nil, ex_cons', W_ok, W_bind, fin_ret, fin_next, chK_bl, sq_next, sq_ret, sq_brk, sq_cont, bnd_ok, b_add, b_sub, i_add, i_sub, c_lt, c_le, c_gt, c_ge, c_eq, c_ne, c_eqs, c_nes, c_eqb, t_bl, t_int, t_non, p_int, f_int, as_n, as_t2, as_t3, setMany, getL, List.getElem?_cons_zero, List.getElem?_cons_succ, List.set_cons_zero, List.set_cons_succ, wipeL, tl0, tl1, tl2, tl3, tl4, tl5, tl6, Bool.not_true, Bool.not_false, decide_eq_true_eq, if_true, if_false, ite_true, ite_false, eq_self, Bool.false_eq_true, f_len (items_ref at_push), l2]
  have k8 := k6.trans (k7.trans (.push (o := .lst ((as.map Ans.kd).filterMap fun v => if (kb NEW v || kb SAME v) = true then some v else none))))
  have hkk := (k7.trans (.push (o := .lst ((as.map Ans.kd).filterMap fun v => if (kb NEW v || kb SAME v) = true then some v else none)))) _ _ trivial hkk
  generalize S7 ++ [SO.lst ((as.map Ans.kd).filterMap fun v => if (kb NEW v || kb SAME v) = true then some v else none)] = S8 at k8 hkk ⊢
  have htl := tf_le as
  refine W_whl (fun m ρ S' => S' = S8 ∧ ∃ n : Nat, n + m = tf as ∧ ρ = [some v, some (.ref kk), none, some (.int (nN as : Int)), none, some (.int ((nN as : Int) + nS as)), some (.int (n : Int))]) (fun m ρ S' hI => ?_) fu (tf as) _ _ (by omega) ⟨rfl, 0, by omega, rfl⟩
  obtain ⟨rfl, n, hn, rfl⟩ := hI
  have fin : W (if ((nN as : Int) + nS as) = 0 then Res.ok (Fl.ret (PV.tup [PV.non, PV.int (tf as)])) S' else Res.ok (Fl.next [some v, some (.ref kk), none, some (.int (nN as : Int)), none, some (.int ((nN as : Int) + nS as)), some (.int (tf as : Int))]) S') fun a S_1 =>
      W (sqK (callN fs fu (k + 5)) fu (Ts.cons (T.ret (E.tup (Es.cons (E.call 8 (Es.cons (E.var 3) (Es.cons (E.var 5) Es.nil))) (Es.cons (E.var 6) Es.nil)))) Ts.nil) a S_1) (Mp.fin fun r S' => r = healthV as ∧ Mp.Sub S S') := by
    unfold healthV
    by_cases h0 : nN as + nS as = 0
    · rw [if_pos (show ((nN as : Int) + nS as) = 0 by omega), if_pos h0]
      try simp only [ev_var, ev_cst, ev_bin, ev_neg, ev_cmp, ev_chain', ev_and, ev_or, ev_not, ev_ite, ev_tup, ev_lst, ev_ix, ev_sl, ev_call, ev_bt, ev_mt, ev_isi, ev_lc, ev_nil, ev_cons, ev_onone, ev_osome, ev_cnone, ev_csome, ev_ie, ev_rng, ev_enu, asT, ex_asg, ex_asgS, ex_par, ex_aug, ex_ite, ex_whl, ex_for, ex_expr, ex_ret, ex_retN, ex_pass, ex_brk, ex_cont, ex_never, ex_nil, ex_cons', W_ok, W_bind, fin_ret, fin_next, chK_bl, sq_next, sq_ret, sq_brk, sq_cont, bnd_ok, b_add, b_sub, i_add, i_sub, c_lt, c_le, c_gt, c_ge, c_eq, c_ne, c_eqs, c_nes, c_eqb, t_bl, t_int, t_non, p_int, f_int, as_n, as_t2, as_t3, setMany, getL, List.getElem?_cons_zero, List.getElem?_cons_succ, List.set_cons_zero, List.set_cons_succ, wipeL, tl0, tl1, tl2, tl3, tl4, tl5, tl6, Bool.not_true, Bool.not_false, decide_eq_true_eq, if_true, if_false, ite_true, ite_false, eq_self, Bool.false_eq_true]
      first
      | exact ⟨trivial, k8⟩
      | exact k8
    · rw [if_neg (show ¬((nN as : Int) + nS as) = 0 by omega), if_neg h0]
      have b1 : nN as ≤ as.length := List.length_filter_le _ _
      have b2 : nS as ≤ as.length := List.length_filter_le _ _
      simp only [ev_var, ev_cst, ev_bin, ev_neg, ev_cmp, ev_chain', ev_and, ev_or, ev_not, ev_ite, ev_tup, ev_lst, ev_ix, ev_sl, ev_call, ev_bt, ev_mt, ev_isi, ev_lc, ev_nil, ev_cons, ev_onone, ev_osome, ev_cnone, ev_csome, ev_ie, ev_rng, ev_enu, asT, ex_asg, ex_asgS, ex_par, ex_aug, ex_ite, ex_whl, ex_for, ex_expr, ex_ret, ex_retN, ex_pass, ex_brk, ex_cont, ex_never, ex_nil, ex_cons', W_ok, W_bind, fin_ret, fin_next, chK_bl, sq_next, sq_ret, sq_brk, sq_cont, bnd_ok, b_add, b_sub, i_add, i_sub, c_lt, c_le, c_gt, c_ge, c_eq, c_ne, c_eqs, c_nes, c_eqb, t_bl, t_int, t_non, p_int, f_int, as_n, as_t2, as_t3, setMany, getL, List.getElem?_cons_zero, List.getElem?_cons_succ, List.set_cons_zero, List.set_cons_succ, wipeL, tl0, tl1, tl2, tl3, tl4, tl5, tl6, Bool.not_true, Bool.not_false, decide_eq_true_eq, if_true, if_false, ite_true, ite_false, eq_self, Bool.false_eq_true, lowest_eq (k := k + 4) (n := (nN as : Int)) F_lowest (show (0 : Int) < (nN as : Int) + nS as by omega) (show ((nN as : Int) + nS as) < 1073741824 by omega)]
      first
      | exact ⟨trivial, k8⟩
      | exact k8
  simp only [ev_var, ev_cst, ev_bin, ev_neg, ev_cmp, ev_chain', ev_and, ev_or, ev_not, ev_ite, ev_tup, ev_lst, ev_ix, ev_sl, ev_call, ev_bt, ev_mt, ev_isi, ev_lc, ev_nil, ev_cons, ev_onone, ev_osome, ev_cnone, ev_csome, ev_ie, ev_rng, ev_enu, asT, ex_asg, ex_asgS, ex_par, ex_aug, ex_ite, ex_whl, ex_for, ex_expr, ex_ret, ex_retN, ex_pass, ex_brk, ex_cont, ex_never, ex_nil, ex_cons', W_ok, W_bind, fin_ret, fin_next, chK_bl, sq_next, sq_ret, sq_brk, sq_cont, bnd_ok, b_add, b_sub, i_add, i_sub, c_lt, c_le, c_gt, c_ge, c_eq, c_ne, c_eqs, c_nes, c_eqb, t_bl, t_int, t_non, p_int, f_int, as_n, as_t2, as_t3, setMany, getL, List.getElem?_cons_zero, List.getElem?_cons_succ, List.set_cons_zero, List.set_cons_succ, wipeL, tl0, tl1, tl2, tl3, tl4, tl5, tl6, Bool.not_true, Bool.not_false, decide_eq_true_eq, if_true, if_false, ite_true, ite_false, eq_self, Bool.false_eq_true, f_len (items_ref hkk), List.length_map]
  by_cases hlt : n < as.length
  · rw [if_pos (show (n : Int) < (as.length : Int) by omega)]
    have ea : as[as.length - 1 - n]? = some (as[as.length - 1 - n]'(by omega)) := List.getElem?_eq_getElem (by omega)
    generalize as[as.length - 1 - n]'(by omega) = a at ea
    have hok := ho a (List.mem_of_getElem? ea)
    have ik : ixV (.ref kk) (.int ((as.length : Int) - 1 - (n : Int))) S' = .ok a.kd S' := ix_at (items_ref hkk) (by omega) (by
      rw [show ((as.length : Int) - 1 - (n : Int)).toNat = as.length - 1 - n by omega, List.getElem?_map, ea]; rfl)
    simp only [ev_var, ev_cst, ev_bin, ev_neg, ev_cmp, ev_chain', ev_and, ev_or, ev_not, ev_ite, ev_tup, ev_lst, ev_ix, ev_sl, ev_call, ev_bt, ev_mt, ev_isi, ev_lc, ev_nil, ev_cons, ev_onone, ev_osome, ev_cnone, ev_csome, ev_ie, ev_rng, ev_enu, asT, ex_asg, ex_asgS, ex_par, ex_aug, ex_ite, ex_whl, ex_for, ex_expr, ex_ret, ex_retN, ex_pass, ex_brk, ex_cont, ex_never, ex_nil, ex_cons', W_ok, W_bind, fin_ret, fin_next, chK_bl, sq_next, sq_ret, sq_brk, sq_cont, bnd_ok, b_add, b_sub, i_add, i_sub, c_lt, c_le, c_gt, c_ge, c_eq, c_ne, c_eqs, c_nes, c_eqb, t_bl, t_int, t_non, p_int, f_int, as_n, as_t2, as_t3, setMany, getL, List.getElem?_cons_zero, List.getElem?_cons_succ, List.set_cons_zero, List.set_cons_succ, wipeL, tl0, tl1, tl2, tl3, tl4, tl5, tl6, Bool.not_true, Bool.not_false, decide_eq_true_eq, if_true, if_false, ite_true, ite_false, eq_self, Bool.false_eq_true, f_len (items_ref hkk), List.length_map, ik, k_eq hok.1 wdF]
    refine ⟨fun hb => ?_, fun hb => ?_⟩
    · have hm : 0 < m := by
        rcases Nat.eq_zero_or_pos m with h0 | h0
        · subst h0
          have : n = tf as := by omega
          subst this
          obtain ⟨a', h1, h2⟩ := tf_stop hlt
          rw [ea] at h1
          cases h1
          rw [hb] at h2
          cases h2
        · exact h0
      refine ⟨hm, ?_⟩
      exact ⟨trivial, n + 1, by omega, by rfl⟩
    · have hm : n = tf as := by
        rcases Nat.lt_or_ge n (tf as) with h0 | h0
        · obtain ⟨a', h1, h2⟩ := tf_at h0
          rw [ea] at h1
          cases h1
          rw [hb] at h2
          cases h2
        · omega
      subst hm
      exact fin
  · rw [if_neg (show ¬(n : Int) < (as.length : Int) by omega)]
    have hm : n = tf as := by omega
    subst hm
    try simp only [ev_var, ev_cst, ev_bin, ev_neg, ev_cmp, ev_chain', ev_and, ev_or, ev_not, ev_ite, ev_tup, ev_lst, ev_ix, ev_sl, ev_call, ev_bt, ev_mt, ev_isi, ev_lc, ev_nil, ev_cons, ev_onone, ev_osome, ev_cnone, ev_csome, ev_ie, ev_rng, ev_enu, asT, ex_asg, ex_asgS, ex_par, ex_aug, ex_ite, ex_whl, ex_for, ex_expr, ex_ret, ex_retN, ex_pass, ex_brk, ex_cont, ex_never, ex_nil, ex_cons', W_ok, W_bind, fin_ret, fin_next, chK_bl, sq_next, sq_ret, sq_brk, sq_cont, bnd_ok, b_add, b_sub, i_add, i_sub, c_lt, c_le, c_gt, c_ge, c_eq, c_ne, c_eqs, c_nes, c_eqb, t_bl, t_int, t_non, p_int, f_int, as_n, as_t2, as_t3, setMany, getL, List.getElem?_cons_zero, List.getElem?_cons_succ, List.set_cons_zero, List.set_cons_succ, wipeL, tl0, tl1, tl2, tl3, tl4, tl5, tl6, Bool.not_true, Bool.not_false, decide_eq_true_eq, if_true, if_false, ite_true, ite_false, eq_self, Bool.false_eq_true]
    exact ⟨fun h => by omega, fun _ => fin⟩
theorem are_seconds_ok {x : PV} {l : List Int} (h : itemsOf S x = some (l.map .int)) (hp : l.Pairwise (· < ·)) (hl : 2 ≤ l.length ∧ l.length ≤ 50) (hb : ∀ n, n ∈ l → 0 ≤ n ∧ n ≤ 10000000000) : W (callN fs fu (k + 4) 17 [x] S) (fun r S' => r = .bl true ∧ Mp.Sub S S') := by
  refine W_fn2 F_are_seconds rfl rfl ?_; simp only [List.map_cons, List.map_nil, List.length_cons, List.length_nil, List.cons_append, List.nil_append, List.append_nil, List.replicate_succ, List.replicate_zero, Nat.reduceAdd, Nat.reduceSub, Nat.zero_add]
  unfold B_are_seconds
  have hrow : (2 : Int) ≤ ((l.map PV.int).length : Int) ∧ ((l.map PV.int).length : Int) ≤ 50 := by rw [List.length_map]; omega
  simp only [ev_var, ev_cst, ev_bin, ev_neg, ev_cmp, ev_chain', ev_and, ev_or, ev_not, ev_ite, ev_tup, ev_lst, ev_ix, ev_sl, ev_call, ev_bt, ev_mt, ev_isi, ev_lc, ev_nil, ev_cons, ev_onone, ev_osome, ev_cnone, ev_csome, ev_ie, ev_rng, ev_enu, asT, ex_asg, ex_asgS, ex_par, ex_aug, ex_ite, ex_whl, ex_for, ex_expr, ex_ret, ex_retN, ex_pass, ex_brk, ex_cont, ex_never, ex_nil, ex_cons', W_ok, W_bind, fin_ret, fin_next, chK_bl, sq_next, sq_ret, sq_brk, sq_cont, bnd_ok, b_add, b_sub, i_add, i_sub, c_lt, c_le, c_gt, c_ge, c_eq, c_ne, c_eqs, c_nes, c_eqb, t_bl, t_int, t_non, p_int, f_int, as_n, as_t2, as_t3, setMany, getL, List.getElem?_cons_zero, List.getElem?_cons_succ, List.set_cons_zero, List.set_cons_succ, wipeL, tl0, tl1, tl2, tl3, tl4, tl5, tl6, Bool.not_true, Bool.not_false, decide_eq_true_eq, if_true, if_false, ite_true, ite_false, eq_self, Bool.false_eq_true, is_row_eq F_is_row F_is_sequence h, hrow, and_self, decide_true]
  refine W_it h fun r hi hpn => ?_
  refine (W_lcB (p := fun _ => True) (fun _ => true) hi (hpn _ sub_true) (by rw [List.length_map]; unfold lim; omega) fun y hy S1 k1 => ?_).mono fun ys S1 q => ?_
  · obtain ⟨n, hn, rfl⟩ := List.mem_map.mp hy
    simp only [ev_var, ev_cst, ev_bin, ev_neg, ev_cmp, ev_chain', ev_and, ev_or, ev_not, ev_ite, ev_tup, ev_lst, ev_ix, ev_sl, ev_call, ev_bt, ev_mt, ev_isi, ev_lc, ev_nil, ev_cons, ev_onone, ev_osome, ev_cnone, ev_csome, ev_ie, ev_rng, ev_enu, asT, ex_asg, ex_asgS, ex_par, ex_aug, ex_ite, ex_whl, ex_for, ex_expr, ex_ret, ex_retN, ex_pass, ex_brk, ex_cont, ex_never, ex_nil, ex_cons', W_ok, W_bind, fin_ret, fin_next, chK_bl, sq_next, sq_ret, sq_brk, sq_cont, bnd_ok, b_add, b_sub, i_add, i_sub, c_lt, c_le, c_gt, c_ge, c_eq, c_ne, c_eqs, c_nes, c_eqb, t_bl, t_int, t_non, p_int, f_int, as_n, as_t2, as_t3, setMany, getL, List.getElem?_cons_zero, List.getElem?_cons_succ, List.set_cons_zero, List.set_cons_succ, wipeL, tl0, tl1, tl2, tl3, tl4, tl5, tl6, Bool.not_true, Bool.not_false, decide_eq_true_eq, if_true, if_false, ite_true, ite_false, eq_self, Bool.false_eq_true, is_second_eq (hb n hn)]
    exact ⟨by trivial, .refl⟩
  obtain ⟨rfl, k1⟩ := q
  have k2 := k1.trans (.push (o := .lst (((l.map PV.int).map fun _ => true).map .bl)))
  simp only [ev_var, ev_cst, ev_bin, ev_neg, ev_cmp, ev_chain', ev_and, ev_or, ev_not, ev_ite, ev_tup, ev_lst, ev_ix, ev_sl, ev_call, ev_bt, ev_mt, ev_isi, ev_lc, ev_nil, ev_cons, ev_onone, ev_osome, ev_cnone, ev_csome, ev_ie, ev_rng, ev_enu, asT, ex_asg, ex_asgS, ex_par, ex_aug, ex_ite, ex_whl, ex_for, ex_expr, ex_ret, ex_retN, ex_pass, ex_brk, ex_cont, ex_never, ex_nil, ex_cons', W_ok, W_bind, fin_ret, fin_next, chK_bl, sq_next, sq_ret, sq_brk, sq_cont, bnd_ok, b_add, b_sub, i_add, i_sub, c_lt, c_le, c_gt, c_ge, c_eq, c_ne, c_eqs, c_nes, c_eqb, t_bl, t_int, t_non, p_int, f_int, as_n, as_t2, as_t3, setMany, getL, List.getElem?_cons_zero, List.getElem?_cons_succ, List.set_cons_zero, List.set_cons_succ, wipeL, tl0, tl1, tl2, tl3, tl4, tl5, tl6, Bool.not_true, Bool.not_false, decide_eq_true_eq, if_true, if_false, ite_true, ite_false, eq_self, Bool.false_eq_true, f_all at_push, all_id]
  refine (rising_ok F_are_rising (items_sub k2 h) hp (by omega)).mono fun r4 S4 q => ?_
  try simp only [ev_var, ev_cst, ev_bin, ev_neg, ev_cmp, ev_chain', ev_and, ev_or, ev_not, ev_ite, ev_tup, ev_lst, ev_ix, ev_sl, ev_call, ev_bt, ev_mt, ev_isi, ev_lc, ev_nil, ev_cons, ev_onone, ev_osome, ev_cnone, ev_csome, ev_ie, ev_rng, ev_enu, asT, ex_asg, ex_asgS, ex_par, ex_aug, ex_ite, ex_whl, ex_for, ex_expr, ex_ret, ex_retN, ex_pass, ex_brk, ex_cont, ex_never, ex_nil, ex_cons', W_ok, W_bind, fin_ret, fin_next, chK_bl, sq_next, sq_ret, sq_brk, sq_cont, bnd_ok, b_add, b_sub, i_add, i_sub, c_lt, c_le, c_gt, c_ge, c_eq, c_ne, c_eqs, c_nes, c_eqb, t_bl, t_int, t_non, p_int, f_int, as_n, as_t2, as_t3, setMany, getL, List.getElem?_cons_zero, List.getElem?_cons_succ, List.set_cons_zero, List.set_cons_succ, wipeL, tl0, tl1, tl2, tl3, tl4, tl5, tl6, Bool.not_true, Bool.not_false, decide_eq_true_eq, if_true, if_false, ite_true, ite_false, eq_self, Bool.false_eq_true]
  exact ⟨q.1, k2.trans q.2⟩
theorem intsOf_map : ∀ l : List Int, intsOf (l.map .int) = some l
  | [] => rfl
  | a :: l => by rw [List.map_cons, intsOf, intsOf_map l]; rfl
theorem f_sorted {n : Nat} {l : List Int} (h : S[n]? = some (.lst (l.map .int))) : btF .sorted [.ref n] S = .ok (.ref S.length) (S ++ [.lst ((srtI l).map .int)]) := by
  show sortedF [.ref n] S = _
  unfold sortedF litems
  simp only [h, intsOf_map]
theorem srtI_len (l : List Int) : (srtI l).length = l.length := (srtB_perm leI l).length_eq
def tm (l : List Int) : Int := let o := srtI l
  if l.length % 2 = 1 then 2 * o.getD (l.length / 2) 0 else o.getD (l.length / 2 - 1) 0 + o.getD (l.length / 2) 0
theorem twice_middle_ok {n : Nat} {l : List Int} (h : S[n]? = some (.lst (l.map .int))) (hl : 1 ≤ l.length ∧ l.length ≤ 50) : W (callN fs fu (k + 1) 18 [.ref n] S) (fun r S' => r = .int (tm l) ∧ Mp.Sub S S') := by
  refine W_fn2 F_twice_middle rfl rfl ?_; simp only [List.map_cons, List.map_nil, List.length_cons, List.length_nil, List.cons_append, List.nil_append, List.append_nil, List.replicate_succ, List.replicate_zero, Nat.reduceAdd, Nat.reduceSub, Nat.zero_add]
  unfold B_twice_middle
  have hs := at_push (S := S) (o := .lst ((srtI l).map .int))
  simp only [ev_var, ev_cst, ev_bin, ev_neg, ev_cmp, ev_chain', ev_and, ev_or, ev_not, ev_ite, ev_tup, ev_lst, ev_ix, ev_sl, ev_call, ev_bt, ev_mt, ev_isi, ev_lc, ev_nil, ev_cons, ev_onone, ev_osome, ev_cnone, ev_csome, ev_ie, ev_rng, ev_enu, asT, ex_asg, ex_asgS, ex_par, ex_aug, ex_ite, ex_whl, ex_for, ex_expr, ex_ret, ex_retN, ex_pass, ex_brk, ex_cont, ex_never, ex_nil, ex_cons', W_ok, W_bind, fin_ret, fin_next, chK_bl, sq_next, sq_ret, sq_brk, sq_cont, bnd_ok, b_add, b_sub, i_add, i_sub, c_lt, c_le, c_gt, c_ge, c_eq, c_ne, c_eqs, c_nes, c_eqb, t_bl, t_int, t_non, p_int, f_int, as_n, as_t2, as_t3, setMany, getL, List.getElem?_cons_zero, List.getElem?_cons_succ, List.set_cons_zero, List.set_cons_succ, wipeL, tl0, tl1, tl2, tl3, tl4, tl5, tl6, Bool.not_true, Bool.not_false, decide_eq_true_eq, if_true, if_false, ite_true, ite_false, eq_self, Bool.false_eq_true, f_sorted h, f_len (items_ref hs), List.length_map, srtI_len, b_div (show (0 : Int) < 2 ∧ (2 : Int) < 1073741824 by omega), b_mod (show (0 : Int) < 2 by decide)]
  have hl2 := srtI_len l
  have i1 : ixV (.ref S.length) (.int ((l.length : Int) / 2)) (S ++ [.lst ((srtI l).map .int)]) = .ok (.int ((srtI l).getD (l.length / 2) 0)) (S ++ [.lst ((srtI l).map .int)]) := ix_at (items_ref hs) (by omega) (by
    have e := ns_at (ns := srtI l) (i := (l.length : Int) / 2) (by omega) (by omega)
    rw [show ((l.length : Int) / 2).toNat = l.length / 2 by omega] at e ⊢; exact e)
  by_cases hm : l.length % 2 = 1
  · rw [if_pos (show (l.length : Int) % 2 = 1 by omega)]
    simp only [ev_var, ev_cst, ev_bin, ev_neg, ev_cmp, ev_chain', ev_and, ev_or, ev_not, ev_ite, ev_tup, ev_lst, ev_ix, ev_sl, ev_call, ev_bt, ev_mt, ev_isi, ev_lc, ev_nil, ev_cons, ev_onone, ev_osome, ev_cnone, ev_csome, ev_ie, ev_rng, ev_enu, asT, ex_asg, ex_asgS, ex_par, ex_aug, ex_ite, ex_whl, ex_for, ex_expr, ex_ret, ex_retN, ex_pass, ex_brk, ex_cont, ex_never, ex_nil, ex_cons', W_ok, W_bind, fin_ret, fin_next, chK_bl, sq_next, sq_ret, sq_brk, sq_cont, bnd_ok, b_add, b_sub, i_add, i_sub, c_lt, c_le, c_gt, c_ge, c_eq, c_ne, c_eqs, c_nes, c_eqb, t_bl, t_int, t_non, p_int, f_int, as_n, as_t2, as_t3, setMany, getL, List.getElem?_cons_zero, List.getElem?_cons_succ, List.set_cons_zero, List.set_cons_succ, wipeL, tl0, tl1, tl2, tl3, tl4, tl5, tl6, Bool.not_true, Bool.not_false, decide_eq_true_eq, if_true, if_false, ite_true, ite_false, eq_self, Bool.false_eq_true, i1, b_mulL (show (-18446744073709551616 : Int) < 2 ∧ (2 : Int) < 18446744073709551616 by decide)]
    unfold tm
    rw [if_pos hm]
    exact ⟨rfl, .push⟩
  · rw [if_neg (show ¬(l.length : Int) % 2 = 1 by omega)]
    have i2 : ixV (.ref S.length) (.int ((l.length : Int) / 2 - 1)) (S ++ [.lst ((srtI l).map .int)]) = .ok (.int ((srtI l).getD (l.length / 2 - 1) 0)) (S ++ [.lst ((srtI l).map .int)]) := ix_at (items_ref hs) (by omega) (by
      have e := ns_at (ns := srtI l) (i := (l.length : Int) / 2 - 1) (by omega) (by omega)
      rw [show ((l.length : Int) / 2 - 1).toNat = l.length / 2 - 1 by omega] at e ⊢; exact e)
    simp only [ev_var, ev_cst, ev_bin, ev_neg, ev_cmp, ev_chain', ev_and, ev_or, ev_not, ev_ite, ev_tup, ev_lst, ev_ix, ev_sl, ev_call, ev_bt, ev_mt, ev_isi, ev_lc, ev_nil, ev_cons, ev_onone, ev_osome, ev_cnone, ev_csome, ev_ie, ev_rng, ev_enu, asT, ex_asg, ex_asgS, ex_par, ex_aug, ex_ite, ex_whl, ex_for, ex_expr, ex_ret, ex_retN, ex_pass, ex_brk, ex_cont, ex_never, ex_nil, ex_cons', W_ok, W_bind, fin_ret, fin_next, chK_bl, sq_next, sq_ret, sq_brk, sq_cont, bnd_ok, b_add, b_sub, i_add, i_sub, c_lt, c_le, c_gt, c_ge, c_eq, c_ne, c_eqs, c_nes, c_eqb, t_bl, t_int, t_non, p_int, f_int, as_n, as_t2, as_t3, setMany, getL, List.getElem?_cons_zero, List.getElem?_cons_succ, List.set_cons_zero, List.set_cons_succ, wipeL, tl0, tl1, tl2, tl3, tl4, tl5, tl6, Bool.not_true, Bool.not_false, decide_eq_true_eq, if_true, if_false, ite_true, ite_false, eq_self, Bool.false_eq_true, i1, i2]
    unfold tm
    rw [if_neg hm]
    exact ⟨rfl, .push⟩
/-! ### rational numbers, handed as a number or as a pair -/
def Num (S : Store) (t : PV) (n d : Int) : Prop := (t = .int n ∧ d = 1) ∨ ∃ a b : Int, itemsOf S t = some [.int a, .int b] ∧ 1 ≤ b ∧ b < 1073741824 ∧ n = a / gI a b ∧ d = b / gI a b
theorem Num.sub {S S' : Store} {t : PV} {n d : Int} (h : Num S t n d) (k : Mp.Sub S S') : Num S' t n d := by
  rcases h with h | ⟨a, b, h1, h2⟩
  · exact .inl h
  · exact .inr ⟨a, b, items_sub k h1, h2⟩
theorem is_int_row {x : PV} {xs : List PV} (h : itemsOf S x = some xs) : callN fs fu (k + 1) 1 [x] S = .ok (.bl false) S := by
  refine eq_of_W ?_
  refine W_fn2 F_is_integer rfl rfl ?_; simp only [List.map_cons, List.map_nil, List.length_cons, List.length_nil, List.cons_append, List.nil_append, List.append_nil, List.replicate_succ, List.replicate_zero, Nat.reduceAdd, Nat.reduceSub, Nat.zero_add]
  unfold bIsInteger
  simp only [ev_var, ev_cst, ev_bin, ev_neg, ev_cmp, ev_chain', ev_and, ev_or, ev_not, ev_ite, ev_tup, ev_lst, ev_ix, ev_sl, ev_call, ev_bt, ev_mt, ev_isi, ev_lc, ev_nil, ev_cons, ev_onone, ev_osome, ev_cnone, ev_csome, ev_ie, ev_rng, ev_enu, asT, ex_asg, ex_asgS, ex_par, ex_aug, ex_ite, ex_whl, ex_for, ex_expr, ex_ret, ex_retN, ex_pass, ex_brk, ex_cont, ex_never, ex_nil, ex_cons', W_ok, W_bind, fin_ret, fin_next, chK_bl, sq_next, sq_ret, sq_brk, sq_cont, bnd_ok, b_add, b_sub, i_add, i_sub, c_lt, c_le, c_gt, c_ge, c_eq, c_ne, c_eqs, c_nes, c_eqb, t_bl, t_int, t_non, p_int, f_int, as_n, as_t2, as_t3, setMany, getL, List.getElem?_cons_zero, List.getElem?_cons_succ, List.set_cons_zero, List.set_cons_succ, wipeL, tl0, tl1, tl2, tl3, tl4, tl5, tl6, Bool.not_true, Bool.not_false, decide_eq_true_eq, if_true, if_false, ite_true, ite_false, eq_self, Bool.false_eq_true, isiF]
  rcases ty_items h with e | e <;> rw [e]
  all_goals simp only [ev_var, ev_cst, ev_bin, ev_neg, ev_cmp, ev_chain', ev_and, ev_or, ev_not, ev_ite, ev_tup, ev_lst, ev_ix, ev_sl, ev_call, ev_bt, ev_mt, ev_isi, ev_lc, ev_nil, ev_cons, ev_onone, ev_osome, ev_cnone, ev_csome, ev_ie, ev_rng, ev_enu, asT, ex_asg, ex_asgS, ex_par, ex_aug, ex_ite, ex_whl, ex_for, ex_expr, ex_ret, ex_retN, ex_pass, ex_brk, ex_cont, ex_never, ex_nil, ex_cons', W_ok, W_bind, fin_ret, fin_next, chK_bl, sq_next, sq_ret, sq_brk, sq_cont, bnd_ok, b_add, b_sub, i_add, i_sub, c_lt, c_le, c_gt, c_ge, c_eq, c_ne, c_eqs, c_nes, c_eqb, t_bl, t_int, t_non, p_int, f_int, as_n, as_t2, as_t3, setMany, getL, List.getElem?_cons_zero, List.getElem?_cons_succ, List.set_cons_zero, List.set_cons_succ, wipeL, tl0, tl1, tl2, tl3, tl4, tl5, tl6, Bool.not_true, Bool.not_false, decide_eq_true_eq, if_true, if_false, ite_true, ite_false, eq_self, Bool.false_eq_true, List.any_cons, List.any_nil, isaT, Bool.or_false, reduceCtorEq, decide_true, decide_false, and_self]
theorem is_number_eq {t : PV} {n d : Int} (h : Num S t n d) : callN fs fu (k + 3) 6 [t] S = .ok (.bl true) S := by
  refine eq_of_W ?_
  refine W_fn2 F_is_number rfl rfl ?_; simp only [List.map_cons, List.map_nil, List.length_cons, List.length_nil, List.cons_append, List.nil_append, List.append_nil, List.replicate_succ, List.replicate_zero, Nat.reduceAdd, Nat.reduceSub, Nat.zero_add]
  unfold B_is_number
  rcases h with ⟨rfl, rfl⟩ | ⟨a, b, h1, h2, h3, h4, h5⟩
  · simp only [ev_var, ev_cst, ev_bin, ev_neg, ev_cmp, ev_chain', ev_and, ev_or, ev_not, ev_ite, ev_tup, ev_lst, ev_ix, ev_sl, ev_call, ev_bt, ev_mt, ev_isi, ev_lc, ev_nil, ev_cons, ev_onone, ev_osome, ev_cnone, ev_csome, ev_ie, ev_rng, ev_enu, asT, ex_asg, ex_asgS, ex_par, ex_aug, ex_ite, ex_whl, ex_for, ex_expr, ex_ret, ex_retN, ex_pass, ex_brk, ex_cont, ex_never, ex_nil, ex_cons', W_ok, W_bind, fin_ret, fin_next, chK_bl, sq_next, sq_ret, sq_brk, sq_cont, bnd_ok, b_add, b_sub, i_add, i_sub, c_lt, c_le, c_gt, c_ge, c_eq, c_ne, c_eqs, c_nes, c_eqb, t_bl, t_int, t_non, p_int, f_int, as_n, as_t2, as_t3, setMany, getL, List.getElem?_cons_zero, List.getElem?_cons_succ, List.set_cons_zero, List.set_cons_succ, wipeL, tl0, tl1, tl2, tl3, tl4, tl5, tl6, Bool.not_true, Bool.not_false, decide_eq_true_eq, if_true, if_false, ite_true, ite_false, eq_self, Bool.false_eq_true, is_integer_eq F_is_integer, and_self]
  · have i0 : ixV t (.int 0) S = .ok (.int a) S := ix_at h1 (by decide) rfl
    have i1 : ixV t (.int 1) S = .ok (.int b) S := ix_at h1 (by decide) rfl
    have hr : (2 : Int) ≤ (([.int a, .int b] : List PV).length : Int) ∧ (([.int a, .int b] : List PV).length : Int) ≤ 2 := ⟨Int.le_refl 2, Int.le_refl 2⟩
    simp only [ev_var, ev_cst, ev_bin, ev_neg, ev_cmp, ev_chain', ev_and, ev_or, ev_not, ev_ite, ev_tup, ev_lst, ev_ix, ev_sl, ev_call, ev_bt, ev_mt, ev_isi, ev_lc, ev_nil, ev_cons, ev_onone, ev_osome, ev_cnone, ev_csome, ev_ie, ev_rng, ev_enu, asT, ex_asg, ex_asgS, ex_par, ex_aug, ex_ite, ex_whl, ex_for, ex_expr, ex_ret, ex_retN, ex_pass, ex_brk, ex_cont, ex_never, ex_nil, ex_cons', W_ok, W_bind, fin_ret, fin_next, chK_bl, sq_next, sq_ret, sq_brk, sq_cont, bnd_ok, b_add, b_sub, i_add, i_sub, c_lt, c_le, c_gt, c_ge, c_eq, c_ne, c_eqs, c_nes, c_eqb, t_bl, t_int, t_non, p_int, f_int, as_n, as_t2, as_t3, setMany, getL, List.getElem?_cons_zero, List.getElem?_cons_succ, List.set_cons_zero, List.set_cons_succ, wipeL, tl0, tl1, tl2, tl3, tl4, tl5, tl6, Bool.not_true, Bool.not_false, decide_eq_true_eq, if_true, if_false, ite_true, ite_false, eq_self, Bool.false_eq_true, is_int_row h1, is_row_eq F_is_row F_is_sequence h1, hr, i0, i1, is_integer_eq F_is_integer, h2, decide_true, and_self]
theorem number_of_eq {t : PV} {n d : Int} (h : Num S t n d) : callN fs fu (k + 2) 9 [t] S = .ok (.tup [.int n, .int d]) S := by
  refine eq_of_W ?_
  refine W_fn2 F_number_of rfl rfl ?_; simp only [List.map_cons, List.map_nil, List.length_cons, List.length_nil, List.cons_append, List.nil_append, List.append_nil, List.replicate_succ, List.replicate_zero, Nat.reduceAdd, Nat.reduceSub, Nat.zero_add]
  unfold B_number_of
  rcases h with ⟨rfl, rfl⟩ | ⟨a, b, h1, h2, h3, h4, h5⟩
  · simp only [ev_var, ev_cst, ev_bin, ev_neg, ev_cmp, ev_chain', ev_and, ev_or, ev_not, ev_ite, ev_tup, ev_lst, ev_ix, ev_sl, ev_call, ev_bt, ev_mt, ev_isi, ev_lc, ev_nil, ev_cons, ev_onone, ev_osome, ev_cnone, ev_csome, ev_ie, ev_rng, ev_enu, asT, ex_asg, ex_asgS, ex_par, ex_aug, ex_ite, ex_whl, ex_for, ex_expr, ex_ret, ex_retN, ex_pass, ex_brk, ex_cont, ex_never, ex_nil, ex_cons', W_ok, W_bind, fin_ret, fin_next, chK_bl, sq_next, sq_ret, sq_brk, sq_cont, bnd_ok, b_add, b_sub, i_add, i_sub, c_lt, c_le, c_gt, c_ge, c_eq, c_ne, c_eqs, c_nes, c_eqb, t_bl, t_int, t_non, p_int, f_int, as_n, as_t2, as_t3, setMany, getL, List.getElem?_cons_zero, List.getElem?_cons_succ, List.set_cons_zero, List.set_cons_succ, wipeL, tl0, tl1, tl2, tl3, tl4, tl5, tl6, Bool.not_true, Bool.not_false, decide_eq_true_eq, if_true, if_false, ite_true, ite_false, eq_self, Bool.false_eq_true, isiF, tyOf, List.any_cons, List.any_nil, isaT, Bool.or_false, decide_true, and_self]
  · have i0 : ixV t (.int 0) S = .ok (.int a) S := ix_at h1 (by decide) rfl
    have i1 : ixV t (.int 1) S = .ok (.int b) S := ix_at h1 (by decide) rfl
    subst h4 h5
    simp only [ev_var, ev_cst, ev_bin, ev_neg, ev_cmp, ev_chain', ev_and, ev_or, ev_not, ev_ite, ev_tup, ev_lst, ev_ix, ev_sl, ev_call, ev_bt, ev_mt, ev_isi, ev_lc, ev_nil, ev_cons, ev_onone, ev_osome, ev_cnone, ev_csome, ev_ie, ev_rng, ev_enu, asT, ex_asg, ex_asgS, ex_par, ex_aug, ex_ite, ex_whl, ex_for, ex_expr, ex_ret, ex_retN, ex_pass, ex_brk, ex_cont, ex_never, ex_nil, ex_cons', W_ok, W_bind, fin_ret, fin_next, chK_bl, sq_next, sq_ret, sq_brk, sq_cont, bnd_ok, b_add, b_sub, i_add, i_sub, c_lt, c_le, c_gt, c_ge, c_eq, c_ne, c_eqs, c_nes, c_eqb, t_bl, t_int, t_non, p_int, f_int, as_n, as_t2, as_t3, setMany, getL, List.getElem?_cons_zero, List.getElem?_cons_succ, List.set_cons_zero, List.set_cons_succ, wipeL, tl0, tl1, tl2, tl3, tl4, tl5, tl6, Bool.not_true, Bool.not_false, decide_eq_true_eq, if_true, if_false, ite_true, ite_false, eq_self, Bool.false_eq_true, isiF]
    rcases ty_items h1 with e | e <;> rw [e]
    all_goals simp only [ev_var, ev_cst, ev_bin, ev_neg, ev_cmp, ev_chain', ev_and, ev_or, ev_not, ev_ite, ev_tup, ev_lst, ev_ix, ev_sl, ev_call, ev_bt, ev_mt, ev_isi, ev_lc, ev_nil, ev_cons, ev_onone, ev_osome, ev_cnone, ev_csome, ev_ie, ev_rng, ev_enu, asT, ex_asg, ex_asgS, ex_par, ex_aug, ex_ite, ex_whl, ex_for, ex_expr, ex_ret, ex_retN, ex_pass, ex_brk, ex_cont, ex_never, ex_nil, ex_cons', W_ok, W_bind, fin_ret, fin_next, chK_bl, sq_next, sq_ret, sq_brk, sq_cont, bnd_ok, b_add, b_sub, i_add, i_sub, c_lt, c_le, c_gt, c_ge, c_eq, c_ne, c_eqs, c_nes, c_eqb, t_bl, t_int, t_non, p_int, f_int, as_n, as_t2, as_t3, setMany, getL, List.getElem?_cons_zero, List.getElem?_cons_succ, List.set_cons_zero, List.set_cons_succ, wipeL, tl0, tl1, tl2, tl3, tl4, tl5, tl6, Bool.not_true, Bool.not_false, decide_eq_true_eq, if_true, if_false, ite_true, ite_false, eq_self, Bool.false_eq_true, List.any_cons, List.any_nil, isaT, Bool.or_false, reduceCtorEq, decide_true, decide_false, i0, i1, lowest_eq (k := k) (n := a) F_lowest (show (0 : Int) < b by omega) h3, and_self]
/-! ### silent -/
def gp (l : List Int) : List Int := (List.range (l.length - 1)).map fun i => l.getD (i + 1) 0 - l.getD i 0
def lastI (l : List Int) : Int := l.getD (l.length - 1) 0
def stepF (l : List Int) : PV → PV
  | .int i => .int (l.getD (i + 1).toNat 0 - l.getD i.toNat 0)
  | v => v
theorem step_map (l : List Int) : (rngL 0 ((l.length : Int) - 1).toNat).map (stepF l) = (gp l).map .int := by
  unfold rngL gp
  rw [List.map_map, List.map_map, show ((l.length : Int) - 1).toNat = l.length - 1 by omega]
  refine List.map_congr_left fun m _ => ?_
  show stepF l (.int (0 + (m : Int))) = .int (l.getD (m + 1) 0 - l.getD m 0)
  show PV.int (l.getD (0 + (m : Int) + 1).toNat 0 - l.getD (0 + (m : Int)).toNat 0) = _
  rw [show (0 + (m : Int) + 1).toNat = m + 1 by omega, show (0 + (m : Int)).toNat = m by omega]
theorem gp_len (l : List Int) : (gp l).length = l.length - 1 := by unfold gp; rw [List.length_map, List.length_range]
theorem silent_ok {x t : PV} {l : List Int} {now n d : Int} (h : itemsOf S x = some (l.map .int)) (hp : l.Pairwise (· < ·)) (hl : 2 ≤ l.length ∧ l.length ≤ 50) (hb : ∀ n, n ∈ l → 0 ≤ n ∧ n ≤ 10000000000)
    (hn : lastI l ≤ now ∧ now ≤ 10000000000) (ht : Num S t n d) (hn0 : 0 < n ∧ n < 1073741824) (hd : 0 < d ∧ d < 1073741824) :
    W (callN fs fu (k + 5) 19 [x, .int now, t] S) (fun r S' => r = .bl (decide (n * tm (gp l) < (now - lastI l) * 2 * d)) ∧ Mp.Sub S S') := by
  refine W_fn2 F_silent rfl rfl ?_; simp only [List.map_cons, List.map_nil, List.length_cons, List.length_nil, List.cons_append, List.nil_append, List.append_nil, List.replicate_succ, List.replicate_zero, Nat.reduceAdd, Nat.reduceSub, Nat.zero_add]
  unfold B_silent
  try simp only [ev_var, ev_cst, ev_bin, ev_neg, ev_cmp, ev_chain', ev_and, ev_or, ev_not, ev_ite, ev_tup, ev_lst, ev_ix, ev_sl, ev_call, ev_bt, ev_mt, ev_isi, ev_lc, ev_nil, ev_cons, ev_onone, ev_osome, ev_cnone, ev_csome, ev_ie, ev_rng, ev_enu, asT, ex_asg, ex_asgS, ex_par, ex_aug, ex_ite, ex_whl, ex_for, ex_expr, ex_ret, ex_retN, ex_pass, ex_brk, ex_cont, ex_never, ex_nil, ex_cons', W_ok, W_bind, fin_ret, fin_next, chK_bl, sq_next, sq_ret, sq_brk, sq_cont, bnd_ok, b_add, b_sub, i_add, i_sub, c_lt, c_le, c_gt, c_ge, c_eq, c_ne, c_eqs, c_nes, c_eqb, t_bl, t_int, t_non, p_int, f_int, as_n, as_t2, as_t3, setMany, getL, List.getElem?_cons_zero, List.getElem?_cons_succ, List.set_cons_zero, List.set_cons_succ, wipeL, tl0, tl1, tl2, tl3, tl4, tl5, tl6, Bool.not_true, Bool.not_false, decide_eq_true_eq, if_true, if_false, ite_true, ite_false, eq_self, Bool.false_eq_true]
  refine (are_seconds_ok h hp hl hb).mono fun r S1 q => ?_
  obtain ⟨rfl, k1⟩ := q
  have h1 := items_sub k1 h
  have ht1 := ht.sub k1
  have el : (l.map PV.int)[(l.map PV.int).length - 1]? = some (.int (lastI l)) := by
    have e := ns_at (ns := l) (i := (l.length : Int) - 1) (by omega) (by omega)
    rw [show ((l.length : Int) - 1).toNat = l.length - 1 by omega] at e
    rw [List.length_map]
    exact e
  have il := ix_lastP h1 el
  have hlast : 0 ≤ lastI l := (hb _ (by
    unfold lastI
    rw [List.getD_eq_getElem?_getD, List.getElem?_eq_getElem (show l.length - 1 < l.length by omega)]
    exact List.getElem_mem _)).1
  have g0 : ixV (.tup [.int n, .int d]) (.int 0) S1 = .ok (.int n) S1 := ix_at rfl (by decide) rfl
  have g1 : ixV (.tup [.int n, .int d]) (.int 1) S1 = .ok (.int d) S1 := ix_at rfl (by decide) rfl
  simp only [ev_var, ev_cst, ev_bin, ev_neg, ev_cmp, ev_chain', ev_and, ev_or, ev_not, ev_ite, ev_tup, ev_lst, ev_ix, ev_sl, ev_call, ev_bt, ev_mt, ev_isi, ev_lc, ev_nil, ev_cons, ev_onone, ev_osome, ev_cnone, ev_csome, ev_ie, ev_rng, ev_enu, asT, ex_asg, ex_asgS, ex_par, ex_aug, ex_ite, ex_whl, ex_for, ex_expr, ex_ret, ex_retN, ex_pass, ex_brk, ex_cont, ex_never, ex_nil, ex_cons', W_ok, W_bind, fin_ret, fin_next, chK_bl, sq_next, sq_ret, sq_brk, sq_cont, bnd_ok, b_add, b_sub, i_add, i_sub, c_lt, c_le, c_gt, c_ge, c_eq, c_ne, c_eqs, c_nes, c_eqb, t_bl, t_int, t_non, p_int, f_int, as_n, as_t2, as_t3, setMany, getL, List.getElem?_cons_zero, List.getElem?_cons_succ, List.set_cons_zero, List.set_cons_succ, wipeL, tl0, tl1, tl2, tl3, tl4, tl5, tl6, Bool.not_true, Bool.not_false, decide_eq_true_eq, if_true, if_false, ite_true, ite_false, eq_self, Bool.false_eq_true, n_neg, demand_eq F_demand, is_second_eq (show 0 ≤ now ∧ now ≤ 10000000000 by omega), il, hn.1, is_number_eq ht1, number_of_eq ht1, g0, hn0.1, decide_true, f_len h1, List.length_map]
  refine W_r1 (i := (l.length : Int) - 1) (bigI (by omega) (by omega)) ?_
  refine (W_lcM (p := fun _ => True) (it := .vals (rngL 0 ((l.length : Int) - 1).toNat)) (xs := rngL 0 ((l.length : Int) - 1).toNat) (stepF l) rfl trivial (by rw [rngL_len]; unfold lim; omega) fun y hy S2 k2 => ?_).mono fun ys S2 q => ?_
  · obtain ⟨m, hm⟩ := List.getElem?_of_mem hy
    obtain ⟨rfl, hm'⟩ := rngL_get hm
    have i1 := ix_at (i := 0 + (m : Int)) (items_sub k2 h1) (by omega) (ns_at (by omega) (by omega))
    have i2 := ix_at (i := 0 + (m : Int) + 1) (items_sub k2 h1) (by omega) (ns_at (by omega) (by omega))
    simp only [ev_var, ev_cst, ev_bin, ev_neg, ev_cmp, ev_chain', ev_and, ev_or, ev_not, ev_ite, ev_tup, ev_lst, ev_ix, ev_sl, ev_call, ev_bt, ev_mt, ev_isi, ev_lc, ev_nil, ev_cons, ev_onone, ev_osome, ev_cnone, ev_csome, ev_ie, ev_rng, ev_enu, asT, ex_asg, ex_asgS, ex_par, ex_aug, ex_ite, ex_whl, ex_for, ex_expr, ex_ret, ex_retN, ex_pass, ex_brk, ex_cont, ex_never, ex_nil, ex_cons', W_ok, W_bind, fin_ret, fin_next, chK_bl, sq_next, sq_ret, sq_brk, sq_cont, bnd_ok, b_add, b_sub, i_add, i_sub, c_lt, c_le, c_gt, c_ge, c_eq, c_ne, c_eqs, c_nes, c_eqb, t_bl, t_int, t_non, p_int, f_int, as_n, as_t2, as_t3, setMany, getL, List.getElem?_cons_zero, List.getElem?_cons_succ, List.set_cons_zero, List.set_cons_succ, wipeL, tl0, tl1, tl2, tl3, tl4, tl5, tl6, Bool.not_true, Bool.not_false, decide_eq_true_eq, if_true, if_false, ite_true, ite_false, eq_self, Bool.false_eq_true, i1, i2]
    exact ⟨by rfl, .refl⟩
  obtain ⟨rfl, k2⟩ := q
  rw [step_map]
  have k3 := k1.trans (k2.trans (.push (o := .lst ((gp l).map .int))))
  have il3 := ix_lastP (items_sub (k2.trans (.push (o := .lst ((gp l).map .int)))) h1) el
  have hat := at_push (S := S2) (o := .lst ((gp l).map .int))
  have g1' : ∀ S, ixV (.tup [.int n, .int d]) (.int 1) S = .ok (.int d) S := fun S => ix_at rfl (by decide) rfl
  have g0' : ∀ S, ixV (.tup [.int n, .int d]) (.int 0) S = .ok (.int n) S := fun S => ix_at rfl (by decide) rfl
  simp only [ev_var, ev_cst, ev_bin, ev_neg, ev_cmp, ev_chain', ev_and, ev_or, ev_not, ev_ite, ev_tup, ev_lst, ev_ix, ev_sl, ev_call, ev_bt, ev_mt, ev_isi, ev_lc, ev_nil, ev_cons, ev_onone, ev_osome, ev_cnone, ev_csome, ev_ie, ev_rng, ev_enu, asT, ex_asg, ex_asgS, ex_par, ex_aug, ex_ite, ex_whl, ex_for, ex_expr, ex_ret, ex_retN, ex_pass, ex_brk, ex_cont, ex_never, ex_nil, ex_cons', W_ok, W_bind, fin_ret, fin_next, chK_bl, sq_next, sq_ret, sq_brk, sq_cont, bnd_ok, b_add, b_sub, i_add, i_sub, c_lt, c_le, c_gt, c_ge, c_eq, c_ne, c_eqs, c_nes, c_eqb, t_bl, t_int, t_non, p_int, f_int, as_n, as_t2, as_t3, setMany, getL, List.getElem?_cons_zero, List.getElem?_cons_succ, List.set_cons_zero, List.set_cons_succ, wipeL, tl0, tl1, tl2, tl3, tl4, tl5, tl6, Bool.not_true, Bool.not_false, decide_eq_true_eq, if_true, if_false, ite_true, ite_false, eq_self, Bool.false_eq_true, n_neg, il3, g0', g1', b_mul (show (-18446744073709551616 : Int) < 2 ∧ (2 : Int) < 18446744073709551616 by decide), b_mul (show (-18446744073709551616 : Int) < d ∧ d < 18446744073709551616 by omega)]
  refine (twice_middle_ok (k := k + 3) hat (by rw [gp_len]; omega)).mono fun r S4 q => ?_
  obtain ⟨rfl, k4⟩ := q
  simp only [ev_var, ev_cst, ev_bin, ev_neg, ev_cmp, ev_chain', ev_and, ev_or, ev_not, ev_ite, ev_tup, ev_lst, ev_ix, ev_sl, ev_call, ev_bt, ev_mt, ev_isi, ev_lc, ev_nil, ev_cons, ev_onone, ev_osome, ev_cnone, ev_csome, ev_ie, ev_rng, ev_enu, asT, ex_asg, ex_asgS, ex_par, ex_aug, ex_ite, ex_whl, ex_for, ex_expr, ex_ret, ex_retN, ex_pass, ex_brk, ex_cont, ex_never, ex_nil, ex_cons', W_ok, W_bind, fin_ret, fin_next, chK_bl, sq_next, sq_ret, sq_brk, sq_cont, bnd_ok, b_add, b_sub, i_add, i_sub, c_lt, c_le, c_gt, c_ge, c_eq, c_ne, c_eqs, c_nes, c_eqb, t_bl, t_int, t_non, p_int, f_int, as_n, as_t2, as_t3, setMany, getL, List.getElem?_cons_zero, List.getElem?_cons_succ, List.set_cons_zero, List.set_cons_succ, wipeL, tl0, tl1, tl2, tl3, tl4, tl5, tl6, Bool.not_true, Bool.not_false, decide_eq_true_eq, if_true, if_false, ite_true, ite_false, eq_self, Bool.false_eq_true, b_mulL (i := n) (show (-18446744073709551616 : Int) < n ∧ n < 18446744073709551616 by omega)]
  exact ⟨trivial, k3.trans k4⟩
/-! ### the law's own rationals -/
theorem mulq_eq {a b c d : Int} (h : 0 < b * d ∧ b * d < 4000) (hc : -18446744073709551616 < c ∧ c < 18446744073709551616) (hd : -18446744073709551616 < d ∧ d < 18446744073709551616) : callN fs fu (k + 3) 29 [.tup [.int a, .int b], .tup [.int c, .int d]] S = .ok (.tup [.int (a * c / gI (a * c) (b * d)), .int (b * d / gI (a * c) (b * d))]) S := by
  refine eq_of_W ?_
  refine W_fn2 F__law_mulq rfl rfl ?_; simp only [List.map_cons, List.map_nil, List.length_cons, List.length_nil, List.cons_append, List.nil_append, List.append_nil, List.replicate_succ, List.replicate_zero, Nat.reduceAdd, Nat.reduceSub, Nat.zero_add]
  unfold B__law_mulq
  have i0 : ∀ S, ixV (.tup [.int a, .int b]) (.int 0) S = .ok (.int a) S := fun S => ix_at rfl (by decide) rfl
  have i1 : ∀ S, ixV (.tup [.int a, .int b]) (.int 1) S = .ok (.int b) S := fun S => ix_at rfl (by decide) rfl
  have j0 : ∀ S, ixV (.tup [.int c, .int d]) (.int 0) S = .ok (.int c) S := fun S => ix_at rfl (by decide) rfl
  have j1 : ∀ S, ixV (.tup [.int c, .int d]) (.int 1) S = .ok (.int d) S := fun S => ix_at rfl (by decide) rfl
  simp only [ev_var, ev_cst, ev_bin, ev_neg, ev_cmp, ev_chain', ev_and, ev_or, ev_not, ev_ite, ev_tup, ev_lst, ev_ix, ev_sl, ev_call, ev_bt, ev_mt, ev_isi, ev_lc, ev_nil, ev_cons, ev_onone, ev_osome, ev_cnone, ev_csome, ev_ie, ev_rng, ev_enu, asT, ex_asg, ex_asgS, ex_par, ex_aug, ex_ite, ex_whl, ex_for, ex_expr, ex_ret, ex_retN, ex_pass, ex_brk, ex_cont, ex_never, ex_nil, ex_cons', W_ok, W_bind, fin_ret, fin_next, chK_bl, sq_next, sq_ret, sq_brk, sq_cont, bnd_ok, b_add, b_sub, i_add, i_sub, c_lt, c_le, c_gt, c_ge, c_eq, c_ne, c_eqs, c_nes, c_eqb, t_bl, t_int, t_non, p_int, f_int, as_n, as_t2, as_t3, setMany, getL, List.getElem?_cons_zero, List.getElem?_cons_succ, List.set_cons_zero, List.set_cons_succ, wipeL, tl0, tl1, tl2, tl3, tl4, tl5, tl6, Bool.not_true, Bool.not_false, decide_eq_true_eq, if_true, if_false, ite_true, ite_false, eq_self, Bool.false_eq_true, i0, i1, j0, j1, b_mul hc, b_mul hd, law_q_eq (k := k) (n := a * c) F__law_q F__law_gcd h.1 h.2, and_self]
theorem cmp_eq {a b c d : Int} (hb : -18446744073709551616 < b ∧ b < 18446744073709551616) (hd : -18446744073709551616 < d ∧ d < 18446744073709551616) : callN fs fu (k + 1) 30 [.tup [.int a, .int b], .tup [.int c, .int d]] S = .ok (.int (if 0 < a * d - c * b then 1 else if a * d - c * b < 0 then -1 else 0)) S := by
  refine eq_of_W ?_
  refine W_fn2 F__law_cmp rfl rfl ?_; simp only [List.map_cons, List.map_nil, List.length_cons, List.length_nil, List.cons_append, List.nil_append, List.append_nil, List.replicate_succ, List.replicate_zero, Nat.reduceAdd, Nat.reduceSub, Nat.zero_add]
  unfold B__law_cmp
  have i0 : ∀ S, ixV (.tup [.int a, .int b]) (.int 0) S = .ok (.int a) S := fun S => ix_at rfl (by decide) rfl
  have i1 : ∀ S, ixV (.tup [.int a, .int b]) (.int 1) S = .ok (.int b) S := fun S => ix_at rfl (by decide) rfl
  have j0 : ∀ S, ixV (.tup [.int c, .int d]) (.int 0) S = .ok (.int c) S := fun S => ix_at rfl (by decide) rfl
  have j1 : ∀ S, ixV (.tup [.int c, .int d]) (.int 1) S = .ok (.int d) S := fun S => ix_at rfl (by decide) rfl
  have n1 : ∀ S, cmpV .Is (.tup [.int a, .int b]) .non S = .ok (.bl false) S := fun S => rfl
  have n2 : ∀ S, cmpV .Is (.tup [.int c, .int d]) .non S = .ok (.bl false) S := fun S => rfl
  simp only [ev_var, ev_cst, ev_bin, ev_neg, ev_cmp, ev_chain', ev_and, ev_or, ev_not, ev_ite, ev_tup, ev_lst, ev_ix, ev_sl, ev_call, ev_bt, ev_mt, ev_isi, ev_lc, ev_nil, ev_cons, ev_onone, ev_osome, ev_cnone, ev_csome, ev_ie, ev_rng, ev_enu, asT, ex_asg, ex_asgS, ex_par, ex_aug, ex_ite, ex_whl, ex_for, ex_expr, ex_ret, ex_retN, ex_pass, ex_brk, ex_cont, ex_never, ex_nil, ex_cons', W_ok, W_bind, fin_ret, fin_next, chK_bl, sq_next, sq_ret, sq_brk, sq_cont, bnd_ok, b_add, b_sub, i_add, i_sub, c_lt, c_le, c_gt, c_ge, c_eq, c_ne, c_eqs, c_nes, c_eqb, t_bl, t_int, t_non, p_int, f_int, as_n, as_t2, as_t3, setMany, getL, List.getElem?_cons_zero, List.getElem?_cons_succ, List.set_cons_zero, List.set_cons_succ, wipeL, tl0, tl1, tl2, tl3, tl4, tl5, tl6, Bool.not_true, Bool.not_false, decide_eq_true_eq, if_true, if_false, ite_true, ite_false, eq_self, Bool.false_eq_true, n1, n2, i0, i1, j0, j1, b_mul hb, b_mul hd, n_neg]
  by_cases h1 : 0 < a * d - c * b
  · rw [if_pos h1, if_pos h1]; try simp only [ev_var, ev_cst, ev_bin, ev_neg, ev_cmp, ev_chain', ev_and, ev_or, ev_not, ev_ite, ev_tup, ev_lst, ev_ix, ev_sl, ev_call, ev_bt, ev_mt, ev_isi, ev_lc, ev_nil, ev_cons, ev_onone, ev_osome, ev_cnone, ev_csome, ev_ie, ev_rng, ev_enu, asT, ex_asg, ex_asgS, ex_par, ex_aug, ex_ite, ex_whl, ex_for, ex_expr, ex_ret, ex_retN, ex_pass, ex_brk, ex_cont, ex_never, ex_nil, ex_cons', W_ok, W_bind, fin_ret, fin_next, chK_bl, sq_next, sq_ret, sq_brk, sq_cont, bnd_ok, b_add, b_sub, i_add, i_sub, c_lt, c_le, c_gt, c_ge, c_eq, c_ne, c_eqs, c_nes, c_eqb, t_bl, t_int, t_non, p_int, f_int, as_n, as_t2, as_t3, setMany, getL, List.getElem?_cons_zero, List.getElem?_cons_succ, List.set_cons_zero, List.set_cons_succ, wipeL, tl0, tl1, tl2, tl3, tl4, tl5, tl6, Bool.not_true, Bool.not_false, decide_eq_true_eq, if_true, if_false, ite_true, ite_false, eq_self, Bool.false_eq_true]; exact ⟨trivial, trivial⟩
  · rw [if_neg h1, if_neg h1]
    try simp only [ev_var, ev_cst, ev_bin, ev_neg, ev_cmp, ev_chain', ev_and, ev_or, ev_not, ev_ite, ev_tup, ev_lst, ev_ix, ev_sl, ev_call, ev_bt, ev_mt, ev_isi, ev_lc, ev_nil, ev_cons, ev_onone, ev_osome, ev_cnone, ev_csome, ev_ie, ev_rng, ev_enu, asT, ex_asg, ex_asgS, ex_par, ex_aug, ex_ite, ex_whl, ex_for, ex_expr, ex_ret, ex_retN, ex_pass, ex_brk, ex_cont, ex_never, ex_nil, ex_cons', W_ok, W_bind, fin_ret, fin_next, chK_bl, sq_next, sq_ret, sq_brk, sq_cont, bnd_ok, b_add, b_sub, i_add, i_sub, c_lt, c_le, c_gt, c_ge, c_eq, c_ne, c_eqs, c_nes, c_eqb, t_bl, t_int, t_non, p_int, f_int, as_n, as_t2, as_t3, setMany, getL, List.getElem?_cons_zero, List.getElem?_cons_succ, List.set_cons_zero, List.set_cons_succ, wipeL, tl0, tl1, tl2, tl3, tl4, tl5, tl6, Bool.not_true, Bool.not_false, decide_eq_true_eq, if_true, if_false, ite_true, ite_false, eq_self, Bool.false_eq_true]
    by_cases h2 : a * d - c * b < 0
    · rw [if_pos h2, if_pos h2]; simp only [ev_var, ev_cst, ev_bin, ev_neg, ev_cmp, ev_chain', ev_and, ev_or, ev_not, ev_ite, ev_tup, ev_lst, ev_ix, ev_sl, ev_call, ev_bt, ev_mt, ev_isi, ev_lc, ev_nil, ev_cons, ev_onone, ev_osome, ev_cnone, ev_csome, ev_ie, ev_rng, ev_enu, asT, ex_asg, ex_asgS, ex_par, ex_aug, ex_ite, ex_whl, ex_for, ex_expr, ex_ret, ex_retN, ex_pass, ex_brk, ex_cont, ex_never, ex_nil, ex_cons', W_ok, W_bind, fin_ret, fin_next, chK_bl, sq_next, sq_ret, sq_brk, sq_cont, bnd_ok, b_add, b_sub, i_add, i_sub, c_lt, c_le, c_gt, c_ge, c_eq, c_ne, c_eqs, c_nes, c_eqb, t_bl, t_int, t_non, p_int, f_int, as_n, as_t2, as_t3, setMany, getL, List.getElem?_cons_zero, List.getElem?_cons_succ, List.set_cons_zero, List.set_cons_succ, wipeL, tl0, tl1, tl2, tl3, tl4, tl5, tl6, Bool.not_true, Bool.not_false, decide_eq_true_eq, if_true, if_false, ite_true, ite_false, eq_self, Bool.false_eq_true, n_neg]; exact ⟨trivial, trivial⟩
    · rw [if_neg h2, if_neg h2]; try simp only [ev_var, ev_cst, ev_bin, ev_neg, ev_cmp, ev_chain', ev_and, ev_or, ev_not, ev_ite, ev_tup, ev_lst, ev_ix, ev_sl, ev_call, ev_bt, ev_mt, ev_isi, ev_lc, ev_nil, ev_cons, ev_onone, ev_osome, ev_cnone, ev_csome, ev_ie, ev_rng, ev_enu, asT, ex_asg, ex_asgS, ex_par, ex_aug, ex_ite, ex_whl, ex_for, ex_expr, ex_ret, ex_retN, ex_pass, ex_brk, ex_cont, ex_never, ex_nil, ex_cons', W_ok, W_bind, fin_ret, fin_next, chK_bl, sq_next, sq_ret, sq_brk, sq_cont, bnd_ok, b_add, b_sub, i_add, i_sub, c_lt, c_le, c_gt, c_ge, c_eq, c_ne, c_eqs, c_nes, c_eqb, t_bl, t_int, t_non, p_int, f_int, as_n, as_t2, as_t3, setMany, getL, List.getElem?_cons_zero, List.getElem?_cons_succ, List.set_cons_zero, List.set_cons_succ, wipeL, tl0, tl1, tl2, tl3, tl4, tl5, tl6, Bool.not_true, Bool.not_false, decide_eq_true_eq, if_true, if_false, ite_true, ite_false, eq_self, Bool.false_eq_true]; exact ⟨trivial, trivial⟩
theorem num_mul {n d m : Int} (hg : gI n d = 1) (hm : 1 ≤ m) : n = n * m / gI (n * m) (d * m) ∧ d = d * m / gI (n * m) (d * m) := by
  have e : gI (n * m) (d * m) = m := by
    unfold gI at *
    rw [Int.natAbs_mul, Int.natAbs_mul, Nat.gcd_mul_right]
    rw [show Nat.gcd n.natAbs d.natAbs = 1 by omega, Nat.one_mul]
    omega
  rw [e, Int.mul_ediv_cancel _ (by omega), Int.mul_ediv_cancel _ (by omega)]
  exact ⟨rfl, rfl⟩
theorem given_ok {rw_ sp : Nat} {R : List Int} (D : Dr R rw_ sp S) {n d : Int} (hg : gI n d = 1) (hd : 1 ≤ d ∧ d ≤ 2) : W (callN fs fu (k + 3) 31 [.ref rw_, .ref sp, .tup [.int n, .int d]] S) (fun r S' => Num S' r n d ∧ Dr R rw_ sp S' ∧ Ks sp S S') := by
  refine W_fn2 F__law_given rfl rfl ?_; simp only [List.map_cons, List.map_nil, List.length_cons, List.length_nil, List.cons_append, List.nil_append, List.append_nil, List.replicate_succ, List.replicate_zero, Nat.reduceAdd, Nat.reduceSub, Nat.zero_add]
  unfold B__law_given
  have i0 : ∀ S, ixV (.tup [.int n, .int d]) (.int 0) S = .ok (.int n) S := fun S => ix_at rfl (by decide) rfl
  have i1 : ∀ S, ixV (.tup [.int n, .int d]) (.int 1) S = .ok (.int d) S := fun S => ix_at rfl (by decide) rfl
  have n1 : ∀ S, cmpV .Is (.tup [.int n, .int d]) .non S = .ok (.bl false) S := fun S => rfl
  have rest : ∀ S1, Dr R rw_ sp S1 → Ks sp S S1 → W (exTs (callN fs fu (k + 2)) fu (Ts.cons (T.asg (Tg.pat (Pt.name 3)) (E.bin (PySem.Operator.Add) (E.cst (PV.int 1)) (E.ite (E.cmp (PySem.CmpOp.Eq) (E.call 23 (Es.cons (E.var 0) (Es.cons (E.var 1) (Es.cons (E.cst (PV.int 4)) (Es.nil))))) (E.cst (PV.int 0))) (E.call 23 (Es.cons (E.var 0) (Es.cons (E.var 1) (Es.cons (E.cst (PV.int 3)) (Es.nil))))) (E.cst (PV.int 0))))) (Ts.cons (T.asg (Tg.pat (Pt.name 4)) (E.tup (Es.cons (E.bin (PySem.Operator.Mult) (E.ix (E.var 2) (E.cst (PV.int 0))) (E.var 3)) (Es.cons (E.bin (PySem.Operator.Mult) (E.ix (E.var 2) (E.cst (PV.int 1))) (E.var 3)) (Es.nil))))) (Ts.cons (T.ret (E.ite (E.cmp (PySem.CmpOp.Eq) (E.call 23 (Es.cons (E.var 0) (Es.cons (E.var 1) (Es.cons (E.cst (PV.int 3)) (Es.nil))))) (E.cst (PV.int 0))) (E.lst (Es.cons (E.ix (E.var 4) (E.cst (PV.int 0))) (Es.cons (E.ix (E.var 4) (E.cst (PV.int 1))) (Es.nil)))) (E.var 4))) (Ts.nil)))) [some (.ref rw_), some (.ref sp), some (.tup [.int n, .int d]), none, none] S1) (fin fun r S' => Num S' r n d ∧ Dr R rw_ sp S' ∧ Ks sp S S') := by
    intro S1 D1 k1
    try simp only [ev_var, ev_cst, ev_bin, ev_neg, ev_cmp, ev_chain', ev_and, ev_or, ev_not, ev_ite, ev_tup, ev_lst, ev_ix, ev_sl, ev_call, ev_bt, ev_mt, ev_isi, ev_lc, ev_nil, ev_cons, ev_onone, ev_osome, ev_cnone, ev_csome, ev_ie, ev_rng, ev_enu, asT, ex_asg, ex_asgS, ex_par, ex_aug, ex_ite, ex_whl, ex_for, ex_expr, ex_ret, ex_retN, ex_pass, ex_brk, ex_cont, ex_never, ex_nil, ex_cons', W_ok, W_bind, fin_ret, fin_next, chK_bl, sq_next, sq_ret, sq_brk, sq_cont, bnd_ok, b_add, b_sub, i_add, i_sub, c_lt, c_le, c_gt, c_ge, c_eq, c_ne, c_eqs, c_nes, c_eqb, t_bl, t_int, t_non, p_int, f_int, as_n, as_t2, as_t3, setMany, getL, List.getElem?_cons_zero, List.getElem?_cons_succ, List.set_cons_zero, List.set_cons_succ, wipeL, tl0, tl1, tl2, tl3, tl4, tl5, tl6, Bool.not_true, Bool.not_false, decide_eq_true_eq, if_true, if_false, ite_true, ite_false, eq_self, Bool.false_eq_true]
    refine (take_ok F__law_take F__law_draw D1 (show (0 : Int) < 4 by decide)).mono fun v S2 q => ?_
    obtain ⟨c, rfl, _, _, D2, k2⟩ := q
    have last : ∀ (m : Int) S3, 1 ≤ m → m ≤ 3 → Dr R rw_ sp S3 → Ks sp S S3 → W (exTs (callN fs fu (k + 2)) fu (Ts.cons (T.asg (Tg.pat (Pt.name 4)) (E.tup (Es.cons (E.bin (PySem.Operator.Mult) (E.ix (E.var 2) (E.cst (PV.int 0))) (E.var 3)) (Es.cons (E.bin (PySem.Operator.Mult) (E.ix (E.var 2) (E.cst (PV.int 1))) (E.var 3)) (Es.nil))))) (Ts.cons (T.ret (E.ite (E.cmp (PySem.CmpOp.Eq) (E.call 23 (Es.cons (E.var 0) (Es.cons (E.var 1) (Es.cons (E.cst (PV.int 3)) (Es.nil))))) (E.cst (PV.int 0))) (E.lst (Es.cons (E.ix (E.var 4) (E.cst (PV.int 0))) (Es.cons (E.ix (E.var 4) (E.cst (PV.int 1))) (Es.nil)))) (E.var 4))) (Ts.nil))) [some (.ref rw_), some (.ref sp), some (.tup [.int n, .int d]), some (.int m), none] S3) (fin fun r S' => Num S' r n d ∧ Dr R rw_ sp S' ∧ Ks sp S S') := by
      intro m S3 hm hm3 D3 k3
      have hdm : 1 ≤ d * m ∧ d * m < 1073741824 := by
        rcases (show d = 1 ∨ d = 2 by omega) with rfl | rfl <;> omega
      have nm := num_mul hg hm
      simp only [ev_var, ev_cst, ev_bin, ev_neg, ev_cmp, ev_chain', ev_and, ev_or, ev_not, ev_ite, ev_tup, ev_lst, ev_ix, ev_sl, ev_call, ev_bt, ev_mt, ev_isi, ev_lc, ev_nil, ev_cons, ev_onone, ev_osome, ev_cnone, ev_csome, ev_ie, ev_rng, ev_enu, asT, ex_asg, ex_asgS, ex_par, ex_aug, ex_ite, ex_whl, ex_for, ex_expr, ex_ret, ex_retN, ex_pass, ex_brk, ex_cont, ex_never, ex_nil, ex_cons', W_ok, W_bind, fin_ret, fin_next, chK_bl, sq_next, sq_ret, sq_brk, sq_cont, bnd_ok, b_add, b_sub, i_add, i_sub, c_lt, c_le, c_gt, c_ge, c_eq, c_ne, c_eqs, c_nes, c_eqb, t_bl, t_int, t_non, p_int, f_int, as_n, as_t2, as_t3, setMany, getL, List.getElem?_cons_zero, List.getElem?_cons_succ, List.set_cons_zero, List.set_cons_succ, wipeL, tl0, tl1, tl2, tl3, tl4, tl5, tl6, Bool.not_true, Bool.not_false, decide_eq_true_eq, if_true, if_false, ite_true, ite_false, eq_self, Bool.false_eq_true, i0, i1, b_mul (show (-18446744073709551616 : Int) < m ∧ m < 18446744073709551616 by omega)]
      refine (take_ok F__law_take F__law_draw D3 (show (0 : Int) < 3 by decide)).mono fun v S4 q => ?_
      obtain ⟨c, rfl, _, _, D4, k4⟩ := q
      try simp only [ev_var, ev_cst, ev_bin, ev_neg, ev_cmp, ev_chain', ev_and, ev_or, ev_not, ev_ite, ev_tup, ev_lst, ev_ix, ev_sl, ev_call, ev_bt, ev_mt, ev_isi, ev_lc, ev_nil, ev_cons, ev_onone, ev_osome, ev_cnone, ev_csome, ev_ie, ev_rng, ev_enu, asT, ex_asg, ex_asgS, ex_par, ex_aug, ex_ite, ex_whl, ex_for, ex_expr, ex_ret, ex_retN, ex_pass, ex_brk, ex_cont, ex_never, ex_nil, ex_cons', W_ok, W_bind, fin_ret, fin_next, chK_bl, sq_next, sq_ret, sq_brk, sq_cont, bnd_ok, b_add, b_sub, i_add, i_sub, c_lt, c_le, c_gt, c_ge, c_eq, c_ne, c_eqs, c_nes, c_eqb, t_bl, t_int, t_non, p_int, f_int, as_n, as_t2, as_t3, setMany, getL, List.getElem?_cons_zero, List.getElem?_cons_succ, List.set_cons_zero, List.set_cons_succ, wipeL, tl0, tl1, tl2, tl3, tl4, tl5, tl6, Bool.not_true, Bool.not_false, decide_eq_true_eq, if_true, if_false, ite_true, ite_false, eq_self, Bool.false_eq_true]
      have j0 : ∀ S, ixV (.tup [.int (n * m), .int (d * m)]) (.int 0) S = .ok (.int (n * m)) S := fun S => ix_at rfl (by decide) rfl
      have j1 : ∀ S, ixV (.tup [.int (n * m), .int (d * m)]) (.int 1) S = .ok (.int (d * m)) S := fun S => ix_at rfl (by decide) rfl
      by_cases hc : c = 0
      · rw [if_pos hc]
        simp only [ev_var, ev_cst, ev_bin, ev_neg, ev_cmp, ev_chain', ev_and, ev_or, ev_not, ev_ite, ev_tup, ev_lst, ev_ix, ev_sl, ev_call, ev_bt, ev_mt, ev_isi, ev_lc, ev_nil, ev_cons, ev_onone, ev_osome, ev_cnone, ev_csome, ev_ie, ev_rng, ev_enu, asT, ex_asg, ex_asgS, ex_par, ex_aug, ex_ite, ex_whl, ex_for, ex_expr, ex_ret, ex_retN, ex_pass, ex_brk, ex_cont, ex_never, ex_nil, ex_cons', W_ok, W_bind, fin_ret, fin_next, chK_bl, sq_next, sq_ret, sq_brk, sq_cont, bnd_ok, b_add, b_sub, i_add, i_sub, c_lt, c_le, c_gt, c_ge, c_eq, c_ne, c_eqs, c_nes, c_eqb, t_bl, t_int, t_non, p_int, f_int, as_n, as_t2, as_t3, setMany, getL, List.getElem?_cons_zero, List.getElem?_cons_succ, List.set_cons_zero, List.set_cons_succ, wipeL, tl0, tl1, tl2, tl3, tl4, tl5, tl6, Bool.not_true, Bool.not_false, decide_eq_true_eq, if_true, if_false, ite_true, ite_false, eq_self, Bool.false_eq_true, j0, j1]
        exact ⟨.inr ⟨n * m, d * m, items_ref at_push, hdm.1, hdm.2, nm⟩, D4.kp (.push), (k3.trans k4).trans .push⟩
      · rw [if_neg hc]
        try simp only [ev_var, ev_cst, ev_bin, ev_neg, ev_cmp, ev_chain', ev_and, ev_or, ev_not, ev_ite, ev_tup, ev_lst, ev_ix, ev_sl, ev_call, ev_bt, ev_mt, ev_isi, ev_lc, ev_nil, ev_cons, ev_onone, ev_osome, ev_cnone, ev_csome, ev_ie, ev_rng, ev_enu, asT, ex_asg, ex_asgS, ex_par, ex_aug, ex_ite, ex_whl, ex_for, ex_expr, ex_ret, ex_retN, ex_pass, ex_brk, ex_cont, ex_never, ex_nil, ex_cons', W_ok, W_bind, fin_ret, fin_next, chK_bl, sq_next, sq_ret, sq_brk, sq_cont, bnd_ok, b_add, b_sub, i_add, i_sub, c_lt, c_le, c_gt, c_ge, c_eq, c_ne, c_eqs, c_nes, c_eqb, t_bl, t_int, t_non, p_int, f_int, as_n, as_t2, as_t3, setMany, getL, List.getElem?_cons_zero, List.getElem?_cons_succ, List.set_cons_zero, List.set_cons_succ, wipeL, tl0, tl1, tl2, tl3, tl4, tl5, tl6, Bool.not_true, Bool.not_false, decide_eq_true_eq, if_true, if_false, ite_true, ite_false, eq_self, Bool.false_eq_true]
        exact ⟨.inr ⟨n * m, d * m, rfl, hdm.1, hdm.2, nm⟩, D4, k3.trans k4⟩
    try simp only [ev_var, ev_cst, ev_bin, ev_neg, ev_cmp, ev_chain', ev_and, ev_or, ev_not, ev_ite, ev_tup, ev_lst, ev_ix, ev_sl, ev_call, ev_bt, ev_mt, ev_isi, ev_lc, ev_nil, ev_cons, ev_onone, ev_osome, ev_cnone, ev_csome, ev_ie, ev_rng, ev_enu, asT, ex_asg, ex_asgS, ex_par, ex_aug, ex_ite, ex_whl, ex_for, ex_expr, ex_ret, ex_retN, ex_pass, ex_brk, ex_cont, ex_never, ex_nil, ex_cons', W_ok, W_bind, fin_ret, fin_next, chK_bl, sq_next, sq_ret, sq_brk, sq_cont, bnd_ok, b_add, b_sub, i_add, i_sub, c_lt, c_le, c_gt, c_ge, c_eq, c_ne, c_eqs, c_nes, c_eqb, t_bl, t_int, t_non, p_int, f_int, as_n, as_t2, as_t3, setMany, getL, List.getElem?_cons_zero, List.getElem?_cons_succ, List.set_cons_zero, List.set_cons_succ, wipeL, tl0, tl1, tl2, tl3, tl4, tl5, tl6, Bool.not_true, Bool.not_false, decide_eq_true_eq, if_true, if_false, ite_true, ite_false, eq_self, Bool.false_eq_true]
    by_cases hc : c = 0
    · rw [if_pos hc]
      try simp only [ev_var, ev_cst, ev_bin, ev_neg, ev_cmp, ev_chain', ev_and, ev_or, ev_not, ev_ite, ev_tup, ev_lst, ev_ix, ev_sl, ev_call, ev_bt, ev_mt, ev_isi, ev_lc, ev_nil, ev_cons, ev_onone, ev_osome, ev_cnone, ev_csome, ev_ie, ev_rng, ev_enu, asT, ex_asg, ex_asgS, ex_par, ex_aug, ex_ite, ex_whl, ex_for, ex_expr, ex_ret, ex_retN, ex_pass, ex_brk, ex_cont, ex_never, ex_nil, ex_cons', W_ok, W_bind, fin_ret, fin_next, chK_bl, sq_next, sq_ret, sq_brk, sq_cont, bnd_ok, b_add, b_sub, i_add, i_sub, c_lt, c_le, c_gt, c_ge, c_eq, c_ne, c_eqs, c_nes, c_eqb, t_bl, t_int, t_non, p_int, f_int, as_n, as_t2, as_t3, setMany, getL, List.getElem?_cons_zero, List.getElem?_cons_succ, List.set_cons_zero, List.set_cons_succ, wipeL, tl0, tl1, tl2, tl3, tl4, tl5, tl6, Bool.not_true, Bool.not_false, decide_eq_true_eq, if_true, if_false, ite_true, ite_false, eq_self, Bool.false_eq_true]
      refine (take_ok F__law_take F__law_draw D2 (show (0 : Int) < 3 by decide)).mono fun v S3 q => ?_
      obtain ⟨c, rfl, h0, h1, D3, k3⟩ := q
      have l := last (1 + c) S3 (by omega) (by omega) D3 ((k1.trans k2).trans k3)
      revert l
      try simp only [ev_var, ev_cst, ev_bin, ev_neg, ev_cmp, ev_chain', ev_and, ev_or, ev_not, ev_ite, ev_tup, ev_lst, ev_ix, ev_sl, ev_call, ev_bt, ev_mt, ev_isi, ev_lc, ev_nil, ev_cons, ev_onone, ev_osome, ev_cnone, ev_csome, ev_ie, ev_rng, ev_enu, asT, ex_asg, ex_asgS, ex_par, ex_aug, ex_ite, ex_whl, ex_for, ex_expr, ex_ret, ex_retN, ex_pass, ex_brk, ex_cont, ex_never, ex_nil, ex_cons', W_ok, W_bind, fin_ret, fin_next, chK_bl, sq_next, sq_ret, sq_brk, sq_cont, bnd_ok, b_add, b_sub, i_add, i_sub, c_lt, c_le, c_gt, c_ge, c_eq, c_ne, c_eqs, c_nes, c_eqb, t_bl, t_int, t_non, p_int, f_int, as_n, as_t2, as_t3, setMany, getL, List.getElem?_cons_zero, List.getElem?_cons_succ, List.set_cons_zero, List.set_cons_succ, wipeL, tl0, tl1, tl2, tl3, tl4, tl5, tl6, Bool.not_true, Bool.not_false, decide_eq_true_eq, if_true, if_false, ite_true, ite_false, eq_self, Bool.false_eq_true]
      exact fun l => l
    · rw [if_neg hc]
      have l := last (1 + 0) S2 (by omega) (by omega) D2 (k1.trans k2)
      revert l
      try simp only [ev_var, ev_cst, ev_bin, ev_neg, ev_cmp, ev_chain', ev_and, ev_or, ev_not, ev_ite, ev_tup, ev_lst, ev_ix, ev_sl, ev_call, ev_bt, ev_mt, ev_isi, ev_lc, ev_nil, ev_cons, ev_onone, ev_osome, ev_cnone, ev_csome, ev_ie, ev_rng, ev_enu, asT, ex_asg, ex_asgS, ex_par, ex_aug, ex_ite, ex_whl, ex_for, ex_expr, ex_ret, ex_retN, ex_pass, ex_brk, ex_cont, ex_never, ex_nil, ex_cons', W_ok, W_bind, fin_ret, fin_next, chK_bl, sq_next, sq_ret, sq_brk, sq_cont, bnd_ok, b_add, b_sub, i_add, i_sub, c_lt, c_le, c_gt, c_ge, c_eq, c_ne, c_eqs, c_nes, c_eqb, t_bl, t_int, t_non, p_int, f_int, as_n, as_t2, as_t3, setMany, getL, List.getElem?_cons_zero, List.getElem?_cons_succ, List.set_cons_zero, List.set_cons_succ, wipeL, tl0, tl1, tl2, tl3, tl4, tl5, tl6, Bool.not_true, Bool.not_false, decide_eq_true_eq, if_true, if_false, ite_true, ite_false, eq_self, Bool.false_eq_true]
      exact fun l => l
  simp only [ev_var, ev_cst, ev_bin, ev_neg, ev_cmp, ev_chain', ev_and, ev_or, ev_not, ev_ite, ev_tup, ev_lst, ev_ix, ev_sl, ev_call, ev_bt, ev_mt, ev_isi, ev_lc, ev_nil, ev_cons, ev_onone, ev_osome, ev_cnone, ev_csome, ev_ie, ev_rng, ev_enu, asT, ex_asg, ex_asgS, ex_par, ex_aug, ex_ite, ex_whl, ex_for, ex_expr, ex_ret, ex_retN, ex_pass, ex_brk, ex_cont, ex_never, ex_nil, ex_cons', W_ok, W_bind, fin_ret, fin_next, chK_bl, sq_next, sq_ret, sq_brk, sq_cont, bnd_ok, b_add, b_sub, i_add, i_sub, c_lt, c_le, c_gt, c_ge, c_eq, c_ne, c_eqs, c_nes, c_eqb, t_bl, t_int, t_non, p_int, f_int, as_n, as_t2, as_t3, setMany, getL, List.getElem?_cons_zero, List.getElem?_cons_succ, List.set_cons_zero, List.set_cons_succ, wipeL, tl0, tl1, tl2, tl3, tl4, tl5, tl6, Bool.not_true, Bool.not_false, decide_eq_true_eq, if_true, if_false, ite_true, ite_false, eq_self, Bool.false_eq_true, n1, i0, i1]
  by_cases h1 : d = 1
  · rw [if_pos h1]
    try simp only [ev_var, ev_cst, ev_bin, ev_neg, ev_cmp, ev_chain', ev_and, ev_or, ev_not, ev_ite, ev_tup, ev_lst, ev_ix, ev_sl, ev_call, ev_bt, ev_mt, ev_isi, ev_lc, ev_nil, ev_cons, ev_onone, ev_osome, ev_cnone, ev_csome, ev_ie, ev_rng, ev_enu, asT, ex_asg, ex_asgS, ex_par, ex_aug, ex_ite, ex_whl, ex_for, ex_expr, ex_ret, ex_retN, ex_pass, ex_brk, ex_cont, ex_never, ex_nil, ex_cons', W_ok, W_bind, fin_ret, fin_next, chK_bl, sq_next, sq_ret, sq_brk, sq_cont, bnd_ok, b_add, b_sub, i_add, i_sub, c_lt, c_le, c_gt, c_ge, c_eq, c_ne, c_eqs, c_nes, c_eqb, t_bl, t_int, t_non, p_int, f_int, as_n, as_t2, as_t3, setMany, getL, List.getElem?_cons_zero, List.getElem?_cons_succ, List.set_cons_zero, List.set_cons_succ, wipeL, tl0, tl1, tl2, tl3, tl4, tl5, tl6, Bool.not_true, Bool.not_false, decide_eq_true_eq, if_true, if_false, ite_true, ite_false, eq_self, Bool.false_eq_true]
    refine (take_ok F__law_take F__law_draw D (show (0 : Int) < 2 by decide)).mono fun v S1 q => ?_
    obtain ⟨c, rfl, h0, h2, D1, k1⟩ := q
    by_cases hc : c = 0
    · simp only [ev_var, ev_cst, ev_bin, ev_neg, ev_cmp, ev_chain', ev_and, ev_or, ev_not, ev_ite, ev_tup, ev_lst, ev_ix, ev_sl, ev_call, ev_bt, ev_mt, ev_isi, ev_lc, ev_nil, ev_cons, ev_onone, ev_osome, ev_cnone, ev_csome, ev_ie, ev_rng, ev_enu, asT, ex_asg, ex_asgS, ex_par, ex_aug, ex_ite, ex_whl, ex_for, ex_expr, ex_ret, ex_retN, ex_pass, ex_brk, ex_cont, ex_never, ex_nil, ex_cons', W_ok, W_bind, fin_ret, fin_next, chK_bl, sq_next, sq_ret, sq_brk, sq_cont, bnd_ok, b_add, b_sub, i_add, i_sub, c_lt, c_le, c_gt, c_ge, c_eq, c_ne, c_eqs, c_nes, c_eqb, t_bl, t_int, t_non, p_int, f_int, as_n, as_t2, as_t3, setMany, getL, List.getElem?_cons_zero, List.getElem?_cons_succ, List.set_cons_zero, List.set_cons_succ, wipeL, tl0, tl1, tl2, tl3, tl4, tl5, tl6, Bool.not_true, Bool.not_false, decide_eq_true_eq, if_true, if_false, ite_true, ite_false, eq_self, Bool.false_eq_true, hc, i0]
      exact ⟨.inl ⟨rfl, h1⟩, D1, k1⟩
    · have l := rest S1 D1 k1
      revert l
      simp only [ev_var, ev_cst, ev_bin, ev_neg, ev_cmp, ev_chain', ev_and, ev_or, ev_not, ev_ite, ev_tup, ev_lst, ev_ix, ev_sl, ev_call, ev_bt, ev_mt, ev_isi, ev_lc, ev_nil, ev_cons, ev_onone, ev_osome, ev_cnone, ev_csome, ev_ie, ev_rng, ev_enu, asT, ex_asg, ex_asgS, ex_par, ex_aug, ex_ite, ex_whl, ex_for, ex_expr, ex_ret, ex_retN, ex_pass, ex_brk, ex_cont, ex_never, ex_nil, ex_cons', W_ok, W_bind, fin_ret, fin_next, chK_bl, sq_next, sq_ret, sq_brk, sq_cont, bnd_ok, b_add, b_sub, i_add, i_sub, c_lt, c_le, c_gt, c_ge, c_eq, c_ne, c_eqs, c_nes, c_eqb, t_bl, t_int, t_non, p_int, f_int, as_n, as_t2, as_t3, setMany, getL, List.getElem?_cons_zero, List.getElem?_cons_succ, List.set_cons_zero, List.set_cons_succ, wipeL, tl0, tl1, tl2, tl3, tl4, tl5, tl6, Bool.not_true, Bool.not_false, decide_eq_true_eq, if_true, if_false, ite_true, ite_false, eq_self, Bool.false_eq_true, i0, hc, decide_false]
      exact fun l => l
  · rw [if_neg h1]
    have l := rest S D .refl
    revert l
    simp only [ev_var, ev_cst, ev_bin, ev_neg, ev_cmp, ev_chain', ev_and, ev_or, ev_not, ev_ite, ev_tup, ev_lst, ev_ix, ev_sl, ev_call, ev_bt, ev_mt, ev_isi, ev_lc, ev_nil, ev_cons, ev_onone, ev_osome, ev_cnone, ev_csome, ev_ie, ev_rng, ev_enu, asT, ex_asg, ex_asgS, ex_par, ex_aug, ex_ite, ex_whl, ex_for, ex_expr, ex_ret, ex_retN, ex_pass, ex_brk, ex_cont, ex_never, ex_nil, ex_cons', W_ok, W_bind, fin_ret, fin_next, chK_bl, sq_next, sq_ret, sq_brk, sq_cont, bnd_ok, b_add, b_sub, i_add, i_sub, c_lt, c_le, c_gt, c_ge, c_eq, c_ne, c_eqs, c_nes, c_eqb, t_bl, t_int, t_non, p_int, f_int, as_n, as_t2, as_t3, setMany, getL, List.getElem?_cons_zero, List.getElem?_cons_succ, List.set_cons_zero, List.set_cons_succ, wipeL, tl0, tl1, tl2, tl3, tl4, tl5, tl6, Bool.not_true, Bool.not_false, decide_eq_true_eq, if_true, if_false, ite_true, ite_false, eq_self, Bool.false_eq_true, h1, decide_false]
    exact fun l => l
/-! ### the drawn answers -/
theorem ks_of {S S1 S' : Store} {f sp : Nat} (a : Mp.Sub S S1) (b : Kp (fun m => m ≠ f ∧ m ≠ sp) S1 S') (h : S.length ≤ f) : Ks sp S S' := fun n o hn e => b n o ⟨by have := lt_of_at e; omega, hn⟩ (a n o trivial e)
theorem kp2 {S S' : Store} {f sp : Nat} (k : Ks sp S S') : Kp (fun m => m ≠ f ∧ m ≠ sp) S S' := fun n o hn e => k n o hn.2 e
theorem tl9 {α : Type} {a b c d e f g h i : PV} {x y : α} : (if ([a, b, c, d, e, f, g, h, i] : List PV).length ≤ lim then x else y) = x := if_pos (show 9 ≤ lim by decide)
theorem some_answers_ok {rw_ sp : Nat} {R : List Int} (D : Dr R rw_ sp S) : W (callN fs fu (k + 4) 33 [.ref rw_, .ref sp, .int 9] S) (fun r S' => ∃ as : List Ans, r = .tup ((as.map Ans.row).map .tup) ∧ as.length ≤ 9 ∧ (∀ a, a ∈ as → a.ok) ∧ Rise as ∧ Dr R rw_ sp S' ∧ Ks sp S S') := by
  refine W_fn2 F__law_some_answers rfl rfl ?_; simp only [List.map_cons, List.map_nil, List.length_cons, List.length_nil, List.cons_append, List.nil_append, List.append_nil, List.replicate_succ, List.replicate_zero, Nat.reduceAdd, Nat.reduceSub, Nat.zero_add]
  unfold B__law_some_answers
  have hsp := spot_lt D
  have hrw := lt_of_at D.row
  try simp only [ev_var, ev_cst, ev_bin, ev_neg, ev_cmp, ev_chain', ev_and, ev_or, ev_not, ev_ite, ev_tup, ev_lst, ev_ix, ev_sl, ev_call, ev_bt, ev_mt, ev_isi, ev_lc, ev_nil, ev_cons, ev_onone, ev_osome, ev_cnone, ev_csome, ev_ie, ev_rng, ev_enu, asT, ex_asg, ex_asgS, ex_par, ex_aug, ex_ite, ex_whl, ex_for, ex_expr, ex_ret, ex_retN, ex_pass, ex_brk, ex_cont, ex_never, ex_nil, ex_cons', W_ok, W_bind, fin_ret, fin_next, chK_bl, sq_next, sq_ret, sq_brk, sq_cont, bnd_ok, b_add, b_sub, i_add, i_sub, c_lt, c_le, c_gt, c_ge, c_eq, c_ne, c_eqs, c_nes, c_eqb, t_bl, t_int, t_non, p_int, f_int, as_n, as_t2, as_t3, setMany, getL, List.getElem?_cons_zero, List.getElem?_cons_succ, List.set_cons_zero, List.set_cons_succ, wipeL, tl0, tl1, tl2, tl3, tl4, tl5, tl6, Bool.not_true, Bool.not_false, decide_eq_true_eq, if_true, if_false, ite_true, ite_false, eq_self, Bool.false_eq_true]
  have k0 : Mp.Sub S (S ++ [SO.lst []]) := .push
  have hf0 := at_push (S := S) (o := SO.lst [])
  have D0 := D.kp (.push (o := .lst []))
  have hfl : S.length ≤ S.length := Nat.le_refl _
  generalize hf : S.length = f at hf0 hfl ⊢
  generalize S ++ [SO.lst []] = S0 at k0 hf0 D0 ⊢
  have hfs : f ≠ sp := by omega
  refine (take_ok F__law_take F__law_draw D0 (show (0 : Int) < 20 by decide)).mono fun v S1 q => ?_
  obtain ⟨t0, rfl, ht0, ht1, D1, k1⟩ := q
  have hf1 := k1 _ _ hfs hf0
  try simp only [ev_var, ev_cst, ev_bin, ev_neg, ev_cmp, ev_chain', ev_and, ev_or, ev_not, ev_ite, ev_tup, ev_lst, ev_ix, ev_sl, ev_call, ev_bt, ev_mt, ev_isi, ev_lc, ev_nil, ev_cons, ev_onone, ev_osome, ev_cnone, ev_csome, ev_ie, ev_rng, ev_enu, asT, ex_asg, ex_asgS, ex_par, ex_aug, ex_ite, ex_whl, ex_for, ex_expr, ex_ret, ex_retN, ex_pass, ex_brk, ex_cont, ex_never, ex_nil, ex_cons', W_ok, W_bind, fin_ret, fin_next, chK_bl, sq_next, sq_ret, sq_brk, sq_cont, bnd_ok, b_add, b_sub, i_add, i_sub, c_lt, c_le, c_gt, c_ge, c_eq, c_ne, c_eqs, c_nes, c_eqb, t_bl, t_int, t_non, p_int, f_int, as_n, as_t2, as_t3, setMany, getL, List.getElem?_cons_zero, List.getElem?_cons_succ, List.set_cons_zero, List.set_cons_succ, wipeL, tl0, tl1, tl2, tl3, tl4, tl5, tl6, Bool.not_true, Bool.not_false, decide_eq_true_eq, if_true, if_false, ite_true, ite_false, eq_self, Bool.false_eq_true]
  refine (take_ok F__law_take F__law_draw D1 (show (0 : Int) < 9 + 1 by decide)).mono fun v S2 q => ?_
  obtain ⟨c, rfl, hc0, hc1, D2, k2⟩ := q
  have hf2 := k2 _ _ hfs hf1
  have kk := (kp2 (f := f) k1).trans (kp2 k2)
  try simp only [ev_var, ev_cst, ev_bin, ev_neg, ev_cmp, ev_chain', ev_and, ev_or, ev_not, ev_ite, ev_tup, ev_lst, ev_ix, ev_sl, ev_call, ev_bt, ev_mt, ev_isi, ev_lc, ev_nil, ev_cons, ev_onone, ev_osome, ev_cnone, ev_csome, ev_ie, ev_rng, ev_enu, asT, ex_asg, ex_asgS, ex_par, ex_aug, ex_ite, ex_whl, ex_for, ex_expr, ex_ret, ex_retN, ex_pass, ex_brk, ex_cont, ex_never, ex_nil, ex_cons', W_ok, W_bind, fin_ret, fin_next, chK_bl, sq_next, sq_ret, sq_brk, sq_cont, bnd_ok, b_add, b_sub, i_add, i_sub, c_lt, c_le, c_gt, c_ge, c_eq, c_ne, c_eqs, c_nes, c_eqb, t_bl, t_int, t_non, p_int, f_int, as_n, as_t2, as_t3, setMany, getL, List.getElem?_cons_zero, List.getElem?_cons_succ, List.set_cons_zero, List.set_cons_succ, wipeL, tl0, tl1, tl2, tl3, tl4, tl5, tl6, Bool.not_true, Bool.not_false, decide_eq_true_eq, if_true, if_false, ite_true, ite_false, eq_self, Bool.false_eq_true]
  refine W_r1 (i := c) (bigI (by omega) (by omega)) ?_
  refine W_for0 (it := .vals (rngL 0 c.toNat)) (xs := rngL 0 c.toNat) (by exact rfl) (fun m ρ S' => Kp (fun n => n ≠ f ∧ n ≠ sp) S0 S' ∧ ∃ (as : List Ans) (now : Int) (z5 z6 : Option PV), S'[f]? = some (.lst ((as.map Ans.row).map .tup)) ∧ as.length = m ∧ m ≤ 9 ∧ (∀ a, a ∈ as → a.ok ∧ a.at_ < now) ∧ Rise as ∧ 0 ≤ now ∧ now ≤ 20 + 50 * m ∧ Dr R rw_ sp S' ∧ ρ = [some (.ref rw_), some (.ref sp), some (.int 9), some (.ref f), some (.int now), z5, z6])
    ⟨kk, [], t0, _, _, hf2, rfl, by omega, fun _ h => absurd h List.not_mem_nil, List.Pairwise.nil, ht0, by omega, D2, rfl⟩ (fun _ _ _ _ => rfl) (fun m x ρ S3 hxm hI => ?_) fun ρ S3 hI => ?_
  · obtain ⟨k3, as, now, z5, z6, hl3, hal, hm, hok, hr, hn0, hn1, D3, rfl⟩ := hI
    obtain ⟨rfl, hmc⟩ := rngL_get hxm
    simp only [ev_var, ev_cst, ev_bin, ev_neg, ev_cmp, ev_chain', ev_and, ev_or, ev_not, ev_ite, ev_tup, ev_lst, ev_ix, ev_sl, ev_call, ev_bt, ev_mt, ev_isi, ev_lc, ev_nil, ev_cons, ev_onone, ev_osome, ev_cnone, ev_csome, ev_ie, ev_rng, ev_enu, asT, ex_asg, ex_asgS, ex_par, ex_aug, ex_ite, ex_whl, ex_for, ex_expr, ex_ret, ex_retN, ex_pass, ex_brk, ex_cont, ex_never, ex_nil, ex_cons', W_ok, W_bind, fin_ret, fin_next, chK_bl, sq_next, sq_ret, sq_brk, sq_cont, bnd_ok, b_add, b_sub, i_add, i_sub, c_lt, c_le, c_gt, c_ge, c_eq, c_ne, c_eqs, c_nes, c_eqb, t_bl, t_int, t_non, p_int, f_int, as_n, as_t2, as_t3, setMany, getL, List.getElem?_cons_zero, List.getElem?_cons_succ, List.set_cons_zero, List.set_cons_succ, wipeL, tl0, tl1, tl2, tl3, tl4, tl5, tl6, Bool.not_true, Bool.not_false, decide_eq_true_eq, if_true, if_false, ite_true, ite_false, eq_self, Bool.false_eq_true, tl9]
    have hsp3 := spot_lt D3
    have hxs := at_push (S := S3) (o := .lst [.str NEW, .str NEW, .str SAME, .str SAME, .str FAIL, .str GONE, .int 5, .int 100, .int 1000])
    have D4 := D3.kp (.push (o := .lst [.str NEW, .str NEW, .str SAME, .str SAME, .str FAIL, .str GONE, .int 5, .int 100, .int 1000]))
    have k4 : Mp.Sub S3 (S3 ++ [.lst [.str NEW, .str NEW, .str SAME, .str SAME, .str FAIL, .str GONE, .int 5, .int 100, .int 1000]]) := .push
    refine (pick_ok (k := k) F__law_pick F__law_take F__law_draw D4 (items_ref hxs) (show S3.length ≠ sp by omega) (by decide)).mono fun kd S5 q => ?_
    obtain ⟨hkd, D5, k5⟩ := q
    have hKd : Kd kd := by
      unfold Kd
      simpa [or_assoc] using hkd
    have hl5 := k5 _ _ hfs (k4 _ _ trivial hl3)
    have hl2 : ((as.map Ans.row).map PV.tup).length < lim := by rw [List.length_map, List.length_map]; unfold lim; omega
    simp only [ev_var, ev_cst, ev_bin, ev_neg, ev_cmp, ev_chain', ev_and, ev_or, ev_not, ev_ite, ev_tup, ev_lst, ev_ix, ev_sl, ev_call, ev_bt, ev_mt, ev_isi, ev_lc, ev_nil, ev_cons, ev_onone, ev_osome, ev_cnone, ev_csome, ev_ie, ev_rng, ev_enu, asT, ex_asg, ex_asgS, ex_par, ex_aug, ex_ite, ex_whl, ex_for, ex_expr, ex_ret, ex_retN, ex_pass, ex_brk, ex_cont, ex_never, ex_nil, ex_cons', W_ok, W_bind, fin_ret, fin_next, chK_bl, sq_next, sq_ret, sq_brk, sq_cont, bnd_ok, b_add, b_sub, i_add, i_sub, c_lt, c_le, c_gt, c_ge, c_eq, c_ne, c_eqs, c_nes, c_eqb, t_bl, t_int, t_non, p_int, f_int, as_n, as_t2, as_t3, setMany, getL, List.getElem?_cons_zero, List.getElem?_cons_succ, List.set_cons_zero, List.set_cons_succ, wipeL, tl0, tl1, tl2, tl3, tl4, tl5, tl6, Bool.not_true, Bool.not_false, decide_eq_true_eq, if_true, if_false, ite_true, ite_false, eq_self, Bool.false_eq_true, mtTy, ty_ref hl5, m_append hl5 hl2]
    have D6 : Dr R rw_ sp (S5.set f (.lst ((as.map Ans.row).map PV.tup ++ [.tup [.int now, kd]]))) := by
      obtain ⟨s, hs⟩ := D5.spot
      exact ⟨by rw [List.getElem?_set_ne (by omega)]; exact D5.row, D5.pos, D5.ne, s, by rw [List.getElem?_set_ne (by omega)]; exact hs⟩
    refine (take_ok F__law_take F__law_draw D6 (show (0 : Int) < 50 by decide)).mono fun v S7 q => ?_
    obtain ⟨d, rfl, hd0, hd1, D7, k7⟩ := q
    try simp only [ev_var, ev_cst, ev_bin, ev_neg, ev_cmp, ev_chain', ev_and, ev_or, ev_not, ev_ite, ev_tup, ev_lst, ev_ix, ev_sl, ev_call, ev_bt, ev_mt, ev_isi, ev_lc, ev_nil, ev_cons, ev_onone, ev_osome, ev_cnone, ev_csome, ev_ie, ev_rng, ev_enu, asT, ex_asg, ex_asgS, ex_par, ex_aug, ex_ite, ex_whl, ex_for, ex_expr, ex_ret, ex_retN, ex_pass, ex_brk, ex_cont, ex_never, ex_nil, ex_cons', W_ok, W_bind, fin_ret, fin_next, chK_bl, sq_next, sq_ret, sq_brk, sq_cont, bnd_ok, b_add, b_sub, i_add, i_sub, c_lt, c_le, c_gt, c_ge, c_eq, c_ne, c_eqs, c_nes, c_eqb, t_bl, t_int, t_non, p_int, f_int, as_n, as_t2, as_t3, setMany, getL, List.getElem?_cons_zero, List.getElem?_cons_succ, List.set_cons_zero, List.set_cons_succ, wipeL, tl0, tl1, tl2, tl3, tl4, tl5, tl6, Bool.not_true, Bool.not_false, decide_eq_true_eq, if_true, if_false, ite_true, ite_false, eq_self, Bool.false_eq_true]
    have hl6 : (S5.set f (.lst ((as.map Ans.row).map PV.tup ++ [.tup [.int now, kd]])))[f]? = some (.lst ((as.map Ans.row).map PV.tup ++ [.tup [.int now, kd]])) := List.getElem?_set_self (lt_of_at hl5)
    have hl7 := k7 _ _ hfs hl6
    refine ⟨(((k3.trans (.of k4)).trans (kp2 k5)).trans (.set fun h => h.1 rfl)).trans (kp2 k7), as ++ [⟨now, kd⟩], now + 1 + d, _, _, ?_, ?_, ?_, ?_, ?_, ?_, ?_, D7, rfl⟩
    · rw [hl7, List.map_append, List.map_append]; rfl
    · rw [List.length_append, hal]; rfl
    · omega
    · intro a ha
      rcases List.mem_append.mp ha with ha | ha
      · exact ⟨(hok a ha).1, by have := (hok a ha).2; omega⟩
      · rw [List.mem_singleton.mp ha]
        exact ⟨⟨hKd, hn0, show now ≤ 100000 by omega⟩, show now < _ by omega⟩
    · unfold Rise
      rw [List.map_append, List.pairwise_append]
      refine ⟨hr, List.pairwise_singleton _ _, fun x hx y hy => ?_⟩
      obtain ⟨a, ha, rfl⟩ := List.mem_map.mp hx
      rw [List.mem_singleton.mp hy]
      exact (hok a ha).2
    · omega
    · omega
  · obtain ⟨k3, as, now, z5, z6, hl3, hal, hm, hok, hr, hn0, hn1, D3, rfl⟩ := hI
    simp only [ev_var, ev_cst, ev_bin, ev_neg, ev_cmp, ev_chain', ev_and, ev_or, ev_not, ev_ite, ev_tup, ev_lst, ev_ix, ev_sl, ev_call, ev_bt, ev_mt, ev_isi, ev_lc, ev_nil, ev_cons, ev_onone, ev_osome, ev_cnone, ev_csome, ev_ie, ev_rng, ev_enu, asT, ex_asg, ex_asgS, ex_par, ex_aug, ex_ite, ex_whl, ex_for, ex_expr, ex_ret, ex_retN, ex_pass, ex_brk, ex_cont, ex_never, ex_nil, ex_cons', W_ok, W_bind, fin_ret, fin_next, chK_bl, sq_next, sq_ret, sq_brk, sq_cont, bnd_ok, b_add, b_sub, i_add, i_sub, c_lt, c_le, c_gt, c_ge, c_eq, c_ne, c_eqs, c_nes, c_eqb, t_bl, t_int, t_non, p_int, f_int, as_n, as_t2, as_t3, setMany, getL, List.getElem?_cons_zero, List.getElem?_cons_succ, List.set_cons_zero, List.set_cons_succ, wipeL, tl0, tl1, tl2, tl3, tl4, tl5, tl6, Bool.not_true, Bool.not_false, decide_eq_true_eq, if_true, if_false, ite_true, ite_false, eq_self, Bool.false_eq_true, f_tuple (items_ref hl3)]
    exact ⟨as, rfl, by omega, fun a h => (hok a h).1, hr, D3, ks_of k0 k3 (by omega)⟩
/-! ### plain facts for the law -/
theorem gI_dl (a b : Int) : gI a b ∣ a := by unfold gI; exact Int.ofNat_dvd_left.2 (Nat.gcd_dvd_left _ _)
theorem gI_dr (a b : Int) : gI a b ∣ b := by unfold gI; exact Int.ofNat_dvd_left.2 (Nat.gcd_dvd_right _ _)
theorem mid_law {X T n d m0 m1 : Int} (h : 2 * m0 = T * m1) (h1 : 0 < m1) (hd : 0 < d) :
    (0 < X * (m1 * d / gI (m0 * n) (m1 * d)) - (m0 * n / gI (m0 * n) (m1 * d)) * 1) ↔ n * T < X * 2 * d := by
  have hG : 0 < gI (m0 * n) (m1 * d) := gI_pos (Int.mul_pos h1 hd)
  have e0 := Int.ediv_mul_cancel (gI_dl (m0 * n) (m1 * d))
  have e1 := Int.ediv_mul_cancel (gI_dr (m0 * n) (m1 * d))
  generalize gI (m0 * n) (m1 * d) = g at *
  generalize m0 * n / g = b0 at *
  generalize m1 * d / g = b1 at *
  have s1 : (0 < X * b1 - b0 * 1) ↔ b0 < X * b1 := by omega
  have s2 : b0 < X * b1 ↔ b0 * g < X * b1 * g := (Int.mul_lt_mul_right hG).symm
  have s3 : X * b1 * g = X * (m1 * d) := by rw [Int.mul_assoc, e1]
  have s4 : (n * T < X * 2 * d) ↔ (n * T) * m1 < (X * 2 * d) * m1 := (Int.mul_lt_mul_right h1).symm
  have s5 : n * T * m1 = 2 * (m0 * n) := by rw [Int.mul_assoc, ← h, Int.mul_comm, Int.mul_assoc]
  have s6 : X * 2 * d * m1 = 2 * (X * (m1 * d)) := by
    rw [Int.mul_assoc, Int.mul_comm d m1, Int.mul_assoc, Int.mul_left_comm]
  rw [s1, s2, e0, s3, s4, s5, s6]
  omega
theorem waits_gone {lo hi : Int} : ∀ (as : List Ans) (w : Int), ((waits lo hi w as).length < as.length) ↔ as.any (fun a => kb GONE a.kd) = true
  | [], w => by show (0 < 0) ↔ false = true; simp
  | a :: as, w => by
    rw [waits_cons, List.any_cons]
    by_cases h : kb GONE a.kd = true
    · rw [if_pos h, h]
      simp
    · have h' : kb GONE a.kd = false := by simpa using h
      rw [if_neg h, h', Bool.false_or, ← waits_gone (lo := lo) (hi := hi) as (nextW lo hi w a.kd), List.length_cons, List.length_cons]
      omega
theorem half_q (s : Int) : 2 * (s / gI s 2) = s * (2 / gI s 2) := by
  have e0 := Int.ediv_mul_cancel (gI_dl s 2)
  have hp : 0 < gI s 2 := gI_pos (by decide)
  have hl : gI s 2 ≤ 2 := gI_le (by decide)
  generalize s / gI s 2 = q at *
  rcases (show gI s 2 = 1 ∨ gI s 2 = 2 by omega) with h | h <;> rw [h] at e0 ⊢ <;> omega
theorem gone_in {x : PV} {ys : List PV} (h : itemsOf S x = some ys) (hk : ∀ y, y ∈ ys → Kd y) : cmpV .In (.str GONE) x S = .ok (.bl (ys.any (kb GONE))) S := by
  rw [show cmpV .In (.str GONE) x S = inV false (.str GONE) x S from rfl, in_items h rfl (List.all_eq_true.mpr fun y hy => by rcases hk y hy with rfl | rfl | rfl | rfl | rfl | rfl | rfl <;> rfl)]
  congr 2
  rw [if_neg (by decide)]
  have e : ∀ l : List PV, (∀ y, y ∈ l → Kd y) → (l.any fun y => seqv y (.str GONE)) = l.any (kb GONE) := by
    intro l
    induction l with
    | nil => intro _; rfl
    | cons y l ih =>
      intro hk
      rw [List.any_cons, List.any_cons, ih fun z hz => hk z (List.mem_cons_of_mem _ hz)]
      congr 1
      rcases hk y (List.mem_cons_self ..) with rfl | rfl | rfl | rfl | rfl | rfl | rfl <;> rfl
  exact e ys hk
theorem cnt_rows (g : PV → Bool) (S : Store) : ∀ as : List Ans, ((((as.map Ans.row).map PV.tup).filterMap fun y => if g (colF S 1 y) = true then some (PV.int 1) else none).length) = (as.filter fun a => g a.kd).length
  | [] => rfl
  | a :: as => by
    rw [List.map_cons, List.map_cons, List.filterMap_cons, List.filter_cons, show colF S 1 (.tup a.row) = a.kd from rfl]
    by_cases h : g a.kd = true
    · rw [if_pos h, if_pos h]
      dsimp only
      rw [List.length_cons, List.length_cons, cnt_rows g S as]
    · rw [if_neg h, if_neg h]
      exact cnt_rows g S as
def stepB (l : List Int) : PV → PV
  | .int i => .int (l.getD i.toNat 0 - l.getD (i - 1).toNat 0)
  | v => v
theorem stepB_map (l : List Int) : (rngL 1 ((l.length : Int) - 1).toNat).map (stepB l) = (gp l).map .int := by
  unfold rngL gp
  rw [List.map_map, List.map_map, show ((l.length : Int) - 1).toNat = l.length - 1 by omega]
  refine List.map_congr_left fun m _ => ?_
  show PV.int (l.getD (1 + (m : Int)).toNat 0 - l.getD (1 + (m : Int) - 1).toNat 0) = PV.int (l.getD (m + 1) 0 - l.getD m 0)
  rw [show (1 + (m : Int)).toNat = m + 1 by omega, show (1 + (m : Int) - 1).toNat = m by omega]
theorem gI_two (n : Int) : gI (n / gI n 2) (2 / gI n 2) = 1 ∧ 1 ≤ 2 / gI n 2 ∧ 2 / gI n 2 ≤ 2 := by
  have hp : 0 < gI n 2 := gI_pos (by decide)
  have hl : gI n 2 ≤ 2 := gI_le (by decide)
  rcases (show gI n 2 = 1 ∨ gI n 2 = 2 by omega) with h | h
  · rw [h, Int.ediv_one, Int.ediv_one]; exact ⟨h, by decide, by decide⟩
  · rw [h]
    refine ⟨?_, by decide, by decide⟩
    show ((Nat.gcd (n / 2).natAbs 1 : Nat) : Int) = 1
    rw [Nat.gcd_one_right]; rfl
theorem pure_ : Pure 1000 100 := by
  intro ns hns
  have key : W (callN fs 1000 100 35 [.ltc (ns.map .int)] []) (fun v _ => v = .bl true) := by
    refine W_fn2 F_law rfl rfl ?_; simp only [List.map_cons, List.map_nil, List.length_cons, List.length_nil, List.cons_append, List.nil_append, List.append_nil, List.replicate_succ, List.replicate_zero, Nat.reduceAdd, Nat.reduceSub, Nat.zero_add]
    unfold B_law
    try simp only [ev_var, ev_cst, ev_bin, ev_neg, ev_cmp, ev_chain', ev_and, ev_or, ev_not, ev_ite, ev_tup, ev_lst, ev_ix, ev_sl, ev_call, ev_bt, ev_mt, ev_isi, ev_lc, ev_nil, ev_cons, ev_onone, ev_osome, ev_cnone, ev_csome, ev_ie, ev_rng, ev_enu, asT, ex_asg, ex_asgS, ex_par, ex_aug, ex_ite, ex_whl, ex_for, ex_expr, ex_ret, ex_retN, ex_pass, ex_brk, ex_cont, ex_never, ex_nil, ex_cons', W_ok, W_bind, fin_ret, fin_next, chK_bl, sq_next, sq_ret, sq_brk, sq_cont, bnd_ok, b_add, b_sub, i_add, i_sub, c_lt, c_le, c_gt, c_ge, c_eq, c_ne, c_eqs, c_nes, c_eqb, t_bl, t_int, t_non, p_int, f_int, as_n, as_t2, as_t3, setMany, getL, List.getElem?_cons_zero, List.getElem?_cons_succ, List.set_cons_zero, List.set_cons_succ, wipeL, tl0, tl1, tl2, tl3, tl4, tl5, tl6, Bool.not_true, Bool.not_false, decide_eq_true_eq, if_true, if_false, ite_true, ite_false, eq_self, Bool.false_eq_true]
    refine (numbers_ok F__law_numbers hns).mono fun v S1 q => ?_
    obtain ⟨R, ys, rfl, hR, rfl⟩ := q
    simp only [ev_var, ev_cst, ev_bin, ev_neg, ev_cmp, ev_chain', ev_and, ev_or, ev_not, ev_ite, ev_tup, ev_lst, ev_ix, ev_sl, ev_call, ev_bt, ev_mt, ev_isi, ev_lc, ev_nil, ev_cons, ev_onone, ev_osome, ev_cnone, ev_csome, ev_ie, ev_rng, ev_enu, asT, ex_asg, ex_asgS, ex_par, ex_aug, ex_ite, ex_whl, ex_for, ex_expr, ex_ret, ex_retN, ex_pass, ex_brk, ex_cont, ex_never, ex_nil, ex_cons', W_ok, W_bind, fin_ret, fin_next, chK_bl, sq_next, sq_ret, sq_brk, sq_cont, bnd_ok, b_add, b_sub, i_add, i_sub, c_lt, c_le, c_gt, c_ge, c_eq, c_ne, c_eqs, c_nes, c_eqb, t_bl, t_int, t_non, p_int, f_int, as_n, as_t2, as_t3, setMany, getL, List.getElem?_cons_zero, List.getElem?_cons_succ, List.set_cons_zero, List.set_cons_succ, wipeL, tl0, tl1, tl2, tl3, tl4, tl5, tl6, Bool.not_true, Bool.not_false, decide_eq_true_eq, if_true, if_false, ite_true, ite_false, eq_self, Bool.false_eq_true, List.length_cons, List.length_nil, List.cons_append, List.nil_append, Nat.reduceAdd]
    have D0 : Dr R 0 2 [.lst (R.map .int), .lst ys, .lst [.int 0]] := ⟨rfl, hR, by decide, 0, rfl⟩
    refine (some_answers_ok D0).mono fun v S1 q => ?_
    obtain ⟨as, rfl, hl, ho, hr, D1, _⟩ := q
    try simp only [ev_var, ev_cst, ev_bin, ev_neg, ev_cmp, ev_chain', ev_and, ev_or, ev_not, ev_ite, ev_tup, ev_lst, ev_ix, ev_sl, ev_call, ev_bt, ev_mt, ev_isi, ev_lc, ev_nil, ev_cons, ev_onone, ev_osome, ev_cnone, ev_csome, ev_ie, ev_rng, ev_enu, asT, ex_asg, ex_asgS, ex_par, ex_aug, ex_ite, ex_whl, ex_for, ex_expr, ex_ret, ex_retN, ex_pass, ex_brk, ex_cont, ex_never, ex_nil, ex_cons', W_ok, W_bind, fin_ret, fin_next, chK_bl, sq_next, sq_ret, sq_brk, sq_cont, bnd_ok, b_add, b_sub, i_add, i_sub, c_lt, c_le, c_gt, c_ge, c_eq, c_ne, c_eqs, c_nes, c_eqb, t_bl, t_int, t_non, p_int, f_int, as_n, as_t2, as_t3, setMany, getL, List.getElem?_cons_zero, List.getElem?_cons_succ, List.set_cons_zero, List.set_cons_succ, wipeL, tl0, tl1, tl2, tl3, tl4, tl5, tl6, Bool.not_true, Bool.not_false, decide_eq_true_eq, if_true, if_false, ite_true, ite_false, eq_self, Bool.false_eq_true]
    refine (take_ok F__law_take F__law_draw D1 (show (0 : Int) < 60 by decide)).mono fun v S2 q => ?_
    obtain ⟨c, rfl, hc0, hc1, D2, _⟩ := q
    try simp only [ev_var, ev_cst, ev_bin, ev_neg, ev_cmp, ev_chain', ev_and, ev_or, ev_not, ev_ite, ev_tup, ev_lst, ev_ix, ev_sl, ev_call, ev_bt, ev_mt, ev_isi, ev_lc, ev_nil, ev_cons, ev_onone, ev_osome, ev_cnone, ev_csome, ev_ie, ev_rng, ev_enu, asT, ex_asg, ex_asgS, ex_par, ex_aug, ex_ite, ex_whl, ex_for, ex_expr, ex_ret, ex_retN, ex_pass, ex_brk, ex_cont, ex_never, ex_nil, ex_cons', W_ok, W_bind, fin_ret, fin_next, chK_bl, sq_next, sq_ret, sq_brk, sq_cont, bnd_ok, b_add, b_sub, i_add, i_sub, c_lt, c_le, c_gt, c_ge, c_eq, c_ne, c_eqs, c_nes, c_eqb, t_bl, t_int, t_non, p_int, f_int, as_n, as_t2, as_t3, setMany, getL, List.getElem?_cons_zero, List.getElem?_cons_succ, List.set_cons_zero, List.set_cons_succ, wipeL, tl0, tl1, tl2, tl3, tl4, tl5, tl6, Bool.not_true, Bool.not_false, decide_eq_true_eq, if_true, if_false, ite_true, ite_false, eq_self, Bool.false_eq_true]
    refine (take_ok F__law_take F__law_draw D2 (show (0 : Int) < 400 by decide)).mono fun v S3 q => ?_
    obtain ⟨e, rfl, he0, he1, D3, _⟩ := q
    try simp only [ev_var, ev_cst, ev_bin, ev_neg, ev_cmp, ev_chain', ev_and, ev_or, ev_not, ev_ite, ev_tup, ev_lst, ev_ix, ev_sl, ev_call, ev_bt, ev_mt, ev_isi, ev_lc, ev_nil, ev_cons, ev_onone, ev_osome, ev_cnone, ev_csome, ev_ie, ev_rng, ev_enu, asT, ex_asg, ex_asgS, ex_par, ex_aug, ex_ite, ex_whl, ex_for, ex_expr, ex_ret, ex_retN, ex_pass, ex_brk, ex_cont, ex_never, ex_nil, ex_cons', W_ok, W_bind, fin_ret, fin_next, chK_bl, sq_next, sq_ret, sq_brk, sq_cont, bnd_ok, b_add, b_sub, i_add, i_sub, c_lt, c_le, c_gt, c_ge, c_eq, c_ne, c_eqs, c_nes, c_eqb, t_bl, t_int, t_non, p_int, f_int, as_n, as_t2, as_t3, setMany, getL, List.getElem?_cons_zero, List.getElem?_cons_succ, List.set_cons_zero, List.set_cons_succ, wipeL, tl0, tl1, tl2, tl3, tl4, tl5, tl6, Bool.not_true, Bool.not_false, decide_eq_true_eq, if_true, if_false, ite_true, ite_false, eq_self, Bool.false_eq_true]
    have lo1 : 1 ≤ 1 + c := by omega
    have lh : 1 + c ≤ 1 + c + e := by omega
    have hh : 1 + c + e ≤ 1000000 := by omega
    generalize 1 + c + e = hi at lh hh ⊢
    generalize 1 + c = lo at lo1 lh ⊢
    have hT : An (fun n => n ≠ 2) S3 (.tup ((as.map Ans.row).map .tup)) as := by
      refine ⟨(as.map Ans.row).map .tup, rfl, trivial, by rw [List.length_map], fun i r hr => ⟨.tup r, by rw [List.getElem?_map, hr]; rfl, rfl, trivial⟩⟩
    refine (law_waits_ok hT (by omega) ho).mono fun v S4 q => ?_
    obtain ⟨f, rfl, hf4, hfl, k4⟩ := q
    have D4 := D3.kp k4
    have hf2 : f ≠ 2 := by have := spot_lt D3; omega
    try simp only [ev_var, ev_cst, ev_bin, ev_neg, ev_cmp, ev_chain', ev_and, ev_or, ev_not, ev_ite, ev_tup, ev_lst, ev_ix, ev_sl, ev_call, ev_bt, ev_mt, ev_isi, ev_lc, ev_nil, ev_cons, ev_onone, ev_osome, ev_cnone, ev_csome, ev_ie, ev_rng, ev_enu, asT, ex_asg, ex_asgS, ex_par, ex_aug, ex_ite, ex_whl, ex_for, ex_expr, ex_ret, ex_retN, ex_pass, ex_brk, ex_cont, ex_never, ex_nil, ex_cons', W_ok, W_bind, fin_ret, fin_next, chK_bl, sq_next, sq_ret, sq_brk, sq_cont, bnd_ok, b_add, b_sub, i_add, i_sub, c_lt, c_le, c_gt, c_ge, c_eq, c_ne, c_eqs, c_nes, c_eqb, t_bl, t_int, t_non, p_int, f_int, as_n, as_t2, as_t3, setMany, getL, List.getElem?_cons_zero, List.getElem?_cons_succ, List.set_cons_zero, List.set_cons_succ, wipeL, tl0, tl1, tl2, tl3, tl4, tl5, tl6, Bool.not_true, Bool.not_false, decide_eq_true_eq, if_true, if_false, ite_true, ite_false, eq_self, Bool.false_eq_true]
    refine (hand_rows_ok F__law_hand_rows F__law_take F__law_draw D4 (rows := as.map Ans.row) (by rw [List.length_map]; unfold lim; omega)).mono fun hv S5 q => ?_
    obtain ⟨hA5, D5, k5⟩ := q
    have hA5 : An (fun n => n ≠ 2) S5 hv as := hA5
    have hf5 := k5 _ _ hf2 hf4
    try simp only [ev_var, ev_cst, ev_bin, ev_neg, ev_cmp, ev_chain', ev_and, ev_or, ev_not, ev_ite, ev_tup, ev_lst, ev_ix, ev_sl, ev_call, ev_bt, ev_mt, ev_isi, ev_lc, ev_nil, ev_cons, ev_onone, ev_osome, ev_cnone, ev_csome, ev_ie, ev_rng, ev_enu, asT, ex_asg, ex_asgS, ex_par, ex_aug, ex_ite, ex_whl, ex_for, ex_expr, ex_ret, ex_retN, ex_pass, ex_brk, ex_cont, ex_never, ex_nil, ex_cons', W_ok, W_bind, fin_ret, fin_next, chK_bl, sq_next, sq_ret, sq_brk, sq_cont, bnd_ok, b_add, b_sub, i_add, i_sub, c_lt, c_le, c_gt, c_ge, c_eq, c_ne, c_eqs, c_nes, c_eqb, t_bl, t_int, t_non, p_int, f_int, as_n, as_t2, as_t3, setMany, getL, List.getElem?_cons_zero, List.getElem?_cons_succ, List.set_cons_zero, List.set_cons_succ, wipeL, tl0, tl1, tl2, tl3, tl4, tl5, tl6, Bool.not_true, Bool.not_false, decide_eq_true_eq, if_true, if_false, ite_true, ite_false, eq_self, Bool.false_eq_true]
    refine (waits_of_ok hA5 (by omega) ho hr lo1 lh hh).mono fun v S6 q => ?_
    obtain ⟨rfl, k6⟩ := q
    have hA6 := hA5.sub k6
    have hf6 := k6 _ _ trivial hf5
    have D6 := D5.kp k6
    simp only [ev_var, ev_cst, ev_bin, ev_neg, ev_cmp, ev_chain', ev_and, ev_or, ev_not, ev_ite, ev_tup, ev_lst, ev_ix, ev_sl, ev_call, ev_bt, ev_mt, ev_isi, ev_lc, ev_nil, ev_cons, ev_onone, ev_osome, ev_cnone, ev_csome, ev_ie, ev_rng, ev_enu, asT, ex_asg, ex_asgS, ex_par, ex_aug, ex_ite, ex_whl, ex_for, ex_expr, ex_ret, ex_retN, ex_pass, ex_brk, ex_cont, ex_never, ex_nil, ex_cons', W_ok, W_bind, fin_ret, fin_next, chK_bl, sq_next, sq_ret, sq_brk, sq_cont, bnd_ok, b_add, b_sub, i_add, i_sub, c_lt, c_le, c_gt, c_ge, c_eq, c_ne, c_eqs, c_nes, c_eqb, t_bl, t_int, t_non, p_int, f_int, as_n, as_t2, as_t3, setMany, getL, List.getElem?_cons_zero, List.getElem?_cons_succ, List.set_cons_zero, List.set_cons_succ, wipeL, tl0, tl1, tl2, tl3, tl4, tl5, tl6, Bool.not_true, Bool.not_false, decide_eq_true_eq, if_true, if_false, ite_true, ite_false, eq_self, Bool.false_eq_true, f_tuple (items_ref hf6)]
    have pl : plain 1 (.tup ((waits lo hi lo as).map .int)) = true := plain_scal (by have := waits_len lo hi as lo; rw [List.length_map]; unfold lim; omega) (fun x hx => by obtain ⟨n, _, rfl⟩ := List.mem_map.mp hx; rfl)
    simp only [ev_var, ev_cst, ev_bin, ev_neg, ev_cmp, ev_chain', ev_and, ev_or, ev_not, ev_ite, ev_tup, ev_lst, ev_ix, ev_sl, ev_call, ev_bt, ev_mt, ev_isi, ev_lc, ev_nil, ev_cons, ev_onone, ev_osome, ev_cnone, ev_csome, ev_ie, ev_rng, ev_enu, asT, ex_asg, ex_asgS, ex_par, ex_aug, ex_ite, ex_whl, ex_for, ex_expr, ex_ret, ex_retN, ex_pass, ex_brk, ex_cont, ex_never, ex_nil, ex_cons', W_ok, W_bind, fin_ret, fin_next, chK_bl, sq_next, sq_ret, sq_brk, sq_cont, bnd_ok, b_add, b_sub, i_add, i_sub, c_lt, c_le, c_gt, c_ge, c_eq, c_ne, c_eqs, c_nes, c_eqb, t_bl, t_int, t_non, p_int, f_int, as_n, as_t2, as_t3, setMany, getL, List.getElem?_cons_zero, List.getElem?_cons_succ, List.set_cons_zero, List.set_cons_succ, wipeL, tl0, tl1, tl2, tl3, tl4, tl5, tl6, Bool.not_true, Bool.not_false, decide_eq_true_eq, if_true, if_false, ite_true, ite_false, eq_self, Bool.false_eq_true, so_eq F__law_so 1 _ _ pl, f_len (show itemsOf S6 (.tup ((as.map Ans.row).map .tup)) = some ((as.map Ans.row).map .tup) from rfl), List.length_map]
    refine W.mono (P := fun fl S' => ∃ z9 z10 : Option PV, fl = Fl.next [some (.ltc (ns.map .int)), some (.ref 0), some (.ref 2), some (.tup ((as.map Ans.row).map .tup)), some (.int lo), some (.int hi), some (.ref f), some hv, some (afterV lo hi as), z9, z10, none, none, none, none, none, none, none, none, none, none] ∧ Mp.Sub S6 S') ?_ fun fl S7 q => ?_
    · unfold afterV
      by_cases h0 : as.length = 0
      · rw [if_pos h0, if_pos (show (as.length : Int) = 0 by omega)]
        try simp only [ev_var, ev_cst, ev_bin, ev_neg, ev_cmp, ev_chain', ev_and, ev_or, ev_not, ev_ite, ev_tup, ev_lst, ev_ix, ev_sl, ev_call, ev_bt, ev_mt, ev_isi, ev_lc, ev_nil, ev_cons, ev_onone, ev_osome, ev_cnone, ev_csome, ev_ie, ev_rng, ev_enu, asT, ex_asg, ex_asgS, ex_par, ex_aug, ex_ite, ex_whl, ex_for, ex_expr, ex_ret, ex_retN, ex_pass, ex_brk, ex_cont, ex_never, ex_nil, ex_cons', W_ok, W_bind, fin_ret, fin_next, chK_bl, sq_next, sq_ret, sq_brk, sq_cont, bnd_ok, b_add, b_sub, i_add, i_sub, c_lt, c_le, c_gt, c_ge, c_eq, c_ne, c_eqs, c_nes, c_eqb, t_bl, t_int, t_non, p_int, f_int, as_n, as_t2, as_t3, setMany, getL, List.getElem?_cons_zero, List.getElem?_cons_succ, List.set_cons_zero, List.set_cons_succ, wipeL, tl0, tl1, tl2, tl3, tl4, tl5, tl6, Bool.not_true, Bool.not_false, decide_eq_true_eq, if_true, if_false, ite_true, ite_false, eq_self, Bool.false_eq_true]
        exact ⟨_, _, rfl, .refl⟩
      · rw [if_neg h0, if_neg (show ¬(as.length : Int) = 0 by omega)]
        simp only [ev_var, ev_cst, ev_bin, ev_neg, ev_cmp, ev_chain', ev_and, ev_or, ev_not, ev_ite, ev_tup, ev_lst, ev_ix, ev_sl, ev_call, ev_bt, ev_mt, ev_isi, ev_lc, ev_nil, ev_cons, ev_onone, ev_osome, ev_cnone, ev_csome, ev_ie, ev_rng, ev_enu, asT, ex_asg, ex_asgS, ex_par, ex_aug, ex_ite, ex_whl, ex_for, ex_expr, ex_ret, ex_retN, ex_pass, ex_brk, ex_cont, ex_never, ex_nil, ex_cons', W_ok, W_bind, fin_ret, fin_next, chK_bl, sq_next, sq_ret, sq_brk, sq_cont, bnd_ok, b_add, b_sub, i_add, i_sub, c_lt, c_le, c_gt, c_ge, c_eq, c_ne, c_eqs, c_nes, c_eqb, t_bl, t_int, t_non, p_int, f_int, as_n, as_t2, as_t3, setMany, getL, List.getElem?_cons_zero, List.getElem?_cons_succ, List.set_cons_zero, List.set_cons_succ, wipeL, tl0, tl1, tl2, tl3, tl4, tl5, tl6, Bool.not_true, Bool.not_false, decide_eq_true_eq, if_true, if_false, ite_true, ite_false, eq_self, Bool.false_eq_true, iterV]
        refine (W_lcM (p := fun _ => True) (it := .vals ((as.map Ans.row).map .tup)) (xs := (as.map Ans.row).map .tup) (colF S6 1) rfl trivial (by rw [List.length_map, List.length_map]; unfold lim; omega) fun y hy S7 k7 => ?_).mono fun ys S7 q => ?_
        · obtain ⟨r, hr, rfl⟩ := List.mem_map.mp hy
          obtain ⟨a, ha, rfl⟩ := List.mem_map.mp hr
          try simp only [ev_var, ev_cst, ev_bin, ev_neg, ev_cmp, ev_chain', ev_and, ev_or, ev_not, ev_ite, ev_tup, ev_lst, ev_ix, ev_sl, ev_call, ev_bt, ev_mt, ev_isi, ev_lc, ev_nil, ev_cons, ev_onone, ev_osome, ev_cnone, ev_csome, ev_ie, ev_rng, ev_enu, asT, ex_asg, ex_asgS, ex_par, ex_aug, ex_ite, ex_whl, ex_for, ex_expr, ex_ret, ex_retN, ex_pass, ex_brk, ex_cont, ex_never, ex_nil, ex_cons', W_ok, W_bind, fin_ret, fin_next, chK_bl, sq_next, sq_ret, sq_brk, sq_cont, bnd_ok, b_add, b_sub, i_add, i_sub, c_lt, c_le, c_gt, c_ge, c_eq, c_ne, c_eqs, c_nes, c_eqb, t_bl, t_int, t_non, p_int, f_int, as_n, as_t2, as_t3, setMany, getL, List.getElem?_cons_zero, List.getElem?_cons_succ, List.set_cons_zero, List.set_cons_succ, wipeL, tl0, tl1, tl2, tl3, tl4, tl5, tl6, Bool.not_true, Bool.not_false, decide_eq_true_eq, if_true, if_false, ite_true, ite_false, eq_self, Bool.false_eq_true]
          refine W_as2 (x := .tup a.row) (v := .int a.at_) (w := a.kd) rfl ?_
          try simp only [ev_var, ev_cst, ev_bin, ev_neg, ev_cmp, ev_chain', ev_and, ev_or, ev_not, ev_ite, ev_tup, ev_lst, ev_ix, ev_sl, ev_call, ev_bt, ev_mt, ev_isi, ev_lc, ev_nil, ev_cons, ev_onone, ev_osome, ev_cnone, ev_csome, ev_ie, ev_rng, ev_enu, asT, ex_asg, ex_asgS, ex_par, ex_aug, ex_ite, ex_whl, ex_for, ex_expr, ex_ret, ex_retN, ex_pass, ex_brk, ex_cont, ex_never, ex_nil, ex_cons', W_ok, W_bind, fin_ret, fin_next, chK_bl, sq_next, sq_ret, sq_brk, sq_cont, bnd_ok, b_add, b_sub, i_add, i_sub, c_lt, c_le, c_gt, c_ge, c_eq, c_ne, c_eqs, c_nes, c_eqb, t_bl, t_int, t_non, p_int, f_int, as_n, as_t2, as_t3, setMany, getL, List.getElem?_cons_zero, List.getElem?_cons_succ, List.set_cons_zero, List.set_cons_succ, wipeL, tl0, tl1, tl2, tl3, tl4, tl5, tl6, Bool.not_true, Bool.not_false, decide_eq_true_eq, if_true, if_false, ite_true, ite_false, eq_self, Bool.false_eq_true]
          exact ⟨rfl, .refl⟩
        obtain ⟨rfl, k7⟩ := q
        have ec : ((as.map Ans.row).map PV.tup).map (colF S6 1) = as.map Ans.kd := by rw [List.map_map, List.map_map]; rfl
        rw [ec]
        have ea2 : (as.map Ans.kd).any (kb GONE) = as.any (fun a => kb GONE a.kd) := by rw [List.any_map]; rfl
        have hg : cmpV .In (.str [103, 111, 110, 101]) (.ref S7.length) (S7 ++ [SO.lst (as.map Ans.kd)]) = .ok (.bl (as.any (fun a => kb GONE a.kd))) (S7 ++ [SO.lst (as.map Ans.kd)]) := by
          rw [← ea2]
          exact gone_in (items_ref at_push) (fun y hy => by obtain ⟨a, ha, rfl⟩ := List.mem_map.mp hy; exact (ho a ha).1)
        have k8 : Mp.Sub S6 (S7 ++ [SO.lst (as.map Ans.kd)]) := Kp.trans k7 .push
        have hf8 := k8 _ _ trivial hf6
        have wg := waits_gone (lo := lo) (hi := hi) as lo
        generalize S7 ++ [SO.lst (as.map Ans.kd)] = S8 at hg k8 hf8 ⊢
        simp only [ev_var, ev_cst, ev_bin, ev_neg, ev_cmp, ev_chain', ev_and, ev_or, ev_not, ev_ite, ev_tup, ev_lst, ev_ix, ev_sl, ev_call, ev_bt, ev_mt, ev_isi, ev_lc, ev_nil, ev_cons, ev_onone, ev_osome, ev_cnone, ev_csome, ev_ie, ev_rng, ev_enu, asT, ex_asg, ex_asgS, ex_par, ex_aug, ex_ite, ex_whl, ex_for, ex_expr, ex_ret, ex_retN, ex_pass, ex_brk, ex_cont, ex_never, ex_nil, ex_cons', W_ok, W_bind, fin_ret, fin_next, chK_bl, sq_next, sq_ret, sq_brk, sq_cont, bnd_ok, b_add, b_sub, i_add, i_sub, c_lt, c_le, c_gt, c_ge, c_eq, c_ne, c_eqs, c_nes, c_eqb, t_bl, t_int, t_non, p_int, f_int, as_n, as_t2, as_t3, setMany, getL, List.getElem?_cons_zero, List.getElem?_cons_succ, List.set_cons_zero, List.set_cons_succ, wipeL, tl0, tl1, tl2, tl3, tl4, tl5, tl6, Bool.not_true, Bool.not_false, decide_eq_true_eq, if_true, if_false, ite_true, ite_false, eq_self, Bool.false_eq_true, hg]
        by_cases hlt : (waits lo hi lo as).length < as.length
        · rw [if_pos (wg.mp hlt), if_pos hlt]
          try simp only [ev_var, ev_cst, ev_bin, ev_neg, ev_cmp, ev_chain', ev_and, ev_or, ev_not, ev_ite, ev_tup, ev_lst, ev_ix, ev_sl, ev_call, ev_bt, ev_mt, ev_isi, ev_lc, ev_nil, ev_cons, ev_onone, ev_osome, ev_cnone, ev_csome, ev_ie, ev_rng, ev_enu, asT, ex_asg, ex_asgS, ex_par, ex_aug, ex_ite, ex_whl, ex_for, ex_expr, ex_ret, ex_retN, ex_pass, ex_brk, ex_cont, ex_never, ex_nil, ex_cons', W_ok, W_bind, fin_ret, fin_next, chK_bl, sq_next, sq_ret, sq_brk, sq_cont, bnd_ok, b_add, b_sub, i_add, i_sub, c_lt, c_le, c_gt, c_ge, c_eq, c_ne, c_eqs, c_nes, c_eqb, t_bl, t_int, t_non, p_int, f_int, as_n, as_t2, as_t3, setMany, getL, List.getElem?_cons_zero, List.getElem?_cons_succ, List.set_cons_zero, List.set_cons_succ, wipeL, tl0, tl1, tl2, tl3, tl4, tl5, tl6, Bool.not_true, Bool.not_false, decide_eq_true_eq, if_true, if_false, ite_true, ite_false, eq_self, Bool.false_eq_true]
          exact ⟨_, _, rfl, k8⟩
        · rw [if_neg (fun h => hlt (wg.mpr h)), if_neg hlt]
          have ea : as[as.length - 1]? = some (as[as.length - 1]'(by omega)) := List.getElem?_eq_getElem (by omega)
          generalize as[as.length - 1]'(by omega) = a at ea
          have hok := ho a (List.mem_of_getElem? ea)
          have hwl : 0 < (waits lo hi lo as).length := by omega
          have il : ixV (.tup ((as.map Ans.row).map .tup)) (.int (-1)) S8 = .ok (.tup a.row) S8 := ix_lastP rfl (by rw [List.length_map, List.length_map, List.getElem?_map, List.getElem?_map, ea]; rfl)
          have iw : ixV (.ref f) (.int (-1)) S8 = .ok (.int (lastW lo hi as)) S8 := ix_lastP (items_ref hf8) (by
            rw [List.length_map, List.getElem?_map, List.getElem?_eq_getElem (by omega)]
            unfold lastW
            rw [List.getD_eq_getElem?_getD, List.getElem?_eq_getElem (show (waits lo hi lo as).length - 1 < (waits lo hi lo as).length by omega)]
            rfl)
          rw [ea]
          dsimp only
          simp only [ev_var, ev_cst, ev_bin, ev_neg, ev_cmp, ev_chain', ev_and, ev_or, ev_not, ev_ite, ev_tup, ev_lst, ev_ix, ev_sl, ev_call, ev_bt, ev_mt, ev_isi, ev_lc, ev_nil, ev_cons, ev_onone, ev_osome, ev_cnone, ev_csome, ev_ie, ev_rng, ev_enu, asT, ex_asg, ex_asgS, ex_par, ex_aug, ex_ite, ex_whl, ex_for, ex_expr, ex_ret, ex_retN, ex_pass, ex_brk, ex_cont, ex_never, ex_nil, ex_cons', W_ok, W_bind, fin_ret, fin_next, chK_bl, sq_next, sq_ret, sq_brk, sq_cont, bnd_ok, b_add, b_sub, i_add, i_sub, c_lt, c_le, c_gt, c_ge, c_eq, c_ne, c_eqs, c_nes, c_eqb, t_bl, t_int, t_non, p_int, f_int, as_n, as_t2, as_t3, setMany, getL, List.getElem?_cons_zero, List.getElem?_cons_succ, List.set_cons_zero, List.set_cons_succ, wipeL, tl0, tl1, tl2, tl3, tl4, tl5, tl6, Bool.not_true, Bool.not_false, decide_eq_true_eq, if_true, if_false, ite_true, ite_false, eq_self, Bool.false_eq_true, n_neg, il]
          refine W_as2 (x := .tup a.row) (v := .int a.at_) (w := a.kd) rfl ?_
          simp only [ev_var, ev_cst, ev_bin, ev_neg, ev_cmp, ev_chain', ev_and, ev_or, ev_not, ev_ite, ev_tup, ev_lst, ev_ix, ev_sl, ev_call, ev_bt, ev_mt, ev_isi, ev_lc, ev_nil, ev_cons, ev_onone, ev_osome, ev_cnone, ev_csome, ev_ie, ev_rng, ev_enu, asT, ex_asg, ex_asgS, ex_par, ex_aug, ex_ite, ex_whl, ex_for, ex_expr, ex_ret, ex_retN, ex_pass, ex_brk, ex_cont, ex_never, ex_nil, ex_cons', W_ok, W_bind, fin_ret, fin_next, chK_bl, sq_next, sq_ret, sq_brk, sq_cont, bnd_ok, b_add, b_sub, i_add, i_sub, c_lt, c_le, c_gt, c_ge, c_eq, c_ne, c_eqs, c_nes, c_eqb, t_bl, t_int, t_non, p_int, f_int, as_n, as_t2, as_t3, setMany, getL, List.getElem?_cons_zero, List.getElem?_cons_succ, List.set_cons_zero, List.set_cons_succ, wipeL, tl0, tl1, tl2, tl3, tl4, tl5, tl6, Bool.not_true, Bool.not_false, decide_eq_true_eq, if_true, if_false, ite_true, ite_false, eq_self, Bool.false_eq_true, isiF]
          unfold kPlus
          cases hk : ki a.kd with
          | none =>
            have et : ∃ w, a.kd = .str w := by
              cases hz : a.kd with
              | str w => exact ⟨w, rfl⟩
              | int j => rw [hz] at hk; cases hk
              | _ => rcases hok.1 with h | h | h | h | h | h | h <;> rw [hz] at h <;> cases h
            obtain ⟨w, ew⟩ := et
            simp only [ev_var, ev_cst, ev_bin, ev_neg, ev_cmp, ev_chain', ev_and, ev_or, ev_not, ev_ite, ev_tup, ev_lst, ev_ix, ev_sl, ev_call, ev_bt, ev_mt, ev_isi, ev_lc, ev_nil, ev_cons, ev_onone, ev_osome, ev_cnone, ev_csome, ev_ie, ev_rng, ev_enu, asT, ex_asg, ex_asgS, ex_par, ex_aug, ex_ite, ex_whl, ex_for, ex_expr, ex_ret, ex_retN, ex_pass, ex_brk, ex_cont, ex_never, ex_nil, ex_cons', W_ok, W_bind, fin_ret, fin_next, chK_bl, sq_next, sq_ret, sq_brk, sq_cont, bnd_ok, b_add, b_sub, i_add, i_sub, c_lt, c_le, c_gt, c_ge, c_eq, c_ne, c_eqs, c_nes, c_eqb, t_bl, t_int, t_non, p_int, f_int, as_n, as_t2, as_t3, setMany, getL, List.getElem?_cons_zero, List.getElem?_cons_succ, List.set_cons_zero, List.set_cons_succ, wipeL, tl0, tl1, tl2, tl3, tl4, tl5, tl6, Bool.not_true, Bool.not_false, decide_eq_true_eq, if_true, if_false, ite_true, ite_false, eq_self, Bool.false_eq_true, ew, tyOf, List.any_cons, List.any_nil, isaT, Bool.or_false, reduceCtorEq, decide_false, n_neg, iw]
            exact ⟨_, _, rfl, k8⟩
          | some i =>
            have ekd : a.kd = .int i := by
              cases hz : a.kd with
              | int j => rw [hz] at hk; exact congrArg PV.int (Option.some.inj hk)
              | _ => rw [hz] at hk; cases hk
            simp only [ev_var, ev_cst, ev_bin, ev_neg, ev_cmp, ev_chain', ev_and, ev_or, ev_not, ev_ite, ev_tup, ev_lst, ev_ix, ev_sl, ev_call, ev_bt, ev_mt, ev_isi, ev_lc, ev_nil, ev_cons, ev_onone, ev_osome, ev_cnone, ev_csome, ev_ie, ev_rng, ev_enu, asT, ex_asg, ex_asgS, ex_par, ex_aug, ex_ite, ex_whl, ex_for, ex_expr, ex_ret, ex_retN, ex_pass, ex_brk, ex_cont, ex_never, ex_nil, ex_cons', W_ok, W_bind, fin_ret, fin_next, chK_bl, sq_next, sq_ret, sq_brk, sq_cont, bnd_ok, b_add, b_sub, i_add, i_sub, c_lt, c_le, c_gt, c_ge, c_eq, c_ne, c_eqs, c_nes, c_eqb, t_bl, t_int, t_non, p_int, f_int, as_n, as_t2, as_t3, setMany, getL, List.getElem?_cons_zero, List.getElem?_cons_succ, List.set_cons_zero, List.set_cons_succ, wipeL, tl0, tl1, tl2, tl3, tl4, tl5, tl6, Bool.not_true, Bool.not_false, decide_eq_true_eq, if_true, if_false, ite_true, ite_false, eq_self, Bool.false_eq_true, ekd, tyOf, List.any_cons, List.any_nil, isaT, Bool.or_false, decide_true, n_neg, iw, f_max2]
            exact ⟨_, _, rfl, k8⟩
    obtain ⟨z9, z10, rfl, k7⟩ := q
    have hA7 := hA6.sub k7
    have hf7 := k7 _ _ trivial hf6
    have D7 := D6.kp k7
    try simp only [ev_var, ev_cst, ev_bin, ev_neg, ev_cmp, ev_chain', ev_and, ev_or, ev_not, ev_ite, ev_tup, ev_lst, ev_ix, ev_sl, ev_call, ev_bt, ev_mt, ev_isi, ev_lc, ev_nil, ev_cons, ev_onone, ev_osome, ev_cnone, ev_csome, ev_ie, ev_rng, ev_enu, asT, ex_asg, ex_asgS, ex_par, ex_aug, ex_ite, ex_whl, ex_for, ex_expr, ex_ret, ex_retN, ex_pass, ex_brk, ex_cont, ex_never, ex_nil, ex_cons', W_ok, W_bind, fin_ret, fin_next, chK_bl, sq_next, sq_ret, sq_brk, sq_cont, bnd_ok, b_add, b_sub, i_add, i_sub, c_lt, c_le, c_gt, c_ge, c_eq, c_ne, c_eqs, c_nes, c_eqb, t_bl, t_int, t_non, p_int, f_int, as_n, as_t2, as_t3, setMany, getL, List.getElem?_cons_zero, List.getElem?_cons_succ, List.set_cons_zero, List.set_cons_succ, wipeL, tl0, tl1, tl2, tl3, tl4, tl5, tl6, Bool.not_true, Bool.not_false, decide_eq_true_eq, if_true, if_false, ite_true, ite_false, eq_self, Bool.false_eq_true]
    refine (after_ok hA7 (by omega) ho hr lo1 lh hh).mono fun v S8 q => ?_
    obtain ⟨rfl, k8⟩ := q
    have hA8 := hA7.sub k8
    have hf8 := k8 _ _ trivial hf7
    have D8 := D7.kp k8
    have sA : scalar (afterV lo hi as) = true := by
      unfold afterV
      split
      · rfl
      · split
        · rfl
        · split <;> rfl
    simp only [ev_var, ev_cst, ev_bin, ev_neg, ev_cmp, ev_chain', ev_and, ev_or, ev_not, ev_ite, ev_tup, ev_lst, ev_ix, ev_sl, ev_call, ev_bt, ev_mt, ev_isi, ev_lc, ev_nil, ev_cons, ev_onone, ev_osome, ev_cnone, ev_csome, ev_ie, ev_rng, ev_enu, asT, ex_asg, ex_asgS, ex_par, ex_aug, ex_ite, ex_whl, ex_for, ex_expr, ex_ret, ex_retN, ex_pass, ex_brk, ex_cont, ex_never, ex_nil, ex_cons', W_ok, W_bind, fin_ret, fin_next, chK_bl, sq_next, sq_ret, sq_brk, sq_cont, bnd_ok, b_add, b_sub, i_add, i_sub, c_lt, c_le, c_gt, c_ge, c_eq, c_ne, c_eqs, c_nes, c_eqb, t_bl, t_int, t_non, p_int, f_int, as_n, as_t2, as_t3, setMany, getL, List.getElem?_cons_zero, List.getElem?_cons_succ, List.set_cons_zero, List.set_cons_succ, wipeL, tl0, tl1, tl2, tl3, tl4, tl5, tl6, Bool.not_true, Bool.not_false, decide_eq_true_eq, if_true, if_false, ite_true, ite_false, eq_self, Bool.false_eq_true, so_scal F__law_so _ sA, iterV]
    refine (W_lc (p := fun _ => True) (it := .vals ((as.map Ans.row).map .tup)) (xs := (as.map Ans.row).map .tup) (fun y => if kb NEW (colF S8 1 y) = true then some (.int 1) else none) rfl trivial (by rw [List.length_map, List.length_map]; unfold lim; omega) fun y hy S9 k9 => ?_).mono fun ys S9 q => ?_
    · obtain ⟨r, hr, rfl⟩ := List.mem_map.mp hy
      obtain ⟨a, ha, rfl⟩ := List.mem_map.mp hr
      try simp only [ev_var, ev_cst, ev_bin, ev_neg, ev_cmp, ev_chain', ev_and, ev_or, ev_not, ev_ite, ev_tup, ev_lst, ev_ix, ev_sl, ev_call, ev_bt, ev_mt, ev_isi, ev_lc, ev_nil, ev_cons, ev_onone, ev_osome, ev_cnone, ev_csome, ev_ie, ev_rng, ev_enu, asT, ex_asg, ex_asgS, ex_par, ex_aug, ex_ite, ex_whl, ex_for, ex_expr, ex_ret, ex_retN, ex_pass, ex_brk, ex_cont, ex_never, ex_nil, ex_cons', W_ok, W_bind, fin_ret, fin_next, chK_bl, sq_next, sq_ret, sq_brk, sq_cont, bnd_ok, b_add, b_sub, i_add, i_sub, c_lt, c_le, c_gt, c_ge, c_eq, c_ne, c_eqs, c_nes, c_eqb, t_bl, t_int, t_non, p_int, f_int, as_n, as_t2, as_t3, setMany, getL, List.getElem?_cons_zero, List.getElem?_cons_succ, List.set_cons_zero, List.set_cons_succ, wipeL, tl0, tl1, tl2, tl3, tl4, tl5, tl6, Bool.not_true, Bool.not_false, decide_eq_true_eq, if_true, if_false, ite_true, ite_false, eq_self, Bool.false_eq_true]
      refine W_as2 (x := .tup a.row) (v := .int a.at_) (w := a.kd) rfl ?_
      simp only [ev_var, ev_cst, ev_bin, ev_neg, ev_cmp, ev_chain', ev_and, ev_or, ev_not, ev_ite, ev_tup, ev_lst, ev_ix, ev_sl, ev_call, ev_bt, ev_mt, ev_isi, ev_lc, ev_nil, ev_cons, ev_onone, ev_osome, ev_cnone, ev_csome, ev_ie, ev_rng, ev_enu, asT, ex_asg, ex_asgS, ex_par, ex_aug, ex_ite, ex_whl, ex_for, ex_expr, ex_ret, ex_retN, ex_pass, ex_brk, ex_cont, ex_never, ex_nil, ex_cons', W_ok, W_bind, fin_ret, fin_next, chK_bl, sq_next, sq_ret, sq_brk, sq_cont, bnd_ok, b_add, b_sub, i_add, i_sub, c_lt, c_le, c_gt, c_ge, c_eq, c_ne, c_eqs, c_nes, c_eqb, t_bl, t_int, t_non, p_int, f_int, as_n, as_t2, as_t3, setMany, getL, List.getElem?_cons_zero, List.getElem?_cons_succ, List.set_cons_zero, List.set_cons_succ, wipeL, tl0, tl1, tl2, tl3, tl4, tl5, tl6, Bool.not_true, Bool.not_false, decide_eq_true_eq, if_true, if_false, ite_true, ite_false, eq_self, Bool.false_eq_true, k_eq (ho a ha).1 wdN]
      rw [show colF S8 1 (.tup a.row) = a.kd from rfl]
      by_cases hb : kb NEW a.kd = true
      · rw [if_pos hb, if_pos hb]; try simp only [ev_var, ev_cst, ev_bin, ev_neg, ev_cmp, ev_chain', ev_and, ev_or, ev_not, ev_ite, ev_tup, ev_lst, ev_ix, ev_sl, ev_call, ev_bt, ev_mt, ev_isi, ev_lc, ev_nil, ev_cons, ev_onone, ev_osome, ev_cnone, ev_csome, ev_ie, ev_rng, ev_enu, asT, ex_asg, ex_asgS, ex_par, ex_aug, ex_ite, ex_whl, ex_for, ex_expr, ex_ret, ex_retN, ex_pass, ex_brk, ex_cont, ex_never, ex_nil, ex_cons', W_ok, W_bind, fin_ret, fin_next, chK_bl, sq_next, sq_ret, sq_brk, sq_cont, bnd_ok, b_add, b_sub, i_add, i_sub, c_lt, c_le, c_gt, c_ge, c_eq, c_ne, c_eqs, c_nes, c_eqb, t_bl, t_int, t_non, p_int, f_int, as_n, as_t2, as_t3, setMany, getL, List.getElem?_cons_zero, List.getElem?_cons_succ, List.set_cons_zero, List.set_cons_succ, wipeL, tl0, tl1, tl2, tl3, tl4, tl5, tl6, Bool.not_true, Bool.not_false, decide_eq_true_eq, if_true, if_false, ite_true, ite_false, eq_self, Bool.false_eq_true]; exact ⟨by trivial, .refl⟩
      · rw [if_neg hb, if_neg hb]; try simp only [ev_var, ev_cst, ev_bin, ev_neg, ev_cmp, ev_chain', ev_and, ev_or, ev_not, ev_ite, ev_tup, ev_lst, ev_ix, ev_sl, ev_call, ev_bt, ev_mt, ev_isi, ev_lc, ev_nil, ev_cons, ev_onone, ev_osome, ev_cnone, ev_csome, ev_ie, ev_rng, ev_enu, asT, ex_asg, ex_asgS, ex_par, ex_aug, ex_ite, ex_whl, ex_for, ex_expr, ex_ret, ex_retN, ex_pass, ex_brk, ex_cont, ex_never, ex_nil, ex_cons', W_ok, W_bind, fin_ret, fin_next, chK_bl, sq_next, sq_ret, sq_brk, sq_cont, bnd_ok, b_add, b_sub, i_add, i_sub, c_lt, c_le, c_gt, c_ge, c_eq, c_ne, c_eqs, c_nes, c_eqb, t_bl, t_int, t_non, p_int, f_int, as_n, as_t2, as_t3, setMany, getL, List.getElem?_cons_zero, List.getElem?_cons_succ, List.set_cons_zero, List.set_cons_succ, wipeL, tl0, tl1, tl2, tl3, tl4, tl5, tl6, Bool.not_true, Bool.not_false, decide_eq_true_eq, if_true, if_false, ite_true, ite_false, eq_self, Bool.false_eq_true]; exact ⟨by trivial, .refl⟩
    obtain ⟨rfl, k9⟩ := q
    simp only [ev_var, ev_cst, ev_bin, ev_neg, ev_cmp, ev_chain', ev_and, ev_or, ev_not, ev_ite, ev_tup, ev_lst, ev_ix, ev_sl, ev_call, ev_bt, ev_mt, ev_isi, ev_lc, ev_nil, ev_cons, ev_onone, ev_osome, ev_cnone, ev_csome, ev_ie, ev_rng, ev_enu, asT, ex_asg, ex_asgS, ex_par, ex_aug, ex_ite, ex_whl, ex_for, ex_expr, ex_ret, ex_retN, ex_pass, ex_brk, ex_cont, ex_never, ex_nil, ex_cons', W_ok, W_bind, fin_ret, fin_next, chK_bl, sq_next, sq_ret, sq_brk, sq_cont, bnd_ok, b_add, b_sub, i_add, i_sub, c_lt, c_le, c_gt, c_ge, c_eq, c_ne, c_eqs, c_nes, c_eqb, t_bl, t_int, t_non, p_int, f_int, as_n, as_t2, as_t3, setMany, getL, List.getElem?_cons_zero, List.getElem?_cons_succ, List.set_cons_zero, List.set_cons_succ, wipeL, tl0, tl1, tl2, tl3, tl4, tl5, tl6, Bool.not_true, Bool.not_false, decide_eq_true_eq, if_true, if_false, ite_true, ite_false, eq_self, Bool.false_eq_true, f_len (items_ref at_push), cnt_rows (kb NEW) S8 as, iterV]
    rw [show (as.filter fun a => kb NEW a.kd).length = nN as from rfl]
    have k10 := Kp.trans k9 (.push (o := .lst (((as.map Ans.row).map PV.tup).filterMap fun y => if kb NEW (colF S8 1 y) = true then some (PV.int 1) else none)))
    have hA10 := hA8.sub k10
    have hf10 := k10 _ _ trivial hf8
    have D10 := D8.kp k10
    generalize S9 ++ [SO.lst (((as.map Ans.row).map PV.tup).filterMap fun y => if kb NEW (colF S8 1 y) = true then some (PV.int 1) else none)] = S10 at hA10 hf10 D10 ⊢
    refine (W_lc (p := fun _ => True) (it := .vals ((as.map Ans.row).map .tup)) (xs := (as.map Ans.row).map .tup) (fun y => if kb SAME (colF S10 1 y) = true then some (.int 1) else none) rfl trivial (by rw [List.length_map, List.length_map]; unfold lim; omega) fun y hy S11 k11 => ?_).mono fun ys S11 q => ?_
    · obtain ⟨r, hr, rfl⟩ := List.mem_map.mp hy
      obtain ⟨a, ha, rfl⟩ := List.mem_map.mp hr
      try simp only [ev_var, ev_cst, ev_bin, ev_neg, ev_cmp, ev_chain', ev_and, ev_or, ev_not, ev_ite, ev_tup, ev_lst, ev_ix, ev_sl, ev_call, ev_bt, ev_mt, ev_isi, ev_lc, ev_nil, ev_cons, ev_onone, ev_osome, ev_cnone, ev_csome, ev_ie, ev_rng, ev_enu, asT, ex_asg, ex_asgS, ex_par, ex_aug, ex_ite, ex_whl, ex_for, ex_expr, ex_ret, ex_retN, ex_pass, ex_brk, ex_cont, ex_never, ex_nil, ex_cons', W_ok, W_bind, fin_ret, fin_next, chK_bl, sq_next, sq_ret, sq_brk, sq_cont, bnd_ok, b_add, b_sub, i_add, i_sub, c_lt, c_le, c_gt, c_ge, c_eq, c_ne, c_eqs, c_nes, c_eqb, t_bl, t_int, t_non, p_int, f_int, as_n, as_t2, as_t3, setMany, getL, List.getElem?_cons_zero, List.getElem?_cons_succ, List.set_cons_zero, List.set_cons_succ, wipeL, tl0, tl1, tl2, tl3, tl4, tl5, tl6, Bool.not_true, Bool.not_false, decide_eq_true_eq, if_true, if_false, ite_true, ite_false, eq_self, Bool.false_eq_true]
      refine W_as2 (x := .tup a.row) (v := .int a.at_) (w := a.kd) rfl ?_
      simp only [ev_var, ev_cst, ev_bin, ev_neg, ev_cmp, ev_chain', ev_and, ev_or, ev_not, ev_ite, ev_tup, ev_lst, ev_ix, ev_sl, ev_call, ev_bt, ev_mt, ev_isi, ev_lc, ev_nil, ev_cons, ev_onone, ev_osome, ev_cnone, ev_csome, ev_ie, ev_rng, ev_enu, asT, ex_asg, ex_asgS, ex_par, ex_aug, ex_ite, ex_whl, ex_for, ex_expr, ex_ret, ex_retN, ex_pass, ex_brk, ex_cont, ex_never, ex_nil, ex_cons', W_ok, W_bind, fin_ret, fin_next, chK_bl, sq_next, sq_ret, sq_brk, sq_cont, bnd_ok, b_add, b_sub, i_add, i_sub, c_lt, c_le, c_gt, c_ge, c_eq, c_ne, c_eqs, c_nes, c_eqb, t_bl, t_int, t_non, p_int, f_int, as_n, as_t2, as_t3, setMany, getL, List.getElem?_cons_zero, List.getElem?_cons_succ, List.set_cons_zero, List.set_cons_succ, wipeL, tl0, tl1, tl2, tl3, tl4, tl5, tl6, Bool.not_true, Bool.not_false, decide_eq_true_eq, if_true, if_false, ite_true, ite_false, eq_self, Bool.false_eq_true, k_eq (ho a ha).1 wdS]
      rw [show colF S10 1 (.tup a.row) = a.kd from rfl]
      by_cases hb : kb SAME a.kd = true
      · rw [if_pos hb, if_pos hb]; try simp only [ev_var, ev_cst, ev_bin, ev_neg, ev_cmp, ev_chain', ev_and, ev_or, ev_not, ev_ite, ev_tup, ev_lst, ev_ix, ev_sl, ev_call, ev_bt, ev_mt, ev_isi, ev_lc, ev_nil, ev_cons, ev_onone, ev_osome, ev_cnone, ev_csome, ev_ie, ev_rng, ev_enu, asT, ex_asg, ex_asgS, ex_par, ex_aug, ex_ite, ex_whl, ex_for, ex_expr, ex_ret, ex_retN, ex_pass, ex_brk, ex_cont, ex_never, ex_nil, ex_cons', W_ok, W_bind, fin_ret, fin_next, chK_bl, sq_next, sq_ret, sq_brk, sq_cont, bnd_ok, b_add, b_sub, i_add, i_sub, c_lt, c_le, c_gt, c_ge, c_eq, c_ne, c_eqs, c_nes, c_eqb, t_bl, t_int, t_non, p_int, f_int, as_n, as_t2, as_t3, setMany, getL, List.getElem?_cons_zero, List.getElem?_cons_succ, List.set_cons_zero, List.set_cons_succ, wipeL, tl0, tl1, tl2, tl3, tl4, tl5, tl6, Bool.not_true, Bool.not_false, decide_eq_true_eq, if_true, if_false, ite_true, ite_false, eq_self, Bool.false_eq_true]; exact ⟨by trivial, .refl⟩
      · rw [if_neg hb, if_neg hb]; try simp only [ev_var, ev_cst, ev_bin, ev_neg, ev_cmp, ev_chain', ev_and, ev_or, ev_not, ev_ite, ev_tup, ev_lst, ev_ix, ev_sl, ev_call, ev_bt, ev_mt, ev_isi, ev_lc, ev_nil, ev_cons, ev_onone, ev_osome, ev_cnone, ev_csome, ev_ie, ev_rng, ev_enu, asT, ex_asg, ex_asgS, ex_par, ex_aug, ex_ite, ex_whl, ex_for, ex_expr, ex_ret, ex_retN, ex_pass, ex_brk, ex_cont, ex_never, ex_nil, ex_cons', W_ok, W_bind, fin_ret, fin_next, chK_bl, sq_next, sq_ret, sq_brk, sq_cont, bnd_ok, b_add, b_sub, i_add, i_sub, c_lt, c_le, c_gt, c_ge, c_eq, c_ne, c_eqs, c_nes, c_eqb, t_bl, t_int, t_non, p_int, f_int, as_n, as_t2, as_t3, setMany, getL, List.getElem?_cons_zero, List.getElem?_cons_succ, List.set_cons_zero, List.set_cons_succ, wipeL, tl0, tl1, tl2, tl3, tl4, tl5, tl6, Bool.not_true, Bool.not_false, decide_eq_true_eq, if_true, if_false, ite_true, ite_false, eq_self, Bool.false_eq_true]; exact ⟨by trivial, .refl⟩
    obtain ⟨rfl, k11⟩ := q
    simp only [ev_var, ev_cst, ev_bin, ev_neg, ev_cmp, ev_chain', ev_and, ev_or, ev_not, ev_ite, ev_tup, ev_lst, ev_ix, ev_sl, ev_call, ev_bt, ev_mt, ev_isi, ev_lc, ev_nil, ev_cons, ev_onone, ev_osome, ev_cnone, ev_csome, ev_ie, ev_rng, ev_enu, asT, ex_asg, ex_asgS, ex_par, ex_aug, ex_ite, ex_whl, ex_for, ex_expr, ex_ret, ex_retN, ex_pass, ex_brk, ex_cont, ex_never, ex_nil, ex_cons', W_ok, W_bind, fin_ret, fin_next, chK_bl, sq_next, sq_ret, sq_brk, sq_cont, bnd_ok, b_add, b_sub, i_add, i_sub, c_lt, c_le, c_gt, c_ge, c_eq, c_ne, c_eqs, c_nes, c_eqb, t_bl, t_int, t_non, p_int, f_int, as_n, as_t2, as_t3, setMany, getL, List.getElem?_cons_zero, List.getElem?_cons_succ, List.set_cons_zero, List.set_cons_succ, wipeL, tl0, tl1, tl2, tl3, tl4, tl5, tl6, Bool.not_true, Bool.not_false, decide_eq_true_eq, if_true, if_false, ite_true, ite_false, eq_self, Bool.false_eq_true, f_len (items_ref at_push), cnt_rows (kb SAME) S10 as]
    rw [show (as.filter fun a => kb SAME a.kd).length = nS as from rfl]
    have k12 := Kp.trans k11 (.push (o := .lst (((as.map Ans.row).map PV.tup).filterMap fun y => if kb SAME (colF S10 1 y) = true then some (PV.int 1) else none)))
    have hA12 := hA10.sub k12
    have hf12 := k12 _ _ trivial hf10
    have D12 := D10.kp k12
    generalize S11 ++ [SO.lst (((as.map Ans.row).map PV.tup).filterMap fun y => if kb SAME (colF S10 1 y) = true then some (PV.int 1) else none)] = S12 at hA12 hf12 D12 ⊢
    simp only [ev_var, ev_cst, ev_bin, ev_neg, ev_cmp, ev_chain', ev_and, ev_or, ev_not, ev_ite, ev_tup, ev_lst, ev_ix, ev_sl, ev_call, ev_bt, ev_mt, ev_isi, ev_lc, ev_nil, ev_cons, ev_onone, ev_osome, ev_cnone, ev_csome, ev_ie, ev_rng, ev_enu, asT, ex_asg, ex_asgS, ex_par, ex_aug, ex_ite, ex_whl, ex_for, ex_expr, ex_ret, ex_retN, ex_pass, ex_brk, ex_cont, ex_never, ex_nil, ex_cons', W_ok, W_bind, fin_ret, fin_next, chK_bl, sq_next, sq_ret, sq_brk, sq_cont, bnd_ok, b_add, b_sub, i_add, i_sub, c_lt, c_le, c_gt, c_ge, c_eq, c_ne, c_eqs, c_nes, c_eqb, t_bl, t_int, t_non, p_int, f_int, as_n, as_t2, as_t3, setMany, getL, List.getElem?_cons_zero, List.getElem?_cons_succ, List.set_cons_zero, List.set_cons_succ, wipeL, tl0, tl1, tl2, tl3, tl4, tl5, tl6, Bool.not_true, Bool.not_false, decide_eq_true_eq, if_true, if_false, ite_true, ite_false, eq_self, Bool.false_eq_true, f_len (show itemsOf S12 (.tup ((as.map Ans.row).map .tup)) = some ((as.map Ans.row).map .tup) from rfl), List.length_map]
    refine W_r1 (i := (as.length : Int)) (bigI (by omega) (by omega)) ?_
    rw [show ((as.length : Int)).toNat = as.length by omega]
    have htl := tf_le as
    refine W.mono (P := fun fl S' => S' = S12 ∧ ∃ z14 : Option PV, fl = Fl.next [some (.ltc (ns.map .int)), some (.ref 0), some (.ref 2), some (.tup ((as.map Ans.row).map .tup)), some (.int lo), some (.int hi), some (.ref f), some hv, some (afterV lo hi as), z9, z10, some (.int (nN as : Int)), some (.int (nS as : Int)), some (.int (tf as : Int)), z14, none, none, none, none, none, none]) ?_ fun fl S13 q => ?_
    · refine W_for0 (it := .vals (rngL 0 as.length)) (xs := rngL 0 as.length) (by exact rfl) (fun m ρ S' => S' = S12 ∧ m ≤ tf as ∧ ∃ z14 : Option PV, ρ = [some (.ltc (ns.map .int)), some (.ref 0), some (.ref 2), some (.tup ((as.map Ans.row).map .tup)), some (.int lo), some (.int hi), some (.ref f), some hv, some (afterV lo hi as), z9, z10, some (.int (nN as : Int)), some (.int (nS as : Int)), some (.int (m : Int)), z14, none, none, none, none, none, none]) ⟨rfl, Nat.zero_le _, _, rfl⟩ (fun _ _ _ _ => rfl) (fun m x ρ S1 hx hI => ?_) fun ρ S1 hI => ?_
      · obtain ⟨rfl, hm, z14, rfl⟩ := hI
        obtain ⟨rfl, hmc⟩ := rngL_get hx
        have ea : as[as.length - 1 - m]? = some (as[as.length - 1 - m]'(by omega)) := List.getElem?_eq_getElem (by omega)
        generalize as[as.length - 1 - m]'(by omega) = a at ea
        have hok := ho a (List.mem_of_getElem? ea)
        have ir : ixV (.tup ((as.map Ans.row).map .tup)) (.int ((as.length : Int) - 1 - (0 + (m : Int)))) S1 = .ok (.tup a.row) S1 := ix_at rfl (by omega) (by
          rw [show ((as.length : Int) - 1 - (0 + (m : Int))).toNat = as.length - 1 - m by omega, List.getElem?_map, List.getElem?_map, ea]; rfl)
        have i1 : ixV (.tup a.row) (.int 1) S1 = .ok a.kd S1 := ix_at rfl (by decide) rfl
        simp only [ev_var, ev_cst, ev_bin, ev_neg, ev_cmp, ev_chain', ev_and, ev_or, ev_not, ev_ite, ev_tup, ev_lst, ev_ix, ev_sl, ev_call, ev_bt, ev_mt, ev_isi, ev_lc, ev_nil, ev_cons, ev_onone, ev_osome, ev_cnone, ev_csome, ev_ie, ev_rng, ev_enu, asT, ex_asg, ex_asgS, ex_par, ex_aug, ex_ite, ex_whl, ex_for, ex_expr, ex_ret, ex_retN, ex_pass, ex_brk, ex_cont, ex_never, ex_nil, ex_cons', W_ok, W_bind, fin_ret, fin_next, chK_bl, sq_next, sq_ret, sq_brk, sq_cont, bnd_ok, b_add, b_sub, i_add, i_sub, c_lt, c_le, c_gt, c_ge, c_eq, c_ne, c_eqs, c_nes, c_eqb, t_bl, t_int, t_non, p_int, f_int, as_n, as_t2, as_t3, setMany, getL, List.getElem?_cons_zero, List.getElem?_cons_succ, List.set_cons_zero, List.set_cons_succ, wipeL, tl0, tl1, tl2, tl3, tl4, tl5, tl6, Bool.not_true, Bool.not_false, decide_eq_true_eq, if_true, if_false, ite_true, ite_false, eq_self, Bool.false_eq_true, f_len (show itemsOf S1 (.tup ((as.map Ans.row).map .tup)) = some ((as.map Ans.row).map .tup) from rfl), List.length_map, ir, i1, k_ne hok.1 wdF]
        by_cases hb : kb FAIL a.kd = true
        · simp only [ev_var, ev_cst, ev_bin, ev_neg, ev_cmp, ev_chain', ev_and, ev_or, ev_not, ev_ite, ev_tup, ev_lst, ev_ix, ev_sl, ev_call, ev_bt, ev_mt, ev_isi, ev_lc, ev_nil, ev_cons, ev_onone, ev_osome, ev_cnone, ev_csome, ev_ie, ev_rng, ev_enu, asT, ex_asg, ex_asgS, ex_par, ex_aug, ex_ite, ex_whl, ex_for, ex_expr, ex_ret, ex_retN, ex_pass, ex_brk, ex_cont, ex_never, ex_nil, ex_cons', W_ok, W_bind, fin_ret, fin_next, chK_bl, sq_next, sq_ret, sq_brk, sq_cont, bnd_ok, b_add, b_sub, i_add, i_sub, c_lt, c_le, c_gt, c_ge, c_eq, c_ne, c_eqs, c_nes, c_eqb, t_bl, t_int, t_non, p_int, f_int, as_n, as_t2, as_t3, setMany, getL, List.getElem?_cons_zero, List.getElem?_cons_succ, List.set_cons_zero, List.set_cons_succ, wipeL, tl0, tl1, tl2, tl3, tl4, tl5, tl6, Bool.not_true, Bool.not_false, decide_eq_true_eq, if_true, if_false, ite_true, ite_false, eq_self, Bool.false_eq_true, hb]
          have hlt : m < tf as := by
            rcases Nat.lt_or_ge m (tf as) with h | h
            · exact h
            · have e : m = tf as := by omega
              subst e
              obtain ⟨a', g1, g2⟩ := tf_stop hmc
              rw [ea] at g1; cases g1
              rw [hb] at g2; cases g2
          exact ⟨trivial, hlt, _, rfl⟩
        · have hb' : kb FAIL a.kd = false := by simpa using hb
          simp only [ev_var, ev_cst, ev_bin, ev_neg, ev_cmp, ev_chain', ev_and, ev_or, ev_not, ev_ite, ev_tup, ev_lst, ev_ix, ev_sl, ev_call, ev_bt, ev_mt, ev_isi, ev_lc, ev_nil, ev_cons, ev_onone, ev_osome, ev_cnone, ev_csome, ev_ie, ev_rng, ev_enu, asT, ex_asg, ex_asgS, ex_par, ex_aug, ex_ite, ex_whl, ex_for, ex_expr, ex_ret, ex_retN, ex_pass, ex_brk, ex_cont, ex_never, ex_nil, ex_cons', W_ok, W_bind, fin_ret, fin_next, chK_bl, sq_next, sq_ret, sq_brk, sq_cont, bnd_ok, b_add, b_sub, i_add, i_sub, c_lt, c_le, c_gt, c_ge, c_eq, c_ne, c_eqs, c_nes, c_eqb, t_bl, t_int, t_non, p_int, f_int, as_n, as_t2, as_t3, setMany, getL, List.getElem?_cons_zero, List.getElem?_cons_succ, List.set_cons_zero, List.set_cons_succ, wipeL, tl0, tl1, tl2, tl3, tl4, tl5, tl6, Bool.not_true, Bool.not_false, decide_eq_true_eq, if_true, if_false, ite_true, ite_false, eq_self, Bool.false_eq_true, hb']
          have e : m = tf as := by
            rcases Nat.lt_or_ge m (tf as) with h | h
            · obtain ⟨a', g1, g2⟩ := tf_at h
              rw [ea] at g1; cases g1
              rw [hb'] at g2; cases g2
            · omega
          subst e
          exact ⟨trivial, _, rfl⟩
      · obtain ⟨rfl, hm, z14, rfl⟩ := hI
        rw [rngL_len] at hm ⊢
        exact ⟨rfl, z14, by rw [show as.length = tf as by omega]⟩
    obtain ⟨rfl, z14, rfl⟩ := q
    try simp only [ev_var, ev_cst, ev_bin, ev_neg, ev_cmp, ev_chain', ev_and, ev_or, ev_not, ev_ite, ev_tup, ev_lst, ev_ix, ev_sl, ev_call, ev_bt, ev_mt, ev_isi, ev_lc, ev_nil, ev_cons, ev_onone, ev_osome, ev_cnone, ev_csome, ev_ie, ev_rng, ev_enu, asT, ex_asg, ex_asgS, ex_par, ex_aug, ex_ite, ex_whl, ex_for, ex_expr, ex_ret, ex_retN, ex_pass, ex_brk, ex_cont, ex_never, ex_nil, ex_cons', W_ok, W_bind, fin_ret, fin_next, chK_bl, sq_next, sq_ret, sq_brk, sq_cont, bnd_ok, b_add, b_sub, i_add, i_sub, c_lt, c_le, c_gt, c_ge, c_eq, c_ne, c_eqs, c_nes, c_eqb, t_bl, t_int, t_non, p_int, f_int, as_n, as_t2, as_t3, setMany, getL, List.getElem?_cons_zero, List.getElem?_cons_succ, List.set_cons_zero, List.set_cons_succ, wipeL, tl0, tl1, tl2, tl3, tl4, tl5, tl6, Bool.not_true, Bool.not_false, decide_eq_true_eq, if_true, if_false, ite_true, ite_false, eq_self, Bool.false_eq_true]
    refine (health_ok hA12 (by omega) ho hr (by decide)).mono fun v S14 q => ?_
    obtain ⟨rfl, k14⟩ := q
    have hA14 := hA12.sub k14
    have D14 := D12.kp k14
    try simp only [ev_var, ev_cst, ev_bin, ev_neg, ev_cmp, ev_chain', ev_and, ev_or, ev_not, ev_ite, ev_tup, ev_lst, ev_ix, ev_sl, ev_call, ev_bt, ev_mt, ev_isi, ev_lc, ev_nil, ev_cons, ev_onone, ev_osome, ev_cnone, ev_csome, ev_ie, ev_rng, ev_enu, asT, ex_asg, ex_asgS, ex_par, ex_aug, ex_ite, ex_whl, ex_for, ex_expr, ex_ret, ex_retN, ex_pass, ex_brk, ex_cont, ex_never, ex_nil, ex_cons', W_ok, W_bind, fin_ret, fin_next, chK_bl, sq_next, sq_ret, sq_brk, sq_cont, bnd_ok, b_add, b_sub, i_add, i_sub, c_lt, c_le, c_gt, c_ge, c_eq, c_ne, c_eqs, c_nes, c_eqb, t_bl, t_int, t_non, p_int, f_int, as_n, as_t2, as_t3, setMany, getL, List.getElem?_cons_zero, List.getElem?_cons_succ, List.set_cons_zero, List.set_cons_succ, wipeL, tl0, tl1, tl2, tl3, tl4, tl5, tl6, Bool.not_true, Bool.not_false, decide_eq_true_eq, if_true, if_false, ite_true, ite_false, eq_self, Bool.false_eq_true]
    refine W.mono (P := fun a S' => a = (if nN as + nS as = 0 then PV.non else .tup [.int ((nN as : Int) / gI (nN as) ((nN as : Int) + nS as)), .int (((nN as : Int) + nS as) / gI (nN as) ((nN as : Int) + nS as))]) ∧ S' = S14) ?_ fun a S15 q => ?_
    · by_cases hz : nN as + nS as = 0
      · rw [if_pos (show (nN as : Int) + nS as = 0 by omega), if_pos hz]; exact .ok ⟨rfl, rfl⟩
      · have b1 : nN as ≤ as.length := List.length_filter_le _ _
        have b2 : nS as ≤ as.length := List.length_filter_le _ _
        rw [if_neg (show ¬ (nN as : Int) + nS as = 0 by omega), if_neg hz, law_q_eq (k := 97) F__law_q F__law_gcd (by omega) (by omega)]
        exact .ok ⟨rfl, rfl⟩
    obtain ⟨rfl, rfl⟩ := q
    have plH : plain 2 (healthV as) = true := by
      unfold healthV
      split <;> rfl
    have plE : PV.tup [(if nN as + nS as = 0 then PV.non else .tup [.int ((nN as : Int) / gI (nN as) ((nN as : Int) + nS as)), .int (((nN as : Int) + nS as) / gI (nN as) ((nN as : Int) + nS as))]), PV.int (tf as)] = healthV as := rfl
    rw [plE]
    simp only [ev_var, ev_cst, ev_bin, ev_neg, ev_cmp, ev_chain', ev_and, ev_or, ev_not, ev_ite, ev_tup, ev_lst, ev_ix, ev_sl, ev_call, ev_bt, ev_mt, ev_isi, ev_lc, ev_nil, ev_cons, ev_onone, ev_osome, ev_cnone, ev_csome, ev_ie, ev_rng, ev_enu, asT, ex_asg, ex_asgS, ex_par, ex_aug, ex_ite, ex_whl, ex_for, ex_expr, ex_ret, ex_retN, ex_pass, ex_brk, ex_cont, ex_never, ex_nil, ex_cons', W_ok, W_bind, fin_ret, fin_next, chK_bl, sq_next, sq_ret, sq_brk, sq_cont, bnd_ok, b_add, b_sub, i_add, i_sub, c_lt, c_le, c_gt, c_ge, c_eq, c_ne, c_eqs, c_nes, c_eqb, t_bl, t_int, t_non, p_int, f_int, as_n, as_t2, as_t3, setMany, getL, List.getElem?_cons_zero, List.getElem?_cons_succ, List.set_cons_zero, List.set_cons_succ, wipeL, tl0, tl1, tl2, tl3, tl4, tl5, tl6, Bool.not_true, Bool.not_false, decide_eq_true_eq, if_true, if_false, ite_true, ite_false, eq_self, Bool.false_eq_true, so_eq F__law_so 2 _ _ plH]
    refine (take_ok F__law_take F__law_draw D14 (show (0 : Int) < 5 by decide)).mono fun v S16 q => ?_
    obtain ⟨m0, rfl, hm0, hm1, D16, _⟩ := q
    have hfm := at_push (S := S16) (o := .lst [.int m0])
    have D17 := D16.kp (.push (o := .lst [.int m0]))
    have hne2 : S16.length ≠ 2 := by have := spot_lt D16; omega
    have hne0 : S16.length ≠ 0 := by have := spot_lt D16; omega
    try simp only [ev_var, ev_cst, ev_bin, ev_neg, ev_cmp, ev_chain', ev_and, ev_or, ev_not, ev_ite, ev_tup, ev_lst, ev_ix, ev_sl, ev_call, ev_bt, ev_mt, ev_isi, ev_lc, ev_nil, ev_cons, ev_onone, ev_osome, ev_cnone, ev_csome, ev_ie, ev_rng, ev_enu, asT, ex_asg, ex_asgS, ex_par, ex_aug, ex_ite, ex_whl, ex_for, ex_expr, ex_ret, ex_retN, ex_pass, ex_brk, ex_cont, ex_never, ex_nil, ex_cons', W_ok, W_bind, fin_ret, fin_next, chK_bl, sq_next, sq_ret, sq_brk, sq_cont, bnd_ok, b_add, b_sub, i_add, i_sub, c_lt, c_le, c_gt, c_ge, c_eq, c_ne, c_eqs, c_nes, c_eqb, t_bl, t_int, t_non, p_int, f_int, as_n, as_t2, as_t3, setMany, getL, List.getElem?_cons_zero, List.getElem?_cons_succ, List.set_cons_zero, List.set_cons_succ, wipeL, tl0, tl1, tl2, tl3, tl4, tl5, tl6, Bool.not_true, Bool.not_false, decide_eq_true_eq, if_true, if_false, ite_true, ite_false, eq_self, Bool.false_eq_true]
    generalize S16.length = fm at hfm hne2 hne0 ⊢
    generalize S16 ++ [SO.lst [.int m0]] = S17 at hfm D17 ⊢
    refine (take_ok F__law_take F__law_draw D17 (show (0 : Int) < 8 by decide)).mono fun v S18 q => ?_
    obtain ⟨c, rfl, hc0', hc1', D18, k18⟩ := q
    have hfm18 := k18 _ _ hne2 hfm
    try simp only [ev_var, ev_cst, ev_bin, ev_neg, ev_cmp, ev_chain', ev_and, ev_or, ev_not, ev_ite, ev_tup, ev_lst, ev_ix, ev_sl, ev_call, ev_bt, ev_mt, ev_isi, ev_lc, ev_nil, ev_cons, ev_onone, ev_osome, ev_cnone, ev_csome, ev_ie, ev_rng, ev_enu, asT, ex_asg, ex_asgS, ex_par, ex_aug, ex_ite, ex_whl, ex_for, ex_expr, ex_ret, ex_retN, ex_pass, ex_brk, ex_cont, ex_never, ex_nil, ex_cons', W_ok, W_bind, fin_ret, fin_next, chK_bl, sq_next, sq_ret, sq_brk, sq_cont, bnd_ok, b_add, b_sub, i_add, i_sub, c_lt, c_le, c_gt, c_ge, c_eq, c_ne, c_eqs, c_nes, c_eqb, t_bl, t_int, t_non, p_int, f_int, as_n, as_t2, as_t3, setMany, getL, List.getElem?_cons_zero, List.getElem?_cons_succ, List.set_cons_zero, List.set_cons_succ, wipeL, tl0, tl1, tl2, tl3, tl4, tl5, tl6, Bool.not_true, Bool.not_false, decide_eq_true_eq, if_true, if_false, ite_true, ite_false, eq_self, Bool.false_eq_true]
    refine W_r1 (i := 1 + c) (bigI (by omega) (by omega)) ?_
    refine W.mono (P := fun fl S' => ∃ (l : List Int) (z14 : Option PV), fl = Fl.next [some (.ltc (ns.map .int)), some (.ref 0), some (.ref 2), some (.tup ((as.map Ans.row).map .tup)), some (.int lo), some (.int hi), some (.ref f), some hv, some (afterV lo hi as), z9, z10, some (.int (nN as : Int)), some (.int (nS as : Int)), some (.int (tf as : Int)), z14, some (.ref fm), none, none, none, none, none] ∧ S'[fm]? = some (.lst (l.map .int)) ∧ 2 ≤ l.length ∧ l.length ≤ 9 ∧ l.Pairwise (· < ·) ∧ (∀ n, n ∈ l → 0 ≤ n ∧ n ≤ 1000) ∧ Dr R 0 2 S') ?_ fun fl S19 q => ?_
    · refine W_for0 (it := .vals (rngL 0 (1 + c).toNat)) (xs := rngL 0 (1 + c).toNat) (by exact rfl) (fun m ρ S' => ∃ (l : List Int) (z14 : Option PV), ρ = [some (.ltc (ns.map .int)), some (.ref 0), some (.ref 2), some (.tup ((as.map Ans.row).map .tup)), some (.int lo), some (.int hi), some (.ref f), some hv, some (afterV lo hi as), z9, z10, some (.int (nN as : Int)), some (.int (nS as : Int)), some (.int (tf as : Int)), z14, some (.ref fm), none, none, none, none, none] ∧ S'[fm]? = some (.lst (l.map .int)) ∧ l.length = m + 1 ∧ m ≤ 8 ∧ l.Pairwise (· < ·) ∧ (∀ n, n ∈ l → 0 ≤ n ∧ n ≤ lastI l) ∧ lastI l ≤ 5 + 31 * m ∧ Dr R 0 2 S') ⟨[m0], _, rfl, hfm18, rfl, by omega, List.pairwise_singleton _ _, fun n hn => by rw [List.mem_singleton.mp hn]; exact ⟨hm0, Int.le_refl m0⟩, show m0 ≤ _ by omega, D18⟩ (fun _ _ _ _ => rfl) (fun m x ρ S1 hx hI => ?_) fun ρ S1 hI => ?_
      · obtain ⟨l, z14, rfl, hl1, hll, hm8, hp, hb, hlast, DD⟩ := hI
        obtain ⟨rfl, hmc⟩ := rngL_get hx
        have el : (l.map PV.int)[(l.map PV.int).length - 1]? = some (.int (lastI l)) := by
          have e := ns_at (ns := l) (i := (l.length : Int) - 1) (by omega) (by omega)
          rw [show ((l.length : Int) - 1).toNat = l.length - 1 by omega] at e
          rw [List.length_map]
          exact e
        have il := ix_lastP (items_ref hl1) el
        simp only [ev_var, ev_cst, ev_bin, ev_neg, ev_cmp, ev_chain', ev_and, ev_or, ev_not, ev_ite, ev_tup, ev_lst, ev_ix, ev_sl, ev_call, ev_bt, ev_mt, ev_isi, ev_lc, ev_nil, ev_cons, ev_onone, ev_osome, ev_cnone, ev_csome, ev_ie, ev_rng, ev_enu, asT, ex_asg, ex_asgS, ex_par, ex_aug, ex_ite, ex_whl, ex_for, ex_expr, ex_ret, ex_retN, ex_pass, ex_brk, ex_cont, ex_never, ex_nil, ex_cons', W_ok, W_bind, fin_ret, fin_next, chK_bl, sq_next, sq_ret, sq_brk, sq_cont, bnd_ok, b_add, b_sub, i_add, i_sub, c_lt, c_le, c_gt, c_ge, c_eq, c_ne, c_eqs, c_nes, c_eqb, t_bl, t_int, t_non, p_int, f_int, as_n, as_t2, as_t3, setMany, getL, List.getElem?_cons_zero, List.getElem?_cons_succ, List.set_cons_zero, List.set_cons_succ, wipeL, tl0, tl1, tl2, tl3, tl4, tl5, tl6, Bool.not_true, Bool.not_false, decide_eq_true_eq, if_true, if_false, ite_true, ite_false, eq_self, Bool.false_eq_true, n_neg, mtTy, ty_ref hl1, il]
        refine (take_ok F__law_take F__law_draw DD (show (0 : Int) < 30 by decide)).mono fun v S2 q => ?_
        obtain ⟨d, rfl, hd0, hd1, D2, k2⟩ := q
        have hl2 := k2 _ _ hne2 hl1
        simp only [ev_var, ev_cst, ev_bin, ev_neg, ev_cmp, ev_chain', ev_and, ev_or, ev_not, ev_ite, ev_tup, ev_lst, ev_ix, ev_sl, ev_call, ev_bt, ev_mt, ev_isi, ev_lc, ev_nil, ev_cons, ev_onone, ev_osome, ev_cnone, ev_csome, ev_ie, ev_rng, ev_enu, asT, ex_asg, ex_asgS, ex_par, ex_aug, ex_ite, ex_whl, ex_for, ex_expr, ex_ret, ex_retN, ex_pass, ex_brk, ex_cont, ex_never, ex_nil, ex_cons', W_ok, W_bind, fin_ret, fin_next, chK_bl, sq_next, sq_ret, sq_brk, sq_cont, bnd_ok, b_add, b_sub, i_add, i_sub, c_lt, c_le, c_gt, c_ge, c_eq, c_ne, c_eqs, c_nes, c_eqb, t_bl, t_int, t_non, p_int, f_int, as_n, as_t2, as_t3, setMany, getL, List.getElem?_cons_zero, List.getElem?_cons_succ, List.set_cons_zero, List.set_cons_succ, wipeL, tl0, tl1, tl2, tl3, tl4, tl5, tl6, Bool.not_true, Bool.not_false, decide_eq_true_eq, if_true, if_false, ite_true, ite_false, eq_self, Bool.false_eq_true, m_append hl2 (show (l.map PV.int).length < lim by rw [List.length_map]; unfold lim; omega)]
        have lm : lastI l ∈ l := by
          unfold lastI
          rw [List.getD_eq_getElem?_getD, List.getElem?_eq_getElem (show l.length - 1 < l.length by omega)]
          exact List.getElem_mem _
        have lla : lastI (l ++ [lastI l + 1 + d]) = lastI l + 1 + d := by
          show (l ++ [lastI l + 1 + d]).getD ((l ++ [lastI l + 1 + d]).length - 1) 0 = _
          rw [List.length_append, List.getD_eq_getElem?_getD, List.getElem?_append_right (by simp)]
          simp
        refine ⟨l ++ [lastI l + 1 + d], _, rfl, ?_, by rw [List.length_append, hll]; rfl, by omega, ?_, ?_, ?_, ?_⟩
        · rw [List.getElem?_set_self (lt_of_at hl2), List.map_append]; rfl
        · rw [List.pairwise_append]
          refine ⟨hp, List.pairwise_singleton _ _, fun x hx y hy => ?_⟩
          rw [List.mem_singleton.mp hy]
          have := (hb x hx).2
          omega
        · intro n hn
          rw [lla]
          have h0 := (hb _ lm).1
          rcases List.mem_append.mp hn with hn | hn
          · have := hb n hn; omega
          · rw [List.mem_singleton.mp hn]; omega
        · rw [lla]; omega
        · obtain ⟨s, hs⟩ := D2.spot
          exact ⟨by rw [List.getElem?_set_ne hne0]; exact D2.row, D2.pos, D2.ne, s, by rw [List.getElem?_set_ne hne2]; exact hs⟩
      · obtain ⟨l, z14, rfl, hl1, hll, hm8, hp, hb, hlast, DD⟩ := hI
        rw [rngL_len] at hll hm8 hlast
        exact ⟨l, z14, rfl, hl1, by omega, by omega, hp, fun n hn => by have := hb n hn; omega, DD⟩
    obtain ⟨l, z14, rfl, hl1, hl2, hl9, hp, hb, D19⟩ := q
    try simp only [ev_var, ev_cst, ev_bin, ev_neg, ev_cmp, ev_chain', ev_and, ev_or, ev_not, ev_ite, ev_tup, ev_lst, ev_ix, ev_sl, ev_call, ev_bt, ev_mt, ev_isi, ev_lc, ev_nil, ev_cons, ev_onone, ev_osome, ev_cnone, ev_csome, ev_ie, ev_rng, ev_enu, asT, ex_asg, ex_asgS, ex_par, ex_aug, ex_ite, ex_whl, ex_for, ex_expr, ex_ret, ex_retN, ex_pass, ex_brk, ex_cont, ex_never, ex_nil, ex_cons', W_ok, W_bind, fin_ret, fin_next, chK_bl, sq_next, sq_ret, sq_brk, sq_cont, bnd_ok, b_add, b_sub, i_add, i_sub, c_lt, c_le, c_gt, c_ge, c_eq, c_ne, c_eqs, c_nes, c_eqb, t_bl, t_int, t_non, p_int, f_int, as_n, as_t2, as_t3, setMany, getL, List.getElem?_cons_zero, List.getElem?_cons_succ, List.set_cons_zero, List.set_cons_succ, wipeL, tl0, tl1, tl2, tl3, tl4, tl5, tl6, Bool.not_true, Bool.not_false, decide_eq_true_eq, if_true, if_false, ite_true, ite_false, eq_self, Bool.false_eq_true]
    simp only [ev_var, ev_cst, ev_bin, ev_neg, ev_cmp, ev_chain', ev_and, ev_or, ev_not, ev_ite, ev_tup, ev_lst, ev_ix, ev_sl, ev_call, ev_bt, ev_mt, ev_isi, ev_lc, ev_nil, ev_cons, ev_onone, ev_osome, ev_cnone, ev_csome, ev_ie, ev_rng, ev_enu, asT, ex_asg, ex_asgS, ex_par, ex_aug, ex_ite, ex_whl, ex_for, ex_expr, ex_ret, ex_retN, ex_pass, ex_brk, ex_cont, ex_never, ex_nil, ex_cons', W_ok, W_bind, fin_ret, fin_next, chK_bl, sq_next, sq_ret, sq_brk, sq_cont, bnd_ok, b_add, b_sub, i_add, i_sub, c_lt, c_le, c_gt, c_ge, c_eq, c_ne, c_eqs, c_nes, c_eqb, t_bl, t_int, t_non, p_int, f_int, as_n, as_t2, as_t3, setMany, getL, List.getElem?_cons_zero, List.getElem?_cons_succ, List.set_cons_zero, List.set_cons_succ, wipeL, tl0, tl1, tl2, tl3, tl4, tl5, tl6, Bool.not_true, Bool.not_false, decide_eq_true_eq, if_true, if_false, ite_true, ite_false, eq_self, Bool.false_eq_true, f_len (items_ref hl1), List.length_map]
    refine W_r2 (i := 1) (j := (l.length : Int)) ⟨(bigI (by omega) (by omega)).1, (bigI (n := 1) (by omega) (by omega)).2, bigI (by omega) (by omega)⟩ ?_
    refine (W_lcM (p := fun _ => True) (it := .vals (rngL 1 ((l.length : Int) - 1).toNat)) (xs := rngL 1 ((l.length : Int) - 1).toNat) (stepB l) rfl trivial (by rw [rngL_len]; unfold lim; omega) fun y hy S2 k2 => ?_).mono fun ys S20 q => ?_
    · obtain ⟨m, hm⟩ := List.getElem?_of_mem hy
      obtain ⟨rfl, hm'⟩ := rngL_get hm
      have i1 := ix_at (i := 1 + (m : Int)) (items_sub k2 (items_ref hl1)) (by omega) (ns_at (by omega) (by omega))
      have i2 := ix_at (i := 1 + (m : Int) - 1) (items_sub k2 (items_ref hl1)) (by omega) (ns_at (by omega) (by omega))
      simp only [ev_var, ev_cst, ev_bin, ev_neg, ev_cmp, ev_chain', ev_and, ev_or, ev_not, ev_ite, ev_tup, ev_lst, ev_ix, ev_sl, ev_call, ev_bt, ev_mt, ev_isi, ev_lc, ev_nil, ev_cons, ev_onone, ev_osome, ev_cnone, ev_csome, ev_ie, ev_rng, ev_enu, asT, ex_asg, ex_asgS, ex_par, ex_aug, ex_ite, ex_whl, ex_for, ex_expr, ex_ret, ex_retN, ex_pass, ex_brk, ex_cont, ex_never, ex_nil, ex_cons', W_ok, W_bind, fin_ret, fin_next, chK_bl, sq_next, sq_ret, sq_brk, sq_cont, bnd_ok, b_add, b_sub, i_add, i_sub, c_lt, c_le, c_gt, c_ge, c_eq, c_ne, c_eqs, c_nes, c_eqb, t_bl, t_int, t_non, p_int, f_int, as_n, as_t2, as_t3, setMany, getL, List.getElem?_cons_zero, List.getElem?_cons_succ, List.set_cons_zero, List.set_cons_succ, wipeL, tl0, tl1, tl2, tl3, tl4, tl5, tl6, Bool.not_true, Bool.not_false, decide_eq_true_eq, if_true, if_false, ite_true, ite_false, eq_self, Bool.false_eq_true, i1, i2]
      exact ⟨by rfl, .refl⟩
    obtain ⟨rfl, k20⟩ := q
    rw [stepB_map]
    have k21 := k20.trans (.push (o := .lst ((gp l).map .int)))
    have hg := at_push (S := S20) (o := .lst ((gp l).map .int))
    have hl21 := k21 _ _ trivial hl1
    have D21 := D19.kp k21
    generalize S20.length = a20 at hg ⊢
    generalize S20 ++ [SO.lst ((gp l).map .int)] = S21 at hg hl21 D21 ⊢
    have hs := at_push (S := S21) (o := .lst ((srtI (gp l)).map .int))
    have hl22 := (Kp.push (p := fun _ => True) (o := .lst ((srtI (gp l)).map .int))) _ _ trivial hl21
    have D22 := D21.kp (.push (o := .lst ((srtI (gp l)).map .int)))
    have hsl := srtI_len (gp l)
    have hgl := gp_len l
    simp only [ev_var, ev_cst, ev_bin, ev_neg, ev_cmp, ev_chain', ev_and, ev_or, ev_not, ev_ite, ev_tup, ev_lst, ev_ix, ev_sl, ev_call, ev_bt, ev_mt, ev_isi, ev_lc, ev_nil, ev_cons, ev_onone, ev_osome, ev_cnone, ev_csome, ev_ie, ev_rng, ev_enu, asT, ex_asg, ex_asgS, ex_par, ex_aug, ex_ite, ex_whl, ex_for, ex_expr, ex_ret, ex_retN, ex_pass, ex_brk, ex_cont, ex_never, ex_nil, ex_cons', W_ok, W_bind, fin_ret, fin_next, chK_bl, sq_next, sq_ret, sq_brk, sq_cont, bnd_ok, b_add, b_sub, i_add, i_sub, c_lt, c_le, c_gt, c_ge, c_eq, c_ne, c_eqs, c_nes, c_eqb, t_bl, t_int, t_non, p_int, f_int, as_n, as_t2, as_t3, setMany, getL, List.getElem?_cons_zero, List.getElem?_cons_succ, List.set_cons_zero, List.set_cons_succ, wipeL, tl0, tl1, tl2, tl3, tl4, tl5, tl6, Bool.not_true, Bool.not_false, decide_eq_true_eq, if_true, if_false, ite_true, ite_false, eq_self, Bool.false_eq_true, f_sorted hg]
    generalize S21.length = a21 at hs ⊢
    generalize S21 ++ [SO.lst ((srtI (gp l)).map .int)] = S22 at hs hl22 D22 ⊢
    simp only [ev_var, ev_cst, ev_bin, ev_neg, ev_cmp, ev_chain', ev_and, ev_or, ev_not, ev_ite, ev_tup, ev_lst, ev_ix, ev_sl, ev_call, ev_bt, ev_mt, ev_isi, ev_lc, ev_nil, ev_cons, ev_onone, ev_osome, ev_cnone, ev_csome, ev_ie, ev_rng, ev_enu, asT, ex_asg, ex_asgS, ex_par, ex_aug, ex_ite, ex_whl, ex_for, ex_expr, ex_ret, ex_retN, ex_pass, ex_brk, ex_cont, ex_never, ex_nil, ex_cons', W_ok, W_bind, fin_ret, fin_next, chK_bl, sq_next, sq_ret, sq_brk, sq_cont, bnd_ok, b_add, b_sub, i_add, i_sub, c_lt, c_le, c_gt, c_ge, c_eq, c_ne, c_eqs, c_nes, c_eqb, t_bl, t_int, t_non, p_int, f_int, as_n, as_t2, as_t3, setMany, getL, List.getElem?_cons_zero, List.getElem?_cons_succ, List.set_cons_zero, List.set_cons_succ, wipeL, tl0, tl1, tl2, tl3, tl4, tl5, tl6, Bool.not_true, Bool.not_false, decide_eq_true_eq, if_true, if_false, ite_true, ite_false, eq_self, Bool.false_eq_true, f_len (items_ref hs), List.length_map, f_int, b_mod (show (0 : Int) < 2 by decide), b_div (show (0 : Int) < 2 ∧ (2 : Int) < 1073741824 by omega)]
    have i1 : ixV (.ref a21) (.int (((srtI (gp l)).length : Int) / 2)) S22 = .ok (.int ((srtI (gp l)).getD ((gp l).length / 2) 0)) S22 := ix_at (items_ref hs) (by omega) (by
      have e := ns_at (ns := srtI (gp l)) (i := ((srtI (gp l)).length : Int) / 2) (by omega) (by omega)
      rw [show (((srtI (gp l)).length : Int) / 2).toNat = (gp l).length / 2 by omega] at e ⊢; exact e)
    refine W.mono (P := fun a S' => ∃ m0 m1 : Int, a = .tup [.int m0, .int m1] ∧ 2 * m0 = tm (gp l) * m1 ∧ 1 ≤ m1 ∧ m1 ≤ 2 ∧ S' = S22) ?_ fun a S23 q => ?_
    · by_cases hm : (gp l).length % 2 = 1
      · rw [if_pos (show ((srtI (gp l)).length : Int) % 2 = 1 by omega)]
        simp only [ev_var, ev_cst, ev_bin, ev_neg, ev_cmp, ev_chain', ev_and, ev_or, ev_not, ev_ite, ev_tup, ev_lst, ev_ix, ev_sl, ev_call, ev_bt, ev_mt, ev_isi, ev_lc, ev_nil, ev_cons, ev_onone, ev_osome, ev_cnone, ev_csome, ev_ie, ev_rng, ev_enu, asT, ex_asg, ex_asgS, ex_par, ex_aug, ex_ite, ex_whl, ex_for, ex_expr, ex_ret, ex_retN, ex_pass, ex_brk, ex_cont, ex_never, ex_nil, ex_cons', W_ok, W_bind, fin_ret, fin_next, chK_bl, sq_next, sq_ret, sq_brk, sq_cont, bnd_ok, b_add, b_sub, i_add, i_sub, c_lt, c_le, c_gt, c_ge, c_eq, c_ne, c_eqs, c_nes, c_eqb, t_bl, t_int, t_non, p_int, f_int, as_n, as_t2, as_t3, setMany, getL, List.getElem?_cons_zero, List.getElem?_cons_succ, List.set_cons_zero, List.set_cons_succ, wipeL, tl0, tl1, tl2, tl3, tl4, tl5, tl6, Bool.not_true, Bool.not_false, decide_eq_true_eq, if_true, if_false, ite_true, ite_false, eq_self, Bool.false_eq_true, i1]
        refine ⟨_, _, rfl, ?_, by decide, by decide, trivial⟩
        unfold tm
        rw [if_pos hm, Int.mul_one]
      · rw [if_neg (show ¬((srtI (gp l)).length : Int) % 2 = 1 by omega)]
        have i2 : ixV (.ref a21) (.int (((srtI (gp l)).length : Int) / 2 - 1)) S22 = .ok (.int ((srtI (gp l)).getD ((gp l).length / 2 - 1) 0)) S22 := ix_at (items_ref hs) (by omega) (by
          have e := ns_at (ns := srtI (gp l)) (i := ((srtI (gp l)).length : Int) / 2 - 1) (by omega) (by omega)
          rw [show (((srtI (gp l)).length : Int) / 2 - 1).toNat = (gp l).length / 2 - 1 by omega] at e ⊢; exact e)
        simp only [ev_var, ev_cst, ev_bin, ev_neg, ev_cmp, ev_chain', ev_and, ev_or, ev_not, ev_ite, ev_tup, ev_lst, ev_ix, ev_sl, ev_call, ev_bt, ev_mt, ev_isi, ev_lc, ev_nil, ev_cons, ev_onone, ev_osome, ev_cnone, ev_csome, ev_ie, ev_rng, ev_enu, asT, ex_asg, ex_asgS, ex_par, ex_aug, ex_ite, ex_whl, ex_for, ex_expr, ex_ret, ex_retN, ex_pass, ex_brk, ex_cont, ex_never, ex_nil, ex_cons', W_ok, W_bind, fin_ret, fin_next, chK_bl, sq_next, sq_ret, sq_brk, sq_cont, bnd_ok, b_add, b_sub, i_add, i_sub, c_lt, c_le, c_gt, c_ge, c_eq, c_ne, c_eqs, c_nes, c_eqb, t_bl, t_int, t_non, p_int, f_int, as_n, as_t2, as_t3, setMany, getL, List.getElem?_cons_zero, List.getElem?_cons_succ, List.set_cons_zero, List.set_cons_succ, wipeL, tl0, tl1, tl2, tl3, tl4, tl5, tl6, Bool.not_true, Bool.not_false, decide_eq_true_eq, if_true, if_false, ite_true, ite_false, eq_self, Bool.false_eq_true, i1, i2, law_q_eq (k := 97) (n := (srtI (gp l)).getD ((gp l).length / 2 - 1) 0 + (srtI (gp l)).getD ((gp l).length / 2) 0) F__law_q F__law_gcd (show (0 : Int) < 2 by decide) (show (2 : Int) < 4000 by decide)]
        refine ⟨_, _, rfl, ?_, (gI_two _).2.1, (gI_two _).2.2, trivial⟩
        unfold tm
        rw [if_neg hm]
        exact half_q _
    obtain ⟨m0, m1, rfl, hmid, hm1, hm2, rfl⟩ := q
    have el : (l.map PV.int)[(l.map PV.int).length - 1]? = some (.int (lastI l)) := by
      have e := ns_at (ns := l) (i := (l.length : Int) - 1) (by omega) (by omega)
      rw [show ((l.length : Int) - 1).toNat = l.length - 1 by omega] at e
      rw [List.length_map]
      exact e
    have lm : lastI l ∈ l := by
      unfold lastI
      rw [List.getD_eq_getElem?_getD, List.getElem?_eq_getElem (show l.length - 1 < l.length by omega)]
      exact List.getElem_mem _
    have hbl := hb _ lm
    simp only [ev_var, ev_cst, ev_bin, ev_neg, ev_cmp, ev_chain', ev_and, ev_or, ev_not, ev_ite, ev_tup, ev_lst, ev_ix, ev_sl, ev_call, ev_bt, ev_mt, ev_isi, ev_lc, ev_nil, ev_cons, ev_onone, ev_osome, ev_cnone, ev_csome, ev_ie, ev_rng, ev_enu, asT, ex_asg, ex_asgS, ex_par, ex_aug, ex_ite, ex_whl, ex_for, ex_expr, ex_ret, ex_retN, ex_pass, ex_brk, ex_cont, ex_never, ex_nil, ex_cons', W_ok, W_bind, fin_ret, fin_next, chK_bl, sq_next, sq_ret, sq_brk, sq_cont, bnd_ok, b_add, b_sub, i_add, i_sub, c_lt, c_le, c_gt, c_ge, c_eq, c_ne, c_eqs, c_nes, c_eqb, t_bl, t_int, t_non, p_int, f_int, as_n, as_t2, as_t3, setMany, getL, List.getElem?_cons_zero, List.getElem?_cons_succ, List.set_cons_zero, List.set_cons_succ, wipeL, tl0, tl1, tl2, tl3, tl4, tl5, tl6, Bool.not_true, Bool.not_false, decide_eq_true_eq, if_true, if_false, ite_true, ite_false, eq_self, Bool.false_eq_true, n_neg, ix_lastP (items_ref hl22) el]
    refine (take_ok F__law_take F__law_draw D22 (show (0 : Int) < 90 by decide)).mono fun v S24 q => ?_
    obtain ⟨d1, rfl, hd10, hd11, D24, k24⟩ := q
    have hl24 := k24 _ _ hne2 hl22
    try simp only [ev_var, ev_cst, ev_bin, ev_neg, ev_cmp, ev_chain', ev_and, ev_or, ev_not, ev_ite, ev_tup, ev_lst, ev_ix, ev_sl, ev_call, ev_bt, ev_mt, ev_isi, ev_lc, ev_nil, ev_cons, ev_onone, ev_osome, ev_cnone, ev_csome, ev_ie, ev_rng, ev_enu, asT, ex_asg, ex_asgS, ex_par, ex_aug, ex_ite, ex_whl, ex_for, ex_expr, ex_ret, ex_retN, ex_pass, ex_brk, ex_cont, ex_never, ex_nil, ex_cons', W_ok, W_bind, fin_ret, fin_next, chK_bl, sq_next, sq_ret, sq_brk, sq_cont, bnd_ok, b_add, b_sub, i_add, i_sub, c_lt, c_le, c_gt, c_ge, c_eq, c_ne, c_eqs, c_nes, c_eqb, t_bl, t_int, t_non, p_int, f_int, as_n, as_t2, as_t3, setMany, getL, List.getElem?_cons_zero, List.getElem?_cons_succ, List.set_cons_zero, List.set_cons_succ, wipeL, tl0, tl1, tl2, tl3, tl4, tl5, tl6, Bool.not_true, Bool.not_false, decide_eq_true_eq, if_true, if_false, ite_true, ite_false, eq_self, Bool.false_eq_true]
    refine (take_ok F__law_take F__law_draw D24 (show (0 : Int) < 9 by decide)).mono fun v S25 q => ?_
    obtain ⟨d2, rfl, hd20, hd21, D25, k25⟩ := q
    have hl25 := k25 _ _ hne2 hl24
    have g2 := gI_two (1 + d2)
    have gn : 0 < (1 + d2) / gI (1 + d2) 2 ∧ (1 + d2) / gI (1 + d2) 2 ≤ 20 := by
      have hp : 0 < gI (1 + d2) 2 := gI_pos (by decide)
      have hl : gI (1 + d2) 2 ≤ 2 := gI_le (by decide)
      have hdv := Int.ediv_mul_cancel (gI_dl (1 + d2) 2)
      rcases (show gI (1 + d2) 2 = 1 ∨ gI (1 + d2) 2 = 2 by omega) with h | h <;> rw [h] at hdv ⊢ <;> omega
    simp only [ev_var, ev_cst, ev_bin, ev_neg, ev_cmp, ev_chain', ev_and, ev_or, ev_not, ev_ite, ev_tup, ev_lst, ev_ix, ev_sl, ev_call, ev_bt, ev_mt, ev_isi, ev_lc, ev_nil, ev_cons, ev_onone, ev_osome, ev_cnone, ev_csome, ev_ie, ev_rng, ev_enu, asT, ex_asg, ex_asgS, ex_par, ex_aug, ex_ite, ex_whl, ex_for, ex_expr, ex_ret, ex_retN, ex_pass, ex_brk, ex_cont, ex_never, ex_nil, ex_cons', W_ok, W_bind, fin_ret, fin_next, chK_bl, sq_next, sq_ret, sq_brk, sq_cont, bnd_ok, b_add, b_sub, i_add, i_sub, c_lt, c_le, c_gt, c_ge, c_eq, c_ne, c_eqs, c_nes, c_eqb, t_bl, t_int, t_non, p_int, f_int, as_n, as_t2, as_t3, setMany, getL, List.getElem?_cons_zero, List.getElem?_cons_succ, List.set_cons_zero, List.set_cons_succ, wipeL, tl0, tl1, tl2, tl3, tl4, tl5, tl6, Bool.not_true, Bool.not_false, decide_eq_true_eq, if_true, if_false, ite_true, ite_false, eq_self, Bool.false_eq_true, law_q_eq (k := 97) (n := 1 + d2) F__law_q F__law_gcd (show (0 : Int) < 2 by decide) (show (2 : Int) < 4000 by decide)]
    generalize (1 + d2) / gI (1 + d2) 2 = n0 at g2 gn ⊢
    generalize 2 / gI (1 + d2) 2 = dd at g2 ⊢
    simp only [ev_var, ev_cst, ev_bin, ev_neg, ev_cmp, ev_chain', ev_and, ev_or, ev_not, ev_ite, ev_tup, ev_lst, ev_ix, ev_sl, ev_call, ev_bt, ev_mt, ev_isi, ev_lc, ev_nil, ev_cons, ev_onone, ev_osome, ev_cnone, ev_csome, ev_ie, ev_rng, ev_enu, asT, ex_asg, ex_asgS, ex_par, ex_aug, ex_ite, ex_whl, ex_for, ex_expr, ex_ret, ex_retN, ex_pass, ex_brk, ex_cont, ex_never, ex_nil, ex_cons', W_ok, W_bind, fin_ret, fin_next, chK_bl, sq_next, sq_ret, sq_brk, sq_cont, bnd_ok, b_add, b_sub, i_add, i_sub, c_lt, c_le, c_gt, c_ge, c_eq, c_ne, c_eqs, c_nes, c_eqb, t_bl, t_int, t_non, p_int, f_int, as_n, as_t2, as_t3, setMany, getL, List.getElem?_cons_zero, List.getElem?_cons_succ, List.set_cons_zero, List.set_cons_succ, wipeL, tl0, tl1, tl2, tl3, tl4, tl5, tl6, Bool.not_true, Bool.not_false, decide_eq_true_eq, if_true, if_false, ite_true, ite_false, eq_self, Bool.false_eq_true, f_tuple (items_ref hl25)]
    refine (handed_flat F__law_handed F__law_take F__law_draw F__law_listed D25 (scal_ints' l) (by rw [List.length_map]; unfold lim; omega)).mono fun x S26 q => ?_
    obtain ⟨hx26, hn26, D26, k26⟩ := q
    have hl26 := k26 _ _ hne2 hl25
    try simp only [ev_var, ev_cst, ev_bin, ev_neg, ev_cmp, ev_chain', ev_and, ev_or, ev_not, ev_ite, ev_tup, ev_lst, ev_ix, ev_sl, ev_call, ev_bt, ev_mt, ev_isi, ev_lc, ev_nil, ev_cons, ev_onone, ev_osome, ev_cnone, ev_csome, ev_ie, ev_rng, ev_enu, asT, ex_asg, ex_asgS, ex_par, ex_aug, ex_ite, ex_whl, ex_for, ex_expr, ex_ret, ex_retN, ex_pass, ex_brk, ex_cont, ex_never, ex_nil, ex_cons', W_ok, W_bind, fin_ret, fin_next, chK_bl, sq_next, sq_ret, sq_brk, sq_cont, bnd_ok, b_add, b_sub, i_add, i_sub, c_lt, c_le, c_gt, c_ge, c_eq, c_ne, c_eqs, c_nes, c_eqb, t_bl, t_int, t_non, p_int, f_int, as_n, as_t2, as_t3, setMany, getL, List.getElem?_cons_zero, List.getElem?_cons_succ, List.set_cons_zero, List.set_cons_succ, wipeL, tl0, tl1, tl2, tl3, tl4, tl5, tl6, Bool.not_true, Bool.not_false, decide_eq_true_eq, if_true, if_false, ite_true, ite_false, eq_self, Bool.false_eq_true]
    refine (given_ok (k := 96) D26 g2.1 g2.2).mono fun t S27 q => ?_
    obtain ⟨ht, D27, k27⟩ := q
    have hx27 := items_kp k27 hn26 hx26
    have hl27 := k27 _ _ hne2 hl26
    try simp only [ev_var, ev_cst, ev_bin, ev_neg, ev_cmp, ev_chain', ev_and, ev_or, ev_not, ev_ite, ev_tup, ev_lst, ev_ix, ev_sl, ev_call, ev_bt, ev_mt, ev_isi, ev_lc, ev_nil, ev_cons, ev_onone, ev_osome, ev_cnone, ev_csome, ev_ie, ev_rng, ev_enu, asT, ex_asg, ex_asgS, ex_par, ex_aug, ex_ite, ex_whl, ex_for, ex_expr, ex_ret, ex_retN, ex_pass, ex_brk, ex_cont, ex_never, ex_nil, ex_cons', W_ok, W_bind, fin_ret, fin_next, chK_bl, sq_next, sq_ret, sq_brk, sq_cont, bnd_ok, b_add, b_sub, i_add, i_sub, c_lt, c_le, c_gt, c_ge, c_eq, c_ne, c_eqs, c_nes, c_eqb, t_bl, t_int, t_non, p_int, f_int, as_n, as_t2, as_t3, setMany, getL, List.getElem?_cons_zero, List.getElem?_cons_succ, List.set_cons_zero, List.set_cons_succ, wipeL, tl0, tl1, tl2, tl3, tl4, tl5, tl6, Bool.not_true, Bool.not_false, decide_eq_true_eq, if_true, if_false, ite_true, ite_false, eq_self, Bool.false_eq_true]
    refine (silent_ok (k := 94) hx27 hp (by omega) (fun n hn => by have := hb n hn; omega) (show lastI l ≤ lastI l + d1 ∧ lastI l + d1 ≤ 10000000000 by omega) ht (by omega) (by omega)).mono fun v S28 q => ?_
    obtain ⟨rfl, k28⟩ := q
    have hl28 := k28 _ _ trivial hl27
    have bmd : 0 < m1 * dd ∧ m1 * dd < 4000 := by
      rcases (show m1 = 1 ∨ m1 = 2 by omega) with rfl | rfl <;> omega
    have bq : -18446744073709551616 < m1 * dd / gI (m0 * n0) (m1 * dd) ∧ m1 * dd / gI (m0 * n0) (m1 * dd) < 18446744073709551616 := by
      have hp : 0 < gI (m0 * n0) (m1 * dd) := gI_pos bmd.1
      have h1 := Int.ediv_nonneg (Int.le_of_lt bmd.1) (Int.le_of_lt hp)
      have h2 := Int.ediv_le_self (gI (m0 * n0) (m1 * dd)) (Int.le_of_lt bmd.1)
      omega
    simp only [ev_var, ev_cst, ev_bin, ev_neg, ev_cmp, ev_chain', ev_and, ev_or, ev_not, ev_ite, ev_tup, ev_lst, ev_ix, ev_sl, ev_call, ev_bt, ev_mt, ev_isi, ev_lc, ev_nil, ev_cons, ev_onone, ev_osome, ev_cnone, ev_csome, ev_ie, ev_rng, ev_enu, asT, ex_asg, ex_asgS, ex_par, ex_aug, ex_ite, ex_whl, ex_for, ex_expr, ex_ret, ex_retN, ex_pass, ex_brk, ex_cont, ex_never, ex_nil, ex_cons', W_ok, W_bind, fin_ret, fin_next, chK_bl, sq_next, sq_ret, sq_brk, sq_cont, bnd_ok, b_add, b_sub, i_add, i_sub, c_lt, c_le, c_gt, c_ge, c_eq, c_ne, c_eqs, c_nes, c_eqb, t_bl, t_int, t_non, p_int, f_int, as_n, as_t2, as_t3, setMany, getL, List.getElem?_cons_zero, List.getElem?_cons_succ, List.set_cons_zero, List.set_cons_succ, wipeL, tl0, tl1, tl2, tl3, tl4, tl5, tl6, Bool.not_true, Bool.not_false, decide_eq_true_eq, if_true, if_false, ite_true, ite_false, eq_self, Bool.false_eq_true, n_neg, ix_lastP (items_ref hl28) el, mulq_eq (k := 96) (a := m0) (b := m1) (c := n0) (d := dd) bmd (show (-18446744073709551616 : Int) < n0 ∧ n0 < 18446744073709551616 by omega) (show (-18446744073709551616 : Int) < dd ∧ dd < 18446744073709551616 by omega), cmp_eq (k := 98) (a := lastI l + d1 - lastI l) (b := 1) (c := m0 * n0 / gI (m0 * n0) (m1 * dd)) (show (-18446744073709551616 : Int) < 1 ∧ (1 : Int) < 18446744073709551616 by decide) bq]
    have fin_ : decide (n0 * tm (gp l) < (lastI l + d1 - lastI l) * 2 * dd) = decide (0 < (if 0 < (lastI l + d1 - lastI l) * (m1 * dd / gI (m0 * n0) (m1 * dd)) - (m0 * n0 / gI (m0 * n0) (m1 * dd)) * 1 then (1 : Int) else if (lastI l + d1 - lastI l) * (m1 * dd / gI (m0 * n0) (m1 * dd)) - (m0 * n0 / gI (m0 * n0) (m1 * dd)) * 1 < 0 then -1 else 0)) := by
      have := mid_law (X := lastI l + d1 - lastI l) (n := n0) hmid (by omega) (d := dd) (by omega)
      by_cases h : 0 < (lastI l + d1 - lastI l) * (m1 * dd / gI (m0 * n0) (m1 * dd)) - (m0 * n0 / gI (m0 * n0) (m1 * dd)) * 1
      · rw [if_pos h, decide_eq_true (this.mp h)]; rfl
      · rw [if_neg h, decide_eq_false (fun z => h (this.mpr z))]
        split <;> rfl
    rw [fin_]
    simp only [ev_var, ev_cst, ev_bin, ev_neg, ev_cmp, ev_chain', ev_and, ev_or, ev_not, ev_ite, ev_tup, ev_lst, ev_ix, ev_sl, ev_call, ev_bt, ev_mt, ev_isi, ev_lc, ev_nil, ev_cons, ev_onone, ev_osome, ev_cnone, ev_csome, ev_ie, ev_rng, ev_enu, asT, ex_asg, ex_asgS, ex_par, ex_aug, ex_ite, ex_whl, ex_for, ex_expr, ex_ret, ex_retN, ex_pass, ex_brk, ex_cont, ex_never, ex_nil, ex_cons', W_ok, W_bind, fin_ret, fin_next, chK_bl, sq_next, sq_ret, sq_brk, sq_cont, bnd_ok, b_add, b_sub, i_add, i_sub, c_lt, c_le, c_gt, c_ge, c_eq, c_ne, c_eqs, c_nes, c_eqb, t_bl, t_int, t_non, p_int, f_int, as_n, as_t2, as_t3, setMany, getL, List.getElem?_cons_zero, List.getElem?_cons_succ, List.set_cons_zero, List.set_cons_succ, wipeL, tl0, tl1, tl2, tl3, tl4, tl5, tl6, Bool.not_true, Bool.not_false, decide_eq_true_eq, if_true, if_false, ite_true, ite_false, eq_self, Bool.false_eq_true, so_scal (k := 98) F__law_so (.bl (decide (0 < (if 0 < (lastI l + d1 - lastI l) * (m1 * dd / gI (m0 * n0) (m1 * dd)) - (m0 * n0 / gI (m0 * n0) (m1 * dd)) * 1 then (1 : Int) else if (lastI l + d1 - lastI l) * (m1 * dd / gI (m0 * n0) (m1 * dd)) - (m0 * n0 / gI (m0 * n0) (m1 * dd)) * 1 < 0 then -1 else 0)))) rfl]
  obtain ⟨a, S', e, rfl⟩ := key.get
  exact ⟨S', e⟩
end
end Kk12

open PySem PySem.W PyProof.Rows L2 Mp
set_option maxHeartbeats 0 in
theorem PySem.Challenge.cw_tidings_k12_asking_whole_waits_holds : PySem.Challenge.rw_tidings_k12_asking_whole_waits.Holds := by
  w_on; o_law; k_head; (case hw => w_witness2)
  k_fill
  refine Mp.law_end (l := PySem.Challenge.rw_tidings_k12_asking_whole_waits) (ds := Kk12.ds) (G := Kk12.G) (n := 60) (fu := 1000) (k := 100) (iL := 35) (dL := Kk12.d_law) rfl rfl (fun w h Y => PySem.W.kIn_of Y) rfl rfl rfl Kk12.room ?T (fun kV doc pm an cdv ct u => Kk12.b_law kV doc pm an cdv ct [u] rfl) Kk12.pure_
  intro w mg h KX G
  refine ⟨?fun_, ?scope, ?body, ?names, ?cts, ?bts, ?gcd⟩
  case fun_ =>
    intro i d hd
    match i, hd with
    | 0, hd => (cases hd; apply mk_fun (st := Kk12.st_demand) (hb := Kk12.b_demand) (hk := Kk12.k_demand) KX G; (case a => k_is); (case l => k_is); (case c => k_is); (case k => k_is))
    | 1, hd => (cases hd; apply mk_fun (st := Kk12.st_is_integer) (hb := Kk12.b_is_integer) (hk := Kk12.k_is_integer) KX G; (case a => k_is); (case l => k_is); (case c => k_is); (case k => k_is))
    | 2, hd => (cases hd; apply mk_fun (st := Kk12.st_is_within) (hb := Kk12.b_is_within) (hk := Kk12.k_is_within) KX G; (case a => k_is); (case l => k_is); (case c => k_is); (case k => k_is))
    | 3, hd => (cases hd; apply mk_fun (st := Kk12.st_is_sequence) (hb := Kk12.b_is_sequence) (hk := Kk12.k_is_sequence) KX G; (case a => k_is); (case l => k_is); (case c => k_is); (case k => k_is))
    | 4, hd => (cases hd; apply mk_fun (st := Kk12.st_is_row) (hb := Kk12.b_is_row) (hk := Kk12.k_is_row) KX G; (case a => k_is); (case l => k_is); (case c => k_is); (case k => k_is))
    | 5, hd => (cases hd; apply mk_fun (st := Kk12.st_is_second) (hb := Kk12.b_is_second) (hk := Kk12.k_is_second) KX G; (case a => k_is); (case l => k_is); (case c => k_is); (case k => k_is))
    | 6, hd => (cases hd; apply mk_fun (st := Kk12.st_is_number) (hb := Kk12.b_is_number) (hk := Kk12.k_is_number) KX G; (case a => k_is); (case l => k_is); (case c => k_is); (case k => k_is))
    | 7, hd => (cases hd; apply mk_fun (st := Kk12.st_are_rising) (hb := Kk12.b_are_rising) (hk := Kk12.k_are_rising) KX G; (case a => k_is); (case l => k_is); (case c => k_is); (case k => k_is))
    | 8, hd => (cases hd; apply mk_fun (st := Kk12.st_lowest) (hb := Kk12.b_lowest) (hk := Kk12.k_lowest) KX G; (case a => k_is); (case l => k_is); (case c => k_is); (case k => k_is))
    | 9, hd => (cases hd; apply mk_fun (st := Kk12.st_number_of) (hb := Kk12.b_number_of) (hk := Kk12.k_number_of) KX G; (case a => k_is); (case l => k_is); (case c => k_is); (case k => k_is))
    | 10, hd => (cases hd; apply mk_fun (st := Kk12.st_is_answer) (hb := Kk12.b_is_answer) (hk := Kk12.k_is_answer) KX G; (case a => k_is); (case l => k_is); (case c => k_is); (case k => k_is))
    | 11, hd => (cases hd; apply mk_fun (st := Kk12.st_are_answers) (hb := Kk12.b_are_answers) (hk := Kk12.k_are_answers) KX G; (case a => k_is); (case l => k_is); (case c => k_is); (case k => k_is))
    | 12, hd => (cases hd; apply mk_fun (st := Kk12.st_demand_answers) (hb := Kk12.b_demand_answers) (hk := Kk12.k_demand_answers) KX G; (case a => k_is); (case l => k_is); (case c => k_is); (case k => k_is))
    | 13, hd => (cases hd; apply mk_fun (st := Kk12.st_unchecked_waits) (hb := Kk12.b_unchecked_waits) (hk := Kk12.k_unchecked_waits) KX G; (case a => k_is); (case l => k_is); (case c => k_is); (case k => k_is))
    | 14, hd => (cases hd; apply mk_fun (st := Kk12.st_after) (hb := Kk12.b_after) (hk := Kk12.k_after) KX G; (case a => k_is); (case l => k_is); (case c => k_is); (case k => k_is))
    | 15, hd => (cases hd; apply mk_fun (st := Kk12.st_waits_of) (hb := Kk12.b_waits_of) (hk := Kk12.k_waits_of) KX G; (case a => k_is); (case l => k_is); (case c => k_is); (case k => k_is))
    | 16, hd => (cases hd; apply mk_fun (st := Kk12.st_health) (hb := Kk12.b_health) (hk := Kk12.k_health) KX G; (case a => k_is); (case l => k_is); (case c => k_is); (case k => k_is))
    | 17, hd => (cases hd; apply mk_fun (st := Kk12.st_are_seconds) (hb := Kk12.b_are_seconds) (hk := Kk12.k_are_seconds) KX G; (case a => k_is); (case l => k_is); (case c => k_is); (case k => k_is))
    | 18, hd => (cases hd; apply mk_fun (st := Kk12.st_twice_middle) (hb := Kk12.b_twice_middle) (hk := Kk12.k_twice_middle) KX G; (case a => k_is); (case l => k_is); (case c => k_is); (case k => k_is))
    | 19, hd => (cases hd; apply mk_fun (st := Kk12.st_silent) (hb := Kk12.b_silent) (hk := Kk12.k_silent) KX G; (case a => k_is); (case l => k_is); (case c => k_is); (case k => k_is))
    | 20, hd => (cases hd; apply mk_fun (st := Kk12.st__law_so) (hb := Kk12.b__law_so) (hk := Kk12.k__law_so) KX G; (case a => k_is); (case l => k_is); (case c => k_is); (case k => k_is))
    | 21, hd => (cases hd; apply mk_fun (st := Kk12.st__law_numbers) (hb := Kk12.b__law_numbers) (hk := Kk12.k__law_numbers) KX G; (case a => k_is); (case l => k_is); (case c => k_is); (case k => k_is))
    | 22, hd => (cases hd; apply mk_fun (st := Kk12.st__law_draw) (hb := Kk12.b__law_draw) (hk := Kk12.k__law_draw) KX G; (case a => k_is); (case l => k_is); (case c => k_is); (case k => k_is))
    | 23, hd => (cases hd; apply mk_fun (st := Kk12.st__law_take) (hb := Kk12.b__law_take) (hk := Kk12.k__law_take) KX G; (case a => k_is); (case l => k_is); (case c => k_is); (case k => k_is))
    | 24, hd => (cases hd; apply mk_fun (st := Kk12.st__law_listed) (hb := Kk12.b__law_listed) (hk := Kk12.k__law_listed) KX G; (case a => k_is); (case l => k_is); (case c => k_is); (case k => k_is))
    | 25, hd => (cases hd; apply mk_fun (st := Kk12.st__law_handed) (hb := Kk12.b__law_handed) (hk := Kk12.k__law_handed) KX G; (case a => k_is); (case l => k_is); (case c => k_is); (case k => k_is))
    | 26, hd => (cases hd; apply mk_fun (st := Kk12.st__law_pick) (hb := Kk12.b__law_pick) (hk := Kk12.k__law_pick) KX G; (case a => k_is); (case l => k_is); (case c => k_is); (case k => k_is))
    | 27, hd => (cases hd; apply mk_fun (st := Kk12.st__law_gcd) (hb := Kk12.b__law_gcd) (hk := Kk12.k__law_gcd) KX G; (case a => k_is); (case l => k_is); (case c => k_is); (case k => k_is))
    | 28, hd => (cases hd; apply mk_fun (st := Kk12.st__law_q) (hb := Kk12.b__law_q) (hk := Kk12.k__law_q) KX G; (case a => k_is); (case l => k_is); (case c => k_is); (case k => k_is))
    | 29, hd => (cases hd; apply mk_fun (st := Kk12.st__law_mulq) (hb := Kk12.b__law_mulq) (hk := Kk12.k__law_mulq) KX G; (case a => k_is); (case l => k_is); (case c => k_is); (case k => k_is))
    | 30, hd => (cases hd; apply mk_fun (st := Kk12.st__law_cmp) (hb := Kk12.b__law_cmp) (hk := Kk12.k__law_cmp) KX G; (case a => k_is); (case l => k_is); (case c => k_is); (case k => k_is))
    | 31, hd => (cases hd; apply mk_fun (st := Kk12.st__law_given) (hb := Kk12.b__law_given) (hk := Kk12.k__law_given) KX G; (case a => k_is); (case l => k_is); (case c => k_is); (case k => k_is))
    | 32, hd => (cases hd; apply mk_fun (st := Kk12.st__law_hand_rows) (hb := Kk12.b__law_hand_rows) (hk := Kk12.k__law_hand_rows) KX G; (case a => k_is); (case l => k_is); (case c => k_is); (case k => k_is))
    | 33, hd => (cases hd; apply mk_fun (st := Kk12.st__law_some_answers) (hb := Kk12.b__law_some_answers) (hk := Kk12.k__law_some_answers) KX G; (case a => k_is); (case l => k_is); (case c => k_is); (case k => k_is))
    | 34, hd => (cases hd; apply mk_fun (st := Kk12.st__law_waits) (hb := Kk12.b__law_waits) (hk := Kk12.k__law_waits) KX G; (case a => k_is); (case l => k_is); (case c => k_is); (case k => k_is))
    | 35, hd => (cases hd; apply mk_fun (st := Kk12.st_law) (hb := Kk12.b_law) (hk := Kk12.k_law) KX G; (case a => k_is); (case l => k_is); (case c => k_is); (case k => k_is))
    | n + 36, hd => simp at hd
  case scope =>
    intro d hd
    simp only [Kk12.ds, List.mem_cons, List.not_mem_nil, or_false] at hd
    rcases hd with rfl | rfl | rfl | rfl | rfl | rfl | rfl | rfl | rfl | rfl | rfl | rfl | rfl | rfl | rfl | rfl | rfl | rfl | rfl | rfl | rfl | rfl | rfl | rfl | rfl | rfl | rfl | rfl | rfl | rfl | rfl | rfl | rfl | rfl | rfl | rfl
    · exact Kk12.s_demand
    · exact Kk12.s_is_integer
    · exact Kk12.s_is_within
    · exact Kk12.s_is_sequence
    · exact Kk12.s_is_row
    · exact Kk12.s_is_second
    · exact Kk12.s_is_number
    · exact Kk12.s_are_rising
    · exact Kk12.s_lowest
    · exact Kk12.s_number_of
    · exact Kk12.s_is_answer
    · exact Kk12.s_are_answers
    · exact Kk12.s_demand_answers
    · exact Kk12.s_unchecked_waits
    · exact Kk12.s_after
    · exact Kk12.s_waits_of
    · exact Kk12.s_health
    · exact Kk12.s_are_seconds
    · exact Kk12.s_twice_middle
    · exact Kk12.s_silent
    · exact Kk12.s__law_so
    · exact Kk12.s__law_numbers
    · exact Kk12.s__law_draw
    · exact Kk12.s__law_take
    · exact Kk12.s__law_listed
    · exact Kk12.s__law_handed
    · exact Kk12.s__law_pick
    · exact Kk12.s__law_gcd
    · exact Kk12.s__law_q
    · exact Kk12.s__law_mulq
    · exact Kk12.s__law_cmp
    · exact Kk12.s__law_given
    · exact Kk12.s__law_hand_rows
    · exact Kk12.s__law_some_answers
    · exact Kk12.s__law_waits
    · exact Kk12.s_law
  case body =>
    intro d hd
    simp only [Kk12.ds, List.mem_cons, List.not_mem_nil, or_false] at hd
    rcases hd with rfl | rfl | rfl | rfl | rfl | rfl | rfl | rfl | rfl | rfl | rfl | rfl | rfl | rfl | rfl | rfl | rfl | rfl | rfl | rfl | rfl | rfl | rfl | rfl | rfl | rfl | rfl | rfl | rfl | rfl | rfl | rfl | rfl | rfl | rfl | rfl
    · exact Kk12.c_demand
    · exact Kk12.c_is_integer
    · exact Kk12.c_is_within
    · exact Kk12.c_is_sequence
    · exact Kk12.c_is_row
    · exact Kk12.c_is_second
    · exact Kk12.c_is_number
    · exact Kk12.c_are_rising
    · exact Kk12.c_lowest
    · exact Kk12.c_number_of
    · exact Kk12.c_is_answer
    · exact Kk12.c_are_answers
    · exact Kk12.c_demand_answers
    · exact Kk12.c_unchecked_waits
    · exact Kk12.c_after
    · exact Kk12.c_waits_of
    · exact Kk12.c_health
    · exact Kk12.c_are_seconds
    · exact Kk12.c_twice_middle
    · exact Kk12.c_silent
    · exact Kk12.c__law_so
    · exact Kk12.c__law_numbers
    · exact Kk12.c__law_draw
    · exact Kk12.c__law_take
    · exact Kk12.c__law_listed
    · exact Kk12.c__law_handed
    · exact Kk12.c__law_pick
    · exact Kk12.c__law_gcd
    · exact Kk12.c__law_q
    · exact Kk12.c__law_mulq
    · exact Kk12.c__law_cmp
    · exact Kk12.c__law_given
    · exact Kk12.c__law_hand_rows
    · exact Kk12.c__law_some_answers
    · exact Kk12.c__law_waits
    · exact Kk12.c_law
  case names =>
    intro x i ps hx
    exact Mp.names_ok (G := Kk12.G) (by decide +kernel) hx
  case cts =>
    intro x v hx
    have hx := Mp.lookup_mem hx
    simp only [Kk12.G, List.mem_cons, List.not_mem_nil, or_false, Prod.mk.injEq] at hx
    rcases hx with ⟨rfl, rfl⟩ | ⟨rfl, rfl⟩ | ⟨rfl, rfl⟩ | ⟨rfl, rfl⟩
    · apply Mp.ct_of KX G
      case a => k_is
      case c =>
        exact Mp.ctv_int
    · apply Mp.ct_of KX G
      case a => k_is
      case c =>
        exact Mp.ctv_int
    · apply Mp.ct_of KX G
      case a => k_is
      case c =>
        exact Mp.ctv_int
    · apply Mp.ct_of KX G
      case a => k_is
      case c =>
        apply Mp.ctv_tup
        case l => k_is
        case hs => decide +kernel
        case h =>
          refine Mp.ctvs_cons ?_ ?_
          · exact Mp.ctv_str
          refine Mp.ctvs_cons ?_ ?_
          · exact Mp.ctv_str
          refine Mp.ctvs_cons ?_ ?_
          · exact Mp.ctv_str
          refine Mp.ctvs_cons ?_ ?_
          · exact Mp.ctv_str
          exact Mp.ctvs_nil
  case bts =>
    intro x hx
    simp only [Kk12.G, List.contains_cons, List.contains_nil, Bool.or_false, Bool.or_eq_true, beq_iff_eq] at hx
    rcases hx with rfl | rfl | rfl | rfl | rfl | rfl | rfl | rfl | rfl | rfl | rfl | rfl
    · (refine PySem.W.mg_none_of KX G ?_; k_is)
    · (refine PySem.W.mg_none_of KX G ?_; k_is)
    · (refine PySem.W.mg_none_of KX G ?_; k_is)
    · (refine PySem.W.mg_none_of KX G ?_; k_is)
    · (refine PySem.W.mg_none_of KX G ?_; k_is)
    · (refine PySem.W.mg_none_of KX G ?_; k_is)
    · (refine PySem.W.mg_none_of KX G ?_; k_is)
    · (refine PySem.W.mg_none_of KX G ?_; k_is)
    · (refine PySem.W.mg_none_of KX G ?_; k_is)
    · (refine PySem.W.mg_none_of KX G ?_; k_is)
    · (refine PySem.W.mg_none_of KX G ?_; k_is)
    · (refine PySem.W.mg_none_of KX G ?_; k_is)
  case gcd =>
    intro h
    refine PySem.W.mg_of KX G ?_
    k_is
